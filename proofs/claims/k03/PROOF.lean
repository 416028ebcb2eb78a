import PyProof.Rows.All
import HandS.ForMost
import HandS.Exc
import HandS.Lambda
import HandS.Wide
import HandS.TupAny
import HandS.TupMul
import HandS.TupLe
import HandS.Style
import HandS.Deep
import KE.DataCmp
import HandS.IsInst
import HandS.Gcd
import HandS.RaiseMore
import PyProof.ReprRoads
import KE.KMathG
import HandS.Comp
import HandS.More
import HandS.Defaults
import HandS.CallSlots
import HandS.Iter
import HandS.Zip
import HandS.DictSub
import KE.SortData
import KE.KDictSum
import KE.KDictCopyH
import HandS.ExcInit
import HandS.ExcSuper
import KE.KExcSuper
import HandS.TryMany
import HandS.ExcField
import HandS.ExcOwn
import HandS.EndTab
import HandS.HeadWalk
import HandS.HeadHook4
import HandS.Head3
import KE.KExcIs
import HandS.ExcIs
import PyProof.FitsInt
import PyProof.ReprLen
import HandS.Head0
import HandS.Head1
import HandS.Head2
import PySem.Challenge.RW_allislands_k03_whole_directions_in_order
set_option Elab.async false
set_option linter.all false
set_option maxRecDepth 100000
set_option maxHeartbeats 4000000
namespace Mp
open PySem PySem.Spec PyProof.Rows L2

/-- plain data; kup: a tuple that the module's top has made; scr: the script -/
inductive D where
  | non | bl (b : Bool) | int (i : Int) | str (x : Str) | tup (xs : List D) | lst (xs : List D) | kup (xs : List D) | scr (ns : List Int)
/-- a value: plain data, or the n-th mutable object of the memory -/
inductive U where
  | p (d : D) | loc (n : Nat)
/-- mutable objects -/
inductive Ob where
  | lst (xs : List D)
  | dic (kvs : List (Key × U))
  | dtu (kvs : List (List Key × D))
abbrev Mem := List Ob
structure Ex where
  cls : Str
  fields : List (Str × D)
inductive Res (α : Type) where
  | ok (a : α) (M : Mem)
  | exc (e : Ex) (M : Mem)
  | stuck
abbrev Env := List (Option U)

/-- a tuple, a list that nobody changes: tracked and not among the mutable ones -/
def TrT (bad : List Addr) (H : Hp) (a : Addr) (vs : List V) : Prop := vs.length ≤ sizeLine ∧ H a = some (.tup vs) ∧ a ∉ bad
def TrL (bad : List Addr) (H : Hp) (a : Addr) (vs : List V) : Prop := vs.length ≤ sizeLine ∧ H a = some (.lst vs) ∧ a ∉ bad
/-- the script -/
def TrS (K : PySem.W.Frag) (bad : List Addr) (H : Hp) (a : Addr) (vs : List V) : Prop := vs.length ≤ sizeLine ∧ ((Rd H a (.lst vs) ∧ a ∉ bad) ∨ ∀ H', SqL K H' a vs)

mutual
inductive RV (K : PySem.W.Frag) (bad : List Addr) (H : Hp) : D → V → Prop
  | non : RV K bad H .non .non
  | bl (b : Bool) : RV K bad H (.bl b) (.bl b)
  | int (i : Int) : RV K bad H (.int i) (.int i)
  | str (x : Str) : RV K bad H (.str x) (.str x)
  | tup {ds : List D} {a : Addr} {vs : List V} : TrT bad H a vs → RVs K bad H ds vs → RV K bad H (.tup ds) (.ref a)
  | lst {ds : List D} {a : Addr} {vs : List V} : TrL bad H a vs → RVs K bad H ds vs → RV K bad H (.lst ds) (.ref a)
  | kup {ds : List D} {a : Addr} {vs : List V} : vs.length ≤ sizeLine → (∀ H', SqT K H' a vs) → RVs K bad H ds vs → RV K bad H (.kup ds) (.ref a)
  | scr {ns : List Int} {a : Addr} : TrS K bad H a (ns.map V.int) → RV K bad H (.scr ns) (.ref a)
inductive RVs (K : PySem.W.Frag) (bad : List Addr) (H : Hp) : List D → List V → Prop
  | nil : RVs K bad H [] []
  | cons {d : D} {ds : List D} {v : V} {vs : List V} : RV K bad H d v → RVs K bad H ds vs → RVs K bad H (d :: ds) (v :: vs)
end

/-- something stands there, and no table of code -/
def NT (H : Hp) (b : Addr) : Prop := ∃ o, H b = some o ∧ ∀ ps, o ≠ .tbl ps
/-- the heap grows from H to H': what is tracked and not mutable stays -/
structure Gr (μ : List Addr) (H H' : Hp) (ν : List Addr) : Prop where
  new : ∀ b ∈ ν, ¬ NT H b
  nd : ν.Nodup
  keep : ∀ b o, H b = some o → (∀ ps, o ≠ .tbl ps) → b ∉ μ → H' b = some o
  dom : ∀ b, NT H b → NT H' b

theorem Gr.refl (μ : List Addr) (H : Hp) : Gr μ H H [] := ⟨fun _ h => (nomatch h), .nil, fun _ _ h _ _ => h, fun _ h => h⟩
theorem Gr.trans {μ ν ν' : List Addr} {H H1 H2 : Hp} (a : Gr μ H H1 ν) (b : Gr (μ ++ ν) H1 H2 ν') (hν : ∀ b ∈ ν, NT H1 b) : Gr μ H H2 (ν ++ ν') := by
  refine ⟨fun c hc => ?_, ?_, fun c o h1 h2 h3 => ?_, fun c h => b.dom c (a.dom c h)⟩
  · rcases List.mem_append.mp hc with h | h
    · exact a.new c h
    · exact fun hc => b.new c h (a.dom c hc)
  · refine List.nodup_append.mpr ⟨a.nd, b.nd, fun x hx y hy e => ?_⟩
    subst e
    exact b.new x hy (hν x hx)
  · refine b.keep c o (a.keep c o h1 h2 h3) h2 fun hm => ?_
    rcases List.mem_append.mp hm with h | h
    · exact h3 h
    · exact a.new c h ⟨o, h1, h2⟩

theorem Rd.gr {μ ν : List Addr} {H H' : Hp} {a : Addr} {u : HO} (g : Gr μ H H' ν) (hu : ∀ ps, u ≠ .tbl ps) (ha : a ∉ μ) (r : Rd H a u) : Rd H' a u := by
  rcases r with r | ⟨o, r⟩
  · exact .inl (g.keep a u r hu ha)
  · exact .inr ⟨o, g.keep a _ r (fun _ z => by cases z) ha⟩
theorem Rd.some {H : Hp} {a : Addr} {vs : List V} (r : Rd H a (.lst vs)) : NT H a := by
  rcases r with r | ⟨o, r⟩ <;> exact ⟨_, r, fun _ z => by cases z⟩
theorem NT.no {H : Hp} {a : Addr} (h : NT H a) (e : H a = none) : False := by
  obtain ⟨o, e1, _⟩ := h
  rw [e] at e1
  cases e1
theorem NT.of {H : Hp} {a : Addr} {o : HO} (e : H a = some o) (h : ∀ ps, o ≠ .tbl ps) : NT H a := ⟨o, e, h⟩

theorem TrT.gr {bad μ ν : List Addr} {H H' : Hp} {a : Addr} {vs : List V} (g : Gr μ H H' ν) (hb : ∀ b ∈ μ, b ∈ bad) (t : TrT bad H a vs) : TrT (bad ++ ν) H' a vs :=
  ⟨t.1, g.keep a _ t.2.1 (fun _ z => by cases z) fun z => t.2.2 (hb a z), fun z => (List.mem_append.mp z).elim t.2.2 fun z => g.new a z ⟨_, t.2.1, fun _ z => by cases z⟩⟩
theorem TrL.gr {bad μ ν : List Addr} {H H' : Hp} {a : Addr} {vs : List V} (g : Gr μ H H' ν) (hb : ∀ b ∈ μ, b ∈ bad) (t : TrL bad H a vs) : TrL (bad ++ ν) H' a vs :=
  ⟨t.1, g.keep a _ t.2.1 (fun _ z => by cases z) fun z => t.2.2 (hb a z), fun z => (List.mem_append.mp z).elim t.2.2 fun z => g.new a z ⟨_, t.2.1, fun _ z => by cases z⟩⟩
theorem TrS.gr {K : PySem.W.Frag} {bad μ ν : List Addr} {H H' : Hp} {a : Addr} {vs : List V} (g : Gr μ H H' ν) (hb : ∀ b ∈ μ, b ∈ bad) (t : TrS K bad H a vs) : TrS K (bad ++ ν) H' a vs :=
  ⟨t.1, t.2.imp (fun t => ⟨Rd.gr g (fun _ z => by cases z) (fun z => t.2 (hb a z)) t.1, fun z => (List.mem_append.mp z).elim t.2 fun z => g.new a z (Rd.some t.1)⟩) id⟩
theorem TrT.sq {K : PySem.W.Frag} {bad : List Addr} {H : Hp} {a : Addr} {vs : List V} (t : TrT bad H a vs) : SqT K H a vs := .of t.2.1
theorem TrL.sq {K : PySem.W.Frag} {bad : List Addr} {H : Hp} {a : Addr} {vs : List V} (t : TrL bad H a vs) : SqL K H a vs := .of t.2.1
theorem TrS.sq {K : PySem.W.Frag} {bad : List Addr} {H : Hp} {a : Addr} {vs : List V} (t : TrS K bad H a vs) : SqL K H a vs := t.2.elim (fun t => .inl t.1) fun t => t H

mutual
theorem RV.gr {K : PySem.W.Frag} {bad μ ν : List Addr} {H H' : Hp} (g : Gr μ H H' ν) (hb : ∀ b ∈ μ, b ∈ bad) : ∀ {d : D} {v : V}, RV K bad H d v → RV K (bad ++ ν) H' d v
  | _, _, .non => .non
  | _, _, .bl b => .bl b
  | _, _, .int i => .int i
  | _, _, .str x => .str x
  | _, _, .tup t r => .tup (t.gr g hb) (RVs.gr g hb r)
  | _, _, .lst t r => .lst (t.gr g hb) (RVs.gr g hb r)
  | _, _, .kup z k r => .kup z k (RVs.gr g hb r)
  | _, _, .scr t => .scr (t.gr g hb)
theorem RVs.gr {K : PySem.W.Frag} {bad μ ν : List Addr} {H H' : Hp} (g : Gr μ H H' ν) (hb : ∀ b ∈ μ, b ∈ bad) : ∀ {ds : List D} {vs : List V}, RVs K bad H ds vs → RVs K (bad ++ ν) H' ds vs
  | _, _, .nil => .nil
  | _, _, .cons r t => .cons (RV.gr g hb r) (RVs.gr g hb t)
end

mutual
/-- one more address is kept away: it wasn't tracked -/
theorem RV.away {K : PySem.W.Frag} {bad : List Addr} {H : Hp} {p : Addr} (hp : H p = none) : ∀ {d : D} {v : V}, RV K bad H d v → RV K (p :: bad) H d v
  | _, _, .non => .non
  | _, _, .bl b => .bl b
  | _, _, .int i => .int i
  | _, _, .str x => .str x
  | _, _, .tup t r => .tup ⟨t.1, t.2.1, fun z => (List.mem_cons.mp z).elim (fun e => by have := t.2.1; rw [e, hp] at this; cases this) t.2.2⟩ (RVs.away hp r)
  | _, _, .lst t r => .lst ⟨t.1, t.2.1, fun z => (List.mem_cons.mp z).elim (fun e => by have := t.2.1; rw [e, hp] at this; cases this) t.2.2⟩ (RVs.away hp r)
  | _, _, .kup z k r => .kup z k (RVs.away hp r)
  | _, _, .scr t => .scr ⟨t.1, t.2.imp (fun t => ⟨t.1, fun z => (List.mem_cons.mp z).elim (fun e => (Rd.some t.1).no (e ▸ hp)) t.2⟩) id⟩
theorem RVs.away {K : PySem.W.Frag} {bad : List Addr} {H : Hp} {p : Addr} (hp : H p = none) : ∀ {ds : List D} {vs : List V}, RVs K bad H ds vs → RVs K (p :: bad) H ds vs
  | _, _, .nil => .nil
  | _, _, .cons r t => .cons (RV.away hp r) (RVs.away hp t)
end
mutual
/-- fewer addresses kept away -/
theorem RV.less {K : PySem.W.Frag} {bad bad' : List Addr} {H : Hp} (hs : ∀ b ∈ bad', b ∈ bad) : ∀ {d : D} {v : V}, RV K bad H d v → RV K bad' H d v
  | _, _, .non => .non
  | _, _, .bl b => .bl b
  | _, _, .int i => .int i
  | _, _, .str x => .str x
  | _, _, .tup t r => .tup ⟨t.1, t.2.1, fun z => t.2.2 (hs _ z)⟩ (RVs.less hs r)
  | _, _, .lst t r => .lst ⟨t.1, t.2.1, fun z => t.2.2 (hs _ z)⟩ (RVs.less hs r)
  | _, _, .kup z k r => .kup z k (RVs.less hs r)
  | _, _, .scr t => .scr ⟨t.1, t.2.imp (fun t => ⟨t.1, fun z => t.2 (hs _ z)⟩) id⟩
theorem RVs.less {K : PySem.W.Frag} {bad bad' : List Addr} {H : Hp} (hs : ∀ b ∈ bad', b ∈ bad) : ∀ {ds : List D} {vs : List V}, RVs K bad H ds vs → RVs K bad' H ds vs
  | _, _, .nil => .nil
  | _, _, .cons r t => .cons (RV.less hs r) (RVs.less hs t)
end
theorem RVs.length {K : PySem.W.Frag} {bad : List Addr} {H : Hp} : ∀ {ds : List D} {vs : List V}, RVs K bad H ds vs → ds.length = vs.length
  | _, _, .nil => rfl
  | _, _, .cons _ t => by simp [RVs.length t]
theorem RVs.get {K : PySem.W.Frag} {bad : List Addr} {H : Hp} : ∀ {ds : List D} {vs : List V} {i : Nat} {d : D}, RVs K bad H ds vs → ds[i]? = some d → ∃ v, vs[i]? = some v ∧ RV K bad H d v
  | _, _, _, _, .nil, e => by simp at e
  | _, _, 0, _, .cons r _, e => by simp at e; subst e; exact ⟨_, rfl, r⟩
  | _, _, i + 1, d, .cons _ t, e => by
    obtain ⟨v, h1, h2⟩ := RVs.get (i := i) (d := d) t (by simpa using e)
    exact ⟨v, by simpa using h1, h2⟩
theorem RVs.app {K : PySem.W.Frag} {bad : List Addr} {H : Hp} : ∀ {ds es : List D} {vs ws : List V}, RVs K bad H ds vs → RVs K bad H es ws → RVs K bad H (ds ++ es) (vs ++ ws)
  | _, _, _, _, .nil, s => s
  | _, _, _, _, .cons r t, s => .cons r (RVs.app t s)

/-- a value: data, or the place of a mutable object -/
inductive RU (K : PySem.W.Frag) (bad μ : List Addr) (H : Hp) : U → V → Prop
  | p {d : D} {v : V} : RV K bad H d v → RU K bad μ H (.p d) v
  | loc {n : Nat} {a : Addr} : μ[n]? = some a → RU K bad μ H (.loc n) (.ref a)
inductive RUs (K : PySem.W.Frag) (bad μ : List Addr) (H : Hp) : List U → List V → Prop
  | nil : RUs K bad μ H [] []
  | cons {u : U} {us : List U} {v : V} {vs : List V} : RU K bad μ H u v → RUs K bad μ H us vs → RUs K bad μ H (u :: us) (v :: vs)
theorem RU.gr {K : PySem.W.Frag} {bad μ ν : List Addr} {H H' : Hp} (g : Gr μ H H' ν) (hb : ∀ b ∈ μ, b ∈ bad) {u : U} {v : V} (r : RU K bad μ H u v) : RU K (bad ++ ν) (μ ++ ν) H' u v := by
  cases r with
  | p r => exact .p (r.gr g hb)
  | loc h => exact .loc (by rw [List.getElem?_append_left (List.getElem?_eq_some_iff.mp h).1]; exact h)
theorem RUs.gr {K : PySem.W.Frag} {bad μ ν : List Addr} {H H' : Hp} (g : Gr μ H H' ν) (hb : ∀ b ∈ μ, b ∈ bad) : ∀ {us : List U} {vs : List V}, RUs K bad μ H us vs → RUs K (bad ++ ν) (μ ++ ν) H' us vs
  | _, _, .nil => .nil
  | _, _, .cons r t => .cons (r.gr g hb) (RUs.gr g hb t)
theorem RU.away {K : PySem.W.Frag} {bad μ : List Addr} {H : Hp} {p : Addr} (hp : H p = none) {u : U} {v : V} (r : RU K bad μ H u v) : RU K (p :: bad) μ H u v := by
  cases r with
  | p r => exact .p (r.away hp)
  | loc h => exact .loc h
theorem RUs.away {K : PySem.W.Frag} {bad μ : List Addr} {H : Hp} {p : Addr} (hp : H p = none) : ∀ {us : List U} {vs : List V}, RUs K bad μ H us vs → RUs K (p :: bad) μ H us vs
  | _, _, .nil => .nil
  | _, _, .cons r t => .cons (r.away hp) (RUs.away hp t)
theorem RU.less {K : PySem.W.Frag} {bad bad' μ : List Addr} {H : Hp} (hs : ∀ b ∈ bad', b ∈ bad) {u : U} {v : V} (r : RU K bad μ H u v) : RU K bad' μ H u v := by
  cases r with
  | p r => exact .p (r.less hs)
  | loc h => exact .loc h
theorem RUs.less {K : PySem.W.Frag} {bad bad' μ : List Addr} {H : Hp} (hs : ∀ b ∈ bad', b ∈ bad) : ∀ {us : List U} {vs : List V}, RUs K bad μ H us vs → RUs K bad' μ H us vs
  | _, _, .nil => .nil
  | _, _, .cons r t => .cons (r.less hs) (RUs.less hs t)
theorem RU.more {K : PySem.W.Frag} {bad μ ν : List Addr} {H : Hp} {u : U} {v : V} (r : RU K bad μ H u v) : RU K bad (μ ++ ν) H u v := by
  cases r with
  | p r => exact .p r
  | loc h => exact .loc (by rw [List.getElem?_append_left (List.getElem?_eq_some_iff.mp h).1]; exact h)
theorem RUs.more {K : PySem.W.Frag} {bad μ ν : List Addr} {H : Hp} : ∀ {us : List U} {vs : List V}, RUs K bad μ H us vs → RUs K bad (μ ++ ν) H us vs
  | _, _, .nil => .nil
  | _, _, .cons r t => .cons r.more (RUs.more t)
theorem RUs.length {K : PySem.W.Frag} {bad μ : List Addr} {H : Hp} : ∀ {us : List U} {vs : List V}, RUs K bad μ H us vs → us.length = vs.length
  | _, _, .nil => rfl
  | _, _, .cons _ t => by simp [RUs.length t]
theorem RUs.get {K : PySem.W.Frag} {bad μ : List Addr} {H : Hp} : ∀ {us : List U} {vs : List V} {i : Nat} {u : U}, RUs K bad μ H us vs → us[i]? = some u → ∃ v, vs[i]? = some v ∧ RU K bad μ H u v
  | _, _, _, _, .nil, e => by simp at e
  | _, _, 0, _, .cons r _, e => by simp at e; subst e; exact ⟨_, rfl, r⟩
  | _, _, i + 1, u, .cons _ t, e => by
    obtain ⟨v, h1, h2⟩ := RUs.get (i := i) (u := u) t (by simpa using e)
    exact ⟨v, by simpa using h1, h2⟩
/-- the plain data of values that are all plain -/
def pures : List U → Option (List D)
  | [] => some []
  | .p d :: us => (pures us).map (d :: ·)
  | _ :: _ => none
theorem RUs.pure {K : PySem.W.Frag} {bad μ : List Addr} {H : Hp} : ∀ {us : List U} {vs : List V} {ds : List D}, RUs K bad μ H us vs → pures us = some ds → RVs K bad H ds vs
  | _, _, _, .nil, e => by cases e; exact .nil
  | _, _, ds, .cons (u := u) (us := us) r t, e => by
    cases r with
    | p r =>
      cases h : pures us with
      | none => simp [pures, h] at e
      | some es => simp [pures, h] at e; subst e; exact .cons r (RUs.pure t h)
    | loc _ => simp [pures] at e

/-- a mutable object as it stands at its address -/
inductive RO (K : PySem.W.Frag) (bad μ : List Addr) (H : Hp) : Ob → Addr → Prop
  | lst {xs : List D} {a : Addr} {vs : List V} : vs.length ≤ sizeLine → H a = some (.lst vs) → RVs K bad H xs vs → RO K bad μ H (.lst xs) a
  | dic {kvs : List (Key × U)} {a : Addr} {ws : List (Key × V)} : ws.length ≤ sizeLine → H a = some (.dK ws) → kvs.map (·.1) = ws.map (·.1) → RUs K bad μ H (kvs.map (·.2)) (ws.map (·.2)) → RO K bad μ H (.dic kvs) a
  | dtu {kvs : List (List Key × D)} {a : Addr} {ws : List (List Key × V)} : ws.length ≤ sizeLine → H a = some (.dT ws) → kvs.map (·.1) = ws.map (·.1) → RVs K bad H (kvs.map (·.2)) (ws.map (·.2)) → RO K bad μ H (.dtu kvs) a

/-- the memory as it stands -/
structure RM (K : PySem.W.Frag) (T : List (Addr × Str)) (bad μ : List Addr) (M : Mem) (H : Hp) : Prop where
  tab : LamX.Tabs T H
  len : μ.length = M.length
  nd : μ.Nodup
  sub : ∀ b ∈ μ, b ∈ bad
  dom : ∀ b ∈ bad, NT H b
  at_ : ∀ (n : Nat) (o : Ob) (a : Addr), M[n]? = some o → μ[n]? = some a → RO K bad μ H o a
  wf : ∀ (n : Nat) (kvs : List (Key × U)), M[n]? = some (.dic kvs) → ∀ k l, (k, U.loc l) ∈ kvs → l < n
  nt : ∀ b ∈ bad, ∀ vs, H b ≠ some (.tup vs)

/-- the names -/
structure RG (K : PySem.W.Frag) (bad μ : List Addr) (H : Hp) (Γ : Env) (σ : L2.St) : Prop where
  len : Γ.length = σ.length
  at_ : ∀ (i : Nat) (d : U), Γ[i]? = some (some d) → ∃ v, σ[i]? = some (some v) ∧ RU K bad μ H d v
theorem RG.gr {K : PySem.W.Frag} {bad μ ν : List Addr} {H H' : Hp} {Γ : Env} {σ : L2.St} (g : Gr μ H H' ν) (hb : ∀ b ∈ μ, b ∈ bad) (r : RG K bad μ H Γ σ) : RG K (bad ++ ν) (μ ++ ν) H' Γ σ := ⟨r.len, fun i d h => by
  obtain ⟨v, e, r'⟩ := r.at_ i d h
  exact ⟨v, e, r'.gr g hb⟩⟩
theorem RG.set {K : PySem.W.Frag} {bad μ : List Addr} {H : Hp} {Γ : Env} {σ : L2.St} (r : RG K bad μ H Γ σ) {i : Nat} {d : U} {v : V} (rv : RU K bad μ H d v) : RG K bad μ H (Γ.set i (some d)) (σ.set i (some v)) := by
  refine ⟨by simp [r.len], fun j e h => ?_⟩
  by_cases hj : j = i
  · subst hj
    have hl : j < Γ.length := by
      have z := (List.getElem?_eq_some_iff.mp h).1
      simpa using z
    rw [List.getElem?_set_self hl] at h
    cases h
    exact ⟨v, List.getElem?_set_self (by rw [← r.len]; exact hl), rv⟩
  · rw [List.getElem?_set_ne (Ne.symm hj)] at h
    obtain ⟨w, e1, e2⟩ := r.at_ j e h
    exact ⟨w, by rw [List.getElem?_set_ne (Ne.symm hj)]; exact e1, e2⟩

/-- an exception as it flies -/
def RX (mg : Str → Option Value) (K : PySem.W.Frag) (bad : List Addr) (H : Hp) (e : Ex) (cls : Value) (dx : Option Addr) : Prop :=
  mg e.cls = some cls ∧ (e.fields ≠ [] → ∃ (dd : Addr) (vs : List V), dx = some dd ∧ H dd = some (.xd ((e.fields.map (·.1)).zip vs)) ∧ RVs K bad H (e.fields.map (·.2)) vs)

def Res.bind {α β : Type} : Res α → (α → Mem → Res β) → Res β
  | .ok a M, k => k a M
  | .exc e M, _ => .exc e M
  | .stuck, _ => .stuck

/-- what is to be shown of a value that comes -/
def Post (K : PySem.W.Frag) (mg : Str → Option Value) (T : List (Addr × Str)) (bad μ : List Addr) (H : Hp) (r : Res U) (Q : VK) (E : XK) : Prop :=
  match r with
  | .ok d M' => ∀ ν v H', Gr μ H H' ν → RM K T (bad ++ ν) (μ ++ ν) M' H' → RU K (bad ++ ν) (μ ++ ν) H' d v → Q v H'
  | .exc e M' => ∀ ν cls dx H', Gr μ H H' ν → RM K T (bad ++ ν) (μ ++ ν) M' H' → RX mg K (bad ++ ν) H' e cls dx → E cls dx H'
  | .stuck => False
/-- .. of a list of values -/
def PostA (K : PySem.W.Frag) (mg : Str → Option Value) (T : List (Addr × Str)) (bad μ : List Addr) (H : Hp) (r : Res (List U)) (Q : List V → Hp → Prop) (E : XK) : Prop :=
  match r with
  | .ok ds M' => ∀ ν vs H', Gr μ H H' ν → RM K T (bad ++ ν) (μ ++ ν) M' H' → RUs K (bad ++ ν) (μ ++ ν) H' ds vs → Q vs H'
  | .exc e M' => ∀ ν cls dx H', Gr μ H H' ν → RM K T (bad ++ ν) (μ ++ ν) M' H' → RX mg K (bad ++ ν) H' e cls dx → E cls dx H'
  | .stuck => False
/-- .. of a truth value -/
def PostB (K : PySem.W.Frag) (mg : Str → Option Value) (T : List (Addr × Str)) (bad μ : List Addr) (H : Hp) (r : Res Bool) (Q : Bool → Hp → Prop) (E : XK) : Prop :=
  match r with
  | .ok b M' => ∀ ν H', Gr μ H H' ν → RM K T (bad ++ ν) (μ ++ ν) M' H' → Q b H'
  | .exc e M' => ∀ ν cls dx H', Gr μ H H' ν → RM K T (bad ++ ν) (μ ++ ν) M' H' → RX mg K (bad ++ ν) H' e cls dx → E cls dx H'
  | .stuck => False

section
variable {K : PySem.W.Frag} {mg : Str → Option Value} {T : List (Addr × Str)} {bad μ ν : List Addr} {M M1 : Mem} {H H1 : Hp} {Q Q' : VK} {E : XK}
theorem RM.domν (rm : RM K T (bad ++ ν) (μ ++ ν) M H) : ∀ b ∈ ν, NT H b := fun b hb => rm.dom b (List.mem_append_right _ hb)
theorem Post.mono {r : Res U} (h : Post K mg T bad μ H r Q E) (hq : ∀ v H', Q v H' → Q' v H') : Post K mg T bad μ H r Q' E := by
  cases r with
  | ok d M' => exact fun ν v H' g rm rv => hq v H' (h ν v H' g rm rv)
  | exc e M' => exact h
  | stuck => exact h
theorem PostA.mono {r : Res (List U)} {Q Q' : List V → Hp → Prop} (h : PostA K mg T bad μ H r Q E) (hq : ∀ v H', Q v H' → Q' v H') : PostA K mg T bad μ H r Q' E := by
  cases r with
  | ok d M' => exact fun ν v H' g rm rv => hq v H' (h ν v H' g rm rv)
  | exc e M' => exact h
  | stuck => exact h
theorem PostB.mono {r : Res Bool} {Q Q' : Bool → Hp → Prop} (h : PostB K mg T bad μ H r Q E) (hq : ∀ v H', Q v H' → Q' v H') : PostB K mg T bad μ H r Q' E := by
  cases r with
  | ok d M' => exact fun ν H' g rm => hq d H' (h ν H' g rm)
  | exc e M' => exact h
  | stuck => exact h
/-- the same wish, from a later heap -/
theorem Post.gr {r : Res U} (h : Post K mg T bad μ H r Q E) (g : Gr μ H H1 ν) (hd : ∀ b ∈ ν, NT H1 b) : Post K mg T (bad ++ ν) (μ ++ ν) H1 r Q E := by
  cases r with
  | ok d M' => exact fun ν' v H' g' rm rv => h (ν ++ ν') v H' (g.trans g' hd) (by simpa only [List.append_assoc] using rm) (by simpa only [List.append_assoc] using rv)
  | exc e M' => exact fun ν' c dx H' g' rm rx => h (ν ++ ν') c dx H' (g.trans g' hd) (by simpa only [List.append_assoc] using rm) (by simpa only [List.append_assoc] using rx)
  | stuck => exact h
theorem PostA.gr {r : Res (List U)} {Q : List V → Hp → Prop} (h : PostA K mg T bad μ H r Q E) (g : Gr μ H H1 ν) (hd : ∀ b ∈ ν, NT H1 b) : PostA K mg T (bad ++ ν) (μ ++ ν) H1 r Q E := by
  cases r with
  | ok d M' => exact fun ν' v H' g' rm rv => h (ν ++ ν') v H' (g.trans g' hd) (by simpa only [List.append_assoc] using rm) (by simpa only [List.append_assoc] using rv)
  | exc e M' => exact fun ν' c dx H' g' rm rx => h (ν ++ ν') c dx H' (g.trans g' hd) (by simpa only [List.append_assoc] using rm) (by simpa only [List.append_assoc] using rx)
  | stuck => exact h
theorem PostB.gr {r : Res Bool} {Q : Bool → Hp → Prop} (h : PostB K mg T bad μ H r Q E) (g : Gr μ H H1 ν) (hd : ∀ b ∈ ν, NT H1 b) : PostB K mg T (bad ++ ν) (μ ++ ν) H1 r Q E := by
  cases r with
  | ok d M' => exact fun ν' H' g' rm => h (ν ++ ν') H' (g.trans g' hd) (by simpa only [List.append_assoc] using rm)
  | exc e M' => exact fun ν' c dx H' g' rm rx => h (ν ++ ν') c dx H' (g.trans g' hd) (by simpa only [List.append_assoc] using rm) (by simpa only [List.append_assoc] using rx)
  | stuck => exact h

/-- where a part has come: its value, the memory, the rest of the wish -/
def Mid (K : PySem.W.Frag) (T : List (Addr × Str)) (bad μ : List Addr) (H : Hp) (R : List Addr → List Addr → U → Mem → V → Hp → Prop) : VK := fun v H1 =>
  ∃ ν d M1, Gr μ H H1 ν ∧ RM K T (bad ++ ν) (μ ++ ν) M1 H1 ∧ RU K (bad ++ ν) (μ ++ ν) H1 d v ∧ R (bad ++ ν) (μ ++ ν) d M1 v H1
theorem Post.bind {r : Res U} {k : U → Mem → Res U} (h : Post K mg T bad μ H (r.bind k) Q E) :
    Post K mg T bad μ H r (Mid K T bad μ H fun bad1 μ1 d M1 v H1 => Post K mg T bad1 μ1 H1 (k d M1) Q E) E := by
  cases r with
  | ok d M' => exact fun ν v H' g rm rv => ⟨ν, d, M', g, rm, rv, Post.gr h g rm.domν⟩
  | exc e M' => exact h
  | stuck => exact h
theorem Post.bindB {r : Res Bool} {k : Bool → Mem → Res U} (h : Post K mg T bad μ H (r.bind k) Q E) :
    PostB K mg T bad μ H r (fun b H1 => ∃ ν M1, Gr μ H H1 ν ∧ RM K T (bad ++ ν) (μ ++ ν) M1 H1 ∧ Post K mg T (bad ++ ν) (μ ++ ν) H1 (k b M1) Q E) E := by
  cases r with
  | ok d M' => exact fun ν H' g rm => ⟨ν, M', g, rm, Post.gr h g rm.domν⟩
  | exc e M' => exact h
  | stuck => exact h
theorem Post.bindA {r : Res (List U)} {k : List U → Mem → Res U} (h : Post K mg T bad μ H (r.bind k) Q E) :
    PostA K mg T bad μ H r (fun vs H1 => ∃ ν ds M1, Gr μ H H1 ν ∧ RM K T (bad ++ ν) (μ ++ ν) M1 H1 ∧ RUs K (bad ++ ν) (μ ++ ν) H1 ds vs ∧ Post K mg T (bad ++ ν) (μ ++ ν) H1 (k ds M1) Q E) E := by
  cases r with
  | ok d M' => exact fun ν v H' g rm rv => ⟨ν, d, M', g, rm, rv, Post.gr h g rm.domν⟩
  | exc e M' => exact h
  | stuck => exact h
theorem PostA.bind {r : Res U} {k : U → Mem → Res (List U)} {Q : List V → Hp → Prop} (h : PostA K mg T bad μ H (r.bind k) Q E) :
    Post K mg T bad μ H r (Mid K T bad μ H fun bad1 μ1 d M1 v H1 => PostA K mg T bad1 μ1 H1 (k d M1) Q E) E := by
  cases r with
  | ok d M' => exact fun ν v H' g rm rv => ⟨ν, d, M', g, rm, rv, PostA.gr h g rm.domν⟩
  | exc e M' => exact h
  | stuck => exact h
theorem PostA.bindA {r : Res (List U)} {k : List U → Mem → Res (List U)} {Q : List V → Hp → Prop} (h : PostA K mg T bad μ H (r.bind k) Q E) :
    PostA K mg T bad μ H r (fun vs H1 => ∃ ν ds M1, Gr μ H H1 ν ∧ RM K T (bad ++ ν) (μ ++ ν) M1 H1 ∧ RUs K (bad ++ ν) (μ ++ ν) H1 ds vs ∧ PostA K mg T (bad ++ ν) (μ ++ ν) H1 (k ds M1) Q E) E := by
  cases r with
  | ok d M' => exact fun ν v H' g rm rv => ⟨ν, d, M', g, rm, rv, PostA.gr h g rm.domν⟩
  | exc e M' => exact h
  | stuck => exact h
theorem PostB.bind {r : Res U} {k : U → Mem → Res Bool} {Q : Bool → Hp → Prop} (h : PostB K mg T bad μ H (r.bind k) Q E) :
    Post K mg T bad μ H r (Mid K T bad μ H fun bad1 μ1 d M1 v H1 => PostB K mg T bad1 μ1 H1 (k d M1) Q E) E := by
  cases r with
  | ok d M' => exact fun ν v H' g rm rv => ⟨ν, d, M', g, rm, rv, PostB.gr h g rm.domν⟩
  | exc e M' => exact h
  | stuck => exact h
theorem PostB.bindB {r : Res Bool} {k : Bool → Mem → Res Bool} {Q : Bool → Hp → Prop} (h : PostB K mg T bad μ H (r.bind k) Q E) :
    PostB K mg T bad μ H r (fun b H1 => ∃ ν M1, Gr μ H H1 ν ∧ RM K T (bad ++ ν) (μ ++ ν) M1 H1 ∧ PostB K mg T (bad ++ ν) (μ ++ ν) H1 (k b M1) Q E) E := by
  cases r with
  | ok d M' => exact fun ν H' g rm => ⟨ν, M', g, rm, PostB.gr h g rm.domν⟩
  | exc e M' => exact h
  | stuck => exact h
/-- a value that stands at once -/
theorem Post.here {d : U} {v : V} (h : Post K mg T bad μ H (.ok d M) Q E) (rm : RM K T bad μ M H) (rv : RU K bad μ H d v) : Q v H :=
  h [] v H (Gr.refl μ H) (by simpa using rm) (by simpa using rv)
theorem PostA.here {d : List U} {v : List V} {Q : List V → Hp → Prop} (h : PostA K mg T bad μ H (.ok d M) Q E) (rm : RM K T bad μ M H) (rv : RUs K bad μ H d v) : Q v H :=
  h [] v H (Gr.refl μ H) (by simpa using rm) (by simpa using rv)
theorem PostB.here {b : Bool} {Q : Bool → Hp → Prop} (h : PostB K mg T bad μ H (.ok b M) Q E) (rm : RM K T bad μ M H) : Q b H :=
  h [] H (Gr.refl μ H) (by simpa using rm)

/-- the readings -/
def tEv (K : PySem.W.Frag) (mg : Str → Option Value) (T : List (Addr × Str)) (W : WX) (f : Env → Mem → Res U) : TE := fun σ H Q =>
  ∃ bad μ Γ M, RM K T bad μ M H ∧ RG K bad μ H Γ σ ∧ Post K mg T bad μ H (f Γ M) Q fun c d H' => W c d σ H'
def tAv (K : PySem.W.Frag) (mg : Str → Option Value) (T : List (Addr × Str)) (W : WX) (f : Env → Mem → Res (List U)) : TA := fun σ H Q =>
  ∃ bad μ Γ M, RM K T bad μ M H ∧ RG K bad μ H Γ σ ∧ PostA K mg T bad μ H (f Γ M) Q fun c d H' => W c d σ H'
def tBv (K : PySem.W.Frag) (mg : Str → Option Value) (T : List (Addr × Str)) (W : WX) (f : Env → Mem → Res Bool) : TT := fun σ H Q =>
  ∃ bad μ Γ M, RM K T bad μ M H ∧ RG K bad μ H Γ σ ∧ PostB K mg T bad μ H (f Γ M) Q fun c d H' => W c d σ H'
end

structure DE (X : Cx) (T : List (Addr × Str)) (W : WX) (e : Expr) (f : Env → Mem → Res U) : Prop where
  pe : PE X e (tEv X.K X.mg T W f)
structure DT (X : Cx) (T : List (Addr × Str)) (W : WX) (e : Expr) (f : Env → Mem → Res Bool) : Prop where
  pt : PT X e (tBv X.K X.mg T W f)
structure DW (X : Cx) (T : List (Addr × Str)) (W : WX) (e : Expr) (f : Env → Mem → Res Bool) : Prop where
  pw : PW X e (tBv X.K X.mg T W f)
structure DA (X : Cx) (T : List (Addr × Str)) (W : WX) (es : List Expr) (f : Env → Mem → Res (List U)) : Prop where
  pa : PA X es (tAv X.K X.mg T W f)
  len : ∀ Γ M ds M', f Γ M = .ok ds M' → ds.length = es.length
theorem peW {X : Cx} {e : Expr} {t t' : TE} (h : PE X e t) (hw : ∀ σ H Q, t' σ H Q → t σ H Q) : PE X e t' := ⟨fun pins s σ H Q I q => h.run pins s σ H Q I (hw σ H Q q)⟩
theorem ptW {X : Cx} {e : Expr} {t t' : TT} (h : PT X e t) (hw : ∀ σ H Q, t' σ H Q → t σ H Q) : PT X e t' := ⟨fun pins s σ H Q I q => h.run pins s σ H Q I (hw σ H Q q)⟩
theorem pwW {X : Cx} {e : Expr} {t t' : TT} (h : PW X e t) (hw : ∀ σ H Q, t' σ H Q → t σ H Q) : PW X e t' := ⟨fun wh pins s σ H Q I q => h.run wh pins s σ H Q I (hw σ H Q q)⟩
theorem paW {X : Cx} {e : List Expr} {t t' : TA} (h : PA X e t) (hw : ∀ σ H Q, t' σ H Q → t σ H Q) : PA X e t' := ⟨fun p pins s σ H Q I q => h.run p pins s σ H Q I (hw σ H Q q)⟩

end Mp
namespace Mp
open PySem PySem.Spec PyProof.Rows L2

abbrev Fx := Env → Mem → Res U
abbrev Fa := Env → Mem → Res (List U)
abbrev Fb := Env → Mem → Res Bool
def opt (o : Option D) (M : Mem) : Res U := match o with | some d => .ok (.p d) M | none => .stuck
def optB (o : Option Bool) (M : Mem) : Res Bool := match o with | some d => .ok d M | none => .stuck
/-- plain data as it stands now: a list that may change is read -/
def deref (M : Mem) : U → Option D
  | .p d => some d
  | .loc n => match M[n]? with
    | some (.lst xs) => some (.lst xs)
    | _ => none

def varF (i : Nat) : Fx := fun Γ M => match Γ[i]? with | some (some d) => .ok d M | _ => .stuck
def cF (d : D) : Fx := fun _ M => .ok (.p d) M
def nilA : Fa := fun _ M => .ok [] M
def consA (f : Fx) (g : Fa) : Fa := fun Γ M => (f Γ M).bind fun d M1 => (g Γ M1).bind fun ds M2 => .ok (d :: ds) M2
def tupF (g : Fa) : Fx := fun Γ M => (g Γ M).bind fun us M1 => opt ((pures us).map .tup) M1
def lstF (g : Fa) : Fx := fun Γ M => (g Γ M).bind fun us M1 => opt ((pures us).map .lst) M1
def op2F (g : D → D → Option D) (f1 f2 : Fx) : Fx := fun Γ M => (f1 Γ M).bind fun a M1 => (f2 Γ M1).bind fun b M2 => match deref M2 a, deref M2 b with
  | some x, some y => opt (g x y) M2
  | _, _ => .stuck
def op1F (g : D → Option D) (f1 : Fx) : Fx := fun Γ M => (f1 Γ M).bind fun a M1 => match deref M1 a with
  | some x => opt (g x) M1
  | none => .stuck

section
variable {X : Cx} {T : List (Addr × Str)} {W : WX}
theorem de_var {i : Nat} {x : Str} {pos : Pos} (hN : X.N[i]? = some x) (hv : Vis X.env.scope x) (hd : (x == ("__debug__" : Str)) = false := by decide) (hcd : (x == ("__classdict__" : Str)) = false := by decide) :
    DE X T W (.Name x pos) (varF i) := ⟨peW (pe_var hN hv hd hcd) fun σ H Q ⟨bad, μ, Γ, M, rm, rg, h⟩ => by
  unfold varF at h
  split at h
  · rename_i d e
    obtain ⟨v, e1, rv⟩ := rg.at_ i d e
    exact ⟨v, e1, Post.here h rm rv⟩
  · exact h.elim⟩
theorem de_c {e : Expr} {d : D} {v : V} (he : PE X e (tC v)) (hr : ∀ bad H, RV X.K bad H d v) : DE X T W e (cF d) := ⟨peW he fun σ H Q ⟨bad, μ, Γ, M, rm, rg, h⟩ => Post.here h rm (.p (hr bad H))⟩
theorem de_int {i : Int} {j pos} : DE X T W (.Constant (.int i) j pos) (cF (.int i)) := de_c pe_int fun _ _ => .int i
theorem de_bl {b j pos} : DE X T W (.Constant (.bool b) j pos) (cF (.bl b)) := de_c pe_bl fun _ _ => .bl b
theorem de_non {j pos} : DE X T W (.Constant .none j pos) (cF .non) := de_c pe_non fun _ _ => .non
theorem de_str {x j pos} : DE X T W (.Constant (.str x) j pos) (cF (.str x)) := de_c pe_str fun _ _ => .str x
/-- a module's whole number -/
theorem de_gint {x : Str} {i : Int} {t : Tok} {pos : Pos} (hg : Gl X x) (hm : X.mg x = some (.int i t)) (hd : (x == ("__debug__" : Str)) = false := by decide) : DE X T W (.Name x pos) (cF (.int i)) :=
  de_c (pe_glob hg hm (v := .int i) ⟨t, rfl⟩ hd) fun _ _ => .int i

theorem da_nil : DA X T W [] nilA := ⟨paW pa_nil fun σ H Q ⟨bad, μ, Γ, M, rm, rg, h⟩ => PostA.here h rm .nil, fun Γ M ds M' e => by injection e with e1; rw [← e1]; rfl⟩
theorem da_cons {e : Expr} {es : List Expr} {f : Fx} {g : Fa} (he : DE X T W e f) (hr : DA X T W es g) (hs : starEach (e :: es) X.env = (false, eval e X.env) :: starEach es X.env := by rfl) : DA X T W (e :: es) (consA f g) := by
  refine ⟨paW (pa_cons he.pe hr.pa hs) fun σ H Q ⟨bad, μ, Γ, M, rm, rg, h⟩ => ?_, fun Γ M ds M' e => ?_⟩
  · refine ⟨bad, μ, Γ, M, rm, rg, (PostA.bind h).mono ?_⟩
    rintro v H1 ⟨ν, d, M1, g1, rm1, rv1, h1⟩
    refine ⟨_, _, Γ, M1, rm1, rg.gr g1 rm.sub, (PostA.bindA h1).mono ?_⟩
    rintro vs H2 ⟨ν2, ds, M2, g2, rm2, rv2, h2⟩
    exact PostA.here h2 rm2 (.cons (rv1.gr g2 rm1.sub) rv2)
  · unfold consA at e
    cases e1 : f Γ M with
    | ok d M1 =>
      rw [e1] at e
      simp only [Res.bind] at e
      cases e2 : g Γ M1 with
      | ok ds2 M2 =>
        rw [e2] at e
        simp only [Res.bind] at e
        injection e with e3
        rw [← e3]
        simp [hr.len _ _ _ _ e2]
      | exc x M2 => rw [e2] at e; simp [Res.bind] at e
      | stuck => rw [e2] at e; simp [Res.bind] at e
    | exc x M1 => rw [e1] at e; simp [Res.bind] at e
    | stuck => rw [e1] at e; simp [Res.bind] at e

/-- what is new and tracked: the memory stays as it is -/
theorem Gr.laid {μ : List Addr} {H : Hp} {p : Addr} {o : HO} (hp : H p = none) : Gr μ H (upd H p o) [] := by
  refine ⟨fun _ h => (nomatch h), .nil, fun b o' h _ _ => ?_, fun b h => ?_⟩
  · rw [upd_ne (ne_of_none h hp)]; exact h
  · obtain ⟨o', e, h'⟩ := h
    exact ⟨o', by rw [upd_ne (ne_of_none e hp)]; exact e, h'⟩
theorem RVs.gr0 {K : PySem.W.Frag} {bad μ : List Addr} {H H' : Hp} (g : Gr μ H H' []) (hb : ∀ b ∈ μ, b ∈ bad) {ds : List D} {vs : List V} (r : RVs K bad H ds vs) : RVs K bad H' ds vs := by simpa using r.gr g hb
theorem RV.gr0 {K : PySem.W.Frag} {bad μ : List Addr} {H H' : Hp} (g : Gr μ H H' []) (hb : ∀ b ∈ μ, b ∈ bad) {d : D} {v : V} (r : RV K bad H d v) : RV K bad H' d v := by simpa using r.gr g hb
theorem RUs.gr0 {K : PySem.W.Frag} {bad μ : List Addr} {H H' : Hp} (g : Gr μ H H' []) (hb : ∀ b ∈ μ, b ∈ bad) {ds : List U} {vs : List V} (r : RUs K bad μ H ds vs) : RUs K bad μ H' ds vs := by simpa using r.gr g hb
theorem RU.gr0 {K : PySem.W.Frag} {bad μ : List Addr} {H H' : Hp} (g : Gr μ H H' []) (hb : ∀ b ∈ μ, b ∈ bad) {d : U} {v : V} (r : RU K bad μ H d v) : RU K bad μ H' d v := by simpa using r.gr g hb
theorem Gr.ext {μ : List Addr} {H : Hp} {p : Addr} {o : HO} (hp : H p = none) : ∀ b u, H b = some u → upd H p o b = some u := fun b u h => by rw [upd_ne (ne_of_none h hp)]; exact h
/-- the objects of the memory stay where nothing that is tracked changes -/
theorem RO.ext {K : PySem.W.Frag} {bad μ : List Addr} {H H' : Hp} (g : Gr μ H H' []) (hb : ∀ b ∈ μ, b ∈ bad) (e : ∀ b u, H b = some u → H' b = some u) {o : Ob} {a : Addr} (r : RO K bad μ H o a) : RO K bad μ H' o a := by
  cases r with
  | lst z h r => exact .lst z (e _ _ h) (r.gr0 g hb)
  | dic z h l r => exact .dic z (e _ _ h) l (r.gr0 g hb)
  | dtu z h l r => exact .dtu z (e _ _ h) l (r.gr0 g hb)
theorem RM.ext {K : PySem.W.Frag} {T : List (Addr × Str)} {bad μ : List Addr} {M : Mem} {H H' : Hp} (rm : RM K T bad μ M H) (g : Gr μ H H' []) (e : ∀ b u, H b = some u → H' b = some u) : RM K T bad μ M H' :=
  ⟨rm.tab.ext e, rm.len, rm.nd, rm.sub, fun b hb => g.dom b (rm.dom b hb), fun n o a h1 h2 => (rm.at_ n o a h1 h2).ext g rm.sub e, rm.wf, fun b hb vs h => by
    cases eb : H b with
    | none => exact (rm.dom b hb).no eb
    | some u =>
      rw [e b u eb] at h
      exact rm.nt b hb vs (eb.trans h)⟩
theorem RM.laid {K : PySem.W.Frag} {T : List (Addr × Str)} {bad μ : List Addr} {M : Mem} {H : Hp} {p : Addr} {o : HO} (rm : RM K T bad μ M H) (hp : H p = none) : RM K T bad μ M (upd H p o) := rm.ext (Gr.laid hp) (Gr.ext (μ := μ) hp)
theorem RM.fresh {K : PySem.W.Frag} {T : List (Addr × Str)} {bad μ : List Addr} {M : Mem} {H : Hp} {p : Addr} (rm : RM K T bad μ M H) (hp : H p = none) : p ∉ bad := fun z => (rm.dom p z).no hp

section
variable {K : PySem.W.Frag} {mg : Str → Option Value} {bad μ : List Addr} {M : Mem} {H : Hp} {Q : VK} {E : XK}
/-- a new tuple, a new list -/
theorem Post.tup {ds : List D} {vs : List V} {p : Addr} (h : Post K mg T bad μ H (.ok (.p (.tup ds)) M) Q E) (rm : RM K T bad μ M H) (rv : RVs K bad H ds vs) (hz : vs.length ≤ sizeLine) (hp : H p = none) : Q (.ref p) (upd H p (.tup vs)) := by
  have g := Gr.laid (μ := μ) (o := .tup vs) hp
  refine h [] _ _ g (by simpa using rm.laid hp) (.p ?_)
  simp only [List.append_nil]
  exact .tup ⟨hz, upd_same, rm.fresh hp⟩ (rv.gr0 g rm.sub)
theorem Post.lst {ds : List D} {vs : List V} {p : Addr} (h : Post K mg T bad μ H (.ok (.p (.lst ds)) M) Q E) (rm : RM K T bad μ M H) (rv : RVs K bad H ds vs) (hz : vs.length ≤ sizeLine) (hp : H p = none) : Q (.ref p) (upd H p (.lst vs)) := by
  have g := Gr.laid (μ := μ) (o := .lst vs) hp
  refine h [] _ _ g (by simpa using rm.laid hp) (.p ?_)
  simp only [List.append_nil]
  exact .lst ⟨hz, upd_same, rm.fresh hp⟩ (rv.gr0 g rm.sub)
theorem Post.opt {o : Option D} (h : Post K mg T bad μ H (opt o M) Q E) : ∃ d, o = some d ∧ Post K mg T bad μ H (.ok (.p d) M) Q E := by
  cases o with
  | some d => exact ⟨d, rfl, h⟩
  | none => exact h.elim
theorem PostB.opt {Q : Bool → Hp → Prop} {o : Option Bool} (h : PostB K mg T bad μ H (optB o M) Q E) : ∃ d, o = some d ∧ PostB K mg T bad μ H (.ok d M) Q E := by
  cases o with
  | some d => exact ⟨d, rfl, h⟩
  | none => exact h.elim
theorem Post.hereD {d : D} {v : V} (h : Post K mg T bad μ H (.ok (.p d) M) Q E) (rm : RM K T bad μ M H) (rv : RV K bad H d v) : Q v H := Post.here h rm (.p rv)
/-- what a value is to be read as -/
inductive RW (K : PySem.W.Frag) (bad : List Addr) (H : Hp) : D → V → Prop
  | of {d : D} {v : V} : RV K bad H d v → RW K bad H d v
  | lst {xs : List D} {a : Addr} {vs : List V} : vs.length ≤ sizeLine → H a = some (.lst vs) → RVs K bad H xs vs → RW K bad H (.lst xs) (.ref a)
theorem RM.deref (rm : RM K T bad μ M H) {u : U} {v : V} {d : D} (r : RU K bad μ H u v) (e : deref M u = some d) : RW K bad H d v := by
  cases r with
  | p r => cases e; exact .of r
  | @loc n a hm =>
    cases em : M[n]? with
    | none => simp [Mp.deref, em] at e
    | some o =>
      cases o with
      | lst xs =>
        simp [Mp.deref, em] at e
        subst e
        cases rm.at_ n _ a em hm with
        | lst z h r => exact .lst z h r
      | dic _ => simp [Mp.deref, em] at e
      | dtu _ => simp [Mp.deref, em] at e
end
theorem few_line {n : Nat} (h : n ≤ 1000) : n ≤ sizeLine := by rw [sizeLine_eq]; omega
/-- what the parts of a display come to are as many -/
theorem PostA.len {K : PySem.W.Frag} {mg : Str → Option Value} {bad μ : List Addr} {H : Hp} {E : XK} {r : Res (List U)} {Q : List V → Hp → Prop} {n : Nat} (hl : ∀ ds M', r = .ok ds M' → ds.length = n) (h : PostA K mg T bad μ H r Q E) : PostA K mg T bad μ H r (fun vs H' => vs.length = n ∧ Q vs H') E := by
  cases r with
  | ok ds M' => exact fun ν vs H' g rm rv => ⟨by rw [← rv.length]; exact hl ds M' rfl, h ν vs H' g rm rv⟩
  | exc e M' => exact h
  | stuck => exact h
theorem de_tup {es : List Expr} {g : Fa} {x1 pos} (ha : DA X T W es g) (hn : es.length ≤ 1000 := by decide) : DE X T W (.Tuple es x1 pos) (tupF g) := ⟨peW (pe_tup ha.pa) fun σ H Q ⟨bad, μ, Γ, M, rm, rg, h⟩ => by
  refine ⟨bad, μ, Γ, M, rm, rg, (PostA.len (fun ds M' e => ha.len Γ M ds M' e) (Post.bindA h)).mono ?_⟩
  rintro vs H1 ⟨hl, ν, us, M1, g1, rm1, rv1, h1⟩
  have hz : vs.length ≤ sizeLine := by rw [hl]; exact few_line hn
  obtain ⟨d, e1, h2⟩ := Post.opt h1
  cases e2 : pures us with
  | none => rw [e2] at e1; cases e1
  | some ds =>
    rw [e2] at e1
    cases e1
    exact ⟨hz, fun p hp => Post.tup h2 rm1 (rv1.pure e2) hz hp⟩⟩
theorem de_lst {es : List Expr} {g : Fa} {pos} (ha : DA X T W es g) (hn : es.length ≤ 1000 := by decide) : DE X T W (.List es pos) (lstF g) := ⟨peW (pe_lst ha.pa) fun σ H Q ⟨bad, μ, Γ, M, rm, rg, h⟩ => by
  refine ⟨bad, μ, Γ, M, rm, rg, (PostA.len (fun ds M' e => ha.len Γ M ds M' e) (Post.bindA h)).mono ?_⟩
  rintro vs H1 ⟨hl, ν, us, M1, g1, rm1, rv1, h1⟩
  have hz : vs.length ≤ sizeLine := by rw [hl]; exact few_line hn
  obtain ⟨d, e1, h2⟩ := Post.opt h1
  cases e2 : pures us with
  | none => rw [e2] at e1; cases e1
  | some ds =>
    rw [e2] at e1
    cases e1
    exact ⟨hz, fun p hp => Post.lst h2 rm1 (rv1.pure e2) hz hp⟩⟩

/-- a built-in operation on two data and what it asks by values -/
def P2 (K : PySem.W.Frag) (T : List (Addr × Str)) (g : D → D → Option D) (r : R2) : Prop :=
  ∀ (mg : Str → Option Value) (bad μ : List Addr) (M : Mem) (H : Hp) (a b : D) (x y : V) (d : D) (Q : VK) (E : XK), RM K T bad μ M H → RW K bad H a x → RW K bad H b y → g a b = some d → Post K mg T bad μ H (.ok (.p d) M) Q E → r x y H Q
def P1 (K : PySem.W.Frag) (T : List (Addr × Str)) (g : D → Option D) (r : V → Hp → VK → Prop) : Prop :=
  ∀ (mg : Str → Option Value) (bad μ : List Addr) (M : Mem) (H : Hp) (a : D) (x : V) (d : D) (Q : VK) (E : XK), RM K T bad μ M H → RW K bad H a x → g a = some d → Post K mg T bad μ H (.ok (.p d) M) Q E → r x H Q
theorem de_op2 {a b e : Expr} {r : R2} {f1 f2 : Fx} {g : D → D → Option D} (he : ∀ {ta tb : TE}, PE X a ta → PE X b tb → PE X e (tOp r ta tb)) (hp : P2 X.K T g r) (ha : DE X T W a f1) (hb : DE X T W b f2) : DE X T W e (op2F g f1 f2) :=
  ⟨peW (he ha.pe hb.pe) fun σ H Q ⟨bad, μ, Γ, M, rm, rg, h⟩ => by
  refine ⟨bad, μ, Γ, M, rm, rg, (Post.bind h).mono ?_⟩
  rintro x H1 ⟨ν, d1, M1, g1, rm1, rv1, h1⟩
  refine ⟨_, _, Γ, M1, rm1, rg.gr g1 rm.sub, (Post.bind h1).mono ?_⟩
  rintro y H2 ⟨ν2, d2, M2, g2, rm2, rv2, h2⟩
  split at h2
  · rename_i p q e1 e2
    obtain ⟨d, e3, h3⟩ := Post.opt h2
    exact hp _ _ _ _ _ _ _ _ _ _ _ _ rm2 (rm2.deref (rv1.gr g2 rm1.sub) e1) (rm2.deref rv2 e2) e3 h3
  · exact h2.elim⟩
theorem de_op1 {a e : Expr} {r : V → Hp → VK → Prop} {f1 : Fx} {g : D → Option D} (he : ∀ {ta : TE}, PE X a ta → PE X e (tUn r ta)) (hp : P1 X.K T g r) (ha : DE X T W a f1) : DE X T W e (op1F g f1) :=
  ⟨peW (he ha.pe) fun σ H Q ⟨bad, μ, Γ, M, rm, rg, h⟩ => by
  refine ⟨bad, μ, Γ, M, rm, rg, (Post.bind h).mono ?_⟩
  rintro x H1 ⟨ν, d1, M1, g1, rm1, rv1, h1⟩
  split at h1
  · rename_i p e1
    obtain ⟨d, e3, h3⟩ := Post.opt h1
    exact hp _ _ _ _ _ _ _ _ _ _ rm1 (rm1.deref rv1 e1) e3 h3
  · exact h1.elim⟩
end
end Mp
namespace Mp
open PySem PySem.Spec PyProof.Rows L2

/-- the items of a list that is data -/
def lstOf : D → Option (List D)
  | .lst xs => some xs
  | .scr ns => some (ns.map .int)
  | _ => none
/-- .. of a tuple -/
def tupOf : D → Option (List D)
  | .tup xs => some xs
  | .kup xs => some xs
  | _ => none
/-- .. of a list or a tuple -/
def seqOf : D → Option (List D)
  | .tup xs => some xs
  | .kup xs => some xs
  | .lst xs => some xs
  | .scr ns => some (ns.map .int)
  | _ => none
theorem RVs.ofInts {K : PySem.W.Frag} {bad : List Addr} {H : Hp} : ∀ ns : List Int, RVs K bad H (ns.map .int) (ns.map V.int)
  | [] => .nil
  | n :: ns => .cons (.int n) (RVs.ofInts ns)
section
variable {K : PySem.W.Frag} {T : List (Addr × Str)} {bad μ : List Addr} {M : Mem} {H : Hp}
theorem RW.lstOf {d : D} {v : V} {xs : List D} (rv : RW K bad H d v) (e : lstOf d = some xs) : ∃ a vs, v = .ref a ∧ vs.length ≤ sizeLine ∧ SqL K H a vs ∧ RVs K bad H xs vs := by
  cases rv with
  | lst z s r =>
    have e' := Option.some.inj e
    subst e'
    exact ⟨_, _, rfl, z, .of s, r⟩
  | of rv =>
    cases rv with
    | lst t r =>
      have e' := Option.some.inj e
      subst e'
      exact ⟨_, _, rfl, t.1, t.sq, r⟩
    | @scr ns a t =>
      have e' := Option.some.inj e
      subst e'
      exact ⟨a, _, rfl, t.1, t.sq, .ofInts ns⟩
    | _ => exact nomatch e
theorem RW.tupOf {d : D} {v : V} {xs : List D} (rv : RW K bad H d v) (e : tupOf d = some xs) : ∃ a vs, v = .ref a ∧ vs.length ≤ sizeLine ∧ SqT K H a vs ∧ RVs K bad H xs vs := by
  cases rv with
  | lst z s r => exact nomatch e
  | of rv =>
    cases rv with
    | tup t r =>
      have e' := Option.some.inj e
      subst e'
      exact ⟨_, _, rfl, t.1, t.sq, r⟩
    | kup z k r =>
      have e' := Option.some.inj e
      subst e'
      exact ⟨_, _, rfl, z, k H, r⟩
    | _ => exact nomatch e
theorem RW.seq {d : D} {v : V} {xs : List D} (rv : RW K bad H d v) (e : seqOf d = some xs) : ∃ a vs, v = .ref a ∧ vs.length ≤ sizeLine ∧ (SqL K H a vs ∨ SqT K H a vs) ∧ RVs K bad H xs vs := by
  cases e1 : Mp.lstOf d with
  | some ys =>
    have hy : ys = xs := by cases d <;> simp_all [Mp.lstOf, Mp.seqOf]
    subst hy
    obtain ⟨a, vs, h1, h2, h3, h4⟩ := rv.lstOf e1
    exact ⟨a, vs, h1, h2, .inl h3, h4⟩
  | none =>
    cases e2 : Mp.tupOf d with
    | some ys =>
      have hy : ys = xs := by cases d <;> simp_all [Mp.tupOf, Mp.seqOf]
      subst hy
      obtain ⟨a, vs, h1, h2, h3, h4⟩ := rv.tupOf e2
      exact ⟨a, vs, h1, h2, .inr h3, h4⟩
    | none => cases d <;> simp_all [Mp.lstOf, Mp.tupOf, Mp.seqOf]
theorem RW.int {i : Int} {v : V} (rv : RW K bad H (.int i) v) : v = .int i := by
  cases rv with
  | of rv => cases rv; rfl
theorem RW.str {i : Str} {v : V} (rv : RW K bad H (.str i) v) : v = .str i := by
  cases rv with
  | of rv => cases rv; rfl
theorem RW.bl {i : Bool} {v : V} (rv : RW K bad H (.bl i) v) : v = .bl i := by
  cases rv with
  | of rv => cases rv; rfl
theorem RW.non {v : V} (rv : RW K bad H .non v) : v = .non := by
  cases rv with
  | of rv => cases rv; rfl
theorem RW.rvT {d : D} {xs : List D} {v : V} (rv : RW K bad H d v) (e : Mp.tupOf d = some xs) : RV K bad H d v := by
  cases rv with
  | of rv => exact rv
  | lst z s r => exact nomatch e
theorem RW.tup {xs : List D} {v : V} (rv : RW K bad H (.tup xs) v) : RV K bad H (.tup xs) v := by
  cases rv with
  | of rv => exact rv
end
section
variable {X : Cx}
theorem op_catL : OpR X (binaryOp .Add) (fun x y H Q => ∃ a b xs ys, x = .ref a ∧ y = .ref b ∧ SqL X.K H a xs ∧ SqL X.K H b ys ∧ xs.length + ys.length ≤ sizeLine ∧ ∀ p, H p = none → Q (.ref p) (upd H p (.lst (xs ++ ys)))) := by
  intro pins s σ H x y v u Q I rx ry h
  obtain ⟨a, b, xs, ys, rfl, rfl, ha, hb, hz, q⟩ := h
  cases rx
  cases ry
  obtain ⟨its, r, ⟨⟨c1, d1, dt1, sl1⟩, n1, o1, oc1, od1, oe1⟩, _⟩ := I.list ha
  obtain ⟨its2, r2, ⟨⟨c2, d2, dt2, sl2⟩, n2, o2, oc2, od2, oe2⟩, _⟩ := I.list hb
  simp only at oc1 od1 oe1 oc2 od2 oe2
  subst oc1 od1 oe1 oc2 od2 oe2
  have hl1 := r.length
  have hl2 := r2.length
  have ez : its.toArray ++ its2.toArray = (its ++ its2).toArray := by simp
  refine concat_meets ⟨_, o1, rfl⟩ ⟨_, o2, rfl⟩ noFill_list_add seq_list_add PySem.F.slot_list_add PySem.F.entry_list_add (PySem.F.args_list_add_2 _ _) (list_addW a b its.toArray its2.toArray n1 n2 none none sl1 sl2 (by simp; omega)) ⟨o1, o2, ?_⟩
  rw [ez]
  have hf : H s.heap.objs.size = none := I.hok.fresh (Nat.le_refl _)
  refine ⟨.ref s.heap.objs.size, upd H s.heap.objs.size (.lst (xs ++ ys)), I.laid (t' := s.toks) (fun c w e => Heap.get?_push_of_some _ e) (Nat.le_refl _) ?_, rfl, q _ hf⟩
  exact ⟨by rw [List.length_append]; exact hz, its ++ its2, 0, r.append r2, Heap.get?_push_size _ rfl⟩
end

def addD (a b : D) : Option D :=
  match a, b with
  | .int i, .int j => some (.int (i + j))
  | .str x, .str y => if x.length + y.length ≤ 16777216 then some (.str (x ++ y)) else none
  | a, b => match tupOf a, tupOf b with
    | some xs, some ys => if xs.length + ys.length ≤ 16777216 then some (if xs.isEmpty = true then b else if ys.isEmpty = true then a else .tup (xs ++ ys)) else none
    | _, _ => match lstOf a, lstOf b with
      | some xs, some ys => if xs.length + ys.length ≤ 16777216 then some (.lst (xs ++ ys)) else none
      | _, _ => none
theorem addD_tup (xs ys : List D) : addD (.tup xs) (.tup ys) = if xs.length + ys.length ≤ 16777216 then some (.tup (xs ++ ys)) else none := by
  unfold addD
  simp only [tupOf]
  split
  · cases xs with
    | nil => simp
    | cons x xs => cases ys with
      | nil => simp
      | cons y ys => simp
  · rfl
theorem addD_lst (xs ys : List D) : addD (.lst xs) (.lst ys) = if xs.length + ys.length ≤ 16777216 then some (.lst (xs ++ ys)) else none := rfl
def mulOk (i j : Int) : Bool := decide (-18446744073709551616 < i ∧ i < 18446744073709551616) || decide (-18446744073709551616 < j ∧ j < 18446744073709551616) || decide (i.natAbs.log2 + j.natAbs.log2 < 1000000)
def mulD (a b : D) : Option D :=
  match a, b with
  | .int i, .int j => if mulOk i j = true then some (.int (i * j)) else none
  | .tup xs, .int k => if xs ≠ [] ∧ 2 ≤ k ∧ k ≤ 1000 ∧ xs.length ≤ 1000 then some (.tup (List.replicate k.toNat xs).flatten) else none
  | .lst xs, .int k => if 0 ≤ k ∧ k ≤ 1000 ∧ xs.length ≤ 1000 then some (.lst (List.replicate k.toNat xs).flatten) else none
  | _, _ => none
def subD (a b : D) : Option D :=
  match a, b with
  | .int i, .int j => some (.int (i - j))
  | _, _ => none
def fdivD (a b : D) : Option D :=
  match a, b with
  | .int i, .int j => if j ≠ 0 ∧ (j.natAbs < 1073741824 ∨ (0 < j ∧ j.natAbs.log2 < 9000)) then some (.int (i.fdiv j)) else none
  | _, _ => none
def modD (a b : D) : Option D :=
  match a, b with
  | .int i, .int j => if j ≠ 0 then some (.int (i.fmod j)) else none
  | _, _ => none
def powD (a b : D) : Option D :=
  match a, b with
  | .int i, .int j => if 0 ≤ j ∧ j ≤ 1000000 ∧ i.natAbs < 2 ^ 64 then some (.int (i ^ j.toNat)) else none
  | _, _ => none
def negD (a : D) : Option D :=
  match a with
  | .int i => some (.int (-i))
  | _ => none
section
variable {X : Cx} {T : List (Addr × Str)} {W : WX} {a b : Expr} {f1 f2 : Fx} {pos : Pos}
theorem p_int {g : D → D → Option D} {C : Int → Int → Prop} {h : Int → Int → Int} (hg : ∀ a b d, g a b = some d → ∃ i j, a = .int i ∧ b = .int j ∧ C i j ∧ d = .int (h i j)) : P2 X.K T g (rI C fun i j => .int (h i j)) := by
  intro mg bad μ M H a b x y d Q E rm r1 r2 e q
  obtain ⟨i, j, rfl, rfl, c, rfl⟩ := hg a b d e
  cases r1.int
  cases r2.int
  exact ⟨i, j, rfl, rfl, c, Post.hereD q rm (.int _)⟩
theorem de_sub (ha : DE X T W a f1) (hb : DE X T W b f2) : DE X T W (.BinOp a .Sub b pos) (op2F subD f1 f2) :=
  de_op2 (fun h1 h2 => pe_op op_sub h1 h2) (fun mg bad μ M H a b x y d Q E rm r1 r2 e q => by
    obtain ⟨i, j, e1, e2, _, e3⟩ := p_int (X := X) (T := T) (g := subD) (C := fun _ _ => True) (h := fun i j => i - j) (fun a b d e => by
      unfold subD at e
      split at e
      · exact ⟨_, _, rfl, rfl, trivial, (Option.some.inj e).symm⟩
      · cases e) mg bad μ M H a b x y d Q E rm r1 r2 e q
    exact ⟨i, j, e1, e2, e3⟩) ha hb
theorem de_mod (ha : DE X T W a f1) (hb : DE X T W b f2) : DE X T W (.BinOp a .Mod b pos) (op2F modD f1 f2) :=
  de_op2 (fun h1 h2 => pe_op op_modN h1 h2) (p_int fun a b d e => by
    unfold modD at e
    split at e
    · split at e
      · rename_i c
        exact ⟨_, _, rfl, rfl, c, (Option.some.inj e).symm⟩
      · cases e
    · cases e) ha hb
theorem de_pow (ha : DE X T W a f1) (hb : DE X T W b f2) : DE X T W (.BinOp a .Pow b pos) (op2F powD f1 f2) :=
  de_op2 (fun h1 h2 => pe_op op_pow h1 h2) (p_int fun a b d e => by
    unfold powD at e
    split at e
    · split at e
      · rename_i c
        exact ⟨_, _, rfl, rfl, c, (Option.some.inj e).symm⟩
      · cases e
    · cases e) ha hb
theorem de_fdiv (ha : DE X T W a f1) (hb : DE X T W b f2) : DE X T W (.BinOp a .FloorDiv b pos) (op2F fdivD f1 f2) :=
  de_op2 (fun h1 h2 => pe_op (op_fdivN.or op_fdivW) h1 h2) (fun mg bad μ M H a b x y d Q E rm r1 r2 e q => by
    unfold fdivD at e
    split at e
    · rename_i i j
      split at e
      · rename_i c
        have e' := Option.some.inj e
        subst e'
        cases r1.int
        cases r2.int
        have q' := Post.hereD q rm (.int _)
        rcases c.2 with c2 | c2
        · exact .inl ⟨i, j, rfl, rfl, ⟨c.1, c2⟩, q'⟩
        · refine .inr ⟨i, j, rfl, rfl, c2, ?_⟩
          have ez : i.fdiv j = i / j := Int.fdiv_eq_ediv_of_nonneg i (by omega)
          rw [ez] at q'
          exact q'
      · cases e
    · cases e) ha hb
theorem de_mul (ha : DE X T W a f1) (hb : DE X T W b f2) : DE X T W (.BinOp a .Mult b pos) (op2F mulD f1 f2) :=
  de_op2 (fun h1 h2 => pe_op (op_mul.or (op_mulW.or (op_repT.or op_rep))) h1 h2) (fun mg bad μ M H a b x y d Q E rm r1 r2 e q => by
    unfold mulD at e
    split at e
    · rename_i i j
      split at e
      · rename_i c
        have e' := Option.some.inj e
        subst e'
        cases r1.int
        cases r2.int
        have q' := Post.hereD q rm (.int _)
        unfold mulOk at c
        simp only [Bool.or_eq_true, decide_eq_true_eq] at c
        rcases c with (c | c) | c
        · exact .inl ⟨i, j, rfl, rfl, .inl c, q'⟩
        · exact .inl ⟨i, j, rfl, rfl, .inr c, q'⟩
        · exact .inr (.inl ⟨i, j, rfl, rfl, c, q'⟩)
      · cases e
    · rename_i xs k
      split at e
      · rename_i c
        have e' := Option.some.inj e
        subst e'
        cases r1.tup with
        | @tup _ p vs t r =>
        cases r2.int
        have hl := r.length
        refine .inr (.inr (.inl ⟨p, k, vs, rfl, rfl, t.sq, ?_, c.2.1, c.2.2.1, by rw [← hl]; exact c.2.2.2, fun p' hp' => ?_⟩))
        · rintro rfl
          cases r
          exact c.1 rfl
        · refine Post.tup q rm ?_ ?_ hp'
          · generalize k.toNat = n
            induction n with
            | zero => exact .nil
            | succ n ih => rw [List.replicate_succ, List.replicate_succ, List.flatten_cons, List.flatten_cons]; exact r.app ih
          · have e1 : (List.replicate k.toNat vs).flatten.length = k.toNat * vs.length := by simp
            rw [e1, sizeLine_eq]
            have h1 : k.toNat ≤ 1000 := by omega
            have h2 : vs.length ≤ 1000 := by rw [← hl]; exact c.2.2.2
            have h3 : k.toNat * vs.length ≤ 1000 * 1000 := Nat.mul_le_mul h1 h2
            omega
      · cases e
    · rename_i xs k
      split at e
      · rename_i c
        have e' := Option.some.inj e
        subst e'
        cases r2.int
        obtain ⟨p, vs, rfl, z, s, r⟩ : ∃ p vs, x = .ref p ∧ vs.length ≤ sizeLine ∧ H p = some (.lst vs) ∧ RVs X.K bad H xs vs := by
          cases r1 with
          | lst z s r => exact ⟨_, _, rfl, z, s, r⟩
          | of r1 => cases r1 with | lst t r => exact ⟨_, _, rfl, t.1, t.2.1, r⟩
        have hl := r.length
        have h3 : vs.length * k.toNat ≤ 1000 * 1000 := Nat.mul_le_mul (by rw [← hl]; exact c.2.2) (by omega)
        refine .inr (.inr (.inr ⟨p, k, vs, rfl, rfl, s, by omega, by omega, by rw [sizeLine_eq]; omega, fun p' hp' => Post.lst q rm ?_ ?_ hp'⟩))
        · generalize k.toNat = n
          induction n with
          | zero => exact .nil
          | succ n ih => rw [List.replicate_succ, List.replicate_succ, List.flatten_cons, List.flatten_cons]; exact r.app ih
        · have e1 : (List.replicate k.toNat vs).flatten.length = k.toNat * vs.length := by simp
          rw [e1, sizeLine_eq, Nat.mul_comm]
          omega
      · cases e
    · cases e) ha hb
theorem de_neg (ha : DE X T W a f1) : DE X T W (.UnaryOp .USub a pos) (op1F negD f1) :=
  de_op1 (fun h1 => pe_un un_neg h1) (fun mg bad μ M H a x d Q E rm r1 e q => by
    unfold negD at e
    split at e
    · have e' := Option.some.inj e
      subst e'
      cases r1.int
      exact ⟨_, rfl, Post.hereD q rm (.int _)⟩
    · cases e) ha
theorem de_add (ha : DE X T W a f1) (hb : DE X T W b f2) : DE X T W (.BinOp a .Add b pos) (op2F addD f1 f2) :=
  de_op2 (fun h1 h2 => pe_op (op_add.or (op_add_str.or (op_catA.or op_catL))) h1 h2) (fun mg bad μ M H a b x y d Q E rm r1 r2 e q => by
    unfold addD at e
    split at e
    · have e' := Option.some.inj e
      subst e'
      cases r1.int
      cases r2.int
      exact .inl ⟨_, _, rfl, rfl, Post.hereD q rm (.int _)⟩
    · split at e
      · rename_i c
        have e' := Option.some.inj e
        subst e'
        cases r1.str
        cases r2.str
        exact .inr (.inl ⟨_, _, rfl, rfl, by rw [sizeLine_eq]; exact c, Post.hereD q rm (.str _)⟩)
      · cases e
    · split at e
      · rename_i xs ys t1 t2
        split at e
        · rename_i c
          have e' := Option.some.inj e
          subst e'
          obtain ⟨p, vs, rfl, z1, s1, rr1⟩ := r1.tupOf t1
          obtain ⟨p2, ws, rfl, z2, s2, rr2⟩ := r2.tupOf t2
          have h1 := rr1.length
          have h2 := rr2.length
          have hz : vs.length + ws.length ≤ sizeLine := by rw [← h1, ← h2, sizeLine_eq]; exact c
          refine .inr (.inr (.inl ⟨p, p2, vs, ws, rfl, rfl, s1, s2, hz, fun z => ?_, fun z z2 => ?_, fun z z2 p' hp' => ?_⟩))
          · subst z
            cases rr1
            exact Post.hereD q rm (r2.rvT t2)
          · subst z2
            cases rr2
            cases rr1 with
            | nil => exact absurd rfl z
            | cons x y => exact Post.hereD q rm (r1.rvT t1)
          · cases rr1 with
            | nil => exact absurd rfl z
            | cons x y =>
              cases rr2 with
              | nil => exact absurd rfl z2
              | cons x2 y2 => exact Post.tup q rm ((RVs.cons x y).app (.cons x2 y2)) (by rw [List.length_append]; exact hz) hp'
        · cases e
      · split at e
        · rename_i xs ys e1 e2
          split at e
          · rename_i c
            have e' := Option.some.inj e
            subst e'
            obtain ⟨p, vs, rfl, z1, s1, rr1⟩ := r1.lstOf e1
            obtain ⟨p2, ws, rfl, z2, s2, rr2⟩ := r2.lstOf e2
            have h1 := rr1.length
            have h2 := rr2.length
            have hz : vs.length + ws.length ≤ sizeLine := by rw [← h1, ← h2, sizeLine_eq]; exact c
            exact .inr (.inr (.inr ⟨p, p2, vs, ws, rfl, rfl, s1, s2, hz, fun p' hp' => Post.lst q rm (rr1.app rr2) (by rw [List.length_append]; exact hz) hp'⟩))
          · cases e
        · cases e) ha hb
end
end Mp
namespace Mp
open PySem PySem.Spec PyProof.Rows L2

mutual
def toP0 : D → Option PyData
  | .non => some .none
  | .bl b => some (.bool b)
  | .int i => some (.int i)
  | .str x => some (.str x)
  | .tup ds => (toPs ds).map .tuple
  | .lst ds => (toPs ds).map .list
  | .kup ds => (toPs ds).map .tuple
  | .scr ns => some (.list (ns.map .int))
def toPs : List D → Option (List PyData)
  | [] => some []
  | d :: ds => match toP0 d, toPs ds with
    | some p, some ps => some (p :: ps)
    | _, _ => none
end
section
variable {K : PySem.W.Frag} {T : List (Addr × Str)} {bad μ : List Addr} {M : Mem} {H : Hp}
theorem DpAll.ints {K : PySem.W.Frag} {H : Hp} : ∀ ns : List Int, DpAll K H (ns.map V.int) (ns.map PyData.int)
  | [] => .nil
  | n :: ns => .cons (.int n) (DpAll.ints ns)
mutual
theorem RV.dp : ∀ {d : D} {v : V} {p : PyData}, RV K bad H d v → toP0 d = some p → Dp K H v p
  | _, _, _, .non, e => by cases e; exact .non
  | _, _, _, .bl b, e => by cases e; exact .bl b
  | _, _, _, .int i, e => by cases e; exact .int i
  | _, _, _, .str x, e => by cases e; exact .str x
  | _, _, _, .tup (ds := ds) t r, e => by
    cases h : toPs ds with
    | none => simp [toP0, h] at e
    | some ps => simp [toP0, h] at e; subst e; exact .tup t.sq (RVs.dp r h)
  | _, _, _, .lst (ds := ds) t r, e => by
    cases h : toPs ds with
    | none => simp [toP0, h] at e
    | some ps => simp [toP0, h] at e; subst e; exact .lst t.sq (RVs.dp r h)
  | _, _, _, .kup (ds := ds) z k r, e => by
    cases h : toPs ds with
    | none => simp [toP0, h] at e
    | some ps => simp [toP0, h] at e; subst e; exact .tup (k H) (RVs.dp r h)
  | _, _, _, .scr (ns := ns) t, e => by
    simp [toP0] at e
    subst e
    exact .lst t.sq (DpAll.ints ns)
theorem RVs.dp : ∀ {ds : List D} {vs : List V} {ps : List PyData}, RVs K bad H ds vs → toPs ds = some ps → DpAll K H vs ps
  | _, _, _, .nil, e => by cases e; exact .nil
  | _, _, _, .cons (d := d) (ds := ds) r t, e => by
    cases h : toP0 d with
    | none => simp [toPs, h] at e
    | some p =>
      cases h2 : toPs ds with
      | none => simp [toPs, h, h2] at e
      | some ps => simp [toPs, h, h2] at e; subst e; exact .cons (RV.dp r h) (RVs.dp t h2)
end
theorem RW.dp {d : D} {v : V} {p : PyData} (rv : RW K bad H d v) (e : toP0 d = some p) : Dp K H v p := by
  cases rv with
  | of rv => exact rv.dp e
  | @lst xs a vs z s r =>
    cases h : toPs xs with
    | none => simp [toP0, h] at e
    | some ps => simp [toP0, h] at e; subst e; exact .lst (.of s) (RVs.dp r h)
end

/-- a == b -/
def eqD (a b : D) : Option Bool :=
  match a, b with
  | .int i, .int j => some (decide (i = j))
  | .str x, .str y => some (decide (x = y))
  | .bl i, .bl j => some (decide (i = j))
  | a, b => match toP0 a, toP0 b with
    | some p, some q => if SeqAt.shaped p = true ∧ SeqAt.shaped q = true then some (PyData.eqv p q) else none
    | _, _ => none
def neD (a b : D) : Option Bool := (eqD a b).map (!·)
/-- a < b -/
def ordOk (p q : PyData) : Bool := PySem.W.alike p q && (match p with | .none => false | _ => true) && decide (p.depth ≤ 64)
def ordD (f : PyData → PyData → Bool) (a b : D) : Option Bool :=
  match toP0 a, toP0 b with
  | some p, some q => if ordOk p q = true then some (f p q) else none
  | _, _ => none
def ltD (a b : D) : Option Bool := match a, b with | .int i, .int j => some (decide (i < j)) | a, b => ordD (fun p q => PySem.W.dataLt p q) a b
def gtD (a b : D) : Option Bool := match a, b with | .int i, .int j => some (decide (j < i)) | a, b => ordD (fun p q => PySem.W.dataLt q p) a b
def leD (a b : D) : Option Bool := match a, b with | .int i, .int j => some (decide (i ≤ j)) | a, b => ordD (fun p q => !PySem.W.dataLt q p) a b
def geD (a b : D) : Option Bool := match a, b with | .int i, .int j => some (decide (j ≤ i)) | a, b => ordD (fun p q => !PySem.W.dataLt p q) a b
/-- x in c -/
def inD (x c : D) : Option Bool :=
  match toP0 x, seqOf c with
  | some p, some ds => match toPs ds with
    | some ps => if SeqAt.shaped p = true ∧ SeqAt.shaped (.list ps) = true then some (ps.any fun z => PyData.eqv z p) else none
    | none => none
  | _, _ => none
def notinD (x c : D) : Option Bool := (inD x c).map (!·)
/-- a is None -/
def isU (_ : Mem) (a b : U) : Option Bool := match b with
  | .p .non => some (match a with | .p .non => true | _ => false)
  | .p (.bl j) => match a with | .p (.bl i) => some (decide (i = j)) | _ => none
  | _ => none
def isnotU (M : Mem) (a b : U) : Option Bool := (isU M a b).map (!·)

def PB (K : PySem.W.Frag) (g : D → D → Option Bool) (r : R2) : Prop :=
  ∀ (bad : List Addr) (H : Hp) (a b : D) (x y : V) (k : Bool) (Q : VK), RW K bad H a x → RW K bad H b y → g a b = some k → Q (.bl k) H → r x y H Q
/-- the comparison's rule, told by data -/
structure Cmp (X : Cx) (T : List (Addr × Str)) (op : CmpOp) (g : Mem → U → U → Option Bool) : Prop where
  ex : ∃ r, OpR X (compareOp op) r ∧ ∀ (bad μ : List Addr) (M : Mem) (H : Hp) (a b : U) (x y : V) (k : Bool) (Q : VK), RM X.K T bad μ M H → RU X.K bad μ H a x → RU X.K bad μ H b y → g M a b = some k → Q (.bl k) H → r x y H Q
def dC (g : D → D → Option Bool) (M : Mem) (a b : U) : Option Bool := match deref M a, deref M b with
  | some x, some y => g x y
  | _, _ => none
theorem Cmp.of {X : Cx} {T : List (Addr × Str)} {op : CmpOp} {g : D → D → Option Bool} {r : R2} (h : OpR X (compareOp op) r) (hp : PB X.K g r) : Cmp X T op (dC g) := ⟨r, h, fun bad μ M H a b x y k Q rm ra rb e q => by
  unfold dC at e
  split at e
  · rename_i p q' e1 e2
    exact hp bad H _ _ x y k Q (rm.deref ra e1) (rm.deref rb e2) e q
  · cases e⟩
section
variable {X : Cx} {T : List (Addr × Str)} {W : WX} {k : Nat}
theorem cmp_eq (hu : X.A.units + 64 < cLine) : Cmp X T .Eq (dC eqD) := .of (op_eq.or (op_eqD hu)) (fun bad H a b x y k Q ra rb e q => by
  unfold eqD at e
  split at e
  · have e' := Option.some.inj e
    subst e'
    cases ra.int; cases rb.int
    rename_i i j
    refine .inl ⟨rfl, ?_⟩
    have z : decide (V.int i = V.int j) = decide (i = j) := by simp
    rw [z]; exact q
  · have e' := Option.some.inj e
    subst e'
    cases ra.str; cases rb.str
    rename_i i j
    refine .inl ⟨rfl, ?_⟩
    have z : decide (V.str i = V.str j) = decide (i = j) := by simp
    rw [z]; exact q
  · have e' := Option.some.inj e
    subst e'
    cases ra.bl; cases rb.bl
    rename_i i j
    refine .inl ⟨rfl, ?_⟩
    have z : decide (V.bl i = V.bl j) = decide (i = j) := by simp
    rw [z]; exact q
  · split at e
    · rename_i p q' e1 e2
      split at e
      · rename_i c
        have e' := Option.some.inj e
        subst e'
        exact .inr ⟨p, q', ra.dp e1, rb.dp e2, c.1, c.2, q⟩
      · cases e
    · cases e)
theorem cmp_ne (hu : X.A.units + 64 < cLine) : Cmp X T .NotEq (dC neD) := .of (op_ne.or (op_neD hu)) (fun bad H a b x y k Q ra rb e q => by
  unfold neD at e
  cases e0 : eqD a b with
  | none => rw [e0] at e; cases e
  | some k0 =>
    rw [e0] at e
    have ek : (!k0) = k := Option.some.inj e
    subst ek
    unfold eqD at e0
    split at e0
    · have e' := Option.some.inj e0
      subst e'
      cases ra.int; cases rb.int
      rename_i i j
      refine .inl ⟨rfl, ?_⟩
      have z : decide (V.int i = V.int j) = decide (i = j) := by simp
      rw [z]; exact q
    · have e' := Option.some.inj e0
      subst e'
      cases ra.str; cases rb.str
      rename_i i j
      refine .inl ⟨rfl, ?_⟩
      have z : decide (V.str i = V.str j) = decide (i = j) := by simp
      rw [z]; exact q
    · have e' := Option.some.inj e0
      subst e'
      cases ra.bl; cases rb.bl
      rename_i i j
      refine .inl ⟨rfl, ?_⟩
      have z : decide (V.bl i = V.bl j) = decide (i = j) := by simp
      rw [z]; exact q
    · split at e0
      · rename_i p q' e1 e2
        split at e0
        · rename_i c
          have e' := Option.some.inj e0
          subst e'
          exact .inr ⟨p, q', ra.dp e1, rb.dp e2, c.1, c.2, q⟩
        · cases e0
      · cases e0)
/-- what an order asks of two data -/
def rOrd (K : PySem.W.Frag) (f : PyData → PyData → Bool) : R2 := fun x y H Q => ∃ p q, Dp K H x p ∧ Dp K H y q ∧ ordOk p q = true ∧ Q (.bl (f p q)) H
theorem op_ord {op : CmpOp} {f : PyData → PyData → Bool} (hu : X.A.units + 64 < cLine)
    (rule : ∀ (E : Value → Shared → Prop) (s : Shared) (a b : Value) (da db : PyData) (as bs : List Addr) (Q : Value → Shared → Prop), Reads s.heap a da as → Reads s.heap b db bs → PySem.W.alike da db = true → da ≠ .none → X.A.units + min da.depth db.depth < cLine → Q (.bool (f da db)) s → wpAny (model X.prog X.w) X.A (compareOp op a b) Q E s) :
    OpR X (compareOp op) (rOrd X.K f) := by
  intro pins s σ H x y v u Q I rx ry h
  obtain ⟨p, q, hp, hq, hk, h⟩ := h
  obtain ⟨as, r1⟩ := Dp.reads I p x v hp rx
  obtain ⟨bs, r2⟩ := Dp.reads I q y u hq ry
  unfold ordOk at hk
  simp only [Bool.and_eq_true, decide_eq_true_eq] at hk
  refine rule _ s v u p q as bs _ r1 r2 hk.1.1 (fun z => ?_) ?_ ⟨.bl _, H, I, rfl, h⟩
  · subst z
    simp at hk
  · have h1 : min p.depth q.depth ≤ p.depth := Nat.min_le_left _ _
    have h2 := hk.2
    omega
theorem ord_pb {K : PySem.W.Frag} {f : PyData → PyData → Bool} {c : Int → Int → Bool} {g : D → D → Option Bool} (hg : ∀ a b k, g a b = some k → (∃ i j, a = .int i ∧ b = .int j ∧ k = c i j) ∨ ordD f a b = some k) :
    PB K g (fun x y H Q => (∃ i j, x = .int i ∧ y = .int j ∧ Q (.bl (c i j)) H) ∨ rOrd K f x y H Q) := fun bad H a b x y k Q ra rb e q => by
  rcases hg a b k e with ⟨i, j, rfl, rfl, rfl⟩ | e
  · cases ra.int; cases rb.int
    exact .inl ⟨i, j, rfl, rfl, q⟩
  · unfold ordD at e
    split at e
    · rename_i p q' e1 e2
      split at e
      · rename_i hc
        have e' := Option.some.inj e
        subst e'
        exact .inr ⟨p, q', ra.dp e1, rb.dp e2, hc, q⟩
      · cases e
    · cases e
theorem cmp_lt (hu : X.A.units + 64 < cLine) : Cmp X T .Lt (dC ltD) := .of (op_lt.or (op_ord hu fun E s a b da db as bs Q r1 r2 h hn hz hq => PySem.W.lt_data r1 r2 h hn hz hq)) (ord_pb (c := fun i j => decide (i < j)) fun a b k e => by
  unfold ltD at e
  split at e
  · exact .inl ⟨_, _, rfl, rfl, (Option.some.inj e).symm⟩
  · exact .inr e)
theorem cmp_gt (hu : X.A.units + 64 < cLine) : Cmp X T .Gt (dC gtD) := .of (op_gt.or (op_ord hu fun E s a b da db as bs Q r1 r2 h hn hz hq => PySem.W.gt_data r1 r2 h hn hz hq)) (ord_pb (c := fun i j => decide (j < i)) fun a b k e => by
  unfold gtD at e
  split at e
  · exact .inl ⟨_, _, rfl, rfl, (Option.some.inj e).symm⟩
  · exact .inr e)
theorem cmp_le (hu : X.A.units + 64 < cLine) : Cmp X T .LtE (dC leD) := .of (op_le.or (op_ord hu fun E s a b da db as bs Q r1 r2 h hn hz hq => PySem.W.le_data r1 r2 h hn hz hq)) (ord_pb (c := fun i j => decide (i ≤ j)) fun a b k e => by
  unfold leD at e
  split at e
  · exact .inl ⟨_, _, rfl, rfl, (Option.some.inj e).symm⟩
  · exact .inr e)
theorem cmp_ge (hu : X.A.units + 64 < cLine) : Cmp X T .GtE (dC geD) := .of (op_ge.or (op_ord hu fun E s a b da db as bs Q r1 r2 h hn hz hq => PySem.W.ge_data r1 r2 h hn hz hq)) (ord_pb (c := fun i j => decide (j ≤ i)) fun a b k e => by
  unfold geD at e
  split at e
  · exact .inl ⟨_, _, rfl, rfl, (Option.some.inj e).symm⟩
  · exact .inr e)
/-- in, over tuples, too -/
def rInT (K : PySem.W.Frag) (f : Bool → Bool) : R2 := fun x y H Q => ∃ d ds a vs, Dp K H x d ∧ y = .ref a ∧ (SqL K H a vs ∨ SqT K H a vs) ∧ DpAll K H vs ds ∧ SeqAt.shaped d = true ∧ SeqAt.shaped (.list ds) = true ∧ Q (.bl (f (ds.any fun z => PyData.eqv z d))) H
theorem op_inT (hu : X.A.units + 65 < cLine) : OpR X (compareOp .In) (rInT X.K id) := by
  intro pins s σ H x y v u Q I rx ry h
  obtain ⟨d, ds, a, vs, hd, rfl, hs, hds, sd, se, q⟩ := h
  obtain ⟨as, r1⟩ := Dp.reads I d x v hd rx
  rcases hs with hs | hs
  · obtain ⟨bs, r2⟩ := Dp.reads I (.list ds) _ u (.lst hs hds) ry
    exact SeqAt.in_list_reads r2 r1 (SeqAt.canLay_of_shaped se) (SeqAt.canLay_of_shaped sd) (room_in_shaped sd hu) ⟨.bl _, H, I, rfl, q⟩
  · obtain ⟨bs, r2⟩ := Dp.reads I (.tuple ds) _ u (.tup hs hds) ry
    exact SeqAt.in_tuple_reads r2 r1 (SeqAt.canLay_of_shaped se) (SeqAt.canLay_of_shaped sd) (room_in_shaped sd hu) ⟨.bl _, H, I, rfl, q⟩
theorem op_notinT (hu : X.A.units + 65 < cLine) : OpR X (compareOp .NotIn) (rInT X.K (!·)) := by
  intro pins s σ H x y v u Q I rx ry h
  obtain ⟨d, ds, a, vs, hd, rfl, hs, hds, sd, se, q⟩ := h
  obtain ⟨as, r1⟩ := Dp.reads I d x v hd rx
  rcases hs with hs | hs
  · obtain ⟨bs, r2⟩ := Dp.reads I (.list ds) _ u (.lst hs hds) ry
    exact SeqAt.notIn_list_reads r2 r1 (SeqAt.canLay_of_shaped se) (SeqAt.canLay_of_shaped sd) (room_in_shaped sd hu) ⟨.bl _, H, I, rfl, q⟩
  · obtain ⟨bs, r2⟩ := Dp.reads I (.tuple ds) _ u (.tup hs hds) ry
    exact SeqAt.notIn_tuple_reads r2 r1 (SeqAt.canLay_of_shaped se) (SeqAt.canLay_of_shaped sd) (room_in_shaped sd hu) ⟨.bl _, H, I, rfl, q⟩
theorem inD_some {x c : D} {k : Bool} (e : inD x c = some k) : ∃ p ds ps, toP0 x = some p ∧ seqOf c = some ds ∧ toPs ds = some ps ∧ SeqAt.shaped p = true ∧ SeqAt.shaped (.list ps) = true ∧ k = (ps.any fun z => PyData.eqv z p) := by
  unfold inD at e
  split at e
  · rename_i p ds e1 e2
    split at e
    · rename_i ps e3
      split at e
      · rename_i hc
        exact ⟨p, ds, ps, e1, e2, e3, hc.1, hc.2, (Option.some.inj e).symm⟩
      · cases e
    · cases e
  · cases e
theorem cmp_in (hu : X.A.units + 65 < cLine) : Cmp X T .In (dC inD) := .of (op_inT hu) (fun bad H a b x y k Q ra rb e q => by
  obtain ⟨p, ds, ps, e1, e2, e3, h1, h2, rfl⟩ := inD_some e
  obtain ⟨p', vs, rfl, z, s, r⟩ := rb.seq e2
  exact ⟨p, ps, p', vs, ra.dp e1, rfl, s, RVs.dp r e3, h1, h2, q⟩)
theorem cmp_notin (hu : X.A.units + 65 < cLine) : Cmp X T .NotIn (dC notinD) := .of (op_notinT hu) (fun bad H a b x y k Q ra rb e q => by
  unfold notinD at e
  cases e0 : inD a b with
  | none => rw [e0] at e; cases e
  | some k0 =>
    rw [e0] at e
    have ek : (!k0) = k := Option.some.inj e
    subst ek
    obtain ⟨p, ds, ps, e1, e2, e3, h1, h2, rfl⟩ := inD_some e0
    obtain ⟨p', vs, rfl, z, s, r⟩ := rb.seq e2
    exact ⟨p, ps, p', vs, ra.dp e1, rfl, s, RVs.dp r e3, h1, h2, q⟩)
theorem cmp_is : Cmp X T .Is isU := ⟨_, op_isN.or op_isBl, fun bad μ M H a b x y k Q rm ra rb e q => by
  unfold isU at e
  split at e
  · cases rb with
    | p rb =>
      cases rb
      refine .inl ⟨rfl, ?_⟩
      have e' := Option.some.inj e
      subst e'
      cases ra with
      | p ra => cases ra <;> exact q
      | loc h => exact q
  · cases rb with
    | p rb =>
      cases rb
      split at e
      · cases ra with
        | p ra =>
          cases ra
          have e' := Option.some.inj e
          subst e'
          exact .inr ⟨_, _, rfl, rfl, q⟩
      · cases e
  · cases e⟩
theorem cmp_isnot : Cmp X T .IsNot isnotU := ⟨_, op_notN.or op_notBl, fun bad μ M H a b x y k Q rm ra rb e q => by
  unfold isnotU at e
  cases e0 : isU M a b with
  | none => rw [e0] at e; cases e
  | some k0 =>
    rw [e0] at e
    have ek : (!k0) = k := Option.some.inj e
    subst ek
    unfold isU at e0
    split at e0
    · cases rb with
      | p rb =>
        cases rb
        refine .inl ⟨rfl, ?_⟩
        have e' := Option.some.inj e0
        subst e'
        cases ra with
        | p ra => cases ra <;> exact q
        | loc h => exact q
    · cases rb with
      | p rb =>
        cases rb
        split at e0
        · cases ra with
          | p ra =>
            cases ra
            have e' := Option.some.inj e0
            subst e'
            exact .inr ⟨_, _, rfl, rfl, q⟩
        · cases e0
    · cases e0⟩
end
end Mp
namespace Mp
open PySem PySem.Spec PyProof.Rows L2

def cmpB (g : Mem → U → U → Option Bool) (f1 f2 : Fx) : Fb := fun Γ M => (f1 Γ M).bind fun a M1 => (f2 Γ M1).bind fun b M2 => optB (g M2 a b) M2
def valF (f : Fb) : Fx := fun Γ M => (f Γ M).bind fun k M1 => .ok (.p (.bl k)) M1
/-- a op b op' c -/
def chainB (g g' : Mem → U → U → Option Bool) (f1 f2 f3 : Fx) : Fb := fun Γ M => (f1 Γ M).bind fun a M1 => (f2 Γ M1).bind fun b M2 => (optB (g M2 a b) M2).bind fun k M3 =>
  match k with
  | true => (f3 Γ M3).bind fun c M4 => optB (g' M4 b c) M4
  | false => .ok false M3
def andB (f g : Fb) : Fb := fun Γ M => (f Γ M).bind fun k M1 => match k with | true => g Γ M1 | false => .ok false M1
def orB (f g : Fb) : Fb := fun Γ M => (f Γ M).bind fun k M1 => match k with | true => .ok true M1 | false => g Γ M1
def notB (f : Fb) : Fb := fun Γ M => (f Γ M).bind fun k M1 => .ok (!k) M1
def truD : D → Option Bool
  | .non => some false
  | .bl b => some b
  | .int i => some (i != 0)
  | .str x => if x.length ≤ 16777216 then some ((x.length : Int) != 0) else none
  | .tup ds => some (!ds.isEmpty)
  | .lst ds => some (!ds.isEmpty)
  | .kup ds => some (!ds.isEmpty)
  | .scr ns => some (!ns.isEmpty)
def truB (f : Fx) : Fb := fun Γ M => (f Γ M).bind fun d M1 => match deref M1 d with | some x => optB (truD x) M1 | none => .stuck
/-- and, or of values: all but the last are truth values -/
def andF (f g : Fx) : Fx := fun Γ M => (f Γ M).bind fun d M1 => match d with | .p (.bl true) => g Γ M1 | .p (.bl false) => .ok (.p (.bl false)) M1 | _ => .stuck
def orF (f g : Fx) : Fx := fun Γ M => (f Γ M).bind fun d M1 => match d with | .p (.bl true) => .ok (.p (.bl true)) M1 | .p (.bl false) => g Γ M1 | _ => .stuck
def notF (f : Fx) : Fx := fun Γ M => (f Γ M).bind fun d M1 => match d with | .p (.bl k) => .ok (.p (.bl (!k))) M1 | _ => .stuck
def ifF (c : Fb) (f g : Fx) : Fx := fun Γ M => (c Γ M).bind fun k M1 => match k with | true => f Γ M1 | false => g Γ M1

section
variable {X : Cx} {T : List (Addr × Str)} {W : WX} {a b c e : Expr} {f1 f2 f3 : Fx} {g1 g2 : Fb} {pos : Pos} {op op' : CmpOp} {g g' : Mem → U → U → Option Bool}
/-- the wish of the truth value as one of the value -/
theorem Post.val {K : PySem.W.Frag} {mg : Str → Option Value} {bad μ : List Addr} {H : Hp} {Q : VK} {E : XK} {r : Res Bool} (h : Post K mg T bad μ H (r.bind fun k M1 => .ok (.p (.bl k)) M1) Q E) : PostB K mg T bad μ H r (fun k H' => Q (.bl k) H') E := by
  cases r with
  | ok k M => exact fun ν H' g rm => h ν (.bl k) H' g rm (.p (.bl k))
  | exc x M => exact h
  | stuck => exact h
theorem dt_cmp (hc : Cmp X T op g) (ha : DE X T W a f1) (hb : DE X T W b f2) (hm : behindInMarks op b = false := by rfl) : DT X T W (.Compare a [op] [b] pos) (cmpB g f1 f2) := by
  obtain ⟨r, ho, hp⟩ := hc.ex
  refine ⟨ptW (pt_cmpR ho ha.pe hb.pe hm) fun σ H Q ⟨bad, μ, Γ, M, rm, rg, h⟩ => ?_⟩
  refine ⟨bad, μ, Γ, M, rm, rg, (PostB.bind h).mono ?_⟩
  rintro x H1 ⟨ν, d1, M1, q1, rm1, rv1, h1⟩
  refine ⟨_, _, Γ, M1, rm1, rg.gr q1 rm.sub, (PostB.bind h1).mono ?_⟩
  rintro y H2 ⟨ν2, d2, M2, q2, rm2, rv2, h2⟩
  obtain ⟨k, e1, h3⟩ := PostB.opt h2
  exact hp _ _ _ _ _ _ _ _ _ _ rm2 (rv1.gr q2 rm1.sub) rv2 e1 ⟨k, rfl, PostB.here h3 rm2⟩
theorem de_cmp (hc : Cmp X T op g) (ha : DE X T W a f1) (hb : DE X T W b f2) (hm : behindInMarks op b = false := by rfl) : DE X T W (.Compare a [op] [b] pos) (valF (cmpB g f1 f2)) := by
  obtain ⟨r, ho, hp⟩ := hc.ex
  refine ⟨peW (pe_cmpR ho ha.pe hb.pe hm) fun σ H Q ⟨bad, μ, Γ, M, rm, rg, h⟩ => ?_⟩
  refine ⟨bad, μ, Γ, M, rm, rg, (PostB.bind (Post.val h)).mono ?_⟩
  rintro x H1 ⟨ν, d1, M1, q1, rm1, rv1, h1⟩
  refine ⟨_, _, Γ, M1, rm1, rg.gr q1 rm.sub, (PostB.bind h1).mono ?_⟩
  rintro y H2 ⟨ν2, d2, M2, q2, rm2, rv2, h2⟩
  obtain ⟨k, e1, h3⟩ := PostB.opt h2
  exact hp _ _ _ _ _ _ _ _ _ _ rm2 (rv1.gr q2 rm1.sub) rv2 e1 (PostB.here h3 rm2)
abbrev CmpC (K : PySem.W.Frag) (T : List (Addr × Str)) (g : Mem → U → U → Option Bool) (r : R2) : Prop := ∀ (bad μ : List Addr) (M : Mem) (H : Hp) (a b : U) (x y : V) (k : Bool) (Q : VK), RM K T bad μ M H → RU K bad μ H a x → RU K bad μ H b y → g M a b = some k → Q (.bl k) H → r x y H Q
theorem chain_t {r r' : R2} (hp : CmpC X.K T g r) (hp' : CmpC X.K T g' r') {σ : L2.St} {H : Hp} {Q : VK} {bad μ : List Addr} {Γ : Env} {M : Mem} (rm : RM X.K T bad μ M H) (rg : RG X.K bad μ H Γ σ)
    (h : PostB X.K X.mg T bad μ H (chainB g g' f1 f2 f3 Γ M) (fun k H' => Q (.bl k) H') fun c d H' => W c d σ H') :
    tChain r r' (tEv X.K X.mg T W f1) (tEv X.K X.mg T W f2) (tEv X.K X.mg T W f3) σ H Q := by
  refine ⟨bad, μ, Γ, M, rm, rg, (PostB.bind h).mono ?_⟩
  rintro x H1 ⟨ν, d1, M1, q1, rm1, rv1, h1⟩
  refine ⟨_, _, Γ, M1, rm1, rg.gr q1 rm.sub, (PostB.bind h1).mono ?_⟩
  rintro y H2 ⟨ν2, d2, M2, q2, rm2, rv2, h2⟩
  cases e1 : g M2 d1 d2 with
  | none => rw [e1] at h2; exact h2.elim
  | some k =>
    rw [e1] at h2
    refine hp _ _ _ _ _ _ _ _ _ _ rm2 (rv1.gr q2 rm1.sub) rv2 e1 ⟨k, rfl, ?_⟩
    cases k with
    | false =>
      rw [if_neg Bool.false_ne_true]
      exact PostB.here (b := false) h2 rm2
    | true =>
      rw [if_pos rfl]
      refine ⟨_, _, Γ, M2, rm2, (rg.gr q1 rm.sub).gr q2 rm1.sub, (PostB.bind h2).mono ?_⟩
      rintro z H3 ⟨ν3, d3, M3, q3, rm3, rv3, h3⟩
      obtain ⟨k, e2, h4⟩ := PostB.opt h3
      exact hp' _ _ _ _ _ _ _ _ _ _ rm3 (rv2.gr q3 rm2.sub) rv3 e2 (PostB.here h4 rm3)
theorem de_chain (hc : Cmp X T op g) (hc' : Cmp X T op' g') (ha : DE X T W a f1) (hb : DE X T W b f2) (hd : DE X T W c f3) (hm : lastMarks [op, op'] [b, c] = false := by with_unfolding_all rfl) :
    DE X T W (.Compare a [op, op'] [b, c] pos) (valF (chainB g g' f1 f2 f3)) := by
  obtain ⟨r, ho, hp⟩ := hc.ex
  obtain ⟨r', ho', hp'⟩ := hc'.ex
  exact ⟨peW (pe_chain ho ho' ha.pe hb.pe hd.pe hm) fun σ H Q ⟨bad, μ, Γ, M, rm, rg, h⟩ => chain_t hp hp' rm rg (Post.val h)⟩
theorem dt_chain (hc : Cmp X T op g) (hc' : Cmp X T op' g') (ha : DE X T W a f1) (hb : DE X T W b f2) (hd : DE X T W c f3) (hm : lastMarks [op, op'] [b, c] = false := by with_unfolding_all rfl) :
    DT X T W (.Compare a [op, op'] [b, c] pos) (chainB g g' f1 f2 f3) := by
  obtain ⟨r, ho, hp⟩ := hc.ex
  obtain ⟨r', ho', hp'⟩ := hc'.ex
  refine ⟨ptW (pt_chain ho ho' ha.pe hb.pe hd.pe hm) fun σ H Q ⟨bad, μ, Γ, M, rm, rg, h⟩ => ?_⟩
  exact chain_t (Q := fun x H' => ∃ k, x = .bl k ∧ Q k H') hp hp' rm rg (h.mono fun k H' q => ⟨k, rfl, q⟩)

theorem dt_val (he : DE X T W e f1) (hw : ∀ whole, isTrue e X.env whole = (do let v ← whole; standAt e.pos; holding [v] (truthy v)) := by intro _; rfl) : DT X T W e (truB f1) :=
  ⟨ptW (pt_truth he.pe hw) fun σ H Q ⟨bad, μ, Γ, M, rm, rg, h⟩ => by
  refine ⟨bad, μ, Γ, M, rm, rg, (PostB.bind h).mono ?_⟩
  rintro x H1 ⟨ν, d1, M1, q1, rm1, rv1, h1⟩
  split at h1
  · rename_i d e0
    obtain ⟨k, e1, h2⟩ := PostB.opt h1
    refine ⟨k, ?_, PostB.here h2 rm1⟩
    cases rm1.deref rv1 e0 with
    | @lst xs a vs hz s r =>
      have e2 := Option.some.inj e1
      refine .inl ⟨_, .of s, ?_⟩
      rw [← e2]
      cases r <;> simp
    | of rv =>
      cases rv with
      | non => exact (Option.some.inj e1).symm
      | bl b => exact (Option.some.inj e1).symm
      | int i => exact (Option.some.inj e1).symm
      | str x =>
        simp only [truD] at e1
        split at e1
        · rename_i c
          exact ⟨by rw [sizeLine_eq]; exact c, (Option.some.inj e1).symm⟩
        · cases e1
      | tup t r =>
        have e2 := Option.some.inj e1
        refine .inr (.inl ⟨_, t.sq, ?_⟩)
        rw [← e2]
        cases r <;> simp
      | lst t r =>
        have e2 := Option.some.inj e1
        refine .inl ⟨_, t.sq, ?_⟩
        rw [← e2]
        cases r <;> simp
      | kup z k' r =>
        have e2 := Option.some.inj e1
        refine .inr (.inl ⟨_, k' _, ?_⟩)
        rw [← e2]
        cases r <;> simp
      | @scr ns a t =>
        have e2 := Option.some.inj e1
        refine .inl ⟨_, t.sq, ?_⟩
        rw [← e2]
        cases ns <;> simp
  · exact h1.elim⟩
theorem DW.dt (h : DW X T W e g1) : DT X T W e g1 := ⟨h.pw.pt⟩
theorem dw_and1 (ha : DT X T W a g1) : DW X T W (.BoolOp .And [a] pos) g1 := ⟨pw_and1 ha.pt⟩
theorem dw_or1 (ha : DT X T W a g1) : DW X T W (.BoolOp .Or [a] pos) g1 := ⟨pw_or1 ha.pt⟩
theorem dw_and {rest : List Expr} (ha : DT X T W a g1) (hb : DW X T W (.BoolOp .And (b :: rest) pos) g2) : DW X T W (.BoolOp .And (a :: b :: rest) pos) (andB g1 g2) :=
  ⟨pwW (pw_and ha.pt hb.pw) fun σ H Q ⟨bad, μ, Γ, M, rm, rg, h⟩ => by
  refine ⟨bad, μ, Γ, M, rm, rg, (PostB.bindB h).mono ?_⟩
  rintro k H1 ⟨ν, M1, q1, rm1, h1⟩
  cases k with
  | true => rw [if_pos rfl]; exact ⟨_, _, Γ, M1, rm1, rg.gr q1 rm.sub, h1⟩
  | false => rw [if_neg Bool.false_ne_true]; exact PostB.here (b := false) h1 rm1⟩
theorem dw_or {rest : List Expr} (ha : DT X T W a g1) (hb : DW X T W (.BoolOp .Or (b :: rest) pos) g2) : DW X T W (.BoolOp .Or (a :: b :: rest) pos) (orB g1 g2) :=
  ⟨pwW (pw_or ha.pt hb.pw) fun σ H Q ⟨bad, μ, Γ, M, rm, rg, h⟩ => by
  refine ⟨bad, μ, Γ, M, rm, rg, (PostB.bindB h).mono ?_⟩
  rintro k H1 ⟨ν, M1, q1, rm1, h1⟩
  cases k with
  | true => rw [if_pos rfl]; exact PostB.here (b := true) h1 rm1
  | false => rw [if_neg Bool.false_ne_true]; exact ⟨_, _, Γ, M1, rm1, rg.gr q1 rm.sub, h1⟩⟩
theorem dt_not (ha : DT X T W a g1) : DT X T W (.UnaryOp .Not a pos) (notB g1) :=
  ⟨ptW (pt_not ha.pt) fun σ H Q ⟨bad, μ, Γ, M, rm, rg, h⟩ => by
  refine ⟨bad, μ, Γ, M, rm, rg, (PostB.bindB h).mono ?_⟩
  rintro k H1 ⟨ν, M1, q1, rm1, h1⟩
  exact PostB.here (b := !k) h1 rm1⟩
theorem de_one {op : BoolOp} (ha : DE X T W a f1) : DE X T W (.BoolOp op [a] pos) f1 := ⟨pe_one ha.pe⟩
theorem de_and {rest : List Expr} (ha : DE X T W a f1) (hb : DE X T W (.BoolOp .And (b :: rest) pos) f2) : DE X T W (.BoolOp .And (a :: b :: rest) pos) (andF f1 f2) :=
  ⟨peW (pe_and ha.pe hb.pe) fun σ H Q ⟨bad, μ, Γ, M, rm, rg, h⟩ => by
  refine ⟨bad, μ, Γ, M, rm, rg, (Post.bind h).mono ?_⟩
  rintro x H1 ⟨ν, d1, M1, q1, rm1, rv1, h1⟩
  cases rv1 with
  | loc hm => exact h1.elim
  | p rv1 =>
  cases rv1 with
  | bl k =>
    refine ⟨k, rfl, ?_⟩
    cases k with
    | true => rw [if_pos rfl]; exact ⟨_, _, Γ, M1, rm1, rg.gr q1 rm.sub, h1⟩
    | false => rw [if_neg Bool.false_ne_true]; exact Post.hereD (d := .bl false) h1 rm1 (.bl false)
  | _ => exact h1.elim⟩
theorem de_or {rest : List Expr} (ha : DE X T W a f1) (hb : DE X T W (.BoolOp .Or (b :: rest) pos) f2) : DE X T W (.BoolOp .Or (a :: b :: rest) pos) (orF f1 f2) :=
  ⟨peW (pe_or ha.pe hb.pe) fun σ H Q ⟨bad, μ, Γ, M, rm, rg, h⟩ => by
  refine ⟨bad, μ, Γ, M, rm, rg, (Post.bind h).mono ?_⟩
  rintro x H1 ⟨ν, d1, M1, q1, rm1, rv1, h1⟩
  cases rv1 with
  | loc hm => exact h1.elim
  | p rv1 =>
  cases rv1 with
  | bl k =>
    refine ⟨k, rfl, ?_⟩
    cases k with
    | true => rw [if_pos rfl]; exact Post.hereD (d := .bl true) h1 rm1 (.bl true)
    | false => rw [if_neg Bool.false_ne_true]; exact ⟨_, _, Γ, M1, rm1, rg.gr q1 rm.sub, h1⟩
  | _ => exact h1.elim⟩
theorem de_not (ha : DE X T W a f1) : DE X T W (.UnaryOp .Not a pos) (notF f1) :=
  ⟨peW (pe_not ha.pe) fun σ H Q ⟨bad, μ, Γ, M, rm, rg, h⟩ => by
  refine ⟨bad, μ, Γ, M, rm, rg, (Post.bind h).mono ?_⟩
  rintro x H1 ⟨ν, d1, M1, q1, rm1, rv1, h1⟩
  cases rv1 with
  | loc hm => exact h1.elim
  | p rv1 =>
  cases rv1 with
  | bl k => exact ⟨k, rfl, Post.hereD (d := .bl (!k)) h1 rm1 (.bl _)⟩
  | _ => exact h1.elim⟩
theorem de_if (hc : DT X T W c g1) (ha : DE X T W a f1) (hb : DE X T W b f2) : DE X T W (.IfExp c a b pos) (ifF g1 f1 f2) :=
  ⟨peW (pe_ifExp hc.pt ha.pe hb.pe) fun σ H Q ⟨bad, μ, Γ, M, rm, rg, h⟩ => by
  refine ⟨bad, μ, Γ, M, rm, rg, (Post.bindB h).mono ?_⟩
  rintro k H1 ⟨ν, M1, q1, rm1, h1⟩
  cases k with
  | true => rw [if_pos rfl]; exact ⟨_, _, Γ, M1, rm1, rg.gr q1 rm.sub, h1⟩
  | false => rw [if_neg Bool.false_ne_true]; exact ⟨_, _, Γ, M1, rm1, rg.gr q1 rm.sub, h1⟩⟩
end

def ixD (a b : D) : Option D := match b with
  | .int i => match a with
    | .tup ds => atI ds i
    | .kup ds => atI ds i
    | .str z => if z.length ≤ 16777216 then (atI z.cps.toList i).map fun c => .str ⟨#[c]⟩ else none
    | a => (lstOf a).bind fun ds => atI ds i
  | _ => none
/-- the items of xs[lo:hi] -/
def cutD (xs : List D) (lo hi : Option Int) : List D := (xs.drop (HT.sIx xs.length 0 lo)).take (HT.sIx xs.length xs.length hi - HT.sIx xs.length 0 lo)
def slD (a : D) (lo hi : Option Int) : Option D := match a with
  | .tup ds => some (.tup (cutD ds lo hi))
  | .kup ds => some (if HT.sIx ds.length 0 lo = 0 ∧ HT.sIx ds.length ds.length hi = ds.length then .kup ds else .tup (cutD ds lo hi))
  | a => (lstOf a).map fun ds => .lst (cutD ds lo hi)
abbrev Fo := Env → Mem → Res (Option Int)
def noO : Fo := fun _ M => .ok none M
def someO (f : Fx) : Fo := fun Γ M => (f Γ M).bind fun d M1 => match d with | .p (.int i) => .ok (some i) M1 | _ => .stuck
def slF (f : Fx) (lo hi : Fo) : Fx := fun Γ M => (f Γ M).bind fun a M1 => (lo Γ M1).bind fun l M2 => (hi Γ M2).bind fun u M3 => match deref M3 a with | some x => opt (slD x l u) M3 | none => .stuck
def PostO (K : PySem.W.Frag) (mg : Str → Option Value) (T : List (Addr × Str)) (bad μ : List Addr) (H : Hp) (r : Res (Option Int)) (Q : Option Int → Hp → Prop) (E : XK) : Prop :=
  match r with
  | .ok b M' => ∀ ν H', Gr μ H H' ν → RM K T (bad ++ ν) (μ ++ ν) M' H' → Q b H'
  | .exc e M' => ∀ ν cls dx H', Gr μ H H' ν → RM K T (bad ++ ν) (μ ++ ν) M' H' → RX mg K (bad ++ ν) H' e cls dx → E cls dx H'
  | .stuck => False
structure DO (X : Cx) (T : List (Addr × Str)) (W : WX) (e : Option Expr) (f : Fo) : Prop where
  ex : ∃ t, PO X e t ∧ ∀ σ H Q bad μ Γ M, RM X.K T bad μ M H → RG X.K bad μ H Γ σ → PostO X.K X.mg T bad μ H (f Γ M) Q (fun c d H' => W c d σ H') → t σ H Q
section
variable {X : Cx} {T : List (Addr × Str)} {W : WX} {a b e : Expr} {f1 f2 : Fx} {pos p2 : Pos}
theorem do_none : DO X T W none noO := ⟨_, po_none, fun σ H Q bad μ Γ M rm rg h => h [] H (Gr.refl μ H) (by simpa using rm)⟩
theorem do_some (he : DE X T W e f1) : DO X T W (some e) (someO f1) := ⟨_, po_some he.pe, fun σ H Q bad μ Γ M rm rg h => by
  refine ⟨bad, μ, Γ, M, rm, rg, ?_⟩
  unfold someO at h
  cases e1 : f1 Γ M with
  | ok d M1 =>
    rw [e1] at h
    cases d with
    | p d =>
      cases d with
      | int i => exact fun ν v H' g rm1 rv => by cases rv with | p rv => cases rv; exact ⟨i, rfl, h ν H' g rm1⟩
      | _ => exact h.elim
    | loc n => exact h.elim
  | exc x M1 => rw [e1] at h; exact h
  | stuck => rw [e1] at h; exact h⟩
theorem PostO.mono {K : PySem.W.Frag} {mg : Str → Option Value} {bad μ : List Addr} {H : Hp} {E : XK} {r : Res (Option Int)} {Q Q' : Option Int → Hp → Prop} (h : PostO K mg T bad μ H r Q E) (hq : ∀ v H', Q v H' → Q' v H') : PostO K mg T bad μ H r Q' E := by
  cases r with
  | ok d M' => exact fun ν H' g rm => hq d H' (h ν H' g rm)
  | exc e M' => exact h
  | stuck => exact h
theorem PostO.gr {K : PySem.W.Frag} {mg : Str → Option Value} {bad μ ν : List Addr} {H H1 : Hp} {E : XK} {r : Res (Option Int)} {Q : Option Int → Hp → Prop} (h : PostO K mg T bad μ H r Q E) (g : Gr μ H H1 ν) (hd : ∀ b ∈ ν, NT H1 b) : PostO K mg T (bad ++ ν) (μ ++ ν) H1 r Q E := by
  cases r with
  | ok d M' => exact fun ν' H' g' rm => h (ν ++ ν') H' (g.trans g' hd) (by simpa only [List.append_assoc] using rm)
  | exc e M' => exact fun ν' c dx H' g' rm rx => h (ν ++ ν') c dx H' (g.trans g' hd) (by simpa only [List.append_assoc] using rm) (by simpa only [List.append_assoc] using rx)
  | stuck => exact h
theorem Post.bindO {K : PySem.W.Frag} {mg : Str → Option Value} {bad μ : List Addr} {H : Hp} {Q : VK} {E : XK} {r : Res (Option Int)} {k : Option Int → Mem → Res U} (h : Post K mg T bad μ H (r.bind k) Q E) :
    PostO K mg T bad μ H r (fun b H1 => ∃ ν M1, Gr μ H H1 ν ∧ RM K T (bad ++ ν) (μ ++ ν) M1 H1 ∧ Post K mg T (bad ++ ν) (μ ++ ν) H1 (k b M1) Q E) E := by
  cases r with
  | ok d M' => exact fun ν H' g rm => ⟨ν, M', g, rm, Post.gr h g rm.domν⟩
  | exc e M' => exact h
  | stuck => exact h
theorem RVs.at_ {K : PySem.W.Frag} {bad : List Addr} {H : Hp} {ds : List D} {vs : List V} {i : Int} {d : D} (r : RVs K bad H ds vs) (e : atI ds i = some d) : ∃ v, atI vs i = some v ∧ RV K bad H d v := by
  unfold atI at e ⊢
  rw [← r.length]
  cases e1 : ixN ds.length i with
  | none => rw [e1] at e; cases e
  | some j =>
    rw [e1] at e
    exact r.get e
theorem ix_ok {bad μ : List Addr} {M : Mem} {H : Hp} {x y : V} {d : D} {a b : D} {Q : VK} {mg : Str → Option Value} {E : XK} (rm : RM X.K T bad μ M H) (r1 : RW X.K bad H a x) (r2 : RW X.K bad H b y) (e : ixD a b = some d) (q : Post X.K mg T bad μ H (.ok (.p d) M) Q E) :
    (∃ a vs i v, x = .ref a ∧ y = .int i ∧ SqL X.K H a vs ∧ atI vs i = some v ∧ Q v H) ∨ (∃ a vs i v, x = .ref a ∧ y = .int i ∧ SqT X.K H a vs ∧ atI vs i = some v ∧ Q v H) ∨ (∃ (z : Str) (i : Int) (ch : Nat), x = .str z ∧ y = .int i ∧ z.length ≤ sizeLine ∧ atI z.cps.toList i = some ch ∧ Q (.str ⟨#[ch]⟩) H) := by
    unfold ixD at e
    split at e
    · cases r2.int
      split at e
      · rename_i ds
        obtain ⟨p, vs, rfl, z, s, r⟩ := r1.tupOf (xs := ds) rfl
        obtain ⟨v, e1, rv⟩ := r.at_ e
        exact .inr (.inl ⟨_, _, _, v, rfl, rfl, s, e1, Post.hereD q rm rv⟩)
      · rename_i ds
        obtain ⟨p, vs, rfl, z, s, r⟩ := r1.tupOf (xs := ds) rfl
        obtain ⟨v, e1, rv⟩ := r.at_ e
        exact .inr (.inl ⟨_, _, _, v, rfl, rfl, s, e1, Post.hereD q rm rv⟩)
      · cases r1.str
        split at e
        · rename_i z c
          cases e1 : atI z.cps.toList _ with
          | none => rw [e1] at e; cases e
          | some ch =>
            rw [e1] at e
            have e' := Option.some.inj e
            subst e'
            exact .inr (.inr ⟨z, _, ch, rfl, rfl, by rw [sizeLine_eq]; exact c, e1, Post.hereD q rm (.str _)⟩)
        · cases e
      · rename_i a' _ _
        cases e0 : lstOf a with
        | none => rw [e0] at e; cases e
        | some ds =>
          rw [e0] at e
          obtain ⟨p, vs, rfl, z, s, r⟩ := r1.lstOf e0
          obtain ⟨v, e1, rv⟩ := r.at_ e
          exact .inl ⟨p, vs, _, v, rfl, rfl, s, e1, Post.hereD q rm rv⟩
    · cases e
theorem RVs.drop {K : PySem.W.Frag} {bad : List Addr} {H : Hp} : ∀ {ds : List D} {vs : List V} (n : Nat), RVs K bad H ds vs → RVs K bad H (ds.drop n) (vs.drop n)
  | _, _, 0, r => r
  | _, _, _ + 1, .nil => .nil
  | _, _, n + 1, .cons _ t => RVs.drop n t
theorem RVs.take {K : PySem.W.Frag} {bad : List Addr} {H : Hp} : ∀ {ds : List D} {vs : List V} (n : Nat), RVs K bad H ds vs → RVs K bad H (ds.take n) (vs.take n)
  | _, _, 0, _ => .nil
  | _, _, _ + 1, .nil => .nil
  | _, _, n + 1, .cons r t => .cons r (RVs.take n t)
theorem RVs.cut {K : PySem.W.Frag} {bad : List Addr} {H : Hp} {ds : List D} {vs : List V} (r : RVs K bad H ds vs) (lo hi : Option Int) : RVs K bad H (cutD ds lo hi) (cutV vs lo hi) := by
  unfold cutD cutV
  rw [r.length]
  exact (r.drop _).take _
theorem de_sl {lo hi : Option Expr} {g1 g2 : Fo} (he : DE X T W e f1) (hl : DO X T W lo g1) (hu : DO X T W hi g2) : DE X T W (.Subscript e (.Slice lo hi none p2) pos) (slF f1 g1 g2) := by
  obtain ⟨tl, h1, k1⟩ := hl.ex
  obtain ⟨tu, h2, k2⟩ := hu.ex
  refine ⟨peW (pe_slice (sl_tupA.or sl_list) he.pe h1 h2) fun σ H Q ⟨bad, μ, Γ, M, rm, rg, h⟩ => ?_⟩
  refine ⟨bad, μ, Γ, M, rm, rg, (Post.bind h).mono ?_⟩
  rintro x H1 ⟨ν, d1, M1, q1, rm1, rv1, h1⟩
  refine k1 σ H1 _ _ _ Γ M1 rm1 (rg.gr q1 rm.sub) ((Post.bindO h1).mono ?_)
  rintro l H2 ⟨ν2, M2, q2, rm2, h2⟩
  refine k2 σ H2 _ _ _ Γ M2 rm2 ((rg.gr q1 rm.sub).gr q2 rm1.sub) ((Post.bindO h2).mono ?_)
  rintro u H3 ⟨ν3, M3, q3, rm3, h3⟩
  have rv4 := (rv1.gr q2 rm1.sub).gr q3 rm2.sub
  split at h3
  rotate_left
  · exact h3.elim
  rename_i d0 e0
  obtain ⟨d, e1, h4⟩ := Post.opt h3
  have rv3 := rm3.deref rv4 e0
  unfold slD at e1
  split at e1
  · have e' := Option.some.inj e1
    subst e'
    cases rv3.tup with
    | @tup _ p vs t r =>
    refine .inl ⟨p, vs, rfl, t.sq, fun z => ?_, fun z p' hp' => ?_⟩
    · refine Post.hereD h4 rm3 (.tup t ?_)
      have r2 := r.cut l u
      have e2 : cutV vs l u = vs := by
        unfold cutV
        rw [z.1, z.2]
        simp
      rw [e2] at r2
      exact r2
    · exact Post.tup h4 rm3 (r.cut l u) (Nat.le_trans (cutV_length vs l u) t.1) hp'
  · have e' := Option.some.inj e1
    subst e'
    cases rv3.rvT rfl with
    | @kup _ p vs hz k r =>
    have hl := r.length
    refine .inl ⟨p, vs, rfl, k _, fun z => ?_, fun z p' hp' => ?_⟩
    · rw [hl, if_pos z] at h4
      exact Post.hereD h4 rm3 (.kup hz k r)
    · rw [hl, if_neg z] at h4
      exact Post.tup h4 rm3 (r.cut l u) (Nat.le_trans (cutV_length vs l u) hz) hp'
  · rename_i a' _ _
    cases e0 : lstOf d0 with
    | none => rw [e0] at e1; cases e1
    | some ds =>
      rw [e0] at e1
      have e' := Option.some.inj e1
      subst e'
      obtain ⟨p, vs, rfl, z, s, r⟩ := rv3.lstOf e0
      exact .inr ⟨p, vs, rfl, s, fun p' hp' => Post.lst h4 rm3 (r.cut l u) (Nat.le_trans (cutV_length vs l u) z) hp'⟩
end
end Mp
namespace Mp
open PySem PySem.Spec PyProof.Rows L2

def derefs (M : Mem) : List U → Option (List D)
  | [] => some []
  | u :: us => match deref M u, derefs M us with
    | some d, some ds => some (d :: ds)
    | _, _ => none
inductive RWs (K : PySem.W.Frag) (bad : List Addr) (H : Hp) : List D → List V → Prop
  | nil : RWs K bad H [] []
  | cons {d : D} {ds : List D} {v : V} {vs : List V} : RW K bad H d v → RWs K bad H ds vs → RWs K bad H (d :: ds) (v :: vs)
theorem RM.derefs {K : PySem.W.Frag} {T : List (Addr × Str)} {bad μ : List Addr} {M : Mem} {H : Hp} (rm : RM K T bad μ M H) : ∀ {us : List U} {vs : List V} {ds : List D}, RUs K bad μ H us vs → derefs M us = some ds → RWs K bad H ds vs
  | _, _, _, .nil, e => by cases e; exact .nil
  | _, _, ds, .cons (u := u) (us := us) r t, e => by
    unfold Mp.derefs at e
    split at e
    · rename_i d es e1 e2
      cases e
      exact .cons (rm.deref r e1) (rm.derefs t e2)
    · cases e
def blF (g : List D → Option D) (fa : Fa) : Fx := fun Γ M => (fa Γ M).bind fun us M1 => match derefs M1 us with
  | some ds => opt (g ds) M1
  | none => .stuck
/-- a built-in of a list of arguments and what it asks by values -/
def PN (K : PySem.W.Frag) (T : List (Addr × Str)) (g : List D → Option D) (r : List V → Hp → VK → Prop) : Prop :=
  ∀ (mg : Str → Option Value) (bad μ : List Addr) (M : Mem) (H : Hp) (ds : List D) (vs : List V) (d : D) (Q : VK) (E : XK), RM K T bad μ M H → RWs K bad H ds vs → g ds = some d → Post K mg T bad μ H (.ok (.p d) M) Q E → r vs H Q
section
variable {X : Cx} {T : List (Addr × Str)} {W : WX} {x : Str} {p pos : Pos} {e : Expr} {es : List Expr} {fa : Fa} {id : String} {r : List V → Hp → VK → Prop} {g : List D → Option D}
theorem de_blt {e' : Expr} (he : ∀ {t : TA}, PA X es t → PE X e' (tCB r t)) (hp : PN X.K T g r) (ha : DA X T W es fa) : DE X T W e' (blF g fa) :=
  ⟨peW (he ha.pa) fun σ H Q ⟨bad, μ, Γ, M, rm, rg, h⟩ => by
  refine ⟨bad, μ, Γ, M, rm, rg, (Post.bindA h).mono ?_⟩
  rintro vs H1 ⟨ν, us, M1, g1, rm1, rv1, h1⟩
  split at h1
  · rename_i ds e0
    obtain ⟨d, e1, h2⟩ := Post.opt h1
    exact hp _ _ _ _ _ _ _ _ _ _ rm1 (rm1.derefs rv1 e0) e1 h2
  · exact h1.elim⟩
theorem de_callB (hc : CallR X (.builtin id) r) (hp : PN X.K T g r) (hg : Gl X x) (hm : X.mg x = none) (hv : bootBuiltins x = some (.builtin id)) (ha : DA X T W (e :: es) fa) (hn : x ≠ "__name__" := by decide) (hdb : (x == ("__debug__" : Str)) = false := by decide)
    (hs : starEach (e :: es) X.env = (false, eval e X.env) :: starEach es X.env := by rfl) (hpl : (backTo pos (starEach es X.env)).any (·.1) = false := by rfl) : DE X T W (.Call (.Name x p) (e :: es) [] pos) (blF g fa) :=
  de_blt (fun h => pe_callB hc hg hm hv h hn hdb hs hpl) hp ha
theorem de_callTy (hc : CallR X (.type id) r) (hp : PN X.K T g r) (hg : Gl X x) (hm : X.mg x = none) (hv : bootBuiltins x = some (.type id)) (ha : DA X T W (e :: es) fa) (hn : x ≠ "__name__" := by decide) (hdb : (x == ("__debug__" : Str)) = false := by decide)
    (hs : starEach (e :: es) X.env = (false, eval e X.env) :: starEach es X.env := by rfl) (hpl : (backTo pos (starEach es X.env)).any (·.1) = false := by rfl) : DE X T W (.Call (.Name x p) (e :: es) [] pos) (blF g fa) :=
  de_blt (fun h => pe_callTy hc hg hm hv h hn hdb hs hpl) hp ha
end
theorem CallR.or {X : Cx} {f : Value} {r r' : List V → Hp → VK → Prop} (h : CallR X f r) (h' : CallR X f r') : CallR X f (fun xs H Q => r xs H Q ∨ r' xs H Q) := by
  intro pins s σ H xs us Q I rx q
  rcases q with q | q
  · exact h pins s σ H xs us Q I rx q
  · exact h' pins s σ H xs us Q I rx q
theorem RWs.one {K : PySem.W.Frag} {bad : List Addr} {H : Hp} {d : D} {vs : List V} (r : RWs K bad H [d] vs) : ∃ v, vs = [v] ∧ RW K bad H d v := by
  cases r with
  | cons r1 r2 => cases r2; exact ⟨_, rfl, r1⟩
theorem RWs.two {K : PySem.W.Frag} {bad : List Addr} {H : Hp} {a b : D} {vs : List V} (r : RWs K bad H [a, b] vs) : ∃ v w, vs = [v, w] ∧ RW K bad H a v ∧ RW K bad H b w := by
  cases r with
  | cons r1 r2 => obtain ⟨w, rfl, h⟩ := RWs.one r2; exact ⟨_, w, rfl, r1, h⟩

/-- len -/
def lenD : List D → Option D
  | [.str z] => if z.length ≤ 16777216 then some (.int z.length) else none
  | [d] => (seqOf d).map fun ds => .int ds.length
  | _ => none
/-- tuple -/
def tupD : List D → Option D
  | [.kup ds] => some (.kup ds)
  | [d] => (seqOf d).map fun ds => .tup ds
  | _ => none
/-- list -/
def listD : List D → Option D
  | [d] => (seqOf d).map fun ds => .lst ds
  | _ => none
def absD : List D → Option D
  | [.int i] => some (.int (if i < 0 then -i else i))
  | _ => none
def intD : List D → Option D
  | [.int i] => some (.int i)
  | [.bl k] => some (.int (if k then 1 else 0))
  | _ => none
/-- the numbers of data that are all whole numbers -/
def intsOf : List D → Option (List Int)
  | [] => some []
  | .int i :: ds => (intsOf ds).map (i :: ·)
  | _ :: _ => none
def sumD : List D → Option D
  | [d] => (lstOf d).bind fun ds => (intsOf ds).map fun ns => .int ns.sum
  | _ => none
def maxFrom : Int → List Int → Int
  | a, [] => a
  | a, b :: r => maxFrom (max a b) r
def minFrom : Int → List Int → Int
  | a, [] => a
  | a, b :: r => minFrom (min a b) r
def maxOf : List Int → Int
  | [] => 0
  | a :: r => maxFrom a r
def minOf : List Int → Int
  | [] => 0
  | a :: r => minFrom a r
def maxD : List D → Option D
  | [.int i, .int j] => some (.int (max i j))
  | [d] => (lstOf d).bind fun ds => (intsOf ds).bind fun ns => if ns = [] then none else some (.int (maxOf ns))
  | _ => none
def minD : List D → Option D
  | [.int i, .int j] => some (.int (min i j))
  | [d] => (lstOf d).bind fun ds => (intsOf ds).bind fun ns => if ns = [] then none else some (.int (minOf ns))
  | _ => none
theorem maxFrom_le : ∀ (l : List Int) (a : Int), (maxFrom a l = a ∨ maxFrom a l ∈ l) ∧ a ≤ maxFrom a l ∧ ∀ y ∈ l, y ≤ maxFrom a l
  | [], a => ⟨.inl rfl, Int.le_refl _, fun _ h => nomatch h⟩
  | b :: r, a => by
    obtain ⟨h1, h2, h3⟩ := maxFrom_le r (max a b)
    rw [maxFrom]
    refine ⟨?_, by omega, fun y hy => ?_⟩
    · rcases h1 with e | e
      · rw [e]
        by_cases h : a ≤ b
        · right; rw [Int.max_eq_right h]; exact List.mem_cons_self
        · left; exact Int.max_eq_left (by omega)
      · exact .inr (List.mem_cons_of_mem _ e)
    · rcases List.mem_cons.mp hy with e | e
      · subst e; omega
      · exact h3 y e
theorem minFrom_le : ∀ (l : List Int) (a : Int), (minFrom a l = a ∨ minFrom a l ∈ l) ∧ minFrom a l ≤ a ∧ ∀ y ∈ l, minFrom a l ≤ y
  | [], a => ⟨.inl rfl, Int.le_refl _, fun _ h => nomatch h⟩
  | b :: r, a => by
    obtain ⟨h1, h2, h3⟩ := minFrom_le r (min a b)
    rw [minFrom]
    refine ⟨?_, by omega, fun y hy => ?_⟩
    · rcases h1 with e | e
      · rw [e]
        by_cases h : b ≤ a
        · right; rw [Int.min_eq_right h]; exact List.mem_cons_self
        · left; exact Int.min_eq_left (by omega)
      · exact .inr (List.mem_cons_of_mem _ e)
    · rcases List.mem_cons.mp hy with e | e
      · subst e; omega
      · exact h3 y e
theorem maxOf_le {l : List Int} (h : l ≠ []) : maxOf l ∈ l ∧ ∀ y ∈ l, y ≤ maxOf l := by
  cases l with
  | nil => exact absurd rfl h
  | cons a r =>
    obtain ⟨h1, h2, h3⟩ := maxFrom_le r a
    refine ⟨?_, fun y hy => ?_⟩
    · rcases h1 with e | e
      · rw [maxOf, e]; exact List.mem_cons_self
      · exact List.mem_cons_of_mem _ e
    · rcases List.mem_cons.mp hy with e | e
      · subst e; exact h2
      · exact h3 y e
theorem minOf_le {l : List Int} (h : l ≠ []) : minOf l ∈ l ∧ ∀ y ∈ l, minOf l ≤ y := by
  cases l with
  | nil => exact absurd rfl h
  | cons a r =>
    obtain ⟨h1, h2, h3⟩ := minFrom_le r a
    refine ⟨?_, fun y hy => ?_⟩
    · rcases h1 with e | e
      · rw [minOf, e]; exact List.mem_cons_self
      · exact List.mem_cons_of_mem _ e
    · rcases List.mem_cons.mp hy with e | e
      · subst e; exact h2
      · exact h3 y e
theorem max_if (i j : Int) : (if j > i then j else i) = max i j := by
  by_cases h : j > i
  · rw [if_pos h]; omega
  · rw [if_neg h]; omega
theorem min_if (i j : Int) : (if j < i then j else i) = min i j := by
  by_cases h : j < i
  · rw [if_pos h]; omega
  · rw [if_neg h]; omega
theorem RVs.ints {K : PySem.W.Frag} {bad : List Addr} {H : Hp} : ∀ {ds : List D} {vs : List V} {ns : List Int}, RVs K bad H ds vs → intsOf ds = some ns → vs = ns.map V.int
  | _, _, _, .nil, e => by cases e; rfl
  | _, _, ns, .cons (d := d) (ds := ds) r t, e => by
    cases r with
    | int i =>
      cases h : intsOf ds with
      | none => simp [intsOf, h] at e
      | some ms =>
        simp [intsOf, h] at e
        subst e
        rw [RVs.ints t h]
        rfl
    | _ => simp [intsOf] at e
section
variable {X : Cx} {T : List (Addr × Str)} {W : WX} {x : Str} {p pos : Pos} {e : Expr} {es : List Expr} {fa : Fa}
theorem pn_len : PN X.K T lenD (fun xs H Q => ∃ x n, xs = [x] ∧ LenV X.K x H n ∧ Q (.int n) H) := fun mg bad μ M H ds vs d Q E rm rv e q => by
  unfold lenD at e
  split at e
  · obtain ⟨v, rfl, r⟩ := RWs.one rv
    cases r.str
    split at e
    · rename_i c
      have e' := Option.some.inj e
      subst e'
      exact ⟨_, _, rfl, ⟨by rw [sizeLine_eq]; exact c, rfl⟩, Post.hereD q rm (.int _)⟩
    · cases e
  · rename_i d1 _
    obtain ⟨v, rfl, r⟩ := RWs.one rv
    cases e0 : seqOf d1 with
    | none => rw [e0] at e; cases e
    | some ds =>
      rw [e0] at e
      have e' := Option.some.inj e
      subst e'
      obtain ⟨a, vs, rfl, z, s, r2⟩ := r.seq e0
      refine ⟨_, vs.length, rfl, ?_, ?_⟩
      · rcases s with s | s
        · exact .inl ⟨vs, s, rfl⟩
        · exact .inr ⟨vs, s, rfl⟩
      · rw [← r2.length]
        exact Post.hereD q rm (.int _)
  · cases e
theorem pn_tup : PN X.K T tupD (fun xs H Q => ∃ p ys, xs = [.ref p] ∧ ((SqL X.K H p ys ∧ ∀ l, H l = none → Q (.ref l) (upd H l (.tup ys))) ∨ (SqT X.K H p ys ∧ Q (.ref p) H))) := fun mg bad μ M H ds vs d Q E rm rv e q => by
  unfold tupD at e
  split at e
  · obtain ⟨v, rfl, r⟩ := RWs.one rv
    have e' := Option.some.inj e
    subst e'
    cases r.rvT rfl with
    | kup z k r2 => exact ⟨_, _, rfl, .inr ⟨k _, Post.hereD q rm (.kup z k r2)⟩⟩
  · rename_i d1 hnk
    obtain ⟨v, rfl, r⟩ := RWs.one rv
    cases e1 : lstOf d1 with
    | some ds =>
      have e0 : seqOf d1 = some ds := by cases d1 <;> simp_all [lstOf, seqOf]
      rw [e0] at e
      have e' := Option.some.inj e
      subst e'
      obtain ⟨a, vs, rfl, z, s, r3⟩ := r.lstOf e1
      exact ⟨_, vs, rfl, .inl ⟨s, fun l hl => Post.tup q rm r3 z hl⟩⟩
    | none =>
      cases d1 with
      | tup ds =>
        have e' := Option.some.inj e
        subst e'
        cases r.tup with
        | tup t r2 => exact ⟨_, _, rfl, .inr ⟨t.sq, Post.hereD q rm (.tup t r2)⟩⟩
      | kup ds => exact (hnk _ rfl).elim
      | lst ds => cases e1
      | scr ns => cases e1
      | _ => cases e
  · cases e
theorem pn_list : PN X.K T listD (fun xs H Q => ∃ p ys, xs = [.ref p] ∧ (SqL X.K H p ys ∨ SqT X.K H p ys) ∧ ∀ l, H l = none → Q (.ref l) (upd H l (.lst ys))) := fun mg bad μ M H ds vs d Q E rm rv e q => by
  unfold listD at e
  split at e
  · rename_i d1
    obtain ⟨v, rfl, r⟩ := RWs.one rv
    cases e0 : seqOf d1 with
    | none => rw [e0] at e; cases e
    | some ds =>
      rw [e0] at e
      have e' := Option.some.inj e
      subst e'
      obtain ⟨a, vs, rfl, z, s, r2⟩ := r.seq e0
      exact ⟨a, vs, rfl, s, fun l hl => Post.lst q rm r2 z hl⟩
  · cases e
theorem pn_abs : PN X.K T absD (fun xs H Q => ∃ i, xs = [.int i] ∧ Q (.int (if i < 0 then -i else i)) H) := fun mg bad μ M H ds vs d Q E rm rv e q => by
  unfold absD at e
  split at e
  · obtain ⟨v, rfl, r⟩ := RWs.one rv
    cases r.int
    have e' := Option.some.inj e
    subst e'
    exact ⟨_, rfl, Post.hereD q rm (.int _)⟩
  · cases e
theorem pn_int : PN X.K T intD (fun xs H Q => (∃ i, xs = [.int i] ∧ Q (.int i) H) ∨ ∃ k, xs = [.bl k] ∧ Q (.int (if k then 1 else 0)) H) := fun mg bad μ M H ds vs d Q E rm rv e q => by
  unfold intD at e
  split at e
  · obtain ⟨v, rfl, r⟩ := RWs.one rv
    cases r.int
    have e' := Option.some.inj e
    subst e'
    exact .inl ⟨_, rfl, Post.hereD q rm (.int _)⟩
  · obtain ⟨v, rfl, r⟩ := RWs.one rv
    cases r.bl
    have e' := Option.some.inj e
    subst e'
    exact .inr ⟨_, rfl, Post.hereD q rm (.int _)⟩
  · cases e
theorem pn_sum : PN X.K T sumD (rSum X.K) := fun mg bad μ M H ds vs d Q E rm rv e q => by
  unfold sumD at e
  split at e
  · rename_i d1
    obtain ⟨v, rfl, r⟩ := RWs.one rv
    cases e0 : lstOf d1 with
    | none => rw [e0] at e; cases e
    | some ds =>
      cases e1 : intsOf ds with
      | none => simp [e0, e1] at e
      | some ns =>
        simp [e0, e1] at e
        subst e
        obtain ⟨a, vs, rfl, z, s, r2⟩ := r.lstOf e0
        have ez := r2.ints e1
        subst ez
        exact ⟨a, ns, rfl, s, Post.hereD q rm (.int _)⟩
  · cases e
theorem pn_max : PN X.K T maxD (fun xs H Q => (∃ i j, xs = [.int i, .int j] ∧ Q (.int (if j > i then j else i)) H) ∨ rMax X.K xs H Q) := fun mg bad μ M H ds vs d Q E rm rv e q => by
  unfold maxD at e
  split at e
  · obtain ⟨v, w, rfl, r1, r2⟩ := RWs.two rv
    cases r1.int; cases r2.int
    have e' := Option.some.inj e
    subst e'
    exact .inl ⟨_, _, rfl, by rw [max_if]; exact Post.hereD q rm (.int _)⟩
  · rename_i d1
    obtain ⟨v, rfl, r⟩ := RWs.one rv
    cases e0 : lstOf d1 with
    | none => rw [e0] at e; cases e
    | some ds =>
      cases e1 : intsOf ds with
      | none => simp [e0, e1] at e
      | some ns =>
        simp only [e0, e1, Option.bind_some] at e
        split at e
        · cases e
        · rename_i hne
          have e' := Option.some.inj e
          subst e'
          obtain ⟨a, vs, rfl, z, s, r2⟩ := r.lstOf e0
          have ez := r2.ints e1
          subst ez
          refine .inr ⟨a, ns, rfl, s, List.length_pos_iff.mpr hne, fun m hm hmax => ?_⟩
          obtain ⟨h1, h2⟩ := maxOf_le hne
          have em : m = maxOf ns := Int.le_antisymm (h2 m hm) (hmax _ h1)
          rw [em]
          exact Post.hereD q rm (.int _)
  · cases e
theorem pn_min : PN X.K T minD (fun xs H Q => (∃ i j, xs = [.int i, .int j] ∧ Q (.int (if j < i then j else i)) H) ∨ rMin X.K xs H Q) := fun mg bad μ M H ds vs d Q E rm rv e q => by
  unfold minD at e
  split at e
  · obtain ⟨v, w, rfl, r1, r2⟩ := RWs.two rv
    cases r1.int; cases r2.int
    have e' := Option.some.inj e
    subst e'
    exact .inl ⟨_, _, rfl, by rw [min_if]; exact Post.hereD q rm (.int _)⟩
  · rename_i d1
    obtain ⟨v, rfl, r⟩ := RWs.one rv
    cases e0 : lstOf d1 with
    | none => rw [e0] at e; cases e
    | some ds =>
      cases e1 : intsOf ds with
      | none => simp [e0, e1] at e
      | some ns =>
        simp only [e0, e1, Option.bind_some] at e
        split at e
        · cases e
        · rename_i hne
          have e' := Option.some.inj e
          subst e'
          obtain ⟨a, vs, rfl, z, s, r2⟩ := r.lstOf e0
          have ez := r2.ints e1
          subst ez
          refine .inr ⟨a, ns, rfl, s, List.length_pos_iff.mpr hne, fun m hm hmin => ?_⟩
          obtain ⟨h1, h2⟩ := minOf_le hne
          have em : m = minOf ns := Int.le_antisymm (hmin _ h1) (h2 m hm)
          rw [em]
          exact Post.hereD q rm (.int _)
  · cases e

theorem de_len (hg : Gl X "len") (hm : X.mg "len" = none) (ha : DA X T W [e] fa) (hs : starEach [e] X.env = [(false, eval e X.env)] := by rfl) : DE X T W (.Call (.Name "len" p) [e] [] pos) (blF lenD fa) := de_callB call_len pn_len hg hm boot_len ha (hs := hs)
theorem de_tuple (hg : Gl X "tuple") (hm : X.mg "tuple" = none) (ha : DA X T W [e] fa) (hs : starEach [e] X.env = [(false, eval e X.env)] := by rfl) : DE X T W (.Call (.Name "tuple" p) [e] [] pos) (blF tupD fa) := de_callTy call_tuple_of pn_tup hg hm (by decide +kernel) ha (hs := hs)
theorem de_list (hg : Gl X "list") (hm : X.mg "list" = none) (ha : DA X T W [e] fa) (hs : starEach [e] X.env = [(false, eval e X.env)] := by rfl) : DE X T W (.Call (.Name "list" p) [e] [] pos) (blF listD fa) := de_callTy call_list_of pn_list hg hm (by decide +kernel) ha (hs := hs)
theorem de_abs (hg : Gl X "abs") (hm : X.mg "abs" = none) (ha : DA X T W [e] fa) (hs : starEach [e] X.env = [(false, eval e X.env)] := by rfl) : DE X T W (.Call (.Name "abs" p) [e] [] pos) (blF absD fa) := de_callB call_abs pn_abs hg hm (by decide +kernel) ha (hs := hs)
theorem de_toint (hg : Gl X "int") (hm : X.mg "int" = none) (ha : DA X T W [e] fa) (hs : starEach [e] X.env = [(false, eval e X.env)] := by rfl) : DE X T W (.Call (.Name "int" p) [e] [] pos) (blF intD fa) := de_callTy call_int1 pn_int hg hm (by decide +kernel) ha (hs := hs)
theorem de_sum (hc : X.calm = true) (hg : Gl X "sum") (hm : X.mg "sum" = none) (ha : DA X T W [e] fa) (hs : starEach [e] X.env = [(false, eval e X.env)] := by rfl) : DE X T W (.Call (.Name "sum" p) [e] [] pos) (blF sumD fa) := de_callB (cr_sum hc) pn_sum hg hm (by decide +kernel) ha (hs := hs)
theorem de_max (hc : X.calm = true) (hg : Gl X "max") (hm : X.mg "max" = none) (ha : DA X T W (e :: es) fa) (hs : starEach (e :: es) X.env = (false, eval e X.env) :: starEach es X.env := by rfl) (hpl : (backTo pos (starEach es X.env)).any (·.1) = false := by rfl) : DE X T W (.Call (.Name "max" p) (e :: es) [] pos) (blF maxD fa) := de_callB ((call_max2 hc).or (cr_max hc)) pn_max hg hm (by decide +kernel) ha (hs := hs) (hpl := hpl)
theorem de_min (hc : X.calm = true) (hg : Gl X "min") (hm : X.mg "min" = none) (ha : DA X T W (e :: es) fa) (hs : starEach (e :: es) X.env = (false, eval e X.env) :: starEach es X.env := by rfl) (hpl : (backTo pos (starEach es X.env)).any (·.1) = false := by rfl) : DE X T W (.Call (.Name "min" p) (e :: es) [] pos) (blF minD fa) := de_callB ((call_min2 hc).or (cr_min hc)) pn_min hg hm (by decide +kernel) ha (hs := hs) (hpl := hpl)
end
end Mp
namespace Mp
open PySem PySem.Spec PyProof.Rows L2

inductive Ty where | int | bool | tuple | list | str | dict
def Ty.nm : Ty → String
  | .int => "int" | .bool => "bool" | .tuple => "tuple" | .list => "list" | .str => "str" | .dict => "dict"
/-- isinstance(d, t) -/
def isD (t : Ty) : D → Bool
  | .non => false
  | .bl _ => (match t with | .int => true | .bool => true | _ => false)
  | .int _ => (match t with | .int => true | _ => false)
  | .str _ => (match t with | .str => true | _ => false)
  | .tup _ => (match t with | .tuple => true | _ => false)
  | .lst _ => (match t with | .list => true | _ => false)
  | .kup _ => (match t with | .tuple => true | _ => false)
  | .scr _ => (match t with | .list => true | _ => false)
def isU' (M : Mem) (t : Ty) : U → Option Bool
  | .p (.scr _) => none
  | .p d => some (isD t d)
  | .loc n => match M[n]? with
    | some (.lst _) => some (match t with | .list => true | _ => false)
    | some (.dic _) => some (match t with | .dict => true | _ => false)
    | some (.dtu _) => some (match t with | .dict => true | _ => false)
    | none => none
def isF (t : Ty) (f : Fx) : Fx := fun Γ M => (f Γ M).bind fun d M1 => (optB (isU' M1 t d) M1).bind fun k M2 => .ok (.p (.bl k)) M2
theorem kit_non (t : Ty) : kitB "NoneType" t.nm = some false := by cases t <;> decide +kernel
theorem kit_bool (t : Ty) : kitB "bool" t.nm = some (match t with | .int => true | .bool => true | _ => false) := by cases t <;> decide +kernel
theorem kit_int (t : Ty) : kitB "int" t.nm = some (match t with | .int => true | _ => false) := by cases t <;> decide +kernel
theorem kit_str (t : Ty) : kitB "str" t.nm = some (match t with | .str => true | _ => false) := by cases t <;> decide +kernel
theorem kit_tuple (t : Ty) : kitB "tuple" t.nm = some (match t with | .tuple => true | _ => false) := by cases t <;> decide +kernel
theorem kit_list (t : Ty) : kitB "list" t.nm = some (match t with | .list => true | _ => false) := by cases t <;> decide +kernel
theorem kit_dict (t : Ty) : kitB "dict" t.nm = some (match t with | .dict => true | _ => false) := by cases t <;> decide +kernel
theorem tyK {K : PySem.W.Frag} {H : Hp} {a : Addr} {vs : List V} (k : ∀ H', SqT K H' a vs) : TyX K H (.ref a) (.type "tuple") := by
  rcases k (fun _ => none) with (z | ⟨_, z⟩) | ⟨o, _, _, e, c, _⟩
  · cases z
  · cases z
  · exact .kTuple e c
theorem RM.ty {K : PySem.W.Frag} {T : List (Addr × Str)} {bad μ : List Addr} {M : Mem} {H : Hp} (rm : RM K T bad μ M H) {d : U} {v : V} {t : Ty} {k : Bool} (rv : RU K bad μ H d v) (e : isU' M t d = some k) : ∃ n, TyX K H v (.type n) ∧ kitB n t.nm = some k := by
  cases rv with
  | @p d _ rv =>
    have hs : ∀ {ns}, d = .scr ns → False := fun h => by subst h; cases e
    have e' : isD t d = k := by
      cases d <;> first | exact (hs rfl).elim | exact Option.some.inj e
    subst e'
    cases rv with
    | non => exact ⟨_, .base .non, kit_non t⟩
    | bl b => exact ⟨_, .base (.bl b), kit_bool t⟩
    | int b => exact ⟨_, .base (.int b), kit_int t⟩
    | str b => exact ⟨_, .base (.str b), kit_str t⟩
    | tup t' r => exact ⟨_, .base (.tup t'.2.1), kit_tuple t⟩
    | lst t' r => exact ⟨_, .base (.lst t'.2.1), kit_list t⟩
    | kup z k' r => exact ⟨_, tyK k', kit_tuple t⟩
    | scr t' => exact (hs rfl).elim
  | @loc n a hm =>
    cases em : M[n]? with
    | none => simp [isU', em] at e
    | some o =>
      have z := rm.at_ n o a em hm
      cases z with
      | lst hz h r => simp only [isU', em] at e; exact ⟨_, .base (.lst h), by rw [← e]; exact kit_list t⟩
      | dic z2 h l r => simp only [isU', em] at e; exact ⟨_, .base (.dK h), by rw [← e]; exact kit_dict t⟩
      | dtu z2 h l r => simp only [isU', em] at e; exact ⟨_, .base (.dT h), by rw [← e]; exact kit_dict t⟩
section
variable {X : Cx} {T : List (Addr × Str)} {W : WX} {x : Str} {p p2 pos : Pos} {e e2 : Expr} {es : List Expr} {f f1 : Fx} {fa : Fa}
/-- isinstance(e, int) .. -/
theorem de_isi (t : Ty) (he : DE X T W e f) (hg : Gl X "isinstance") (hm : X.mg "isinstance" = none) (hg2 : Gl X x) (hm2 : X.mg x = none) (hv2 : bootBuiltins x = some (.type t.nm)) (hn2 : x ≠ "__name__" := by decide)
    (hd2 : (x == ("__debug__" : Str)) = false := by decide) (hs : starEach [e, .Name x p2] X.env = (false, eval e X.env) :: starEach [.Name x p2] X.env := by rfl) (hs2 : starEach [.Name x p2] X.env = [(false, eval (.Name x p2) X.env)] := by rfl) :
    DE X T W (.Call (.Name "isinstance" p) [e, .Name x p2] [] pos) (isF t f) := by
  refine ⟨peW (pe_callB call_isi hg hm (by decide +kernel) (pa_cons he.pe (pa_cons (pe_bltn (v := .ty t.nm) hg2 hm2 hv2 rfl hn2 hd2) pa_nil hs2) hs) (by decide) (by decide) hs (by rw [hs2]; rfl)) fun σ H Q ⟨bad, μ, Γ, M, rm, rg, h⟩ => ?_⟩
  refine ⟨bad, μ, Γ, M, rm, rg, (Post.bind h).mono ?_⟩
  rintro v H1 ⟨ν, d1, M1, g1, rm1, rv1, h1⟩
  cases e1 : isU' M1 t d1 with
  | none => rw [e1] at h1; exact h1.elim
  | some k =>
    rw [e1] at h1
    obtain ⟨n, ty, hk⟩ := rm1.ty rv1 e1
    exact ⟨v, .ty t.nm, .type n, .type t.nm, k, rfl, .ty _, ty, kit_ty hk, Post.hereD (d := .bl k) h1 rm1 (.bl k)⟩

/-- repr -/
def shownOk (p : PyData) : Bool := p.showable && decide (p.shown.length ≤ 16777216) && decide (p.depth ≤ 64) && !p.hasDict
def reprD : List D → Option D
  | [d] => (toP0 d).bind fun p => if shownOk p = true then some (.str p.shown) else none
  | _ => none
def rRepr (K : PySem.W.Frag) : List V → Hp → VK → Prop := fun vs H Q => ∃ x p, vs = [x] ∧ Dp K H x p ∧ shownOk p = true ∧ Q (.str p.shown) H
theorem cr_repr (hg : X.A.guards = some []) (hu : X.A.units + 66 < cLine) : CallR X (.builtin "repr") (rRepr X.K) := by
  intro pins s σ H vs us Q I r h
  obtain ⟨x, p, rfl, dp, ok, q⟩ := h
  obtain ⟨u, rfl, rx⟩ := vals1 r
  unfold shownOk at ok
  simp only [Bool.and_eq_true, decide_eq_true_eq, Bool.not_eq_true'] at ok
  obtain ⟨⟨⟨h1, h2⟩, h3⟩, h4⟩ := ok
  obtain ⟨as, rd⟩ := Dp.reads I p x u dp rx
  have hz : p.shown.length ≤ sizeLine := by rw [sizeLine_eq]; exact h2
  cases dp with
  | non => cases rx; exact PySem.P.repr_of_none ⟨.str _, H, I.tok _, ⟨_, rfl⟩, q⟩
  | bl b => cases rx; exact PySem.P.repr_of_bool ⟨.str _, H, I.tok _, ⟨_, rfl⟩, q⟩
  | int i =>
    obtain ⟨t, rfl⟩ := rx
    exact PySem.P.repr_of_int (by simpa [PyData.showable] using h1) ⟨.str _, H, I.tok _, ⟨_, rfl⟩, q⟩
  | str y =>
    obtain ⟨t, rfl⟩ := rx
    exact PySem.P.repr_of_str ⟨.str _, H, I.tok _, ⟨_, rfl⟩, q⟩ hz
  | lst t r2 =>
    cases rx
    exact repr_of_reads' (h₀ := s.heap) rd h1 (fun z => by rw [h4] at z; cases z) hg (by omega) (fun _ _ z => z) (fun h' u tk hk => ⟨.str _, H, I.kept hk, ⟨_, rfl⟩, q⟩) hz
  | tup t r2 =>
    cases rx
    exact repr_of_reads' (h₀ := s.heap) rd h1 (fun z => by rw [h4] at z; cases z) hg (by omega) (fun _ _ z => z) (fun h' u tk hk => ⟨.str _, H, I.kept hk, ⟨_, rfl⟩, q⟩) hz
theorem pn_repr : PN X.K T reprD (rRepr X.K) := fun mg bad μ M H ds vs d Q E rm rv e q => by
  unfold reprD at e
  split at e
  · rename_i d1
    obtain ⟨v, rfl, r⟩ := RWs.one rv
    cases e0 : toP0 d1 with
    | none => rw [e0] at e; cases e
    | some p =>
      rw [e0] at e
      simp only [Option.bind_some] at e
      split at e
      · rename_i c
        have e' := Option.some.inj e
        subst e'
        exact ⟨v, p, rfl, r.dp e0, c, Post.hereD q rm (.str _)⟩
      · cases e
  · cases e
theorem de_repr (hgs : X.A.guards = some []) (hu : X.A.units + 66 < cLine) (hg : Gl X "repr") (hm : X.mg "repr" = none) (ha : DA X T W [e] fa) (hs : starEach [e] X.env = [(false, eval e X.env)] := by rfl) : DE X T W (.Call (.Name "repr" p) [e] [] pos) (blF reprD fa) :=
  de_callB (cr_repr hgs hu) pn_repr hg hm (by decide +kernel) ha (hs := hs)

/-- gcd of two, of three -/
def gcdD : List D → Option D
  | [.int a, .int b] => some (.int ((Nat.gcd a.natAbs b.natAbs : Nat) : Int))
  | [.int a, .int b, .int c] => some (.int ((Nat.gcd (Nat.gcd a.natAbs b.natAbs) c.natAbs : Nat) : Int))
  | _ => none
theorem run_gcd3 (a : Int) (t : Tok) (b : Int) (u : Tok) (c : Int) (v : Tok) : Gives (Builtin.«math.gcd» ⟨[.int a t, .int b u, .int c v], []⟩) (.int ((((a.natAbs.gcd b.natAbs).gcd c.natAbs : Nat)) : Int)) :=
  .of_wp fun M A E s Q h => by
    obtain ⟨hp, g, d, tk, os⟩ := s
    wp_walk
    have e1 : Nat.gcd 0 a.natAbs = a.natAbs := Nat.gcd_zero_left _
    try rw [e1]
    exact ⟨_, rfl, h⟩
end
end Mp
namespace Mp
open PySem PySem.Spec PyProof.Rows L2

/-- where a statement leaves -/
inductive Fl where
  | nx (Γ : Env) (M : Mem)
  | rt (d : U) (M : Mem)
  | bk (Γ : Env) (M : Mem)
  | ct (Γ : Env) (M : Mem)
  | ex (e : Ex) (Γ : Env) (M : Mem)
  | st
abbrev Fs := Env → Mem → Fl
def thenS {α : Type} (r : Res α) (Γ : Env) (k : α → Mem → Fl) : Fl := match r with
  | .ok a M => k a M
  | .exc e M => .ex e Γ M
  | .stuck => .st
def seqS (f g : Fs) : Fs := fun Γ M => match f Γ M with
  | .nx Γ1 M1 => g Γ1 M1
  | r => r
def skipS : Fs := fun Γ M => .nx Γ M
def exprS (f : Fx) : Fs := fun Γ M => thenS (f Γ M) Γ fun _ M1 => .nx Γ M1
def retS (f : Fx) : Fs := fun Γ M => thenS (f Γ M) Γ fun d M1 => .rt d M1
def retN : Fs := fun _ M => .rt (.p .non) M
def ifS (c : Fb) (f g : Fs) : Fs := fun Γ M => thenS (c Γ M) Γ fun k M1 => match k with | true => f Γ M1 | false => g Γ M1
def setS (i : Nat) (f : Fx) : Fs := fun Γ M => thenS (f Γ M) Γ fun d M1 => .nx (Γ.set i (some d)) M1

section
variable {K : PySem.W.Frag} {mg : Str → Option Value} {T : List (Addr × Str)} {bad μ : List Addr} {H : Hp}
def PostS (K : PySem.W.Frag) (mg : Str → Option Value) (T : List (Addr × Str)) (bad μ : List Addr) (H : Hp) (r : Fl) (D : Ends) (W : WX) : Prop :=
  match r with
  | .nx Γ' M' => ∀ ν σ' H', Gr μ H H' ν → RM K T (bad ++ ν) (μ ++ ν) M' H' → RG K (bad ++ ν) (μ ++ ν) H' Γ' σ' → D.nx σ' H'
  | .rt d M' => ∀ ν v H', Gr μ H H' ν → RM K T (bad ++ ν) (μ ++ ν) M' H' → RU K (bad ++ ν) (μ ++ ν) H' d v → D.rt v H'
  | .bk Γ' M' => ∀ ν σ' H', Gr μ H H' ν → RM K T (bad ++ ν) (μ ++ ν) M' H' → RG K (bad ++ ν) (μ ++ ν) H' Γ' σ' → D.bk σ' H'
  | .ct Γ' M' => ∀ ν σ' H', Gr μ H H' ν → RM K T (bad ++ ν) (μ ++ ν) M' H' → RG K (bad ++ ν) (μ ++ ν) H' Γ' σ' → D.ct σ' H'
  | .ex e Γ' M' => ∀ ν σ' cls dx H', Gr μ H H' ν → RM K T (bad ++ ν) (μ ++ ν) M' H' → RG K (bad ++ ν) (μ ++ ν) H' Γ' σ' → RX mg K (bad ++ ν) H' e cls dx → W cls dx σ' H'
  | .st => False
def tSv (K : PySem.W.Frag) (mg : Str → Option Value) (T : List (Addr × Str)) (W : WX) (f : Fs) : TS := fun D σ H =>
  ∃ bad μ Γ M, RM K T bad μ M H ∧ RG K bad μ H Γ σ ∧ PostS K mg T bad μ H (f Γ M) D W
theorem PostS.gr {H1 : Hp} {ν : List Addr} {r : Fl} {D : Ends} {W : WX} (h : PostS K mg T bad μ H r D W) (g : Gr μ H H1 ν) (hd : ∀ b ∈ ν, NT H1 b) : PostS K mg T (bad ++ ν) (μ ++ ν) H1 r D W := by
  cases r with
  | nx Γ' M' => exact fun ν' σ' H' g' rm rg => h (ν ++ ν') σ' H' (g.trans g' hd) (by simpa only [List.append_assoc] using rm) (by simpa only [List.append_assoc] using rg)
  | rt d M' => exact fun ν' v H' g' rm rv => h (ν ++ ν') v H' (g.trans g' hd) (by simpa only [List.append_assoc] using rm) (by simpa only [List.append_assoc] using rv)
  | bk Γ' M' => exact fun ν' σ' H' g' rm rg => h (ν ++ ν') σ' H' (g.trans g' hd) (by simpa only [List.append_assoc] using rm) (by simpa only [List.append_assoc] using rg)
  | ct Γ' M' => exact fun ν' σ' H' g' rm rg => h (ν ++ ν') σ' H' (g.trans g' hd) (by simpa only [List.append_assoc] using rm) (by simpa only [List.append_assoc] using rg)
  | ex e Γ' M' => exact fun ν' σ' c dx H' g' rm rg rx => h (ν ++ ν') σ' c dx H' (g.trans g' hd) (by simpa only [List.append_assoc] using rm) (by simpa only [List.append_assoc] using rg) (by simpa only [List.append_assoc] using rx)
  | st => exact h
/-- the wish of the parts -/
theorem PostS.thenS {r : Res U} {Γ : Env} {σ : L2.St} {k : U → Mem → Fl} {D : Ends} {W : WX} (h : PostS K mg T bad μ H (thenS r Γ k) D W) (hb : ∀ b ∈ μ, b ∈ bad) (rg : RG K bad μ H Γ σ) :
    Post K mg T bad μ H r (Mid K T bad μ H fun bad1 μ1 d M1 v H1 => PostS K mg T bad1 μ1 H1 (k d M1) D W) fun c d H' => W c d σ H' := by
  cases r with
  | ok d M' => exact fun ν v H' g rm rv => ⟨ν, d, M', g, rm, rv, PostS.gr h g rm.domν⟩
  | exc e M' => exact fun ν c dx H' g rm rx => h ν σ c dx H' g rm (rg.gr g hb) rx
  | stuck => exact h
theorem PostS.thenB {r : Res Bool} {Γ : Env} {σ : L2.St} {k : Bool → Mem → Fl} {D : Ends} {W : WX} (h : PostS K mg T bad μ H (Mp.thenS r Γ k) D W) (hb : ∀ b ∈ μ, b ∈ bad) (rg : RG K bad μ H Γ σ) :
    PostB K mg T bad μ H r (fun b H1 => ∃ ν M1, Gr μ H H1 ν ∧ RM K T (bad ++ ν) (μ ++ ν) M1 H1 ∧ PostS K mg T (bad ++ ν) (μ ++ ν) H1 (k b M1) D W) fun c d H' => W c d σ H' := by
  cases r with
  | ok d M' => exact fun ν H' g rm => ⟨ν, M', g, rm, PostS.gr h g rm.domν⟩
  | exc e M' => exact fun ν c dx H' g rm rx => h ν σ c dx H' g rm (rg.gr g hb) rx
  | stuck => exact h
theorem PostS.here {Γ : Env} {σ : L2.St} {M : Mem} {D : Ends} {W : WX} (h : PostS K mg T bad μ H (.nx Γ M) D W) (rm : RM K T bad μ M H) (rg : RG K bad μ H Γ σ) : D.nx σ H := h [] σ H (Gr.refl μ H) (by simpa using rm) (by simpa using rg)
theorem PostS.hereR {d : U} {v : V} {M : Mem} {D : Ends} {W : WX} (h : PostS K mg T bad μ H (.rt d M) D W) (rm : RM K T bad μ M H) (rv : RU K bad μ H d v) : D.rt v H := h [] v H (Gr.refl μ H) (by simpa using rm) (by simpa using rv)
/-- only what follows differs -/
theorem PostS.seq {f : Fl} {g : Fs} {D : Ends} {W : WX} (h : PostS K mg T bad μ H (match f with | .nx Γ1 M1 => g Γ1 M1 | r => r) D W) :
    PostS K mg T bad μ H f { D with nx := fun σ H => tSv K mg T W g D σ H } W := by
  cases f with
  | nx Γ' M' => exact fun ν σ' H' gr rm rg => ⟨bad ++ ν, μ ++ ν, Γ', M', rm, rg, PostS.gr h gr rm.domν⟩
  | rt d M' => exact h
  | bk Γ' M' => exact h
  | ct Γ' M' => exact h
  | ex e Γ' M' => exact h
  | st => exact h
end

structure DS (X : Cx) (T : List (Addr × Str)) (W : WX) (st : Stmt) (f : Fs) : Prop where
  ps : PS X st (tSv X.K X.mg T W f)
structure DSs (X : Cx) (T : List (Addr × Str)) (W : WX) (sts : List Stmt) (f : Fs) : Prop where
  pss : PSs X sts (tSv X.K X.mg T W f)
section
variable {X : Cx} {T : List (Addr × Str)} {W : WX} {st : Stmt} {sts : List Stmt} {e c : Expr} {f : Fx} {cb : Fb} {g g1 g2 : Fs} {pos : Pos}
theorem psW {t t' : TS} (h : PS X st t) (hw : ∀ D σ H, t' D σ H → t D σ H) : PS X st t' := ⟨fun pins s σ H D I q => h.run pins s σ H D I (hw D σ H q)⟩
theorem pssW {t t' : TS} (h : PSs X sts t) (hw : ∀ D σ H, t' D σ H → t D σ H) : PSs X sts t' := ⟨fun pins s σ H D I q => h.run pins s σ H D I (hw D σ H q)⟩
theorem dss_nil : DSs X T W [] skipS := ⟨pssW pss_nil fun D σ H ⟨bad, μ, Γ, M, rm, rg, h⟩ => PostS.here h rm rg⟩
theorem dss_cons (h1 : DS X T W st g1) (h2 : DSs X T W sts g2) : DSs X T W (st :: sts) (seqS g1 g2) :=
  ⟨pssW (pss_cons h1.ps h2.pss) fun D σ H ⟨bad, μ, Γ, M, rm, rg, h⟩ => ⟨bad, μ, Γ, M, rm, rg, PostS.seq h⟩⟩
theorem dss_one (h1 : DS X T W st g1) : DSs X T W [st] g1 := ⟨pss_one h1.ps⟩
theorem ds_pass : DS X T W (.Pass pos) skipS := ⟨psW ps_pass fun D σ H ⟨bad, μ, Γ, M, rm, rg, h⟩ => PostS.here h rm rg⟩
theorem ds_expr (he : DE X T W e f) (hs : swapsWith e none pos.line X.env = pure false := by rfl) : DS X T W (.Expr e pos) (exprS f) :=
  ⟨psW (ps_expr he.pe hs) fun D σ H ⟨bad, μ, Γ, M, rm, rg, h⟩ => ⟨bad, μ, Γ, M, rm, rg, (PostS.thenS h rm.sub rg).mono fun v H1 ⟨ν, d, M1, g1, rm1, rv1, h1⟩ => PostS.here h1 rm1 (rg.gr g1 rm.sub)⟩⟩
theorem ds_ret (he : DE X T W e f) : DS X T W (.Return (some e) pos) (retS f) :=
  ⟨psW (ps_ret he.pe) fun D σ H ⟨bad, μ, Γ, M, rm, rg, h⟩ => ⟨bad, μ, Γ, M, rm, rg, (PostS.thenS h rm.sub rg).mono fun v H1 ⟨ν, d, M1, g1, rm1, rv1, h1⟩ => PostS.hereR h1 rm1 rv1⟩⟩
theorem ds_retN : DS X T W (.Return none pos) retN := ⟨psW ps_retN fun D σ H ⟨bad, μ, Γ, M, rm, rg, h⟩ => PostS.hereR h rm (.p .non)⟩
theorem ds_if {a b : List Stmt} (hc : DT X T W c cb) (ha : DSs X T W a g1) (hb : DSs X T W b g2) : DS X T W (.If c a b pos) (ifS cb g1 g2) :=
  ⟨psW (ps_if hc.pt ha.pss hb.pss) fun D σ H ⟨bad, μ, Γ, M, rm, rg, h⟩ => ⟨bad, μ, Γ, M, rm, rg, (PostS.thenB h rm.sub rg).mono fun k H1 ⟨ν, M1, q1, rm1, h1⟩ => by
    cases k with
    | true => rw [if_pos rfl]; exact ⟨_, _, Γ, M1, rm1, rg.gr q1 rm.sub, h1⟩
    | false => rw [if_neg Bool.false_ne_true]; exact ⟨_, _, Γ, M1, rm1, rg.gr q1 rm.sub, h1⟩⟩⟩
theorem ds_set {i : Nat} {x : Str} {pos' : Pos} (hN : X.N.Nodup) (hi : X.N[i]? = some x) (hx : Loc X.env.scope x) (he : DE X T W e f) (hs : swapsWith e (some (.Name x pos')) pos.line X.env = pure false := by rfl)
    (hf : X.fn x = true ∨ X.env.scope.names.lookup x = some .local := by first | exact .inl rfl | exact .inr rfl | assumption) : DS X T W (.Assign [.Name x pos'] e pos) (setS i f) :=
  ⟨psW (ps_set hN hi hx he.pe hs hf) fun D σ H ⟨bad, μ, Γ, M, rm, rg, h⟩ => ⟨bad, μ, Γ, M, rm, rg, (PostS.thenS h rm.sub rg).mono fun v H1 ⟨ν, d, M1, g1, rm1, rv1, h1⟩ => PostS.here h1 rm1 ((rg.gr g1 rm.sub).set rv1)⟩⟩

theorem RUs.ofP {K : PySem.W.Frag} {bad μ : List Addr} {H : Hp} : ∀ {ds : List D} {vs : List V}, RVs K bad H ds vs → RUs K bad μ H (ds.map .p) vs
  | _, _, .nil => .nil
  | _, _, .cons r t => .cons (.p r) (RUs.ofP t)
abbrev Gts := List U → Env → Option Env
/-- only the slots ixs differ -/
def OutS (ixs : List Nat) (σ σ' : L2.St) : Prop := σ'.length = σ.length ∧ ∀ j, j ∉ ixs → σ'[j]? = σ[j]?
theorem OutS.refl (σ : L2.St) : OutS [] σ σ := ⟨rfl, fun _ _ => rfl⟩
theorem OutS.trans {i1 i2 : List Nat} {a b c : L2.St} (h1 : OutS i1 a b) (h2 : OutS i2 b c) : OutS (i1 ++ i2) a c := ⟨h2.1.trans h1.1, fun j hj => (h2.2 j fun z => hj (List.mem_append_right _ z)).trans (h1.2 j fun z => hj (List.mem_append_left _ z))⟩
theorem OutS.wipe {ixs vs : List Nat} {a b : L2.St} (h : OutS ixs a b) (hs : ∀ i ∈ ixs, i ∈ vs) : wipe b vs = wipe a vs := by
  apply List.ext_getElem?
  intro j
  have key : ∀ (vs' : List Nat) (c d : L2.St), c.length = d.length → (∀ j : Nat, j ∉ vs' → c[j]? = d[j]?) → ∀ ws : List Nat, (∀ i ∈ vs', i ∈ ws) → ∀ j : Nat, (L2.wipe c ws)[j]? = (L2.wipe d ws)[j]? := by
    intro vs' c d hl ho ws hw j
    by_cases hj : j ∈ ws
    · have z : ∀ (e : L2.St), (L2.wipe e ws)[j]? = if j < e.length then some none else none := by
        intro e
        clear hw ho hl
        induction ws with
        | nil => cases hj
        | cons w ws ih =>
          unfold L2.wipe
          by_cases e1 : w = j
          · subst e1
            by_cases hlt : w < e.length
            · rw [if_pos hlt, List.getElem?_set_self (by rw [wipe_length]; exact hlt)]
            · rw [if_neg hlt]
              exact List.getElem?_eq_none (by rw [List.length_set, wipe_length]; omega)
          · rw [List.getElem?_set_ne e1]
            exact ih (by rcases List.mem_cons.mp hj with e2 | e2; exact absurd e2.symm e1; exact e2)
      rw [z c, z d, hl]
    · have z : ∀ (e : L2.St), (L2.wipe e ws)[j]? = e[j]? := by
        intro e
        clear hw ho hl
        induction ws with
        | nil => rfl
        | cons w ws ih =>
          unfold L2.wipe
          rw [List.getElem?_set_ne (fun e1 => hj (by rw [e1]; exact List.mem_cons_self))]
          exact ih fun q => hj (List.mem_cons_of_mem _ q)
      rw [z c, z d]
      exact ho j fun q => hj (hw j q)
  exact key ixs b a h.1 h.2 vs hs j
/-- a target of names alone -/
structure DGn (X : Cx) (T : List (Addr × Str)) (tg : Expr) (ixs : List Nat) (g : U → Mem → Env → Option Env) : Prop where
  ex : ∃ t, PG X tg t ∧ ∀ bad μ M H Γ σ d v Γ' Q, RM X.K T bad μ M H → RG X.K bad μ H Γ σ → RU X.K bad μ H d v → g d M Γ = some Γ' →
    (∀ σ', RG X.K bad μ H Γ' σ' → OutS ixs σ σ' → Q σ' H) → t v σ H Q
def nameG (i : Nat) : U → Mem → Env → Option Env := fun d _ Γ => some (Γ.set i (some d))
def nilG : Mem → Gts := fun _ ds Γ => match ds with | [] => some Γ | _ => none
def consG (g : U → Mem → Env → Option Env) (h : Mem → Gts) : Mem → Gts := fun M ds Γ => match ds with | d :: ds => (g d M Γ).bind (h M ds) | [] => none
def tupG (h : Mem → Gts) : U → Mem → Env → Option Env := fun d M Γ => match d with | .p d => (tupOf d).bind fun ds => h M (ds.map .p) Γ | .loc _ => none
structure DGm (X : Cx) (T : List (Addr × Str)) (tgs : List Expr) (ixs : List Nat) (g : Mem → Gts) : Prop where
  ex : ∃ t, PGs X tgs t ∧ ∀ bad μ M H Γ σ ds vs Γ' Q, RM X.K T bad μ M H → RG X.K bad μ H Γ σ → RUs X.K bad μ H ds vs → g M ds Γ = some Γ' →
    (∀ σ', RG X.K bad μ H Γ' σ' → OutS ixs σ σ' → Q σ' H) → t vs σ H Q
  len : ∀ M ds Γ Γ', g M ds Γ = some Γ' → ds.length = tgs.length
theorem dg_name {i : Nat} {x : Str} (hN : X.N.Nodup) (hi : X.N[i]? = some x) (hx : Loc X.env.scope x) (hf : X.fn x = true ∨ X.env.scope.names.lookup x = some .local := by first | exact .inl rfl | exact .inr rfl | assumption) :
    DGn X T (.Name x pos) [i] (nameG i) := ⟨_, pg_name hN hi hx hf, fun bad μ M H Γ σ d v Γ' Q rm rg rv e h => by
  have e' := Option.some.inj e
  subst e'
  exact h _ (rg.set rv) ⟨by simp, fun j hj => List.getElem?_set_ne (fun e => hj (by simp [e]))⟩⟩
theorem dgs_nil : DGm X T [] [] nilG := ⟨⟨_, pgs_nil, fun bad μ M H Γ σ ds vs Γ' Q rm rg rv e h => by
  cases rv with
  | nil =>
    have e' := Option.some.inj e
    subst e'
    exact ⟨rfl, h _ rg (OutS.refl σ)⟩
  | cons _ _ => cases e⟩, fun M ds Γ Γ' e => by
  cases ds with
  | nil => rfl
  | cons _ _ => cases e⟩
theorem dgs_cons {tg : Expr} {tgs : List Expr} {g : U → Mem → Env → Option Env} {h : Mem → Gts} {i1 i2 : List Nat} (h1 : DGn X T tg i1 g) (h2 : DGm X T tgs i2 h)
    (hs : (assignEach (tg :: tgs) X.env).map (·.2) = assign tg X.env :: (assignEach tgs X.env).map (·.2) := by rfl) : DGm X T (tg :: tgs) (i1 ++ i2) (consG g h) := by
  obtain ⟨t1, p1, k1⟩ := h1.ex
  obtain ⟨t2, p2, k2⟩ := h2.ex
  refine ⟨⟨_, pgs_cons p1 p2 hs, fun bad μ M H Γ σ ds vs Γ' Q rm rg rv e hq => ?_⟩, fun M ds Γ Γ' e => ?_⟩
  · cases rv with
    | nil => cases e
    | @cons d ds v vs r rs =>
      cases e1 : g d M Γ with
      | none => simp [consG, e1] at e
      | some Γ1 =>
        simp [consG, e1] at e
        exact ⟨v, vs, rfl, k1 _ _ _ _ _ _ _ _ _ _ rm rg r e1 fun σ1 rg1 o1 => k2 _ _ _ _ _ _ _ _ _ _ rm rg1 rs e fun σ2 rg2 o2 => hq σ2 rg2 (o1.trans o2)⟩
  · cases ds with
    | nil => cases e
    | cons d ds =>
      cases e1 : g d M Γ with
      | none => simp [consG, e1] at e
      | some Γ1 =>
        simp [consG, e1] at e
        simp [h2.len _ _ _ _ e]
theorem dg_tup {tgs : List Expr} {h : Mem → Gts} {k : Nat} (hc : X.calm = true) {i1 : List Nat} (h1 : DGm X T tgs i1 h) (hn : (assignEach tgs X.env).length = tgs.length := by rfl) (hst : (assignEach tgs X.env).findIdx? (·.1) = none := by rfl) :
    DGn X T (.Tuple tgs k pos) i1 (tupG h) := by
  obtain ⟨t1, p1, k1⟩ := h1.ex
  refine ⟨_, pg_tup hc p1 hn hst, fun bad μ M H Γ σ d v Γ' Q rm rg rv e hq => ?_⟩
  cases rv with
  | loc hm => exact nomatch e
  | @p d v rv =>
  cases e0 : tupOf d with
  | none => simp [tupG, e0] at e
  | some ds =>
    simp only [tupG, e0, Option.bind_some] at e
    obtain ⟨a, vs, rfl, z, s, r⟩ := (RW.of rv).tupOf e0
    exact ⟨a, vs, rfl, s, by rw [← r.length]; simpa using h1.len _ _ _ _ e, k1 _ _ _ _ _ _ _ _ _ _ rm rg (RUs.ofP r) e hq⟩
/-- target = value -/
def asgS (g : U → Mem → Env → Option Env) (f : Fx) : Fs := fun Γ M => thenS (f Γ M) Γ fun d M1 => match g d M1 Γ with | some Γ' => .nx Γ' M1 | none => .st
theorem ds_asg {tg : Expr} {g : U → Mem → Env → Option Env} (he : DE X T W e f) {i1 : List Nat} (hg : DGn X T tg i1 g) (hs : swapsWithSole [tg] e pos.line X.env = pure false := by rfl) (hw : swappedStores [tg] e X.env = pure none := by rfl)
    (h1 : (assignEach [tg] X.env).map (·.2) = [assign tg X.env] := by rfl) : DS X T W (.Assign [tg] e pos) (asgS g f) := by
  obtain ⟨t, p, k⟩ := hg.ex
  refine ⟨psW (ps_asg he.pe p hs hw h1) fun D σ H ⟨bad, μ, Γ, M, rm, rg, h⟩ => ⟨bad, μ, Γ, M, rm, rg, (PostS.thenS h rm.sub rg).mono fun v H1 ⟨ν, d, M1, g1, rm1, rv1, h1⟩ => ?_⟩⟩
  dsimp only at h1
  cases e0 : g d M1 Γ with
  | none => rw [e0] at h1; exact h1.elim
  | some Γ' =>
    rw [e0] at h1
    exact k _ _ _ _ _ _ _ _ _ _ rm1 (rg.gr g1 rm.sub) rv1 e0 fun σ' rg' _ => PostS.here h1 rm1 rg'
/-- a, b = x, y -/
def parS (i j : Nat) (fa : Fa) : Fs := fun Γ M => thenS (fa Γ M) Γ fun ds M1 => match ds with | [a, b] => .nx ((Γ.set i (some a)).set j (some b)) M1 | _ => .st
def par3S (i j l : Nat) (fa : Fa) : Fs := fun Γ M => thenS (fa Γ M) Γ fun ds M1 => match ds with | [a, b, c] => .nx (((Γ.set i (some a)).set j (some b)).set l (some c)) M1 | _ => .st
theorem PostS.thenA {K : PySem.W.Frag} {mg : Str → Option Value} {bad μ : List Addr} {H : Hp} {r : Res (List U)} {Γ : Env} {σ : L2.St} {k : List U → Mem → Fl} {D : Ends} {W : WX} (h : PostS K mg T bad μ H (Mp.thenS r Γ k) D W) (hb : ∀ b ∈ μ, b ∈ bad) (rg : RG K bad μ H Γ σ) :
    PostA K mg T bad μ H r (fun vs H1 => ∃ ν ds M1, Gr μ H H1 ν ∧ RM K T (bad ++ ν) (μ ++ ν) M1 H1 ∧ RUs K (bad ++ ν) (μ ++ ν) H1 ds vs ∧ PostS K mg T (bad ++ ν) (μ ++ ν) H1 (k ds M1) D W) fun c d H' => W c d σ H' := by
  cases r with
  | ok d M' => exact fun ν v H' g rm rv => ⟨ν, d, M', g, rm, rv, PostS.gr h g rm.domν⟩
  | exc e M' => exact fun ν c dx H' g rm rx => h ν σ c dx H' g rm (rg.gr g hb) rx
  | stuck => exact h
theorem ds_par {i j : Nat} {x y : Str} {a b : Expr} {fa : Fa} {px py pt pos : Pos} {kt k2 pt2} (hc : X.calm = true) (hN : X.N.Nodup) (hi : X.N[i]? = some x) (hj : X.N[j]? = some y) (hij : i ≠ j)
    (hx : X.env.scope.names.lookup x = some .local) (hy : X.env.scope.names.lookup y = some .local) (ha : DA X T W [a, b] fa)
    (hw : swappedStores [.Tuple [.Name x px, .Name y py] kt pt] (.Tuple [a, b] k2 pt2) X.env = pure (some [x, y])) (hs : swapsWithSole [.Tuple [.Name x px, .Name y py] kt pt] (.Tuple [a, b] k2 pt2) pos.line X.env = pure false := by rfl) :
    DS X T W (.Assign [.Tuple [.Name x px, .Name y py] kt pt] (.Tuple [a, b] k2 pt2) pos) (parS i j fa) :=
  ⟨psW (ps_par hc hN hi hj hij hx hy ha.pa hw hs) fun D σ H ⟨bad, μ, Γ, M, rm, rg, h⟩ => ⟨bad, μ, Γ, M, rm, rg, (PostS.thenA h rm.sub rg).mono fun vs H1 ⟨ν, ds, M1, g1, rm1, rv1, h1⟩ => by
    cases rv1 with
    | nil => exact h1.elim
    | cons r1 t1 =>
      cases t1 with
      | nil => exact h1.elim
      | cons r2 t2 =>
        cases t2 with
        | nil => exact ⟨_, _, rfl, PostS.here h1 rm1 (((rg.gr g1 rm.sub).set r1).set r2)⟩
        | cons _ _ => exact h1.elim⟩⟩
end

def keyOf : D → Option Key
  | .int i => some (.inl i)
  | .str x => some (.inr x)
  | _ => none
def keysOf : List D → Option (List Key)
  | [] => some []
  | d :: ds => match keyOf d, keysOf ds with
    | some k, some ks => some (k :: ks)
    | _, _ => none
def getK {κ α : Type} [DecidableEq κ] (kvs : List (κ × α)) (k : κ) : Option α := (kvs.find? fun kv => decide (kv.1 = k)).map (·.2)
def setK {κ α : Type} [DecidableEq κ] (kvs : List (κ × α)) (k : κ) (v : α) : List (κ × α) :=
  if (kvs.any fun kv => decide (kv.1 = k)) = true then kvs.map (fun kv => if kv.1 = k then (kv.1, v) else kv) else kvs ++ [(k, v)]
/-- a tuple that the code has made -/
def tupT : D → Option (List D)
  | .tup xs => some xs
  | _ => none
/-- d[k] -/
def dgetD (M : Mem) (n : Nat) (b : D) : Option U := match M[n]? with
  | some (.dic kvs) => (keyOf b).bind fun k => getK kvs k
  | some (.dtu kvs) => (tupT b).bind fun ds => (keysOf ds).bind fun k => (getK kvs k).map .p
  | _ => none
/-- k in d -/
def dinD (M : Mem) (b : D) (n : Nat) : Option Bool := match M[n]? with
  | some (.dic kvs) => (keyOf b).map fun k => (getK kvs k).isSome
  | some (.dtu kvs) => (tupT b).bind fun ds => (keysOf ds).map fun k => (getK kvs k).isSome
  | _ => none
/-- may the value lie in the n-th object? -/
def belowB (n : Nat) : U → Bool
  | .p _ => true
  | .loc l => decide (l < n)
/-- a[k] = v -/
def putM (M : Mem) (a : U) (b : D) (v : U) : Option Mem := match a with
  | .loc n => match M[n]? with
    | some (.lst xs) => match b with
      | .int i => match v with
        | .p d => (ixN xs.length i).map fun j => M.set n (.lst (xs.set j d))
        | _ => none
      | _ => none
    | some (.dic kvs) => (keyOf b).bind fun k => if kvs.length < 16777216 ∧ belowB n v = true then some (M.set n (.dic (setK kvs k v))) else none
    | some (.dtu kvs) => match v with
      | .p d => (tupT b).bind fun ds => (keysOf ds).bind fun k => if kvs.length < 16777216 then some (M.set n (.dtu (setK kvs k d))) else none
      | _ => none
    | none => none
  | _ => none
section
variable {K : PySem.W.Frag} {mg : Str → Option Value} {T : List (Addr × Str)} {bad μ : List Addr} {M : Mem} {H : Hp}
theorem RV.key {d : D} {v : V} {k : Key} (r : RV K bad H d v) (e : keyOf d = some k) : v = kV k := by
  cases r with
  | int i => cases e; rfl
  | str x => cases e; rfl
  | _ => cases e
theorem RVs.keys : ∀ {ds : List D} {vs : List V} {k : List Key}, RVs K bad H ds vs → keysOf ds = some k → vs = k.map kV
  | _, _, _, .nil, e => by cases e; rfl
  | _, _, _, .cons (d := d) (ds := ds) r t, e => by
    cases h1 : keyOf d with
    | none => simp [keysOf, h1] at e
    | some k =>
      cases h2 : keysOf ds with
      | none => simp [keysOf, h1, h2] at e
      | some ks =>
        simp [keysOf, h1, h2] at e
        subst e
        rw [r.key h1, RVs.keys t h2]
        rfl
theorem rk_get {κ : Type} [DecidableEq κ] : ∀ {kvs : List (κ × D)} {ws : List (κ × V)} {k : κ}, kvs.map (·.1) = ws.map (·.1) → RVs K bad H (kvs.map (·.2)) (ws.map (·.2)) →
    (∀ d, getK kvs k = some d → ∃ v, valV ws k = some v ∧ RV K bad H d v) ∧ ((getK kvs k).isSome = (valV ws k).isSome)
  | [], [], k, _, _ => ⟨fun d e => (nomatch e), rfl⟩
  | [], _ :: _, _, e, _ => by simp at e
  | _ :: _, [], _, e, _ => by simp at e
  | (k1, d1) :: kvs, (k2, v2) :: ws, k, e, r => by
    simp only [List.map_cons, List.cons.injEq] at e
    obtain ⟨e1, e2⟩ := e
    have e1' : k1 = k2 := e1
    subst e1'
    simp only [List.map_cons] at r
    cases r with
    | cons r rs =>
    obtain ⟨h1, h2⟩ := rk_get (k := k) e2 rs
    by_cases hk : k1 = k
    · have g1 : getK ((k1, d1) :: kvs) k = some d1 := by simp [getK, List.find?_cons, hk]
      have g2 : valV ((k1, v2) :: ws) k = some v2 := by simp [valV, List.find?_cons, hk]
      rw [g1, g2]
      exact ⟨fun d e => by cases e; exact ⟨v2, rfl, r⟩, rfl⟩
    · have g1 : getK ((k1, d1) :: kvs) k = getK kvs k := by simp [getK, List.find?_cons, hk]
      have g2 : valV ((k1, v2) :: ws) k = valV ws k := by simp [valV, List.find?_cons, hk]
      rw [g1, g2]
      exact ⟨h1, h2⟩
theorem rk_any {κ : Type} [DecidableEq κ] : ∀ {kvs : List (κ × D)} {ws : List (κ × V)} {k : κ}, kvs.map (·.1) = ws.map (·.1) → (kvs.any fun kv => decide (kv.1 = k)) = ws.any fun kv => decide (kv.1 = k)
  | [], [], k, _ => rfl
  | [], _ :: _, _, e => by simp at e
  | _ :: _, [], _, e => by simp at e
  | (k1, d1) :: kvs, (k2, v2) :: ws, k, e => by
    simp only [List.map_cons, List.cons.injEq] at e
    obtain ⟨e1, e2⟩ := e
    have e1' : k1 = k2 := e1
    subst e1'
    simp only [List.any_cons, rk_any (k := k) e2]
theorem rk_map {κ : Type} [DecidableEq κ] {d : D} {v : V} (rv : RV K bad H d v) : ∀ {kvs : List (κ × D)} {ws : List (κ × V)} {k : κ}, kvs.map (·.1) = ws.map (·.1) → RVs K bad H (kvs.map (·.2)) (ws.map (·.2)) →
    (kvs.map (fun kv => if kv.1 = k then (kv.1, d) else kv)).map (·.1) = (ws.map (fun kv => if kv.1 = k then (kv.1, v) else kv)).map (·.1) ∧
    RVs K bad H ((kvs.map (fun kv => if kv.1 = k then (kv.1, d) else kv)).map (·.2)) ((ws.map (fun kv => if kv.1 = k then (kv.1, v) else kv)).map (·.2))
  | [], [], k, _, _ => ⟨rfl, .nil⟩
  | [], _ :: _, _, e, _ => by simp at e
  | _ :: _, [], _, e, _ => by simp at e
  | (k1, d1) :: kvs, (k2, v2) :: ws, k, e, r => by
    simp only [List.map_cons, List.cons.injEq] at e
    obtain ⟨e1, e2⟩ := e
    have e1' : k1 = k2 := e1
    subst e1'
    simp only [List.map_cons] at r
    cases r with
    | cons r rs =>
    obtain ⟨h1, h2⟩ := rk_map rv (k := k) e2 rs
    by_cases hk : k1 = k
    · simp only [List.map_cons, hk, if_true]
      exact ⟨by rw [h1], .cons rv h2⟩
    · simp only [List.map_cons, if_neg hk]
      exact ⟨by rw [h1], .cons r h2⟩
theorem rk_put {κ : Type} [DecidableEq κ] {d : D} {v : V} (rv : RV K bad H d v) {kvs : List (κ × D)} {ws : List (κ × V)} {k : κ} (e : kvs.map (·.1) = ws.map (·.1)) (r : RVs K bad H (kvs.map (·.2)) (ws.map (·.2))) :
    (setK kvs k d).map (·.1) = (putK ws k v).map (·.1) ∧ RVs K bad H ((setK kvs k d).map (·.2)) ((putK ws k v).map (·.2)) := by
  unfold setK putK
  rw [rk_any e]
  split
  · exact rk_map rv e r
  · simp only [List.map_append, List.map_cons, List.map_nil]
    exact ⟨by rw [e], r.app (.cons rv .nil)⟩
theorem RUs.app {K : PySem.W.Frag} {bad μ : List Addr} {H : Hp} : ∀ {ds es : List U} {vs ws : List V}, RUs K bad μ H ds vs → RUs K bad μ H es ws → RUs K bad μ H (ds ++ es) (vs ++ ws)
  | _, _, _, _, .nil, s => s
  | _, _, _, _, .cons r t, s => .cons r (RUs.app t s)
theorem ru_get {κ : Type} [DecidableEq κ] : ∀ {kvs : List (κ × U)} {ws : List (κ × V)} {k : κ}, kvs.map (·.1) = ws.map (·.1) → RUs K bad μ H (kvs.map (·.2)) (ws.map (·.2)) →
    (∀ d, getK kvs k = some d → ∃ v, valV ws k = some v ∧ RU K bad μ H d v) ∧ ((getK kvs k).isSome = (valV ws k).isSome)
  | [], [], k, _, _ => ⟨fun d e => (nomatch e), rfl⟩
  | [], _ :: _, _, e, _ => by simp at e
  | _ :: _, [], _, e, _ => by simp at e
  | (k1, d1) :: kvs, (k2, v2) :: ws, k, e, r => by
    simp only [List.map_cons, List.cons.injEq] at e
    obtain ⟨e1, e2⟩ := e
    have e1' : k1 = k2 := e1
    subst e1'
    simp only [List.map_cons] at r
    cases r with
    | cons r rs =>
    obtain ⟨h1, h2⟩ := ru_get (k := k) e2 rs
    by_cases hk : k1 = k
    · have g1 : getK ((k1, d1) :: kvs) k = some d1 := by simp [getK, List.find?_cons, hk]
      have g2 : valV ((k1, v2) :: ws) k = some v2 := by simp [valV, List.find?_cons, hk]
      rw [g1, g2]
      exact ⟨fun d e => by cases e; exact ⟨v2, rfl, r⟩, rfl⟩
    · have g1 : getK ((k1, d1) :: kvs) k = getK kvs k := by simp [getK, List.find?_cons, hk]
      have g2 : valV ((k1, v2) :: ws) k = valV ws k := by simp [valV, List.find?_cons, hk]
      rw [g1, g2]
      exact ⟨h1, h2⟩
theorem ru_any {κ : Type} [DecidableEq κ] : ∀ {kvs : List (κ × U)} {ws : List (κ × V)} {k : κ}, kvs.map (·.1) = ws.map (·.1) → (kvs.any fun kv => decide (kv.1 = k)) = ws.any fun kv => decide (kv.1 = k)
  | [], [], k, _ => rfl
  | [], _ :: _, _, e => by simp at e
  | _ :: _, [], _, e => by simp at e
  | (k1, d1) :: kvs, (k2, v2) :: ws, k, e => by
    simp only [List.map_cons, List.cons.injEq] at e
    obtain ⟨e1, e2⟩ := e
    have e1' : k1 = k2 := e1
    subst e1'
    simp only [List.any_cons, ru_any (k := k) e2]
theorem ru_map {κ : Type} [DecidableEq κ] {d : U} {v : V} (rv : RU K bad μ H d v) : ∀ {kvs : List (κ × U)} {ws : List (κ × V)} {k : κ}, kvs.map (·.1) = ws.map (·.1) → RUs K bad μ H (kvs.map (·.2)) (ws.map (·.2)) →
    (kvs.map (fun kv => if kv.1 = k then (kv.1, d) else kv)).map (·.1) = (ws.map (fun kv => if kv.1 = k then (kv.1, v) else kv)).map (·.1) ∧
    RUs K bad μ H ((kvs.map (fun kv => if kv.1 = k then (kv.1, d) else kv)).map (·.2)) ((ws.map (fun kv => if kv.1 = k then (kv.1, v) else kv)).map (·.2))
  | [], [], k, _, _ => ⟨rfl, .nil⟩
  | [], _ :: _, _, e, _ => by simp at e
  | _ :: _, [], _, e, _ => by simp at e
  | (k1, d1) :: kvs, (k2, v2) :: ws, k, e, r => by
    simp only [List.map_cons, List.cons.injEq] at e
    obtain ⟨e1, e2⟩ := e
    have e1' : k1 = k2 := e1
    subst e1'
    simp only [List.map_cons] at r
    cases r with
    | cons r rs =>
    obtain ⟨h1, h2⟩ := ru_map rv (k := k) e2 rs
    by_cases hk : k1 = k
    · simp only [List.map_cons, hk, if_true]
      exact ⟨by rw [h1], .cons rv h2⟩
    · simp only [List.map_cons, if_neg hk]
      exact ⟨by rw [h1], .cons r h2⟩
theorem ru_put {κ : Type} [DecidableEq κ] {d : U} {v : V} (rv : RU K bad μ H d v) {kvs : List (κ × U)} {ws : List (κ × V)} {k : κ} (e : kvs.map (·.1) = ws.map (·.1)) (r : RUs K bad μ H (kvs.map (·.2)) (ws.map (·.2))) :
    (setK kvs k d).map (·.1) = (putK ws k v).map (·.1) ∧ RUs K bad μ H ((setK kvs k d).map (·.2)) ((putK ws k v).map (·.2)) := by
  unfold setK putK
  rw [ru_any e]
  split
  · exact ru_map rv e r
  · simp only [List.map_append, List.map_cons, List.map_nil]
    exact ⟨by rw [e], r.app (.cons rv .nil)⟩
theorem rk_len {κ : Type} {α : Type} {kvs : List (κ × α)} {ws : List (κ × V)} (e : kvs.map (·.1) = ws.map (·.1)) : kvs.length = ws.length := by simpa using congrArg List.length e

/-- an object of the memory is written anew -/
theorem Gr.wr {a : Addr} {ho : HO} (ha : a ∈ μ) (hho : ∀ ps, ho ≠ .tbl ps) : Gr μ H (upd H a ho) [] := by
  refine ⟨fun _ h => (nomatch h), .nil, fun b o h _ hb => ?_, fun b h => ?_⟩
  · rw [upd_ne (fun z => hb (by rw [z]; exact ha))]; exact h
  · by_cases hb : b = a
    · rw [hb]; exact ⟨ho, upd_same, hho⟩
    · obtain ⟨o, e, h'⟩ := h
      exact ⟨o, by rw [upd_ne hb]; exact e, h'⟩
/-- not one of the lambdas' tables, nor a code object -/
def Plain : HO → Prop
  | .tbl _ => False
  | .ext _ => False
  | _ => True
theorem Tabs.wr {a : Addr} {ho ho' : HO} (t : LamX.Tabs T H) (hH : H a = some ho) (hp : Plain ho) : LamX.Tabs T (upd H a ho') := fun p hp' => by
  obtain ⟨ps, h1, h2, h3⟩ := t p hp'
  have n1 : p.1 ≠ a := fun z => by rw [z, hH] at h1; cases h1; exact hp
  refine ⟨ps, by rw [upd_ne n1]; exact h1, h2, fun pos cv hc => ?_⟩
  obtain ⟨c, e1, e2⟩ := h3 pos cv hc
  have n2 : c ≠ a := fun z => by
    rw [z, hH] at e2
    have e3 := Option.some.inj e2
    rw [e3] at hp
    exact hp
  exact ⟨c, e1, by rw [upd_ne n2]; exact e2⟩
theorem RM.wr {n : Nat} {a : Addr} {ho ho' : HO} {ob' : Ob} (rm : RM K T bad μ M H) (ha : μ[n]? = some a) (hH : H a = some ho) (hp : Plain ho) (new : RO K bad μ (upd H a ho') ob' a) (hw : ∀ kvs, ob' = .dic kvs → ∀ k l, (k, U.loc l) ∈ kvs → l < n) : RM K T bad μ (M.set n ob') (upd H a ho') := by
  have hm : a ∈ μ := List.mem_of_getElem? ha
  have hho : ∀ ps, ho' ≠ .tbl ps := by
    cases new with
    | lst z hh r => rw [upd_same] at hh; cases hh; exact fun _ z => nomatch z
    | dic z hh l r => rw [upd_same] at hh; cases hh; exact fun _ z => nomatch z
    | dtu z hh l r => rw [upd_same] at hh; cases hh; exact fun _ z => nomatch z
  have g : Gr μ H (upd H a ho') [] := Gr.wr hm hho
  refine ⟨Tabs.wr rm.tab hH hp, by rw [rm.len]; simp, rm.nd, rm.sub, fun b hb => g.dom b (rm.dom b hb), fun m o b h1 h2 => ?_, fun m kvs h1 => ?_, fun b hb vs h => ?_⟩
  rotate_left
  rotate_left
  · by_cases hba : b = a
    · rw [hba] at h
      cases new with
      | lst z hh r => rw [hh] at h; cases h
      | dic z hh l r => rw [hh] at h; cases h
      | dtu z hh l r => rw [hh] at h; cases h
    · rw [upd_ne hba] at h
      exact rm.nt b hb vs h
  rotate_left
  · by_cases hmn : m = n
    · subst hmn
      have hl : m < M.length := by
        have z := (List.getElem?_eq_some_iff.mp h1).1
        simpa using z
      rw [List.getElem?_set_self hl] at h1
      exact hw kvs (Option.some.inj h1)
    · rw [List.getElem?_set_ne (Ne.symm hmn)] at h1
      exact rm.wf m kvs h1
  by_cases hmn : m = n
  · subst hmn
    rw [ha] at h2
    cases h2
    have hl : m < M.length := by
      have z := (List.getElem?_eq_some_iff.mp h1).1
      simpa using z
    rw [List.getElem?_set_self hl] at h1
    cases h1
    exact new
  · rw [List.getElem?_set_ne (Ne.symm hmn)] at h1
    have hb : b ≠ a := fun z => by
      subst z
      exact hmn (nodup_addr rm.nd h2 ha)
    cases rm.at_ m o b h1 h2 with
    | lst z h r => exact .lst z (by rw [upd_ne hb]; exact h) (r.gr0 g rm.sub)
    | dic z h l r => exact .dic z (by rw [upd_ne hb]; exact h) l (r.gr0 g rm.sub)
    | dtu z h l r => exact .dtu z (by rw [upd_ne hb]; exact h) l (r.gr0 g rm.sub)
where
  nodup_addr {μ : List Addr} (h : μ.Nodup) {i j : Nat} {a : Addr} (h1 : μ[i]? = some a) (h2 : μ[j]? = some a) : i = j := by
    obtain ⟨l1, e1⟩ := List.getElem?_eq_some_iff.mp h1
    obtain ⟨l2, e2⟩ := List.getElem?_eq_some_iff.mp h2
    exact (List.getElem_inj h).mp (e1.trans e2.symm)
end
end Mp
namespace Mp
open PySem PySem.Spec PyProof.Rows L2

def putS (fo fi fv : Fx) : Fs := fun Γ M => thenS (fv Γ M) Γ fun v M1 => thenS (fo Γ M1) Γ fun o M2 => thenS (fi Γ M2) Γ fun i M3 => match deref M3 i with | some b => (match putM M3 o b v with | some M4 => .nx Γ M4 | none => .st) | none => .st
section
variable {X : Cx} {T : List (Addr × Str)} {W : WX} {o i e : Expr} {fo fi fv f : Fx} {pos p2 : Pos}
def rSetA (X : Cx) : TSet := fun o i v H Q => rSetL o i v H Q ∨ ∃ a H', o = .ref a ∧ DPut H a i v H' ∧ Q H'
theorem set_any (hu : X.A.units + 1 < cLine) : PSet X (rSetA X) := by
  intro pins s σ H o i v ov iv u Q I ro ri rv h
  rcases h with h | ⟨a, H', rfl, g, q⟩
  · exact set_list pins s σ H o i v ov iv u Q I ro ri rv h
  · cases ro
    exact d_setItem hu I g ri rv fun s' I' => ⟨H', I', q⟩
theorem RW.key {K : PySem.W.Frag} {bad : List Addr} {H : Hp} {d : D} {v : V} {k : Key} (r : RW K bad H d v) (e : keyOf d = some k) : v = kV k := by
  cases r with
  | of r => exact r.key e
  | lst _ _ _ => cases e
theorem RW.tupT {K : PySem.W.Frag} {bad : List Addr} {H : Hp} {d : D} {v : V} {xs : List D} (rv : RW K bad H d v) (e : tupT d = some xs) : ∃ a vs, v = .ref a ∧ vs.length ≤ sizeLine ∧ H a = some (.tup vs) ∧ RVs K bad H xs vs := by
  cases rv with
  | lst z s r => exact nomatch e
  | of rv =>
    cases rv with
    | tup t r =>
      have e' := Option.some.inj e
      subst e'
      exact ⟨_, _, rfl, t.1, t.2.1, r⟩
    | _ => exact nomatch e
theorem length_setK {κ α : Type} [DecidableEq κ] (kvs : List (κ × α)) (k : κ) (v : α) : (setK kvs k v).length ≤ kvs.length + 1 := by
  unfold setK
  split <;> simp
theorem setK_mem {κ α : Type} [DecidableEq κ] {kvs : List (κ × α)} {k : κ} {v : α} {x : κ} {y : α} (h : (x, y) ∈ setK kvs k v) : (x, y) ∈ kvs ∨ y = v := by
  unfold setK at h
  split at h
  · obtain ⟨z, h1, h2⟩ := List.mem_map.mp h
    split at h2
    · exact .inr (by cases h2; rfl)
    · exact .inl (h2 ▸ h1)
  · rcases List.mem_append.mp h with h | h
    · exact .inl h
    · exact .inr (by rw [List.mem_singleton] at h; cases h; rfl)
theorem put_ok {K : PySem.W.Frag} {T : List (Addr × Str)} {bad μ : List Addr} {M M' : Mem} {H : Hp} {a v : U} {b : D} {x y z : V} {X : Cx} {Q : Hp → Prop} (rm : RM K T bad μ M H) (ra : RU K bad μ H a x) (rb : RW K bad H b y) (rv : RU K bad μ H v z)
    (e : putM M a b v = some M') (hq : ∀ H', Gr μ H H' [] → RM K T bad μ M' H' → Q H') : rSetA X x y z H Q := by
  unfold putM at e
  split at e
  · rename_i n
    cases ra with
    | loc hm =>
    rename_i p
    have hμ : p ∈ μ := List.mem_of_getElem? hm
    split at e
    · rename_i xs em
      split at e
      · rename_i i
        cases rb.int
        split at e
        · rename_i d
          cases rv with
          | p rv =>
          cases ej : ixN xs.length i with
          | none => rw [ej] at e; cases e
          | some j =>
            rw [ej] at e
            have e' := Option.some.inj e
            subst e'
            cases rm.at_ n _ p em hm with
            | @lst _ _ vs hz hH r =>
            have g : Gr μ H (upd H p (.lst (vs.set j z))) [] := Gr.wr hμ (fun _ z => nomatch z)
            refine .inl ⟨p, vs, i, j, rfl, rfl, hH, by rw [← r.length]; exact ej, hq _ g ?_⟩
            refine rm.wr hm hH trivial (.lst (by rw [List.length_set]; exact hz) upd_same ?_) (fun _ z => nomatch z)
            exact (RVs.set r rv j).gr0 g rm.sub
        · cases e
      · cases e
    · rename_i kvs em
      cases ek : keyOf b with
      | none => rw [ek] at e; cases e
      | some k =>
        rw [ek] at e
        simp only [Option.bind_some] at e
        split at e
        · rename_i hl
          have e' := Option.some.inj e
          subst e'
          have ey := rb.key ek
          subst ey
          cases rm.at_ n _ p em hm with
          | @dic _ _ ws hz hH hk r =>
          have hl2 : ws.length < sizeLine := by rw [← rk_len hk, sizeLine_eq]; exact hl.1
          have g : Gr μ H (upd H p (.dK (putK ws k z))) [] := Gr.wr hμ (fun _ z => nomatch z)
          obtain ⟨q1, q2⟩ := ru_put rv (k := k) hk r
          refine .inr ⟨p, _, rfl, .k hH hl2, hq _ g ?_⟩
          have := length_putK ws k z
          refine rm.wr hm hH trivial (.dic (by omega) upd_same q1 (q2.gr0 g rm.sub)) fun kvs' ez k' l hmem => ?_
          cases ez
          rcases setK_mem hmem with h | h
          · exact rm.wf n kvs em k' l h
          · subst h
            simpa [belowB] using hl.2
        · cases e
    · rename_i kvs em
      split at e
      · rename_i d
        cases rv with
        | p rv =>
        cases et : tupT b with
        | none => rw [et] at e; cases e
        | some ds =>
        rw [et] at e
        simp only [Option.bind_some] at e
        cases ek : keysOf ds with
        | none => rw [ek] at e; cases e
        | some k =>
          rw [ek] at e
          simp only [Option.bind_some] at e
          split at e
          · rename_i hl
            have e' := Option.some.inj e
            subst e'
            obtain ⟨pk, vk, rfl, zk, sk, rt⟩ := rb.tupT et
            have ey := rt.keys ek
            subst ey
            cases rm.at_ n _ p em hm with
            | @dtu _ _ ws hz hH hk r =>
            have hl2 : ws.length < sizeLine := by rw [← rk_len hk, sizeLine_eq]; exact hl
            have g : Gr μ H (upd H p (.dT (putK ws k z))) [] := Gr.wr hμ (fun _ z => nomatch z)
            obtain ⟨q1, q2⟩ := rk_put rv (k := k) hk r
            refine .inr ⟨p, _, rfl, .t hH sk hl2, hq _ g ?_⟩
            have := length_putK ws k z
            exact rm.wr hm hH trivial (.dtu (by omega) upd_same q1 (q2.gr0 g rm.sub)) (fun _ z => nomatch z)
          · cases e
      · cases e
    · cases e
  · cases e
where
  RVs.set {K : PySem.W.Frag} {bad : List Addr} {H : Hp} : ∀ {ds : List D} {vs : List V} {d : D} {v : V}, RVs K bad H ds vs → RV K bad H d v → ∀ j, RVs K bad H (ds.set j d) (vs.set j v)
    | _, _, _, _, .nil, _, _ => .nil
    | _, _, _, _, .cons _ t, r, 0 => .cons r t
    | _, _, _, _, .cons q t, r, j + 1 => .cons q (RVs.set t r j)
theorem ds_put (hu : X.A.units + 1 < cLine) (he : DE X T W e fv) (ho : DE X T W o fo) (hi : DE X T W i fi) (hs : swapsWithSole [.Subscript o i p2] e pos.line X.env = pure false := by rfl) (hw : swappedStores [.Subscript o i p2] e X.env = pure none := by rfl)
    (h1 : (assignEach [.Subscript o i p2] X.env).map (·.2) = [assign (.Subscript o i p2) X.env] := by rfl)
    (ha : ∀ v, assign (.Subscript o i p2) X.env v = (do
      let ov ← holding [v] (eval o X.env)
      let iv ← holding [v, ov] (eval i X.env)
      standAt p2
      holding [v, ov, iv] (setItem ov iv v)
      release [v, ov, iv] []) := by intro _; rfl) : DS X T W (.Assign [.Subscript o i p2] e pos) (putS fo fi fv) :=
  ⟨psW (ps_asg he.pe (pg_sub ho.pe hi.pe (set_any hu) ha) hs hw h1) fun D σ H ⟨bad, μ, Γ, M, rm, rg, h⟩ => ⟨bad, μ, Γ, M, rm, rg, (PostS.thenS h rm.sub rg).mono fun v H1 ⟨ν, d, M1, g1, rm1, rv1, h1⟩ => by
    have rg1 := rg.gr g1 rm.sub
    refine ⟨_, _, Γ, M1, rm1, rg1, (PostS.thenS h1 rm1.sub rg1).mono ?_⟩
    rintro x H2 ⟨ν2, d2, M2, g2, rm2, rv2, h2⟩
    have rg2 := rg1.gr g2 rm1.sub
    refine ⟨_, _, Γ, M2, rm2, rg2, (PostS.thenS h2 rm2.sub rg2).mono ?_⟩
    rintro y H3 ⟨ν3, d3, M3, g3, rm3, rv3, h3⟩
    have rg3 := rg2.gr g3 rm2.sub
    split at h3
    rotate_left
    · exact h3.elim
    rename_i b eb
    cases e4 : putM M3 d2 b d with
    | none => rw [e4] at h3; exact h3.elim
    | some M4 =>
      rw [e4] at h3
      refine put_ok rm3 (rv2.gr g3 rm2.sub) (rm3.deref rv3 eb) ((rv1.gr g2 rm1.sub).gr g3 rm2.sub) e4 fun H4 g4 rm4 => ?_
      refine h3 [] σ H4 g4 (by simpa using rm4) ?_
      have := rg3.gr g4 rm3.sub
      simpa using this⟩⟩
/-- d[k] -/
theorem dget_ok {K : PySem.W.Frag} {bad μ : List Addr} {M : Mem} {H : Hp} {n : Nat} {d : U} {b : D} {x y : V} (rm : RM K T bad μ M H) (ra : RU K bad μ H (.loc n) x) (rb : RW K bad H b y) (e : dgetD M n b = some d) :
    ∃ p v, x = .ref p ∧ DGet H p y (some v) ∧ RU K bad μ H d v := by
  unfold dgetD at e
  cases ra with
  | loc hm =>
  rename_i p
  split at e
  · rename_i kvs em
    cases ek : keyOf b with
    | none => rw [ek] at e; cases e
    | some k =>
      rw [ek] at e
      have ey := rb.key ek
      subst ey
      cases rm.at_ n _ p em hm with
      | dic hz hH hk r =>
      obtain ⟨v, e1, rv⟩ := (ru_get (k := k) hk r).1 d e
      exact ⟨p, v, rfl, e1 ▸ .k hH, rv⟩
  · rename_i kvs em
    cases et : tupT b with
    | none => rw [et] at e; cases e
    | some ds =>
    rw [et] at e
    simp only [Option.bind_some] at e
    cases ek : keysOf ds with
    | none => rw [ek] at e; cases e
    | some k =>
      rw [ek] at e
      simp only [Option.bind_some] at e
      obtain ⟨pk, vk, rfl, zk, sk, rt⟩ := rb.tupT et
      have ey := rt.keys ek
      subst ey
      cases rm.at_ n _ p em hm with
      | dtu hz hH hk r =>
      cases eg : getK kvs k with
      | none => rw [eg] at e; cases e
      | some d0 =>
        rw [eg] at e
        cases e
        obtain ⟨v, e1, rv⟩ := (rk_get (k := k) hk r).1 d0 eg
        exact ⟨p, v, rfl, e1 ▸ .t hH sk, .p rv⟩
  · cases e
theorem ix_dict (hu : X.A.units + 1 < cLine) : IxR X (fun x y H Q => ∃ p v, x = .ref p ∧ DGet H p y (some v) ∧ Q v H) := by
  intro value slice pins s σ H x y v u Q I rx ry h hs
  obtain ⟨p, r, rfl, g, q⟩ := h
  obtain rfl : v = Value.ref p := rx
  exact tail_any (dict_typeIs I g) PySem.F.slot_dict_getitem.lookup (d_getItem hu I g ry fun w' s' I' rw' => ⟨r, H, I', rw', q⟩) hs
/-- a[b]: of tuples, lists, texts, dicts -/
def optU (o : Option U) (M : Mem) : Res U := match o with | some u => .ok u M | none => .stuck
def ixU (M : Mem) (a : U) (b : D) : Option U := match deref M a with
  | some x => (ixD x b).map .p
  | none => match a with
    | .loc n => dgetD M n b
    | .p _ => none
def ixF (f1 f2 : Fx) : Fx := fun Γ M => (f1 Γ M).bind fun a M1 => (f2 Γ M1).bind fun b M2 => match deref M2 b with
  | some y => optU (ixU M2 a y) M2
  | none => .stuck
theorem de_ix (hu : X.A.units + 1 < cLine) (ho : DE X T W o fo) (hi : DE X T W i fi) (hs : PlainIx i := by exact fun _ _ => rfl) : DE X T W (.Subscript o i pos) (ixF fo fi) :=
  ⟨peW (pe_ix (ix_seq.or (ix_dict hu)) ho.pe hi.pe hs) fun σ H Q ⟨bad, μ, Γ, M, rm, rg, h⟩ => by
  refine ⟨bad, μ, Γ, M, rm, rg, (Post.bind h).mono ?_⟩
  rintro x H1 ⟨ν, d1, M1, g1, rm1, rv1, h1⟩
  refine ⟨_, _, Γ, M1, rm1, rg.gr g1 rm.sub, (Post.bind h1).mono ?_⟩
  rintro y H2 ⟨ν2, d2, M2, g2, rm2, rv2, h2⟩
  split at h2
  rotate_left
  · exact h2.elim
  rename_i b eb
  have ra := rv1.gr g2 rm1.sub
  have rb := rm2.deref rv2 eb
  unfold ixU at h2
  split at h2
  · rename_i a ea
    cases e1 : ixD a b with
    | none => rw [e1] at h2; exact h2.elim
    | some d =>
      rw [e1] at h2
      exact .inl (ix_ok rm2 (rm2.deref ra ea) rb e1 h2)
  · cases d1 with
    | p _ => exact h2.elim
    | loc n =>
      dsimp only at h2
      cases e1 : dgetD M2 n b with
      | none => rw [e1] at h2; exact h2.elim
      | some d =>
        rw [e1] at h2
        obtain ⟨p, v, rfl, g, rv⟩ := dget_ok rm2 ra rb e1
        exact .inr ⟨p, v, rfl, g, Post.here h2 rm2 rv⟩⟩
theorem din_ok {K : PySem.W.Frag} {bad μ : List Addr} {M : Mem} {H : Hp} {n : Nat} {b : D} {k : Bool} {x y : V} (rm : RM K T bad μ M H) (ra : RU K bad μ H (.loc n) x) (rb : RW K bad H b y) (e : dinD M b n = some k) :
    ∃ p o, x = .ref p ∧ DGet H p y o ∧ k = o.isSome := by
  unfold dinD at e
  cases ra with
  | loc hm =>
  rename_i p
  split at e
  · rename_i kvs em
    cases ek : keyOf b with
    | none => rw [ek] at e; cases e
    | some k =>
      rw [ek] at e
      have ey := rb.key ek
      subst ey
      cases rm.at_ n _ p em hm with
      | dic hz hH hk r => exact ⟨p, _, rfl, .k hH, by rw [← (ru_get (k := k) hk r).2]; exact (Option.some.inj e).symm⟩
  · rename_i kvs em
    cases et : tupT b with
    | none => rw [et] at e; cases e
    | some ds =>
    rw [et] at e
    simp only [Option.bind_some] at e
    cases ek : keysOf ds with
    | none => rw [ek] at e; cases e
    | some k =>
      rw [ek] at e
      obtain ⟨pk, vk, rfl, zk, sk, rt⟩ := rb.tupT et
      have ey := rt.keys ek
      subst ey
      cases rm.at_ n _ p em hm with
      | dtu hz hH hk r => exact ⟨p, _, rfl, .t hH sk, by rw [← (rk_get (k := k) hk r).2]; exact (Option.some.inj e).symm⟩
  · cases e
/-- k in d, k not in d: as a comparison by its own rule -/
def rDIn : R2 := fun y x H Q => ∃ a o, x = .ref a ∧ DGet H a y o ∧ Q (.bl o.isSome) H
def rDNotIn : R2 := fun y x H Q => ∃ a o, x = .ref a ∧ DGet H a y o ∧ Q (.bl (!o.isSome)) H
theorem op_din (hu : X.A.units + 1 < cLine) : OpR X (compareOp .In) rDIn := by
  intro pins s σ H y x v u Q I ry rx h
  obtain ⟨a, o, rfl, g, q⟩ := h
  cases rx
  exact d_in hu I g ry fun s3 I3 => ⟨.bl o.isSome, H, I3, rfl, q⟩
theorem op_dnotin (hu : X.A.units + 1 < cLine) : OpR X (compareOp .NotIn) rDNotIn := by
  intro pins s σ H y x v u Q I ry rx h
  obtain ⟨a, o, rfl, g, q⟩ := h
  cases rx
  exact d_notIn hu I g ry fun s3 I3 => ⟨.bl (!o.isSome), H, I3, rfl, q⟩
/-- in, over tuples, lists, dicts -/
def inA (M : Mem) (x c : U) : Option Bool := match deref M x with
  | some d => match deref M c with
    | some y => inD d y
    | none => match c with
      | .loc n => dinD M d n
      | .p _ => none
  | none => none
def notinA (M : Mem) (x c : U) : Option Bool := (inA M x c).map (!·)
theorem inA_ok {K : PySem.W.Frag} {bad μ : List Addr} {M : Mem} {H : Hp} {a b : U} {k : Bool} {x y : V} {Q : VK} (rm : RM K T bad μ M H) (ra : RU K bad μ H a x) (rb : RU K bad μ H b y) (e : inA M a b = some k) (f : Bool → Bool) (q : Q (.bl (f k)) H) :
    rInT K f x y H Q ∨ ∃ p o, y = .ref p ∧ DGet H p x o ∧ Q (.bl (f o.isSome)) H := by
  unfold inA at e
  split at e
  · rename_i d ed
    have rx := rm.deref ra ed
    split at e
    · rename_i c ec
      have ry := rm.deref rb ec
      obtain ⟨p, ds, ps, e1, e2, e3, h1, h2, rfl⟩ := inD_some e
      obtain ⟨p', vs, rfl, z, s, r⟩ := ry.seq e2
      exact .inl ⟨p, ps, p', vs, rx.dp e1, rfl, s, RVs.dp r e3, h1, h2, q⟩
    · split at e
      · obtain ⟨p, o, rfl, g, rfl⟩ := din_ok rm rb rx e
        exact .inr ⟨p, o, rfl, g, q⟩
      · cases e
  · cases e
theorem cmp_in' (hu : X.A.units + 65 < cLine) : Cmp X T .In inA :=
  ⟨_, (op_inT hu).or (op_din (by omega)), fun bad μ M H a b x y k Q rm ra rb e q => inA_ok rm ra rb e id q⟩
theorem cmp_notin' (hu : X.A.units + 65 < cLine) : Cmp X T .NotIn notinA :=
  ⟨_, (op_notinT hu).or (op_dnotin (by omega)), fun bad μ M H a b x y k Q rm ra rb e q => by
  unfold notinA at e
  cases e0 : inA M a b with
  | none => rw [e0] at e; cases e
  | some k0 =>
    rw [e0] at e
    have ek : (!k0) = k := Option.some.inj e
    subst ek
    exact inA_ok rm ra rb e0 (!·) q⟩
end
end Mp
namespace Mp
open PySem PySem.Spec PyProof.Rows L2

section
variable {K : PySem.W.Frag} {mg : Str → Option Value} {T : List (Addr × Str)} {bad μ : List Addr} {M : Mem} {H : Hp}
theorem RO.less {a b : Addr} {bad' : List Addr} {o : Ob} (r : RO K bad μ H o b) (hs : ∀ b ∈ bad', b ∈ bad) : RO K bad' μ H o b := by
  cases r with
  | lst z h r => exact .lst z h (r.less hs)
  | dic z h l r => exact .dic z h l (r.less hs)
  | dtu z h l r => exact .dtu z h l (r.less hs)
theorem RO.more {b : Addr} {ν : List Addr} {o : Ob} (r : RO K bad μ H o b) : RO K bad (μ ++ ν) H o b := by
  cases r with
  | lst z h r => exact .lst z h r
  | dic z h l r => exact .dic z h l r.more
  | dtu z h l r => exact .dtu z h l r
/-- a new object joins the memory -/
theorem RM.join {a : Addr} {ob : Ob} (rm : RM K T (a :: bad) μ M H) (ha : a ∉ μ) (new : RO K (bad ++ [a]) (μ ++ [a]) H ob a) (hw : ∀ kvs, ob = .dic kvs → ∀ k l, (k, U.loc l) ∈ kvs → l < M.length) : RM K T (bad ++ [a]) (μ ++ [a]) (M ++ [ob]) H := by
  have sub : ∀ b ∈ bad ++ [a], b ∈ a :: bad := fun b hb => by
    rcases List.mem_append.mp hb with z | z
    · exact List.mem_cons_of_mem _ z
    · rw [List.mem_singleton.mp z]; exact List.mem_cons_self
  refine ⟨rm.tab, by simp [rm.len], ?_, fun b hb => ?_, fun b hb => rm.dom b (sub b hb), fun n o b h1 h2 => ?_, fun n kvs h1 => ?_, fun b hb => rm.nt b (sub b hb)⟩
  · refine List.nodup_append.mpr ⟨rm.nd, by simp, fun x hx y hy e => ?_⟩
    have e2 := List.mem_singleton.mp hy
    exact ha (by rw [← e2, ← e]; exact hx)
  · rcases List.mem_append.mp hb with z | z
    · rcases List.mem_cons.mp (rm.sub b z) with e | e
      · exact absurd (e ▸ z) ha
      · exact List.mem_append_left _ e
    · exact List.mem_append_right _ z
  · by_cases hn : n < M.length
    · rw [List.getElem?_append_left hn] at h1
      rw [List.getElem?_append_left (by rw [rm.len]; exact hn)] at h2
      exact ((rm.at_ n o b h1 h2).less (a := a) sub).more
    · have e1 : n = M.length := by
        have z := (List.getElem?_eq_some_iff.mp h1).1
        simp at z
        omega
      subst e1
      simp at h1
      subst h1
      have h3 : (μ ++ [a])[M.length]? = some a := by rw [← rm.len]; simp
      rw [h3] at h2
      cases h2
      exact new
  · by_cases hn : n < M.length
    · rw [List.getElem?_append_left hn] at h1
      exact rm.wf n kvs h1
    · have e1 : n = M.length := by
        have z := (List.getElem?_eq_some_iff.mp h1).1
        simp at z
        omega
      subst e1
      simp at h1
      exact hw kvs h1
theorem RM.away {p : Addr} {H' : Hp} (rm : RM K T bad μ M H) (hp : H p = none) (g : Gr μ H H' []) (e : ∀ b u, H b = some u → H' b = some u) (hp' : NT H' p) (hnt : ∀ vs, H' p ≠ some (.tup vs)) : RM K T (p :: bad) μ M H' := by
  have rm' := rm.ext g e
  refine ⟨rm'.tab, rm'.len, rm'.nd, fun b hb => List.mem_cons_of_mem _ (rm'.sub b hb), fun b hb => (List.mem_cons.mp hb).elim (fun z => by rw [z]; exact hp') (rm'.dom b), fun n o a h1 h2 => ?_, rm.wf, fun b hb => (List.mem_cons.mp hb).elim (fun z => by rw [z]; exact hnt) (rm'.nt b)⟩
  have up : ∀ {ds vs}, RVs K bad H ds vs → RVs K (p :: bad) H' ds vs := fun {ds vs} r => (r.away hp).gr0 g (fun b hb => List.mem_cons_of_mem _ (rm.sub b hb))
  have upU : ∀ {ds vs}, RUs K bad μ H ds vs → RUs K (p :: bad) μ H' ds vs := fun {ds vs} r => (r.away hp).gr0 g (fun b hb => List.mem_cons_of_mem _ (rm.sub b hb))
  cases rm.at_ n o a h1 h2 with
  | lst z h r => exact .lst z (e _ _ h) (up r)
  | dic z h l r => exact .dic z (e _ _ h) l (upU r)
  | dtu z h l r => exact .dtu z (e _ _ h) l (up r)

/-- a list that comes is new: nothing else holds it -/
def PostF (K : PySem.W.Frag) (mg : Str → Option Value) (T : List (Addr × Str)) (bad μ : List Addr) (H : Hp) (r : Res U) (Q : VK) (E : XK) : Prop :=
  match r with
  | .ok (.p (.lst xs)) M' => ∀ ν a vs H', Gr μ H H' ν → RM K T (a :: (bad ++ ν)) (μ ++ ν) M' H' → a ∉ bad ++ ν → ¬ NT H a → H' a = some (.lst vs) → vs.length ≤ sizeLine → RVs K (a :: (bad ++ ν)) H' xs vs → Q (.ref a) H'
  | .ok _ _ => False
  | .exc e M' => ∀ ν cls dx H', Gr μ H H' ν → RM K T (bad ++ ν) (μ ++ ν) M' H' → RX mg K (bad ++ ν) H' e cls dx → E cls dx H'
  | .stuck => False
theorem RM.less {a : Addr} {bad' : List Addr} (rm : RM K T bad μ M H) (hs : ∀ b ∈ bad', b ∈ bad) (hμ : ∀ b ∈ μ, b ∈ bad') : RM K T bad' μ M H :=
  ⟨rm.tab, rm.len, rm.nd, hμ, fun b hb => rm.dom b (hs b hb), fun n o b h1 h2 => (rm.at_ n o b h1 h2).less (a := a) hs, rm.wf, fun b hb => rm.nt b (hs b hb)⟩
end
def tFv (K : PySem.W.Frag) (mg : Str → Option Value) (T : List (Addr × Str)) (W : WX) (f : Env → Mem → Res U) : TE := fun σ H Q =>
  ∃ bad μ Γ M, RM K T bad μ M H ∧ RG K bad μ H Γ σ ∧ PostF K mg T bad μ H (f Γ M) Q fun c d H' => W c d σ H'
structure DF (X : Cx) (T : List (Addr × Str)) (W : WX) (e : Expr) (f : Fx) : Prop where
  pe : PE X e (tFv X.K X.mg T W f)
  lst : ∀ Γ M d M', f Γ M = .ok d M' → ∃ xs, d = .p (.lst xs)
def thawK (d : U) (M1 : Mem) : Res U := match d with | .p (.lst xs) => .ok (.loc M1.length) (M1 ++ [.lst xs]) | _ => .stuck
def thawF (f : Fx) : Fx := fun Γ M => (f Γ M).bind thawK
section
variable {X : Cx} {T : List (Addr × Str)} {W : WX} {e e2 : Expr} {es : List Expr} {f f1 f2 : Fx} {fa : Fa} {pos p p2 : Pos}
theorem PostF.ofPost {K : PySem.W.Frag} {mg : Str → Option Value} {bad μ : List Addr} {M : Mem} {H : Hp} {Q : VK} {E : XK} {r : Res U} (rm : RM K T bad μ M H) (hl : ∀ d M', r = .ok d M' → ∃ xs, d = .p (.lst xs)) (q : Post K mg T bad μ H r Q E) : PostF K mg T bad μ H r Q E := by
  cases r with
  | ok d M1 =>
    obtain ⟨xs, rfl⟩ := hl _ _ rfl
    intro ν a vs H' g rm' hn h0 h1 hz r
    have hs : ∀ b ∈ bad ++ ν, b ∈ a :: (bad ++ ν) := fun b hb => List.mem_cons_of_mem _ hb
    refine q ν (.ref a) H' g (rm'.less (a := a) hs fun b hb => ?_) (.p (.lst ⟨hz, h1, hn⟩ (r.less hs)))
    rcases List.mem_append.mp hb with z | z
    · exact List.mem_append_left _ (rm.sub b z)
    · exact List.mem_append_right _ z
  | exc x M1 => exact q
  | stuck => exact q
theorem PostF.ofThaw {K : PySem.W.Frag} {mg : Str → Option Value} {bad μ : List Addr} {M : Mem} {H : Hp} {Q : VK} {E : XK} {r : Res U} (rm : RM K T bad μ M H) (hl : ∀ d M', r = .ok d M' → ∃ xs, d = .p (.lst xs)) (q : Post K mg T bad μ H (r.bind thawK) Q E) : PostF K mg T bad μ H r Q E := by
  cases r with
  | ok d M1 =>
    obtain ⟨xs, rfl⟩ := hl _ _ rfl
    intro ν a vs H' g rm' hn h0 h1 hz r
    have hμ : a ∉ μ ++ ν := fun z => by
      rcases List.mem_append.mp z with z | z
      · exact hn (List.mem_append_left _ (rm.sub a z))
      · exact hn (List.mem_append_right _ z)
    have hs : ∀ b ∈ (bad ++ ν) ++ [a], b ∈ a :: (bad ++ ν) := fun b hb => by
      rcases List.mem_append.mp hb with z | z
      · exact List.mem_cons_of_mem _ z
      · rw [List.mem_singleton.mp z]; exact List.mem_cons_self
    have g2 : Gr μ H H' (ν ++ [a]) := by
      refine ⟨fun b hb => ?_, ?_, g.keep, g.dom⟩
      · rcases List.mem_append.mp hb with z | z
        · exact g.new b z
        · rw [List.mem_singleton.mp z]; exact h0
      · refine List.nodup_append.mpr ⟨g.nd, by simp, fun x hx y hy ez => ?_⟩
        have e2 := List.mem_singleton.mp hy
        exact hn (List.mem_append_right _ (by rw [← e2, ← ez]; exact hx))
    have rm2 : RM K T (bad ++ ν ++ [a]) (μ ++ ν ++ [a]) (M1 ++ [.lst xs]) H' := rm'.join hμ (.lst hz h1 (r.less hs)) (fun _ z => nomatch z)
    refine q (ν ++ [a]) (.ref a) H' g2 (by simpa only [List.append_assoc] using rm2) (.loc ?_)
    have hl : (μ ++ (ν ++ [a]))[M1.length]? = some a := by
      rw [← List.append_assoc, ← rm'.len]
      simp
    exact hl
  | exc x M1 => exact q
  | stuck => exact q
theorem DF.de (h : DF X T W e f) : DE X T W e f := ⟨peW h.pe fun σ H Q ⟨bad, μ, Γ, M, rm, rg, q⟩ => ⟨bad, μ, Γ, M, rm, rg, PostF.ofPost rm (fun d M' e => h.lst _ _ _ _ e) q⟩⟩
theorem de_thaw (h : DF X T W e f) : DE X T W e (thawF f) := ⟨peW h.pe fun σ H Q ⟨bad, μ, Γ, M, rm, rg, q⟩ => ⟨bad, μ, Γ, M, rm, rg, PostF.ofThaw rm (fun d M' e => h.lst _ _ _ _ e) q⟩⟩
theorem PostF.new {K : PySem.W.Frag} {mg : Str → Option Value} {bad μ : List Addr} {M : Mem} {H : Hp} {Q : VK} {E : XK} {ds : List D} {vs : List V} {p : Addr} (h : PostF K mg T bad μ H (.ok (.p (.lst ds)) M) Q E) (rm : RM K T bad μ M H) (rv : RVs K bad H ds vs) (hz : vs.length ≤ sizeLine) (hp : H p = none) :
    Q (.ref p) (upd H p (.lst vs)) := by
  have g := Gr.laid (μ := μ) (o := .lst vs) hp
  refine h [] p vs _ g ?_ (by simpa using rm.fresh hp) (fun z => z.no hp) upd_same hz ?_
  · have := rm.away hp g (Gr.ext (μ := μ) hp) (.of upd_same fun _ z => nomatch z) (by rw [upd_same]; exact fun _ z => nomatch z)
    simpa using this
  · have := (rv.away hp).gr0 g (fun b hb => List.mem_cons_of_mem _ (rm.sub b hb))
    simpa using this
theorem PostF.bindA {K : PySem.W.Frag} {mg : Str → Option Value} {bad μ : List Addr} {H : Hp} {Q : VK} {E : XK} {r : Res (List U)} {k : List U → Mem → Res U} (h : PostF K mg T bad μ H (r.bind k) Q E) :
    PostA K mg T bad μ H r (fun vs H1 => ∃ ν ds M1, Gr μ H H1 ν ∧ RM K T (bad ++ ν) (μ ++ ν) M1 H1 ∧ RUs K (bad ++ ν) (μ ++ ν) H1 ds vs ∧ PostF K mg T (bad ++ ν) (μ ++ ν) H1 (k ds M1) Q E) E := by
  cases r with
  | ok d M' => exact fun ν v H' g rm rv => ⟨ν, d, M', g, rm, rv, PostF.gr h g rm.domν⟩
  | exc e M' => exact h
  | stuck => exact h
where
  PostF.gr {K : PySem.W.Frag} {mg : Str → Option Value} {bad μ ν : List Addr} {H H1 : Hp} {Q : VK} {E : XK} {r : Res U} (h : PostF K mg T bad μ H r Q E) (g : Gr μ H H1 ν) (hd : ∀ b ∈ ν, NT H1 b) : PostF K mg T (bad ++ ν) (μ ++ ν) H1 r Q E := by
    cases r with
    | ok d M' =>
      cases d with
      | loc n => exact h
      | p d =>
      cases d with
      | lst xs =>
        intro ν' a vs H' g' rm hn h0 h1 hz r
        have h0' : ¬ NT H a := fun z => h0 (g.dom a z)
        exact h (ν ++ ν') a vs H' (g.trans g' hd) (by simpa only [List.append_assoc] using rm) (by simpa only [List.append_assoc] using hn) h0' h1 hz (by simpa only [List.append_assoc] using r)
      | _ => exact h
    | exc e M' => exact fun ν' c dx H' g' rm rx => h (ν ++ ν') c dx H' (g.trans g' hd) (by simpa only [List.append_assoc] using rm) (by simpa only [List.append_assoc] using rx)
    | stuck => exact h
theorem PostF.opt {K : PySem.W.Frag} {mg : Str → Option Value} {bad μ : List Addr} {M : Mem} {H : Hp} {Q : VK} {E : XK} {o : Option D} (h : PostF K mg T bad μ H (opt o M) Q E) : ∃ d, o = some d ∧ PostF K mg T bad μ H (.ok (.p d) M) Q E := by
  cases o with
  | some d => exact ⟨d, rfl, h⟩
  | none => exact h.elim
theorem df_lst (ha : DA X T W es fa) (hn : es.length ≤ 1000 := by decide) : DF X T W (.List es pos) (lstF fa) := ⟨peW (pe_lst ha.pa) fun σ H Q ⟨bad, μ, Γ, M, rm, rg, h⟩ => by
  refine ⟨bad, μ, Γ, M, rm, rg, (PostA.len (fun ds M' e => ha.len Γ M ds M' e) (PostF.bindA h)).mono ?_⟩
  rintro vs H1 ⟨hl, ν, us, M1, g1, rm1, rv1, h1⟩
  have hz : vs.length ≤ sizeLine := by rw [hl]; exact few_line hn
  obtain ⟨d, e1, h2⟩ := PostF.opt h1
  cases e2 : pures us with
  | none => rw [e2] at e1; cases e1
  | some ds =>
    rw [e2] at e1
    cases e1
    exact ⟨hz, fun p hp => PostF.new h2 rm1 (rv1.pure e2) hz hp⟩, fun Γ M d M' e => by
  unfold lstF at e
  cases e1 : fa Γ M with
  | ok us M1 =>
    rw [e1] at e
    simp only [Res.bind] at e
    cases e2 : pures us with
    | none => rw [e2] at e; cases e
    | some ds => rw [e2] at e; cases e; exact ⟨_, rfl⟩
  | exc x M1 => rw [e1] at e; cases e
  | stuck => rw [e1] at e; cases e⟩
theorem listD_lst {ds : List D} {d : D} (e : listD ds = some d) : ∃ d1 xs, ds = [d1] ∧ seqOf d1 = some xs ∧ d = .lst xs := by
  unfold listD at e
  split at e
  · rename_i d1
    cases e0 : seqOf d1 with
    | none => rw [e0] at e; cases e
    | some xs => rw [e0] at e; exact ⟨d1, xs, rfl, e0, (Option.some.inj e).symm⟩
  · cases e
theorem df_list (hg : Gl X "list") (hm : X.mg "list" = none) (ha : DA X T W [e] fa) (hs : starEach [e] X.env = [(false, eval e X.env)] := by rfl) : DF X T W (.Call (.Name "list" p) [e] [] pos) (blF listD fa) :=
  ⟨peW (pe_callTy call_list_of hg hm (by decide +kernel) ha.pa (he := hs)) (fun σ H Q ⟨bad, μ, Γ, M, rm, rg, h⟩ => by
  refine ⟨bad, μ, Γ, M, rm, rg, (PostF.bindA h).mono ?_⟩
  rintro vs H1 ⟨ν, us, M1, g1, rm1, rv1, h1⟩
  cases e0 : derefs M1 us with
  | none => rw [e0] at h1; exact h1.elim
  | some ds =>
    rw [e0] at h1
    obtain ⟨d, e1, h2⟩ := PostF.opt h1
    obtain ⟨d1, xs, rfl, e2, rfl⟩ := listD_lst e1
    obtain ⟨v, rfl, r⟩ := RWs.one (rm1.derefs rv1 e0)
    obtain ⟨a, vs, rfl, z, s, r2⟩ := r.seq e2
    exact ⟨a, vs, rfl, s, fun l hl => PostF.new h2 rm1 r2 z hl⟩), fun Γ M d M' e => by
  unfold blF at e
  cases e1 : fa Γ M with
  | ok us M1 =>
    rw [e1] at e
    simp only [Res.bind] at e
    cases e0 : derefs M1 us with
    | none => rw [e0] at e; cases e
    | some ds =>
      rw [e0] at e
      dsimp only at e
      cases e2 : listD ds with
      | none => rw [e2] at e; cases e
      | some d2 =>
        rw [e2] at e
        cases e
        obtain ⟨d1, xs, rfl, e3, rfl⟩ := listD_lst e2
        exact ⟨xs, rfl⟩
  | exc x M1 => rw [e1] at e; cases e
  | stuck => rw [e1] at e; cases e⟩
def newK : Fx := fun _ M => .ok (.loc M.length) (M ++ [.dic []])
def newT : Fx := fun _ M => .ok (.loc M.length) (M ++ [.dtu []])
theorem Post.join {K : PySem.W.Frag} {mg : Str → Option Value} {bad μ : List Addr} {M : Mem} {H : Hp} {Q : VK} {E : XK} {ob : Ob} {ho : HO} {p : Addr} (h : Post K mg T bad μ H (.ok (.loc M.length) (M ++ [ob])) Q E) (rm : RM K T bad μ M H) (hp : H p = none)
    (new : RO K (bad ++ [p]) (μ ++ [p]) (upd H p ho) ob p) (htb : ∀ ps, ho ≠ .tbl ps) (hnt : ∀ vs, ho ≠ .tup vs) (hw : ∀ kvs, ob = .dic kvs → ∀ k l, (k, U.loc l) ∈ kvs → l < M.length) : Q (.ref p) (upd H p ho) := by
  have g := Gr.laid (μ := μ) (o := ho) hp
  have rm2 := rm.away hp g (Gr.ext (μ := μ) hp) (.of upd_same htb) (by rw [upd_same]; exact fun vs z => hnt vs (Option.some.inj z))
  refine h [p] (.ref p) _ ⟨fun b hb => by rw [List.mem_singleton.mp hb]; exact fun z => z.no hp, by simp, g.keep, g.dom⟩ (rm2.join (fun z => rm.fresh hp (rm.sub p z)) new hw) (.loc ?_)
  rw [← rm.len]
  simp
theorem de_newK : DE X T W (.Dict [] [] pos) newK := ⟨peW pe_dnewK fun σ H Q ⟨bad, μ, Γ, M, rm, rg, h⟩ => fun p hp => Post.join h rm hp (.dic (Nat.zero_le _) upd_same rfl .nil) (fun _ z => nomatch z) (fun _ z => nomatch z) (fun kvs e k l h => by cases e; cases h)⟩
theorem de_newT : DE X T W (.Dict [] [] pos) newT := ⟨peW pe_dnewT fun σ H Q ⟨bad, μ, Γ, M, rm, rg, h⟩ => fun p hp => Post.join h rm hp (.dtu (Nat.zero_le _) upd_same rfl .nil) (fun _ z => nomatch z) (fun _ z => nomatch z) (fun _ z => nomatch z)⟩
end
end Mp
namespace Mp
open PySem PySem.Spec PyProof.Rows L2

/-- x.append(d) -/
def appM (M : Mem) (x : U) (d : D) : Option Mem := match x with
  | .loc n => match M[n]? with
    | some (.lst xs) => if xs.length < 16777216 then some (M.set n (.lst (xs ++ [d]))) else none
    | _ => none
  | _ => none
/-- x.extend(d) -/
def extM (M : Mem) (x : U) (d : D) : Option Mem := match x with
  | .loc n => match M[n]? with
    | some (.lst xs) => match d with
      | .lst ys => if xs.length + ys.length ≤ 16777216 then some (M.set n (.lst (xs ++ ys))) else none
      | _ => none
    | _ => none
  | _ => none
/-- x.pop() -/
def popM (M : Mem) (x : U) : Option (U × Mem) := match x with
  | .loc n => match M[n]? with
    | some (.lst xs) => match xs[xs.length - 1]? with
      | some y => some (.p y, M.set n (.lst xs.dropLast))
      | none => none
    | _ => none
  | _ => none
def isLoc (M : Mem) (x : U) : Bool := match x with
  | .loc n => match M[n]? with | some (.lst _) => true | _ => false
  | _ => false
/-- the receiver is a list that may change, looked at ahead of the arguments -/
def methF (g : Mem → U → List U → Option (U × Mem)) (fo : Fx) (fa : Fa) : Fx := fun Γ M => (fo Γ M).bind fun x M1 => match isLoc M1 x with
  | true => (fa Γ M1).bind fun ds M2 => match g M2 x ds with
    | some (d, M3) => .ok d M3
    | none => .stuck
  | false => .stuck
section
variable {X : Cx} {T : List (Addr × Str)} {W : WX} {e : Expr} {o : Expr} {es : List Expr} {f fo : Fx} {fa : Fa} {pos p apos cpos : Pos}
theorem isLoc_at {K : PySem.W.Frag} {T : List (Addr × Str)} {bad μ : List Addr} {M : Mem} {H : Hp} (rm : RM K T bad μ M H) {x : U} {v : V} (rv : RU K bad μ H x v) (h : isLoc M x = true) : ∃ n a xs vs, x = .loc n ∧ v = .ref a ∧ μ[n]? = some a ∧ M[n]? = some (.lst xs) ∧ vs.length ≤ sizeLine ∧ H a = some (.lst vs) ∧ RVs K bad H xs vs := by
  cases rv with
  | @loc n a hm =>
    cases em : M[n]? with
    | none => simp [isLoc, em] at h
    | some ob =>
      cases ob with
      | lst xs => cases rm.at_ n _ a em hm with
        | lst z hH r => exact ⟨n, a, xs, _, rfl, rfl, hm, em, z, hH, r⟩
      | dic _ => simp [isLoc, em] at h
      | dtu _ => simp [isLoc, em] at h
  | _ => simp [isLoc] at h
/-- what a method asks by values -/
def PM (K : PySem.W.Frag) (T : List (Addr × Str)) (g : Mem → U → List U → Option (U × Mem)) (r : V → List V → Hp → VK → Prop) : Prop :=
  ∀ (bad μ : List Addr) (M : Mem) (H : Hp) (x : U) (ds : List U) (v : V) (vs : List V) (d : U) (M' : Mem) (Q : VK), RM K T bad μ M H → RU K bad μ H x v → RUs K bad μ H ds vs → g M x ds = some (d, M') →
    (∀ v' H', Gr μ H H' [] → RM K T bad μ M' H' → RU K bad μ H' d v' → Q v' H') → r v vs H Q
theorem de_meth {name : Str} {id : String} {r : V → List V → Hp → VK → Prop} {g : Mem → U → List U → Option (U × Mem)} (slot : Slot "list" name id) (hty : typeOf (.builtin id) = pure (.type "method_descriptor")) (hm : MtR X id r) (hp : PM X.K T g r)
    (ho : DE X T W o fo) (ha : DA X T W (e :: es) fa) (hbase : attributeBase o name X.env (eval o X.env) = eval o X.env := by rfl)
    (hfew : ((backTo cpos (starEach (e :: es) X.env)).all (fun x => !x.1) && (backToKw cpos (keywordEach [] X.env)).all (fun x => x.1.isSome)
      && decide ((e :: es).length + ([] : List Keyword).length + (if ([] : List Keyword).isEmpty then 0 else 1) < 30)) = true := by rfl)
    (hline : (apos.endLine == cpos.line) = true := by rfl) (hs : starEach (e :: es) X.env = (false, eval e X.env) :: starEach es X.env := by rfl) (hplain : (backTo cpos (starEach es X.env)).any (·.1) = false := by rfl) :
    DE X T W (.Call (.Attribute o name apos) (e :: es) [] cpos) (methF g fo fa) :=
  ⟨peW (pe_bm PySem.F.plainAttrs_list slot hty hm ho.pe ha.pa hbase hfew hline hs hplain) fun σ H Q ⟨bad, μ, Γ, M, rm, rg, h⟩ => by
  refine ⟨bad, μ, Γ, M, rm, rg, (Post.bind h).mono ?_⟩
  rintro v H1 ⟨ν, x, M1, g1, rm1, rv1, h1⟩
  cases hl : isLoc M1 x with
  | false => rw [hl] at h1; exact h1.elim
  | true =>
    rw [hl] at h1
    obtain ⟨n, a, xs, vs, rfl, rfl, hm, em, z, hH, r⟩ := isLoc_at rm1 rv1 hl
    refine ⟨.inl ⟨rfl, vs, .of hH⟩, _, _, Γ, M1, rm1, rg.gr g1 rm.sub, (Post.bindA h1).mono ?_⟩
    rintro ws H2 ⟨ν2, ds, M2, g2, rm2, rv2, h2⟩
    cases eg : g M2 (.loc n) ds with
    | none => rw [eg] at h2; exact h2.elim
    | some p =>
      obtain ⟨d, M3⟩ := p
      rw [eg] at h2
      refine hp _ _ _ _ _ _ _ _ _ _ _ rm2 (rv1.gr g2 rm1.sub) rv2 eg fun v' H3 g3 rm3 rv3 => ?_
      exact h2 [] v' H3 g3 (by simpa using rm3) (by simpa using rv3)⟩
theorem de_meth0 {name : Str} {id : String} {r : V → List V → Hp → VK → Prop} {g : Mem → U → List U → Option (U × Mem)} (slot : Slot "list" name id) (hty : typeOf (.builtin id) = pure (.type "method_descriptor")) (hm : MtR X id r) (hp : PM X.K T g r)
    (ho : DE X T W o fo) (hbase : attributeBase o name X.env (eval o X.env) = eval o X.env := by rfl) (hline : (apos.endLine == cpos.line) = true := by rfl) :
    DE X T W (.Call (.Attribute o name apos) [] [] cpos) (methF g fo nilA) :=
  ⟨peW (pe_bm0 PySem.F.plainAttrs_list slot hty hm ho.pe hbase hline) fun σ H Q ⟨bad, μ, Γ, M, rm, rg, h⟩ => by
  refine ⟨bad, μ, Γ, M, rm, rg, (Post.bind h).mono ?_⟩
  rintro v H1 ⟨ν, x, M1, g1, rm1, rv1, h1⟩
  cases hl : isLoc M1 x with
  | false => rw [hl] at h1; exact h1.elim
  | true =>
    rw [hl] at h1
    obtain ⟨n, a, xs, vs, rfl, rfl, hm, em, z, hH, r⟩ := isLoc_at rm1 rv1 hl
    refine ⟨.inl ⟨rfl, vs, .of hH⟩, ?_⟩
    have h2 : Post X.K X.mg T (bad ++ ν) (μ ++ ν) H1 (match g M1 (.loc n) [] with | some (d, M3) => .ok d M3 | none => .stuck) Q (fun c d H' => W c d σ H') := h1
    cases eg : g M1 (.loc n) [] with
    | none => rw [eg] at h2; exact h2.elim
    | some p =>
      obtain ⟨d, M3⟩ := p
      rw [eg] at h2
      refine hp _ _ _ _ _ _ _ _ _ _ _ rm1 rv1 .nil eg fun v' H3 g3 rm3 rv3 => ?_
      exact h2 [] v' H3 g3 (by simpa using rm3) (by simpa using rv3)⟩
def appG (M : Mem) (x : U) (us : List U) : Option (U × Mem) := match us with | [.p d] => (appM M x d).map fun M' => (.p .non, M') | _ => none
def extG (M : Mem) (x : U) (us : List U) : Option (U × Mem) := match us with | [.p d] => (extM M x d).map fun M' => (.p .non, M') | _ => none
def popG (M : Mem) (x : U) (us : List U) : Option (U × Mem) := match us with | [] => popM M x | _ => none
theorem RUs.one {K : PySem.W.Frag} {bad μ : List Addr} {H : Hp} {d : U} {vs : List V} (r : RUs K bad μ H [d] vs) : ∃ v, vs = [v] ∧ RU K bad μ H d v := by
  cases r with
  | cons r1 r2 => cases r2; exact ⟨_, rfl, r1⟩
theorem lst_wr {K : PySem.W.Frag} {T : List (Addr × Str)} {bad μ : List Addr} {M : Mem} {H : Hp} {n : Nat} {a : Addr} {ys : List D} {vs ws : List V} (rm : RM K T bad μ M H) (hm : μ[n]? = some a) (hH : H a = some (.lst vs)) (hz : ws.length ≤ sizeLine) (r : RVs K bad H ys ws) :
    Gr μ H (upd H a (.lst ws)) [] ∧ RM K T bad μ (M.set n (.lst ys)) (upd H a (.lst ws)) := by
  have g : Gr μ H (upd H a (.lst ws)) [] := Gr.wr (List.mem_of_getElem? hm) (fun _ z => nomatch z)
  exact ⟨g, rm.wr hm hH trivial (.lst hz upd_same (r.gr0 g rm.sub)) (fun _ z => nomatch z)⟩
theorem pm_append : PM X.K T appG rAppend := fun bad μ M H x ds v vs d M' Q rm rx rs e q => by
  unfold appG at e
  split at e
  · rename_i d1
    obtain ⟨w, rfl, rwU⟩ := RUs.one rs
    cases rwU with
    | p rw1 =>
    unfold appM at e
    split at e
    · rename_i n
      cases rx with
      | loc hm =>
      split at e
      · rename_i xs em
        split at e
        · rename_i hl
          cases e
          cases rm.at_ n _ _ em hm with
          | @lst _ a ys hz hH r =>
          have hl2 : ys.length < sizeLine := by rw [← r.length, sizeLine_eq]; exact hl
          obtain ⟨g, rm2⟩ := lst_wr (ws := ys ++ [w]) rm hm hH (by rw [List.length_append]; exact hl2) (r.app (.cons rw1 .nil))
          exact ⟨_, ys, w, rfl, rfl, hH, hl2, q _ _ g rm2 (.p .non)⟩
        · cases e
      · cases e
    · cases e
  · cases e
theorem pm_extend : PM X.K T extG rExtend := fun bad μ M H x ds v vs d M' Q rm rx rs e q => by
  unfold extG at e
  split at e
  · rename_i d1
    obtain ⟨w, rfl, rwU⟩ := RUs.one rs
    cases rwU with
    | p rw1 =>
    unfold extM at e
    split at e
    · rename_i n
      cases rx with
      | loc hm =>
      split at e
      · rename_i xs em
        split at e
        · rename_i ys2
          split at e
          · rename_i hl
            cases e
            cases rw1 with
            | lst t r1 =>
            rename_i p2 ws
            cases rm.at_ n _ _ em hm with
            | @lst _ a ys hz hH r =>
            have hl2 : ys.length + ws.length ≤ sizeLine := by rw [← r.length, ← r1.length, sizeLine_eq]; exact hl
            obtain ⟨g, rm2⟩ := lst_wr (ws := ys ++ ws) rm hm hH (by rw [List.length_append]; exact hl2) (r.app r1)
            exact ⟨_, p2, ys, ws, rfl, rfl, hH, t.2.1, hl2, q _ _ g rm2 (.p .non)⟩
          · cases e
        · cases e
      · cases e
    · cases e
  · cases e
theorem RVs.dropLast {K : PySem.W.Frag} {bad : List Addr} {H : Hp} : ∀ {ds : List D} {vs : List V}, RVs K bad H ds vs → RVs K bad H ds.dropLast vs.dropLast
  | _, _, .nil => .nil
  | _, _, .cons r .nil => .nil
  | _, _, .cons r (.cons r2 t) => .cons r (RVs.dropLast (.cons r2 t))
theorem pm_pop : PM X.K T popG rPop := fun bad μ M H x ds v vs d M' Q rm rx rs e q => by
  unfold popG at e
  split at e
  · cases rs
    unfold popM at e
    split at e
    · rename_i n
      cases rx with
      | loc hm =>
      split at e
      · rename_i xs em
        split at e
        · rename_i y hy
          cases e
          cases rm.at_ n _ _ em hm with
          | @lst _ a ys hz hH r =>
          obtain ⟨w, hw, rw1⟩ := r.get hy
          obtain ⟨g, rm2⟩ := lst_wr (ws := ys.dropLast) rm hm hH (by rw [List.length_dropLast]; omega) r.dropLast
          exact ⟨_, ys, w, rfl, rfl, hH, by rw [← r.length]; exact hw, q _ _ g rm2 (.p (rw1.gr0 g rm.sub))⟩
        · cases e
      · cases e
    · cases e
  · cases e
theorem de_append (ho : DE X T W o fo) (ha : DA X T W [e] fa) (hbase : attributeBase o "append" X.env (eval o X.env) = eval o X.env := by rfl)
    (hfew : ((backTo cpos (starEach [e] X.env)).all (fun x => !x.1) && (backToKw cpos (keywordEach [] X.env)).all (fun x => x.1.isSome)
      && decide (([e] : List Expr).length + ([] : List Keyword).length + (if ([] : List Keyword).isEmpty then 0 else 1) < 30)) = true := by rfl)
    (hline : (apos.endLine == cpos.line) = true := by rfl) (hs : starEach [e] X.env = (false, eval e X.env) :: starEach [] X.env := by rfl) (hplain : (backTo cpos (starEach [] X.env)).any (·.1) = false := by rfl) :
    DE X T W (.Call (.Attribute o "append" apos) [e] [] cpos) (methF appG fo fa) := de_meth PySem.F.slot_list_append PySem.F.type_list_append mt_append pm_append ho ha hbase hfew hline hs hplain
theorem de_extend (ho : DE X T W o fo) (ha : DA X T W [e] fa) (hbase : attributeBase o "extend" X.env (eval o X.env) = eval o X.env := by rfl)
    (hfew : ((backTo cpos (starEach [e] X.env)).all (fun x => !x.1) && (backToKw cpos (keywordEach [] X.env)).all (fun x => x.1.isSome)
      && decide (([e] : List Expr).length + ([] : List Keyword).length + (if ([] : List Keyword).isEmpty then 0 else 1) < 30)) = true := by rfl)
    (hline : (apos.endLine == cpos.line) = true := by rfl) (hs : starEach [e] X.env = (false, eval e X.env) :: starEach [] X.env := by rfl) (hplain : (backTo cpos (starEach [] X.env)).any (·.1) = false := by rfl) :
    DE X T W (.Call (.Attribute o "extend" apos) [e] [] cpos) (methF extG fo fa) := de_meth PySem.F.slot_list_extend PySem.F.type_list_extend mt_extend pm_extend ho ha hbase hfew hline hs hplain
theorem de_pop (ho : DE X T W o fo) (hbase : attributeBase o "pop" X.env (eval o X.env) = eval o X.env := by rfl) (hline : (apos.endLine == cpos.line) = true := by rfl) :
    DE X T W (.Call (.Attribute o "pop" apos) [] [] cpos) (methF popG fo nilA) := de_meth0 PySem.F.slot_list_pop PySem.F.type_list_pop mt_pop pm_pop ho hbase hline

def dispF (ks : List Str) (fa : Fa) : Fx := fun Γ M => (fa Γ M).bind fun ds M1 => .ok (.loc M1.length) (M1 ++ [.dic ((ks.map Sum.inr).zip ds)])
structure DP (X : Cx) (T : List (Addr × Str)) (W : WX) (pos : Pos) (keys : List (Option Expr)) (values : List Expr) (ks : List Str) (fa : Fa) : Prop where
  ex : ∃ trs, PPs X pos keys values trs ∧ ∀ bad μ Γ M H σ Q, RM X.K T bad μ M H → RG X.K bad μ H Γ σ → PostA X.K X.mg T bad μ H (fa Γ M) (fun vs H' => Q ((ks.map V.str).zip vs) H') (fun c d H' => W c d σ H') → tPairs trs σ H Q
  l1 : keys.length = values.length
  l2 : ks.length = values.length
  len : ∀ Γ M ds M', fa Γ M = .ok ds M' → ds.length = values.length
theorem dp_nil : DP X T W pos [] [] [] nilA := ⟨⟨[], pps_nil, fun bad μ Γ M H σ Q rm rg h => PostA.here h rm .nil⟩, rfl, rfl, fun Γ M ds M' e => by cases e; rfl⟩
theorem dp_cons {k : Str} {j : Nat} {pk : Pos} {v : Expr} {keys : List (Option Expr)} {values : List Expr} {ks : List Str} (hv : DE X T W v f) (hr : DP X T W pos keys values ks fa) :
    DP X T W pos (some (.Constant (.str k) j pk) :: keys) (v :: values) (k :: ks) (consA f fa) := by
  obtain ⟨trs, hp, hk⟩ := hr.ex
  refine ⟨⟨_, pps_cons pe_str hv.pe hp, fun bad μ Γ M H σ Q rm rg h => ?_⟩, by simp [hr.l1], by simp [hr.l2], fun Γ M ds M' e => ?_⟩
  · refine ⟨bad, μ, Γ, M, rm, rg, (PostA.bind h).mono ?_⟩
    rintro v H1 ⟨ν, d, M1, g1, rm1, rv1, h1⟩
    refine hk _ _ Γ M1 H1 σ _ rm1 (rg.gr g1 rm.sub) ((PostA.bindA h1).mono ?_)
    rintro vs H2 ⟨ν2, ds, M2, g2, rm2, rv2, h2⟩
    exact PostA.here h2 rm2 (.cons (rv1.gr g2 rm1.sub) rv2)
  · unfold consA at e
    cases e1 : f Γ M with
    | ok d M1 =>
      rw [e1] at e
      simp only [Res.bind] at e
      cases e2 : fa Γ M1 with
      | ok ds2 M2 =>
        rw [e2] at e
        simp only [Res.bind] at e
        injection e with e3
        rw [← e3]
        simp [hr.len _ _ _ _ e2]
      | exc x M2 => rw [e2] at e; simp [Res.bind] at e
      | stuck => rw [e2] at e; simp [Res.bind] at e
    | exc x M1 => rw [e1] at e; simp [Res.bind] at e
    | stuck => rw [e1] at e; simp [Res.bind] at e
theorem zip_fst {α β : Type} : ∀ (a : List α) (b : List β), a.length = b.length → (a.zip b).map (·.1) = a
  | [], [], _ => rfl
  | x :: a, y :: b, h => by simp [zip_fst a b (by simpa using h)]
  | [], _ :: _, h => by simp at h
  | _ :: _, [], h => by simp at h
theorem zip_snd {α β : Type} : ∀ (a : List α) (b : List β), a.length = b.length → (a.zip b).map (·.2) = b
  | [], [], _ => rfl
  | x :: a, y :: b, h => by simp [zip_snd a b (by simpa using h)]
  | [], _ :: _, h => by simp at h
  | _ :: _, [], h => by simp at h
theorem put_new (a : List (Key × V)) (k : Key) (v : V) (h : k ∉ a.map (·.1)) : putK a k v = a ++ [(k, v)] := by
  unfold putK
  rw [if_neg]
  intro z
  obtain ⟨p, hp, e⟩ := List.any_eq_true.mp z
  exact h (List.mem_map.mpr ⟨p, hp, of_decide_eq_true e⟩)
theorem merge_new : ∀ (b a : List (Key × V)), ((a ++ b).map (·.1)).Nodup → mergeK a b = a ++ b
  | [], a, _ => by simp [mergeK]
  | (k, v) :: b, a, h => by
    show mergeK (putK a k v) b = a ++ (k, v) :: b
    have h1 : k ∉ a.map (·.1) := by
      rw [List.map_append, List.nodup_append] at h
      intro z
      exact h.2.2 k z k (by simp) rfl
    rw [put_new a k v h1, merge_new b (a ++ [(k, v)]) (by simpa using h)]
    simp
theorem zip_pairs : ∀ (ks : List Str) (vs : List V), (ks.map V.str).zip vs = ((ks.map Sum.inr).zip vs : List (Key × V)).map fun kv => (kV kv.1, kv.2)
  | [], _ => rfl
  | _ :: _, [] => rfl
  | k :: ks, v :: vs => by
    simp only [List.map_cons, List.zip_cons_cons, zip_pairs ks vs]
    rfl
theorem RUs.loc_lt {K : PySem.W.Frag} {bad μ : List Addr} {H : Hp} : ∀ {us : List U} {vs : List V} {l : Nat}, RUs K bad μ H us vs → U.loc l ∈ us → l < μ.length
  | _, _, _, .nil, h => nomatch h
  | _, _, l, .cons r t, h => by
    rcases List.mem_cons.mp h with e | h
    · subst e
      cases r with
      | loc hm => exact (List.getElem?_eq_some_iff.mp hm).1
    · exact RUs.loc_lt t h
theorem de_disp {keys : List (Option Expr)} {values : List Expr} {ks : List Str} (h : DP X T W pos keys values ks fa) (hall : keys.all (·.isSome) = true) (h0 : keys ≠ []) (h15 : keys.length ≤ 15) (hnd : (ks.map (Sum.inr : Str → Key)).Nodup) :
    DE X T W (.Dict keys values pos) (dispF ks fa) := by
  obtain ⟨trs, hp, hk⟩ := h.ex
  refine ⟨peW (pe_disp hp hall h.l1 h0 h15) fun σ H Q ⟨bad, μ, Γ, M, rm, rg, hq⟩ => fun p hp => ?_⟩
  have g0 := Gr.laid (μ := μ) (o := .dK []) hp
  have rm0 := rm.away hp g0 (Gr.ext (μ := μ) hp) (.of upd_same fun _ z => nomatch z) (by rw [upd_same]; exact fun _ z => nomatch z)
  have rg0 : RG X.K (p :: bad) μ (upd H p (.dK [])) Γ σ := ⟨rg.len, fun i d hi => by
    obtain ⟨v, e, r⟩ := rg.at_ i d hi
    exact ⟨v, e, (r.away hp).gr0 g0 (fun b hb => List.mem_cons_of_mem _ (rm.sub b hb))⟩⟩
  have hpμ : p ∉ μ := fun z => rm.fresh hp (rm.sub p z)
  refine hk _ _ Γ M _ σ _ rm0 rg0 ?_
  unfold dispF at hq
  cases e1 : fa Γ M with
  | stuck => rw [e1] at hq; exact hq.elim
  | exc x M1 =>
    rw [e1] at hq
    intro ν c dx H' g rm' rx
    have g2 : Gr μ H H' ν := ⟨fun b hb => by
      intro hh
      exact g.new b hb (g0.dom b hh), g.nd, fun b o e1 e2 e3 => g.keep b o (Gr.ext (μ := μ) hp b o e1) e2 e3, fun b hb => g.dom b (g0.dom b hb)⟩
    have hs : ∀ b ∈ bad ++ ν, b ∈ (p :: bad) ++ ν := fun b hb => List.mem_cons_of_mem _ hb
    refine hq ν c dx H' g2 (rm'.less (a := p) hs fun b hb => ?_) ⟨rx.1, fun hne => ?_⟩
    · rcases List.mem_append.mp hb with z | z
      · exact List.mem_append_left _ (rm.sub b z)
      · exact List.mem_append_right _ z
    · obtain ⟨dd, vs, q1, q2, q3⟩ := rx.2 hne
      exact ⟨dd, vs, q1, q2, q3.less hs⟩
  | ok ds M1 =>
    rw [e1] at hq
    intro ν vs H2 g rm2 rv2
    have hl : ks.length = vs.length := by rw [← rv2.length, h.l2, h.len _ _ _ _ e1]
    have hp2 : H2 p = some (.dK []) := g.keep p _ upd_same (fun _ z => by cases z) hpμ
    have ek : (ks.map (Sum.inr : Str → Key)).length = vs.length := by simpa using hl
    have ekd : (ks.map (Sum.inr : Str → Key)).length = ds.length := by rw [ek, rv2.length]
    have e15 : ks.length ≤ 15 := by rw [h.l2, ← h.l1]; exact h15
    refine ⟨hp2, (ks.map Sum.inr).zip vs, zip_pairs ks vs, by rw [List.length_zip, List.length_map]; omega, ?_⟩
    rw [merge_new _ [] (by rw [List.nil_append, zip_fst _ _ ek]; exact hnd), List.nil_append]
    have hpν : p ∉ ν := fun z => by
      exact g.new p z (.of upd_same fun _ z => nomatch z)
    have hpm : p ∉ μ ++ ν := fun z => (List.mem_append.mp z).elim hpμ hpν
    have keepO : ∀ b o, b ≠ p → H2 b = some o → upd H2 p (.dK ((ks.map (Sum.inr : Str → Key)).zip vs)) b = some o := fun b o hb e => by rw [upd_ne hb]; exact e
    -- behind the last store
    have gx : Gr (μ ++ ν ++ [p]) H2 (upd H2 p (.dK ((ks.map (Sum.inr : Str → Key)).zip vs))) [] := Gr.wr (by simp) (fun _ z => nomatch z)
    have rm3 : RM X.K T (bad ++ ν ++ [p]) (μ ++ ν ++ [p]) (M1 ++ [.dic []]) H2 := by
      have hs : ∀ b ∈ p :: (bad ++ ν), b ∈ (p :: bad) ++ ν := fun b hb => hb
      exact (rm2.less (a := p) hs fun b hb => by
        rcases List.mem_append.mp hb with z | z
        · exact List.mem_cons_of_mem _ (List.mem_append_left _ (rm.sub b z))
        · exact List.mem_cons_of_mem _ (List.mem_append_right _ z)).join hpm (.dic (Nat.zero_le _) hp2 rfl .nil) (fun kvs e k l h => by cases e; cases h)
    have hs2 : ∀ b ∈ bad ++ ν ++ [p], b ∈ (p :: bad) ++ ν := fun b hb => by
      rcases List.mem_append.mp hb with z | z
      · exact List.mem_cons_of_mem _ z
      · rw [List.mem_singleton.mp z]; exact List.mem_cons_self
    have hat : (μ ++ ν ++ [p])[M1.length]? = some p := by rw [← rm2.len]; simp
    have rm4 := rm3.wr (n := M1.length) (ob' := .dic ((ks.map (Sum.inr : Str → Key)).zip ds)) (ho' := .dK ((ks.map (Sum.inr : Str → Key)).zip vs)) hat hp2 trivial (.dic (by rw [List.length_zip, List.length_map, sizeLine_eq]; omega) upd_same (by rw [zip_fst _ _ ek, zip_fst _ _ ekd]) (by
      rw [zip_snd _ _ ek, zip_snd _ _ ekd]
      exact (RUs.more (rv2.less hs2)).gr0 gx rm3.sub)) (fun kvs e k l h => by
        cases e
        rw [← rm2.len]
        exact rv2.loc_lt (List.of_mem_zip h).2)
    have eM : (M1 ++ [Ob.dic []]).set M1.length (.dic ((ks.map (Sum.inr : Str → Key)).zip ds)) = M1 ++ [.dic ((ks.map (Sum.inr : Str → Key)).zip ds)] := by simp
    rw [eM] at rm4
    have g5 : Gr μ H (upd H2 p (.dK ((ks.map (Sum.inr : Str → Key)).zip vs))) (ν ++ [p]) := by
      refine ⟨fun b hb => ?_, ?_, fun b o q1 q2 q3 => ?_, fun b hb => ?_⟩
      · rcases List.mem_append.mp hb with z | z
        · exact fun hh => g.new b z (g0.dom b hh)
        · rw [List.mem_singleton.mp z]; exact fun z => z.no hp
      · refine List.nodup_append.mpr ⟨g.nd, by simp, fun x hx y hy ez => ?_⟩
        have e2 := List.mem_singleton.mp hy
        exact hpν (by rw [← e2, ← ez]; exact hx)
      · have hb2 : b ≠ p := fun e => by rw [e, hp] at q1; cases q1
        exact keepO b o hb2 (g.keep b o (Gr.ext (μ := μ) hp b o q1) q2 q3)
      · by_cases hb2 : b = p
        · rw [hb2]; exact .of upd_same fun _ z => nomatch z
        · obtain ⟨o, e, h'⟩ := g.dom b (g0.dom b hb)
          exact ⟨o, by rw [upd_ne hb2]; exact e, h'⟩
    refine hq (ν ++ [p]) (.ref p) _ g5 (by simpa only [List.append_assoc] using rm4) (.loc ?_)
    have := hat
    simpa only [List.append_assoc] using this
end
end Mp
namespace Mp
open PySem PySem.Spec PyProof.Rows L2

/-- the names at a def's entry -/
def entG (n : Nat) (us : List U) : Env := us.map some ++ List.replicate (n - us.length) none
/-- what is given back outlives the call: a young list stands still from now on -/
def leaveU (n0 : Nat) (M : Mem) : U → Option (U × Mem)
  | .p d => some (.p d, M.take n0)
  | .loc n => if n < n0 then some (.loc n, M.take n0) else match M[n]? with
    | some (.lst xs) => some (.p (.lst xs), M.take n0)
    | some _ => some (.loc n, M)
    | none => none
def exitR (n0 : Nat) : Fl → Res U
  | .nx _ M => .ok (.p .non) (M.take n0)
  | .rt u M => match leaveU n0 M u with
    | some (u', M') => .ok u' M'
    | none => .stuck
  | .ex e _ M => .exc e (M.take n0)
  | _ => .stuck
/-- a def of n names -/
def fnS (n : Nat) (g : Fs) : List U → Mem → Res U := fun us M => exitR M.length (g (entG n us) M)
def callF (F : List U → Mem → Res U) (fa : Fa) : Fx := fun Γ M => (fa Γ M).bind fun us M1 => F us M1

section
variable {K : PySem.W.Frag} {mg : Str → Option Value} {T : List (Addr × Str)} {bad μ ν : List Addr} {M : Mem} {H : Hp}
theorem RU.low {u : U} {v : V} (r : RU K bad (μ ++ ν) H u v) (h : ∀ l, u = .loc l → l < μ.length) : RU K bad μ H u v := by
  cases r with
  | p r => exact .p r
  | loc hm => exact .loc (by rw [List.getElem?_append_left (h _ rfl)] at hm; exact hm)
theorem RUs.low : ∀ {us : List U} {vs : List V}, RUs K bad (μ ++ ν) H us vs → (∀ l, U.loc l ∈ us → l < μ.length) → RUs K bad μ H us vs
  | _, _, .nil, _ => .nil
  | _, _, .cons r t, h => .cons (r.low fun l e => h l (by rw [e]; exact List.mem_cons_self)) (RUs.low t fun l e => h l (List.mem_cons_of_mem _ e))
theorem RM.leave (rm : RM K T (bad ++ ν) (μ ++ ν) M H) (hs : ∀ b ∈ μ, b ∈ bad) : RM K T bad μ (M.take μ.length) H := by
  have hb : ∀ b ∈ bad, b ∈ bad ++ ν := fun b hb => List.mem_append_left _ hb
  have hl : (M.take μ.length).length = μ.length := by
    have := rm.len
    rw [List.length_append] at this
    rw [List.length_take]
    omega
  have low : ∀ {n : Nat} {o : Ob}, (M.take μ.length)[n]? = some o → n < μ.length ∧ M[n]? = some o := fun {n o} h => by
    have z := (List.getElem?_eq_some_iff.mp h).1
    have z2 : n < μ.length := by omega
    exact ⟨z2, by rwa [List.getElem?_take_of_lt z2] at h⟩
  refine ⟨rm.tab, hl.symm, (List.nodup_append.mp rm.nd).1, hs, fun b h => rm.dom b (hb b h), fun n o a h1 h2 => ?_, fun n kvs h1 => ?_, fun b h => rm.nt b (hb b h)⟩
  · obtain ⟨z, e⟩ := low h1
    have e2 : (μ ++ ν)[n]? = some a := by rw [List.getElem?_append_left z]; exact h2
    cases rm.at_ n o a e e2 with
    | lst z h r => exact .lst z h (r.less hb)
    | @dic kvs _ ws zz h l r =>
      refine .dic zz h l (RUs.low (r.less hb) fun i hi => ?_)
      obtain ⟨p, hp, ep⟩ := List.mem_map.mp hi
      have hp2 : (p.1, U.loc i) ∈ kvs := by rw [← ep]; exact hp
      exact Nat.lt_trans (rm.wf n kvs e p.1 i hp2) z
    | dtu z h l r => exact .dtu z h l (r.less hb)
  · exact rm.wf n kvs (low h1).2
theorem Gr.leave {H' : Hp} (g : Gr μ H H' ν) : Gr μ H H' [] := ⟨fun _ h => (nomatch h), .nil, g.keep, g.dom⟩
theorem RX.less {bad' : List Addr} (hs : ∀ b ∈ bad', b ∈ bad) {e : Ex} {cls : Value} {dx : Option Addr} (r : RX mg K bad H e cls dx) : RX mg K bad' H e cls dx := ⟨r.1, fun h => by
  obtain ⟨dd, vs, h1, h2, h3⟩ := r.2 h
  exact ⟨dd, vs, h1, h2, h3.less hs⟩⟩
/-- a def's end -/
theorem exit_ok {M0 : Mem} {r : Fl} {Q : VK} {E : XK} (rm0 : RM K T bad μ M0 H) (h : Post K mg T bad μ H (exitR M0.length r) Q E) : PostS K mg T bad μ H r { nx := fun _ H' => Q .non H', rt := Q } (fun c d _ H' => E c d H') := by
  have hb : ∀ {ν : List Addr}, ∀ b ∈ bad, b ∈ bad ++ ν := fun b hb => List.mem_append_left _ hb
  rw [← rm0.len] at h
  cases r with
  | nx Γ' M' => exact fun ν σ' H' g rm rg => h [] .non H' g.leave (by simpa using rm.leave rm0.sub) (.p .non)
  | rt u M' =>
    intro ν v H' g rm ru
    unfold exitR leaveU at h
    cases ru with
    | p rv => exact h [] v H' g.leave (by simpa using rm.leave rm0.sub) (.p (by simpa using rv.less hb))
    | @loc n a hm =>
      by_cases hn : n < μ.length
      · simp only [if_pos hn] at h
        exact h [] _ H' g.leave (by simpa using rm.leave rm0.sub) (.loc (by rw [List.append_nil]; rw [List.getElem?_append_left hn] at hm; exact hm))
      · simp only [if_neg hn] at h
        cases em : M'[n]? with
        | none => simp only [em] at h; exact h.elim
        | some o =>
          cases o with
          | lst xs =>
            simp only [em] at h
            have hm' : a ∈ ν := by
              rw [List.getElem?_append_right (by omega)] at hm
              exact List.mem_of_getElem? hm
            cases rm.at_ n _ a em hm with
            | lst z hH r =>
            refine h [] _ H' g.leave (by simpa using rm.leave rm0.sub) (.p ?_)
            have := RV.lst (K := K) (bad := bad) (H := H') ⟨z, hH, fun hbad => g.new a hm' (rm0.dom a hbad)⟩ (r.less hb)
            simpa using this
          | dic kvs =>
            simp only [em] at h
            exact h ν _ H' g rm (.loc hm)
          | dtu kvs =>
            simp only [em] at h
            exact h ν _ H' g rm (.loc hm)
  | bk Γ' M' => exact h.elim
  | ct Γ' M' => exact h.elim
  | ex e Γ' M' => exact fun ν σ' c dx H' g rm rg rx => h [] c dx H' g.leave (by simpa using rm.leave rm0.sub) (by simpa using rx.less hb)
  | st => exact h.elim
theorem rg_start {us : List U} {vs : List V} {N : List Str} (r : RUs K bad μ H us vs) : RG K bad μ H (entG N.length us) (L2.start N vs) := by
  have hl := r.length
  refine ⟨by simp [entG, L2.start, hl], fun i d h => ?_⟩
  unfold entG at h
  by_cases hi : i < us.length
  · rw [List.getElem?_append_left (by simpa using hi), List.getElem?_map] at h
    cases e : us[i]? with
    | none => rw [e] at h; cases h
    | some u =>
      rw [e] at h
      cases h
      obtain ⟨v, e2, rv⟩ := r.get e
      refine ⟨v, ?_, rv⟩
      unfold L2.start
      rw [List.getElem?_append_left (by simp; omega), List.getElem?_map, e2]
      rfl
  · rw [List.getElem?_append_right (by simpa using Nat.le_of_not_lt hi)] at h
    rw [List.getElem?_replicate] at h
    split at h <;> cases h
end

/-- the promise of a def, told by data -/
def spD (K : PySem.W.Frag) (mg : Str → Option Value) (T : List (Addr × Str)) (n : Nat) (F : List U → Mem → Res U) : Sp := fun vs H Q E =>
  ∃ bad μ M us, RM K T bad μ M H ∧ RUs K bad μ H us vs ∧ us.length = n ∧ Post K mg T bad μ H (F us M) Q E
/-- a def that keeps its promise; gd: no comparison, no repr is under way -/
structure FnD (T : List (Addr × Str)) (gd : Bool) (P : Program) (w : World) (K : PySem.W.Frag) (mg : Str → Option Value) (base : Heap) (k : Nat) (f : Addr) (fd : FuncData) (ps : List Str) (F : List U → Mem → Res U) : Prop where
  run : ∀ (A : Around) (outer : List PySem.Env) (s : Shared) (H : Hp) (args : Args) (us : List Value) (vs : List V) (Q : VK) (E : XK), Room k A → (gd = true → A.guards = some []) → Env0 P w K mg base A outer s H → BindsTo s fd args (ps.zip us) → Vals vs us → spD K mg T ps.length F vs H Q E →
    codeAny (model P w) A (.call (.ref f) args) (CR (L2.CX P w) outer P w H s Q E) s
theorem FnD.mono {T : List (Addr × Str)} {gd : Bool} {P : Program} {w : World} {K : PySem.W.Frag} {mg : Str → Option Value} {base : Heap} {j k : Nat} {f : Addr} {fd : FuncData} {ps : List Str} {F : List U → Mem → Res U} (h : FnD T gd P w K mg base j f fd ps F) (hk : j ≤ k) : FnD T gd P w K mg base k f fd ps F :=
  ⟨fun A outer s H args us vs Q E hr => h.run A outer s H args us vs Q E (hr.mono hk)⟩
/-- the reading of exceptions in a def's body -/
abbrev WD (E : XK) : WX := fun c d _ H => E c d H
section
variable {P : Program} {w : World} {K : PySem.W.Frag} {mg : Str → Option Value} {base : Heap} {x qual : Str} {params : Arguments} {body : List Stmt} {scope : Scope} {f : Addr} {fd : FuncData} {T : List (Addr × Str)} {gd : Bool}
theorem FnD.of {N ps : List Str} {k : Nat} {g : Fs} (F : FunD K x qual params body scope [] [] f fd) (S : FnScope N ps scope)
    (hbody : ∀ (cdv : Value), fd.code = cdv → ∀ (A : Around) (outer : List PySem.Env) (s : Shared) (H : Hp) (E : XK), Room k (A.deeper (envOfC qual scope s.heap.objs.size f cdv)) → (gd = true → (A.deeper (envOfC qual scope s.heap.objs.size f cdv)).guards = some []) →
      DSs (cxOf (L2.CX P w) P w K mg base N qual scope f cdv A outer s H E) T (WD E) body g) : FnD T gd P w K mg base (k + 1) f fd ps (fnS N.length g) := by
  obtain ⟨oc, od, dV, kV, doc, pm, an, cdv, ct, osl, rfl, lk, hcd, _, _⟩ := F.ex
  refine ⟨fun A outer s H args us vs Q E hr hgd e0 hb r hsp => ?_⟩
  obtain ⟨bad, μ, M, ds, rm, ru, hl, h⟩ := hsp
  have hl2 : vs.length = ps.length := by rw [← ru.length]; exact hl
  refine LamX.run_ofS lk hcd S hr e0 hb r hl2 fun hr' => ⟨_, (hbody cdv rfl A outer s H E hr' fun hg => ?_).pss, bad, μ, entG N.length ds, M, rm, rg_start ru, exit_ok rm h⟩
  exact hgd hg
end
section
variable {X : Cx} {T : List (Addr × Str)} {W : WX} {gd : Bool} {k : Nat} {f : Addr} {fd : FuncData} {ps : List Str} {F : List U → Mem → Res U} {x : Str} {p pos : Pos} {e : Expr} {es : List Expr} {fa : Fa}
theorem de_call (hF : FnD T gd X.prog X.w X.K X.mg X.base k f fd ps F) (hr : Room k X.A) (hgd : gd = true → X.A.guards = some []) (hg : Gl X x) (hm : X.mg x = some (.ref f)) (hk : PySem.W.keepIn X.K (.ref f) = true) (hb : L2.Binds X.K fd ps []) (tk : Takes X W)
    (ha : DA X T W (e :: es) fa) (hn : (e :: es).length = ps.length := by rfl) (hdb : (x == ("__debug__" : Str)) = false := by decide) (he : starEach (e :: es) X.env = (false, eval e X.env) :: starEach es X.env := by rfl) (hpl : (backTo pos (starEach es X.env)).any (·.1) = false := by rfl) :
    DE X T W (.Call (.Name x p) (e :: es) [] pos) (callF F fa) := by
  refine ⟨⟨fun pins s σ H Q I ⟨bad, μ, Γ, M, rm, rg, h⟩ => ?_⟩⟩
  refine wpAny_Call_Name_kw (ld_glob I hg hm ?_ hdb)
  refine PySem.W.callWith_K (h₀ := X.base) I.ok.mod.kin hk (thn (ha.pa.run pos pins s σ H _ I ⟨bad, μ, Γ, M, rm, rg, PostA.len (fun ds M' e => ha.len Γ M ds M' e) (Post.bindA h)⟩) fun us s1 ⟨vs, H1, I1, r, hlen, ν, ds, M1, g1, rm1, rv1, q⟩ => ⟨I1.kIn, ?_⟩) he hpl
  have hl : us.length = ps.length := by rw [← r.length, hlen]; exact hn
  have b := hb s1 us I1.kIn (by rw [List.append_nil]; exact hl)
  rw [List.append_nil] at b
  refine wpAny_call (codeAny_mono (hF.run X.A X.stack s1 H1 ⟨us, []⟩ us vs Q (WE W σ) hr hgd I1.env0 b r ⟨_, _, M1, ds, rm1, rv1, by rw [rv1.length, hlen]; exact hn, q⟩) fun r s' hq => ?_)
  cases r with
  | error e => exact passAt tk σ pins H1 s1 e s' I1 hq
  | ok fl =>
    cases fl with
    | ret u => exact I1.after hq
    | next => exact False.elim hq
    | brk => exact False.elim hq
    | cont => exact False.elim hq
end
end Mp
namespace Mp
open PySem PySem.Spec PyProof.Rows L2

/-- n turns at most -/
def whileN (c : Fb) (b : Fs) : Nat → Env → Mem → Fl
  | 0, _, _ => .st
  | n + 1, Γ, M => thenS (c Γ M) Γ fun k M1 => match k with
    | true => match b Γ M1 with
      | .nx Γ2 M2 => whileN c b n Γ2 M2
      | .ct Γ2 M2 => whileN c b n Γ2 M2
      | .bk Γ2 M2 => .nx Γ2 M2
      | r => r
    | false => .nx Γ M1
open Classical in
/-- it ends within some number of turns, or it is stuck -/
noncomputable def whileC (c : Fb) (b : Fs) : Fs := fun Γ M => if h : ∃ n, whileN c b n Γ M ≠ .st then whileN c b (Classical.choose h) Γ M else .st
/-- the same, and it can be run -/
noncomputable def whileS (c : Fb) (b : Fs) : Fs := fun Γ M => match whileN c b 400 Γ M with
  | .st => whileC c b Γ M
  | r => r
section
variable {K : PySem.W.Frag} {mg : Str → Option Value} {T : List (Addr × Str)} {bad μ : List Addr} {H : Hp}
/-- behind the body of a loop -/
def loopEnd (f : Env → Mem → Fl) : Fl → Fl
  | .nx Γ M => f Γ M
  | .ct Γ M => f Γ M
  | .bk Γ M => .nx Γ M
  | r => r
theorem PostS.loop {r : Fl} {f : Env → Mem → Fl} {D : Ends} {W : WX} (h : PostS K mg T bad μ H (loopEnd f r) D W) {N : L2.St → Hp → Prop}
    (hN : ∀ ν σ' H' Γ M, Gr μ H H' ν → RM K T (bad ++ ν) (μ ++ ν) M H' → RG K (bad ++ ν) (μ ++ ν) H' Γ σ' → PostS K mg T (bad ++ ν) (μ ++ ν) H' (f Γ M) D W → N σ' H') : PostS K mg T bad μ H r { D with nx := N, ct := N, bk := D.nx } W := by
  cases r with
  | nx Γ' M' => exact fun ν σ' H' g rm rg => hN ν σ' H' Γ' M' g rm rg (PostS.gr h g rm.domν)
  | ct Γ' M' => exact fun ν σ' H' g rm rg => hN ν σ' H' Γ' M' g rm rg (PostS.gr h g rm.domν)
  | bk Γ' M' => exact h
  | rt d M' => exact h
  | ex e Γ' M' => exact h
  | st => exact h
end
theorem whileN_succ (c : Fb) (b : Fs) (n : Nat) (Γ : Env) (M : Mem) : whileN c b (n + 1) Γ M = thenS (c Γ M) Γ fun k M1 => match k with | true => loopEnd (whileN c b n) (b Γ M1) | false => .nx Γ M1 := by
  rw [whileN]
  congr
section
variable {X : Cx} {T : List (Addr × Str)} {W : WX} {c : Expr} {cb : Fb} {g : Fs} {body : List Stmt} {pos : Pos}
theorem ds_while (hp : PassesOwn (model X.prog X.w) X.A X.env X.xe) (hc : DT X T W c cb) (hb : DSs X T W body g) : DS X T W (.While c body [] pos) (whileS cb g) :=
  ⟨psW (ps_while hp hc.pt hb.pss) fun D σ H ⟨bad, μ, Γ, M, rm, rg, h⟩ => by
  have hn : ∃ n, PostS X.K X.mg T bad μ H (whileN cb g n Γ M) D W := by
    unfold whileS at h
    cases e : whileN cb g 400 Γ M with
    | st =>
      rw [e] at h
      dsimp only at h
      unfold whileC at h
      split at h
      · exact ⟨_, h⟩
      · exact h.elim
    | nx _ _ => rw [e] at h; exact ⟨400, e ▸ h⟩
    | rt _ _ => rw [e] at h; exact ⟨400, e ▸ h⟩
    | bk _ _ => rw [e] at h; exact ⟨400, e ▸ h⟩
    | ct _ _ => rw [e] at h; exact ⟨400, e ▸ h⟩
    | ex _ _ _ => rw [e] at h; exact ⟨400, e ▸ h⟩
  obtain ⟨n, h⟩ := hn
  refine ⟨fun m σ H => ∃ bad μ Γ M, RM X.K T bad μ M H ∧ RG X.K bad μ H Γ σ ∧ PostS X.K X.mg T bad μ H (whileN cb g m Γ M) D W, ⟨n, bad, μ, Γ, M, rm, rg, h⟩, ?_⟩
  rintro m σ1 H1 ⟨bad1, μ1, Γ1, M1, rm1, rg1, h1⟩
  cases m with
  | zero => exact h1.elim
  | succ m =>
    rw [whileN_succ] at h1
    refine ⟨bad1, μ1, Γ1, M1, rm1, rg1, (PostS.thenB h1 rm1.sub rg1).mono ?_⟩
    rintro k H2 ⟨ν, M2, q1, rm2, h2⟩
    cases k with
    | true =>
      rw [if_pos rfl]
      refine ⟨fun σ' H' => ∃ bad μ Γ M, RM X.K T bad μ M H' ∧ RG X.K bad μ H' Γ σ' ∧ PostS X.K X.mg T bad μ H' (whileN cb g m Γ M) D W, fun σ' H' h => ⟨m, Nat.lt_succ_self m, h⟩, ?_⟩
      exact ⟨_, _, Γ1, M2, rm2, rg1.gr q1 rm1.sub, PostS.loop h2 fun ν σ' H' Γ M g rm rg h => ⟨_, _, Γ, M, rm, rg, h⟩⟩
    | false =>
      rw [if_neg Bool.false_ne_true]
      exact PostS.here h2 rm2 (rg1.gr q1 rm1.sub)⟩
end
end Mp
namespace Mp
open PySem PySem.Spec PyProof.Rows L2

/-- a list that may change is to stand still while it is walked -/
def grd (gd : List (Nat × List D)) (M : Mem) : Prop := ∀ p ∈ gd, M[p.1]? = some (.lst p.2)
mutual
def D.beq : D → D → Bool
  | .non, .non => true
  | .bl a, .bl b => a == b
  | .int a, .int b => decide (a = b)
  | .str a, .str b => decide (a = b)
  | .tup a, .tup b => D.beqs a b
  | .lst a, .lst b => D.beqs a b
  | .kup a, .kup b => D.beqs a b
  | .scr a, .scr b => decide (a = b)
  | _, _ => false
def D.beqs : List D → List D → Bool
  | [], [] => true
  | a :: as, b :: bs => D.beq a b && D.beqs as bs
  | _, _ => false
end
mutual
theorem D.beq_iff : ∀ a b : D, D.beq a b = true ↔ a = b
  | .non, b => by cases b <;> simp [D.beq]
  | .bl a, b => by cases b <;> simp [D.beq]
  | .int a, b => by cases b <;> simp [D.beq]
  | .str a, b => by cases b <;> simp [D.beq]
  | .scr a, b => by cases b <;> simp [D.beq]
  | .tup a, b => by cases b <;> simp [D.beq, D.beqs_iff a]
  | .lst a, b => by cases b <;> simp [D.beq, D.beqs_iff a]
  | .kup a, b => by cases b <;> simp [D.beq, D.beqs_iff a]
theorem D.beqs_iff : ∀ a b : List D, D.beqs a b = true ↔ a = b
  | [], b => by cases b <;> simp [D.beqs]
  | x :: xs, b => by cases b <;> simp [D.beqs, D.beq_iff x, D.beqs_iff xs]
end
instance grdD (gd : List (Nat × List D)) (M : Mem) : Decidable (grd gd M) :=
  decidable_of_bool (gd.all fun p => match M[p.1]? with | some (.lst ys) => D.beqs ys p.2 | _ => false) (by
    rw [List.all_eq_true]
    refine forall_congr' fun p => forall_congr' fun _ => ?_
    cases M[p.1]? with
    | none => simp
    | some o => cases o <;> simp [D.beqs_iff])
structure Wk where
  ds : List D
  gd : List (Nat × List D)
abbrev Fi := Env → Mem → Res Wk
/-- what is kept away besides is new -/
def Grow (bad bad' : List Addr) (H0 : Hp) : Prop := ∀ b ∈ bad', b ∈ bad ∨ ¬ NT H0 b
theorem TrT.grow {bad bad' μ ν : List Addr} {H H' : Hp} {a : Addr} {vs : List V} (g : Gr μ H H' ν) (hb : ∀ b ∈ μ, b ∈ bad) (w : Grow bad bad' H) (t : TrT bad H a vs) : TrT bad' H' a vs :=
  ⟨t.1, g.keep a _ t.2.1 (fun _ z => by cases z) fun z => t.2.2 (hb a z), fun z => (w a z).elim t.2.2 fun z => z ⟨_, t.2.1, fun _ z => by cases z⟩⟩
theorem TrL.grow {bad bad' μ ν : List Addr} {H H' : Hp} {a : Addr} {vs : List V} (g : Gr μ H H' ν) (hb : ∀ b ∈ μ, b ∈ bad) (w : Grow bad bad' H) (t : TrL bad H a vs) : TrL bad' H' a vs :=
  ⟨t.1, g.keep a _ t.2.1 (fun _ z => by cases z) fun z => t.2.2 (hb a z), fun z => (w a z).elim t.2.2 fun z => z ⟨_, t.2.1, fun _ z => by cases z⟩⟩
theorem TrS.grow {K : PySem.W.Frag} {bad bad' μ ν : List Addr} {H H' : Hp} {a : Addr} {vs : List V} (g : Gr μ H H' ν) (hb : ∀ b ∈ μ, b ∈ bad) (w : Grow bad bad' H) (t : TrS K bad H a vs) : TrS K bad' H' a vs :=
  ⟨t.1, t.2.imp (fun t => ⟨Rd.gr g (fun _ z => by cases z) (fun z => t.2 (hb a z)) t.1, fun z => (w a z).elim t.2 fun z => z (Rd.some t.1)⟩) id⟩
mutual
theorem RV.grow {K : PySem.W.Frag} {bad bad' μ ν : List Addr} {H H' : Hp} (g : Gr μ H H' ν) (hb : ∀ b ∈ μ, b ∈ bad) (w : Grow bad bad' H) : ∀ {d : D} {v : V}, RV K bad H d v → RV K bad' H' d v
  | _, _, .non => .non
  | _, _, .bl b => .bl b
  | _, _, .int i => .int i
  | _, _, .str x => .str x
  | _, _, .tup t r => .tup (t.grow g hb w) (RVs.grow g hb w r)
  | _, _, .lst t r => .lst (t.grow g hb w) (RVs.grow g hb w r)
  | _, _, .kup z k r => .kup z k (RVs.grow g hb w r)
  | _, _, .scr t => .scr (t.grow g hb w)
theorem RVs.grow {K : PySem.W.Frag} {bad bad' μ ν : List Addr} {H H' : Hp} (g : Gr μ H H' ν) (hb : ∀ b ∈ μ, b ∈ bad) (w : Grow bad bad' H) : ∀ {ds : List D} {vs : List V}, RVs K bad H ds vs → RVs K bad' H' ds vs
  | _, _, .nil => .nil
  | _, _, .cons r t => .cons (RV.grow g hb w r) (RVs.grow g hb w t)
end
/-- the iterator J gives ds, whatever the heap has become -/
def ItOk (K : PySem.W.Frag) (T : List (Addr × Str)) (bad μ : List Addr) (J : It) (k : Wk) (H0 : Hp) : Prop :=
  ∀ ν bad' H M, Gr μ H0 H ν → Grow bad bad' H0 → RM K T bad' (μ ++ ν) M H → grd k.gd M →
    (∀ i d, k.ds[i]? = some d → J.go i H ∧ ∀ x H', J.yld i H x H' → Gr (μ ++ ν) H H' [] ∧ RM K T bad' (μ ++ ν) M H' ∧ RV K bad' H' d x) ∧ ∀ i, k.ds.length ≤ i → J.stop i H
def PostI (K : PySem.W.Frag) (mg : Str → Option Value) (T : List (Addr × Str)) (bad μ : List Addr) (H : Hp) (r : Res Wk) (R : It → Hp → Prop) (E : XK) : Prop :=
  match r with
  | .ok k M' => ∀ ν J H', Gr μ H H' ν → RM K T (bad ++ ν) (μ ++ ν) M' H' → ItOk K T (bad ++ ν) (μ ++ ν) J k H' → R J H'
  | .exc e M' => ∀ ν cls dx H', Gr μ H H' ν → RM K T (bad ++ ν) (μ ++ ν) M' H' → RX mg K (bad ++ ν) H' e cls dx → E cls dx H'
  | .stuck => False
structure DI (X : Cx) (T : List (Addr × Str)) (W : WX) (tg iter : Expr) (f : Fi) : Prop where
  ex : ∃ wi, PI X tg iter wi ∧ ∀ σ H R bad μ Γ M, RM X.K T bad μ M H → RG X.K bad μ H Γ σ → PostI X.K X.mg T bad μ H (f Γ M) R (fun c d H' => W c d σ H') → wi σ H R

section
variable {K : PySem.W.Frag} {mg : Str → Option Value} {T : List (Addr × Str)} {bad μ : List Addr} {H : Hp}
theorem PostI.here {k : Wk} {M : Mem} {R : It → Hp → Prop} {E : XK} {J : It} (h : PostI K mg T bad μ H (.ok k M) R E) (rm : RM K T bad μ M H) (ok : ItOk K T bad μ J k H) : R J H := h [] J H (Gr.refl μ H) (by simpa using rm) (by simpa using ok)
theorem PostI.gr {H1 : Hp} {ν : List Addr} {r : Res Wk} {R : It → Hp → Prop} {E : XK} (h : PostI K mg T bad μ H r R E) (g : Gr μ H H1 ν) (hd : ∀ b ∈ ν, NT H1 b) : PostI K mg T (bad ++ ν) (μ ++ ν) H1 r R E := by
  cases r with
  | ok d M' => exact fun ν' J H' g' rm ok => h (ν ++ ν') J H' (g.trans g' hd) (by simpa only [List.append_assoc] using rm) (by simpa only [List.append_assoc] using ok)
  | exc e M' => exact fun ν' c dx H' g' rm rx => h (ν ++ ν') c dx H' (g.trans g' hd) (by simpa only [List.append_assoc] using rm) (by simpa only [List.append_assoc] using rx)
  | stuck => exact h
theorem PostI.bind {r : Res U} {k : U → Mem → Res Wk} {R : It → Hp → Prop} {E : XK} (h : PostI K mg T bad μ H (r.bind k) R E) :
    Post K mg T bad μ H r (Mid K T bad μ H fun bad1 μ1 d M1 v H1 => PostI K mg T bad1 μ1 H1 (k d M1) R E) E := by
  cases r with
  | ok d M' => exact fun ν v H' g rm rv => ⟨ν, d, M', g, rm, rv, PostI.gr h g rm.domν⟩
  | exc e M' => exact h
  | stuck => exact h
theorem PostI.bindA {r : Res (List U)} {k : List U → Mem → Res Wk} {R : It → Hp → Prop} {E : XK} (h : PostI K mg T bad μ H (r.bind k) R E) :
    PostA K mg T bad μ H r (fun vs H1 => ∃ ν ds M1, Gr μ H H1 ν ∧ RM K T (bad ++ ν) (μ ++ ν) M1 H1 ∧ RUs K (bad ++ ν) (μ ++ ν) H1 ds vs ∧ PostI K mg T (bad ++ ν) (μ ++ ν) H1 (k ds M1) R E) E := by
  cases r with
  | ok d M' => exact fun ν v H' g rm rv => ⟨ν, d, M', g, rm, rv, PostI.gr h g rm.domν⟩
  | exc e M' => exact h
  | stuck => exact h
/-- what stands at an address that is walked: data in order, in every later heap in which the guard holds -/
def StL (K : PySem.W.Frag) (T : List (Addr × Str)) (bad μ : List Addr) (k : Wk) (H0 : Hp) (a : Addr) : Prop :=
  ∀ ν bad' H M, Gr μ H0 H ν → Grow bad bad' H0 → RM K T bad' (μ ++ ν) M H → grd k.gd M → ∃ vs, (SqL K H a vs) ∧ RVs K bad' H k.ds vs
def StT (K : PySem.W.Frag) (bad μ : List Addr) (ds : List D) (H0 : Hp) (a : Addr) : Prop :=
  ∀ ν bad' H, Gr μ H0 H ν → Grow bad bad' H0 → ∃ vs, SqT K H a vs ∧ RVs K bad' H ds vs
/-- a list or a tuple to walk -/
def wkU (M : Mem) : U → Option Wk
  | .p d => (seqOf d).map fun ds => ⟨ds, []⟩
  | .loc n => match M[n]? with
    | some (.lst xs) => some ⟨xs, [(n, xs)]⟩
    | _ => none
theorem wk_ok {M : Mem} {u : U} {v : V} {k : Wk} (rm : RM K T bad μ M H) (ru : RU K bad μ H u v) (e : wkU M u = some k) : ∃ a, v = .ref a ∧ ((∃ vs, SqL K H a vs) ∧ StL K T bad μ k H a ∨ (∃ vs, SqT K H a vs) ∧ k.gd = [] ∧ StT K bad μ k.ds H a) := by
  cases ru with
  | p rv =>
    cases rv with
    | tup t r =>
      cases e
      exact ⟨_, rfl, .inr ⟨⟨_, t.sq⟩, rfl, fun ν bad' H' g w => ⟨_, (t.grow g rm.sub w).sq, r.grow g rm.sub w⟩⟩⟩
    | kup z kk r =>
      cases e
      exact ⟨_, rfl, .inr ⟨⟨_, kk _⟩, rfl, fun ν bad' H' g w => ⟨_, kk _, r.grow g rm.sub w⟩⟩⟩
    | lst t r =>
      cases e
      exact ⟨_, rfl, .inl ⟨⟨_, t.sq⟩, fun ν bad' H' M g w rm' _ => ⟨_, (t.grow g rm.sub w).sq, r.grow g rm.sub w⟩⟩⟩
    | scr t =>
      cases e
      exact ⟨_, rfl, .inl ⟨⟨_, t.sq⟩, fun ν bad' H' M g w rm' _ => ⟨_, (t.grow g rm.sub w).sq, .ofInts _⟩⟩⟩
    | _ => cases e
  | @loc n a hm =>
    cases em : M[n]? with
    | none => simp [wkU, em] at e
    | some o =>
      cases o with
      | dic _ => simp [wkU, em] at e
      | dtu _ => simp [wkU, em] at e
      | lst xs =>
        have e' : Wk.mk xs [(n, xs)] = k := by simpa [wkU, em] using e
        subst e'
        have sq : ∀ {bad μ : List Addr} {M : Mem} {H : Hp}, RM K T bad μ M H → μ[n]? = some a → M[n]? = some (.lst xs) → ∃ vs, SqL K H a vs ∧ RVs K bad H xs vs := fun rm hm em => by
          cases rm.at_ n _ a em hm with
          | lst z h r => exact ⟨_, .of h, r⟩
        obtain ⟨vs, s, _⟩ := sq rm hm em
        refine ⟨a, rfl, .inl ⟨⟨vs, s⟩, fun ν bad' H' M' g w rm' hg => sq rm' ?_ (hg _ List.mem_cons_self)⟩⟩
        rw [List.getElem?_append_left (List.getElem?_eq_some_iff.mp hm).1]
        exact hm
theorem it_same {μ : List Addr} {H : Hp} : Gr μ H H [] := Gr.refl μ H
theorem itl_ok {k : Wk} {a : Addr} (h : StL K T bad μ k H a) : ItOk K T bad μ (Itl K a) k H := fun ν bad' H' M g w rm hg => by
  obtain ⟨vs, s, r⟩ := h ν bad' H' M g w rm hg
  refine ⟨fun i d hi => ?_, fun i hi => ⟨vs, s, by rw [← r.length]; exact hi⟩⟩
  obtain ⟨x, hx, rx⟩ := r.get hi
  refine ⟨⟨vs, x, s, hx⟩, fun y H2 hy => ?_⟩
  obtain ⟨rfl, hy⟩ := hy
  have := hy vs s
  rw [hx] at this
  cases this
  exact ⟨Gr.refl _ _, rm, rx⟩
theorem itt_ok {k : Wk} {a : Addr} (h : StT K bad μ k.ds H a) : ItOk K T bad μ (Itt K a) k H := fun ν bad' H' M g w rm hg => by
  obtain ⟨vs, s, r⟩ := h ν bad' H' g w
  refine ⟨fun i d hi => ?_, fun i hi => ⟨vs, s, by rw [← r.length]; exact hi⟩⟩
  obtain ⟨x, hx, rx⟩ := r.get hi
  refine ⟨⟨vs, x, s, hx⟩, fun y H2 hy => ?_⟩
  obtain ⟨rfl, hy⟩ := hy
  have := hy vs s
  rw [hx] at this
  cases this
  exact ⟨Gr.refl _ _, rm, rx⟩
end
/-- walked: a list or a tuple -/
def seqI (f : Fx) : Fi := fun Γ M => (f Γ M).bind fun u M1 => match wkU M1 u with | some k => .ok k M1 | none => .stuck
/-- .. the numbers below -/
def upto (lo : Int) : Nat → List D
  | 0 => []
  | n + 1 => .int lo :: upto (lo + 1) n
theorem upto_get : ∀ (n : Nat) (lo : Int) (i : Nat) (d : D), (upto lo n)[i]? = some d → i < n ∧ d = .int (lo + i)
  | 0, _, _, _, h => by simp [upto] at h
  | n + 1, lo, 0, d, h => by simp [upto] at h; subst h; exact ⟨Nat.succ_pos n, by simp⟩
  | n + 1, lo, i + 1, d, h => by
    obtain ⟨h1, h2⟩ := upto_get n (lo + 1) i d (by simpa [upto] using h)
    exact ⟨by omega, by rw [h2]; congr 1; omega⟩
theorem upto_length : ∀ (n : Nat) (lo : Int), (upto lo n).length = n
  | 0, _ => rfl
  | n + 1, lo => by simp [upto, upto_length n]
def rng1I (fa : Fa) : Fi := fun Γ M => (fa Γ M).bind fun us M1 => match us with
  | [.p (.int j)] => if -(2 ^ 62) ≤ j ∧ j < 2 ^ 62 then .ok ⟨upto 0 j.toNat, []⟩ M1 else .stuck
  | _ => .stuck
def rng2I (fa : Fa) : Fi := fun Γ M => (fa Γ M).bind fun us M1 => match us with
  | [.p (.int i), .p (.int j)] => if -(2 ^ 62) ≤ i ∧ i < 2 ^ 62 ∧ -(2 ^ 62) ≤ j ∧ j < 2 ^ 62 then .ok ⟨upto i (j - i).toNat, []⟩ M1 else .stuck
  | _ => .stuck
theorem itr_ok {K : PySem.W.Frag} {T : List (Addr × Str)} {bad μ : List Addr} {H : Hp} {lo : Int} {n : Nat} : ItOk K T bad μ (Itr lo n) ⟨upto lo n, []⟩ H := fun ν bad' H' M g w rm hg => by
  refine ⟨fun i d hi => ?_, fun i hi => by
    have e := upto_length n lo
    exact e ▸ hi⟩
  obtain ⟨h1, rfl⟩ := upto_get n lo i d hi
  refine ⟨h1, fun y H2 hy => ?_⟩
  obtain ⟨rfl, rfl⟩ := hy
  exact ⟨Gr.refl _ _, rm, .int _⟩
section
variable {X : Cx} {T : List (Addr × Str)} {W : WX} {tg l a b : Expr} {f : Fx} {fa : Fa} {p pos : Pos}
/-- a list or a tuple, whichever comes -/
def iSq (K : PySem.W.Frag) (te : TE) : TI := fun σ H R => te σ H fun x H1 => ∃ a, x = .ref a ∧ ((∃ vs, SqL K H1 a vs) ∧ R (Itl K a) H1 ∨ (∃ vs, SqT K H1 a vs) ∧ R (Itt K a) H1)
theorem pi_sq {te : TE} (he : PE X l te) : PI X tg l (iSq X.K te) := ⟨fun pins s σ H R I h =>
  thn (he.run pins s σ H _ I h) fun v s1 ⟨x, H1, I1, r1, a, e, q1⟩ => by
  subst e
  obtain rfl : v = Value.ref a := r1
  have fr : ∀ b ∈ [s1.heap.objs.size], FpOk X pins H1 b := fun b hb => by
    obtain rfl : b = s1.heap.objs.size := by simpa using hb
    exact I1.fpOk (Nat.le_refl _) (I1.hok.fresh (Nat.le_refl _))
  have old : ∀ (o u : Obj) (b : Addr), s1.heap.get? b = some o → (s1.heap.push u).get? b = some o := fun o u b e => Heap.get?_push_of_some _ e
  rcases q1 with ⟨⟨xs, hq⟩, q⟩ | ⟨⟨xs, hq⟩, q⟩
  · obtain ⟨its, _, p, _⟩ := I1.list hq
    exact wpAny_pyIter_list p.isList ⟨_, _, _, _, H1, rfl, I1.kept (t' := s1.toks) (fun b o e => old o _ b e), turn_list a _, ⟨_, Heap.get?_push_size _ rfl, rfl, rfl⟩, fr, q⟩
  · obtain ⟨its, _, p, _⟩ := I1.tuple hq
    exact wpAny_pyIter_tuple (id p) ⟨_, _, _, _, H1, rfl, I1.kept (t' := s1.toks) (fun b o e => old o _ b e), turn_tuple a _, ⟨_, Heap.get?_push_size _ rfl, rfl, rfl⟩, fr, q⟩⟩
theorem di_seq (he : DE X T W l f) : DI X T W tg l (seqI f) := ⟨_, pi_sq he.pe, fun σ H R bad μ Γ M rm rg h => ⟨bad, μ, Γ, M, rm, rg, (PostI.bind h).mono fun v H1 ⟨ν, d, M1, g1, rm1, rv1, h1⟩ => by
  dsimp only at h1
  split at h1
  · rename_i k ek
    obtain ⟨a, rfl, hq⟩ := wk_ok rm1 rv1 ek
    refine ⟨a, rfl, ?_⟩
    rcases hq with ⟨h2, h3⟩ | ⟨h2, h3, h4⟩
    · exact .inl ⟨h2, PostI.here h1 rm1 (itl_ok h3)⟩
    · exact .inr ⟨h2, PostI.here h1 rm1 (itt_ok h4)⟩
  · exact h1.elim⟩⟩
theorem di_range1 (hg : Gl X "range") (hm : X.mg "range" = none) (ha : DA X T W [a] fa) (hs : starEach [a] X.env = [(false, eval a X.env)] := by rfl) : DI X T W tg (.Call (.Name "range" p) [a] [] pos) (rng1I fa) :=
  ⟨_, pi_range1 hg hm ha.pa hs, fun σ H R bad μ Γ M rm rg h => ⟨bad, μ, Γ, M, rm, rg, (PostI.bindA h).mono fun vs H1 ⟨ν, us, M1, g1, rm1, rv1, h1⟩ => by
  split at h1
  · rename_i j
    split at h1
    · rename_i hc
      cases rv1 with
      | cons r t =>
        cases t
        cases r with
        | p r =>
        cases r
        exact ⟨j, rfl, hc.1, hc.2, PostI.here h1 rm1 itr_ok⟩
    · exact h1.elim
  · exact h1.elim⟩⟩
theorem di_range2 (hg : Gl X "range") (hm : X.mg "range" = none) (ha : DA X T W [a, b] fa) (hs : starEach [a, b] X.env = [(false, eval a X.env), (false, eval b X.env)] := by rfl) (hs2 : starEach [b] X.env = [(false, eval b X.env)] := by rfl) : DI X T W tg (.Call (.Name "range" p) [a, b] [] pos) (rng2I fa) :=
  ⟨_, pi_range2 hg hm ha.pa hs hs2, fun σ H R bad μ Γ M rm rg h => ⟨bad, μ, Γ, M, rm, rg, (PostI.bindA h).mono fun vs H1 ⟨ν, us, M1, g1, rm1, rv1, h1⟩ => by
  split at h1
  · rename_i i j
    split at h1
    · rename_i hc
      cases rv1 with
      | cons r t =>
        cases t with
        | cons r2 t =>
        cases t
        cases r with
        | p r =>
        cases r2 with
        | p r2 =>
        cases r
        cases r2
        exact ⟨i, j, rfl, hc, PostI.here h1 rm1 itr_ok⟩
    · exact h1.elim
  · exact h1.elim⟩⟩
/-- pairs as tuples -/
def enumD (n : Int) : List D → List D
  | [] => []
  | d :: ds => .tup [.int n, d] :: enumD (n + 1) ds
theorem enumD_get : ∀ (ds : List D) (n : Int) (i : Nat) (d : D), (enumD n ds)[i]? = some d → ∃ x, ds[i]? = some x ∧ d = .tup [.int (n + i), x]
  | [], _, _, _, h => by simp [enumD] at h
  | x :: ds, n, 0, d, h => by simp [enumD] at h; exact ⟨x, rfl, by simp [h]⟩
  | x :: ds, n, i + 1, d, h => by
    obtain ⟨y, h1, h2⟩ := enumD_get ds (n + 1) i d (by simpa [enumD] using h)
    refine ⟨y, by simpa using h1, ?_⟩
    have e : n + 1 + (i : Int) = n + ((i + 1 : Nat) : Int) := by omega
    rw [h2, e]
theorem enumD_length : ∀ (ds : List D) (n : Int), (enumD n ds).length = ds.length
  | [], _ => rfl
  | _ :: ds, n => by simp [enumD, enumD_length ds]
def enumI (fa : Fa) : Fi := fun Γ M => (fa Γ M).bind fun us M1 => match us with
  | [u] => match isLst M1 u, wkU M1 u with
    | true, some k => .ok ⟨enumD 0 k.ds, k.gd⟩ M1
    | _, _ => .stuck
  | _ => .stuck
where
  /-- a list, not a tuple -/
  isLst (M : Mem) : U → Bool
    | .p (.lst _) => true
    | .p (.scr _) => true
    | .loc _ => true
    | _ => false
def zipD : List D → List D → List D
  | a :: as, b :: bs => .tup [a, b] :: zipD as bs
  | _, _ => []
theorem zipD_get : ∀ (as bs : List D) (i : Nat) (d : D), (zipD as bs)[i]? = some d → ∃ x y, as[i]? = some x ∧ bs[i]? = some y ∧ d = .tup [x, y]
  | [], _, _, _, h => by simp [zipD] at h
  | _ :: _, [], _, _, h => by simp [zipD] at h
  | a :: as, b :: bs, 0, d, h => by simp [zipD] at h; exact ⟨a, b, rfl, rfl, h.symm⟩
  | a :: as, b :: bs, i + 1, d, h => by
    obtain ⟨x, y, h1, h2, h3⟩ := zipD_get as bs i d (by simpa [zipD] using h)
    exact ⟨x, y, by simpa using h1, by simpa using h2, h3⟩
theorem zipD_end : ∀ (as bs : List D) (i : Nat), (zipD as bs).length ≤ i → as.length ≤ i ∨ bs.length ≤ i
  | [], _, _, _ => .inl (Nat.zero_le _)
  | _ :: _, [], _, _ => .inr (Nat.zero_le _)
  | a :: as, b :: bs, 0, h => by simp [zipD] at h
  | a :: as, b :: bs, i + 1, h => by
    have := zipD_end as bs i (by simpa [zipD] using h)
    simpa using this
/-- walked in pairs: two lists, two tuples -/
def zipI (fa : Fa) : Fi := fun Γ M => (fa Γ M).bind fun us M1 => match us with
  | [u, u'] => match enumI.isLst M1 u, enumI.isLst M1 u', wkU M1 u, wkU M1 u' with
    | true, true, some k, some k' => .ok ⟨zipD k.ds k'.ds, k.gd ++ k'.gd⟩ M1
    | false, false, some k, some k' => .ok ⟨zipD k.ds k'.ds, k.gd ++ k'.gd⟩ M1
    | _, _, _, _ => .stuck
  | _ => .stuck
theorem wk_lst {K : PySem.W.Frag} {bad μ : List Addr} {H : Hp} {M : Mem} {u : U} {v : V} {k : Wk} (rm : RM K T bad μ M H) (ru : RU K bad μ H u v) (hl : enumI.isLst M u = true) (e : wkU M u = some k) : ∃ a, v = .ref a ∧ (∃ vs, SqL K H a vs) ∧ StL K T bad μ k H a := by
  obtain ⟨a, rfl, h⟩ := wk_ok rm ru e
  rcases h with h | ⟨⟨vs, s⟩, h2, h3⟩
  · exact ⟨a, rfl, h⟩
  · cases ru with
    | p rv =>
      cases rv with
      | lst t r => cases e; exact ⟨_, rfl, ⟨_, t.sq⟩, fun ν bad' H' M g w rm' _ => ⟨_, (t.grow g rm.sub w).sq, r.grow g rm.sub w⟩⟩
      | scr t => cases e; exact ⟨_, rfl, ⟨_, t.sq⟩, fun ν bad' H' M g w rm' _ => ⟨_, (t.grow g rm.sub w).sq, .ofInts _⟩⟩
      | _ => cases hl
    | @loc n _ hm =>
      cases em : M[n]? with
      | none => simp [wkU, em] at e
      | some o =>
        cases o with
        | dic _ => simp [wkU, em] at e
        | dtu _ => simp [wkU, em] at e
        | lst xs =>
          have e' : Wk.mk xs [(n, xs)] = k := by simpa [wkU, em] using e
          rw [← e'] at h2
          cases h2
theorem wk_tup {K : PySem.W.Frag} {bad μ : List Addr} {H : Hp} {M : Mem} {u : U} {v : V} {k : Wk} (rm : RM K T bad μ M H) (ru : RU K bad μ H u v) (hl : enumI.isLst M u = false) (e : wkU M u = some k) : ∃ a, v = .ref a ∧ (∃ vs, SqT K H a vs) ∧ k.gd = [] ∧ StT K bad μ k.ds H a := by
  cases ru with
  | p rv =>
    cases rv with
    | tup t r => cases e; exact ⟨_, rfl, ⟨_, t.sq⟩, rfl, fun ν bad' H' g w => ⟨_, (t.grow g rm.sub w).sq, r.grow g rm.sub w⟩⟩
    | kup z kk r => cases e; exact ⟨_, rfl, ⟨_, kk _⟩, rfl, fun ν bad' H' g w => ⟨_, kk _, r.grow g rm.sub w⟩⟩
    | lst t r => cases hl
    | scr t => cases hl
    | _ => cases e
  | loc hm => cases hl
/-- a new pair is laid -/
theorem pair_ok {K : PySem.W.Frag} {bad μ ν : List Addr} {H : Hp} {M : Mem} {q : Addr} {d e : D} {x y : V} (rm : RM K T bad (μ ++ ν) M H) (hq : H q = none) (r1 : RV K bad H d x) (r2 : RV K bad H e y) :
    Gr (μ ++ ν) H (upd H q (.tup [x, y])) [] ∧ RM K T bad (μ ++ ν) M (upd H q (.tup [x, y])) ∧ RV K bad (upd H q (.tup [x, y])) (.tup [d, e]) (.ref q) := by
  have g := Gr.laid (μ := μ ++ ν) (o := .tup [x, y]) hq
  exact ⟨g, rm.laid hq, .tup ⟨by rw [sizeLine_eq]; simp, upd_same, rm.fresh hq⟩ ((RVs.cons r1 (.cons r2 .nil)).gr0 g rm.sub)⟩
theorem ite_ok {K : PySem.W.Frag} {bad μ : List Addr} {H : Hp} {k : Wk} {a : Addr} (h : StL K T bad μ k H a) : ItOk K T bad μ (Ite K a) ⟨enumD 0 k.ds, k.gd⟩ H := fun ν bad' H' M g w rm hg => by
  obtain ⟨vs, s, r⟩ := h ν bad' H' M g w rm hg
  refine ⟨fun i d hi => ?_, fun i hi => ⟨vs, s, by rw [← r.length, ← enumD_length k.ds 0]; exact hi⟩⟩
  obtain ⟨d1, hd, rfl⟩ := enumD_get _ _ _ _ hi
  obtain ⟨x, hx, rx⟩ := r.get hd
  refine ⟨⟨vs, x, s, hx⟩, fun y H2 hy => ?_⟩
  obtain ⟨q, x2, rfl, hq, rfl, hy⟩ := hy
  have z := hy vs s
  rw [hx] at z
  cases z
  have e0 : (0 : Int) + (i : Int) = (i : Nat) := by simp
  rw [e0]
  exact pair_ok rm hq (.int _) rx
theorem itz_ok {K : PySem.W.Frag} {bad μ : List Addr} {H : Hp} {k k' : Wk} {a b : Addr} (h : StL K T bad μ k H a) (h' : StL K T bad μ k' H b) : ItOk K T bad μ (Itz K a b) ⟨zipD k.ds k'.ds, k.gd ++ k'.gd⟩ H := fun ν bad' H' M g w rm hg => by
  obtain ⟨vs, s, r⟩ := h ν bad' H' M g w rm fun p hp => hg p (List.mem_append_left _ hp)
  obtain ⟨ws, s2, r2⟩ := h' ν bad' H' M g w rm fun p hp => hg p (List.mem_append_right _ hp)
  refine ⟨fun i d hi => ?_, fun i hi => ⟨vs, ws, s, s2, by rw [← r.length, ← r2.length]; exact zipD_end _ _ _ hi⟩⟩
  obtain ⟨d1, d2, hd, hd2, rfl⟩ := zipD_get _ _ _ _ hi
  obtain ⟨x, hx, rx⟩ := r.get hd
  obtain ⟨y, hy, ry⟩ := r2.get hd2
  refine ⟨⟨vs, ws, x, y, s, s2, hx, hy⟩, fun z H2 hz => ?_⟩
  obtain ⟨q, x2, y2, rfl, hq, rfl, h1, h2⟩ := hz
  have z1 := h1 vs s
  have z2 := h2 ws s2
  rw [hx] at z1
  rw [hy] at z2
  cases z1
  cases z2
  exact pair_ok rm hq rx ry
theorem itzT_ok {K : PySem.W.Frag} {bad μ : List Addr} {H : Hp} {k k' : Wk} {a b : Addr} (h : StT K bad μ k.ds H a) (h' : StT K bad μ k'.ds H b) : ItOk K T bad μ (RZ.ItzT K a b) ⟨zipD k.ds k'.ds, k.gd ++ k'.gd⟩ H := fun ν bad' H' M g w rm hg => by
  obtain ⟨vs, s, r⟩ := h ν bad' H' g w
  obtain ⟨ws, s2, r2⟩ := h' ν bad' H' g w
  refine ⟨fun i d hi => ?_, fun i hi => ⟨vs, ws, s, s2, by rw [← r.length, ← r2.length]; exact zipD_end _ _ _ hi⟩⟩
  obtain ⟨d1, d2, hd, hd2, rfl⟩ := zipD_get _ _ _ _ hi
  obtain ⟨x, hx, rx⟩ := r.get hd
  obtain ⟨y, hy, ry⟩ := r2.get hd2
  refine ⟨⟨vs, ws, x, y, s, s2, hx, hy⟩, fun z H2 hz => ?_⟩
  obtain ⟨q, x2, y2, rfl, hq, rfl, h1, h2⟩ := hz
  have z1 := h1 vs s
  have z2 := h2 ws s2
  rw [hx] at z1
  rw [hy] at z2
  cases z1
  cases z2
  exact pair_ok rm hq rx ry
section
variable {elts : List Expr} {kk : Nat} {tpos : Pos}
theorem di_enum (hg : Gl X "enumerate") (hm : X.mg "enumerate" = none) (ha : DA X T W [a] fa) (hs : starEach [a] X.env = [(false, eval a X.env)] := by rfl) : DI X T W (.Tuple elts kk tpos) (.Call (.Name "enumerate" p) [a] [] pos) (enumI fa) :=
  ⟨_, pi_enum hg hm ha.pa hs, fun σ H R bad μ Γ M rm rg h => ⟨bad, μ, Γ, M, rm, rg, (PostI.bindA h).mono fun vs H1 ⟨ν, us, M1, g1, rm1, rv1, h1⟩ => by
  split at h1
  · split at h1
    · rename_i k el ek
      cases rv1 with
      | cons r t =>
        cases t
        obtain ⟨q, rfl, ⟨xs, s⟩, st⟩ := wk_lst rm1 r el ek
        exact ⟨q, xs, rfl, s, PostI.here h1 rm1 (ite_ok st)⟩
    · exact h1.elim
  · exact h1.elim⟩⟩
theorem di_zip (hg : Gl X "zip") (hm : X.mg "zip" = none) (ha : DA X T W [a, b] fa) (hs : starEach [a, b] X.env = (false, eval a X.env) :: starEach [b] X.env := by rfl) (hpl : (backTo pos (starEach [b] X.env)).any (·.1) = false := by rfl) :
    DI X T W (.Tuple elts kk tpos) (.Call (.Name "zip" p) [a, b] [] pos) (zipI fa) :=
  ⟨_, RZ.pi_zipA hg hm ha.pa hs hpl, fun σ H R bad μ Γ M rm rg h => ⟨bad, μ, Γ, M, rm, rg, (PostI.bindA h).mono fun vs H1 ⟨ν, us, M1, g1, rm1, rv1, h1⟩ => by
  split at h1
  · cases rv1 with
    | cons r t =>
    cases t with
    | cons r2 t =>
    cases t
    split at h1
    · rename_i k k' el el' ek ek'
      obtain ⟨q, rfl, ⟨xs, s⟩, st⟩ := wk_lst rm1 r el ek
      obtain ⟨q', rfl, ⟨xs', s'⟩, st'⟩ := wk_lst rm1 r2 el' ek'
      exact ⟨q, q', xs, xs', rfl, .inl ⟨s, s', PostI.here h1 rm1 (itz_ok st st')⟩⟩
    · rename_i k k' el el' ek ek'
      obtain ⟨q, rfl, ⟨xs, s⟩, _, st⟩ := wk_tup rm1 r el ek
      obtain ⟨q', rfl, ⟨xs', s'⟩, _, st'⟩ := wk_tup rm1 r2 el' ek'
      exact ⟨q, q', xs, xs', rfl, .inr ⟨s, s', PostI.here h1 rm1 (itzT_ok st st')⟩⟩
    · exact h1.elim
  · exact h1.elim⟩⟩
end

/-- the turns -/
noncomputable def forL (gd : List (Nat × List D)) (asg : U → Mem → Env → Option Env) (b : Fs) : List D → Env → Mem → Fl
  | [], Γ, M => if grd gd M then .nx Γ M else .st
  | d :: ds, Γ, M => if grd gd M then match asg (.p d) M Γ with
    | some Γ1 => loopEnd (forL gd asg b ds) (b Γ1 M)
    | none => .st
    else .st
noncomputable def forS (it : Fi) (asg : U → Mem → Env → Option Env) (b : Fs) : Fs := fun Γ M => thenS (it Γ M) Γ fun k M1 => forL k.gd asg b k.ds Γ M1
theorem PostS.thenI {K : PySem.W.Frag} {mg : Str → Option Value} {bad μ : List Addr} {H : Hp} {r : Res Wk} {Γ : Env} {σ : L2.St} {k : Wk → Mem → Fl} {D : Ends} {W : WX} (h : PostS K mg T bad μ H (Mp.thenS r Γ k) D W) (hb : ∀ b ∈ μ, b ∈ bad) (rg : RG K bad μ H Γ σ) :
    PostI K mg T bad μ H r (fun J H1 => ∃ ν w M1, Gr μ H H1 ν ∧ RM K T (bad ++ ν) (μ ++ ν) M1 H1 ∧ ItOk K T (bad ++ ν) (μ ++ ν) J w H1 ∧ PostS K mg T (bad ++ ν) (μ ++ ν) H1 (k w M1) D W) fun c d H' => W c d σ H' := by
  cases r with
  | ok d M' => exact fun ν J H' g rm ok => ⟨ν, d, M', g, rm, ok, PostS.gr h g rm.domν⟩
  | exc e M' => exact fun ν c dx H' g rm rx => h ν σ c dx H' g rm (rg.gr g hb) rx
  | stuck => exact h
theorem ds_for {it : Fi} {asg : U → Mem → Env → Option Env} {ixs : List Nat} {g : Fs} {body : List Stmt} (hp : PassesOwn (model X.prog X.w) X.A X.env X.xe) (hc : X.calm = true) (hi : DI X T W tg l it) (hg : DGn X T tg ixs asg) (hb : DSs X T W body g)
    (hs : ∀ x, foldedSetIterable l X.env x = pure x := by intro _; rfl) : DS X T W (.For tg l body [] pos) (forS it asg g) := by
  obtain ⟨wi, h1, k1⟩ := hi.ex
  obtain ⟨tg', h2, k2⟩ := hg.ex
  refine ⟨psW (ps_for hp hc h1 h2 hb.pss hs) fun D σ H ⟨bad, μ, Γ, M, rm, rg, h⟩ => ?_⟩
  refine k1 σ H _ bad μ Γ M rm rg ?_
  have hI := PostS.thenI h rm.sub rg
  have fin : ∀ J H1, (∃ ν w M1, Gr μ H H1 ν ∧ RM X.K T (bad ++ ν) (μ ++ ν) M1 H1 ∧ ItOk X.K T (bad ++ ν) (μ ++ ν) J w H1 ∧ PostS X.K X.mg T (bad ++ ν) (μ ++ ν) H1 (forL w.gd asg g w.ds Γ M1) D W) →
      (∃ Wf : Nat → Nat → L2.St → Hp → Prop, (∃ m, Wf 0 m σ H1) ∧ ∀ i m σ H, Wf i m σ H → (J.stop i H ∧ D.nx σ H) ∨ (J.go i H ∧ ∃ N : L2.St → Hp → Prop, (∀ σ' H', N σ' H' → ∃ m', m' < m ∧ Wf (i + 1) m' σ' H') ∧ ∀ x H', J.yld i H x H' → tg' x σ H' fun σ2 H2 => tSv X.K X.mg T W g { D with nx := N, ct := N, bk := D.nx } σ2 H2)) := by
    rintro J H1 ⟨ν, w, M1, g1, rm1, ok, h1⟩
    refine ⟨fun i m σ' H' => ∃ ν' Γ' M', Gr (μ ++ ν) H1 H' ν' ∧ RM X.K T (bad ++ ν ++ ν') (μ ++ ν ++ ν') M' H' ∧ RG X.K (bad ++ ν ++ ν') (μ ++ ν ++ ν') H' Γ' σ' ∧ i + m = w.ds.length ∧ PostS X.K X.mg T (bad ++ ν ++ ν') (μ ++ ν ++ ν') H' (forL w.gd asg g (w.ds.drop i) Γ' M') D W,
      ⟨w.ds.length, [], Γ, M1, Gr.refl _ _, by simpa using rm1, by simpa using rg.gr g1 rm.sub, by simp, by simpa using h1⟩, ?_⟩
    rintro i m σ' H' ⟨ν', Γ', M', g', rm', rg', em, h'⟩
    cases hd : w.ds.drop i with
    | nil =>
      rw [hd] at h'
      unfold forL at h'
      split at h'
      · rename_i hgd
        have hl : w.ds.length ≤ i := List.drop_eq_nil_iff.mp hd
        exact .inl ⟨(ok ν' _ H' M' g' (fun b hb => (List.mem_append.mp hb).imp id (g'.new b)) rm' hgd).2 i hl, PostS.here h' rm' rg'⟩
      · exact h'.elim
    | cons d ds =>
      rw [hd] at h'
      unfold forL at h'
      split at h'
      rotate_left
      · exact h'.elim
      rename_i hgd
      have hlt : i < w.ds.length := by
        have := congrArg List.length hd
        simp at this
        omega
      have hget : w.ds[i]? = some d := by
        have : (w.ds.drop i)[0]? = some d := by rw [hd]; rfl
        simpa using this
      have hds : ds = w.ds.drop (i + 1) := by
        have := congrArg List.tail hd
        simpa [List.tail_drop] using this.symm
      obtain ⟨hgo, hy⟩ := (ok ν' _ H' M' g' (fun b hb => (List.mem_append.mp hb).imp id (g'.new b)) rm' hgd).1 i d hget
      refine .inr ⟨hgo, fun σ2 H2 => ∃ m', m' < m ∧ ∃ ν' Γ' M', Gr (μ ++ ν) H1 H2 ν' ∧ RM X.K T (bad ++ ν ++ ν') (μ ++ ν ++ ν') M' H2 ∧ RG X.K (bad ++ ν ++ ν') (μ ++ ν ++ ν') H2 Γ' σ2 ∧ i + 1 + m' = w.ds.length ∧ PostS X.K X.mg T (bad ++ ν ++ ν') (μ ++ ν ++ ν') H2 (forL w.gd asg g (w.ds.drop (i + 1)) Γ' M') D W,
        fun σ2 H2 h => h, fun x H2 hx => ?_⟩
      obtain ⟨g2, rm2, rx⟩ := hy x H2 hx
      have rg2 : RG X.K (bad ++ ν ++ ν') (μ ++ ν ++ ν') H2 Γ' σ' := by simpa using rg'.gr g2 rm'.sub
      cases ea : asg (.p d) M' Γ' with
      | none => rw [ea] at h'; exact h'.elim
      | some Γ1 =>
        rw [ea] at h'
        have h2 : PostS X.K X.mg T (bad ++ ν ++ ν') (μ ++ ν ++ ν') H2 (loopEnd (forL w.gd asg g ds) (g Γ1 M')) D W := by
          have := PostS.gr h' g2 (fun b hb => nomatch hb)
          simpa using this
        refine k2 _ _ _ _ _ _ _ _ _ _ rm2 rg2 (.p rx) ea fun σ3 rg3 _ => ⟨_, _, Γ1, M', rm2, rg3, PostS.loop h2 fun ν3 σ4 H4 Γ4 M4 g4 rm4 rg4 h4 => ?_⟩
        have g5 : Gr (μ ++ ν) H1 H4 (ν' ++ ν3) := (by simpa using g'.trans g2 rm'.domν : Gr (μ ++ ν) H1 H2 ν').trans g4 (fun b hb => rm2.domν b hb)
        exact ⟨w.ds.length - (i + 1), by omega, ν' ++ ν3, Γ4, M4, g5, by simpa only [List.append_assoc] using rm4, by simpa only [List.append_assoc] using rg4, by omega, by rw [← hds]; simpa only [List.append_assoc] using h4⟩
  cases e1 : it Γ M with
  | ok w M1 =>
    rw [e1] at hI
    exact fun ν J H' g1 rm1 ok => fin J H' (hI ν J H' g1 rm1 ok)
  | exc x M1 => rw [e1] at hI; exact hI
  | stuck => rw [e1] at hI; exact hI
end
end Mp
namespace Mp
open PySem PySem.Spec PyProof.Rows L2

def wipeG (Γ : Env) : List Nat → Env
  | [] => Γ
  | v :: vs => (wipeG Γ vs).set v none
/-- nothing may be raised in a comprehension -/
def Res.calm {α : Type} : Res α → Res α
  | .exc _ _ => .stuck
  | r => r
def yesB : Fb := fun _ M => .ok true M
/-- the turns -/
noncomputable def lcL (gd : List (Nat × List D)) (asg : U → Mem → Env → Option Env) (c : Fb) (e : Fx) (Γ0 : Env) : List D → List D → Mem → Res U
  | [], acc, M => if grd gd M then .ok (.p (.lst acc)) M else .stuck
  | d :: ds, acc, M => if grd gd M then match asg (.p d) M Γ0 with
    | some Γ1 => (c Γ1 M).calm.bind fun k M1 => match k with
      | true => (e Γ1 M1).calm.bind fun u M2 => match u with
        | .p y => if acc.length < 16777216 then lcL gd asg c e Γ0 ds (acc ++ [y]) M2 else .stuck
        | .loc _ => .stuck
      | false => lcL gd asg c e Γ0 ds acc M1
    | none => .stuck
    else .stuck
noncomputable def lcF (it : Fi) (asg : U → Mem → Env → Option Env) (own : List Nat) (c : Fb) (e : Fx) : Fx := fun Γ M => (it Γ M).bind fun k M1 => lcL k.gd asg c e (wipeG Γ own) k.ds [] M1
theorem lcL_lst {gd : List (Nat × List D)} {asg : U → Mem → Env → Option Env} {c : Fb} {e : Fx} {Γ0 : Env} : ∀ {ds acc : List D} {M : Mem} {d : U} {M' : Mem}, lcL gd asg c e Γ0 ds acc M = .ok d M' → ∃ xs, d = .p (.lst xs)
  | [], acc, M, d, M', h => by
    unfold lcL at h
    split at h
    · cases h; exact ⟨_, rfl⟩
    · cases h
  | x :: ds, acc, M, d, M', h => by
    unfold lcL at h
    split at h
    · split at h
      · rename_i Γ1 _
        cases e1 : (c Γ1 M).calm with
        | ok k M1 =>
          rw [e1] at h
          simp only [Res.bind] at h
          cases k with
          | true =>
            dsimp only at h
            cases e2 : (e Γ1 M1).calm with
            | ok u M2 =>
              rw [e2] at h
              simp only at h
              cases u with
              | p y =>
                dsimp only at h
                split at h
                · exact lcL_lst h
                · cases h
              | loc _ => cases h
            | exc _ _ => rw [e2] at h; cases h
            | stuck => rw [e2] at h; cases h
          | false => exact lcL_lst h
        | exc _ _ => rw [e1] at h; cases h
        | stuck => rw [e1] at h; cases h
      · cases h
    · cases h
theorem lcF_lst {it : Fi} {asg : U → Mem → Env → Option Env} {own : List Nat} {c : Fb} {e : Fx} (Γ : Env) (M : Mem) (d : U) (M' : Mem) (h : lcF it asg own c e Γ M = .ok d M') : ∃ xs, d = .p (.lst xs) := by
  unfold lcF at h
  cases e1 : it Γ M with
  | ok k M1 => rw [e1] at h; exact lcL_lst h
  | exc _ _ => rw [e1] at h; cases h
  | stuck => rw [e1] at h; cases h
section
variable {K : PySem.W.Frag} {mg : Str → Option Value} {T : List (Addr × Str)} {bad μ : List Addr} {M : Mem} {H : Hp}
theorem RG.wipe {Γ : Env} {σ : L2.St} (r : RG K bad μ H Γ σ) : ∀ vs : List Nat, RG K bad μ H (wipeG Γ vs) (wipe σ vs)
  | [] => r
  | v :: vs => by
    have q := RG.wipe r vs
    refine ⟨by simp [wipeG, L2.wipe, q.len], fun i d h => ?_⟩
    unfold wipeG at h
    unfold L2.wipe
    by_cases hi : v = i
    · subst hi
      have hl : v < (wipeG Γ vs).length := by
        have z := (List.getElem?_eq_some_iff.mp h).1
        simpa using z
      rw [List.getElem?_set_self hl] at h
      cases h
    · rw [List.getElem?_set_ne hi] at h
      obtain ⟨w, e1, e2⟩ := q.at_ i d h
      exact ⟨w, by rw [List.getElem?_set_ne hi]; exact e1, e2⟩
theorem PostB.calm {r : Res Bool} {Q : Bool → Hp → Prop} {E E' : XK} (h : PostB K mg T bad μ H r.calm Q E) : PostB K mg T bad μ H r Q E' := by
  cases r with
  | ok b M => exact h
  | exc _ _ => exact h.elim
  | stuck => exact h.elim
theorem Post.calm {r : Res U} {Q : VK} {E E' : XK} (h : Post K mg T bad μ H r.calm Q E) : Post K mg T bad μ H r Q E' := by
  cases r with
  | ok b M => exact h
  | exc _ _ => exact h.elim
  | stuck => exact h.elim
/-- the wish for the rest, where D holds what has come so far -/
def PostL (K : PySem.W.Frag) (mg : Str → Option Value) (T : List (Addr × Str)) (bad μ : List Addr) (H : Hp) (a : Addr) (r : Res U) (Q : VK) : Prop :=
  match r with
  | .ok (.p (.lst xs)) M' => ∀ ν vs H', Gr μ H H' ν → RM K T (a :: (bad ++ ν)) (μ ++ ν) M' H' → a ∉ μ ++ ν → H' a = some (.lst vs) → vs.length ≤ sizeLine → RVs K (a :: (bad ++ ν)) H' xs vs → Q (.ref a) H'
  | _ => False
theorem RM.dom_ν {a : Addr} {ν : List Addr} (rm : RM K T (a :: (bad ++ ν)) (μ ++ ν) M H) : ∀ b ∈ ν, NT H b := fun b hb => rm.dom b (List.mem_cons_of_mem _ (List.mem_append_right _ hb))
/-- what is kept away and not of the memory is written -/
theorem RM.aside {a : Addr} {vs ws : List V} (rm : RM K T bad μ M H) (ha : a ∈ bad) (hm : a ∉ μ) (hH : H a = some (.lst vs)) : RM K T bad μ M (upd H a (.lst ws)) ∧ (∀ {ds us}, RVs K bad H ds us → RVs K bad (upd H a (.lst ws)) ds us) ∧ Gr (a :: μ) H (upd H a (.lst ws)) [] := by
  have g : Gr (a :: μ) H (upd H a (.lst ws)) [] := Gr.wr List.mem_cons_self (fun _ z => nomatch z)
  have hb : ∀ b ∈ a :: μ, b ∈ bad := fun b hb => (List.mem_cons.mp hb).elim (fun e => e ▸ ha) (rm.sub b)
  have up : ∀ {ds us}, RVs K bad H ds us → RVs K bad (upd H a (.lst ws)) ds us := fun r => r.gr0 g hb
  have upU : ∀ {ds us}, RUs K bad μ H ds us → RUs K bad μ (upd H a (.lst ws)) ds us := by
    intro ds us r
    induction r with
    | nil => exact .nil
    | cons r _ ih =>
      refine .cons ?_ ih
      cases r with
      | p r => exact .p (r.gr0 g hb)
      | loc h => exact .loc h
  refine ⟨⟨Tabs.wr rm.tab hH trivial, rm.len, rm.nd, rm.sub, fun b h => g.dom b (rm.dom b h), fun n o b h1 h2 => ?_, rm.wf, fun b hb vs h => ?_⟩, up, g⟩
  rotate_left
  · by_cases hba : b = a
    · rw [hba, upd_same] at h; cases h
    · rw [upd_ne hba] at h; exact rm.nt b hb vs h
  have hne : b ≠ a := fun e => hm (e ▸ List.mem_of_getElem? h2)
  cases rm.at_ n o b h1 h2 with
  | lst z h r => exact .lst z (by rw [upd_ne hne]; exact h) (up r)
  | dic z h l r => exact .dic z (by rw [upd_ne hne]; exact h) l (upU r)
  | dtu z h l r => exact .dtu z (by rw [upd_ne hne]; exact h) l (up r)
theorem Gr.aside {a : Addr} {H' : Hp} {H0 : Hp} {ν : List Addr} (g0 : Gr μ H0 H ν) (h0 : H0 a = none) (g : Gr (a :: (μ ++ ν)) H H' []) : Gr μ H0 H' ν := by
  refine ⟨g0.new, g0.nd, fun b o h1 h2 h3 => ?_, fun b h => g.dom b (g0.dom b h)⟩
  refine g.keep b o (g0.keep b o h1 h2 h3) h2 fun hm => ?_
  rcases List.mem_cons.mp hm with e | hm
  · rw [e, h0] at h1; cases h1
  · rcases List.mem_append.mp hm with z | z
    · exact h3 z
    · exact g0.new b z ⟨o, h1, h2⟩
end
/-- the inner context's reading of exceptions: there are none -/
abbrev W0 : WX := fun _ _ _ _ => False
section
variable {X : Cx} {T : List (Addr × Str)} {W : WX} {tg iter elt : Expr} {it : Fi} {asg : U → Mem → Env → Option Env} {c : Fb} {e : Fx} {ixs vs : List Nat}
/-- what a block's parts are to do -/
structure LcOk (K : PySem.W.Frag) (mg : Str → Option Value) (T : List (Addr × Str)) (ixs : List Nat) (asg : U → Mem → Env → Option Env) (c : Fb) (e : Fx) (g : TG) (tt : TT) (te : TE) : Prop where
  g : ∀ bad μ M H Γ σ d v Γ' Q, RM K T bad μ M H → RG K bad μ H Γ σ → RU K bad μ H d v → asg d M Γ = some Γ' → (∀ σ', RG K bad μ H Γ' σ' → OutS ixs σ σ' → Q σ' H) → g v σ H Q
  t : ∀ bad μ M H Γ σ Q, RM K T bad μ M H → RG K bad μ H Γ σ → PostB K mg T bad μ H (c Γ M) Q (fun _ _ _ => False) → tt σ H Q
  e : ∀ bad μ M H Γ σ Q, RM K T bad μ M H → RG K bad μ H Γ σ → Post K mg T bad μ H (e Γ M) Q (fun _ _ _ => False) → te σ H Q
theorem lc_turns {K : PySem.W.Frag} {mg : Str → Option Value} {g : TG} {tt : TT} {te : TE} (ok : LcOk K mg T ixs asg c e g tt te) (hs : ∀ i ∈ ixs, i ∈ vs) {bad μ : List Addr} {H1 : Hp} {M1 : Mem} {Γ : Env} {σ : L2.St} {k : Wk} {J : It} {Q : VK} {a : Addr}
    (rm1 : RM K T bad μ M1 H1) (rg1 : RG K bad μ H1 Γ σ) (hJ : ItOk K T bad μ J k H1) (ha : H1 a = none)
    (h : PostL K mg T bad μ H1 a (lcL k.gd asg c e (wipeG Γ vs) k.ds [] M1) Q) :
    ∃ W : Nat → Nat → Hp → Prop, (∃ m, W 0 m (upd H1 a (.lst []))) ∧ ∀ i m H, W i m H → (J.stop i H ∧ Q (.ref a) H) ∨ (J.go i H ∧ ∃ Nx : Hp → Prop, (∀ H', Nx H' → ∃ m', m' < m ∧ W (i + 1) m' H') ∧
      ∀ x H', J.yld i H x H' → g x (wipe σ vs) H' fun σ2 H2 => wipe σ2 vs = wipe σ vs ∧ tt σ2 H2 fun b H3 => if b = true then te σ2 H3 fun y H4 => ∃ acc, H4 a = some (.lst acc) ∧ acc.length < sizeLine ∧ Nx (upd H4 a (.lst (acc ++ [y]))) else Nx H3) := by
  have g0 := Gr.laid (μ := μ) (o := .lst []) ha
  have rm0 := rm1.away ha g0 (Gr.ext (μ := μ) ha) (.of upd_same fun _ z => nomatch z) (by rw [upd_same]; exact fun _ z => nomatch z)
  have rg0 : RG K (a :: bad) μ (upd H1 a (.lst [])) Γ σ := ⟨rg1.len, fun i d hi => by
    obtain ⟨v, e, r⟩ := rg1.at_ i d hi
    exact ⟨v, e, (r.away ha).gr0 g0 (fun b hb => List.mem_cons_of_mem _ (rm1.sub b hb))⟩⟩
  have hap : a ∉ μ := fun z => rm1.fresh ha (rm1.sub a z)
  -- the state at turn i
  let In : Nat → Nat → Hp → Prop := fun i m H' => ∃ ν accD acc M', Gr μ H1 H' ν ∧ RM K T (a :: (bad ++ ν)) (μ ++ ν) M' H' ∧ RG K (a :: (bad ++ ν)) (μ ++ ν) H' (wipeG Γ vs) (wipe σ vs) ∧ a ∉ μ ++ ν ∧ H' a = some (.lst acc) ∧ acc.length ≤ sizeLine ∧ RVs K (a :: (bad ++ ν)) H' accD acc ∧ i + m = k.ds.length ∧
    PostL K mg T bad μ H1 a (lcL k.gd asg c e (wipeG Γ vs) (k.ds.drop i) accD M') Q
  refine ⟨In, ⟨k.ds.length, [], [], [], M1, by simpa using g0, by simpa using rm0, by simpa using rg0.wipe vs, by simpa using hap, upd_same, Nat.zero_le _, .nil, by simp, by simpa using h⟩, ?_⟩
  rintro i m H' ⟨ν, accD, acc, M', g', rm', rg', hn, hA, hz, rA, em, h'⟩
  have gw : Grow bad (a :: (bad ++ ν)) H1 := fun b hb => by
    rcases List.mem_cons.mp hb with z | z
    · exact .inr fun zz => zz.no (z ▸ ha)
    · exact (List.mem_append.mp z).imp id (g'.new b)
  cases hd : k.ds.drop i with
  | nil =>
    rw [hd] at h'
    unfold lcL at h'
    split at h'
    · rename_i hgd
      have hl : k.ds.length ≤ i := List.drop_eq_nil_iff.mp hd
      exact .inl ⟨(hJ ν _ H' M' g' gw rm' hgd).2 i hl, h' ν acc H' g' rm' hn hA hz rA⟩
    · exact h'.elim
  | cons d ds =>
    rw [hd] at h'
    unfold lcL at h'
    split at h'
    rotate_left
    · exact h'.elim
    rename_i hgd
    have hlt : i < k.ds.length := by
      have := congrArg List.length hd
      simp at this
      omega
    have hget : k.ds[i]? = some d := by
      have : (k.ds.drop i)[0]? = some d := by rw [hd]; rfl
      simpa using this
    have hds : ds = k.ds.drop (i + 1) := by
      have := congrArg List.tail hd
      simpa [List.tail_drop] using this.symm
    obtain ⟨hgo, hy⟩ := (hJ ν _ H' M' g' gw rm' hgd).1 i d hget
    refine .inr ⟨hgo, In (i + 1) (k.ds.length - (i + 1)), fun H2 q => ⟨_, by omega, q⟩, fun x H2 hx => ?_⟩
    obtain ⟨g2, rm2, rx⟩ := hy x H2 hx
    have rg2 : RG K (a :: (bad ++ ν)) (μ ++ ν) H2 (wipeG Γ vs) (wipe σ vs) := by simpa using rg'.gr g2 rm'.sub
    have hA2 : H2 a = some (.lst acc) := g2.keep a _ hA (fun _ z => by cases z) hn
    have rA2 := rA.gr0 g2 rm'.sub
    split at h'
    rotate_left
    · exact h'.elim
    rename_i Γ1 ea
    refine ok.g _ _ _ _ _ _ _ _ _ _ rm2 rg2 (.p rx) ea fun σ2 rg3 ho => ⟨?_, ?_⟩
    · have e1 := ho.wipe hs
      rw [e1]
      clear e1 ho rg3
      apply List.ext_getElem?
      intro j
      have key : ∀ (ws : List Nat) (s : L2.St), (∀ i ∈ ws, ∀ v, s[i]? ≠ some (some v)) → (wipe s ws) = s := by
        intro ws s hw
        induction ws with
        | nil => rfl
        | cons w ws ih =>
          unfold L2.wipe
          rw [ih fun i hi => hw i (List.mem_cons_of_mem _ hi)]
          apply List.ext_getElem?
          intro j
          by_cases hj : w = j
          · subst hj
            by_cases hl : w < s.length
            · rw [List.getElem?_set_self hl]
              cases es : s[w]? with
              | none => exact absurd (List.getElem?_eq_none_iff.mp es) (by omega)
              | some o =>
                cases o with
                | none => rfl
                | some v => exact absurd es (hw w List.mem_cons_self v)
            · rw [List.getElem?_eq_none (by simpa using hl), List.getElem?_eq_none (by simpa using hl)]
          · rw [List.getElem?_set_ne hj]
      rw [key vs (wipe σ vs) fun i hi v e => (wipe_some e).2 hi]
    · -- the test
      have gA : Gr μ H1 H2 ν := by simpa using g'.trans g2 rm'.dom_ν
      have nxt : ∀ {ν2 : List Addr} {H3 : Hp} {M3 : Mem}, Gr (μ ++ ν) H2 H3 ν2 → RM K T (a :: (bad ++ ν) ++ ν2) (μ ++ ν ++ ν2) M3 H3 → Gr μ H1 H3 (ν ++ ν2) ∧ a ∉ μ ++ (ν ++ ν2) ∧ H3 a = some (.lst acc) ∧ RVs K (a :: (bad ++ (ν ++ ν2))) H3 accD acc := fun {ν2 H3 M3} g3 rm3 => by
        have hn2 : a ∉ ν2 := fun z => g3.new a z ⟨_, hA2, fun _ z => by cases z⟩
        refine ⟨gA.trans g3 rm2.dom_ν, fun z => ?_, g3.keep a _ hA2 (fun _ z => by cases z) hn, by simpa using rA2.gr g3 rm2.sub⟩
        rw [← List.append_assoc] at z
        exact (List.mem_append.mp z).elim hn hn2
      refine ok.t _ _ _ _ _ _ _ rm2 rg3 ?_
      cases ec : c Γ1 M' with
      | stuck => rw [ec] at h'; exact h'.elim
      | exc _ _ => rw [ec] at h'; exact h'.elim
      | ok kk M3 =>
        rw [ec] at h'
        intro ν2 H3 g3 rm3
        obtain ⟨gB, hnB, hAB, rAB⟩ := nxt g3 rm3
        have h3 := h'
        have rg4 : RG K (a :: (bad ++ ν) ++ ν2) (μ ++ ν ++ ν2) H3 (wipeG Γ vs) (wipe σ vs) := rg2.gr g3 rm2.sub
        cases kk with
        | false =>
          rw [if_neg Bool.false_ne_true]
          refine ⟨ν ++ ν2, accD, acc, M3, gB, by simpa using rm3, by simpa using rg4, hnB, hAB, hz, rAB, by omega, ?_⟩
          rw [← hds]
          simpa [Res.calm, Res.bind] using h3
        | true =>
          rw [if_pos rfl]
          refine ok.e _ _ _ _ _ _ _ rm3 (rg3.gr g3 rm2.sub) ?_
          simp only [Res.calm, Res.bind] at h3
          cases ee : e Γ1 M3 with
          | stuck => rw [ee] at h3; exact h3.elim
          | exc _ _ => rw [ee] at h3; exact h3.elim
          | ok u M4 =>
            rw [ee] at h3
            intro ν3 y H4 g4 rm4 ry
            simp only at h3
            cases ry with
            | loc hm => exact h3.elim
            | @p y' _ ry =>
            simp only at h3
            split at h3
            rotate_left
            · exact h3.elim
            rename_i hlen
            have hl : acc.length < sizeLine := by rw [← rAB.length, sizeLine_eq]; exact hlen
            have g5 : Gr (μ ++ ν) H2 H4 (ν2 ++ ν3) := g3.trans g4 (fun b hb => rm3.dom b (List.mem_append_right _ hb))
            obtain ⟨gC, hnC, hAC, rAC⟩ := nxt (M3 := M4) g5 (by simpa using rm4)
            have rm4' : RM K T (a :: (bad ++ (ν ++ (ν2 ++ ν3)))) (μ ++ (ν ++ (ν2 ++ ν3))) M4 H4 := by simpa using rm4
            obtain ⟨rm5, up5, g6⟩ := rm4'.aside (ws := acc ++ [y]) List.mem_cons_self hnC hAC
            refine ⟨acc, hAC, hl, ν ++ (ν2 ++ ν3), accD ++ [y'], acc ++ [y], M4, gC.aside ha g6, rm5, ?_, hnC, upd_same, by rw [List.length_append]; exact hl, up5 (rAC.app (.cons (by simpa using ry) .nil)), by omega, ?_⟩
            · have rg6 : RG K (a :: (bad ++ (ν ++ (ν2 ++ ν3)))) (μ ++ (ν ++ (ν2 ++ ν3))) H4 (wipeG Γ vs) (wipe σ vs) := by simpa using rg4.gr g4 rm3.sub
              refine ⟨rg6.len, fun i d hi => ?_⟩
              obtain ⟨v, ev, rv⟩ := rg6.at_ i d hi
              refine ⟨v, ev, ?_⟩
              cases rv with
              | p rv => cases up5 (.cons rv .nil) with | cons r _ => exact .p r
              | loc hm => exact .loc hm
            · rw [← hds]
              exact h3
theorem lcL_calm {gd : List (Nat × List D)} {Γ0 : Env} : ∀ {ds acc : List D} {M : Mem} {x : Ex} {M' : Mem}, lcL gd asg c e Γ0 ds acc M ≠ .exc x M'
  | [], acc, M, x, M', h => by
    unfold lcL at h
    split at h <;> cases h
  | d :: ds, acc, M, x, M', h => by
    unfold lcL at h
    split at h
    · split at h
      · rename_i Γ1 _
        cases e1 : c Γ1 M with
        | ok k M1 =>
          rw [e1] at h
          simp only [Res.calm, Res.bind] at h
          cases k with
          | true =>
            dsimp only at h
            cases e2 : e Γ1 M1 with
            | ok u M2 =>
              rw [e2] at h
              simp only at h
              cases u with
              | p y =>
                dsimp only at h
                split at h
                · exact lcL_calm h
                · cases h
              | loc _ => cases h
            | exc _ _ => rw [e2] at h; cases h
            | stuck => rw [e2] at h; cases h
          | false => exact lcL_calm h
        | exc _ _ => rw [e1] at h; cases h
        | stuck => rw [e1] at h; cases h
      · cases h
    · cases h
theorem lc_ok {wi : TI} {g : TG} {tt : TT} {te : TE} (hi : ∀ σ H R bad μ Γ M, RM X.K T bad μ M H → RG X.K bad μ H Γ σ → PostI X.K X.mg T bad μ H (it Γ M) R (fun c d H' => W c d σ H') → wi σ H R) (ok : LcOk X.K X.mg T ixs asg c e g tt te) (hs : ∀ i ∈ ixs, i ∈ vs)
    {bad μ : List Addr} {Γ : Env} {M : Mem} {σ : L2.St} {H : Hp} {Q : VK} (rm : RM X.K T bad μ M H) (rg : RG X.K bad μ H Γ σ) (h : PostF X.K X.mg T bad μ H (lcF it asg vs c e Γ M) Q (fun c d H' => W c d σ H')) : tLc wi g tt te vs σ H Q := by
  refine hi σ H _ bad μ Γ M rm rg ?_
  unfold lcF at h
  cases e1 : it Γ M with
  | stuck => rw [e1] at h; exact h.elim
  | exc x M1 => rw [e1] at h; exact h
  | ok k M1 =>
    rw [e1] at h
    intro ν J H1 g1 rm1 hJ a ha
    refine lc_turns ok hs rm1 (rg.gr g1 rm.sub) hJ ha ?_
    have h2 : PostF X.K X.mg T bad μ H (lcL k.gd asg c e (wipeG Γ vs) k.ds [] M1) Q (fun c d H' => W c d σ H') := h
    cases e2 : lcL k.gd asg c e (wipeG Γ vs) k.ds [] M1 with
    | stuck => rw [e2] at h2; exact h2.elim
    | exc x M2 => exact absurd e2 lcL_calm
    | ok d M2 =>
      obtain ⟨xs, rfl⟩ := lcL_lst e2
      rw [e2] at h2
      intro ν2 ws H' g2 rm2 hn hA hz r
      have h0 : ¬ NT H a := fun z => (g1.dom a z).no ha
      refine h2 (ν ++ ν2) a ws H' (g1.trans g2 rm1.domν) (by simpa only [List.append_assoc] using rm2) (fun z => ?_) h0 hA hz (by simpa only [List.append_assoc] using r)
      rcases List.mem_append.mp z with z | z
      · exact h0 (rm.dom a z)
      · refine hn ?_
        rw [List.append_assoc]
        exact List.mem_append_right _ z
/-- a target's reading, told alike in every context -/
def tGv (K : PySem.W.Frag) (T : List (Addr × Str)) (ixs : List Nat) (asg : U → Mem → Env → Option Env) : TG := fun v σ H Q => ∃ bad μ M Γ d Γ', RM K T bad μ M H ∧ RG K bad μ H Γ σ ∧ RU K bad μ H d v ∧ asg d M Γ = some Γ' ∧ ∀ σ', RG K bad μ H Γ' σ' → OutS ixs σ σ' → Q σ' H
theorem DGn.pg (h : DGn X T tg ixs asg) : PG X tg (tGv X.K T ixs asg) := by
  obtain ⟨t, p, k⟩ := h.ex
  refine ⟨fun pins s σ H v x D I rx hq => p.run pins s σ H v x D I rx ?_⟩
  obtain ⟨bad, μ, M, Γ, d, Γ', rm, rg, ru, e, h⟩ := hq
  exact k _ _ _ _ _ _ _ _ _ _ rm rg ru e h
/-- the tests of a block -/
structure DTs (X : Cx) (T : List (Addr × Str)) (ifs : List Expr) (c : Fb) : Prop where
  pts : PTs X ifs (tBv X.K X.mg T W0 c)
theorem dts_nil : DTs X T [] yesB := ⟨⟨fun pins s σ H Q I ⟨bad, μ, Γ, M, rm, rg, h⟩ => pts_nil.run pins s σ H Q I (PostB.here (b := true) h rm)⟩⟩
theorem dts_one {t : Expr} (h : DT X T W0 t c) : DTs X T [t] c := ⟨pts_one h.pt⟩
theorem lc_std : LcOk X.K X.mg T ixs asg c e (tGv X.K T ixs asg) (tBv X.K X.mg T W0 c) (tEv X.K X.mg T W0 e) :=
  ⟨fun bad μ M H Γ σ d v Γ' Q rm rg ru e h => ⟨bad, μ, M, Γ, d, Γ', rm, rg, ru, e, h⟩, fun bad μ M H Γ σ Q rm rg h => ⟨bad, μ, Γ, M, rm, rg, h⟩, fun bad μ M H Γ σ Q rm rg h => ⟨bad, μ, Γ, M, rm, rg, h⟩⟩
section
variable {ifs : List Expr} {scope : Scope} {own : List (Str × Nat)} {pos spos : Pos}
theorem df_lc (hc : X.calm = true) (hN : X.N.Nodup) (hi : DI X T W tg iter it) (ok : BlkOk X.N X.env.scope scope own)
    (hg : ∀ (s : Shared) (H : Hp) (C : Addr) (cl : List (Str × Addr)) (fp : List Addr), DGn (X.blk s H scope (compEnvC scope cl C X.env) fp) T tg ixs asg) (ht : ∀ (s : Shared) (H : Hp) (C : Addr) (cl : List (Str × Addr)) (fp : List Addr), DTs (X.blk s H scope (compEnvC scope cl C X.env) fp) T ifs c)
    (he : ∀ (s : Shared) (H : Hp) (C : Addr) (cl : List (Str × Addr)) (fp : List Addr), DE (X.blk s H scope (compEnvC scope cl C X.env) fp) T W0 elt e) (hix : ∀ i ∈ ixs, i ∈ own.map (·.2)) (hs : ∀ x, foldedSetIterable iter X.env x = pure x := by intro _; rfl) :
    DF X T W (.ListComp elt [⟨tg, iter, ifs, 0⟩] scope pos) (lcF it asg (own.map (·.2)) c e) := by
  obtain ⟨wi, h1, k1⟩ := hi.ex
  exact ⟨peW (pe_lc (te := tEv X.K X.mg T W0 e) (tt := tBv X.K X.mg T W0 c) (g := tGv X.K T ixs asg) hc hN h1 ok (fun s H C cl fp => (hg s H C cl fp).pg) (fun s H C cl fp => (ht s H C cl fp).pts) (fun s H C cl fp => (he s H C cl fp).pe) hs) fun σ H Q ⟨bad, μ, Γ, M, rm, rg, h⟩ => lc_ok k1 lc_std hix rm rg h, lcF_lst⟩
/-- the two readings -/
theorem ds_setLc0 {i : Nat} {y : Str} {py : Pos} (hc : X.calm = true) (hN : X.N.Nodup) (hy : X.N[i]? = some y) (hyl : X.env.scope.names.lookup y = some .local) (hsw : swapsWith (.ListComp elt [⟨tg, iter, ifs, 0⟩] scope pos) (some (.Name y py)) spos.line X.env = pure true)
    (hi : DI X T W tg iter it) (ok : BlkOk X.N X.env.scope scope own)
    (hg : ∀ (s : Shared) (H : Hp) (C : Addr) (cl : List (Str × Addr)) (fp : List Addr), DGn (X.blk s H scope (compEnvC scope cl C X.env) fp) T tg ixs asg) (ht : ∀ (s : Shared) (H : Hp) (C : Addr) (cl : List (Str × Addr)) (fp : List Addr), DTs (X.blk s H scope (compEnvC scope cl C X.env) fp) T ifs c)
    (he : ∀ (s : Shared) (H : Hp) (C : Addr) (cl : List (Str × Addr)) (fp : List Addr), DE (X.blk s H scope (compEnvC scope cl C X.env) fp) T W0 elt e) (hix : ∀ i ∈ ixs, i ∈ own.map (·.2)) (hs : ∀ x, foldedSetIterable iter X.env x = pure x := by intro _; rfl) :
    DS X T W (.Assign [.Name y py] (.ListComp elt [⟨tg, iter, ifs, 0⟩] scope pos) spos) (setS i (lcF it asg (own.map (·.2)) c e)) ∧ DS X T W (.Assign [.Name y py] (.ListComp elt [⟨tg, iter, ifs, 0⟩] scope pos) spos) (setS i (thawF (lcF it asg (own.map (·.2)) c e))) := by
  obtain ⟨wi, h1, k1⟩ := hi.ex
  have P := ps_setLc (te := tEv X.K X.mg T W0 e) (tt := tBv X.K X.mg T W0 c) (g := tGv X.K T ixs asg) hc hN hy hyl hsw h1 ok (fun s H C cl fp => (hg s H C cl fp).pg) (fun s H C cl fp => (ht s H C cl fp).pts) (fun s H C cl fp => (he s H C cl fp).pe) hs
  have fin : ∀ {D : Ends} {σ : L2.St} {bad μ : List Addr} {H : Hp} {Γ : Env}, RG X.K bad μ H Γ σ → (∀ b ∈ μ, b ∈ bad) → ∀ v H1, Mid X.K T bad μ H (fun bad1 μ1 d M1 v H1 => PostS X.K X.mg T bad1 μ1 H1 (.nx (Γ.set i (some d)) M1) D W) v H1 → gName i v σ H1 D.nx := by
    rintro D σ bad μ H Γ rg hb v H1 ⟨ν, d, M1, g1, rm1, rv1, h1⟩
    exact PostS.here h1 rm1 ((rg.gr g1 hb).set rv1)
  refine ⟨⟨psW P fun D σ H ⟨bad, μ, Γ, M, rm, rg, h⟩ => ?_⟩, ⟨psW P fun D σ H ⟨bad, μ, Γ, M, rm, rg, h⟩ => ?_⟩⟩
  · exact lc_ok k1 lc_std hix rm rg (PostF.ofPost rm (fun d M' e => lcF_lst _ _ _ _ e) ((PostS.thenS h rm.sub rg).mono (fin rg rm.sub)))
  · exact lc_ok k1 lc_std hix rm rg (PostF.ofThaw rm (fun d M' e => lcF_lst _ _ _ _ e) ((PostS.thenS h rm.sub rg).mono (fin rg rm.sub)))
/-- y = [..], all on one row -/
theorem ds_setLc {i : Nat} {y : Str} {py : Pos} (hc : X.calm = true) (hN : X.N.Nodup) (hy : X.N[i]? = some y) (hyl : X.env.scope.names.lookup y = some .local) (hsw : swapsWith (.ListComp elt [⟨tg, iter, ifs, 0⟩] scope pos) (some (.Name y py)) spos.line X.env = pure true)
    (hi : DI X T W tg iter it) (ok : BlkOk X.N X.env.scope scope own)
    (hg : ∀ (s : Shared) (H : Hp) (C : Addr) (cl : List (Str × Addr)) (fp : List Addr), DGn (X.blk s H scope (compEnvC scope cl C X.env) fp) T tg ixs asg) (ht : ∀ (s : Shared) (H : Hp) (C : Addr) (cl : List (Str × Addr)) (fp : List Addr), DTs (X.blk s H scope (compEnvC scope cl C X.env) fp) T ifs c)
    (he : ∀ (s : Shared) (H : Hp) (C : Addr) (cl : List (Str × Addr)) (fp : List Addr), DE (X.blk s H scope (compEnvC scope cl C X.env) fp) T W0 elt e) (hix : ∀ i ∈ ixs, i ∈ own.map (·.2)) (hs : ∀ x, foldedSetIterable iter X.env x = pure x := by intro _; rfl) :
    DS X T W (.Assign [.Name y py] (.ListComp elt [⟨tg, iter, ifs, 0⟩] scope pos) spos) (setS i (lcF it asg (own.map (·.2)) c e)) := (ds_setLc0 hc hN hy hyl hsw hi ok hg ht he hix hs).1
/-- .. and the list will change -/
theorem ds_setLcT {i : Nat} {y : Str} {py : Pos} (hc : X.calm = true) (hN : X.N.Nodup) (hy : X.N[i]? = some y) (hyl : X.env.scope.names.lookup y = some .local) (hsw : swapsWith (.ListComp elt [⟨tg, iter, ifs, 0⟩] scope pos) (some (.Name y py)) spos.line X.env = pure true)
    (hi : DI X T W tg iter it) (ok : BlkOk X.N X.env.scope scope own)
    (hg : ∀ (s : Shared) (H : Hp) (C : Addr) (cl : List (Str × Addr)) (fp : List Addr), DGn (X.blk s H scope (compEnvC scope cl C X.env) fp) T tg ixs asg) (ht : ∀ (s : Shared) (H : Hp) (C : Addr) (cl : List (Str × Addr)) (fp : List Addr), DTs (X.blk s H scope (compEnvC scope cl C X.env) fp) T ifs c)
    (he : ∀ (s : Shared) (H : Hp) (C : Addr) (cl : List (Str × Addr)) (fp : List Addr), DE (X.blk s H scope (compEnvC scope cl C X.env) fp) T W0 elt e) (hix : ∀ i ∈ ixs, i ∈ own.map (·.2)) (hs : ∀ x, foldedSetIterable iter X.env x = pure x := by intro _; rfl) :
    DS X T W (.Assign [.Name y py] (.ListComp elt [⟨tg, iter, ifs, 0⟩] scope pos) spos) (setS i (thawF (lcF it asg (own.map (·.2)) c e))) := (ds_setLc0 hc hN hy hyl hsw hi ok hg ht he hix hs).2
end
end
end Mp
namespace Mp
open PySem PySem.Spec PyProof.Rows L2

def encD (d : D) : PyData := (toP0 d).getD .none
/-- what a sort of data asks -/
def sortOk (ds : List D) : Bool :=
  (ds.all fun d => (toP0 d).isSome && decide ((encD d).depth ≤ 60)) && (ds.all fun a => ds.all fun b => PySem.W.alike (encD a) (encD b)) &&
    ((ds.all fun d => match encD d with | .tuple (_ :: _) => true | _ => false) || ds.all fun d => match encD d with | .none => false | .tuple _ => false | _ => true)
def leD' (a b : D) : Bool := PySem.W.dataLe false encD a b
def sortD (ds : List D) : Option (List D) := if sortOk ds = true ∧ ds.length ≤ 16777216 then some (ds.mergeSort leD') else none
def keyD : Key → D
  | .inl i => .int i
  | .inr x => .str x
/-- what sorted(u) collects -/
def sortSrc (M : Mem) : U → Option (List D)
  | .p d => seqOf d
  | .loc n => match M[n]? with
    | some (.lst xs) => some xs
    | some (.dic kvs) => some (kvs.map fun kv => keyD kv.1)
    | some (.dtu kvs) => if (kvs.all fun kv => decide (kv.1.length ≤ 1000)) = true then some (kvs.map fun kv => .tup (kv.1.map keyD)) else none
    | none => none
def sortedF (fa : Fa) : Fx := fun Γ M => (fa Γ M).bind fun us M1 => match us with
  | [u] => match (sortSrc M1 u).bind sortD with
    | some ds => .ok (.p (.lst ds)) M1
    | none => .stuck
  | _ => .stuck

/-- values and their data -/
structure Both (K : PySem.W.Frag) (H : Hp) (vs : List V) (ds : List D) : Prop where
  len : vs.length = ds.length
  dp : ∀ p ∈ vs.zip ds, ∃ pd, toP0 p.2 = some pd ∧ Dp K H p.1 pd
def leV (a b : V × D) : Bool := leD' a.2 b.2
def outV (vs : List V) (ds : List D) : List V := ((vs.zip ds).mergeSort leV).map (·.1)
/-- what is to be shown of what has been collected -/
def SortP (K : PySem.W.Frag) (vs : List V) (H : Hp) (Q : VK) : Prop := ∃ ds, Both K H vs ds ∧ sortOk ds = true ∧ vs.length ≤ sizeLine ∧ ∀ p, H p = none → Q (.ref p) (upd H p (.lst (outV vs ds)))
def rSorted (K : PySem.W.Frag) : List V → Hp → VK → Prop := fun xs H Q => ∃ a, xs = [.ref a] ∧
  ((∃ vs, (SqL K H a vs ∨ SqT K H a vs) ∧ SortP K vs H Q) ∨ (∃ kvs : List (Key × V), H a = some (.dK kvs) ∧ SortP K (kvs.map fun kv => kV kv.1) H Q) ∨
    ∃ kvs : List (List Key × V), H a = some (.dT kvs) ∧ ∀ vs : List V, vs.length = kvs.length → (∀ (i : Nat) (k : List Key × V), kvs[i]? = some k → ∃ q, vs[i]? = some (.ref q) ∧ H q = some (.tup (k.1.map kV))) → SortP K vs H Q)

section
variable {X : Cx}
theorem each_zip {R : Value → V × D → Prop} : ∀ {us : List Value} {vs : List V} {ds : List D}, Vals vs us → vs.length = ds.length → (∀ u p, p ∈ vs.zip ds → RelV p.1 u → R u p) → PySem.W.EachIs R us (vs.zip ds)
  | _, _, [], .nil, _, _ => .nil
  | _, _, _ :: _, .nil, h, _ => by simp at h
  | _, _, [], .cons _ _, h, _ => by simp at h
  | _, _, d :: ds, .cons r t, h, hR => .cons (hR _ _ (by simp) r) (each_zip t (by simpa using h) fun u p hp => hR u p (by simp [hp]))
theorem each_vals : ∀ {out : List Value} {ps : List (V × D)}, PySem.W.EachIs (fun u p => RelV p.1 u) out ps → Vals (ps.map (·.1)) out
  | _, _, .nil => .nil
  | _, _, .cons r t => .cons r (each_vals t)
/-- the new list is sorted -/
theorem sort_tail {pins : List (Addr × Obj)} {s : Shared} {σ : L2.St} {H : Hp} {Q : VK} {vs : List V} {acc : List Value} (hu : X.A.units + 66 < cLine) (I : Inv X pins σ H s) (r : Vals vs acc) (q : SortP X.K vs H Q) (E : Value → Shared → Prop) :
    wpAny (model X.prog X.w) X.A.in1.in1 (Builtin.«list.sort» ⟨[.ref s.heap.objs.size], []⟩) (fun f s' => f = .done (.ret .none) ∧ EP X pins σ Q (.ref s.heap.objs.size) s') E { s with heap := s.heap.push (seqObj "list" acc.toArray 0) } := by
  obtain ⟨ds, B, ok, hz, q⟩ := q
  have ho : (s.heap.push (seqObj "list" acc.toArray 0)).get? s.heap.objs.size = some (seqObj "list" acc.toArray 0) := Heap.get?_push_size _ rfl
  unfold sortOk at ok
  simp only [Bool.and_eq_true, List.all_eq_true, decide_eq_true_eq, Bool.or_eq_true] at ok
  obtain ⟨⟨ok1, ok2⟩, ok3⟩ := ok
  have mem : ∀ p ∈ vs.zip ds, p.2 ∈ ds := fun p hp => (List.of_mem_zip hp).2
  have e0 : PySem.W.EachIs (fun (u : Value) (p : V × D) => RelV p.1 u) acc (vs.zip ds) := each_zip r B.len fun u p _ h => h
  have er : PySem.W.EachIs (fun (u : Value) (p : V × D) => ∃ as, Reads (PySem.W.sortingHeap (s.heap.push (seqObj "list" acc.toArray 0)) s.heap.objs.size acc) u (encD p.2) as) acc (vs.zip ds) := each_zip r B.len fun u p hp h => by
    obtain ⟨pd, e1, dp⟩ := B.dp p hp
    obtain ⟨as, rd⟩ := Dp.reads I pd p.1 u dp h
    refine ⟨as, ?_⟩
    have ee : encD p.2 = pd := by unfold encD; rw [e1]; rfl
    rw [ee]
    exact PyProof.Rows.Reads.keeps (fun b o e => PySem.W.sortingHeap_old (Nat.ne_of_lt (Heap.lt_size e)) (Heap.get?_push_of_some _ e)) rd
  have hal : PySem.W.AllAlike ((vs.zip ds).map fun p => encD p.2) := fun a ha b hb => by
    obtain ⟨p, hp, rfl⟩ := List.mem_map.mp ha
    obtain ⟨p', hp', rfl⟩ := List.mem_map.mp hb
    exact ok2 _ (mem p hp) _ (mem p' hp')
  have hk : PySem.W.Sortable ((vs.zip ds).map fun p => encD p.2) := by
    rcases ok3 with h | h
    · refine .inl fun d hd => ?_
      obtain ⟨p, hp, rfl⟩ := List.mem_map.mp hd
      have := h _ (mem p hp)
      revert this
      cases encD p.2 with
      | tuple l => cases l with | nil => exact fun z => nomatch z | cons x l => exact fun _ => ⟨x, l, rfl⟩
      | _ => exact fun z => nomatch z
    · refine .inr fun d hd => ?_
      obtain ⟨p, hp, rfl⟩ := List.mem_map.mp hd
      have := h _ (mem p hp)
      revert this
      cases encD p.2 with
      | none => exact fun z => nomatch z
      | tuple l => exact fun z => nomatch z
      | _ => exact fun _ => ⟨fun z => (nomatch z), fun _ z => nomatch z⟩
  have hu2 : ∀ d ∈ (vs.zip ds).map fun p => encD p.2, X.A.in1.in1.units + d.depth < cLine := fun d hd => by
    obtain ⟨p, hp, rfl⟩ := List.mem_map.mp hd
    have z := (ok1 _ (mem p hp)).2
    show X.A.units + 1 + 1 + _ < _
    omega
  have hL : acc.length ≤ sizeLine := by rw [← r.length]; exact hz
  refine PySem.W.list_sort_vals (s := { s with heap := s.heap.push (seqObj "list" acc.toArray 0) }) ho (PySem.W.SortsAt.data (s := { s with heap := PySem.W.sortingHeap (s.heap.push (seqObj "list" acc.toArray 0)) s.heap.objs.size acc })
    (PySem.W.each_map (R := fun u d => ∃ as, Reads (PySem.W.sortingHeap (s.heap.push (seqObj "list" acc.toArray 0)) s.heap.objs.size acc) u d as) (fun p : V × D => encD p.2) er) hal hk hu2) hL ⟨rfl, ?_⟩
  have eo := PySem.W.sortVals_data false e0 er hal
  generalize PySem.W.sortVals (PySem.W.dataKind (PySem.W.sortingHeap (s.heap.push (seqObj "list" acc.toArray 0)) s.heap.objs.size acc) ((vs.zip ds).map fun p => encD p.2)) false acc acc = out at eo
  obtain ⟨c, hc⟩ := PyProof.Rows.sortedHeap_at (out := out.toArray) ho
  have rv := each_vals eo
  have eV : ((vs.zip ds).mergeSort (PySem.W.dataLe false fun p : V × D => encD p.2)).map (·.1) = outV vs ds := rfl
  rw [eV] at rv
  have hlen : (outV vs ds).length ≤ sizeLine := by
    unfold outV
    rw [List.length_map, List.length_mergeSort, List.length_zip]
    omega
  refine ⟨.ref s.heap.objs.size, upd H s.heap.objs.size (.lst (outV vs ds)), I.laid (t' := s.toks) (fun b u e => ?_) (Nat.le_refl _) ⟨hlen, out, c, rv, hc⟩, rfl, q _ (I.hok.fresh (Nat.le_refl _))⟩
  rw [PyProof.Rows.sortedHeap_old (Nat.ne_of_lt (Heap.lt_size e)) (by rw [size_push']; exact Nat.lt_succ_of_lt (Heap.lt_size e))]
  exact Heap.get?_push_of_some _ e
/-- sorted(x), where x has been collected -/
theorem sort_from {pins : List (Addr × Obj)} {s : Shared} {σ : L2.St} {H : Hp} {Q : VK} {a : Addr} (hu : X.A.units + 66 < cLine)
    (h : ∀ (E : Value → Shared → Prop) (R : List Value → Shared → Prop), (∀ (s' : Shared) (acc : List Value) (vs : List V), Inv X pins σ H s' → Vals vs acc → SortP X.K vs H Q → R acc s') → wpAny (model X.prog X.w) X.A.in1 (collect (.ref a)) R E s) :
    wpAny (model X.prog X.w) X.A (call (.builtin "sorted") [.ref a]) (EP X pins σ Q) X.xe s := by
  refine Calls.call_function_entry PyProof.Rows.kind_sorted PyProof.Rows.plain_sorted PyProof.Rows.entry_sorted (PyProof.Rows.args_sorted1 _) ?_
  unfold Builtin.«sorted»
  refine wpAny_bind (wpAny_pure ?_)
  refine wpAny_bind (h _ _ fun s' acc vs I r q => ?_)
  have hlen : acc.length ≤ sizeLine := by
    obtain ⟨_, _, _, hz, _⟩ := q
    rw [← r.length]
    exact hz
  refine wpAny_bind (wpAny_newList ?_ hlen)
  show wpAny _ _ _ _ _ { s' with heap := s'.heap.push (seqObj "list" acc.toArray 0) }
  have ho : (s'.heap.push (seqObj "list" acc.toArray 0)).get? s'.heap.objs.size = some (seqObj "list" acc.toArray 0) := Heap.get?_push_size _ rfl
  refine wpAny_bind (wpAny_holding (wpAny_call_entry PyProof.Rows.slot_list_sort ⟨_, ho, rfl⟩ PyProof.Rows.entry_list_sort (wpAny_mono (sort_tail hu I r q _) (fun f s2 hf => ?_) fun _ _ z => z) (PyProof.Rows.args_list_sort _)))
  obtain ⟨rfl, hq⟩ := hf
  exact ⟨_, rfl, wpAny_pure ⟨_, rfl, hq⟩⟩
theorem cr_sortedG (hc : X.calm = true) (hu : X.A.units + 66 < cLine) : CallR X (.builtin "sorted") (rSorted X.K) := by
  intro pins s σ H xs us Q I r q
  obtain ⟨a, rfl, q⟩ := q
  obtain ⟨u, rfl, rx⟩ := vals1 r
  cases rx
  refine sort_from (pins := pins) (σ := σ) (H := H) (Q := Q) hu fun E R hR => ?_
  rcases q with ⟨vs, hs, hp⟩ | ⟨kvs, hd, hp⟩ | ⟨kvs, hd, hp⟩
  · have hz : vs.length ≤ sizeLine := by obtain ⟨_, _, _, hz, _⟩ := hp; exact hz
    rcases hs with hs | hs
    · obtain ⟨its, rv, p, _⟩ := I.list hs
      have hl := rv.length
      obtain ⟨⟨c1, d1, dt1, sl1⟩, n1, o1, oc1, od1, oe1⟩ := p
      simp only at oc1 od1 oe1
      subst oc1 od1 oe1
      exact wpAny_collect_seq a (.inl rfl) o1 rfl rfl (fun h' hk => hR _ _ vs (I.kept (t' := s.toks) hk) (by simpa using rv) hp) (by rw [List.size_toArray]; omega)
    · obtain ⟨its, rv, ⟨o, ho, hcl, n, hd⟩, _⟩ := I.tuple hs
      have hl := rv.length
      exact wpAny_collect_seq a (.inr rfl) ho hcl hd (fun h' hk => hR _ _ vs (I.kept (t' := s.toks) hk) (by simpa using rv) hp) (by rw [List.size_toArray]; omega)
  · obtain ⟨z, lo, ws, rel, dd⟩ := dk_rd I.hok (.inl hd)
    obtain ⟨ep, hat⟩ := dd.dictAt
    have hkeys : ws.map (·.1) = kvs.map (·.1) := rel.keys.symm
    have hl : ws.length = kvs.length := by simpa using congrArg List.length hkeys
    refine PySem.W.kdu_collect (A := X.A.in1) (PySem.W.kdl_dict (knd := mixKind X.prog X.w) (kvs := ws) (ep := ep) lo) (I.ok.hd hc) hat (by omega) fun h' tk acc hk hacc => hR _ _ _ (I.kept (t' := tk) hk) ?_ hp
    have hal : acc.toList.length = kvs.length := by rw [Array.length_toList, hacc.1, hl]
    refine vals_get (by simpa using hal.symm) fun i v hv => ?_
    rw [List.getElem?_map] at hv
    cases ek : kvs[i]? with
    | none => rw [ek] at hv; cases hv
    | some kv =>
      rw [ek] at hv
      cases hv
      have hi : i < acc.toList.length := by rw [hal]; exact (List.getElem?_eq_some_iff.mp ek).1
      refine ⟨acc.toList[i], List.getElem?_eq_getElem hi, ?_⟩
      obtain ⟨k, x, e1, e2⟩ := hacc.2 i acc.toList[i] (by rw [← Array.getElem?_toList]; exact List.getElem?_eq_getElem hi)
      have e3 : (ws.map (·.1))[i]? = some k := by rw [List.getElem?_map, e1]; rfl
      rw [hkeys, List.getElem?_map, ek] at e3
      cases e3
      exact relV_key e2
  · obtain ⟨z, lo, xs, pr, o', es, ep, ho, hx, hdt, he, _⟩ := (show ObjOk X.prog X.w H s.heap a (.dT kvs) from I.hok a _ hd)
    have l1 : es.size = xs.length := size_of_entries he
    have l2 : kvs.length = xs.length := Paired.length pr
    refine PySem.W.kdu_collect (A := X.A.in1) (PySem.KdlSrc.rawDict (es := es) (ep := ep) lo) (I.ok.hd hc) ⟨o', ho, hx, hdt⟩ (by omega) fun h' tk acc hk hacc => ?_
    have hal : acc.toList.length = kvs.length := by rw [Array.length_toList, hacc.1]; omega
    have key : ∀ (i : Nat) (k : List Key × V), kvs[i]? = some k → ∃ q, acc.toList[i]? = some (.ref q) ∧ H q = some (.tup (k.1.map kV)) := fun i k ek => by
      obtain ⟨b, hb, e1, e2, _⟩ := paired_get pr ek
      have q := entry_at he i
      rw [hb] at q
      have hi : i < acc.toList.length := by rw [hal]; exact (List.getElem?_eq_some_iff.mp ek).1
      obtain ⟨hlt, e4⟩ := hacc.2 i acc.toList[i] (by rw [← Array.getElem?_toList]; exact List.getElem?_eq_getElem hi)
      refine ⟨b.2.1, ?_, e2⟩
      rw [List.getElem?_eq_getElem hi, e4]
      have e5 : es[i]? = some es[i] := Array.getElem?_eq_getElem hlt
      rw [e5] at q
      have e6 := Option.some.inj q
      rw [e6]
      rfl
    have hal2 : acc.size = kvs.length := by rw [← Array.length_toList]; exact hal
    let vs : List V := acc.toList.map fun u => match u with | .ref q => V.ref q | _ => V.non
    have hv : ∀ (i : Nat) (k : List Key × V), kvs[i]? = some k → ∃ q, vs[i]? = some (.ref q) ∧ H q = some (.tup (k.1.map kV)) := fun i k ek => by
      obtain ⟨q, e1, e2⟩ := key i k ek
      exact ⟨q, by rw [List.getElem?_map, e1]; rfl, e2⟩
    refine hR _ _ vs (I.kept (t' := tk) hk) (vals_get (by simp [vs]) fun i v hvi => ?_) (hp vs (by simp [vs, hal2]) hv)
    have hi : i < kvs.length := by
      have := (List.getElem?_eq_some_iff.mp hvi).1
      simp [vs] at this
      omega
    obtain ⟨q, e1, e2⟩ := key i kvs[i] (List.getElem?_eq_getElem hi)
    have e3 : vs[i]? = some (.ref q) := by rw [List.getElem?_map, e1]; rfl
    rw [hvi] at e3
    cases e3
    exact ⟨.ref q, e1, rfl⟩
where
  vals_get : ∀ {vs : List V} {us : List Value}, vs.length = us.length → (∀ (i : Nat) (v : V), vs[i]? = some v → ∃ u, us[i]? = some u ∧ RelV v u) → Vals vs us
    | [], [], _, _ => .nil
    | [], _ :: _, h, _ => by simp at h
    | _ :: _, [], h, _ => by simp at h
    | v :: vs, u :: us, h, hr => by
      obtain ⟨w, e, r⟩ := hr 0 v rfl
      cases e
      exact .cons r (vals_get (by simpa using h) fun i v hv => hr (i + 1) v hv)
section
variable {T : List (Addr × Str)} {bad μ : List Addr} {M : Mem} {H : Hp} {K : PySem.W.Frag}
theorem both_of : ∀ {ds : List D} {vs : List V}, RVs K bad H ds vs → (∀ d ∈ ds, (toP0 d).isSome = true) → Both K H vs ds
  | _, _, .nil, _ => ⟨rfl, fun p hp => by simp at hp⟩
  | _, _, .cons (d := d) r t, h => by
    obtain ⟨l, b⟩ := both_of t fun d hd => h d (List.mem_cons_of_mem _ hd)
    refine ⟨by simp [l], fun p hp => ?_⟩
    rcases List.mem_cons.mp (by simpa using hp) with e | e
    · subst e
      cases e1 : toP0 d with
      | none => have := h d List.mem_cons_self; rw [e1] at this; cases this
      | some pd => exact ⟨pd, rfl, r.dp e1⟩
    · exact b p e
theorem zip_rv : ∀ {ds : List D} {vs : List V}, RVs K bad H ds vs → ∀ p ∈ vs.zip ds, RV K bad H p.2 p.1
  | _, _, .nil, p, h => by simp at h
  | _, _, .cons r t, p, h => by
    rcases List.mem_cons.mp (by simpa using h) with e | e
    · subst e; exact r
    · exact zip_rv t p e
theorem out_rvs {ds : List D} {vs : List V} (r : RVs K bad H ds vs) : RVs K bad H (ds.mergeSort leD') (outV vs ds) := by
  have hl := r.length
  have e1 : (vs.zip ds).map (·.2) = ds := List.map_snd_zip (by omega)
  have e2 : ds.mergeSort leD' = ((vs.zip ds).mergeSort leV).map (·.2) := by
    rw [List.map_mergeSort (s := leD') (f := fun p : V × D => p.2) (r := leV) (fun _ _ _ _ => rfl), e1]
  rw [e2]
  unfold outV
  have all : ∀ p ∈ (vs.zip ds).mergeSort leV, RV K bad H p.2 p.1 := fun p hp => by
    have hp2 := (List.mergeSort_perm _ _).mem_iff.mp hp
    exact zip_rv r p hp2
  generalize (vs.zip ds).mergeSort leV = ps at all
  induction ps with
  | nil => exact .nil
  | cons p ps ih => exact .cons (all p List.mem_cons_self) (ih fun q hq => all q (List.mem_cons_of_mem _ hq))
theorem RVs.len {ds : List D} {vs : List V} (r : RVs K bad H ds vs) : vs.length = ds.length := r.length.symm
theorem toP0_key (k : Key) : (toP0 (keyD k)).isSome = true := by cases k <;> rfl
theorem rv_key (k : Key) : RV K bad H (keyD k) (kV k) := by
  cases k with
  | inl i => exact .int i
  | inr x => exact .str x
theorem rvs_keys : ∀ ks : List Key, RVs K bad H (ks.map keyD) (ks.map kV)
  | [] => .nil
  | k :: ks => .cons (rv_key k) (rvs_keys ks)
end
section
variable {X : Cx} {T : List (Addr × Str)} {W : WX} {e : Expr} {fa : Fa} {p pos : Pos}
theorem rvs_of {K : PySem.W.Frag} {bad : List Addr} {H : Hp} : ∀ {ds : List D} {vs : List V}, vs.length = ds.length → (∀ (i : Nat) (d : D), ds[i]? = some d → ∃ v, vs[i]? = some v ∧ RV K bad H d v) → RVs K bad H ds vs
  | [], [], _, _ => .nil
  | [], _ :: _, h, _ => by simp at h
  | _ :: _, [], h, _ => by simp at h
  | d :: ds, v :: vs, h, hr => by
    obtain ⟨w, e, r⟩ := hr 0 d rfl
    cases e
    exact .cons r (rvs_of (by simpa using h) fun i d hd => hr (i + 1) d hd)
theorem df_sorted (hc : X.calm = true) (hu : X.A.units + 66 < cLine) (hg : Gl X "sorted") (hm : X.mg "sorted" = none) (ha : DA X T W [e] fa) (hs : starEach [e] X.env = [(false, eval e X.env)] := by rfl) : DF X T W (.Call (.Name "sorted" p) [e] [] pos) (sortedF fa) :=
  ⟨peW (pe_callB (cr_sortedG hc hu) hg hm (by decide +kernel) ha.pa (he := hs)) (fun σ H Q ⟨bad, μ, Γ, M, rm, rg, h⟩ => by
  refine ⟨bad, μ, Γ, M, rm, rg, (PostF.bindA h).mono ?_⟩
  rintro vs H1 ⟨ν, us, M1, g1, rm1, rv1, h1⟩
  split at h1
  rotate_left
  · exact h1.elim
  rename_i u
  obtain ⟨v, rfl, ru⟩ := RUs.one rv1
  cases e1 : sortSrc M1 u with
  | none => rw [e1] at h1; exact h1.elim
  | some ds =>
    rw [e1] at h1
    simp only [Option.bind_some] at h1
    cases e2 : sortD ds with
    | none => rw [e2] at h1; exact h1.elim
    | some out =>
      rw [e2] at h1
      unfold sortD at e2
      split at e2
      rotate_left
      · cases e2
      rename_i hok
      cases e2
      have som : ∀ d ∈ ds, (toP0 d).isSome = true := fun d hd => by
        have z := hok.1
        unfold sortOk at z
        simp only [Bool.and_eq_true, List.all_eq_true] at z
        exact (z.1.1 d hd).1
      have fin : ∀ vs, RVs X.K (bad ++ ν) H1 ds vs → SortP X.K vs H1 Q := fun vs r => by
        have hz : vs.length ≤ sizeLine := by rw [r.len, sizeLine_eq]; exact hok.2
        refine ⟨ds, both_of r som, hok.1, hz, fun p hp => PostF.new h1 rm1 (out_rvs r) ?_ hp⟩
        unfold outV
        rw [List.length_map, List.length_mergeSort, List.length_zip]
        omega
      unfold sortSrc at e1
      split at e1
      · rename_i d
        cases ru with
        | p rv =>
        obtain ⟨a, vs, rfl, z, s, r⟩ := (RW.of rv).seq e1
        exact ⟨a, rfl, .inl ⟨vs, s, fin vs r⟩⟩
      · rename_i n
        cases ru with
        | @loc _ a hm' =>
        split at e1
        · rename_i xs em
          cases e1
          cases rm1.at_ n _ a em hm' with
          | @lst _ _ vs z hH r => exact ⟨a, rfl, .inl ⟨vs, .inl (.of hH), fin vs r⟩⟩
        · rename_i kvs em
          cases e1
          cases rm1.at_ n _ a em hm' with
          | @dic _ _ ws z hH hk r =>
          refine ⟨a, rfl, .inr (.inl ⟨ws, hH, fin _ ?_⟩)⟩
          have e3 : kvs.map (fun kv => keyD kv.1) = (ws.map (·.1)).map keyD := by rw [← hk, List.map_map]; rfl
          have e4 : ws.map (fun kv => kV kv.1) = (ws.map (·.1)).map kV := by rw [List.map_map]; rfl
          rw [e3, e4]
          exact rvs_keys _
        · rename_i kvs em
          split at e1
          rotate_left
          · cases e1
          rename_i hks
          cases e1
          cases rm1.at_ n _ a em hm' with
          | @dtu _ _ ws z hH hk r =>
          refine ⟨a, rfl, .inr (.inr ⟨ws, hH, fun vs hl hv => fin vs ?_⟩)⟩
          have hlk : kvs.length = ws.length := rk_len hk
          refine rvs_of (by rw [List.length_map]; omega) fun i d hd => ?_
          rw [List.getElem?_map] at hd
          cases ek : kvs[i]? with
          | none => rw [ek] at hd; cases hd
          | some kv =>
            rw [ek] at hd
            cases hd
            have hi : i < ws.length := by rw [← hlk]; exact (List.getElem?_eq_some_iff.mp ek).1
            have e5 : (kvs.map (·.1))[i]? = (ws.map (·.1))[i]? := by rw [hk]
            rw [List.getElem?_map, List.getElem?_map, ek, List.getElem?_eq_getElem hi] at e5
            have e6 : kv.1 = ws[i].1 := Option.some.inj e5
            obtain ⟨q, h2, h3⟩ := hv i ws[i] (List.getElem?_eq_getElem hi)
            rw [← e6] at h3
            refine ⟨_, h2, .tup ⟨?_, h3, fun hb => rm1.nt q hb _ h3⟩ (rvs_keys _)⟩
            have := of_decide_eq_true (List.all_eq_true.mp hks kv (List.mem_of_getElem? ek))
            rw [List.length_map, sizeLine_eq]
            omega
        · cases e1), fun Γ M d M' h => by
  unfold sortedF at h
  cases e1 : fa Γ M with
  | stuck => rw [e1] at h; cases h
  | exc _ _ => rw [e1] at h; cases h
  | ok us M1 =>
    rw [e1] at h
    simp only [Res.bind] at h
    split at h
    · split at h
      · cases h; exact ⟨_, rfl⟩
      · cases h
    · cases h⟩
end
end
end Mp
set_option maxHeartbeats 4000000
namespace Mp
open PySem PySem.Spec PyProof.Rows L2

abbrev inEnv (qual : Str) (scope : Scope) (L f : Addr) (cd : Value) (cc : Addr) : PySem.Env := PySem.W.ksEnv qual scope L f cd cc
/-- the names that such a field may have -/
def FlOk (fl : Str) : Prop := fl = ("value" : Str) ∨ fl = ("most" : Str) ∨ fl = ("place" : Str) ∨ fl = ("path" : Str)
abbrev inN (fl : Str) : List Str := ["self", fl]
/-- the context of such an __init__'s body -/
def inCx (fl : Str) (P : Program) (w : World) (K : PySem.W.Frag) (mg : Str → Option Value) (base : Heap) (qual : Str) (scope : Scope) (f : Addr) (cd : Value) (cc : Addr) (A : Around) (outer : List PySem.Env) (s : Shared) (H : Hp) (E : XK) : Cx where
  prog := P
  w := w
  K := K
  mg := mg
  base := base
  A := A.deeper (inEnv qual scope s.heap.objs.size f cd cc)
  N := inN fl
  s_0 := s
  H_0 := H
  env := inEnv qual scope s.heap.objs.size f cd cc
  outer := outer
  stack := inEnv qual scope s.heap.objs.size f cd cc :: outer
  ex := []
  calm := true
  fn := fun _ => false
  pn := []
  xe := fun e s' => wpAny (model P w) (A.deeper (inEnv qual scope s.heap.objs.size f cd cc)) (leaving (inEnv qual scope s.heap.objs.size f cd cc) e) (fun _ s'' => L2.CX P w outer H s E e s'') (fun e' s'' => L2.CX P w outer H s E e' s'') s'

/-- the names of such an __init__ -/
structure InS (fl : Str) (scope : Scope) : Prop where
  kind : scope.kind = .function
  co : scope.isCoroutine = false
  gen : scope.isGenerator = false
  self : scope.names.lookup ("self" : Str) = some .local
  val : scope.names.lookup fl = some .local
  sup : scope.names.lookup ("super" : Str) = some .globalImplicit
  cls : scope.names.lookup ("__class__" : Str) = some .free
  nocell : ∀ x ∈ scope.names, x.2 ≠ .cell
  free : ∀ x ∈ scope.names, x.2 = .free → x.1 = "__class__"
section
variable {P : Program} {w : World} {K : PySem.W.Frag} {mg : Str → Option Value} {base : Heap} {qual : Str} {scope : Scope} {f cc : Addr} {cd : Value}
theorem in_start_value {A : Around} {outer : List PySem.Env} {s : Shared} {H : Hp} {E : XK} {a : Addr} {y : V} {u : Value} {h₁ : Heap} {tk : Nat} {D : Addr} {cl : Value} {cld : Option Addr} {csl : Array (Option Value)} (S : InS "value" scope) (hd : A.handled = none) (e0 : Env0 P w K mg base A outer s H) (hcell : K.lookup cc = some ⟨cl, cld, .cell (some (.ref D)), csl⟩)
    (ru : L2.RelV y u) (hns : h₁.Ns s.heap.objs.size fun x => ([("self", Value.ref a), ("value", u)] : List (Str × Value)).reverse.lookup x) (kp : ∀ b o, s.heap.get? b = some o → h₁.get? b = some o) :
    L2.Inv (inCx "value" P w K mg base qual scope f cd cc A outer s H E) [] [some (.ref a), some y] H { s with heap := h₁, toks := tk } := by
  have noA : ∀ b : Addr, b ∉ (inCx "value" P w K mg base qual scope f cd cc A outer s H E).ex := fun b z => absurd (show b ∈ ([] : List Addr) from z) (by simp)
  have ecc : base.get? cc = some ⟨cl, cld, .cell (some (.ref D)), csl⟩ := e0.mod.kin _ _ hcell
  have cl1 : ∀ {x : Str} {c : Addr}, ([("__class__", cc)] : List (Str × Addr)).lookup x = some c → x = "__class__" ∧ c = cc := fun {x c} h => by
    rw [List.lookup_cons] at h
    split at h
    · rename_i hx
      exact ⟨by simpa using hx, (Option.some.inj h).symm⟩
    · cases h
  refine ⟨⟨e0.mod, S.kind, rfl, rfl, Nat.le_refl _, fun y z c h1 h2 => ((cl1 h1).1).trans ((cl1 h2).1).symm, fun y hy => ?_, fun y c z _ => ?_, fun _ => hd, Around.frames_deeper e0.frames, .inr ⟨rfl, rfl⟩, fun b z => absurd z (noA b), e0.bs, e0.bsz, fun b _ _ => noA b, fun b z => absurd z (noA b), e0.funs, e0.frf⟩,
    rfl, e0.bare, Un.kept kp, ⟨_, hns, fun i y v e1 e2 e3 => ?_⟩, fun y c e => ?_, e0.hok.fresh (Nat.le_refl _), fun y c e => ?_, fun q hq => absurd (show q ∈ ([] : List (Addr × Obj)) ++ [] from hq) (by simp), e0.hok.kept kp, rfl⟩
  · have hy : scope.names.lookup y = some .cell ∨ scope.names.lookup y = some .free := hy
    rcases hy with hy | hy
    · exact absurd rfl (S.nocell _ (PySem.mem_of_lookup hy))
    · have e := S.free _ (PySem.mem_of_lookup hy) rfl
      have e' : y = "__class__" := e
      subst e'
      exact ⟨cc, rfl⟩
  · have z : false = true := z
    cases z
  · match i, e1, e2 with
    | 0, e1, e2 =>
      cases e1
      cases e2
      exact ⟨.ref a, rfl, .inl ⟨S.self, rfl⟩⟩
    | 1, e1, e2 =>
      cases e1
      cases e2
      exact ⟨u, ru, .inl ⟨S.val, rfl⟩⟩
    | i + 2, e1, e2 => simp [inCx, inN] at e1
  · obtain ⟨_, rfl⟩ := cl1 e
    exact ⟨_, ⟨_, kp _ _ (e0.bs _ _ ecc).1, rfl⟩⟩
  · obtain ⟨_, rfl⟩ := cl1 e
    exact (e0.bs _ _ ecc).2
theorem in_start_most {A : Around} {outer : List PySem.Env} {s : Shared} {H : Hp} {E : XK} {a : Addr} {y : V} {u : Value} {h₁ : Heap} {tk : Nat} {D : Addr} {cl : Value} {cld : Option Addr} {csl : Array (Option Value)} (S : InS "most" scope) (hd : A.handled = none) (e0 : Env0 P w K mg base A outer s H) (hcell : K.lookup cc = some ⟨cl, cld, .cell (some (.ref D)), csl⟩)
    (ru : L2.RelV y u) (hns : h₁.Ns s.heap.objs.size fun x => ([("self", Value.ref a), ("most", u)] : List (Str × Value)).reverse.lookup x) (kp : ∀ b o, s.heap.get? b = some o → h₁.get? b = some o) :
    L2.Inv (inCx "most" P w K mg base qual scope f cd cc A outer s H E) [] [some (.ref a), some y] H { s with heap := h₁, toks := tk } := by
  have noA : ∀ b : Addr, b ∉ (inCx "most" P w K mg base qual scope f cd cc A outer s H E).ex := fun b z => absurd (show b ∈ ([] : List Addr) from z) (by simp)
  have ecc : base.get? cc = some ⟨cl, cld, .cell (some (.ref D)), csl⟩ := e0.mod.kin _ _ hcell
  have cl1 : ∀ {x : Str} {c : Addr}, ([("__class__", cc)] : List (Str × Addr)).lookup x = some c → x = "__class__" ∧ c = cc := fun {x c} h => by
    rw [List.lookup_cons] at h
    split at h
    · rename_i hx
      exact ⟨by simpa using hx, (Option.some.inj h).symm⟩
    · cases h
  refine ⟨⟨e0.mod, S.kind, rfl, rfl, Nat.le_refl _, fun y z c h1 h2 => ((cl1 h1).1).trans ((cl1 h2).1).symm, fun y hy => ?_, fun y c z _ => ?_, fun _ => hd, Around.frames_deeper e0.frames, .inr ⟨rfl, rfl⟩, fun b z => absurd z (noA b), e0.bs, e0.bsz, fun b _ _ => noA b, fun b z => absurd z (noA b), e0.funs, e0.frf⟩,
    rfl, e0.bare, Un.kept kp, ⟨_, hns, fun i y v e1 e2 e3 => ?_⟩, fun y c e => ?_, e0.hok.fresh (Nat.le_refl _), fun y c e => ?_, fun q hq => absurd (show q ∈ ([] : List (Addr × Obj)) ++ [] from hq) (by simp), e0.hok.kept kp, rfl⟩
  · have hy : scope.names.lookup y = some .cell ∨ scope.names.lookup y = some .free := hy
    rcases hy with hy | hy
    · exact absurd rfl (S.nocell _ (PySem.mem_of_lookup hy))
    · have e := S.free _ (PySem.mem_of_lookup hy) rfl
      have e' : y = "__class__" := e
      subst e'
      exact ⟨cc, rfl⟩
  · have z : false = true := z
    cases z
  · match i, e1, e2 with
    | 0, e1, e2 =>
      cases e1
      cases e2
      exact ⟨.ref a, rfl, .inl ⟨S.self, rfl⟩⟩
    | 1, e1, e2 =>
      cases e1
      cases e2
      exact ⟨u, ru, .inl ⟨S.val, rfl⟩⟩
    | i + 2, e1, e2 => simp [inCx, inN] at e1
  · obtain ⟨_, rfl⟩ := cl1 e
    exact ⟨_, ⟨_, kp _ _ (e0.bs _ _ ecc).1, rfl⟩⟩
  · obtain ⟨_, rfl⟩ := cl1 e
    exact (e0.bs _ _ ecc).2
theorem in_start_place {A : Around} {outer : List PySem.Env} {s : Shared} {H : Hp} {E : XK} {a : Addr} {y : V} {u : Value} {h₁ : Heap} {tk : Nat} {D : Addr} {cl : Value} {cld : Option Addr} {csl : Array (Option Value)} (S : InS "place" scope) (hd : A.handled = none) (e0 : Env0 P w K mg base A outer s H) (hcell : K.lookup cc = some ⟨cl, cld, .cell (some (.ref D)), csl⟩)
    (ru : L2.RelV y u) (hns : h₁.Ns s.heap.objs.size fun x => ([("self", Value.ref a), ("place", u)] : List (Str × Value)).reverse.lookup x) (kp : ∀ b o, s.heap.get? b = some o → h₁.get? b = some o) :
    L2.Inv (inCx "place" P w K mg base qual scope f cd cc A outer s H E) [] [some (.ref a), some y] H { s with heap := h₁, toks := tk } := by
  have noA : ∀ b : Addr, b ∉ (inCx "place" P w K mg base qual scope f cd cc A outer s H E).ex := fun b z => absurd (show b ∈ ([] : List Addr) from z) (by simp)
  have ecc : base.get? cc = some ⟨cl, cld, .cell (some (.ref D)), csl⟩ := e0.mod.kin _ _ hcell
  have cl1 : ∀ {x : Str} {c : Addr}, ([("__class__", cc)] : List (Str × Addr)).lookup x = some c → x = "__class__" ∧ c = cc := fun {x c} h => by
    rw [List.lookup_cons] at h
    split at h
    · rename_i hx
      exact ⟨by simpa using hx, (Option.some.inj h).symm⟩
    · cases h
  refine ⟨⟨e0.mod, S.kind, rfl, rfl, Nat.le_refl _, fun y z c h1 h2 => ((cl1 h1).1).trans ((cl1 h2).1).symm, fun y hy => ?_, fun y c z _ => ?_, fun _ => hd, Around.frames_deeper e0.frames, .inr ⟨rfl, rfl⟩, fun b z => absurd z (noA b), e0.bs, e0.bsz, fun b _ _ => noA b, fun b z => absurd z (noA b), e0.funs, e0.frf⟩,
    rfl, e0.bare, Un.kept kp, ⟨_, hns, fun i y v e1 e2 e3 => ?_⟩, fun y c e => ?_, e0.hok.fresh (Nat.le_refl _), fun y c e => ?_, fun q hq => absurd (show q ∈ ([] : List (Addr × Obj)) ++ [] from hq) (by simp), e0.hok.kept kp, rfl⟩
  · have hy : scope.names.lookup y = some .cell ∨ scope.names.lookup y = some .free := hy
    rcases hy with hy | hy
    · exact absurd rfl (S.nocell _ (PySem.mem_of_lookup hy))
    · have e := S.free _ (PySem.mem_of_lookup hy) rfl
      have e' : y = "__class__" := e
      subst e'
      exact ⟨cc, rfl⟩
  · have z : false = true := z
    cases z
  · match i, e1, e2 with
    | 0, e1, e2 =>
      cases e1
      cases e2
      exact ⟨.ref a, rfl, .inl ⟨S.self, rfl⟩⟩
    | 1, e1, e2 =>
      cases e1
      cases e2
      exact ⟨u, ru, .inl ⟨S.val, rfl⟩⟩
    | i + 2, e1, e2 => simp [inCx, inN] at e1
  · obtain ⟨_, rfl⟩ := cl1 e
    exact ⟨_, ⟨_, kp _ _ (e0.bs _ _ ecc).1, rfl⟩⟩
  · obtain ⟨_, rfl⟩ := cl1 e
    exact (e0.bs _ _ ecc).2
theorem in_start_path {A : Around} {outer : List PySem.Env} {s : Shared} {H : Hp} {E : XK} {a : Addr} {y : V} {u : Value} {h₁ : Heap} {tk : Nat} {D : Addr} {cl : Value} {cld : Option Addr} {csl : Array (Option Value)} (S : InS "path" scope) (hd : A.handled = none) (e0 : Env0 P w K mg base A outer s H) (hcell : K.lookup cc = some ⟨cl, cld, .cell (some (.ref D)), csl⟩)
    (ru : L2.RelV y u) (hns : h₁.Ns s.heap.objs.size fun x => ([("self", Value.ref a), ("path", u)] : List (Str × Value)).reverse.lookup x) (kp : ∀ b o, s.heap.get? b = some o → h₁.get? b = some o) :
    L2.Inv (inCx "path" P w K mg base qual scope f cd cc A outer s H E) [] [some (.ref a), some y] H { s with heap := h₁, toks := tk } := by
  have noA : ∀ b : Addr, b ∉ (inCx "path" P w K mg base qual scope f cd cc A outer s H E).ex := fun b z => absurd (show b ∈ ([] : List Addr) from z) (by simp)
  have ecc : base.get? cc = some ⟨cl, cld, .cell (some (.ref D)), csl⟩ := e0.mod.kin _ _ hcell
  have cl1 : ∀ {x : Str} {c : Addr}, ([("__class__", cc)] : List (Str × Addr)).lookup x = some c → x = "__class__" ∧ c = cc := fun {x c} h => by
    rw [List.lookup_cons] at h
    split at h
    · rename_i hx
      exact ⟨by simpa using hx, (Option.some.inj h).symm⟩
    · cases h
  refine ⟨⟨e0.mod, S.kind, rfl, rfl, Nat.le_refl _, fun y z c h1 h2 => ((cl1 h1).1).trans ((cl1 h2).1).symm, fun y hy => ?_, fun y c z _ => ?_, fun _ => hd, Around.frames_deeper e0.frames, .inr ⟨rfl, rfl⟩, fun b z => absurd z (noA b), e0.bs, e0.bsz, fun b _ _ => noA b, fun b z => absurd z (noA b), e0.funs, e0.frf⟩,
    rfl, e0.bare, Un.kept kp, ⟨_, hns, fun i y v e1 e2 e3 => ?_⟩, fun y c e => ?_, e0.hok.fresh (Nat.le_refl _), fun y c e => ?_, fun q hq => absurd (show q ∈ ([] : List (Addr × Obj)) ++ [] from hq) (by simp), e0.hok.kept kp, rfl⟩
  · have hy : scope.names.lookup y = some .cell ∨ scope.names.lookup y = some .free := hy
    rcases hy with hy | hy
    · exact absurd rfl (S.nocell _ (PySem.mem_of_lookup hy))
    · have e := S.free _ (PySem.mem_of_lookup hy) rfl
      have e' : y = "__class__" := e
      subst e'
      exact ⟨cc, rfl⟩
  · have z : false = true := z
    cases z
  · match i, e1, e2 with
    | 0, e1, e2 =>
      cases e1
      cases e2
      exact ⟨.ref a, rfl, .inl ⟨S.self, rfl⟩⟩
    | 1, e1, e2 =>
      cases e1
      cases e2
      exact ⟨u, ru, .inl ⟨S.val, rfl⟩⟩
    | i + 2, e1, e2 => simp [inCx, inN] at e1
  · obtain ⟨_, rfl⟩ := cl1 e
    exact ⟨_, ⟨_, kp _ _ (e0.bs _ _ ecc).1, rfl⟩⟩
  · obtain ⟨_, rfl⟩ := cl1 e
    exact (e0.bs _ _ ecc).2
/-- the built-in __init__, bound to the exception, called -/
theorem call_vi {prog : Program} {A : Around} {E : Value → Shared → Prop} {h : Heap} {g : Array GenState} {d : Drawn} {t : Nat} {os : OsState} {nm q : Str} {C N : Addr} {bs bm : List Value} {hdct : Bool} {sn : List Str} {sub : List Value} {ab : Bool} {col : Option Bool} {dd : Option Addr} {k0 k1 k2 k3 k5 : Option Value}
    {u e t0 : Addr} {rest : List Value} {Q : Value → Shared → Prop} (hC : h.get? C = some (excClassObj nm q C N bs bm hdct sn sub ab col dd k0 k1 k2 k3 k5 "ValueError.__new__")) (he : h.get? e = some (PySem.W.excObj C t0 none .none)) (hu : h.get? u = some (PySem.W.kxs_mw "ValueError.__init__" e)) (hrest : rest.length ≤ sizeLine)
    (hq : ∀ h' t1, (∀ b o, b ≠ e → h.get? b = some o → h'.get? b = some o) → h'.get? e = some (PySem.W.excObj C t1 none .none) → Q .none ⟨h', g, d, t, os⟩) :
    wpAny (model prog w) A (call (.ref u) rest) Q E ⟨h, g, d, t, os⟩ := by
  refine wpAny_call (codeAny_of_tree ?_)
  show wpAny _ A.in1 (callAny (.ref u) ⟨rest, []⟩) _ _ _
  simp only [callAny]
  refine wpAny_bind (wpAny_load hu ?_)
  have e1 : (Value.type "method-wrapper" == Value.type "method" || Value.type "method-wrapper" == Value.type "builtin_function_or_method" || Value.type "method-wrapper" == Value.type "method-wrapper") = true := by decide
  simp only [PySem.W.kxs_mw, e1, if_true]
  refine PySem.W.KFB.if_so (by decide) ?_
  refine wpAny_bind (PySem.W.check_bound_init F.excBase_ValueError.toExcCallFacts hC he rfl ?_)
  refine wpAny_bind (wpAny_pure (wpAny_pure ?_))
  refine ⟨plainId_quiet F.excBase_ValueError.init.plain _, codeAny_builtin F.excBase_ValueError.initEntry ?_⟩
  exact PySem.W.exc_init_tree (cls := .ref C) (t0 := t0) (dv := none) (c2 := .none) (c3 := .none) (b4 := .bool false) he hrest fun h' k e' _ => hq h' _ k e'
/-- what the written part says of such a class and its __init__ -/
structure SupI (fl : Str) (P : Program) (K : PySem.W.Frag) (mg : Str → Option Value) (C f : Addr) (qual : Str) (params : Arguments) (scope : Scope) (body : List Stmt) (fd : FuncData) : Prop where
  T : OexC K C
  S : InS fl scope
  par : ∃ ar : Arg, (params.posonlyargs ++ params.args).head? = some ar ∧ ar.arg = "self"
  fn : ∃ (oc : Value) (od : Option Addr) (osl : Array (Option Value)) (dV kV doc pm : Value) (an : Option Addr) (cda : Addr) (ct : Value) (cc : Addr), fd = PySem.W.ksFn "__init__" qual params body scope dV kV doc pm an (.ref cda) ct cc ∧ K.lookup f = some ⟨oc, od, .func fd, osl⟩ ∧ PySem.W.codeIn K (.ref cda) qual = true ∧
    (∃ (cl : Value) (cld : Option Addr) (csl : Array (Option Value)), K.lookup cc = some ⟨cl, cld, .cell (some (.ref C)), csl⟩) ∧ ∃ (ccl : Value) (cdd : Option Addr) (vs : Array Value) (ccs : Array (Option Value)) (file : Str) (tf : Tok), K.lookup cda = some ⟨ccl, cdd, .fields vs, ccs⟩ ∧ vs[2]? = some (.str file tf) ∧ ((P.main.file : Str) == file) = true
  sup : PySem.W.ks_superIn K C C "__init__" = some (some (.builtin "ValueError.__init__"))
  ve : PySem.W.subIn K (.ref C) (.type "ValueError") = some true
  me : PySem.W.mroIn K C (.ref C) = some true
  hno : PySem.W.findIn K (.ref C) fl = some none
  op : PySem.W.nsIn K cStatics "thirdparty.any" = some none
  glo : mg "super" = none
  top : (P.main.scope.names.lookup ("super" : Str)).isSome = false
/-- what such an __init__ does -/
def spInit (fl : Str) : Sp := fun vs H Q _ => ∃ (a C : Addr) (y : V), vs = [.ref a, y] ∧ H a = some (exo a C none) ∧ ∀ dx, H dx = none → dx ≠ a → Q .non (upd (upd H dx (exd dx [(fl, y)])) a (exo a C (some dx)))
def spInitC (fl : Str) (C : Addr) : Sp := fun vs H Q _ => ∃ (a : Addr) (y : V), vs = [.ref a, y] ∧ H a = some (exo a C none) ∧ ∀ dx, H dx = none → dx ≠ a → Q .non (upd (upd H dx (exd dx [(fl, y)])) a (exo a C (some dx)))
/-- the body's form -/
abbrev inBody (fl : Str) (m : Str) (j : Nat) (p0 p1 p2 p3 p4 p5 p6 p7 p8 p9 p10 : Pos) : List Stmt := [.Expr (.Call (.Attribute (.Call (.Name "super" p0) [] [] p1) "__init__" p2) [.Constant (.str m) j p3, .Name fl p4] [] p5) p6, .Assign [.Attribute (.Name "self" p7) fl p8] (.Name fl p9) p10]
theorem init_fn_value {C : Addr} {params : Arguments} {body : List Stmt} {fd : FuncData} {m : Str} {j : Nat} {p0 p1 p2 p3 p4 p5 p6 p7 p8 p9 p10 : Pos} {k : Nat} (F : SupI "value" P K mg C f qual params scope body fd) (hb0 : body = inBody "value" m j p0 p1 p2 p3 p4 p5 p6 p7 p8 p9 p10)
    (he : ∀ env : PySem.Env, ∃ pl, eval (.Call (.Attribute (.Call (.Name "super" p0) [] [] p1) "__init__" p2) [.Constant (.str m) j p3, .Name "value" p4] [] p5) env = (do
      let ov ← attributeBase (.Call (.Name "super" p0) [] [] p1) "__init__" env (eval (.Call (.Name "super" p0) [] [] p1) env)
      standAt p2.atName
      let (g, first) ← holding [ov] (getMethod ov "__init__" pl)
      callWith p5 g first (backTo p5 (starEach [.Constant (.str m) j p3, .Name "value" p4] env)) [])) : FnOk P w K mg base (L2.CX P w) (k + 1) f fd (inN "value") (spInitC "value" C) := by
  subst hb0
  obtain ⟨oc, od, osl, dV, kV, doc, pm, an, cda, ct, cc, rfl, lk, hcd, ⟨cl, cld, csl, lcc⟩, ccl, cdd, fvs, ccs, file, tf, lcd, hvs, hfile⟩ := F.fn
  obtain ⟨ar, hpar, har⟩ := F.par
  refine ⟨fun vs H Q E h => ?_, fun A outer s H args us vs Q E hr e0 hb r hsp => ?_⟩
  · obtain ⟨a, y, rfl, _⟩ := h
    rfl
  obtain ⟨a, y, rfl, ha, hq⟩ := hsp
  obtain ⟨_, u, rfl, rfl, ru⟩ : ∃ u0 u, us = [u0, u] ∧ u0 = Value.ref a ∧ L2.RelV y u := by
    cases r with
    | cons r1 r2 => cases r2 with
      | cons r3 r4 => cases r4; exact ⟨_, _, rfl, r1, r3⟩
  have KX : K.In s.heap := e0.mod.kin.keeps fun b o e => (e0.bs b o e).1
  have lim : s.heap.NoLimit := e0.mod.nolimit.keeps fun b o e => (e0.bs b o e).1
  obtain ⟨nm, cq, N', bs, bm, sn, sub, ab, col, dd, k0, k1, k2, k3, k5, hC, hbm⟩ := F.T.cls
  have S := F.S
  refine PySem.ks_codeAny_call_defAt hr.depth (KX _ _ lk) rfl lim (PySem.W.codeRec_of KX hcd) rfl hb S.nocell (fun x hx => ?_) (fun h₁ hns hk => ?_) S.co S.gen S.kind
  · have hx : x ∈ [(("self" : Str), Value.ref a), ("value", u)] := hx
    simp only [List.mem_cons, List.not_mem_nil, or_false] at hx
    rcases hx with rfl | rfl
    · exact S.self
    · exact S.val
  have I := in_start_value (qual := qual) (f := f) (cd := .ref cda) (E := E) (tk := s.toks + 2) S hr.hd e0 lcc ru hns hk
  have X1 := I.kIn
  show _root_.PySem.wpAt _ _ (.func _ (inEnv qual scope s.heap.objs.size f (.ref cda) cc)) (execs _ (inEnv qual scope s.heap.objs.size f (.ref cda) cc)) _ _ _
  show _root_.PySem.wpAt _ _ (.func _ (inEnv qual scope s.heap.objs.size f (.ref cda) cc)) (execs _ (inEnv qual scope s.heap.objs.size f (.ref cda) cc)) _ _ { heap := h₁, gens := s.gens, drawn := s.drawn, toks := s.toks + 2, os := s.os }
  generalize hS0 : ({ heap := h₁, gens := s.gens, drawn := s.drawn, toks := s.toks + 2, os := s.os } : Shared) = s0 at I ⊢
  obtain ⟨pl, hee⟩ := he (inEnv qual scope s.heap.objs.size f (.ref cda) cc)
  have hinter : interactive (inEnv qual scope s.heap.objs.size f (.ref cda) cc) = false := by
    unfold interactive
    rw [show (inEnv qual scope s.heap.objs.size f (.ref cda) cc).scope.kind = .function from S.kind]
    rfl
  have X0 : K.In s0.heap := I.kIn
  obtain ⟨mL, hnsL, hloc⟩ := I.loc
  refine PySem.ks_wpAt_execs_cons (PySem.ks_wpAt_Expr_any (PySem.ks_wpAt_MethodCall (pl := pl) ?_ hee) hinter)
  refine PySem.ks_wpAt_super_base S.sup S.cls (by decide) rfl (X0 _ _ lk) rfl hpar rfl (X0 _ _ lcd) rfl hvs hfile F.top ?_
  -- super, __class__, self
  obtain ⟨mb, hb1, hb2⟩ := I.mod.blt
  refine PySem.W.ks_loadName_global S.kind S.sup (Calls.loadGlobal_builtin (env := inEnv qual scope s.heap.objs.size f (.ref cda) cc) (I.mod.glob.keeps I.bk) F.glo (hb1.keeps I.bk) ((hb2 "super" (by decide)).trans (by decide +kernel : bootBuiltins "super" = some (.type "super"))) ⟨rfl, ?_⟩)
  refine wpAny_loadName_free S.kind S.cls rfl ⟨_, X0 _ _ lcc, rfl⟩ ?_
  have hself : mL "self" = some (.ref a) := by
    obtain ⟨u', ru', hl⟩ := hloc 0 "self" (.ref a) rfl rfl (.inl S.self)
    obtain rfl : u' = Value.ref a := ru'
    rcases hl with ⟨_, h⟩ | ⟨h, _⟩
    · exact h
    · rcases h with h | h
      · rw [show (inCx "value" P w K mg base qual scope f (.ref cda) cc A outer s H E).env.kindOf "self" = some .local from S.self] at h; cases h
      · rw [show (inCx "value" P w K mg base qual scope f (.ref cda) cc A outer s H E).env.kindOf "self" = some .local from S.self] at h; cases h
  rw [har]
  refine wpAny_loadName_local S.kind S.self hnsL hself ?_
  have hcl : PySem.W.clsIn K C = some { name := nm, bases := bs, mro := .ref C :: bm, ns := N', qualname := cq, hasDict := true, slotNames := sn, subclasses := sub, abstract := ab, collection := col, hasDel := false } := by unfold PySem.W.clsIn; rw [hC] <;> rfl
  refine PySem.ks_wpAny_isType_cls (X0 _ _ hC) rfl ⟨rfl, ?_⟩
  obtain ⟨t1, ho⟩ := exo_at I.hok ha
  obtain ⟨hp, g, d, t, os⟩ := s0
  refine PySem.ks_wpAny_call_super (X0 _ _ hC) rfl ho rfl (fun c e => nomatch e) (PySem.W.looks_mroIn X0 F.me) (fun h2 e2 k2 => ?_)
  have I2 := I.kept (t' := t) k2
  have J2 : PySem.W.InstAt h2 a { cls := .ref C, dict := none, data := .fields #[.ref t1, .none, .none, .none, .bool false, .none] } C none := ⟨k2 _ _ ho, rfl, rfl, trivial⟩
  have X2 : K.In h2 := I2.kIn
  have hsup : PySem.W.alongIn K "__init__" (((Value.ref C :: bm).dropWhile (· != .ref C)).drop 1) = some (some (.builtin "ValueError.__init__")) := by
    have := F.sup
    unfold PySem.W.ks_superIn at this
    rw [hcl] at this
    exact this
  refine PySem.W.kxs_getMethod PySem.W.kxs_ValueError e2 (PySem.W.looks_opaque X2 F.op) (l₀ := .ref C :: bm) (fun A Q E s k q => wpAny_bind ((PySem.W.looks_clsIn X2 hcl) A _ E s k (wpAny_pure q))) rfl X2 hsup
    (J2.type.andThen (PySem.W.looks_subIn X2 F.ve)) (PySem.W.ks_ne X2 J2 hcl) (by decide) ?_
  -- the bound __init__ at u0
  have hu0 : (h2.push (PySem.W.kxs_mw "ValueError.__init__" a)).get? h2.objs.size = some (PySem.W.kxs_mw "ValueError.__init__" a) := Heap.get?_push_size _ rfl
  have I3 := I2.kept (t' := t + 1) (h' := h2.push (PySem.W.kxs_mw "ValueError.__init__" a)) (fun b o e => Heap.get?_push_of_some _ e)
  obtain ⟨f0, f1, f2, f3, f4, f5⟩ := I2.fpOk (b := h2.objs.size) (Nat.le_refl _) (I2.hok.fresh (Nat.le_refl _))
  have I4 : L2.Inv (inCx "value" P w K mg base qual scope f (.ref cda) cc A outer s H E) [(h2.objs.size, PySem.W.kxs_mw "ValueError.__init__" a)] [some (.ref a), some y] H _ := I3.pins_of fun p hpp => by
    have hpp : p = (h2.objs.size, PySem.W.kxs_mw "ValueError.__init__" a) := by simpa using hpp
    subst hpp
    exact ⟨hu0, f0, f1, f2, fun v z => nomatch z⟩
  have ha' : PA (inCx "value" P w K mg base qual scope f (.ref cda) cc A outer s H E) [.Constant (.str m) j p3, .Name "value" p4] (tCons (tC (.str m)) (tCons (tVar 1) tNil)) := pa_cons pe_str (pa_cons (pe_var (i := 1) rfl (.inl S.val)) pa_nil)
  refine PySem.W.kxs_callWith (i := "ValueError.__init__") (x := a) (by rfl) (Calls.evalArgs_plain (thn (ha'.run p5 _ _ _ H (fun vs H' => vs = [.str m, y] ∧ H = H') I4 ⟨y, rfl, rfl, rfl⟩) fun us s5 ⟨vs, H5, I5, r5, ev, eH⟩ => ?_))
  subst ev
  subst eH
  have hu5 : s5.heap.get? h2.objs.size = some (PySem.W.kxs_mw "ValueError.__init__" a) := (I5.pin (h2.objs.size, PySem.W.kxs_mw "ValueError.__init__" a) (List.mem_append_right _ List.mem_cons_self)).1
  refine ⟨hu5, ?_⟩
  obtain ⟨t5, ho5⟩ := exo_at I5.hok ha
  have hl5 : us.length ≤ sizeLine := by
    have := r5.length
    rw [sizeLine_eq]
    simp at this
    omega
  obtain ⟨h5, g5, d5, t5', os5⟩ := s5
  refine call_vi (I5.kIn _ _ hC) ho5 hu5 hl5 fun h6 t6 k6 e6 => ?_
  have J6 := I5.write (t' := t5') (x := a) (e := a) (o := exo a C none) (by rw [ha]; exact True.intro) (.inl rfl) k6 ⟨_, e6⟩ (exo_ok e6)
  have eu : upd H a (exo a C none) = H := by
    funext b
    by_cases hbb : b = a
    · rw [hbb, upd_same, ha]
    · rw [upd_ne hbb]
  rw [eu] at J6
  have I6 : L2.Inv (inCx "value" P w K mg base qual scope f (.ref cda) cc A outer s H E) [] [some (.ref a), some y] H _ := J6.pins_of fun p hpp => absurd hpp (by simp)
  have hst : PSs (inCx "value" P w K mg base qual scope f (.ref cda) cc A outer s H E) [.Assign [.Attribute (.Name "self" p7) "value" p8] (.Name "value" p9) p10] _ := pss_one (ps_ost (pe_var (i := 0) (pos := p7) rfl (.inl S.self)) (pe_var (i := 1) (pos := p9) rfl (.inl S.val)))
  refine wpAt_of_wpAny (wpAny_mono (hst.run [] _ _ H { nx := fun _ H' => Q .non H', rt := Q } I6 ⟨y, rfl, .ref a, rfl, a, C, rfl, F.T, F.hno, .inl ⟨ha, fun dx h1 h2 => hq dx h1 h2⟩⟩) (fun flw s' hs => ?_) fun e s' hs => hs)
  cases flw with
  | ret u =>
    obtain ⟨v, σ', H', J, rv, q⟩ := hs
    exact ⟨v, H', J.os, J.bare, J.base, J.hok, rv, q⟩
  | next =>
    obtain ⟨σ', H', J, q⟩ := hs
    exact ⟨.non, H', J.os, J.bare, J.base, J.hok, rfl, q⟩
  | brk =>
    obtain ⟨_, _, _, q⟩ := hs
    exact False.elim q
  | cont =>
    obtain ⟨_, _, _, q⟩ := hs
    exact False.elim q
theorem init_fn_most {C : Addr} {params : Arguments} {body : List Stmt} {fd : FuncData} {m : Str} {j : Nat} {p0 p1 p2 p3 p4 p5 p6 p7 p8 p9 p10 : Pos} {k : Nat} (F : SupI "most" P K mg C f qual params scope body fd) (hb0 : body = inBody "most" m j p0 p1 p2 p3 p4 p5 p6 p7 p8 p9 p10)
    (he : ∀ env : PySem.Env, ∃ pl, eval (.Call (.Attribute (.Call (.Name "super" p0) [] [] p1) "__init__" p2) [.Constant (.str m) j p3, .Name "most" p4] [] p5) env = (do
      let ov ← attributeBase (.Call (.Name "super" p0) [] [] p1) "__init__" env (eval (.Call (.Name "super" p0) [] [] p1) env)
      standAt p2.atName
      let (g, first) ← holding [ov] (getMethod ov "__init__" pl)
      callWith p5 g first (backTo p5 (starEach [.Constant (.str m) j p3, .Name "most" p4] env)) [])) : FnOk P w K mg base (L2.CX P w) (k + 1) f fd (inN "most") (spInitC "most" C) := by
  subst hb0
  obtain ⟨oc, od, osl, dV, kV, doc, pm, an, cda, ct, cc, rfl, lk, hcd, ⟨cl, cld, csl, lcc⟩, ccl, cdd, fvs, ccs, file, tf, lcd, hvs, hfile⟩ := F.fn
  obtain ⟨ar, hpar, har⟩ := F.par
  refine ⟨fun vs H Q E h => ?_, fun A outer s H args us vs Q E hr e0 hb r hsp => ?_⟩
  · obtain ⟨a, y, rfl, _⟩ := h
    rfl
  obtain ⟨a, y, rfl, ha, hq⟩ := hsp
  obtain ⟨_, u, rfl, rfl, ru⟩ : ∃ u0 u, us = [u0, u] ∧ u0 = Value.ref a ∧ L2.RelV y u := by
    cases r with
    | cons r1 r2 => cases r2 with
      | cons r3 r4 => cases r4; exact ⟨_, _, rfl, r1, r3⟩
  have KX : K.In s.heap := e0.mod.kin.keeps fun b o e => (e0.bs b o e).1
  have lim : s.heap.NoLimit := e0.mod.nolimit.keeps fun b o e => (e0.bs b o e).1
  obtain ⟨nm, cq, N', bs, bm, sn, sub, ab, col, dd, k0, k1, k2, k3, k5, hC, hbm⟩ := F.T.cls
  have S := F.S
  refine PySem.ks_codeAny_call_defAt hr.depth (KX _ _ lk) rfl lim (PySem.W.codeRec_of KX hcd) rfl hb S.nocell (fun x hx => ?_) (fun h₁ hns hk => ?_) S.co S.gen S.kind
  · have hx : x ∈ [(("self" : Str), Value.ref a), ("most", u)] := hx
    simp only [List.mem_cons, List.not_mem_nil, or_false] at hx
    rcases hx with rfl | rfl
    · exact S.self
    · exact S.val
  have I := in_start_most (qual := qual) (f := f) (cd := .ref cda) (E := E) (tk := s.toks + 2) S hr.hd e0 lcc ru hns hk
  have X1 := I.kIn
  show _root_.PySem.wpAt _ _ (.func _ (inEnv qual scope s.heap.objs.size f (.ref cda) cc)) (execs _ (inEnv qual scope s.heap.objs.size f (.ref cda) cc)) _ _ _
  show _root_.PySem.wpAt _ _ (.func _ (inEnv qual scope s.heap.objs.size f (.ref cda) cc)) (execs _ (inEnv qual scope s.heap.objs.size f (.ref cda) cc)) _ _ { heap := h₁, gens := s.gens, drawn := s.drawn, toks := s.toks + 2, os := s.os }
  generalize hS0 : ({ heap := h₁, gens := s.gens, drawn := s.drawn, toks := s.toks + 2, os := s.os } : Shared) = s0 at I ⊢
  obtain ⟨pl, hee⟩ := he (inEnv qual scope s.heap.objs.size f (.ref cda) cc)
  have hinter : interactive (inEnv qual scope s.heap.objs.size f (.ref cda) cc) = false := by
    unfold interactive
    rw [show (inEnv qual scope s.heap.objs.size f (.ref cda) cc).scope.kind = .function from S.kind]
    rfl
  have X0 : K.In s0.heap := I.kIn
  obtain ⟨mL, hnsL, hloc⟩ := I.loc
  refine PySem.ks_wpAt_execs_cons (PySem.ks_wpAt_Expr_any (PySem.ks_wpAt_MethodCall (pl := pl) ?_ hee) hinter)
  refine PySem.ks_wpAt_super_base S.sup S.cls (by decide) rfl (X0 _ _ lk) rfl hpar rfl (X0 _ _ lcd) rfl hvs hfile F.top ?_
  -- super, __class__, self
  obtain ⟨mb, hb1, hb2⟩ := I.mod.blt
  refine PySem.W.ks_loadName_global S.kind S.sup (Calls.loadGlobal_builtin (env := inEnv qual scope s.heap.objs.size f (.ref cda) cc) (I.mod.glob.keeps I.bk) F.glo (hb1.keeps I.bk) ((hb2 "super" (by decide)).trans (by decide +kernel : bootBuiltins "super" = some (.type "super"))) ⟨rfl, ?_⟩)
  refine wpAny_loadName_free S.kind S.cls rfl ⟨_, X0 _ _ lcc, rfl⟩ ?_
  have hself : mL "self" = some (.ref a) := by
    obtain ⟨u', ru', hl⟩ := hloc 0 "self" (.ref a) rfl rfl (.inl S.self)
    obtain rfl : u' = Value.ref a := ru'
    rcases hl with ⟨_, h⟩ | ⟨h, _⟩
    · exact h
    · rcases h with h | h
      · rw [show (inCx "most" P w K mg base qual scope f (.ref cda) cc A outer s H E).env.kindOf "self" = some .local from S.self] at h; cases h
      · rw [show (inCx "most" P w K mg base qual scope f (.ref cda) cc A outer s H E).env.kindOf "self" = some .local from S.self] at h; cases h
  rw [har]
  refine wpAny_loadName_local S.kind S.self hnsL hself ?_
  have hcl : PySem.W.clsIn K C = some { name := nm, bases := bs, mro := .ref C :: bm, ns := N', qualname := cq, hasDict := true, slotNames := sn, subclasses := sub, abstract := ab, collection := col, hasDel := false } := by unfold PySem.W.clsIn; rw [hC] <;> rfl
  refine PySem.ks_wpAny_isType_cls (X0 _ _ hC) rfl ⟨rfl, ?_⟩
  obtain ⟨t1, ho⟩ := exo_at I.hok ha
  obtain ⟨hp, g, d, t, os⟩ := s0
  refine PySem.ks_wpAny_call_super (X0 _ _ hC) rfl ho rfl (fun c e => nomatch e) (PySem.W.looks_mroIn X0 F.me) (fun h2 e2 k2 => ?_)
  have I2 := I.kept (t' := t) k2
  have J2 : PySem.W.InstAt h2 a { cls := .ref C, dict := none, data := .fields #[.ref t1, .none, .none, .none, .bool false, .none] } C none := ⟨k2 _ _ ho, rfl, rfl, trivial⟩
  have X2 : K.In h2 := I2.kIn
  have hsup : PySem.W.alongIn K "__init__" (((Value.ref C :: bm).dropWhile (· != .ref C)).drop 1) = some (some (.builtin "ValueError.__init__")) := by
    have := F.sup
    unfold PySem.W.ks_superIn at this
    rw [hcl] at this
    exact this
  refine PySem.W.kxs_getMethod PySem.W.kxs_ValueError e2 (PySem.W.looks_opaque X2 F.op) (l₀ := .ref C :: bm) (fun A Q E s k q => wpAny_bind ((PySem.W.looks_clsIn X2 hcl) A _ E s k (wpAny_pure q))) rfl X2 hsup
    (J2.type.andThen (PySem.W.looks_subIn X2 F.ve)) (PySem.W.ks_ne X2 J2 hcl) (by decide) ?_
  -- the bound __init__ at u0
  have hu0 : (h2.push (PySem.W.kxs_mw "ValueError.__init__" a)).get? h2.objs.size = some (PySem.W.kxs_mw "ValueError.__init__" a) := Heap.get?_push_size _ rfl
  have I3 := I2.kept (t' := t + 1) (h' := h2.push (PySem.W.kxs_mw "ValueError.__init__" a)) (fun b o e => Heap.get?_push_of_some _ e)
  obtain ⟨f0, f1, f2, f3, f4, f5⟩ := I2.fpOk (b := h2.objs.size) (Nat.le_refl _) (I2.hok.fresh (Nat.le_refl _))
  have I4 : L2.Inv (inCx "most" P w K mg base qual scope f (.ref cda) cc A outer s H E) [(h2.objs.size, PySem.W.kxs_mw "ValueError.__init__" a)] [some (.ref a), some y] H _ := I3.pins_of fun p hpp => by
    have hpp : p = (h2.objs.size, PySem.W.kxs_mw "ValueError.__init__" a) := by simpa using hpp
    subst hpp
    exact ⟨hu0, f0, f1, f2, fun v z => nomatch z⟩
  have ha' : PA (inCx "most" P w K mg base qual scope f (.ref cda) cc A outer s H E) [.Constant (.str m) j p3, .Name "most" p4] (tCons (tC (.str m)) (tCons (tVar 1) tNil)) := pa_cons pe_str (pa_cons (pe_var (i := 1) rfl (.inl S.val)) pa_nil)
  refine PySem.W.kxs_callWith (i := "ValueError.__init__") (x := a) (by rfl) (Calls.evalArgs_plain (thn (ha'.run p5 _ _ _ H (fun vs H' => vs = [.str m, y] ∧ H = H') I4 ⟨y, rfl, rfl, rfl⟩) fun us s5 ⟨vs, H5, I5, r5, ev, eH⟩ => ?_))
  subst ev
  subst eH
  have hu5 : s5.heap.get? h2.objs.size = some (PySem.W.kxs_mw "ValueError.__init__" a) := (I5.pin (h2.objs.size, PySem.W.kxs_mw "ValueError.__init__" a) (List.mem_append_right _ List.mem_cons_self)).1
  refine ⟨hu5, ?_⟩
  obtain ⟨t5, ho5⟩ := exo_at I5.hok ha
  have hl5 : us.length ≤ sizeLine := by
    have := r5.length
    rw [sizeLine_eq]
    simp at this
    omega
  obtain ⟨h5, g5, d5, t5', os5⟩ := s5
  refine call_vi (I5.kIn _ _ hC) ho5 hu5 hl5 fun h6 t6 k6 e6 => ?_
  have J6 := I5.write (t' := t5') (x := a) (e := a) (o := exo a C none) (by rw [ha]; exact True.intro) (.inl rfl) k6 ⟨_, e6⟩ (exo_ok e6)
  have eu : upd H a (exo a C none) = H := by
    funext b
    by_cases hbb : b = a
    · rw [hbb, upd_same, ha]
    · rw [upd_ne hbb]
  rw [eu] at J6
  have I6 : L2.Inv (inCx "most" P w K mg base qual scope f (.ref cda) cc A outer s H E) [] [some (.ref a), some y] H _ := J6.pins_of fun p hpp => absurd hpp (by simp)
  have hst : PSs (inCx "most" P w K mg base qual scope f (.ref cda) cc A outer s H E) [.Assign [.Attribute (.Name "self" p7) "most" p8] (.Name "most" p9) p10] _ := pss_one (ps_ost (pe_var (i := 0) (pos := p7) rfl (.inl S.self)) (pe_var (i := 1) (pos := p9) rfl (.inl S.val)))
  refine wpAt_of_wpAny (wpAny_mono (hst.run [] _ _ H { nx := fun _ H' => Q .non H', rt := Q } I6 ⟨y, rfl, .ref a, rfl, a, C, rfl, F.T, F.hno, .inl ⟨ha, fun dx h1 h2 => hq dx h1 h2⟩⟩) (fun flw s' hs => ?_) fun e s' hs => hs)
  cases flw with
  | ret u =>
    obtain ⟨v, σ', H', J, rv, q⟩ := hs
    exact ⟨v, H', J.os, J.bare, J.base, J.hok, rv, q⟩
  | next =>
    obtain ⟨σ', H', J, q⟩ := hs
    exact ⟨.non, H', J.os, J.bare, J.base, J.hok, rfl, q⟩
  | brk =>
    obtain ⟨_, _, _, q⟩ := hs
    exact False.elim q
  | cont =>
    obtain ⟨_, _, _, q⟩ := hs
    exact False.elim q
theorem init_fn_place {C : Addr} {params : Arguments} {body : List Stmt} {fd : FuncData} {m : Str} {j : Nat} {p0 p1 p2 p3 p4 p5 p6 p7 p8 p9 p10 : Pos} {k : Nat} (F : SupI "place" P K mg C f qual params scope body fd) (hb0 : body = inBody "place" m j p0 p1 p2 p3 p4 p5 p6 p7 p8 p9 p10)
    (he : ∀ env : PySem.Env, ∃ pl, eval (.Call (.Attribute (.Call (.Name "super" p0) [] [] p1) "__init__" p2) [.Constant (.str m) j p3, .Name "place" p4] [] p5) env = (do
      let ov ← attributeBase (.Call (.Name "super" p0) [] [] p1) "__init__" env (eval (.Call (.Name "super" p0) [] [] p1) env)
      standAt p2.atName
      let (g, first) ← holding [ov] (getMethod ov "__init__" pl)
      callWith p5 g first (backTo p5 (starEach [.Constant (.str m) j p3, .Name "place" p4] env)) [])) : FnOk P w K mg base (L2.CX P w) (k + 1) f fd (inN "place") (spInitC "place" C) := by
  subst hb0
  obtain ⟨oc, od, osl, dV, kV, doc, pm, an, cda, ct, cc, rfl, lk, hcd, ⟨cl, cld, csl, lcc⟩, ccl, cdd, fvs, ccs, file, tf, lcd, hvs, hfile⟩ := F.fn
  obtain ⟨ar, hpar, har⟩ := F.par
  refine ⟨fun vs H Q E h => ?_, fun A outer s H args us vs Q E hr e0 hb r hsp => ?_⟩
  · obtain ⟨a, y, rfl, _⟩ := h
    rfl
  obtain ⟨a, y, rfl, ha, hq⟩ := hsp
  obtain ⟨_, u, rfl, rfl, ru⟩ : ∃ u0 u, us = [u0, u] ∧ u0 = Value.ref a ∧ L2.RelV y u := by
    cases r with
    | cons r1 r2 => cases r2 with
      | cons r3 r4 => cases r4; exact ⟨_, _, rfl, r1, r3⟩
  have KX : K.In s.heap := e0.mod.kin.keeps fun b o e => (e0.bs b o e).1
  have lim : s.heap.NoLimit := e0.mod.nolimit.keeps fun b o e => (e0.bs b o e).1
  obtain ⟨nm, cq, N', bs, bm, sn, sub, ab, col, dd, k0, k1, k2, k3, k5, hC, hbm⟩ := F.T.cls
  have S := F.S
  refine PySem.ks_codeAny_call_defAt hr.depth (KX _ _ lk) rfl lim (PySem.W.codeRec_of KX hcd) rfl hb S.nocell (fun x hx => ?_) (fun h₁ hns hk => ?_) S.co S.gen S.kind
  · have hx : x ∈ [(("self" : Str), Value.ref a), ("place", u)] := hx
    simp only [List.mem_cons, List.not_mem_nil, or_false] at hx
    rcases hx with rfl | rfl
    · exact S.self
    · exact S.val
  have I := in_start_place (qual := qual) (f := f) (cd := .ref cda) (E := E) (tk := s.toks + 2) S hr.hd e0 lcc ru hns hk
  have X1 := I.kIn
  show _root_.PySem.wpAt _ _ (.func _ (inEnv qual scope s.heap.objs.size f (.ref cda) cc)) (execs _ (inEnv qual scope s.heap.objs.size f (.ref cda) cc)) _ _ _
  show _root_.PySem.wpAt _ _ (.func _ (inEnv qual scope s.heap.objs.size f (.ref cda) cc)) (execs _ (inEnv qual scope s.heap.objs.size f (.ref cda) cc)) _ _ { heap := h₁, gens := s.gens, drawn := s.drawn, toks := s.toks + 2, os := s.os }
  generalize hS0 : ({ heap := h₁, gens := s.gens, drawn := s.drawn, toks := s.toks + 2, os := s.os } : Shared) = s0 at I ⊢
  obtain ⟨pl, hee⟩ := he (inEnv qual scope s.heap.objs.size f (.ref cda) cc)
  have hinter : interactive (inEnv qual scope s.heap.objs.size f (.ref cda) cc) = false := by
    unfold interactive
    rw [show (inEnv qual scope s.heap.objs.size f (.ref cda) cc).scope.kind = .function from S.kind]
    rfl
  have X0 : K.In s0.heap := I.kIn
  obtain ⟨mL, hnsL, hloc⟩ := I.loc
  refine PySem.ks_wpAt_execs_cons (PySem.ks_wpAt_Expr_any (PySem.ks_wpAt_MethodCall (pl := pl) ?_ hee) hinter)
  refine PySem.ks_wpAt_super_base S.sup S.cls (by decide) rfl (X0 _ _ lk) rfl hpar rfl (X0 _ _ lcd) rfl hvs hfile F.top ?_
  -- super, __class__, self
  obtain ⟨mb, hb1, hb2⟩ := I.mod.blt
  refine PySem.W.ks_loadName_global S.kind S.sup (Calls.loadGlobal_builtin (env := inEnv qual scope s.heap.objs.size f (.ref cda) cc) (I.mod.glob.keeps I.bk) F.glo (hb1.keeps I.bk) ((hb2 "super" (by decide)).trans (by decide +kernel : bootBuiltins "super" = some (.type "super"))) ⟨rfl, ?_⟩)
  refine wpAny_loadName_free S.kind S.cls rfl ⟨_, X0 _ _ lcc, rfl⟩ ?_
  have hself : mL "self" = some (.ref a) := by
    obtain ⟨u', ru', hl⟩ := hloc 0 "self" (.ref a) rfl rfl (.inl S.self)
    obtain rfl : u' = Value.ref a := ru'
    rcases hl with ⟨_, h⟩ | ⟨h, _⟩
    · exact h
    · rcases h with h | h
      · rw [show (inCx "place" P w K mg base qual scope f (.ref cda) cc A outer s H E).env.kindOf "self" = some .local from S.self] at h; cases h
      · rw [show (inCx "place" P w K mg base qual scope f (.ref cda) cc A outer s H E).env.kindOf "self" = some .local from S.self] at h; cases h
  rw [har]
  refine wpAny_loadName_local S.kind S.self hnsL hself ?_
  have hcl : PySem.W.clsIn K C = some { name := nm, bases := bs, mro := .ref C :: bm, ns := N', qualname := cq, hasDict := true, slotNames := sn, subclasses := sub, abstract := ab, collection := col, hasDel := false } := by unfold PySem.W.clsIn; rw [hC] <;> rfl
  refine PySem.ks_wpAny_isType_cls (X0 _ _ hC) rfl ⟨rfl, ?_⟩
  obtain ⟨t1, ho⟩ := exo_at I.hok ha
  obtain ⟨hp, g, d, t, os⟩ := s0
  refine PySem.ks_wpAny_call_super (X0 _ _ hC) rfl ho rfl (fun c e => nomatch e) (PySem.W.looks_mroIn X0 F.me) (fun h2 e2 k2 => ?_)
  have I2 := I.kept (t' := t) k2
  have J2 : PySem.W.InstAt h2 a { cls := .ref C, dict := none, data := .fields #[.ref t1, .none, .none, .none, .bool false, .none] } C none := ⟨k2 _ _ ho, rfl, rfl, trivial⟩
  have X2 : K.In h2 := I2.kIn
  have hsup : PySem.W.alongIn K "__init__" (((Value.ref C :: bm).dropWhile (· != .ref C)).drop 1) = some (some (.builtin "ValueError.__init__")) := by
    have := F.sup
    unfold PySem.W.ks_superIn at this
    rw [hcl] at this
    exact this
  refine PySem.W.kxs_getMethod PySem.W.kxs_ValueError e2 (PySem.W.looks_opaque X2 F.op) (l₀ := .ref C :: bm) (fun A Q E s k q => wpAny_bind ((PySem.W.looks_clsIn X2 hcl) A _ E s k (wpAny_pure q))) rfl X2 hsup
    (J2.type.andThen (PySem.W.looks_subIn X2 F.ve)) (PySem.W.ks_ne X2 J2 hcl) (by decide) ?_
  -- the bound __init__ at u0
  have hu0 : (h2.push (PySem.W.kxs_mw "ValueError.__init__" a)).get? h2.objs.size = some (PySem.W.kxs_mw "ValueError.__init__" a) := Heap.get?_push_size _ rfl
  have I3 := I2.kept (t' := t + 1) (h' := h2.push (PySem.W.kxs_mw "ValueError.__init__" a)) (fun b o e => Heap.get?_push_of_some _ e)
  obtain ⟨f0, f1, f2, f3, f4, f5⟩ := I2.fpOk (b := h2.objs.size) (Nat.le_refl _) (I2.hok.fresh (Nat.le_refl _))
  have I4 : L2.Inv (inCx "place" P w K mg base qual scope f (.ref cda) cc A outer s H E) [(h2.objs.size, PySem.W.kxs_mw "ValueError.__init__" a)] [some (.ref a), some y] H _ := I3.pins_of fun p hpp => by
    have hpp : p = (h2.objs.size, PySem.W.kxs_mw "ValueError.__init__" a) := by simpa using hpp
    subst hpp
    exact ⟨hu0, f0, f1, f2, fun v z => nomatch z⟩
  have ha' : PA (inCx "place" P w K mg base qual scope f (.ref cda) cc A outer s H E) [.Constant (.str m) j p3, .Name "place" p4] (tCons (tC (.str m)) (tCons (tVar 1) tNil)) := pa_cons pe_str (pa_cons (pe_var (i := 1) rfl (.inl S.val)) pa_nil)
  refine PySem.W.kxs_callWith (i := "ValueError.__init__") (x := a) (by rfl) (Calls.evalArgs_plain (thn (ha'.run p5 _ _ _ H (fun vs H' => vs = [.str m, y] ∧ H = H') I4 ⟨y, rfl, rfl, rfl⟩) fun us s5 ⟨vs, H5, I5, r5, ev, eH⟩ => ?_))
  subst ev
  subst eH
  have hu5 : s5.heap.get? h2.objs.size = some (PySem.W.kxs_mw "ValueError.__init__" a) := (I5.pin (h2.objs.size, PySem.W.kxs_mw "ValueError.__init__" a) (List.mem_append_right _ List.mem_cons_self)).1
  refine ⟨hu5, ?_⟩
  obtain ⟨t5, ho5⟩ := exo_at I5.hok ha
  have hl5 : us.length ≤ sizeLine := by
    have := r5.length
    rw [sizeLine_eq]
    simp at this
    omega
  obtain ⟨h5, g5, d5, t5', os5⟩ := s5
  refine call_vi (I5.kIn _ _ hC) ho5 hu5 hl5 fun h6 t6 k6 e6 => ?_
  have J6 := I5.write (t' := t5') (x := a) (e := a) (o := exo a C none) (by rw [ha]; exact True.intro) (.inl rfl) k6 ⟨_, e6⟩ (exo_ok e6)
  have eu : upd H a (exo a C none) = H := by
    funext b
    by_cases hbb : b = a
    · rw [hbb, upd_same, ha]
    · rw [upd_ne hbb]
  rw [eu] at J6
  have I6 : L2.Inv (inCx "place" P w K mg base qual scope f (.ref cda) cc A outer s H E) [] [some (.ref a), some y] H _ := J6.pins_of fun p hpp => absurd hpp (by simp)
  have hst : PSs (inCx "place" P w K mg base qual scope f (.ref cda) cc A outer s H E) [.Assign [.Attribute (.Name "self" p7) "place" p8] (.Name "place" p9) p10] _ := pss_one (ps_ost (pe_var (i := 0) (pos := p7) rfl (.inl S.self)) (pe_var (i := 1) (pos := p9) rfl (.inl S.val)))
  refine wpAt_of_wpAny (wpAny_mono (hst.run [] _ _ H { nx := fun _ H' => Q .non H', rt := Q } I6 ⟨y, rfl, .ref a, rfl, a, C, rfl, F.T, F.hno, .inl ⟨ha, fun dx h1 h2 => hq dx h1 h2⟩⟩) (fun flw s' hs => ?_) fun e s' hs => hs)
  cases flw with
  | ret u =>
    obtain ⟨v, σ', H', J, rv, q⟩ := hs
    exact ⟨v, H', J.os, J.bare, J.base, J.hok, rv, q⟩
  | next =>
    obtain ⟨σ', H', J, q⟩ := hs
    exact ⟨.non, H', J.os, J.bare, J.base, J.hok, rfl, q⟩
  | brk =>
    obtain ⟨_, _, _, q⟩ := hs
    exact False.elim q
  | cont =>
    obtain ⟨_, _, _, q⟩ := hs
    exact False.elim q
theorem init_fn_path {C : Addr} {params : Arguments} {body : List Stmt} {fd : FuncData} {m : Str} {j : Nat} {p0 p1 p2 p3 p4 p5 p6 p7 p8 p9 p10 : Pos} {k : Nat} (F : SupI "path" P K mg C f qual params scope body fd) (hb0 : body = inBody "path" m j p0 p1 p2 p3 p4 p5 p6 p7 p8 p9 p10)
    (he : ∀ env : PySem.Env, ∃ pl, eval (.Call (.Attribute (.Call (.Name "super" p0) [] [] p1) "__init__" p2) [.Constant (.str m) j p3, .Name "path" p4] [] p5) env = (do
      let ov ← attributeBase (.Call (.Name "super" p0) [] [] p1) "__init__" env (eval (.Call (.Name "super" p0) [] [] p1) env)
      standAt p2.atName
      let (g, first) ← holding [ov] (getMethod ov "__init__" pl)
      callWith p5 g first (backTo p5 (starEach [.Constant (.str m) j p3, .Name "path" p4] env)) [])) : FnOk P w K mg base (L2.CX P w) (k + 1) f fd (inN "path") (spInitC "path" C) := by
  subst hb0
  obtain ⟨oc, od, osl, dV, kV, doc, pm, an, cda, ct, cc, rfl, lk, hcd, ⟨cl, cld, csl, lcc⟩, ccl, cdd, fvs, ccs, file, tf, lcd, hvs, hfile⟩ := F.fn
  obtain ⟨ar, hpar, har⟩ := F.par
  refine ⟨fun vs H Q E h => ?_, fun A outer s H args us vs Q E hr e0 hb r hsp => ?_⟩
  · obtain ⟨a, y, rfl, _⟩ := h
    rfl
  obtain ⟨a, y, rfl, ha, hq⟩ := hsp
  obtain ⟨_, u, rfl, rfl, ru⟩ : ∃ u0 u, us = [u0, u] ∧ u0 = Value.ref a ∧ L2.RelV y u := by
    cases r with
    | cons r1 r2 => cases r2 with
      | cons r3 r4 => cases r4; exact ⟨_, _, rfl, r1, r3⟩
  have KX : K.In s.heap := e0.mod.kin.keeps fun b o e => (e0.bs b o e).1
  have lim : s.heap.NoLimit := e0.mod.nolimit.keeps fun b o e => (e0.bs b o e).1
  obtain ⟨nm, cq, N', bs, bm, sn, sub, ab, col, dd, k0, k1, k2, k3, k5, hC, hbm⟩ := F.T.cls
  have S := F.S
  refine PySem.ks_codeAny_call_defAt hr.depth (KX _ _ lk) rfl lim (PySem.W.codeRec_of KX hcd) rfl hb S.nocell (fun x hx => ?_) (fun h₁ hns hk => ?_) S.co S.gen S.kind
  · have hx : x ∈ [(("self" : Str), Value.ref a), ("path", u)] := hx
    simp only [List.mem_cons, List.not_mem_nil, or_false] at hx
    rcases hx with rfl | rfl
    · exact S.self
    · exact S.val
  have I := in_start_path (qual := qual) (f := f) (cd := .ref cda) (E := E) (tk := s.toks + 2) S hr.hd e0 lcc ru hns hk
  have X1 := I.kIn
  show _root_.PySem.wpAt _ _ (.func _ (inEnv qual scope s.heap.objs.size f (.ref cda) cc)) (execs _ (inEnv qual scope s.heap.objs.size f (.ref cda) cc)) _ _ _
  show _root_.PySem.wpAt _ _ (.func _ (inEnv qual scope s.heap.objs.size f (.ref cda) cc)) (execs _ (inEnv qual scope s.heap.objs.size f (.ref cda) cc)) _ _ { heap := h₁, gens := s.gens, drawn := s.drawn, toks := s.toks + 2, os := s.os }
  generalize hS0 : ({ heap := h₁, gens := s.gens, drawn := s.drawn, toks := s.toks + 2, os := s.os } : Shared) = s0 at I ⊢
  obtain ⟨pl, hee⟩ := he (inEnv qual scope s.heap.objs.size f (.ref cda) cc)
  have hinter : interactive (inEnv qual scope s.heap.objs.size f (.ref cda) cc) = false := by
    unfold interactive
    rw [show (inEnv qual scope s.heap.objs.size f (.ref cda) cc).scope.kind = .function from S.kind]
    rfl
  have X0 : K.In s0.heap := I.kIn
  obtain ⟨mL, hnsL, hloc⟩ := I.loc
  refine PySem.ks_wpAt_execs_cons (PySem.ks_wpAt_Expr_any (PySem.ks_wpAt_MethodCall (pl := pl) ?_ hee) hinter)
  refine PySem.ks_wpAt_super_base S.sup S.cls (by decide) rfl (X0 _ _ lk) rfl hpar rfl (X0 _ _ lcd) rfl hvs hfile F.top ?_
  -- super, __class__, self
  obtain ⟨mb, hb1, hb2⟩ := I.mod.blt
  refine PySem.W.ks_loadName_global S.kind S.sup (Calls.loadGlobal_builtin (env := inEnv qual scope s.heap.objs.size f (.ref cda) cc) (I.mod.glob.keeps I.bk) F.glo (hb1.keeps I.bk) ((hb2 "super" (by decide)).trans (by decide +kernel : bootBuiltins "super" = some (.type "super"))) ⟨rfl, ?_⟩)
  refine wpAny_loadName_free S.kind S.cls rfl ⟨_, X0 _ _ lcc, rfl⟩ ?_
  have hself : mL "self" = some (.ref a) := by
    obtain ⟨u', ru', hl⟩ := hloc 0 "self" (.ref a) rfl rfl (.inl S.self)
    obtain rfl : u' = Value.ref a := ru'
    rcases hl with ⟨_, h⟩ | ⟨h, _⟩
    · exact h
    · rcases h with h | h
      · rw [show (inCx "path" P w K mg base qual scope f (.ref cda) cc A outer s H E).env.kindOf "self" = some .local from S.self] at h; cases h
      · rw [show (inCx "path" P w K mg base qual scope f (.ref cda) cc A outer s H E).env.kindOf "self" = some .local from S.self] at h; cases h
  rw [har]
  refine wpAny_loadName_local S.kind S.self hnsL hself ?_
  have hcl : PySem.W.clsIn K C = some { name := nm, bases := bs, mro := .ref C :: bm, ns := N', qualname := cq, hasDict := true, slotNames := sn, subclasses := sub, abstract := ab, collection := col, hasDel := false } := by unfold PySem.W.clsIn; rw [hC] <;> rfl
  refine PySem.ks_wpAny_isType_cls (X0 _ _ hC) rfl ⟨rfl, ?_⟩
  obtain ⟨t1, ho⟩ := exo_at I.hok ha
  obtain ⟨hp, g, d, t, os⟩ := s0
  refine PySem.ks_wpAny_call_super (X0 _ _ hC) rfl ho rfl (fun c e => nomatch e) (PySem.W.looks_mroIn X0 F.me) (fun h2 e2 k2 => ?_)
  have I2 := I.kept (t' := t) k2
  have J2 : PySem.W.InstAt h2 a { cls := .ref C, dict := none, data := .fields #[.ref t1, .none, .none, .none, .bool false, .none] } C none := ⟨k2 _ _ ho, rfl, rfl, trivial⟩
  have X2 : K.In h2 := I2.kIn
  have hsup : PySem.W.alongIn K "__init__" (((Value.ref C :: bm).dropWhile (· != .ref C)).drop 1) = some (some (.builtin "ValueError.__init__")) := by
    have := F.sup
    unfold PySem.W.ks_superIn at this
    rw [hcl] at this
    exact this
  refine PySem.W.kxs_getMethod PySem.W.kxs_ValueError e2 (PySem.W.looks_opaque X2 F.op) (l₀ := .ref C :: bm) (fun A Q E s k q => wpAny_bind ((PySem.W.looks_clsIn X2 hcl) A _ E s k (wpAny_pure q))) rfl X2 hsup
    (J2.type.andThen (PySem.W.looks_subIn X2 F.ve)) (PySem.W.ks_ne X2 J2 hcl) (by decide) ?_
  -- the bound __init__ at u0
  have hu0 : (h2.push (PySem.W.kxs_mw "ValueError.__init__" a)).get? h2.objs.size = some (PySem.W.kxs_mw "ValueError.__init__" a) := Heap.get?_push_size _ rfl
  have I3 := I2.kept (t' := t + 1) (h' := h2.push (PySem.W.kxs_mw "ValueError.__init__" a)) (fun b o e => Heap.get?_push_of_some _ e)
  obtain ⟨f0, f1, f2, f3, f4, f5⟩ := I2.fpOk (b := h2.objs.size) (Nat.le_refl _) (I2.hok.fresh (Nat.le_refl _))
  have I4 : L2.Inv (inCx "path" P w K mg base qual scope f (.ref cda) cc A outer s H E) [(h2.objs.size, PySem.W.kxs_mw "ValueError.__init__" a)] [some (.ref a), some y] H _ := I3.pins_of fun p hpp => by
    have hpp : p = (h2.objs.size, PySem.W.kxs_mw "ValueError.__init__" a) := by simpa using hpp
    subst hpp
    exact ⟨hu0, f0, f1, f2, fun v z => nomatch z⟩
  have ha' : PA (inCx "path" P w K mg base qual scope f (.ref cda) cc A outer s H E) [.Constant (.str m) j p3, .Name "path" p4] (tCons (tC (.str m)) (tCons (tVar 1) tNil)) := pa_cons pe_str (pa_cons (pe_var (i := 1) rfl (.inl S.val)) pa_nil)
  refine PySem.W.kxs_callWith (i := "ValueError.__init__") (x := a) (by rfl) (Calls.evalArgs_plain (thn (ha'.run p5 _ _ _ H (fun vs H' => vs = [.str m, y] ∧ H = H') I4 ⟨y, rfl, rfl, rfl⟩) fun us s5 ⟨vs, H5, I5, r5, ev, eH⟩ => ?_))
  subst ev
  subst eH
  have hu5 : s5.heap.get? h2.objs.size = some (PySem.W.kxs_mw "ValueError.__init__" a) := (I5.pin (h2.objs.size, PySem.W.kxs_mw "ValueError.__init__" a) (List.mem_append_right _ List.mem_cons_self)).1
  refine ⟨hu5, ?_⟩
  obtain ⟨t5, ho5⟩ := exo_at I5.hok ha
  have hl5 : us.length ≤ sizeLine := by
    have := r5.length
    rw [sizeLine_eq]
    simp at this
    omega
  obtain ⟨h5, g5, d5, t5', os5⟩ := s5
  refine call_vi (I5.kIn _ _ hC) ho5 hu5 hl5 fun h6 t6 k6 e6 => ?_
  have J6 := I5.write (t' := t5') (x := a) (e := a) (o := exo a C none) (by rw [ha]; exact True.intro) (.inl rfl) k6 ⟨_, e6⟩ (exo_ok e6)
  have eu : upd H a (exo a C none) = H := by
    funext b
    by_cases hbb : b = a
    · rw [hbb, upd_same, ha]
    · rw [upd_ne hbb]
  rw [eu] at J6
  have I6 : L2.Inv (inCx "path" P w K mg base qual scope f (.ref cda) cc A outer s H E) [] [some (.ref a), some y] H _ := J6.pins_of fun p hpp => absurd hpp (by simp)
  have hst : PSs (inCx "path" P w K mg base qual scope f (.ref cda) cc A outer s H E) [.Assign [.Attribute (.Name "self" p7) "path" p8] (.Name "path" p9) p10] _ := pss_one (ps_ost (pe_var (i := 0) (pos := p7) rfl (.inl S.self)) (pe_var (i := 1) (pos := p9) rfl (.inl S.val)))
  refine wpAt_of_wpAny (wpAny_mono (hst.run [] _ _ H { nx := fun _ H' => Q .non H', rt := Q } I6 ⟨y, rfl, .ref a, rfl, a, C, rfl, F.T, F.hno, .inl ⟨ha, fun dx h1 h2 => hq dx h1 h2⟩⟩) (fun flw s' hs => ?_) fun e s' hs => hs)
  cases flw with
  | ret u =>
    obtain ⟨v, σ', H', J, rv, q⟩ := hs
    exact ⟨v, H', J.os, J.bare, J.base, J.hok, rv, q⟩
  | next =>
    obtain ⟨σ', H', J, q⟩ := hs
    exact ⟨.non, H', J.os, J.bare, J.base, J.hok, rfl, q⟩
  | brk =>
    obtain ⟨_, _, _, q⟩ := hs
    exact False.elim q
  | cont =>
    obtain ⟨_, _, _, q⟩ := hs
    exact False.elim q
theorem init_fn {fl : Str} (hfl : FlOk fl) {C : Addr} {params : Arguments} {body : List Stmt} {fd : FuncData} {m : Str} {j : Nat} {p0 p1 p2 p3 p4 p5 p6 p7 p8 p9 p10 : Pos} {k : Nat} (F : SupI fl P K mg C f qual params scope body fd) (hb0 : body = inBody fl m j p0 p1 p2 p3 p4 p5 p6 p7 p8 p9 p10)
    (he : ∀ env : PySem.Env, ∃ pl, eval (.Call (.Attribute (.Call (.Name "super" p0) [] [] p1) "__init__" p2) [.Constant (.str m) j p3, .Name fl p4] [] p5) env = (do
      let ov ← attributeBase (.Call (.Name "super" p0) [] [] p1) "__init__" env (eval (.Call (.Name "super" p0) [] [] p1) env)
      standAt p2.atName
      let (g, first) ← holding [ov] (getMethod ov "__init__" pl)
      callWith p5 g first (backTo p5 (starEach [.Constant (.str m) j p3, .Name fl p4] env)) [])) : FnOk P w K mg base (L2.CX P w) (k + 1) f fd (inN fl) (spInitC fl C) := by
  rcases hfl with rfl | rfl | rfl | rfl
  · exact init_fn_value F hb0 he
  · exact init_fn_most F hb0 he
  · exact init_fn_place F hb0 he
  · exact init_fn_path F hb0 he
end
end Mp
set_option maxHeartbeats 4000000
namespace Mp
open PySem PySem.Spec PyProof.Rows L2

/-- behind the suite of a clause: its name is gone -/
def endA (D : Ends) : Option Nat → Ends
  | none => D
  | some i => { nx := fun σ H => D.nx (σ.set i none) H, rt := D.rt, bk := fun σ H => D.bk (σ.set i none) H, ct := fun σ H => D.ct (σ.set i none) H }
def setA (σ : L2.St) (a : Addr) : Option Nat → L2.St
  | none => σ
  | some i => σ.set i (some (.ref a))
abbrev Cl := Value × Option Nat × (Addr → Value → Option Addr → TS)
def wishA (K : PySem.W.Frag) (Wo : WX) (D : Ends) : List Cl → WX
  | [] => Wo
  | (c, io, ts) :: r => fun cls d σ H => ∃ b, PySem.W.exmOne K cls c = some b ∧ (b = true → ∀ a, H a = none → ts a cls d (endA D io) (setA σ a io) H) ∧ (b = false → wishA K Wo D r cls d σ H)
inductive ClsOk (X : Cx) : List ExceptHandler → List Cl → Prop
  | nil : ClsOk X [] []
  | bare {x : Str} {c : Value} {ts : Addr → Value → Option Addr → TS} {st : Stmt} {sts : List Stmt} {p1 p2 : Pos} {hs : List ExceptHandler} {l : List Cl} (hc : Names X x c)
      (hq : ∀ (a : Addr) (o : Obj) (cls : Value) (d : Option Addr) (pn : List (Addr × Obj)), Zc cls d o → (∃ vs, o.data = .fields vs) → PSs (X.suite a ((a, o) :: pn)) (st :: sts) (ts a cls d)) (r : ClsOk X hs l) :
      ClsOk X (.ExceptHandler (some (.Name x p1)) none (st :: sts) p2 :: hs) ((c, none, ts) :: l)
  | name {x n : Str} {i : Nat} {c : Value} {ts : Addr → Value → Option Addr → TS} {st : Stmt} {sts : List Stmt} {p1 p2 : Pos} {hs : List ExceptHandler} {l : List Cl} (hc : Names X x c) (hi : X.N[i]? = some n) (hn : X.env.kindOf n = some .local)
      (hq : ∀ (a : Addr) (o : Obj) (cls : Value) (d : Option Addr) (pn : List (Addr × Obj)), Zc cls d o → (∃ vs, o.data = .fields vs) → PSs (X.suite a ((a, o) :: pn)) (st :: sts) (ts a cls d)) (r : ClsOk X hs l) :
      ClsOk X (.ExceptHandler (some (.Name x p1)) (some n) (st :: sts) p2 :: hs) ((c, some i, ts) :: l)
section
variable {X : Cx} {body : List Stmt} {h1 : ExceptHandler} {hs : List ExceptHandler} {l : List Cl} {pos : Pos} {tb : WX → TS} {Wo : WX}
theorem ps_tryA (est : X.stack = X.env :: X.outer) (efr : X.env.frame = some X.env.locals) (hN : X.N.Nodup) (tk : Takes X Wo)
    (hb : ∀ (W : WX) (pn : List (Addr × Obj)) (xe : Value → Shared → Prop), Takes (X.tr pn xe) W → PassesOwn (model X.prog X.w) X.A X.env xe → PSs (X.tr pn xe) body (tb W)) (hh : ClsOk X (h1 :: hs) l) :
    PS X (.Try body (h1 :: hs) [] [] pos) (fun D σ H => tb (wishA X.K Wo D l) D σ H) := ⟨fun pn s σ H D I hw => by
  have okX := I.ok
  have eA : X.A.frames = some (X.env :: X.outer) := okX.frames.trans (by rw [est])
  have run := (hb (wishA X.K Wo D l) (X.pn ++ pn) (fun e sa => wpAny (model X.prog X.w) X.A (noteFrame e X.env) (fun _ sb => wpAny (model X.prog X.w) X.A (setFlight e none) (fun _ sc => wpAny (model X.prog X.w) X.A (handleBy e X.env (h1 :: hs)) (SP X pn D) X.xe sc) X.xe sb) X.xe sa)
    (fun u s' air => by
      obtain ⟨a, B, sI, _, σ', H', cls, d, rfl, Jt, nb, up, sky, na, os, ag, w⟩ := air
      have J : L2.Inv X pn σ' H' sI := Jt.ofTry okX
      have skyX : Sky B (X.env :: X.outer) a (Zc cls d) X.env.locals s'.heap := est ▸ sky
      refine Sky.land Zc.steady eA efr skyX fun hA flA upA => ?_
      have JA : L2.Inv X pn σ' H' { s' with heap := hA } := J.landed nb flA.1 (up.trans upA) os ag
      obtain ⟨oA, vA, gA, zA, dA⟩ := flA.there
      have nofr : a ∉ frs (X.env :: X.outer) := fun hm => by
        obtain ⟨_, o', e', hnf⟩ := flA.2.2.1.mem hm
        rw [gA] at e'
        cases e'
        exact hnf _ dA
      have nL : a ≠ X.env.locals := fun z => nofr (List.mem_filterMap.mpr ⟨X.env, .head _, by rw [efr, z]⟩)
      have nF : a ∉ X.fs := fun hm => by
        obtain ⟨e, he, q⟩ := List.mem_filterMap.mp hm
        exact nofr (List.mem_filterMap.mpr ⟨e, .tail _ he, q⟩)
      have SA := JA.suite gA dA na nL nF
      have ty : PySem.W.Looks (model X.prog X.w) hA (typeOf (.ref a)) cls := fun A Q E s k q => wpAny_typeOf_ref (k _ _ gA) (zA.1 ▸ q)
      -- the clauses, one behind another
      have go : ∀ {hds : List ExceptHandler} {cl : List Cl}, ClsOk X hds cl → wishA X.K Wo D cl cls d σ' H' → wpAny (model X.prog X.w) X.A (handleBy (.ref a) X.env hds) (SP X pn D) X.xe { s' with heap := hA } := by
        have named : ∀ {x : Str} {c : Value} {p1 : Pos}, Names X x c → ∀ {Q E : Value → Shared → Prop}, Q c { s' with heap := hA } → wpAny (model X.prog X.w) (X.A.mark (some (.ref a))) (eval (.Name x p1) X.env) Q E { s' with heap := hA } := fun {x c p1} hc {Q E} q => by
          obtain ⟨hg, hdb, hm | ⟨hm, hv, hnn⟩⟩ := hc
          · exact ld_glob (X := X.suite a ((a, oA) :: (X.pn ++ pn))) SA hg hm q hdb
          · exact ld_blt (X := X.suite a ((a, oA) :: (X.pn ++ pn))) SA hg hm hv q hnn hdb
        intro hds cl hk
        induction hk with
        | nil =>
          intro w
          refine wpAny_handleBy_nil ?_
          obtain ⟨_, _, _, oe, vs, T, oT, ts', he, hz, hd, h1, hr⟩ := id flA
          unfold PySem.passOn
          refine wpAny_bind (wpAny_field he hd h1 ?_)
          rw [if_neg (show ¬ ((Value.ref T == Value.none) = true) by simp)]
          have out : wpAny (model X.prog X.w) X.A (setFlight (.ref a) X.env.frame) (fun _ sz => wpAny (model X.prog X.w) X.A (throw (.ref a) : Sem Flow) (SP X pn D) X.xe sz) X.xe { s' with heap := hA } := by
            rw [efr]
            exact HandSPX.setFlight_upZ flA fun hB heldB upB => wpAny_throw (tk _ _ ⟨a, B, sI, pn, σ', H', cls, d, rfl, J, nb, (up.trans upA).trans upB, .inr (.inr (est.symm ▸ heldB)), na, os, ag, w⟩)
          first
            | exact wpAny_bind (wpAny_pure (wpAny_bind out))
            | exact wpAny_bind out
        | @bare x c ts st sts p1 p2 hs2 l2 hc hq r ih =>
          intro w
          obtain ⟨b, hb1, yes, no⟩ := w
          refine wpAny_handleBy_cons (codeAny_handlers_test ?_) (fun q => nomatch q)
          refine named hc ((PySem.W.exm_one (M := model X.prog X.w) JA.kIn ty hb1).here ?_)
          cases b with
          | false => exact ih (no rfl)
          | true =>
            refine codeAny_handlers_suite (HandSPX.lands_againZ flA fun hB flB upB => ?_)
            have JB : L2.Inv X pn σ' H' { s' with heap := hB } := J.landed nb flB.1 ((up.trans upA).trans upB) os ag
            obtain ⟨oB, vB, gB, zB, dB⟩ := flB.there
            refine wpAny_mono ((hq a oB cls d (X.pn ++ pn) zB ⟨_, dB⟩).run [] _ _ H' _ (JB.suite gB dB na nL nF) (yes rfl a na)) (fun f sz q => ?_) (fun _ _ z => False.elim z)
            cases f with
            | next => obtain ⟨σz, Hz, Sz, qz⟩ := q; exact ⟨_, _, Sz.unsuite okX, qz⟩
            | brk => obtain ⟨σz, Hz, Sz, qz⟩ := q; exact ⟨_, _, Sz.unsuite okX, qz⟩
            | cont => obtain ⟨σz, Hz, Sz, qz⟩ := q; exact ⟨_, _, Sz.unsuite okX, qz⟩
            | ret u => obtain ⟨vz, σz, Hz, Sz, rz, qz⟩ := q; exact ⟨_, _, _, Sz.unsuite okX, rz, qz⟩
        | @name x n i c ts st sts p1 p2 hs2 l2 hc hi hn hq r ih =>
          intro w
          obtain ⟨b, hb1, yes, no⟩ := w
          refine wpAny_handleBy_cons (codeAny_handlers_test ?_) (fun q => nomatch q)
          refine named hc ((PySem.W.exm_one (M := model X.prog X.w) JA.kIn ty hb1).here ?_)
          cases b with
          | false => exact ih (no rfl)
          | true =>
            refine codeAny_handlers_suite_as (HandSPX.lands_againZ flA fun hB flB upB => ?_)
            have JB : L2.Inv X pn σ' H' { s' with heap := hB } := J.landed nb flB.1 ((up.trans upA).trans upB) os ag
            obtain ⟨oB, vB, gB, zB, dB⟩ := flB.there
            refine store_ok (X := X.suite a ((a, oB) :: (X.pn ++ pn))) (v := .ref a) (JB.suite gB dB na nL nF) hN hi (.inl hn) rfl (fun sy Sy => ?_) (.inr hn)
            refine wpAny_mono ((hq a oB cls d (X.pn ++ pn) zB ⟨_, dB⟩).run [] sy _ H' _ Sy (yes rfl a na)) (fun f sz q => ?_) (fun _ _ z => False.elim z)
            have gone : ∀ {σz : L2.St} {Hz : Hp} {Q : Shared → Prop}, L2.Inv (X.suite a ((a, oB) :: (X.pn ++ pn))) [] σz Hz sz → (∀ sx, L2.Inv X pn (σz.set i none) Hz sx → Q sx) →
                wpAny (model X.prog X.w) X.A (do bindName X.env n .none; unbindBehindTheSuite X.env n p2) (fun _ sx => Q sx) X.xe sz := fun Sz hx => gone_ok (Sz.unsuite okX) hN hi hn hx
            cases f with
            | next => obtain ⟨σz, Hz, Sz, qz⟩ := q; exact gone Sz fun sx Jx => ⟨_, _, Jx, qz⟩
            | brk => obtain ⟨σz, Hz, Sz, qz⟩ := q; exact gone Sz fun sx Jx => ⟨_, _, Jx, qz⟩
            | cont => obtain ⟨σz, Hz, Sz, qz⟩ := q; exact gone Sz fun sx Jx => ⟨_, _, Jx, qz⟩
            | ret u => obtain ⟨vz, σz, Hz, Sz, rz, qz⟩ := q; exact gone Sz fun sx Jx => ⟨_, _, _, Jx, rz, qz⟩
      exact go hh w) PassesOwn.looking).run [] s σ H D (I.toTry _) hw
  refine wpAny_Try_except (wpAny_mono run (fun f sz q => ?_) fun e sz he => he)
  cases f with
  | next => obtain ⟨σz, Hz, Jz, qz⟩ := q; exact wpAny_execs_nil ⟨σz, Hz, Jz.ofTry okX, qz⟩
  | brk => obtain ⟨σz, Hz, Jz, qz⟩ := q; exact ⟨σz, Hz, Jz.ofTry okX, qz⟩
  | cont => obtain ⟨σz, Hz, Jz, qz⟩ := q; exact ⟨σz, Hz, Jz.ofTry okX, qz⟩
  | ret u => obtain ⟨vz, σz, Hz, Jz, rz, qz⟩ := q; exact ⟨vz, σz, Hz, Jz.ofTry okX, rz, qz⟩⟩
end
end Mp
set_option maxHeartbeats 4000000
namespace Mp
open PySem PySem.Spec PyProof.Rows L2

/-- raise x(e) -/
def raiseS (x fl : Str) (fa : Fa) : Fs := fun Γ M => thenS (fa Γ M) Γ fun us M1 => match us with
  | [.p d] => .ex ⟨x, [(fl, d)]⟩ Γ M1
  | _ => .st

def catchT (sub : Str → Str → Option Bool) : List (Str × Str × Str) → Str → Option (Str × Str)
  | [], _ => none
  | (c, g, tag) :: r, x => match sub x c with
    | some true => some (g, tag)
    | some false => catchT sub r x
    | none => none
def wordF (sub : Str → Str → Option Bool) (cl : List (Str × Str × Str)) (fb : Fx) : Fx := fun Γ M => match fb Γ M with
  | .ok (.p d) M1 => .ok (.p (.lst [d])) M1
  | .exc e M1 => match catchT sub cl e.cls, e.fields with
    | some (g, tag), [(f, d)] => if f = g then .ok (.p (.tup [.str tag, d])) M1 else .stuck
    | _, _ => .stuck
  | _ => .stuck
/-- what the helper wishes of an exception -/
def wE (K : PySem.W.Frag) (Q : VK) : List (Addr × Str × Str) → XK
  | [] => fun _ _ _ => False
  | (C, g, tag) :: r => fun cls dx H => ∃ b, PySem.W.exmOne K cls (.ref C) = some b ∧ (b = true → cls = .ref C ∧ ∃ (dd : Addr) (fs : List (Str × V)) (v : V), dx = some dd ∧ H dd = some (.xd fs) ∧ fs.lookup g = some v ∧ ∀ p, H p = none → Q (.ref p) (upd H p (.tup [.str tag, v]))) ∧ (b = false → wE K Q r cls dx H)
def TTword (K : PySem.W.Frag) (CT : List (Addr × Str × Str)) : (XK → Hp → VK → Prop) → Hp → VK → Prop := fun tl H Q => tl (wE K Q CT) H fun v H1 => ∀ p, H1 p = none → Q (.ref p) (upd H1 p (.lst [v]))
/-- the clauses, as they are written -/
inductive WcOk (X : Cx) : List ExceptHandler → List (Addr × Str × Str) → Prop
  | nil : WcOk X [] []
  | cons {cn n g tag : Str} {i j k : Nat} {C : Addr} {p1 p2 p3 p4 p5 p6 p7 : Pos} {hs : List ExceptHandler} {CT : List (Addr × Str × Str)} (hc : Names X cn (.ref C)) (hi : X.N[i]? = some n) (hn : X.env.scope.names.lookup n = some .local) (T : XfC X.K C) (hno : PySem.W.findIn X.K (.ref C) g = some none)
      (hd : (n == ("__debug__" : Str)) = false) (hcd : (n == ("__classdict__" : Str)) = false) (hat : ∀ env : PySem.Env, attributeBase (.Name n p4) g env (eval (.Name n p4) env) = eval (.Name n p4) env) (r : WcOk X hs CT) :
      WcOk X (.ExceptHandler (some (.Name cn p1)) (some n) [.Return (some (.Tuple [.Constant (.str tag) j p2, .Attribute (.Name n p4) g p3] k p5)) p6] p7 :: hs) ((C, g, tag) :: CT)
section
variable {X : Cx}
theorem takes_len {X : Cx} {W : WX} (tk : Takes X W) : Takes X (fun c d σ H => σ.length = X.N.length → W c d σ H) := fun u s' ⟨a, B, sI, pins, σ, H, cls, d, e, I, nb, up, sky, na, os, ag, w⟩ =>
  tk u s' ⟨a, B, sI, pins, σ, H, cls, d, e, I, nb, up, sky, na, os, ag, w I.len⟩
theorem wc_cls {hs : List ExceptHandler} {CT : List (Addr × Str × Str)} (h : WcOk X hs CT) : ∃ l, ClsOk X hs l ∧ ∀ (Q : VK) (D : Ends) (cls : Value) (d : Option Addr) (σ : L2.St) (H : Hp), (∀ v H, D.rt v H ↔ Q v H) → σ.length = X.N.length → wE X.K Q CT cls d H → wishA X.K (fun _ _ _ _ => False) D l cls d σ H := by
  induction h with
  | nil => exact ⟨[], .nil, fun Q D cls d σ H _ _ h => h⟩
  | @cons cn n g tag i j k C p1 p2 p3 p4 p5 p6 p7 hs CT hc hi hn T hno hd hcd hat r ih =>
    obtain ⟨l, h1, h2⟩ := ih
    refine ⟨_, .name hc hi hn (fun a o cls d pn hz hf => pss_one (ps_ret (pe_tup (pa_cons pe_str (pa_cons (pe_xf (n := g) T hno hz hf (pe_var (i := i) hi (.inl hn) hd hcd) (hat _)) pa_nil))))) h1, ?_⟩
    intro Q D cls d σ H hD hl w
    obtain ⟨b, e1, e2, e3⟩ := w
    refine ⟨b, e1, fun hb a ha => ?_, fun hb => h2 Q D cls d σ H hD hl (e3 hb)⟩
    obtain ⟨hcls, dd, fs, v, q1, q2, q3, q4⟩ := e2 hb
    have hlt : i < σ.length := by rw [hl]; exact (List.getElem?_eq_some_iff.mp hi).1
    refine ⟨.ref a, List.getElem?_set_self hlt, rfl, hcls, dd, fs, v, q1, q2, q3, ?_⟩
    refine ⟨by rw [sizeLine_eq]; simp, fun p hp => (hD _ _).mpr (q4 p hp)⟩
theorem word_gives {Ng : List Str} {x a q : Str} {sg : Scope} {g : Addr} {cdg : Value} {p1 p2 p3 p4 p5 : Pos} {h1 : ExceptHandler} {hs : List ExceptHandler} {CT : List (Addr × Str × Str)} (hN : Ng.Nodup) (h0 : ∀ f : Addr, (L2.start Ng [V.ref f])[0]? = some (some (V.ref f)))
    (hw : ∀ (s : Shared) (H : Hp), WcOk (cxOf C8.CX0 X.prog X.w X.K X.mg X.base Ng x sg g cdg X.A X.stack s H C8.E0).nox (h1 :: hs) CT) :
    LamX.GivesTo X Ng x sg g cdg [.Try [.Return (some (.List [.Call (.Name a p1) [] [] p2] p3)) p4] (h1 :: hs) [] [] p5] a q (TTword X.K CT) := by
  intro f c' s H Q tl act hc h
  obtain ⟨l, ok, wish⟩ := wc_cls (hw s H)
  refine ⟨_, pss_one (ps_tryA (X := (cxOf C8.CX0 X.prog X.w X.K X.mg X.base Ng x sg g cdg X.A X.stack s H C8.E0).nox) (Wo := fun _ _ _ _ => False)
    (tb := fun W D σ H => ∃ Ech : XK, (∀ cls d σ' H', Ech cls d H' → σ'.length = Ng.length → W cls d σ' H') ∧ σ[0]? = some (some (.ref f)) ∧ H c' = some (LamX.CodeO c' q) ∧ tl Ech H fun v H1 => ∀ p, H1 p = none → D.rt (.ref p) (upd H1 p (.lst [v])))
    rfl rfl hN LamX.takes0 (fun W pn xe tk _ => ?_) ok), ?_⟩
  · refine ⟨fun pins s' σ H' D I h' => ?_⟩
    obtain ⟨Ech, hW, e1, e2, e3⟩ := h'
    have hp := act (fun c d σ H => σ.length = Ng.length → W c d σ H) pn xe Ech p1 p2 (takes_len tk) fun cls d σ' H' h => hW cls d σ' H' h
    have hq := pss_one (ps_ret (pos := p4) (pe_lst (pos := p3) (pa_cons hp pa_nil)))
    refine hq.run pins s' σ H' D I ⟨e1, e2, ?_⟩
    have : (fun (v : V) (H1 : Hp) => ∀ p, H1 p = none → D.rt (.ref p) (upd H1 p (.lst [v]))) = fun v H1 => [v].length ≤ sizeLine ∧ ∀ p, H1 p = none → D.rt (.ref p) (upd H1 p (.lst [v])) := by
      funext v H1
      exact propext ⟨fun z => ⟨by rw [sizeLine_eq]; simp, z⟩, fun z => z.2⟩
    rw [this] at e3
    exact e3
  · exact ⟨wE X.K Q CT, fun cls d σ' H' z hl => wish Q _ cls d σ' H' (fun _ _ => Iff.rfl) hl z, h0 f, hc, h⟩
theorem Gr.extN {μ : List Addr} {H H1 : Hp} (x : LamX.ExtN H H1) : Gr μ H H1 [] := ⟨fun _ h => (nomatch h), .nil, fun b o h1 h2 _ => x b o h1 h2, fun b ⟨o, h1, h2⟩ => ⟨o, x b o h1 h2, h2⟩⟩
theorem RM.extN {K : PySem.W.Frag} {T : List (Addr × Str)} {bad μ : List Addr} {M : Mem} {H H1 : Hp} (rm : RM K T bad μ M H) (x : LamX.ExtN H H1) (t : LamX.Tabs T H1) : RM K T bad μ M H1 := by
  have g : Gr μ H H1 [] := Gr.extN x
  refine ⟨t, rm.len, rm.nd, rm.sub, fun b hb => g.dom b (rm.dom b hb), fun n o a h1 h2 => ?_, rm.wf, fun b hb vs h => ?_⟩
  · cases rm.at_ n o a h1 h2 with
    | lst z h r => exact .lst z (x _ _ h fun _ z => nomatch z) (r.gr0 g rm.sub)
    | dic z h l r => exact .dic z (x _ _ h fun _ z => nomatch z) l (r.gr0 g rm.sub)
    | dtu z h l r => exact .dtu z (x _ _ h fun _ z => nomatch z) l (r.gr0 g rm.sub)
  · obtain ⟨o, e, hn⟩ := rm.dom b hb
    rw [x b o e hn] at h
    exact rm.nt b hb vs (e.trans h)
/-- the clauses' classes, by name -/
inductive CtOk (mg : Str → Option Value) : List (Str × Str × Str) → List (Addr × Str × Str) → Prop
  | nil : CtOk mg [] []
  | cons {nm g tag : Str} {C : Addr} {l : List (Str × Str × Str)} {CT : List (Addr × Str × Str)} : mg nm = some (.ref C) → CtOk mg l CT → CtOk mg ((nm, g, tag) :: l) ((C, g, tag) :: CT)
/-- which class catches which, by name -/
structure SubOk (K : PySem.W.Frag) (mg : Str → Option Value) (sub : Str → Str → Option Bool) : Prop where
  ex : ∀ a b k ca cb, sub a b = some k → mg a = some ca → mg b = some cb → PySem.W.exmOne K ca cb = some k
  eq : ∀ a b, sub a b = some true → a = b
theorem catch_ok {K : PySem.W.Frag} {mg : Str → Option Value} {sub : Str → Str → Option Bool} (S : SubOk K mg sub) {bad : List Addr} {H : Hp} {Q : VK} {e : Ex} {cls : Value} {dx : Option Addr} {d : D} {f : Str} (rx : RX mg K bad H e cls dx) (hf : e.fields = [(f, d)])
    : ∀ {l : List (Str × Str × Str)} {CT : List (Addr × Str × Str)} {tag : Str}, CtOk mg l CT → catchT sub l e.cls = some (f, tag) → (∀ (v : V) p, RV K bad H d v → H p = none → Q (.ref p) (upd H p (.tup [.str tag, v]))) → wE K Q CT cls dx H
  | _, _, tag, .nil, h, _ => by cases h
  | _, _, tag, .cons (nm := nm) (g := g) (tag := tg) (C := C) (l := l) (CT := CT) hm r, h, q => by
    unfold catchT at h
    cases es : sub e.cls nm with
    | none => rw [es] at h; cases h
    | some b =>
      rw [es] at h
      refine ⟨b, S.ex _ _ _ _ _ es rx.1 hm, fun hb => ?_, fun hb => ?_⟩
      · subst hb
        cases h
        have he := S.eq _ _ es
        have hc : cls = .ref C := by
          have := rx.1
          rw [he, hm] at this
          exact (Option.some.inj this).symm
        obtain ⟨dd, vs, h1, h2, h3⟩ := rx.2 (by rw [hf]; simp)
        rw [hf] at h2 h3
        cases h3 with
        | cons r1 r2 =>
          cases r2
          exact ⟨hc, dd, _, _, h1, h2, by simp, fun p hp => q _ p r1 hp⟩
      · subst hb
        exact catch_ok S rx hf r h q
/-- x(lambda: e), x such a helper -/
theorem de_word {T : List (Addr × Str)} {W : WX} {x a : Str} {g c P : Addr} {k : Nat} {pg : Arguments} {bg : List Stmt} {sg : Scope} {fdg : FuncData} {Ng : List Str} {params : Arguments} {body : Expr} {scope : Scope} {fb : Fx} {p lpos pos : Pos} {sub : Str → Str → Option Bool} {cl : List (Str × Str × Str)} {CT : List (Addr × Str × Str)}
    (FG : FunD X.K x x pg bg sg [] [] g fdg) (hg : Gl X x) (hm : X.mg x = some (.ref g)) (hb : L2.Binds X.K fdg [a] []) (Sg : FnScope Ng [a] sg) (hNg : Ng[0]? = some a) (hva : Vis sg a)
    (hG : ∀ cdv, LamX.GivesTo X Ng x sg g cdv bg a (X.env.qual ++ "<lambda>") (TTword X.K CT)) (TB : LamX.TabB X.base X.mg c P) (hcode : X.env.code = .ref c) (hmT : (P, X.env.qual ++ "<lambda>") ∈ T) (hu : ∀ p ∈ T, p.1 = P → p.2 = X.env.qual ++ "<lambda>") (hr : Room (k + 2) X.A) (L : LamX.LamS X.env.scope scope)
    (hdef : defaultsOf params X.env = ([], [])) (hbind : ∀ (q : Str) (cl : List (Str × Addr)) (pm cv ctv : Value), bindArgs (PySem.W.kla_fn "<lambda>" q params body scope cl pm cv ctv) ⟨[], []⟩ = pure [])
    (hbody : ∀ (A : Around) (outer : List PySem.Env) (s : Shared) (H : Hp) (E : XK) (f c' : Addr), Room k (A.deeper (LamX.lamEnv X scope s.heap.objs.size f c')) → DE (LamX.lamCx X A outer s H E scope f c') T (WD E) body fb)
    (C : CtOk X.mg cl CT) (S : SubOk X.K X.mg sub)
    (hdb : (x == ("__debug__" : Str)) = false := by decide) (hd : (a == ("__debug__" : Str)) = false := by decide) (hcd : (a == ("__classdict__" : Str)) = false := by decide) : DE X T W (.Call (.Name x p) [.Lambda params body scope lpos] [] pos) (wordF sub cl fb) := by
  obtain ⟨oc, od, dV, kV, doc, pm, an, cdv, ct, osl, rfl, lk, hcg, _, _⟩ := FG.ex
  refine ⟨peW (LamX.pe_lamcall (t := fun E => tEv X.K X.mg T (WD E) fb) hg hm FG.kp lk hcg hb Sg hNg hva (hG cdv) TB hcode hmT hu hr L hdef hbind (fun A outer s H E f c' hr' => (hbody A outer s H E f c' hr').pe) hdb hd hcd) fun σ H Q ⟨bad, μ, Γ, M, rm, rg, h⟩ => ?_⟩
  refine ⟨rm.tab, fun H1 ex t1 => ?_⟩
  have g1 : Gr μ H H1 [] := Gr.extN ex
  have rm1 := rm.extN ex t1
  have rg1 : RG X.K bad μ H1 Γ σ := by simpa using rg.gr g1 rm.sub
  have h1 : Post X.K X.mg T bad μ H1 (wordF sub cl fb Γ M) Q (fun c d H' => W c d σ H') := by
    have := Post.gr h g1 (fun b hb => nomatch hb)
    simpa using this
  refine ⟨bad, μ, Γ, M, rm1, rg1, ?_⟩
  unfold wordF at h1
  cases ef : fb Γ M with
  | stuck => rw [ef] at h1; exact h1.elim
  | ok u M1 =>
    rw [ef] at h1
    cases u with
    | loc n => exact h1.elim
    | p d =>
      intro ν v H' g rm' rv q hq
      cases rv with
      | p rv =>
      exact Post.lst (Post.gr h1 g rm'.domν) rm' (.cons rv .nil) (by rw [sizeLine_eq]; simp) hq
  | exc e M1 =>
    rw [ef] at h1
    dsimp only at h1
    split at h1
    · rename_i g tag f d et e2
      split at h1
      · rename_i hf
        subst hf
        intro ν cls dx H' g rm' rx
        refine catch_ok S rx e2 C et fun v q rv hq => ?_
        exact Post.tup (Post.gr h1 g rm'.domν) rm' (.cons (.str tag) (.cons rv .nil)) (by rw [sizeLine_eq]; simp) hq
      · exact h1.elim
    · exact h1.elim
end
end Mp
set_option maxHeartbeats 4000000
namespace Mp
open PySem PySem.Spec PyProof.Rows L2

theorem args_gcd3 (a b c : Value) : argsOk "math.gcd" ⟨[a, b, c], []⟩ := by unfold argsOk; kernel_rfl
def rGcdA : List V → Hp → VK → Prop := fun vs H Q => (∃ a b : Int, vs = [.int a, .int b] ∧ Q (.int ((Nat.gcd a.natAbs b.natAbs : Nat) : Int)) H) ∨ ∃ a b c : Int, vs = [.int a, .int b, .int c] ∧ Q (.int ((Nat.gcd (Nat.gcd a.natAbs b.natAbs) c.natAbs : Nat) : Int)) H
section
variable {X : Cx} {T : List (Addr × Str)} {W : WX} {x : Str} {p pos : Pos} {e : Expr} {es : List Expr} {fa : Fa}
theorem cr_gcdA : CallR X (.builtin "math.gcd") rGcdA := by
  intro pins s σ H vs us Q I r h
  rcases h with ⟨a, b, rfl, q⟩ | ⟨a, b, c, rfl, q⟩
  · obtain ⟨t, u, rfl⟩ := Vals.int2 r
    exact PySem.W.mg_gcd fun _ => ⟨.int _, H, I.tok _, ⟨_, rfl⟩, q⟩
  · cases r with
    | cons r1 r =>
    cases r with
    | cons r2 r =>
    cases r with
    | cons r3 r =>
    cases r
    obtain ⟨t, rfl⟩ := r1
    obtain ⟨u, rfl⟩ := r2
    obtain ⟨v, rfl⟩ := r3
    exact call_function_meets PySem.W.MGF.kind_gcd PySem.W.MGF.plain_gcd PySem.W.MGF.entry_gcd (args_gcd3 _ _ _) (run_gcd3 a t b u c v).meets ⟨.int _, H, I.tok _, ⟨_, rfl⟩, q⟩
theorem pn_gcd : PN X.K T gcdD rGcdA := fun mg bad μ M H ds vs d Q E rm rv e q => by
  unfold gcdD at e
  split at e
  · obtain ⟨v, w, rfl, r1, r2⟩ := RWs.two rv
    cases r1.int
    cases r2.int
    cases e
    exact .inl ⟨_, _, rfl, Post.hereD q rm (.int _)⟩
  · cases rv with
    | cons r1 rv =>
    cases rv with
    | cons r2 rv =>
    cases rv with
    | cons r3 rv =>
    cases rv
    cases r1.int
    cases r2.int
    cases r3.int
    cases e
    exact .inr ⟨_, _, _, rfl, Post.hereD q rm (.int _)⟩
  · cases e
theorem de_gcd (hg : Gl X x) (hm : X.mg x = some (.builtin "math.gcd")) (ha : DA X T W (e :: es) fa) (hdb : (x == ("__debug__" : Str)) = false := by decide) (hs : starEach (e :: es) X.env = (false, eval e X.env) :: starEach es X.env := by rfl) (hpl : (backTo pos (starEach es X.env)).any (·.1) = false := by rfl) :
    DE X T W (.Call (.Name x p) (e :: es) [] pos) (blF gcdD fa) := de_blt (fun h => pe_callBfun cr_gcdA hg hm h hdb hs hpl) pn_gcd ha
theorem ds_par3 {i j l : Nat} {x y z : Str} {a b c : Expr} {px py pz pt pos : Pos} {kt k2 pt2} (hc : X.calm = true) (hN : X.N.Nodup) (hi : X.N[i]? = some x) (hj : X.N[j]? = some y) (hl : X.N[l]? = some z) (hij : i ≠ j) (hil : i ≠ l) (hjl : j ≠ l)
    (hx : X.env.scope.names.lookup x = some .local) (hy : X.env.scope.names.lookup y = some .local) (hz : X.env.scope.names.lookup z = some .local) (ha : DA X T W [a, b, c] fa)
    (hw : swappedStores [.Tuple [.Name x px, .Name y py, .Name z pz] kt pt] (.Tuple [a, b, c] k2 pt2) X.env = pure (some [x, y, z])) (hs : swapsWithSole [.Tuple [.Name x px, .Name y py, .Name z pz] kt pt] (.Tuple [a, b, c] k2 pt2) pos.line X.env = pure false := by rfl) :
    DS X T W (.Assign [.Tuple [.Name x px, .Name y py, .Name z pz] kt pt] (.Tuple [a, b, c] k2 pt2) pos) (par3S i j l fa) :=
  ⟨psW (ps_par3 hc hN hi hj hl hij hil hjl hx hy hz ha.pa hw hs) fun D σ H ⟨bad, μ, Γ, M, rm, rg, h⟩ => ⟨bad, μ, Γ, M, rm, rg, (PostS.thenA h rm.sub rg).mono fun vs H1 ⟨ν, ds, M1, g1, rm1, rv1, h1⟩ => by
    cases rv1 with
    | nil => exact h1.elim
    | cons r1 t1 =>
      cases t1 with
      | nil => exact h1.elim
      | cons r2 t2 =>
        cases t2 with
        | nil => exact h1.elim
        | cons r3 t3 =>
          cases t3 with
          | nil => exact ⟨_, _, _, rfl, PostS.here h1 rm1 ((((rg.gr g1 rm.sub).set r1).set r2).set r3)⟩
          | cons _ _ => exact h1.elim⟩⟩
end
end Mp
set_option maxHeartbeats 4000000
namespace Mp
open PySem PySem.Spec PyProof.Rows L2

/-- the def called x keeps its promise -/
structure DefOk (T : List (Addr × Str)) (gd : Bool) (P : Program) (w : World) (K : PySem.W.Frag) (mg : Str → Option Value) (base : Heap) (k : Nat) (x : Str) (ps : List Str) (F : List U → Mem → Res U) : Prop where
  ex : ∃ f fd, mg x = some (.ref f) ∧ PySem.W.keepIn K (.ref f) = true ∧ L2.Binds K fd ps [] ∧ FnD T gd P w K mg base k f fd ps F
/-- the exception class called x can be raised with a value -/
structure RaiseOk (P : Program) (w : World) (K : PySem.W.Frag) (mg : Str → Option Value) (base : Heap) (x fl : Str) : Prop where
  ex : ∃ C f fd, mg x = some (.ref C) ∧ OexC K C ∧ L2.Binds K fd (inN fl) [] ∧ PySem.W.findIn K (.ref C) "__init__" = some (some (.ref f)) ∧ PySem.W.typeIn K (.ref f) = some (.type "function") ∧ FnOk P w K mg base (L2.CX P w) 1 f fd (inN fl) (spInitC fl C)
section
variable {X : Cx} {T : List (Addr × Str)} {W : WX} {gd : Bool} {k : Nat} {ps : List Str} {F : List U → Mem → Res U} {x : Str} {p pos pos' : Pos} {e : Expr} {es : List Expr} {fa : Fa}
theorem de_callD (D : DefOk T gd X.prog X.w X.K X.mg X.base k x ps F) (hr : Room k X.A) (hgd : gd = true → X.A.guards = some []) (tk : Takes X W) (hg : Gl X x) (ha : DA X T W (e :: es) fa) (hn : (e :: es).length = ps.length := by rfl)
    (hdb : (x == ("__debug__" : Str)) = false := by decide) (he : starEach (e :: es) X.env = (false, eval e X.env) :: starEach es X.env := by rfl) (hpl : (backTo pos (starEach es X.env)).any (·.1) = false := by rfl) : DE X T W (.Call (.Name x p) (e :: es) [] pos) (callF F fa) := by
  obtain ⟨f, fd, hm, hk, hb, hF⟩ := D.ex
  exact de_call hF hr hgd hg hm hk hb tk ha hn hdb he hpl
theorem de_gintE {i : Int} (hm : ∃ t, X.mg x = some (.int i t)) (hg : Gl X x) (hd : (x == ("__debug__" : Str)) = false := by decide) : DE X T W (.Name x pos) (cF (.int i)) := by
  obtain ⟨t, h⟩ := hm
  exact de_gint hg h hd
theorem ds_raiseR {fl : Str} (R : RaiseOk X.prog X.w X.K X.mg X.base x fl) (hc : X.calm = true) (tk : Takes X W) (hr : Room 2 X.A) (hg : Gl X x) (ha : DA X T W [e] fa)
    (hdb : (x == ("__debug__" : Str)) = false := by decide) (hs : starEach [e] X.env = (false, eval e X.env) :: starEach [] X.env := by rfl) (hpl : (backTo pos (starEach [] X.env)).any (·.1) = false := by rfl) :
    DS X T W (.Raise (some (.Call (.Name x p) [e] [] pos)) none pos') (raiseS x fl fa) := by
  obtain ⟨C, f, fd, hm, TC, hb, iC, tI, FI⟩ := R.ex
  refine ⟨psW (ps_raise hc tk (pmk_oex (k := 1) (dvs := []) (ds := []) TC iC tI FI hr hb .nil (passes_call tk fun _ _ _ _ z => z.elim) hg hm ha.pa hdb hs hpl)) fun D σ H ⟨bad, μ, Γ, M, rm, rg, h⟩ => ?_⟩
  refine ⟨bad, μ, Γ, M, rm, rg, (PostS.thenA h rm.sub rg).mono fun vs H1 ⟨ν, us, M1, g1, rm1, rv1, h1⟩ => ?_⟩
  split at h1
  rotate_left
  · exact h1.elim
  rename_i d
  obtain ⟨v, rfl, ru⟩ := RUs.one rv1
  cases ru with
  | p rv =>
  refine ⟨by simp, fun a ha => ⟨a, v, rfl, upd_same, fun dx hdx hne => ⟨rfl, dx, [(fl, v)], upd_same, ?_, ?_, ?_⟩⟩⟩
  · rw [upd_ne hne, upd_same]
  · rw [upd_ne hne] at hdx
    exact hdx
  · have hdx1 : H1 dx = none := by rw [upd_ne hne] at hdx; exact hdx
    have eH : upd (del (upd (upd (upd H1 a (exo a C none)) dx (exd dx [(fl, v)])) a (exo a C (some dx))) a) dx (.xd [(fl, v)]) = upd H1 dx (.xd [(fl, v)]) := by
      funext b
      by_cases hb : b = dx
      · rw [hb, upd_same, upd_same]
      · rw [upd_ne hb, upd_ne hb]
        by_cases hba : b = a
        · rw [hba, del_same, ha]
        · rw [del_ne hba, upd_ne hba, upd_ne hb, upd_ne hba]
    rw [eH]
    have g := Gr.laid (μ := μ ++ ν) (o := .xd [(fl, v)]) hdx1
    have rm2 := rm1.laid (o := .xd [(fl, v)]) hdx1
    refine h1 [] σ _ _ _ g (by simpa using rm2) ?_ ⟨hm, fun _ => ⟨dx, [v], rfl, upd_same, ?_⟩⟩
    · have := (rg.gr g1 rm.sub).gr g rm1.sub
      simpa using this
    · simp only [List.append_nil]
      exact .cons (rv.gr0 g rm1.sub) .nil
/-- siblings: each catches itself alone -/
def sameE (names : List Str) (a b : Str) : Option Bool := if a ∈ names ∧ b ∈ names then some (decide (a = b)) else none
theorem subOk_same {K : PySem.W.Frag} {mg : Str → Option Value} {names : List Str} (h : ∀ a ∈ names, ∀ b ∈ names, ∀ ca cb, mg a = some ca → mg b = some cb → PySem.W.exmOne K ca cb = some (decide (a = b))) : SubOk K mg (sameE names) := by
  refine ⟨fun a b k ca cb e h1 h2 => ?_, fun a b e => ?_⟩
  · unfold sameE at e
    split at e
    · rename_i hc
      rw [h a hc.1 b hc.2 ca cb h1 h2]
      exact e
    · cases e
  · unfold sameE at e
    split at e
    · exact of_decide_eq_true (Option.some.inj e)
    · cases e
end
end Mp
namespace Mp
open PySem PySem.Spec PyProof.Rows L2
theorem room1 {k : Nat} {A : Around} (r : Room k A) : A.units + 1 < cLine := by have := r.un; omega
theorem room64 {k : Nat} {A : Around} (r : Room k A) : A.units + 64 < cLine := by have := r.un; omega
theorem room65 {k : Nat} {A : Around} (r : Room k A) : A.units + 65 < cLine := by have := r.un; omega
theorem room66 {k : Nat} {A : Around} (r : Room k A) : A.units + 66 < cLine := by have := r.un; omega
end Mp
set_option maxHeartbeats 4000000
namespace Mp
open PySem PySem.Spec PyProof.Rows L2

/-- at the start: the script (if it isn't of the kept part) and the empty tables -/
def H00 (K : PySem.W.Frag) (a : Addr) (us : List Value) (ns : List Int) (tb : List Addr) : Hp := fun b =>
  if b ∈ tb then some (.tbl #[]) else if b = a ∧ K.lookup a = none then some (.frz { cls := .type "list", data := .seq us.toArray } (.lst (ns.map V.int))) else none
section
variable {K : PySem.W.Frag} {a b : Addr} {us : List Value} {ns : List Int} {tb : List Addr}
theorem H00_tb (h : b ∈ tb) : H00 K a us ns tb b = some (.tbl #[]) := if_pos h
theorem H00_cases : H00 K a us ns tb b = none ∨ (b ∈ tb ∧ H00 K a us ns tb b = some (.tbl #[])) ∨ (b ∉ tb ∧ b = a ∧ K.lookup a = none ∧ H00 K a us ns tb b = some (.frz { cls := .type "list", data := .seq us.toArray } (.lst (ns.map V.int)))) := by
  unfold H00
  by_cases h : b ∈ tb
  · exact .inr (.inl ⟨h, if_pos h⟩)
  · rw [if_neg h]
    by_cases h2 : b = a ∧ K.lookup a = none
    · rw [if_pos h2]
      exact .inr (.inr ⟨h, h2.1, h2.2, rfl⟩)
    · exact .inl (if_neg h2)
end
theorem law_run {P : Program} {w : World} {K : PySem.W.Frag} {mg mb : Str → Option Value} {k : Nat} {fa a : Addr} {cs : List (Addr × Addr)} {fd : FuncData} {x : Str} {F : List U → Mem → Res U} {s : Shared} {us : List Value} {ns : List Int} {T : List (Addr × Str)} {gd : Bool}
    (kin : K.In s.heap) (gl : s.heap.Ns mainGlobals mg) (bl : s.heap.Ns builtinsNs mb) (bb : ∀ y : Str, y ≠ "__name__" → mb y = bootBuiltins y) (lim : s.heap.NoLimit) (gen : s.gens = #[])
    (tabs : ∀ p ∈ cs, s.heap.get? p.2 = some { cls := .none, data := .fields #[] }) (out : ∀ p ∈ cs, K.lookup p.2 = none) (codes : ∀ p ∈ cs, PySem.W.CodeHd s.heap p.1 p.2)
    (main : ∃ (bm : Addr) (ob : Obj), mg "__builtins__" = some (.ref bm) ∧ bm ≠ builtinsNs ∧ s.heap.get? bm = some ob ∧ ob.cls = .type "module" ∧ ob.dict = some builtinsNs ∧ ob.data = .plain)
    (scr : s.heap.get? a = some { cls := .type "list", data := .seq us.toArray }) (isI : IntsAre us ns) (few : ns.length ≤ sizeLine) (room : Room k callerA) (hT : ∀ p ∈ T, p.1 ∈ cs.map (·.2))
    (FD : ∀ base : Heap, K.In base → base.Ns mainGlobals mg → (∀ p ∈ cs, LamX.TabB base mg p.1 p.2) → FnD T gd P w K mg base k fa fd [x] F) (bind : ∀ (s : Shared) (u : Value), BindsTo s fd ⟨[u], []⟩ [(x, u)])
    (truth : ∃ M, F [.p (.scr ns)] [] = .ok (.p (.bl true)) M) :
    codeAny (model P w) callerA (.call (.ref fa) ⟨[.ref a], []⟩) (fun r s' => r = .ok (.ret (.bool true)) ∧ OldK s.heap s'.heap ∧ s'.os = s.os ∧ AllBare s'.gens) s := by
  have vals := vals_ints isI
  have lens := isI.length
  obtain ⟨tb, etb⟩ : ∃ tb, tb = cs.map (·.2) := ⟨_, rfl⟩
  rw [← etb] at hT
  have atT : ∀ {b : Addr}, b ∈ tb → ∃ p ∈ cs, p.2 = b := fun {b} h => by
    rw [etb] at h
    obtain ⟨p, hp, e⟩ := List.mem_map.mp h
    exact ⟨p, hp, e⟩
  have tabAt : ∀ {b : Addr}, b ∈ tb → s.heap.get? b = some { cls := .none, data := .fields #[] } := fun h => by
    obtain ⟨p, hp, rfl⟩ := atT h
    exact tabs p hp
  have inT : ∀ p ∈ cs, p.2 ∈ tb := fun p hp => by rw [etb]; exact List.mem_map_of_mem hp
  have aOut : a ∉ tb := fun h => by
    have e := tabAt h
    rw [scr] at e
    have e' : Data.seq us.toArray _ = Data.fields #[] := congrArg Obj.data (Option.some.inj e)
    cases e'
  obtain ⟨H, eH⟩ : ∃ H, H = H00 K a us ns tb := ⟨_, rfl⟩
  have Htb : ∀ {b : Addr}, b ∈ tb → H b = some (.tbl #[]) := fun h => by rw [eH]; exact H00_tb h
  have Hcs : ∀ b : Addr, H b = none ∨ (b ∈ tb ∧ H b = some (.tbl #[])) ∨ (b ∉ tb ∧ b = a ∧ K.lookup a = none ∧ H b = some (.frz { cls := .type "list", data := .seq us.toArray } (.lst (ns.map V.int)))) := fun b => by rw [eH]; exact H00_cases
  -- other things are not tracked
  have free : ∀ {b : Addr} {o : Obj}, s.heap.get? b = some o → (∀ vs n, o.data ≠ .seq vs n) → o.data ≠ .fields #[] → H b = none := fun {b o} e n1 n2 => by
    rcases Hcs b with h | ⟨h, _⟩ | ⟨_, h, _, _⟩
    · exact h
    · rw [tabAt h] at e
      cases e
      exact absurd rfl n2
    · rw [h, scr] at e
      cases e
      exact absurd rfl (n1 _ _)
  have base : ∀ {b : Addr} {o : Obj}, s.heap.get? b = some o → H b = none → (hidT s.heap H).get? b = some o := fun e n => hidT_get e n
  have nsOf : ∀ {b : Addr} {m : Str → Option Value}, s.heap.Ns b m → (hidT s.heap H).Ns b m := fun {b m} ⟨o, es, ep, e, d, r⟩ => ⟨o, es, ep, base e (free e (fun _ _ z => by rw [d] at z; cases z) fun z => by rw [d] at z; cases z), d, r⟩
  have kinB : K.In (hidT s.heap H) := fun b o e => base (kin b o e) (by
    rcases Hcs b with h | ⟨h, _⟩ | ⟨_, h, h2, _⟩
    · exact h
    · obtain ⟨p, hp, rfl⟩ := atT h
      rw [out p hp] at e
      cases e
    · rw [h, h2] at e
      cases e)
  have modB : L2.Mod K mg (hidT s.heap H) := ⟨kinB, nsOf gl, ⟨mb, nsOf bl, bb⟩, let ⟨mc, h1, h2⟩ := lim; ⟨mc, nsOf h1, h2⟩⟩
  have tabB : ∀ p ∈ cs, LamX.TabB (hidT s.heap H) mg p.1 p.2 := fun p hp => by
    refine ⟨?_, ?_, fun z => ?_⟩
    · obtain ⟨o, vs, file, tf, fl, tg, inF, tx, tt, e, r1, r2, r3, r4, r5, r6, r7, r8, hne⟩ := codes p hp
      exact ⟨o, vs, file, tf, fl, tg, inF, tx, tt, base e (free e (fun _ _ z => by rw [r2] at z; cases z) fun z => by rw [r2] at z; cases z; simp at r3), r1, r2, r3, r4, r5, r6, r7, r8, hne⟩
    · obtain ⟨bm, ob, m1, m2, m3, m4, m5, m6⟩ := main
      refine ⟨bm, ob, m1, m2, fun z => ?_, fun z => ?_, base m3 (free m3 (fun _ _ z => by rw [m6] at z; cases z) fun z => by rw [m6] at z; cases z), m4, m5, m6⟩
      · obtain ⟨o, es, ep, e, hd, _⟩ := gl
        rw [z, e] at m3
        cases m3
        rw [hd] at m6
        cases m6
      · rw [z, tabs p hp] at m3
        cases m3
        cases m6
    · obtain ⟨o, es, ep, e, hd, _⟩ := gl
      rw [z, tabs p hp] at e
      cases e
      cases hd
  have okH : HOk P w H s.heap := fun b u e => by
    rcases Hcs b with h | ⟨h, h2⟩ | ⟨_, h, _, h2⟩
    · rw [h] at e; cases e
    · rw [h2] at e
      cases e
      exact tabAt h
    · rw [h2] at e
      cases e
      rw [h]
      exact ⟨scr, by rw [List.length_map]; exact few, us, _, vals, scr⟩
  have env : Env0 P w K mg (hidT s.heap H) callerA [] s H := ⟨rfl, modB, fun b o e => of_hidT e, Nat.le_of_eq (hidT_size _ _), trivial, fun b h => absurd (show b ∈ ([] : List Addr) from h) (by simp), okH, .of_eq gen⟩
  -- the start, told by data
  have sc : TrS K [] H a (ns.map V.int) := by
    refine ⟨by rw [List.length_map]; exact few, ?_⟩
    cases hk : K.lookup a with
    | none => exact .inl ⟨.inr ⟨_, by rw [eH]; unfold H00; rw [if_neg aOut, if_pos ⟨rfl, hk⟩]⟩, by simp⟩
    | some o =>
      have e := kin a o hk
      rw [scr] at e
      cases e
      exact .inr fun H' => .inr ⟨_, us.toArray, _, hk, rfl, rfl, rfl, by rw [List.size_toArray, lens]; exact few, by simpa using vals⟩
  have rm : RM K T [] [] [] H := ⟨fun p hp => ⟨#[], Htb (hT p hp), trivial, fun pos cv z => by cases z⟩, rfl, .nil, fun _ h => (nomatch h), fun _ h => (nomatch h), fun n o a h => by simp at h, fun n kvs h => by simp at h, fun _ h => (nomatch h)⟩
  obtain ⟨M, tr⟩ := truth
  have run := (FD _ kinB (nsOf gl) tabB).run callerA [] s H ⟨[.ref a], []⟩ [.ref a] [.ref a] (fun v _ => v = .bl true) (fun _ _ _ => False) room (fun _ => rfl) env (bind s (.ref a)) (.cons rfl .nil)
    ⟨[], [], [], [.p (.scr ns)], rm, .cons (.p (.scr sc)) .nil, rfl, by rw [tr]; exact fun ν v H' g rm' rv => by cases rv with | p rv => cases rv; rfl⟩
  refine codeAny_mono run fun r s' h => ?_
  cases r with
  | error e =>
    obtain ⟨_, _, _, _, _, _, _, _, _, _, _, _, z⟩ := h
    exact z.elim
  | ok fl =>
    cases fl with
    | next => exact False.elim h
    | brk => exact False.elim h
    | cont => exact False.elim h
    | ret u =>
      obtain ⟨v, H', os, bare, un, ok', rv, q⟩ := h
      have q' : v = .bl true := q
      subst q'
      obtain rfl : u = Value.bool true := rv
      have same : ∀ b o, b ∉ tb → s.heap.get? b = some o → s'.heap.get? b = some o := fun b o nb e => by
        rcases Hcs b with h | ⟨h, _⟩ | ⟨_, _, _, h⟩
        · exact un.keep b o e h (fun z => absurd (show b ∈ ([] : List Addr) from z) (by simp)) (by simp)
        · exact absurd h nb
        · have z2 := un.frzs b _ _ h
          obtain ⟨e1, _⟩ := okH b _ h
          obtain ⟨e2, _⟩ := ok' b _ z2
          rw [e] at e1
          cases e1
          exact e2
      have more : ∀ {b : Addr}, b ∈ tb → ∃ vs : Array Value, s'.heap.get? b = some { cls := .none, data := .fields vs } := fun {b} hb => by
        obtain ⟨vs, z⟩ := un.tbls b #[] (Htb hb)
        exact ⟨_, ok' b _ z⟩
      refine ⟨rfl, ⟨fun b o e => ?_, fun b o e => ?_⟩, os, bare⟩
      · by_cases hb : b ∈ tb
        · obtain ⟨vs, hm⟩ := more hb
          rw [tabAt hb] at e
          cases e
          obtain ⟨p, hp, rfl⟩ := atT hb
          exact .inr (.inl ⟨((codes p hp).tab (tabs p hp)).isCodeTable, rfl, #[], vs, rfl, by rw [Array.empty_append]; exact hm⟩)
        · exact .inl (same b o hb e)
      · by_cases hb : b ∈ tb
        · obtain ⟨vs, hm⟩ := more hb
          exact ⟨_, hm⟩
        · exact ⟨o, same b o hb e⟩
/-- what is to be known of the law's def at the head's heap -/
def LawM (l : PySem.W.OpenLaw) (w : World) (K : PySem.W.Frag) (k n : Nat) (x : Str) (mg : Str → Option Value) (fa : Addr) (h : Heap) : Prop :=
  ∃ (fd : FuncData) (cs : List (Addr × Addr)) (T : List (Addr × Str)) (gd : Bool) (F : List U → Mem → Res U), (∀ p ∈ cs, h.get? p.2 = some { cls := .none, data := .fields #[] }) ∧ (∀ p ∈ cs, K.lookup p.2 = none) ∧ (∀ p ∈ cs, PySem.W.CodeHd h p.1 p.2) ∧
    (∀ p ∈ T, p.1 ∈ cs.map (·.2)) ∧ (∀ (s : Shared) (u : Value), BindsTo s fd ⟨[u], []⟩ [(x, u)]) ∧ (∀ ns : List Int, ns.length ≤ n → (∀ z ∈ ns, Builtin.Int.intBits z ≤ 1048576) → ∃ M, F [.p (.scr ns)] [] = .ok (.p (.bl true)) M) ∧
    ∀ base : Heap, K.In base → base.Ns mainGlobals mg → (∀ p ∈ cs, LamX.TabB base mg p.1 p.2) → FnD T gd l.prog w K mg base k fa fd [x] F
theorem walkM {l : PySem.W.OpenLaw} {n k : Nat} {q : Program} {loose : List Str} {XP : (Str → Option Value) → Heap → Prop} {YP : World → Heap → Prop} {d : DefRec} {x : Str} (hn : l.most = some n) (hn2 : n ≤ sizeLine) (hdf : d.params.defaults = []) (hr : Room k callerA)
    (F : ∀ (w : World) (mg : Str → Option Value) (fa : Addr) (h : Heap), YP w h → h.Ns mainGlobals mg → mg d.name = some (.ref fa) → ∃ K : PySem.W.Frag, K.In h ∧ LawM l w K k n x mg fa h) : PySem.W.WalkO q loose XP YP l.row.toRowW d [] (fun f vs => PySem.call f vs) :=
  Att.attach_callB hn hdf fun w s0 s mg mb fa o pm cd doc a us ns G Y ho hd hcd hmg hobj hints hlen hbits hg => by
    obtain ⟨K, kin, fd, cs, T, gd, F, h1, h2, h3, h4, h5, h6, h7⟩ := F w mg fa _ Y G.T.g hmg
    exact law_run kin G.T.g G.T.b G.T.builtins G.T.nolimit hg h1 h2 h3 G.T.bmain hobj hints (Nat.le_trans hlen hn2) hr h4 h7 h5 (h6 ns hlen hbits)
end Mp
set_option maxHeartbeats 4000000
namespace Mp
open PySem PySem.Spec PyProof.Rows L2

/-- the class at C: own classes over ValueError, with a dict -/
def clsB (K : PySem.W.Frag) (C : Addr) : Bool := match K.lookup C with
  | some ⟨.type ty, _, .cls cd, sl⟩ => (match cd.mro, sl.toList with
    | .ref C2 :: bm, [_, _, _, _, some (.builtin n), _] => decide (ty = "type") && decide (C2 = C) && decide (n = "ValueError.__new__") && cd.hasDict && !cd.hasDel && PySem.HandSPX.refsVE bm
    | _, _ => false)
  | _ => false
theorem clsB_ok {K : PySem.W.Frag} {C : Addr} (h : clsB K C = true) : ∃ nm q N bs bm sn sub ab col dd k0 k1 k2 k3 k5, K.lookup C = some (excClassObj nm q C N bs bm true sn sub ab col dd k0 k1 k2 k3 k5 "ValueError.__new__") ∧ PySem.HandSPX.refsVE bm = true := by
  unfold clsB at h
  split at h
  · rename_i ty dd cd sl e
    split at h
    · rename_i C2 bm k0 k1 k2 k3 n k5 em es
      simp only [Bool.and_eq_true, decide_eq_true_eq, Bool.not_eq_true'] at h
      obtain ⟨⟨⟨⟨⟨rfl, rfl⟩, rfl⟩, hd⟩, hl⟩, hv⟩ := h
      obtain ⟨nm, bs, mro, N, q, hdc, sn, sub, ab, col, del⟩ := cd
      obtain ⟨l⟩ := sl
      simp only at em hd hl es
      subst em hd hl es
      exact ⟨nm, q, N, bs, bm, sn, sub, ab, col, dd, k0, k1, k2, k3, k5, e, hv⟩
    · cases h
  · cases h
/-- the __init__ at f closes over a cell that holds C, its code tells the file -/
def iniB (file : Str) (K : PySem.W.Frag) (C f : Addr) (qual : Str) : Bool := match K.lookup f with
  | some ⟨_, _, .func fd, _⟩ => (match fd.closure, fd.code, fd.defaults with
    | [(n, cc)], .ref cda, .none => decide (n = ("__class__" : Str)) && PySem.W.codeIn K (.ref cda) qual && (match K.lookup cc with
      | some ⟨_, _, .cell (some (.ref C2)), _⟩ => decide (C2 = C)
      | _ => false) && (match K.lookup cda with
      | some ⟨_, _, .fields vs, _⟩ => (match (vs[2]? : Option Value) with
        | some (Value.str fl _) => file == fl
        | _ => false)
      | _ => false)
    | _, _, _ => false)
  | _ => false
abbrev FnI : Type := Option (Str × Str × Arguments × FuncBody × Scope × Addr × Addr)
/-- a def, but for its closure -/
def fnI (K : PySem.W.Frag) (f : Addr) : FnI := match K.lookup f with
  | some ⟨_, _, .func fd, _⟩ => some (fd.name, fd.qualname, fd.params, fd.body, fd.scope, fd.globals, fd.builtins)
  | _ => none
/-- an exception class's text -/
structure ExD where
  name : Str
  fl : Str
  qual : Str
  params : Arguments
  body : List Stmt
  scope : Scope
def ExD.C (K : PySem.W.Frag) (d : ExD) : Addr := He.ga K d.name
def ExD.f (K : PySem.W.Frag) (d : ExD) : Addr := He.ma K (d.C K) "__init__"
def ExD.val (d : ExD) : FnI := some ("__init__", d.qual, d.params, .stmts d.body, d.scope, mainGlobals, builtinsNs)
def eqV (a b : Option (Option Value)) : Bool := decide (a = b)
def ExD.ok (file : Str) (K : PySem.W.Frag) (d : ExD) : Bool :=
  eqV (PySem.W.nsIn K mainGlobals d.name) (some (some (.ref (d.C K)))) && clsB K (d.C K) && iniB file K (d.C K) (d.f K) d.qual && eqV (PySem.W.findIn K (.ref (d.C K)) "__setattr__") (some (some (.builtin "object.__setattr__"))) &&
  decide (PySem.W.subIn K (.ref (d.C K)) (.type "BaseException") = some true) && decide (PySem.W.typeIn K (.ref (d.C K)) = some (.type "type")) && PySem.W.keepIn K (.ref (d.C K)) &&
  eqV (PySem.W.ks_superIn K (d.C K) (d.C K) "__init__") (some (some (.builtin "ValueError.__init__"))) && decide (PySem.W.subIn K (.ref (d.C K)) (.type "ValueError") = some true) && decide (PySem.W.mroIn K (d.C K) (.ref (d.C K)) = some true) &&
  eqV (PySem.W.findIn K (.ref (d.C K)) d.fl) (some none) && eqV (PySem.W.findIn K (.ref (d.C K)) "__init__") (some (some (.ref (d.f K)))) && decide (PySem.W.typeIn K (.ref (d.f K)) = some (.type "function")) && xfB K (d.C K)
/-- the general part -/
def genB (K : PySem.W.Frag) : Bool := eqV (PySem.W.nsIn K cStatics "thirdparty.any") (some none) && eqV (PySem.W.nsIn K mainGlobals "super") (some none)
/-- global names that stand for built-ins -/
def bltB (K : PySem.W.Frag) (bs : List (Str × String)) : Bool := bs.all fun p => eqV (PySem.W.nsIn K mainGlobals p.1) (some (some (.builtin p.2)))
theorem ba {a b : Bool} (h : (a && b) = true) : a = true ∧ b = true := Bool.and_eq_true_iff.mp h
theorem eqV_ok {a b : Option (Option Value)} (h : eqV a b = true) : a = b := of_decide_eq_true h
section
variable {P : Program} {w : World} {K : PySem.W.Frag} {mg : Str → Option Value} {base h : Heap} {d : ExD}
structure ExOk (P : Program) (K : PySem.W.Frag) (mg : Str → Option Value) (d : ExD) : Prop where
  glo : mg d.name = some (.ref (d.C K))
  sup : ∃ fd, SupI d.fl P K mg (d.C K) (d.f K) d.qual d.params d.scope d.body fd ∧ ∃ (kV doc pm : Value) (an : Option Addr) (cda : Addr) (ct : Value) (cc : Addr), fd = PySem.W.ksFn "__init__" d.qual d.params d.body d.scope .none kV doc pm an (.ref cda) ct cc
  ini : PySem.W.findIn K (.ref (d.C K)) "__init__" = some (some (.ref (d.f K)))
  ty : PySem.W.typeIn K (.ref (d.f K)) = some (.type "function")
  xf : XfC K (d.C K)
  no : PySem.W.findIn K (.ref (d.C K)) d.fl = some none
theorem exOk_of (X : K.In h) (G : h.Ns mainGlobals mg) (ok : d.ok P.main.file K = true) (e : fnI K (d.f K) = d.val) (gb : genB K = true) (S : InS d.fl d.scope) (par : ∃ ar : Arg, (d.params.posonlyargs ++ d.params.args).head? = some ar ∧ ar.arg = "self") (top : (P.main.scope.names.lookup ("super" : Str)).isSome = false) : ExOk P K mg d := by
  unfold ExD.ok at ok
  obtain ⟨ok, x14⟩ := ba ok
  obtain ⟨ok, x13⟩ := ba ok
  obtain ⟨ok, x12⟩ := ba ok
  obtain ⟨ok, x11⟩ := ba ok
  obtain ⟨ok, x10⟩ := ba ok
  obtain ⟨ok, x9⟩ := ba ok
  obtain ⟨ok, x8⟩ := ba ok
  obtain ⟨ok, x7⟩ := ba ok
  obtain ⟨ok, x6⟩ := ba ok
  obtain ⟨ok, x5⟩ := ba ok
  obtain ⟨ok, x4⟩ := ba ok
  obtain ⟨ok, x3⟩ := ba ok
  obtain ⟨x1, x2⟩ := ba ok
  obtain ⟨g1, g2⟩ := ba gb
  have TT : OexC K (d.C K) := ⟨clsB_ok x2, eqV_ok x4, of_decide_eq_true x5, of_decide_eq_true x6, x7⟩
  refine ⟨PySem.W.mg_of X G (eqV_ok x1), ?_, eqV_ok x12, of_decide_eq_true x13, xfB_ok x14, eqV_ok x11⟩
  unfold iniB at x3
  unfold fnI at e
  cases q : K.lookup (d.f K) with
  | none => rw [q] at x3; cases x3
  | some o =>
    rw [q] at x3 e
    obtain ⟨oc, od, dt, sl⟩ := o
    cases dt with
    | func fd =>
      simp only at x3 e
      split at x3
      · rename_i n cc cda ecl ecd edv
        obtain ⟨x3, y4⟩ := ba x3
        obtain ⟨x3, y3⟩ := ba x3
        obtain ⟨y1, y2⟩ := ba x3
        have en : n = ("__class__" : Str) := of_decide_eq_true y1
        subst en
        unfold ExD.val at e
        have e' := Option.some.inj e
        obtain ⟨nm, ql, pa, bo, scp, gl, cls, dV, kV, doc, pm, an, code, ct, blt⟩ := fd
        simp only [Prod.mk.injEq] at e'
        simp only at ecl ecd edv
        obtain ⟨rfl, rfl, rfl, rfl, rfl, rfl, rfl⟩ := e'
        subst ecl ecd edv
        refine ⟨_, ⟨TT, S, par, ⟨oc, od, sl, .none, kV, doc, pm, an, cda, ct, cc, rfl, q, y2, ?_, ?_⟩, eqV_ok x8, of_decide_eq_true x9, of_decide_eq_true x10, eqV_ok x11, eqV_ok g1, PySem.W.mg_none_of X G (eqV_ok g2), top⟩, kV, doc, pm, an, cda, ct, cc, rfl⟩
        · split at y3
          · rename_i a1 a2 C2 a3 lk
            have ec : C2 = d.C K := of_decide_eq_true y3
            subst ec
            exact ⟨a1, a2, a3, lk⟩
          · cases y3
        · split at y4
          · rename_i a1 a2 vs a3 lk
            split at y4
            · rename_i fl tf ev
              exact ⟨a1, a2, vs, a3, fl, tf, lk, ev, y4⟩
            · cases y4
          · cases y4
      · cases x3
    | _ => cases x3
end
end Mp
namespace Mp
open PySem PySem.Spec PyProof.Rows L2
/-- what a class must say -/
structure IsC (K : PySem.W.Frag) (C : Addr) : Prop where
  cl : (PySem.W.clsIn K C).isSome = true
  ga : PySem.W.findIn K (.ref C) "__getattribute__" = some (some (.builtin "BaseException.__getattribute__"))
  gt : PySem.W.findIn K (.ref C) "__getattr__" = some none
  sb : PySem.W.subIn K (.ref C) (.type "BaseException") = some true
  ha : PySem.W.findIn K (.ref C) "__class__" = some (some (.builtin "object.__class__"))
  hn : PySem.W.specialIn K (.builtin "object.__class__") "__get__" = some (some (.builtin "getset_descriptor.__get__"))
  ht : PySem.W.takesIn K (.builtin "object.__class__") = some true
  hm : PySem.W.mroIn K C (.type "object") = some true
def isCB (K : PySem.W.Frag) (C : Addr) : Bool := (PySem.W.clsIn K C).isSome && eqV (PySem.W.findIn K (.ref C) "__getattribute__") (some (some (.builtin "BaseException.__getattribute__"))) && eqV (PySem.W.findIn K (.ref C) "__getattr__") (some none) && decide (PySem.W.subIn K (.ref C) (.type "BaseException") = some true) &&
  eqV (PySem.W.findIn K (.ref C) "__class__") (some (some (.builtin "object.__class__"))) && decide (PySem.W.mroIn K C (.type "object") = some true)
def isCG (K : PySem.W.Frag) : Bool := eqV (PySem.W.specialIn K (.builtin "object.__class__") "__get__") (some (some (.builtin "getset_descriptor.__get__"))) && decide (PySem.W.takesIn K (.builtin "object.__class__") = some true)
theorem isC_of {K : PySem.W.Frag} {C : Addr} (h : isCB K C = true) (g : isCG K = true) : IsC K C := by
  unfold isCB at h
  unfold isCG at g
  obtain ⟨h, x6⟩ := ba h
  obtain ⟨h, x5⟩ := ba h
  obtain ⟨h, x4⟩ := ba h
  obtain ⟨h, x3⟩ := ba h
  obtain ⟨x1, x2⟩ := ba h
  obtain ⟨g1, g2⟩ := ba g
  exact ⟨x1, eqV_ok x2, eqV_ok x3, of_decide_eq_true x4, eqV_ok x5, eqV_ok g1, of_decide_eq_true g2, of_decide_eq_true x6⟩
/-- a class that is caught: its field, what isinstance says of it -/
structure CatD where
  name : Str
  fl : Option Str
  ts : List (Str × Bool)
def CatD.ok (K : PySem.W.Frag) (d : CatD) : Bool := eqV (PySem.W.nsIn K mainGlobals d.name) (some (some (.ref (He.ga K d.name)))) && xfB K (He.ga K d.name) && isCB K (He.ga K d.name) && (match d.fl with | some f => eqV (PySem.W.findIn K (.ref (He.ga K d.name)) f) (some none) | none => true) &&
  d.ts.all fun t => eqV (PySem.W.nsIn K mainGlobals t.1) (some (some (.ref (He.ga K t.1)))) && decide (PySem.W.kitOne K (.ref (He.ga K d.name)) (.ref (He.ga K t.1)) = some t.2)
/-- which catches which -/
def exmB (K : PySem.W.Frag) (ds : List CatD) : Bool := ds.all fun a => ds.all fun b => decide (PySem.W.exmOne K (.ref (He.ga K a.name)) (.ref (He.ga K b.name)) = some (decide (a.name = b.name)))
structure CatOk (K : PySem.W.Frag) (mg : Str → Option Value) (d : CatD) : Prop where
  glo : mg d.name = some (.ref (He.ga K d.name))
  xf : XfC K (He.ga K d.name)
  no : ∀ f, d.fl = some f → PySem.W.findIn K (.ref (He.ga K d.name)) f = some none
  is_ : IsC K (He.ga K d.name)
  ts : ∀ t b, (t, b) ∈ d.ts → mg t = some (.ref (He.ga K t)) ∧ PySem.W.kitOne K (.ref (He.ga K d.name)) (.ref (He.ga K t)) = some b
theorem catOk_of {K : PySem.W.Frag} {mg : Str → Option Value} {h : Heap} {d : CatD} (X : K.In h) (G : h.Ns mainGlobals mg) (ok : d.ok K = true) (g : isCG K = true) : CatOk K mg d := by
  unfold CatD.ok at ok
  obtain ⟨ok, x5⟩ := ba ok
  obtain ⟨ok, x4⟩ := ba ok
  obtain ⟨ok, x3⟩ := ba ok
  obtain ⟨x1, x2⟩ := ba ok
  refine ⟨PySem.W.mg_of X G (eqV_ok x1), xfB_ok x2, fun f hf => ?_, isC_of x3 g, fun t b ht => ?_⟩
  · rw [hf] at x4
    exact eqV_ok x4
  · have := List.all_eq_true.mp x5 _ ht
    obtain ⟨y1, y2⟩ := ba this
    exact ⟨PySem.W.mg_of X G (eqV_ok y1), of_decide_eq_true y2⟩
def exAll (file : Str) (exs : List ExD) (cats : List CatD) (blts : List (Str × String)) (K : PySem.W.Frag) : Bool := genB K && exs.all (fun d => d.ok file K) && (cats.isEmpty || isCG K) && cats.all (fun d => d.ok K) && exmB K cats && bltB K blts
/-- what the module's names reach, and the statics -/
def asM (g : Addr → Option Obj) : Nat → List Addr
  | 0 => [mainGlobals, cStatics]
  | n + 1 => He.growD g (asM g n)
def frM (g : Addr → Option Obj) (n : Nat) : PySem.W.Frag := He.frT g (asM g n)
abbrev AlM : Type := He.AlT × Bool × List FnI
def obsM (n : Nat) (fa : List He.Fa) (fn : List He.DefD) (tf : List He.Defn) (file : Str) (exs : List ExD) (cats : List CatD) (blts : List (Str × String)) (g : Addr → Option Obj) : AlM :=
  (He.obsT fa fn [] (frM g n), exAll file exs cats blts (frM g n) && He.tabsB g tf (frM g n), exs.map fun d => fnI (frM g n) (d.f (frM g n)))
def valM (fn : List He.DefD) (exs : List ExD) (w : World) : AlM := (He.valT fn [] w, true, exs.map ExD.val)
structure SaysM (fa : List He.Fa) (fn : List He.DefD) (tf : List He.Defn) (file : Str) (exs : List ExD) (cats : List CatD) (blts : List (Str × String)) (w : World) (h : Heap) (K : PySem.W.Frag) : Prop where
  t : He.SaysT fa fn [] w K
  more : exAll file exs cats blts K = true
  hd : ∀ p ∈ tf, PySem.W.codeHdIn K (He.cT K p).1 (He.cT K p).2 = true
  out : ∀ p ∈ tf, K.lookup (He.cT K p).2 = none
  empty : ∀ p ∈ tf, h.get? (He.cT K p).2 = some { cls := .none, data := .fields #[] }
  ins : exs.map (fun d => fnI K (d.f K)) = exs.map ExD.val
theorem saysM_of {n : Nat} {fa : List He.Fa} {fn : List He.DefD} {tf : List He.Defn} {file : Str} {exs : List ExD} {cats : List CatD} {blts : List (Str × String)} {w : World} {h : Heap} (e : obsM n fa fn tf file exs cats blts h.get? = valM fn exs w) : SaysM fa fn tf file exs cats blts w h (frM h.get? n) := by
  have e1 : He.obsT fa fn [] (frM h.get? n) = He.valT fn [] w := congrArg (fun z : AlM => z.1) e
  have e2 : (exAll file exs cats blts (frM h.get? n) && He.tabsB h.get? tf (frM h.get? n)) = true := congrArg (fun z : AlM => z.2.1) e
  have e3 := congrArg (fun z : AlM => z.2.2) e
  obtain ⟨h1, h2⟩ := ba e2
  have one : ∀ p ∈ tf, PySem.W.codeHdIn (frM h.get? n) (He.cT (frM h.get? n) p).1 (He.cT (frM h.get? n) p).2 = true ∧ ∃ o, h.get? (He.cT (frM h.get? n) p).2 = some o ∧ He.emptyTab o = true := fun p hp => by
    obtain ⟨q1, q2⟩ := ba (List.all_eq_true.mp h2 p hp)
    refine ⟨q1, ?_⟩
    cases q : h.get? (He.cT (frM h.get? n) p).2 with
    | none => rw [q] at q2; cases q2
    | some o => rw [q] at q2; exact ⟨o, rfl, q2⟩
  refine ⟨e1, h1, fun p hp => (one p hp).1, fun p hp => ?_, fun p hp => ?_, e3⟩
  · obtain ⟨_, o, q, z⟩ := one p hp
    exact He.frT_none q z
  · obtain ⟨_, o, q, z⟩ := one p hp
    rw [q, He.emptyTab_eq z]
def hookM (n : Nat) (fa : List He.Fa) (fn : List He.DefD) (tf : List He.Defn) (file : Str) (exs : List ExD) (cats : List CatD) (blts : List (Str × String)) : PySem.W.Hook where
  α := AlM
  obs := fun s => obsM n fa fn tf file exs cats blts s.heap.get?
  val := fun w => valM fn exs w
  says := fun w h => ∃ K : PySem.W.Frag, K.In h ∧ SaysM fa fn tf file exs cats blts w h K
  of := fun _ _ e => ⟨_, He.frT_in, saysM_of e⟩
  keeps := fun _ _ _ ⟨K, hK, c⟩ k => ⟨K, PySem.W.Frag.In.keeps hK k, ⟨c.t, c.more, c.hd, c.out, fun p hp => k _ _ (c.empty p hp), c.ins⟩⟩
theorem obsM_eq {n : Nat} {fa : List He.Fa} {fn : List He.DefD} {tf : List He.Defn} {file : Str} {exs : List ExD} {cats : List CatD} {blts : List (Str × String)} {g : Addr → Option Obj} {s : Shared} (h : ∀ a, g a = s.heap.get? a) : obsM n fa fn tf file exs cats blts g = (hookM n fa fn tf file exs cats blts).obs s := by
  have e : g = s.heap.get? := funext h
  rw [e] <;> rfl
section
variable {fa : List He.Fa} {fn : List He.DefD} {tf : List He.Defn} {file : Str} {exs : List ExD} {cats : List CatD} {blts : List (Str × String)} {w : World} {h : Heap} {K : PySem.W.Frag}
theorem SaysM.fact (c : SaysM fa fn tf file exs cats blts w h K) {f : He.Fa} (hf : f ∈ fa) : f.ok K = true := c.t.d.facts hf
theorem SaysM.defs (c : SaysM fa fn tf file exs cats blts w h K) {d : He.DefD} (hd : d ∈ fn) : ∃ fd, FunD K d.name d.qual d.params d.body d.scope (d.dvs K) (d.kws K) (He.fAd K d.at_) fd := c.t.d.defs hd
theorem SaysM.parts (c : SaysM fa fn tf file exs cats blts w h K) : genB K = true ∧ (∀ d ∈ exs, d.ok file K = true) ∧ (cats = [] ∨ isCG K = true) ∧ (∀ d ∈ cats, d.ok K = true) ∧ exmB K cats = true ∧ bltB K blts = true := by
  have m := c.more
  unfold exAll at m
  obtain ⟨m, m6⟩ := ba m
  obtain ⟨m, m5⟩ := ba m
  obtain ⟨m, m4⟩ := ba m
  obtain ⟨m, m3⟩ := ba m
  obtain ⟨m1, m2⟩ := ba m
  refine ⟨m1, List.all_eq_true.mp m2, ?_, List.all_eq_true.mp m4, m5, m6⟩
  cases cats with
  | nil => exact .inl rfl
  | cons a l => exact .inr m3
theorem SaysM.exc (c : SaysM fa fn tf file exs cats blts w h K) {d : ExD} (hd : d ∈ exs) : d.ok file K = true ∧ fnI K (d.f K) = d.val ∧ genB K = true := by
  obtain ⟨m1, m2, _⟩ := c.parts
  refine ⟨m2 d hd, ?_, m1⟩
  obtain ⟨i, hi, e⟩ := List.mem_iff_getElem.mp hd
  have q : (exs.map (fun d => fnI K (d.f K)))[i]? = (exs.map ExD.val)[i]? := by rw [c.ins]
  rw [List.getElem?_map, List.getElem?_map, List.getElem?_eq_getElem hi, e] at q
  exact Option.some.inj q
theorem SaysM.cat (c : SaysM fa fn tf file exs cats blts w h K) {d : CatD} (hd : d ∈ cats) : d.ok K = true ∧ isCG K = true := by
  obtain ⟨_, _, m3, m4, _⟩ := c.parts
  refine ⟨m4 d hd, ?_⟩
  rcases m3 with e | e
  · subst e
    cases hd
  · exact e
theorem SaysM.exm (c : SaysM fa fn tf file exs cats blts w h K) {a b : CatD} (ha : a ∈ cats) (hb : b ∈ cats) : PySem.W.exmOne K (.ref (He.ga K a.name)) (.ref (He.ga K b.name)) = some (decide (a.name = b.name)) := by
  obtain ⟨_, _, _, _, m5, _⟩ := c.parts
  exact of_decide_eq_true (List.all_eq_true.mp (List.all_eq_true.mp m5 a ha) b hb)
theorem SaysM.blt (c : SaysM fa fn tf file exs cats blts w h K) {p : Str × String} (hp : p ∈ blts) : PySem.W.nsIn K mainGlobals p.1 = some (some (.builtin p.2)) := by
  obtain ⟨_, _, _, _, _, m6⟩ := c.parts
  exact eqV_ok (List.all_eq_true.mp m6 p hp)
end
end Mp
set_option maxHeartbeats 4000000
namespace Mp
open PySem PySem.Spec PyProof.Rows L2
section
variable {fa : List He.Fa} {fn : List He.DefD} {tf : List He.Defn} {file : Str} {exs : List ExD} {cats : List CatD} {blts : List (Str × String)} {w : World} {h base : Heap} {K : PySem.W.Frag} {mg : Str → Option Value} {P : Program}
theorem code_ref {p : Str × Option Str} {name qual : Str} {params : Arguments} {body : List Stmt} {scope : Scope} {fd : FuncData} (F : FunD K name qual params body scope [] [] (He.fAd K p) fd) : fd.code = .ref (He.codeOf K p) := by
  obtain ⟨oc, od, dV, kV, doc, pm, an, cdv, ct, osl, rfl, lk, hcd, _, _⟩ := F.ex
  cases cdv with
  | ref c =>
    have e := He.codeOf_eq lk rfl
    rw [e]
  | _ => cases hcd
theorem raise_of {d : ExD} (hfl : FlOk d.fl) (E : ExOk P K mg d) {m : Str} {j : Nat} {p0 p1 p2 p3 p4 p5 p6 p7 p8 p9 p10 : Pos} (hb0 : d.body = inBody d.fl m j p0 p1 p2 p3 p4 p5 p6 p7 p8 p9 p10)
    (he : ∀ env : PySem.Env, ∃ pl, eval (.Call (.Attribute (.Call (.Name "super" p0) [] [] p1) "__init__" p2) [.Constant (.str m) j p3, .Name d.fl p4] [] p5) env = (do
      let ov ← attributeBase (.Call (.Name "super" p0) [] [] p1) "__init__" env (eval (.Call (.Name "super" p0) [] [] p1) env)
      standAt p2.atName
      let (g, first) ← holding [ov] (getMethod ov "__init__" pl)
      callWith p5 g first (backTo p5 (starEach [.Constant (.str m) j p3, .Name d.fl p4] env)) []))
    (hb : ∀ (kV doc pm : Value) (an : Option Addr) (cda : Addr) (ct : Value) (cc : Addr) (us : List Value), us.length = 2 → bindArgs (PySem.W.ksFn "__init__" d.qual d.params d.body d.scope .none kV doc pm an (.ref cda) ct cc) ⟨us, []⟩ = pure ((inN d.fl).zip us)) : RaiseOk P w K mg base d.name d.fl := by
  obtain ⟨fd, S, kV, doc, pm, an, cda, ct, cc, rfl⟩ := E.sup
  exact ⟨_, _, _, E.glo, S.T, .all fun us hl => hb _ _ _ _ _ _ _ us hl, E.ini, E.ty, init_fn hfl S hb0 he⟩
theorem glo_of {d : ExD} (X : K.In h) (G : h.Ns mainGlobals mg) (c : SaysM fa fn tf file exs cats blts w h K) (hd : d ∈ exs) : mg d.name = some (.ref (d.C K)) := by
  have z := (c.exc hd).1
  unfold ExD.ok at z
  simp only [Bool.and_eq_true] at z
  exact PySem.W.mg_of X G (eqV_ok z.1.1.1.1.1.1.1.1.1.1.1.1.1)
theorem blt_of {p : Str × String} (X : K.In h) (G : h.Ns mainGlobals mg) (c : SaysM fa fn tf file exs cats blts w h K) (hp : p ∈ blts) : mg p.1 = some (.builtin p.2) := PySem.W.mg_of X G (c.blt hp)
theorem cat_of {d : CatD} (X : K.In h) (G : h.Ns mainGlobals mg) (c : SaysM fa fn tf file exs cats blts w h K) (hd : d ∈ cats) : CatOk K mg d := catOk_of X G (c.cat hd).1 (c.cat hd).2
theorem sub_of (X : K.In h) (G : h.Ns mainGlobals mg) (c : SaysM fa fn tf file exs cats blts w h K) {names : List Str} (hn : ∀ a ∈ names, ∃ d ∈ cats, d.name = a) : SubOk K mg (sameE names) :=
  subOk_same fun a ha b hb ca cb h1 h2 => by
    obtain ⟨d, hd, rfl⟩ := hn a ha
    obtain ⟨d', hd', rfl⟩ := hn b hb
    rw [(cat_of X G c hd).glo] at h1
    rw [(cat_of X G c hd').glo] at h2
    cases h1
    cases h2
    exact c.exm hd hd'
end
end Mp
set_option maxHeartbeats 4000000
namespace Mp
open PySem PySem.Spec PyProof.Rows L2

def insM (M : Mem) (x : U) (i : Int) (d : D) : Option Mem := match x with
  | .loc n => match M[n]? with
    | some (.lst xs) => if xs.length < 16777216 ∧ 0 ≤ i ∧ i < 2 ^ 63 then some (M.set n (.lst (xs.take i.toNat ++ [d] ++ xs.drop i.toNat))) else none
    | _ => none
  | _ => none
def insG (M : Mem) (x : U) (us : List U) : Option (U × Mem) := match us with | [.p (.int i), .p d] => (insM M x i d).map fun M' => (.p .non, M') | _ => none
def rIns : V → List V → Hp → VK → Prop := fun x vs H Q => ∃ (l : Addr) (xs : List V) (i : Int) (y : V), x = .ref l ∧ vs = [.int i, y] ∧ H l = some (.lst xs) ∧ xs.length < sizeLine ∧ 0 ≤ i ∧ i < 2 ^ 63 ∧ Q .non (upd H l (.lst (xs.take i.toNat ++ [y] ++ xs.drop i.toNat)))
section
variable {X : Cx} {T : List (Addr × Str)} {W : WX} {o e e2 : Expr} {fo : Fx} {fa : Fa} {apos cpos : Pos}
theorem pm_insert : PM X.K T insG rIns := fun bad μ M H x ds v vs d M' Q rm rx rs e q => by
  unfold insG at e
  split at e
  · rename_i i d1
    cases rs with
    | cons r1 r2 =>
    cases r2 with
    | cons r3 r4 =>
    cases r4
    cases r1 with
    | p r1 =>
    cases r1
    cases r3 with
    | p rw1 =>
    rename_i w
    unfold insM at e
    split at e
    · rename_i n
      cases rx with
      | loc hm =>
      split at e
      · rename_i xs em
        split at e
        · rename_i hl
          cases e
          cases rm.at_ n _ _ em hm with
          | @lst _ a ys hz hH r =>
          have hl2 : ys.length < sizeLine := by rw [← r.length, sizeLine_eq]; exact hl.1
          obtain ⟨g, rm2⟩ := lst_wr (ws := ys.take i.toNat ++ [w] ++ ys.drop i.toNat) rm hm hH (by simp only [List.length_append, List.length_take, List.length_drop, List.length_singleton]; omega) (((r.take i.toNat).app (.cons rw1 .nil)).app (r.drop i.toNat))
          exact ⟨_, ys, i, w, rfl, rfl, hH, hl2, hl.2.1, hl.2.2, q _ _ g rm2 (.p .non)⟩
        · cases e
      · cases e
    · cases e
  · cases e
theorem de_insert (ho : DE X T W o fo) (ha : DA X T W [e, e2] fa) (hbase : attributeBase o "insert" X.env (eval o X.env) = eval o X.env := by rfl)
    (hfew : ((backTo cpos (starEach [e, e2] X.env)).all (fun x => !x.1) && (backToKw cpos (keywordEach [] X.env)).all (fun x => x.1.isSome)
      && decide (([e, e2] : List Expr).length + ([] : List Keyword).length + (if ([] : List Keyword).isEmpty then 0 else 1) < 30)) = true := by rfl)
    (hline : (apos.endLine == cpos.line) = true := by rfl) (hs : starEach [e, e2] X.env = (false, eval e X.env) :: starEach [e2] X.env := by rfl) (hplain : (backTo cpos (starEach [e2] X.env)).any (·.1) = false := by rfl) :
    DE X T W (.Call (.Attribute o "insert" apos) [e, e2] [] cpos) (methF insG fo fa) := de_meth PySem.F.slot_list_insert PySem.F.type_list_insert mt_insert pm_insert ho ha hbase hfew hline hs hplain
end

section
variable {X : Cx} {T : List (Addr × Str)} {W : WX} {gd : Bool} {k : Nat} {f : Addr} {fd : FuncData} {ps : List Str} {F : List U → Mem → Res U} {x : Str} {p pos : Pos} {e : Expr} {es : List Expr} {fa : Fa}
theorem de_call0 (D : DefOk T gd X.prog X.w X.K X.mg X.base k x [] F) (hr : Room k X.A) (hgd : gd = true → X.A.guards = some []) (tk : Takes X W) (hg : Gl X x) (hdb : (x == ("__debug__" : Str)) = false := by decide) :
    DE X T W (.Call (.Name x p) [] [] pos) (callF F nilA) := by
  obtain ⟨f, fd, hm, hk, hb, hF⟩ := D.ex
  refine ⟨⟨fun pins s σ H Q I ⟨bad, μ, Γ, M, rm, rg, h⟩ => ?_⟩⟩
  refine wpAny_Call_Name_kw (ld_glob I hg hm ?_ hdb)
  refine PySem.W.callWith_K0 (first := []) I.kIn hk ?_
  have b := hb s [] I.kIn rfl
  refine wpAny_call (codeAny_mono (hF.run X.A X.stack s H ⟨[], []⟩ [] [] Q (WE W σ) hr hgd I.env0 b .nil ⟨_, _, M, [], rm, .nil, rfl, h⟩) fun r s' hq => ?_)
  cases r with
  | error e => exact passAt tk σ pins H s e s' I hq
  | ok fl =>
    cases fl with
    | ret u => exact I.after hq
    | next => exact False.elim hq
    | brk => exact False.elim hq
    | cont => exact False.elim hq
end

structure DK (X : Cx) (T : List (Addr × Str)) (W : WX) (kws : List Keyword) (f : Fa) : Prop where
  pk : PK X kws (tAv X.K X.mg T W f)
  len : ∀ Γ M ds M', f Γ M = .ok ds M' → ds.length = kws.length
theorem pkW {X : Cx} {e : List Keyword} {t t' : TA} (h : PK X e t) (hw : ∀ σ H Q, t' σ H Q → t σ H Q) : PK X e t' := ⟨fun p pins s σ H Q I q => h.run p pins s σ H Q I (hw σ H Q q)⟩
structure DefKw (T : List (Addr × Str)) (gd : Bool) (P : Program) (w : World) (K : PySem.W.Frag) (mg : Str → Option Value) (base : Heap) (k : Nat) (x : Str) (ps : List Str) (F : List U → Mem → Res U) : Prop where
  ex : ∃ f fd, mg x = some (.ref f) ∧ PySem.W.keepIn K (.ref f) = true ∧ (∀ (s : Shared) (us : List Value), us.length = ps.length → BindsTo s fd ⟨[], ps.zip us⟩ (ps.zip us)) ∧ FnD T gd P w K mg base k f fd ps F
theorem bindsKw {K : PySem.W.Frag} {x qual : Str} {params : Arguments} {body : List Stmt} {scope : Scope} {kws : List (Str × V)} {f : Addr} {fd : FuncData} {ps : List Str} (F : FunD K x qual params body scope [] kws f fd)
    (h : ∀ (kV doc pm : Value) (an : Option Addr) (cdv ct : Value) (us : List Value), us.length = ps.length → bindArgs (PySem.W.fnOf x qual params body scope .none kV doc pm an cdv ct) ⟨[], ps.zip us⟩ = pure (ps.zip us)) (s : Shared) (us : List Value) (hl : us.length = ps.length) : BindsTo s fd ⟨[], ps.zip us⟩ (ps.zip us) := by
  obtain ⟨oc, od, dV, kV, doc, pm, an, cdv, ct, osl, rfl, lk, hcd, hD, hK⟩ := F.ex
  rcases hD with ⟨_, rfl⟩ | ⟨e, _⟩
  · exact .of_eq (h kV doc pm an cdv ct us hl)
  · exact absurd rfl e
section
variable {X : Cx} {T : List (Addr × Str)} {W : WX} {gd : Bool} {k : Nat} {ps : List Str} {F : List U → Mem → Res U} {x : Str} {p pos kpos : Pos} {e : Expr} {nm : Option Str} {kws : List Keyword} {fa g : Fa} {f : Fx}
theorem dk_nil : DK X T W [] nilA := ⟨pkW pk_nil fun σ H Q ⟨bad, μ, Γ, M, rm, rg, h⟩ => PostA.here h rm .nil, fun Γ M ds M' e => by injection e with e1; rw [← e1]; rfl⟩
theorem dk_cons (he : DE X T W e f) (hr : DK X T W kws g) : DK X T W (⟨nm, e, kpos⟩ :: kws) (consA f g) := by
  refine ⟨pkW (pk_cons he.pe hr.pk) fun σ H Q ⟨bad, μ, Γ, M, rm, rg, h⟩ => ?_, fun Γ M ds M' e => ?_⟩
  · refine ⟨bad, μ, Γ, M, rm, rg, (PostA.bind h).mono ?_⟩
    rintro v H1 ⟨ν, d, M1, g1, rm1, rv1, h1⟩
    refine ⟨_, _, Γ, M1, rm1, rg.gr g1 rm.sub, (PostA.bindA h1).mono ?_⟩
    rintro vs H2 ⟨ν2, ds, M2, g2, rm2, rv2, h2⟩
    exact PostA.here h2 rm2 (.cons (rv1.gr g2 rm1.sub) rv2)
  · unfold consA at e
    cases e1 : f Γ M with
    | ok d M1 =>
      rw [e1] at e
      simp only [Res.bind] at e
      cases e2 : g Γ M1 with
      | ok ds2 M2 =>
        rw [e2] at e
        simp only [Res.bind] at e
        injection e with e3
        rw [← e3]
        simp [hr.len _ _ _ _ e2]
      | exc x M2 => rw [e2] at e; simp [Res.bind] at e
      | stuck => rw [e2] at e; simp [Res.bind] at e
    | exc x M1 => rw [e1] at e; simp [Res.bind] at e
    | stuck => rw [e1] at e; simp [Res.bind] at e
theorem de_callKw (D : DefKw T gd X.prog X.w X.K X.mg X.base k x ps F) (hr : Room k X.A) (hgd : gd = true → X.A.guards = some []) (tk : Takes X W) (hg : Gl X x) (ha : DK X T W kws fa) (hn : kws.length = ps.length := by rfl)
    (hks : (backToKw pos (keywordEach kws X.env)).filterMap (·.1) = ps := by rfl) (hall : (backToKw pos (keywordEach kws X.env)).all (·.1.isSome) = true := by rfl) (hdb : (x == ("__debug__" : Str)) = false := by decide)
    (hpl : ((backTo pos (starEach [] X.env)).any (·.1) || (backToKw pos (keywordEach kws X.env)).any (·.1.isNone)) = false := by rfl) :
    DE X T W (.Call (.Name x p) [] kws pos) (callF F fa) := by
  obtain ⟨f, fd, hm, hk, hb, hF⟩ := D.ex
  refine ⟨⟨fun pins s σ H Q I ⟨bad, μ, Γ, M, rm, rg, h⟩ => ?_⟩⟩
  refine wpAny_Call_Name_kw (ld_glob I hg hm ?_ hdb)
  refine PySem.W.callWith_KW0 (h₀ := X.base) (first := []) I.ok.mod.kin hk hall (thn (ha.pk.run pos pins s σ H _ I ⟨bad, μ, Γ, M, rm, rg, PostA.len (fun ds M' e => ha.len Γ M ds M' e) (Post.bindA h)⟩) fun us s1 ⟨vs, H1, I1, r, hlen, ν, ds, M1, g1, rm1, rv1, q⟩ => ⟨I1.kIn, ?_⟩) hpl
  rw [hks]
  have hl : us.length = ps.length := by rw [← r.length, hlen]; exact hn
  have b := hb s1 us hl
  refine wpAny_call (codeAny_mono (hF.run X.A X.stack s1 H1 ⟨[], ps.zip us⟩ us vs Q (WE W σ) hr hgd I1.env0 b r ⟨_, _, M1, ds, rm1, rv1, by rw [rv1.length, hlen]; exact hn, q⟩) fun r s' hq => ?_)
  cases r with
  | error e => exact passAt tk σ pins H1 s1 e s' I1 hq
  | ok fl =>
    cases fl with
    | ret u => exact I1.after hq
    | next => exact False.elim hq
    | brk => exact False.elim hq
    | cont => exact False.elim hq
end
end Mp
set_option maxHeartbeats 4000000
namespace Mp
open PySem PySem.Spec PyProof.Rows L2

/-- what a clause notes behind its tag: a field, whether it is one of a class -/
inductive HIt where
  | fld (f : Str)
  | isi (b : Bool)
def itsD (e : Ex) : List HIt → Option (List D)
  | [] => some []
  | .fld f :: r => match e.fields with
    | [(g, d)] => if g = f then (itsD e r).map (d :: ·) else none
    | _ => none
  | .isi b :: r => if e.fields = [] then none else (itsD e r).map (.bl b :: ·)
def catchH (sub : Str → Str → Option Bool) : List (Str × Str × List HIt) → Str → Option (Str × List HIt)
  | [], _ => none
  | (c, tag, its) :: r, x => match sub x c with
    | some true => some (tag, its)
    | some false => catchH sub r x
    | none => none
def heardF (sub : Str → Str → Option Bool) (w0 : Str) (cl : List (Str × Str × List HIt)) (fb : Fx) : Fx := fun Γ M => match fb Γ M with
  | .ok (.p d) M1 => .ok (.p (.tup [.str w0, d])) M1
  | .exc e M1 => match catchH sub cl e.cls with
    | some (tag, its) => match itsD e its with
      | some ds => .ok (.p (.tup (.str tag :: ds))) M1
      | none => .stuck
    | none => .stuck
  | _ => .stuck

/-- isinstance(e, C2), e the exception that the suite holds -/
def rIsX (K : PySem.W.Frag) (C a : Addr) (cls : Value) (d : Option Addr) : List V → Hp → VK → Prop := fun xs H Q => ∃ (C2 : Addr) (b : Bool) (dd : Addr) (fs : List (Str × V)), xs = [.ref a, .ref C2] ∧ cls = .ref C ∧ d = some dd ∧ H dd = some (.xd fs) ∧ PySem.W.kitOne K (.ref C) (.ref C2) = some b ∧ Q (.bl b) H
theorem call_isX {X : Cx} {a C : Addr} {oe : Obj} {cls : Value} {d : Option Addr} {pn : List (Addr × Obj)} (c : IsC X.K C) (hz : Zc cls d oe) (hf : ∃ vs, oe.data = .fields vs) : CallR (X.suite a ((a, oe) :: pn)) (.builtin "isinstance") (rIsX X.K C a cls d) := by
  intro pins s σ H xs us Q I r h
  obtain ⟨C2, b, dd, fs, rfl, rfl, rfl, ea, e, q⟩ := h
  cases r with
  | cons rx rr =>
    cases rr with
    | cons rt rr =>
      cases rr
      cases rx
      cases rt
      obtain ⟨hget, _⟩ := I.pin (a, oe) (List.mem_append.mpr (.inl List.mem_cons_self))
      obtain ⟨vs, hv⟩ := hf
      have hx : ObjOk X.prog X.w H s.heap dd (.xd fs) := I.hok dd _ ea
      obtain ⟨mA, hns, hr⟩ := hx
      obtain ⟨od, ho, hl⟩ := lookIn_ns hns
      have J : PySem.W.InstAt s.heap a oe C (some od) := ⟨hget, hz.1, by unfold PySem.W.notCls; rw [hv] <;> rfl, by rw [hz.2]; exact ho⟩
      exact PySem.W.kia_one (PySem.W.kitx_exc c.cl c.ga c.gt c.sb c.ha c.hn c.ht c.hm) I.kIn J e (fun z => nomatch z) fun tk => ⟨.bl b, H, I.kept (t' := tk) fun _ _ z => z, rfl, q⟩

inductive HItOk (X : Cx) (n : Str) (C : Addr) : List Expr → List HIt → Prop
  | nil : HItOk X n C [] []
  | fld {f : Str} {p4 p3 : Pos} {es : List Expr} {its : List HIt} (T : XfC X.K C) (hno : PySem.W.findIn X.K (.ref C) f = some none) (hat : ∀ env : PySem.Env, attributeBase (.Name n p4) f env (eval (.Name n p4) env) = eval (.Name n p4) env)
      (hs : ∀ env : PySem.Env, starEach (.Attribute (.Name n p4) f p3 :: es) env = (false, eval (.Attribute (.Name n p4) f p3) env) :: starEach es env) (r : HItOk X n C es its) : HItOk X n C (.Attribute (.Name n p4) f p3 :: es) (.fld f :: its)
  | isi {tn : Str} {C2 : Addr} {b : Bool} {p1 p2 p3 p4 : Pos} {es : List Expr} {its : List HIt} (c : IsC X.K C) (hg : Gl X "isinstance") (hm : X.mg "isinstance" = none) (hg2 : Gl X tn) (hm2 : X.mg tn = some (.ref C2)) (hd2 : (tn == ("__debug__" : Str)) = false)
      (hk : PySem.W.kitOne X.K (.ref C) (.ref C2) = some b)
      (hs : ∀ env : PySem.Env, starEach (.Call (.Name "isinstance" p1) [.Name n p2, .Name tn p3] [] p4 :: es) env = (false, eval (.Call (.Name "isinstance" p1) [.Name n p2, .Name tn p3] [] p4) env) :: starEach es env) (r : HItOk X n C es its) :
      HItOk X n C (.Call (.Name "isinstance" p1) [.Name n p2, .Name tn p3] [] p4 :: es) (.isi b :: its)
/-- what they come to -/
inductive HVs (dx : Option Addr) (H : Hp) : List HIt → List V → Prop
  | nil : HVs dx H [] []
  | fld {f : Str} {dd : Addr} {fs : List (Str × V)} {v : V} {its : List HIt} {vs : List V} : dx = some dd → H dd = some (.xd fs) → fs.lookup f = some v → HVs dx H its vs → HVs dx H (.fld f :: its) (v :: vs)
  | isi {b : Bool} {dd : Addr} {fs : List (Str × V)} {its : List HIt} {vs : List V} : dx = some dd → H dd = some (.xd fs) → HVs dx H its vs → HVs dx H (.isi b :: its) (.bl b :: vs)
theorem HVs.len {dx : Option Addr} {H : Hp} : ∀ {its : List HIt} {vs : List V}, HVs dx H its vs → vs.length = its.length
  | _, _, .nil => rfl
  | _, _, .fld _ _ _ r => by simp [HVs.len r]
  | _, _, .isi _ _ r => by simp [HVs.len r]
/-- .. as an evaluation of arguments -/
def tIts (a C : Addr) (dx : Option Addr) (i : Nat) (its : List HIt) (cls : Value) : TA := fun σ H Q => σ[i]? = some (some (.ref a)) ∧ cls = .ref C ∧ ∃ vs, HVs dx H its vs ∧ Q vs H
theorem pa_its {X : Cx} {a C : Addr} {oe : Obj} {cls : Value} {d : Option Addr} {pn : List (Addr × Obj)} {n : Str} {i : Nat} (hz : Zc cls d oe) (hf : ∃ vs, oe.data = .fields vs) (hi : X.N[i]? = some n) (hn : X.env.scope.names.lookup n = some .local)
    (hd : (n == ("__debug__" : Str)) = false) (hcd : (n == ("__classdict__" : Str)) = false) : ∀ {es : List Expr} {its : List HIt}, HItOk X n C es its → PA (X.suite a ((a, oe) :: pn)) es (tIts a C d i its cls)
  | _, _, .nil => paW pa_nil fun σ H Q ⟨_, _, vs, hv, q⟩ => by cases hv; exact q
  | _, _, .fld (p4 := p4) T hno hat hs r => by
    refine paW (pa_cons (pe_xf (n := _) T hno hz hf (pe_var (i := i) (pos := p4) hi (.inl hn) hd hcd) (hat _)) (pa_its hz hf hi hn hd hcd r) (hs _)) fun σ H Q ⟨h1, h2, vs, hv, q⟩ => ?_
    cases hv with
    | fld e1 e2 e3 r2 => exact ⟨.ref a, h1, rfl, h2, _, _, _, e1, e2, e3, h1, h2, _, r2, q⟩
  | _, _, .isi (C2 := C2) (p1 := p1) (p2 := p2) (p3 := p3) c hg hm hg2 hm2 hd2 hk hs r => by
    refine paW (pa_cons (pe_callB (call_isX (pn := pn) (C := C) c hz hf) hg hm (by decide +kernel) (pa_cons (pe_var (i := i) (pos := p2) hi (.inl hn) hd hcd) (pa_cons (pe_glob (v := .ref C2) (pos := p3) hg2 hm2 rfl hd2) pa_nil)) (by decide) (by decide)) (pa_its hz hf hi hn hd hcd r) (hs _)) fun σ H Q ⟨h1, h2, vs, hv, q⟩ => ?_
    cases hv with
    | isi e1 e2 r2 => exact ⟨.ref a, h1, C2, _, _, _, rfl, h2, e1, e2, hk, h1, h2, _, r2, q⟩
/-- what the helper wishes of an exception -/
def hE (K : PySem.W.Frag) (Q : VK) : List (Addr × Str × List HIt) → XK
  | [] => fun _ _ _ => False
  | (C, tag, its) :: r => fun cls dx H => ∃ b, PySem.W.exmOne K cls (.ref C) = some b ∧ (b = true → cls = .ref C ∧ ∃ vs, HVs dx H its vs ∧ ∀ p, H p = none → Q (.ref p) (upd H p (.tup (.str tag :: vs)))) ∧ (b = false → hE K Q r cls dx H)
def TTheard (K : PySem.W.Frag) (w0 : Str) (CT : List (Addr × Str × List HIt)) : (XK → Hp → VK → Prop) → Hp → VK → Prop := fun tl H Q => tl (hE K Q CT) H fun v H1 => ∀ p, H1 p = none → Q (.ref p) (upd H1 p (.tup [.str w0, v]))
/-- the clauses, as they are written: j the slot of what is told -/
inductive HcOk (X : Cx) (j : Nat) (y : Str) : List ExceptHandler → List (Addr × Str × List HIt) → Prop
  | nil : HcOk X j y [] []
  | cons {cn n tag : Str} {i k l : Nat} {C : Addr} {es : List Expr} {its : List HIt} {p1 p2 p5 p6 p7 p8 : Pos} {hs : List ExceptHandler} {CT : List (Addr × Str × List HIt)} (hc : Names X cn (.ref C)) (hi : X.N[i]? = some n) (hn : X.env.scope.names.lookup n = some .local) (hij : i ≠ j) (ho : HItOk X n C es its) (hfew : its.length ≤ 10)
      (hd : (n == ("__debug__" : Str)) = false) (hcd : (n == ("__classdict__" : Str)) = false) (hs1 : ∀ env : PySem.Env, starEach (.Constant (.str tag) k p2 :: es) env = (false, eval (.Constant (.str tag) k p2) env) :: starEach es env)
      (hs2 : ∀ env : PySem.Env, swapsWith (.Tuple (.Constant (.str tag) k p2 :: es) l p5) (some (.Name y p6)) p8.line env = pure false) (r : HcOk X j y hs CT) :
      HcOk X j y (.ExceptHandler (some (.Name cn p1)) (some n) [.Assign [.Name y p6] (.Tuple (.Constant (.str tag) k p2 :: es) l p5) p8] p7 :: hs) ((C, tag, its) :: CT)
theorem hc_cls {X : Cx} {j : Nat} {y : Str} (hN : X.N.Nodup) (hj : X.N[j]? = some y) (hy : Loc X.env.scope y) (hyl : X.env.scope.names.lookup y = some .local) {hs : List ExceptHandler} {CT : List (Addr × Str × List HIt)} (h : HcOk X j y hs CT) :
    ∃ l, ClsOk X hs l ∧ ∀ (Q : VK) (D : Ends) (cls : Value) (d : Option Addr) (σ : L2.St) (H : Hp), (∀ σ H v, σ[j]? = some (some v) → Q v H → D.nx σ H) → σ.length = X.N.length → hE X.K Q CT cls d H → wishA X.K (fun _ _ _ _ => False) D l cls d σ H := by
  induction h with
  | nil => exact ⟨[], .nil, fun Q D cls d σ H _ _ h => h⟩
  | @cons cn n tag i k l C es its p1 p2 p5 p6 p7 p8 hs CT hc hi hn hij ho hfew hd hcd hs1 hs2 r ih =>
    obtain ⟨l2, h1, h2⟩ := ih
    refine ⟨_, .name hc hi hn (fun a o cls d pn hz hf => pss_one (ps_set (X := X.suite a ((a, o) :: pn)) hN hj hy (pe_tup (pa_cons pe_str (pa_its hz hf hi hn hd hcd ho) (hs1 _))) (hs2 _) (.inr hyl))) h1, ?_⟩
    intro Q D cls d σ H hD hl w
    obtain ⟨b, e1, e2, e3⟩ := w
    refine ⟨b, e1, fun hb a ha => ?_, fun hb => h2 Q D cls d σ H hD hl (e3 hb)⟩
    obtain ⟨hcls, vs, hv, q⟩ := e2 hb
    have hlt : i < σ.length := by rw [hl]; exact (List.getElem?_eq_some_iff.mp hi).1
    have hjt : j < σ.length := by rw [hl]; exact (List.getElem?_eq_some_iff.mp hj).1
    refine ⟨List.getElem?_set_self hlt, hcls, vs, hv, ?_⟩
    refine ⟨by rw [sizeLine_eq, List.length_cons, hv.len]; omega, fun p hp => hD _ _ (.ref p) ?_ (q p hp)⟩
    rw [List.getElem?_set_ne hij, List.getElem?_set_self (by simpa [setA] using hjt)]
theorem heard_gives {X : Cx} {Ng : List Str} {x a q y w0 : Str} {sg : Scope} {g : Addr} {cdg : Value} {j k l : Nat} {p1 p2 p3 p4 p5 p6 p7 p8 p9 : Pos} {h1 : ExceptHandler} {hs : List ExceptHandler} {CT : List (Addr × Str × List HIt)} (hN : Ng.Nodup) (h0 : ∀ f : Addr, (L2.start Ng [V.ref f])[0]? = some (some (V.ref f)))
    (hj : Ng[j]? = some y) (hy : ∀ (s : Shared) (H : Hp), Loc (cxOf C8.CX0 X.prog X.w X.K X.mg X.base Ng x sg g cdg X.A X.stack s H C8.E0).nox.env.scope y) (hyl : ∀ (s : Shared) (H : Hp), (cxOf C8.CX0 X.prog X.w X.K X.mg X.base Ng x sg g cdg X.A X.stack s H C8.E0).nox.env.scope.names.lookup y = some .local)
    (hd : (y == ("__debug__" : Str)) = false) (hcd : (y == ("__classdict__" : Str)) = false)
    (hw : ∀ (s : Shared) (H : Hp), HcOk (cxOf C8.CX0 X.prog X.w X.K X.mg X.base Ng x sg g cdg X.A X.stack s H C8.E0).nox j y (h1 :: hs) CT) :
    LamX.GivesTo X Ng x sg g cdg [.Try [.Assign [.Name y p6] (.Tuple [.Constant (.str w0) k p7, .Call (.Name a p1) [] [] p2] l p3) p4] (h1 :: hs) [] [] p5, .Return (some (.Name y p8)) p9] a q (TTheard X.K w0 CT) := by
  intro f c' s H Q tl act hc h
  obtain ⟨cls0, ok, wish⟩ := hc_cls (X := (cxOf C8.CX0 X.prog X.w X.K X.mg X.base Ng x sg g cdg X.A X.stack s H C8.E0).nox) hN hj (hy s H) (hyl s H) (hw s H)
  refine ⟨_, pss_cons (ps_tryA (X := (cxOf C8.CX0 X.prog X.w X.K X.mg X.base Ng x sg g cdg X.A X.stack s H C8.E0).nox) (Wo := fun _ _ _ _ => False)
    (tb := fun W D σ H => ∃ Ech : XK, (∀ cls d σ' H', Ech cls d H' → σ'.length = Ng.length → W cls d σ' H') ∧ σ.length = Ng.length ∧ σ[0]? = some (some (.ref f)) ∧ H c' = some (LamX.CodeO c' q) ∧ tl Ech H fun v H1 => ∀ p, H1 p = none → D.nx (σ.set j (some (.ref p))) (upd H1 p (.tup [.str w0, v])))
    rfl rfl hN LamX.takes0 (fun W pn xe tk _ => ?_) ok) (pss_one (ps_ret (pe_var (i := j) hj (.inl (hyl s H)) hd hcd))), ?_⟩
  · refine ⟨fun pins s' σ H' D I h' => ?_⟩
    obtain ⟨Ech, hW, hlen, e1, e2, e3⟩ := h'
    have hp := act (fun c d σ H => σ.length = Ng.length → W c d σ H) pn xe Ech p1 p2 (takes_len tk) fun cls d σ' H' h => hW cls d σ' H' h
    have hq : PSs ((cxOf C8.CX0 X.prog X.w X.K X.mg X.base Ng x sg g cdg X.A X.stack s H C8.E0).tr pn xe) [.Assign [.Name y p6] (.Tuple [.Constant (.str w0) k p7, .Call (.Name a p1) [] [] p2] l p3) p4] _ := pss_one (ps_set (X := (cxOf C8.CX0 X.prog X.w X.K X.mg X.base Ng x sg g cdg X.A X.stack s H C8.E0).tr pn xe) (pos := p4) (pos' := p6) hN hj (hy s H) (pe_tup (pos := p3) (pa_cons (pe_str (pos := p7)) (pa_cons hp pa_nil))) rfl (.inr (hyl s H)))
    refine hq.run pins s' σ H' D I ⟨e1, e2, ?_⟩
    have : (fun (v : V) (H1 : Hp) => ∀ p, H1 p = none → D.nx (σ.set j (some (.ref p))) (upd H1 p (.tup [.str w0, v]))) = fun v H1 => [V.str w0, v].length ≤ sizeLine ∧ ∀ p, H1 p = none → D.nx (σ.set j (some (.ref p))) (upd H1 p (.tup [.str w0, v])) := by
      funext v H1
      exact propext ⟨fun z => ⟨by rw [sizeLine_eq]; simp, z⟩, fun z => z.2⟩
    rw [this] at e3
    exact e3
  · have hjl : j < Ng.length := (List.getElem?_eq_some_iff.mp hj).1
    have hsl : (L2.start Ng [V.ref f]).length = Ng.length := by
      simp [L2.start]
      have : Ng.length ≠ 0 := by omega
      omega
    refine ⟨hE X.K Q CT, fun cls d σ' H' z hl => wish Q _ cls d σ' H' (fun σ H v h1 h2 => ⟨v, h1, h2⟩) hl z, hsl, h0 f, hc, ?_⟩
    have e : (fun (v : V) (H1 : Hp) => ∀ p, H1 p = none → Q (.ref p) (upd H1 p (.tup [.str w0, v]))) = fun v H1 => ∀ p, H1 p = none → tRet (tVar j) { nx := fun _ H' => Q .non H', rt := Q } ((L2.start Ng [V.ref f]).set j (some (.ref p))) (upd H1 p (.tup [.str w0, v])) := by
      funext v H1
      refine propext ⟨fun z p hp => ⟨.ref p, List.getElem?_set_self (by rw [hsl]; exact hjl), z p hp⟩, fun z p hp => ?_⟩
      obtain ⟨v2, e1, e2⟩ := z p hp
      rw [List.getElem?_set_self (by rw [hsl]; exact hjl)] at e1
      cases e1
      exact e2
    unfold TTheard at h
    rw [e] at h
    exact h
/-- the clauses' classes, by name -/
inductive HtOk (mg : Str → Option Value) : List (Str × Str × List HIt) → List (Addr × Str × List HIt) → Prop
  | nil : HtOk mg [] []
  | cons {nm tag : Str} {its : List HIt} {C : Addr} {l : List (Str × Str × List HIt)} {CT : List (Addr × Str × List HIt)} : mg nm = some (.ref C) → HtOk mg l CT → HtOk mg ((nm, tag, its) :: l) ((C, tag, its) :: CT)
theorem its_ok {mg : Str → Option Value} {K : PySem.W.Frag} {bad : List Addr} {H : Hp} {e : Ex} {cls : Value} {dx : Option Addr} (rx : RX mg K bad H e cls dx) : ∀ {its : List HIt} {ds : List D}, itsD e its = some ds → ∃ vs, HVs dx H its vs ∧ RVs K bad H ds vs
  | [], ds, h => by cases h; exact ⟨[], .nil, .nil⟩
  | .fld f :: r, ds, h => by
    unfold itsD at h
    split at h
    · rename_i g d ef
      split at h
      · rename_i hg
        subst hg
        cases h2 : itsD e r with
        | none => rw [h2] at h; cases h
        | some es =>
          rw [h2] at h
          cases h
          obtain ⟨vs, a, b⟩ := its_ok rx h2
          obtain ⟨dd, ws, q1, q2, q3⟩ := rx.2 (by rw [ef]; simp)
          rw [ef] at q2 q3
          cases q3 with
          | cons r1 r2 =>
            cases r2
            exact ⟨_, .fld q1 q2 (by simp) a, .cons r1 b⟩
      · cases h
    · cases h
  | .isi k :: r, ds, h => by
    unfold itsD at h
    split at h
    · cases h
    · rename_i hne
      cases h2 : itsD e r with
      | none => rw [h2] at h; cases h
      | some es =>
        rw [h2] at h
        cases h
        obtain ⟨vs, a, b⟩ := its_ok rx h2
        obtain ⟨dd, ws, q1, q2, q3⟩ := rx.2 hne
        exact ⟨_, .isi q1 q2 a, .cons (.bl k) b⟩
theorem catchH_ok {K : PySem.W.Frag} {mg : Str → Option Value} {sub : Str → Str → Option Bool} (S : SubOk K mg sub) {bad : List Addr} {H : Hp} {Q : VK} {e : Ex} {cls : Value} {dx : Option Addr} {ds : List D} {its : List HIt} (rx : RX mg K bad H e cls dx) (hi : itsD e its = some ds)
    : ∀ {l : List (Str × Str × List HIt)} {CT : List (Addr × Str × List HIt)} {tag : Str}, HtOk mg l CT → catchH sub l e.cls = some (tag, its) → (∀ (vs : List V) p, RVs K bad H ds vs → vs.length ≤ 20 → H p = none → Q (.ref p) (upd H p (.tup (.str tag :: vs)))) → its.length ≤ 20 → hE K Q CT cls dx H
  | _, _, tag, .nil, h, _, _ => by cases h
  | _, _, tag, .cons (nm := nm) (tag := tg) (C := C) (l := l) (CT := CT) hm r, h, q, hl => by
    unfold catchH at h
    cases es : sub e.cls nm with
    | none => rw [es] at h; cases h
    | some b =>
      rw [es] at h
      refine ⟨b, S.ex _ _ _ _ _ es rx.1 hm, fun hb => ?_, fun hb => ?_⟩
      · subst hb
        cases h
        have he := S.eq _ _ es
        have hc : cls = .ref C := by
          have := rx.1
          rw [he, hm] at this
          exact (Option.some.inj this).symm
        obtain ⟨vs, a, b⟩ := its_ok rx hi
        exact ⟨hc, vs, a, fun p hp => q vs p b (by rw [a.len]; exact hl) hp⟩
      · subst hb
        exact catchH_ok S rx hi r h q hl
theorem catchH_few {sub : Str → Str → Option Bool} {x tag : Str} {its : List HIt} : ∀ {cl : List (Str × Str × List HIt)}, (∀ p ∈ cl, p.2.2.length ≤ 20) → catchH sub cl x = some (tag, its) → its.length ≤ 20
  | [], _, h => by cases h
  | (c, tg, it) :: r, hf, h => by
    unfold catchH at h
    split at h
    · cases h
      exact hf _ List.mem_cons_self
    · exact catchH_few (fun p hp => hf p (List.mem_cons_of_mem _ hp)) h
    · cases h
/-- x(lambda: e), x such a helper -/
theorem de_heard {X : Cx} {T : List (Addr × Str)} {W : WX} {x a w0 : Str} {g c P : Addr} {k : Nat} {pg : Arguments} {bg : List Stmt} {sg : Scope} {fdg : FuncData} {Ng : List Str} {params : Arguments} {body : Expr} {scope : Scope} {fb : Fx} {p lpos pos : Pos} {sub : Str → Str → Option Bool} {cl : List (Str × Str × List HIt)} {CT : List (Addr × Str × List HIt)}
    (FG : FunD X.K x x pg bg sg [] [] g fdg) (hg : Gl X x) (hm : X.mg x = some (.ref g)) (hb : L2.Binds X.K fdg [a] []) (Sg : FnScope Ng [a] sg) (hNg : Ng[0]? = some a) (hva : Vis sg a)
    (hG : ∀ cdv, LamX.GivesTo X Ng x sg g cdv bg a (X.env.qual ++ "<lambda>") (TTheard X.K w0 CT)) (TB : LamX.TabB X.base X.mg c P) (hcode : X.env.code = .ref c) (hmT : (P, X.env.qual ++ "<lambda>") ∈ T) (hu : ∀ p ∈ T, p.1 = P → p.2 = X.env.qual ++ "<lambda>") (hr : Room (k + 2) X.A) (L : LamX.LamS X.env.scope scope)
    (hdef : defaultsOf params X.env = ([], [])) (hbind : ∀ (q : Str) (cl : List (Str × Addr)) (pm cv ctv : Value), bindArgs (PySem.W.kla_fn "<lambda>" q params body scope cl pm cv ctv) ⟨[], []⟩ = pure [])
    (hbody : ∀ (A : Around) (outer : List PySem.Env) (s : Shared) (H : Hp) (E : XK) (f c' : Addr), Room k (A.deeper (LamX.lamEnv X scope s.heap.objs.size f c')) → DE (LamX.lamCx X A outer s H E scope f c') T (WD E) body fb)
    (C : HtOk X.mg cl CT) (S : SubOk X.K X.mg sub) (hfew : ∀ p ∈ cl, p.2.2.length ≤ 20)
    (hdb : (x == ("__debug__" : Str)) = false := by decide) (hd : (a == ("__debug__" : Str)) = false := by decide) (hcd : (a == ("__classdict__" : Str)) = false := by decide) : DE X T W (.Call (.Name x p) [.Lambda params body scope lpos] [] pos) (heardF sub w0 cl fb) := by
  obtain ⟨oc, od, dV, kV, doc, pm, an, cdv, ct, osl, rfl, lk, hcg, _, _⟩ := FG.ex
  refine ⟨peW (LamX.pe_lamcall (t := fun E => tEv X.K X.mg T (WD E) fb) hg hm FG.kp lk hcg hb Sg hNg hva (hG cdv) TB hcode hmT hu hr L hdef hbind (fun A outer s H E f c' hr' => (hbody A outer s H E f c' hr').pe) hdb hd hcd) fun σ H Q ⟨bad, μ, Γ, M, rm, rg, h⟩ => ?_⟩
  refine ⟨rm.tab, fun H1 ex t1 => ?_⟩
  have g1 : Gr μ H H1 [] := Gr.extN ex
  have rm1 := rm.extN ex t1
  have rg1 : RG X.K bad μ H1 Γ σ := by simpa using rg.gr g1 rm.sub
  have h1 : Post X.K X.mg T bad μ H1 (heardF sub w0 cl fb Γ M) Q (fun c d H' => W c d σ H') := by
    have := Post.gr h g1 (fun b hb => nomatch hb)
    simpa using this
  refine ⟨bad, μ, Γ, M, rm1, rg1, ?_⟩
  unfold heardF at h1
  cases ef : fb Γ M with
  | stuck => rw [ef] at h1; exact h1.elim
  | ok u M1 =>
    rw [ef] at h1
    cases u with
    | loc n => exact h1.elim
    | p d =>
      intro ν v H' g rm' rv q hq
      cases rv with
      | p rv =>
      exact Post.tup (Post.gr h1 g rm'.domν) rm' (.cons (.str w0) (.cons rv .nil)) (by rw [sizeLine_eq]; simp) hq
  | exc e M1 =>
    rw [ef] at h1
    dsimp only at h1
    split at h1
    · rename_i tag its ec
      split at h1
      · rename_i ds ei
        have hl : its.length ≤ 20 := catchH_few hfew ec
        intro ν cls dx H' g rm' rx
        refine catchH_ok S rx ei C ec (fun vs q rv hlv hq => ?_) hl
        exact Post.tup (Post.gr h1 g rm'.domν) rm' (.cons (.str tag) rv) (by rw [sizeLine_eq, List.length_cons]; omega) hq
      · exact h1.elim
    · exact h1.elim
end Mp
set_option maxHeartbeats 4000000
namespace Mp
open PySem PySem.Spec PyProof.Rows L2
open PySem.SeqAt
open PySem.AutoSeq1 (wpAny_loadPart')
open PySem.MeetsSeq PySem.MeetsSeq2 PySem.MeetsSeq3
section
variable {prog : Program} {w : World} {A : Around} {E : Value → Shared → Prop} {s : Shared}
theorem places_rev (n : Nat) : Builtin.Slice.slicePlaces ((n : Int) - 1) (-1) (-1) = n := by
  unfold Builtin.Slice.slicePlaces
  rw [if_neg (by decide)]
  split
  · rw [show (- -1 : Int) = 1 by decide, Int.ediv_one]
    omega
  · omega
theorem sliceApplied_rev {sl : Addr} {vl vu vs : Value} {n : Nat} {Q : Int × Int × Nat → Shared → Prop} (hs : s.heap.IsSliceOf sl vl vu vs) (pl : IsPart vl none) (pu : IsPart vu none) (ps : IsPart vs (some (-1)))
    (h : Q ((n : Int) - 1, -1, n) s) : wpAny (model prog w) A (Builtin.Slice.sliceApplied (.ref sl) (pure (n : Int))) Q E s := by
  obtain ⟨os, hos, hcs, hds⟩ := id hs
  unfold Builtin.Slice.sliceApplied Builtin.Slice.sliceFields
  refine wpAny_bind (wpAny_bind (wpAny_field hos hds (x := vl) rfl (wpAny_bind (wpAny_field hos hds (x := vu) rfl (wpAny_bind (wpAny_field hos hds (x := vs) rfl (wpAny_pure ?_)))))))
  refine wpAny_bind (HT.slicePart_ ps ?_)
  show wpAny _ _ (if ((-1 : Int) == 0) = true then _ else _) _ _ s
  rw [if_neg (by decide)]
  refine wpAny_bind (HT.slicePart_ pl (wpAny_bind (HT.slicePart_ pu (wpAny_bind (wpAny_pure ?_)))))
  show wpAny _ _ (pure ((n : Int) - 1, (-1 : Int), Builtin.Slice.slicePlaces ((n : Int) - 1) (-1) (-1))) _ _ s
  rw [places_rev]
  exact wpAny_pure h
theorem fm_congr {α β : Type} {f g : α → Option β} : ∀ {l : List α}, (∀ x ∈ l, f x = g x) → l.filterMap f = l.filterMap g
  | [], _ => rfl
  | a :: l, h => by rw [List.filterMap_cons, List.filterMap_cons, h a (by simp), fm_congr fun x hx => h x (List.mem_cons_of_mem _ hx)]
theorem pick_rev (xs : Array Value) : ((List.range xs.size).filterMap fun (m : Nat) => xs[(((xs.size : Int) - 1) + (m : Int) * (-1)).toNat]?).toArray = xs.toList.reverse.toArray := by
  congr 1
  have e : (List.range xs.size).filterMap (fun (m : Nat) => xs[(((xs.size : Int) - 1) + (m : Int) * (-1)).toNat]?) = ((List.range xs.size).map fun k => xs.size - 1 - k).filterMap (xs[·]?) := by
    rw [List.filterMap_map]
    refine fm_congr fun m hm => ?_
    have hlt := List.mem_range.mp hm
    have e1 : (((xs.size : Int) - 1) + (m : Int) * (-1)).toNat = xs.size - 1 - m := by omega
    simp only [Function.comp, e1]
  rw [e, PySem.W.krv_range, List.filterMap_reverse, PySem.W.krv_all]
theorem getItem_tuple_rev {t sl : Addr} {items : Array Value} {vl vu vs : Value} {Q : Value → Shared → Prop} (ht : IsTup s.heap t items) (hs : s.heap.IsSliceOf sl vl vu vs) (pl : IsPart vl none) (pu : IsPart vu none) (ps : IsPart vs (some (-1)))
    (h : Q (.ref s.heap.objs.size) { s with heap := s.heap.push { cls := .type "tuple", data := .seq items.toList.reverse.toArray } })
    (hsz : items.size ≤ sizeLine) : wpAny (model prog w) A (getItem (.ref t) (.ref sl)) Q E s := by
  have htake : sizeOk (.seq items.toList.reverse.toArray) := by
    show items.toList.reverse.toArray.size ≤ sizeLine
    rw [List.size_toArray, List.length_reverse, Array.length_toList]
    exact hsz
  obtain ⟨os, hos, hcs, hds⟩ := id hs
  have hTs : s.TypeIs (.ref sl) "slice" := ⟨os, hos, hcs⟩
  unfold getItem
  try with_reducible refine wpAny_holding ?_
  first | refine wpAny_bind (wpAny_pure ?_) | skip
  refine wpAny_bind (wpAny_sequenceKey ht.typeIs (by decide) ?_)
  refine wpAny_bind (wpAny_callSpecial?_slot (name := Str.ofString "__getitem__") ht.typeIs PyProof.Rows.slot_tuple_getitem
    (wpAny_call_entry PyProof.Rows.slot_tuple_getitem ht.typeIs entry_tuple_getitem ?_ (args_tuple_getitem _ _)))
  show wpAny _ _ (Builtin.Tuple.tupleItemsOf (.ref t) >>= _) _ _ s
  refine wpAny_bind (tupleItemsOf_ ht ?_)
  refine wpAny_bind (wpAny_typeOf hTs ?_)
  rw [if_pos (by decide)]
  refine wpAny_bind (sliceApplied_rev hs pl pu ps ?_)
  have hno : ¬ ((((items.size : Int) - 1) == 0 && (-1 : Int) == 1 && items.size == items.size) = true) := by
    intro q
    rw [Bool.and_eq_true, Bool.and_eq_true] at q
    exact absurd q.1.2 (by decide)
  show wpAny _ _ (if (((items.size : Int) - 1) == 0 && (-1 : Int) == 1 && items.size == items.size) = true then _ else _) _ _ s
  rw [if_neg hno, pick_rev]
  first
    | exact wpAny_bind (m := Builtin.Tuple.tupleExact _) (wpAny_newObj_type (wpAny_pure ⟨_, rfl, wpAny_pure h⟩) htake)
    | exact wpAny_bind (m := Builtin.Tuple.tupleExact _) (wpAny_newObj_type (wpAny_bind (wpAny_pure (wpAny_pure ⟨_, rfl, wpAny_pure h⟩))) htake)
    | exact wpAny_bind (wpAny_bind (m := Builtin.Tuple.tupleExact _) (wpAny_newObj_type (wpAny_pure (wpAny_pure ⟨_, rfl, wpAny_pure h⟩)) htake))
    | exact wpAny_bind (wpAny_bind (m := Builtin.Tuple.tupleExact _) (wpAny_newObj_type (wpAny_pure ⟨_, rfl, wpAny_pure h⟩) htake))
end

def tRevA (K : PySem.W.Frag) (te : TE) : TE := fun σ H Q => te σ H fun x H1 => ∃ a xs, x = .ref a ∧ ((SqL K H1 a xs ∧ ∀ p, H1 p = none → Q (.ref p) (upd H1 p (.lst xs.reverse))) ∨ (SqT K H1 a xs ∧ ∀ p, H1 p = none → Q (.ref p) (upd H1 p (.tup xs.reverse))))
theorem pe_revA {X : Cx} {te : TE} {e : Expr} {k : Nat} {p1 p2 p3 pos : Pos} (he : PE X e te) : PE X (.Subscript e (.Slice none none (some (.UnaryOp .USub (.Constant (.int 1) k p1) p2)) p3) pos) (tRevA X.K te) := by
  refine ⟨fun pins s σ H Q I h => ?_⟩
  refine Subscript_ (thn (he.run pins s σ H _ I h) fun v s1 ⟨x, H1, I1, r1, q1⟩ => ?_)
  obtain ⟨a, xs, ex, q1⟩ := q1
  subst ex
  cases r1
  have hst : PO X (some (.UnaryOp .USub (.Constant (.int 1) k p1) p2)) (tPart (tUn (rU fun i => .int (-i)) (tC (.int 1)))) := po_some (pe_un un_neg pe_int)
  refine wpAny_Slice (thn (po_none.run pins s1 σ H1 (fun o H2 => o = none ∧ H2 = H1) I1 ⟨rfl, rfl⟩) fun vl s2 ⟨l, H2, I2, pl, el, e2⟩ => ?_)
  subst el e2
  refine thn (po_none.run pins s2 σ H2 (fun o H3 => o = none ∧ H3 = H2) I2 ⟨rfl, rfl⟩) fun vu s3 ⟨u, H3, I3, pu, eu, e3⟩ => ?_
  subst eu e3
  refine thn (hst.run pins s3 σ H3 (fun o H4 => o = some (-1) ∧ H4 = H3) I3 ⟨1, rfl, -1, rfl, rfl, rfl⟩) fun vs s4 ⟨o, H4, I4, ps, eo, e4⟩ => ?_
  subst eo e4
  have I5 : Inv X pins σ H4 { s4 with heap := s4.heap.push { cls := .type "slice", data := .fields #[vl, vu, vs] } } := I4.kept (t' := s4.toks) fun b ob q => Heap.get?_push_of_some _ q
  show wpAny (model X.prog X.w) X.A (subscriptTail e (.Slice none none (some (.UnaryOp .USub (.Constant (.int 1) k p1) p2)) p3) (.ref a) (.ref s4.heap.objs.size)) (EP X pins σ Q) X.xe { s4 with heap := s4.heap.push { cls := .type "slice", data := .fields #[vl, vu, vs] } }
  rcases q1 with ⟨hx, q⟩ | ⟨hx, q⟩
  · obtain ⟨its, r, ht, hz⟩ := I5.list hx
    have hlen := r.length
    refine tail_any (ops := [.ref a, .ref s4.heap.objs.size]) ht.isList.typeIs (PySem.slot_list_getitem.lookup) ?_ (by with_unfolding_all rfl)
    refine wpAny_getItem_list_slice ht.isList (Heap.IsSliceOf.new _ vl vu vs) pl pu ps (by decide) ?_ (by rw [List.size_toArray]; omega)
    rw [PySem.W.krv_pick]
    refine ⟨.ref _, _, I5.laid (t' := s4.toks) (o := .lst xs.reverse) (fun b ob q => Heap.get?_push_of_some _ q) (Nat.le_refl _) ?_, rfl, q _ (I5.hok.fresh (Nat.le_refl _))⟩
    exact ⟨by rw [List.length_reverse]; exact hz, _, 0, r.reverse, Heap.get?_push_size _ rfl⟩
  · obtain ⟨its, r, ht, hz⟩ := I5.tuple hx
    have hlen := r.length
    refine tail_any (ops := [.ref a, .ref s4.heap.objs.size]) ht.typeIs (PyProof.Rows.slot_tuple_getitem.lookup) ?_ (by with_unfolding_all rfl)
    refine getItem_tuple_rev ht (Heap.IsSliceOf.new _ vl vu vs) pl pu ps ?_ (by rw [List.size_toArray]; omega)
    refine ⟨.ref _, _, I5.laid (t' := s4.toks) (o := .tup xs.reverse) (fun b ob q => Heap.get?_push_of_some _ q) (Nat.le_refl _) ?_, rfl, q _ (I5.hok.fresh (Nat.le_refl _))⟩
    exact ⟨by rw [List.length_reverse]; exact hz, _, r.reverse, IsTup.new _ _⟩
/-- .. of data -/
def revD (a : D) : Option D := match a with
  | .tup ds => some (.tup ds.reverse)
  | .kup ds => some (.tup ds.reverse)
  | a => (lstOf a).map fun ds => .lst ds.reverse
theorem RVs.rev {K : PySem.W.Frag} {bad : List Addr} {H : Hp} : ∀ {ds : List D} {vs : List V}, RVs K bad H ds vs → RVs K bad H ds.reverse vs.reverse
  | _, _, .nil => by simpa using RVs.nil
  | _, _, .cons r t => by simpa using (RVs.rev t).app (.cons r .nil)
theorem de_rev {X : Cx} {T : List (Addr × Str)} {W : WX} {e : Expr} {f : Fx} {k : Nat} {p1 p2 p3 pos : Pos} (he : DE X T W e f) : DE X T W (.Subscript e (.Slice none none (some (.UnaryOp .USub (.Constant (.int 1) k p1) p2)) p3) pos) (op1F revD f) :=
  ⟨peW (pe_revA he.pe) fun σ H Q ⟨bad, μ, Γ, M, rm, rg, h⟩ => by
  refine ⟨bad, μ, Γ, M, rm, rg, (Post.bind h).mono ?_⟩
  rintro x H1 ⟨ν, d1, M1, g1, rm1, rv1, h1⟩
  split at h1
  · rename_i p e1
    obtain ⟨d, e3, h3⟩ := Post.opt h1
    have rw_ := rm1.deref rv1 e1
    cases et : Mp.tupOf p with
    | some ds =>
      obtain ⟨a, vs, rfl, hz, sq, r⟩ := rw_.tupOf et
      have ed : d = .tup ds.reverse := by
        cases p <;> simp [Mp.tupOf] at et <;> subst et <;> simp [revD] at e3 <;> exact e3.symm
      subst ed
      exact ⟨a, vs, rfl, .inr ⟨sq, fun q hq => Post.tup h3 rm1 r.rev (by rw [List.length_reverse]; exact hz) hq⟩⟩
    | none =>
      cases el : Mp.lstOf p with
      | none => cases p <;> simp [Mp.tupOf, Mp.lstOf, revD] at *
      | some ds =>
        obtain ⟨a, vs, rfl, hz, sq, r⟩ := rw_.lstOf el
        have ed : d = .lst ds.reverse := by
          cases p <;> simp [Mp.tupOf, Mp.lstOf, revD] at * <;> subst el <;> exact e3.symm
        subst ed
        exact ⟨a, vs, rfl, .inl ⟨sq, fun q hq => Post.lst h3 rm1 r.rev (by rw [List.length_reverse]; exact hz) hq⟩⟩
  · exact h1.elim⟩

def stuckS : Fs := fun _ _ => .st
def stuckF : Fx := fun _ _ => .stuck
theorem ds_stuck {X : Cx} {T : List (Addr × Str)} {W : WX} {st : Stmt} : DS X T W st stuckS := ⟨⟨fun _ _ _ _ _ _ ⟨_, _, _, _, _, _, h⟩ => h.elim⟩⟩
theorem de_stuck {X : Cx} {T : List (Addr × Str)} {W : WX} {e : Expr} : DE X T W e stuckF := ⟨⟨fun _ _ _ _ _ _ ⟨_, _, _, _, _, _, h⟩ => h.elim⟩⟩
end Mp
namespace Mp
open PySem PySem.Spec PyProof.Rows L2
section
variable {α β : Type} {Γ Γ' : Env} {M M' M1 : Mem} {f f1 f2 f3 fo fi fv : Fx} {g : Fa} {c : Fb} {s t : Fs} {d x y z : D} {u v : U} {us : List U} {e : Ex} {k b : Bool} {i j n : Nat}
theorem ev_var0 : varF 0 (some u :: Γ) M = .ok u M := rfl
theorem ev_vars {o : Option U} : varF (n + 1) (o :: Γ) M = varF n Γ M := rfl
theorem ev_c : cF d Γ M = .ok (.p d) M := rfl
theorem ev_nil : nilA Γ M = .ok [] M := rfl
theorem pures_nil : pures [] = some [] := rfl
theorem pures_cons : pures (.p d :: us) = (pures us).map (d :: ·) := rfl
theorem opt_some : opt (some d) M = .ok (.p d) M := rfl
theorem optB_some : optB (some b) M = .ok b M := rfl
theorem optU_some : optU (some u) M = .ok u M := rfl
theorem deref_p : deref M (.p d) = some d := rfl
theorem deref_loc {xs : List D} (h : M[n]? = some (.lst xs)) : deref M (.loc n) = some (.lst xs) := by simp [deref, h]
def op2V (h : D → D → Option D) (M : Mem) (a b : U) : Res U := match deref M a, deref M b with
  | some x, some y => opt (h x y) M
  | _, _ => .stuck
theorem op2V_pp {h : D → D → Option D} : op2V h M (.p x) (.p y) = opt (h x y) M := rfl
theorem op2V_d {h : D → D → Option D} {a b : U} (h1 : deref M a = some x) (h2 : deref M b = some y) : op2V h M a b = opt (h x y) M := by simp [op2V, h1, h2]
def op1V (h : D → Option D) (M : Mem) (a : U) : Res U := match deref M a with
  | some x => opt (h x) M
  | none => .stuck
theorem op1V_p {h : D → Option D} : op1V h M (.p x) = opt (h x) M := rfl
def blV (h : List D → Option D) (M : Mem) (us : List U) : Res U := match derefs M us with
  | some ds => opt (h ds) M
  | none => .stuck
theorem blV_1 {h : List D → Option D} : blV h M [.p x] = opt (h [x]) M := rfl
theorem blV_2 {h : List D → Option D} : blV h M [.p x, .p y] = opt (h [x, y]) M := rfl
theorem blV_3 {h : List D → Option D} : blV h M [.p x, .p y, .p z] = opt (h [x, y, z]) M := rfl
theorem blV_d {h : List D → Option D} {ds : List D} (e : derefs M us = some ds) : blV h M us = opt (h ds) M := by simp [blV, e]
theorem blV_loc {h : List D → Option D} {xs : List D} (e : M[n]? = some (.lst xs)) : blV h M [.loc n] = opt (h [.lst xs]) M := by simp [blV, derefs, deref, e]
theorem dC_pp {h : D → D → Option Bool} : dC h M (.p x) (.p y) = h x y := rfl
def chK (h : Mem → U → U → Option Bool) (k : Bool) (b : U) (f : Fx) (Γ : Env) (M : Mem) : Res Bool := match k with
  | true => (f Γ M).bind fun c M4 => optB (h M4 b c) M4
  | false => .ok false M
theorem chK_f {h : Mem → U → U → Option Bool} : chK h false u f Γ M = .ok false M := rfl
def andBK (k : Bool) (g : Fb) (Γ : Env) (M : Mem) : Res Bool := match k with | true => g Γ M | false => .ok false M
def orBK (k : Bool) (g : Fb) (Γ : Env) (M : Mem) : Res Bool := match k with | true => .ok true M | false => g Γ M
theorem andBK_t : andBK true c Γ M = c Γ M := rfl
theorem andBK_f : andBK false c Γ M = .ok false M := rfl
theorem orBK_t : orBK true c Γ M = .ok true M := rfl
theorem orBK_f : orBK false c Γ M = c Γ M := rfl
def truV (M : Mem) (u : U) : Res Bool := match deref M u with | some x => optB (truD x) M | none => .stuck
theorem truV_p : truV M (.p x) = optB (truD x) M := rfl
theorem truV_d (h : deref M u = some x) : truV M u = optB (truD x) M := by simp [truV, h]
theorem truD_bl : truD (.bl b) = some b := rfl
theorem truD_int {i : Int} : truD (.int i) = some (i != 0) := rfl
theorem truD_tup {xs : List D} : truD (.tup xs) = some (!xs.isEmpty) := rfl
theorem truD_lst {xs : List D} : truD (.lst xs) = some (!xs.isEmpty) := rfl
def andK (u : U) (g : Fx) (Γ : Env) (M : Mem) : Res U := match u with | .p (.bl true) => g Γ M | .p (.bl false) => .ok (.p (.bl false)) M | _ => .stuck
def orK (u : U) (g : Fx) (Γ : Env) (M : Mem) : Res U := match u with | .p (.bl true) => .ok (.p (.bl true)) M | .p (.bl false) => g Γ M | _ => .stuck
def notK (u : U) (M : Mem) : Res U := match u with | .p (.bl k) => .ok (.p (.bl (!k))) M | _ => .stuck
theorem andK_t : andK (.p (.bl true)) f Γ M = f Γ M := rfl
theorem andK_f : andK (.p (.bl false)) f Γ M = .ok (.p (.bl false)) M := rfl
theorem orK_t : orK (.p (.bl true)) f Γ M = .ok (.p (.bl true)) M := rfl
theorem orK_f : orK (.p (.bl false)) f Γ M = f Γ M := rfl
theorem notK_b : notK (.p (.bl k)) M = .ok (.p (.bl (!k))) M := rfl
def ifFK (k : Bool) (f g : Fx) (Γ : Env) (M : Mem) : Res U := match k with | true => f Γ M | false => g Γ M
theorem ifFK_t {f' : Fx} : ifFK true f f' Γ M = f Γ M := rfl
theorem ifFK_f {f' : Fx} : ifFK false f f' Γ M = f' Γ M := rfl
def ixV (M : Mem) (a b : U) : Res U := match deref M b with
  | some y => optU (ixU M a y) M
  | none => .stuck
theorem ixV_pp : ixV M (.p x) (.p y) = opt (ixD x y) M := by
  simp only [ixV, deref, ixU]
  cases ixD x y <;> rfl
theorem ixV_l {xs : List D} (h : M[n]? = some (.lst xs)) : ixV M (.loc n) (.p y) = opt (ixD (.lst xs) y) M := by
  simp only [ixV, deref, ixU, h]
  cases ixD (.lst xs) y <;> rfl
theorem ixV_k {kvs : List (Key × U)} (h : M[n]? = some (.dic kvs)) : ixV M (.loc n) (.p y) = optU ((keyOf y).bind fun k => getK kvs k) M := by
  simp only [ixV, deref, ixU, h, dgetD]
theorem ixD_t {ds : List D} {i : Int} : ixD (.tup ds) (.int i) = atI ds i := rfl
theorem ixD_k {ds : List D} {i : Int} : ixD (.kup ds) (.int i) = atI ds i := rfl
theorem ixD_l {ds : List D} {i : Int} : ixD (.lst ds) (.int i) = atI ds i := rfl
theorem atI_nat {xs : List α} {n : Nat} : atI xs (n : Int) = xs[n]? := by
  simp only [atI, ixN]
  by_cases h : n < xs.length
  · simp [h]
  · rw [if_pos (by omega), if_neg (by omega)]
    simp [List.getElem?_eq_none (Nat.le_of_not_lt h)]
theorem atI_0 {a : α} {r : List α} : atI (a :: r) 0 = some a := atI_nat (n := 0)
theorem atI_1 {a b : α} {r : List α} : atI (a :: b :: r) 1 = some b := atI_nat (n := 1)
theorem atI_2 {a b c : α} {r : List α} : atI (a :: b :: c :: r) 2 = some c := atI_nat (n := 2)
theorem atI_3 {a b c d : α} {r : List α} : atI (a :: b :: c :: d :: r) 3 = some d := atI_nat (n := 3)
def isV (t : Ty) (M : Mem) (u : U) : Res U := (optB (isU' M t u) M).bind fun k M2 => .ok (.p (.bl k)) M2
theorem isV_int {t : Ty} {i : Int} : isV t M (.p (.int i)) = .ok (.p (.bl (isD t (.int i)))) M := rfl
theorem isV_bl {t : Ty} : isV t M (.p (.bl b)) = .ok (.p (.bl (isD t (.bl b)))) M := rfl
theorem isV_non {t : Ty} : isV t M (.p .non) = .ok (.p (.bl (isD t .non))) M := rfl
theorem isV_str {t : Ty} {i : Str} : isV t M (.p (.str i)) = .ok (.p (.bl (isD t (.str i)))) M := rfl
theorem isV_tup {t : Ty} {i : List D} : isV t M (.p (.tup i)) = .ok (.p (.bl (isD t (.tup i)))) M := rfl
theorem isV_lst {t : Ty} {i : List D} : isV t M (.p (.lst i)) = .ok (.p (.bl (isD t (.lst i)))) M := rfl
theorem isV_kup {t : Ty} {i : List D} : isV t M (.p (.kup i)) = .ok (.p (.bl (isD t (.kup i)))) M := rfl
def slV (M : Mem) (u : U) (l h : Option Int) : Res U := match deref M u with | some x => opt (slD x l h) M | none => .stuck
theorem slV_p {l h : Option Int} : slV M (.p x) l h = opt (slD x l h) M := rfl
theorem ev_noO : noO Γ M = .ok none M := rfl
def sooK (u : U) (M : Mem) : Res (Option Int) := match u with | .p (.int i) => .ok (some i) M | _ => .stuck
theorem sooK_i {i : Int} : sooK (.p (.int i)) M = .ok (some i) M := rfl
def sqK (r : Fl) (g : Fs) : Fl := match r with
  | .nx Γ1 M1 => g Γ1 M1
  | r => r
theorem ev_seq : seqS s t Γ M = sqK (s Γ M) t := rfl
theorem sqK_nx : sqK (.nx Γ M) t = t Γ M := rfl
theorem sqK_rt : sqK (.rt u M) t = .rt u M := rfl
theorem sqK_ex : sqK (.ex e Γ M) t = .ex e Γ M := rfl
theorem sqK_bk : sqK (.bk Γ M) t = .bk Γ M := rfl
theorem sqK_ct : sqK (.ct Γ M) t = .ct Γ M := rfl
theorem ev_skip : skipS Γ M = .nx Γ M := rfl
theorem ev_retN : retN Γ M = .rt (.p .non) M := rfl
def ifK (k : Bool) (f g : Fs) (Γ : Env) (M : Mem) : Fl := match k with | true => f Γ M | false => g Γ M
theorem ifK_t : ifK true s t Γ M = s Γ M := rfl
theorem ifK_f : ifK false s t Γ M = t Γ M := rfl
def asK (o : Option Env) (M : Mem) : Fl := match o with | some Γ => .nx Γ M | none => .st
theorem asK_s : asK (some Γ) M = .nx Γ M := rfl
theorem ev_nameG : nameG i u M Γ = some (Γ.set i (some u)) := rfl
theorem ev_tupG {h : Mem → Gts} {xs : List D} : tupG h (.p (.tup xs)) M Γ = h M (xs.map .p) Γ := rfl
theorem ev_tupGk {h : Mem → Gts} {xs : List D} : tupG h (.p (.kup xs)) M Γ = h M (xs.map .p) Γ := rfl
theorem ev_consG {a : U → Mem → Env → Option Env} {h : Mem → Gts} : consG a h M (u :: us) Γ = (a u M Γ).bind (h M us) := rfl
theorem ev_nilG : nilG M [] Γ = some Γ := rfl
def parK (i j : Nat) (us : List U) (Γ : Env) (M : Mem) : Fl := match us with | [a, b] => .nx ((Γ.set i (some a)).set j (some b)) M | _ => .st
theorem parK_2 {a b : U} : parK i j [a, b] Γ M = .nx ((Γ.set i (some a)).set j (some b)) M := rfl
def par3K (i j l : Nat) (us : List U) (Γ : Env) (M : Mem) : Fl := match us with | [a, b, c] => .nx (((Γ.set i (some a)).set j (some b)).set l (some c)) M | _ => .st
theorem par3K_3 {l : Nat} {a b c : U} : par3K i j l [a, b, c] Γ M = .nx (((Γ.set i (some a)).set j (some b)).set l (some c)) M := rfl
def pmK (o : Option Mem) (Γ : Env) : Fl := match o with | some M => .nx Γ M | none => .st
def putK (M : Mem) (o i v : U) (Γ : Env) : Fl := match deref M i with | some b => pmK (putM M o b v) Γ | none => .st
theorem putK_p {o v : U} : putK M o (.p y) v Γ = pmK (putM M o y v) Γ := rfl
theorem pmK_s : pmK (some M) Γ = .nx Γ M := rfl
theorem thawK_l {xs : List D} : thawK (.p (.lst xs)) M = .ok (.loc M.length) (M ++ [.lst xs]) := rfl
theorem ev_newT : newT Γ M = .ok (.loc M.length) (M ++ [.dtu []]) := rfl
theorem ev_newK : newK Γ M = .ok (.loc M.length) (M ++ [.dic []]) := rfl
def mtK2 (o : Option (U × Mem)) : Res U := match o with | some (d, M) => .ok d M | none => .stuck
def mtK (k : Bool) (h : Mem → U → List U → Option (U × Mem)) (x : U) (fa : Fa) (Γ : Env) (M : Mem) : Res U := match k with
  | true => (fa Γ M).bind fun ds M2 => mtK2 (h M2 x ds)
  | false => .stuck
theorem mtK2_s {u : U} : mtK2 (some (u, M)) = .ok u M := rfl
theorem ev_fn : fnS n s us M = exitR M.length (s (entG n us) M) := rfl
theorem exit_p {n : Nat} : exitR n (.rt (.p d) M) = .ok (.p d) (M.take n) := rfl
theorem exit_nx {n : Nat} : exitR n (.nx Γ M) = .ok (.p .non) (M.take n) := rfl
theorem exit_ex {n : Nat} : exitR n (.ex e Γ M) = .exc e (M.take n) := rfl
theorem exit_lst {l : Nat} {xs : List D} (hl : n ≤ l) (h : M[l]? = some (.lst xs)) : exitR n (.rt (.loc l) M) = .ok (.p (.lst xs)) (M.take n) := by
  simp [exitR, leaveU, Nat.not_lt.mpr hl, h]
def rsK (x fl : Str) (us : List U) (Γ : Env) (M : Mem) : Fl := match us with
  | [.p d] => .ex ⟨x, [(fl, d)]⟩ Γ M
  | _ => .st
theorem rsK_1 {x fl : Str} : rsK x fl [.p d] Γ M = .ex ⟨x, [(fl, d)]⟩ Γ M := rfl
def wdT (o : Option (Str × Str)) (f : Str) (d : D) (M : Mem) : Res U := match o with
  | some (g, tag) => if f = g then .ok (.p (.tup [.str tag, d])) M else .stuck
  | none => .stuck
def wdK (sub : Str → Str → Option Bool) (cl : List (Str × Str × Str)) (r : Res U) : Res U := match r with
  | .ok (.p d) M1 => .ok (.p (.lst [d])) M1
  | .exc e M1 => match catchT sub cl e.cls, e.fields with
    | some (g, tag), [(f, d)] => if f = g then .ok (.p (.tup [.str tag, d])) M1 else .stuck
    | _, _ => .stuck
  | _ => .stuck
theorem ev_word {sub : Str → Str → Option Bool} {cl : List (Str × Str × Str)} : wordF sub cl f Γ M = wdK sub cl (f Γ M) := rfl
theorem wdK_ok {sub : Str → Str → Option Bool} {cl : List (Str × Str × Str)} : wdK sub cl (.ok (.p d) M) = .ok (.p (.lst [d])) M := rfl
theorem wdK_exc {sub : Str → Str → Option Bool} {cl : List (Str × Str × Str)} {x f : Str} : wdK sub cl (.exc ⟨x, [(f, d)]⟩ M) = wdT (catchT sub cl x) f d M := by
  show (match catchT sub cl x, [(f, d)] with
    | some (g, tag), [(f, d)] => if f = g then Res.ok (.p (.tup [.str tag, d])) M else .stuck
    | _, _ => .stuck) = wdT (catchT sub cl x) f d M
  cases h : catchT sub cl x with
  | none => rfl
  | some t => rfl
theorem wdT_s {x f : Str} : wdT (some (f, x)) f d M = .ok (.p (.tup [.str x, d])) M := if_pos rfl
def hdI (tag : Str) (o : Option (List D)) (M : Mem) : Res U := match o with | some ds => .ok (.p (.tup (.str tag :: ds))) M | none => .stuck
def hdT (e : Ex) (o : Option (Str × List HIt)) (M : Mem) : Res U := match o with | some (tag, its) => hdI tag (itsD e its) M | none => .stuck
def hdK (sub : Str → Str → Option Bool) (w0 : Str) (cl : List (Str × Str × List HIt)) (r : Res U) : Res U := match r with
  | .ok (.p d) M1 => .ok (.p (.tup [.str w0, d])) M1
  | .exc e M1 => hdT e (catchH sub cl e.cls) M1
  | _ => .stuck
theorem ev_heard {sub : Str → Str → Option Bool} {w0 : Str} {cl : List (Str × Str × List HIt)} : heardF sub w0 cl f Γ M = hdK sub w0 cl (f Γ M) := by
  unfold heardF hdK hdT hdI
  congr 1
theorem hdK_ok {sub : Str → Str → Option Bool} {w0 : Str} {cl : List (Str × Str × List HIt)} : hdK sub w0 cl (.ok (.p d) M) = .ok (.p (.tup [.str w0, d])) M := rfl
theorem hdK_exc {sub : Str → Str → Option Bool} {w0 : Str} {cl : List (Str × Str × List HIt)} : hdK sub w0 cl (.exc e M) = hdT e (catchH sub cl e.cls) M := rfl
theorem hdT_s {tag : Str} {its : List HIt} : hdT e (some (tag, its)) M = hdI tag (itsD e its) M := rfl
theorem hdI_s {tag : Str} {ds : List D} : hdI tag (some ds) M = .ok (.p (.tup (.str tag :: ds))) M := rfl
theorem its_fii {x g : Str} {k1 k2 : Bool} : itsD ⟨x, [(g, d)]⟩ [.fld g, .isi k1, .isi k2] = some [d, .bl k1, .bl k2] := by simp [itsD]
theorem its_fi {x g : Str} {k1 : Bool} : itsD ⟨x, [(g, d)]⟩ [.fld g, .isi k1] = some [d, .bl k1] := by simp [itsD]
def srK (o : Option (List D)) (M : Mem) : Res U := match o with
  | some ds => .ok (.p (.lst ds)) M
  | none => .stuck
def srV (us : List U) (M : Mem) : Res U := match us with
  | [u] => srK ((sortSrc M u).bind sortD) M
  | _ => .stuck
theorem srV_1 : srV [u] M = srK ((sortSrc M u).bind sortD) M := rfl
theorem srK_s {ds : List D} : srK (some ds) M = .ok (.p (.lst ds)) M := rfl
theorem srcL {xs : List D} : sortSrc M (.p (.lst xs)) = some xs := rfl
theorem srcT {xs : List D} : sortSrc M (.p (.tup xs)) = some xs := rfl
def wkK (o : Option Wk) (M : Mem) : Res Wk := match o with | some k => .ok k M | none => .stuck
theorem wkK_s {k : Wk} : wkK (some k) M = .ok k M := rfl
theorem wkU_t {xs : List D} : wkU M (.p (.tup xs)) = some ⟨xs, []⟩ := rfl
theorem wkU_l {xs : List D} : wkU M (.p (.lst xs)) = some ⟨xs, []⟩ := rfl
theorem wkU_s {ns : List Int} : wkU M (.p (.scr ns)) = some ⟨ns.map .int, []⟩ := rfl
def r1K (us : List U) (M : Mem) : Res Wk := match us with
  | [.p (.int j)] => if -(2 ^ 62) ≤ j ∧ j < 2 ^ 62 then .ok ⟨upto 0 j.toNat, []⟩ M else .stuck
  | _ => .stuck
theorem r1K_i {j : Int} (h1 : 0 ≤ j) (h2 : j < 4611686018427387904) : r1K [.p (.int j)] M = .ok ⟨upto 0 j.toNat, []⟩ M := by
  exact if_pos (by omega)
def r2K (us : List U) (M : Mem) : Res Wk := match us with
  | [.p (.int i), .p (.int j)] => if -(2 ^ 62) ≤ i ∧ i < 2 ^ 62 ∧ -(2 ^ 62) ≤ j ∧ j < 2 ^ 62 then .ok ⟨upto i (j - i).toNat, []⟩ M else .stuck
  | _ => .stuck
def zpK (us : List U) (M : Mem) : Res Wk := match us with
  | [u, u'] => match enumI.isLst M u, enumI.isLst M u', wkU M u, wkU M u' with
    | true, true, some k, some k' => .ok ⟨zipD k.ds k'.ds, k.gd ++ k'.gd⟩ M
    | false, false, some k, some k' => .ok ⟨zipD k.ds k'.ds, k.gd ++ k'.gd⟩ M
    | _, _, _, _ => .stuck
  | _ => .stuck
theorem zpK_tt {xs ys : List D} : zpK [.p (.tup xs), .p (.tup ys)] M = .ok ⟨zipD xs ys, []⟩ M := rfl
theorem zpK_ll {xs ys : List D} : zpK [.p (.lst xs), .p (.lst ys)] M = .ok ⟨zipD xs ys, []⟩ M := rfl
noncomputable def flK (o : Option Env) (gd : List (Nat × List D)) (asg : U → Mem → Env → Option Env) (b : Fs) (ds : List D) (M : Mem) : Fl := match o with
  | some Γ1 => loopEnd (forL gd asg b ds) (b Γ1 M)
  | none => .st
theorem grd_nil : grd [] M = True := eq_true fun p h => nomatch h
theorem for_nil {asg : U → Mem → Env → Option Env} : forL [] asg s [] Γ M = .nx Γ M := by
  unfold forL
  rw [if_pos (grd_nil ▸ trivial)]
theorem for_cons {asg : U → Mem → Env → Option Env} {ds : List D} : forL [] asg s (d :: ds) Γ M = flK (asg (.p d) M Γ) [] asg s ds M := by
  rw [forL, if_pos (grd_nil ▸ trivial)]
  rfl
theorem flK_s {asg : U → Mem → Env → Option Env} {ds : List D} {gd : List (Nat × List D)} : flK (some Γ) gd asg s ds M = loopEnd (forL gd asg s ds) (s Γ M) := rfl
theorem le_nx {q : Env → Mem → Fl} : loopEnd q (.nx Γ M) = q Γ M := rfl
theorem le_ct {q : Env → Mem → Fl} : loopEnd q (.ct Γ M) = q Γ M := rfl
theorem le_bk {q : Env → Mem → Fl} : loopEnd q (.bk Γ M) = .nx Γ M := rfl
theorem le_rt {q : Env → Mem → Fl} : loopEnd q (.rt u M) = .rt u M := rfl
theorem le_ex {q : Env → Mem → Fl} : loopEnd q (.ex e Γ M) = .ex e Γ M := rfl
end
def consK2 (d : U) (r : Res (List U)) : Res (List U) := r.bind fun a M => .ok (d :: a) M
theorem consK2_k {d : U} {a : List U} {M : Mem} : consK2 d (.ok a M) = .ok (d :: a) M := rfl
theorem consK2_x {d : U} {e : Ex} {M : Mem} : consK2 d (.exc e M) = .exc e M := rfl

def consK1 (g : Fa) (Γ : Env) (r : Res (U)) : Res (List U) := r.bind fun a M => consK2 a (g Γ M)
theorem consK1_k {g : Fa} {Γ : Env} {a : U} {M : Mem} : consK1 g Γ (.ok a M) = consK2 a (g Γ M) := rfl
theorem consK1_x {g : Fa} {Γ : Env} {e : Ex} {M : Mem} : consK1 g Γ (.exc e M) = .exc e M := rfl

def tupK  (r : Res (List U)) : Res (U) := r.bind fun a M => opt ((pures a).map .tup) M
theorem tupK_k  {a : List U} {M : Mem} : tupK  (.ok a M) = opt ((pures a).map .tup) M := rfl
theorem tupK_x  {e : Ex} {M : Mem} : tupK  (.exc e M) = .exc e M := rfl

def lstK  (r : Res (List U)) : Res (U) := r.bind fun a M => opt ((pures a).map .lst) M
theorem lstK_k  {a : List U} {M : Mem} : lstK  (.ok a M) = opt ((pures a).map .lst) M := rfl
theorem lstK_x  {e : Ex} {M : Mem} : lstK  (.exc e M) = .exc e M := rfl

def op2B (h : D → D → Option D) (d : U) (r : Res (U)) : Res (U) := r.bind fun a M => op2V h M d a
theorem op2B_k {h : D → D → Option D} {d : U} {a : U} {M : Mem} : op2B h d (.ok a M) = op2V h M d a := rfl
theorem op2B_x {h : D → D → Option D} {d : U} {e : Ex} {M : Mem} : op2B h d (.exc e M) = .exc e M := rfl

def op2A (h : D → D → Option D) (f : Fx) (Γ : Env) (r : Res (U)) : Res (U) := r.bind fun a M => op2B h a (f Γ M)
theorem op2A_k {h : D → D → Option D} {f : Fx} {Γ : Env} {a : U} {M : Mem} : op2A h f Γ (.ok a M) = op2B h a (f Γ M) := rfl
theorem op2A_x {h : D → D → Option D} {f : Fx} {Γ : Env} {e : Ex} {M : Mem} : op2A h f Γ (.exc e M) = .exc e M := rfl

def op1A (h : D → Option D) (r : Res (U)) : Res (U) := r.bind fun a M => op1V h M a
theorem op1A_k {h : D → Option D} {a : U} {M : Mem} : op1A h (.ok a M) = op1V h M a := rfl
theorem op1A_x {h : D → Option D} {e : Ex} {M : Mem} : op1A h (.exc e M) = .exc e M := rfl

def blA (h : List D → Option D) (r : Res (List U)) : Res (U) := r.bind fun a M => blV h M a
theorem blA_k {h : List D → Option D} {a : List U} {M : Mem} : blA h (.ok a M) = blV h M a := rfl
theorem blA_x {h : List D → Option D} {e : Ex} {M : Mem} : blA h (.exc e M) = .exc e M := rfl

def cmpK (h : Mem → U → U → Option Bool) (d : U) (r : Res (U)) : Res (Bool) := r.bind fun a M => optB (h M d a) M
theorem cmpK_k {h : Mem → U → U → Option Bool} {d : U} {a : U} {M : Mem} : cmpK h d (.ok a M) = optB (h M d a) M := rfl
theorem cmpK_x {h : Mem → U → U → Option Bool} {d : U} {e : Ex} {M : Mem} : cmpK h d (.exc e M) = .exc e M := rfl

def cmpA (h : Mem → U → U → Option Bool) (f : Fx) (Γ : Env) (r : Res (U)) : Res (Bool) := r.bind fun a M => cmpK h a (f Γ M)
theorem cmpA_k {h : Mem → U → U → Option Bool} {f : Fx} {Γ : Env} {a : U} {M : Mem} : cmpA h f Γ (.ok a M) = cmpK h a (f Γ M) := rfl
theorem cmpA_x {h : Mem → U → U → Option Bool} {f : Fx} {Γ : Env} {e : Ex} {M : Mem} : cmpA h f Γ (.exc e M) = .exc e M := rfl

def valK  (r : Res (Bool)) : Res (U) := r.bind fun a M => .ok (.p (.bl a)) M
theorem valK_k  {a : Bool} {M : Mem} : valK  (.ok a M) = .ok (.p (.bl a)) M := rfl
theorem valK_x  {e : Ex} {M : Mem} : valK  (.exc e M) = .exc e M := rfl

def chC (h' : Mem → U → U → Option Bool) (d : U) (f' : Fx) (Γ : Env) (r : Res (Bool)) : Res (Bool) := r.bind fun a M => chK h' a d f' Γ M
theorem chC_k {h' : Mem → U → U → Option Bool} {d : U} {f' : Fx} {Γ : Env} {a : Bool} {M : Mem} : chC h' d f' Γ (.ok a M) = chK h' a d f' Γ M := rfl
theorem chC_x {h' : Mem → U → U → Option Bool} {d : U} {f' : Fx} {Γ : Env} {e : Ex} {M : Mem} : chC h' d f' Γ (.exc e M) = .exc e M := rfl

def chB (h : Mem → U → U → Option Bool) (h' : Mem → U → U → Option Bool) (d : U) (f' : Fx) (Γ : Env) (r : Res (U)) : Res (Bool) := r.bind fun a M => chC h' a f' Γ (optB (h M d a) M)
theorem chB_k {h : Mem → U → U → Option Bool} {h' : Mem → U → U → Option Bool} {d : U} {f' : Fx} {Γ : Env} {a : U} {M : Mem} : chB h h' d f' Γ (.ok a M) = chC h' a f' Γ (optB (h M d a) M) := rfl
theorem chB_x {h : Mem → U → U → Option Bool} {h' : Mem → U → U → Option Bool} {d : U} {f' : Fx} {Γ : Env} {e : Ex} {M : Mem} : chB h h' d f' Γ (.exc e M) = .exc e M := rfl

def chA (h : Mem → U → U → Option Bool) (h' : Mem → U → U → Option Bool) (f : Fx) (f' : Fx) (Γ : Env) (r : Res (U)) : Res (Bool) := r.bind fun a M => chB h h' a f' Γ (f Γ M)
theorem chA_k {h : Mem → U → U → Option Bool} {h' : Mem → U → U → Option Bool} {f : Fx} {f' : Fx} {Γ : Env} {a : U} {M : Mem} : chA h h' f f' Γ (.ok a M) = chB h h' a f' Γ (f Γ M) := rfl
theorem chA_x {h : Mem → U → U → Option Bool} {h' : Mem → U → U → Option Bool} {f : Fx} {f' : Fx} {Γ : Env} {e : Ex} {M : Mem} : chA h h' f f' Γ (.exc e M) = .exc e M := rfl

def andBA (c : Fb) (Γ : Env) (r : Res (Bool)) : Res (Bool) := r.bind fun a M => andBK a c Γ M
theorem andBA_k {c : Fb} {Γ : Env} {a : Bool} {M : Mem} : andBA c Γ (.ok a M) = andBK a c Γ M := rfl
theorem andBA_x {c : Fb} {Γ : Env} {e : Ex} {M : Mem} : andBA c Γ (.exc e M) = .exc e M := rfl

def orBA (c : Fb) (Γ : Env) (r : Res (Bool)) : Res (Bool) := r.bind fun a M => orBK a c Γ M
theorem orBA_k {c : Fb} {Γ : Env} {a : Bool} {M : Mem} : orBA c Γ (.ok a M) = orBK a c Γ M := rfl
theorem orBA_x {c : Fb} {Γ : Env} {e : Ex} {M : Mem} : orBA c Γ (.exc e M) = .exc e M := rfl

def notBA  (r : Res (Bool)) : Res (Bool) := r.bind fun a M => .ok (!a) M
theorem notBA_k  {a : Bool} {M : Mem} : notBA  (.ok a M) = .ok (!a) M := rfl
theorem notBA_x  {e : Ex} {M : Mem} : notBA  (.exc e M) = .exc e M := rfl

def truA  (r : Res (U)) : Res (Bool) := r.bind fun a M => truV M a
theorem truA_k  {a : U} {M : Mem} : truA  (.ok a M) = truV M a := rfl
theorem truA_x  {e : Ex} {M : Mem} : truA  (.exc e M) = .exc e M := rfl

def andA (f : Fx) (Γ : Env) (r : Res (U)) : Res (U) := r.bind fun a M => andK a f Γ M
theorem andA_k {f : Fx} {Γ : Env} {a : U} {M : Mem} : andA f Γ (.ok a M) = andK a f Γ M := rfl
theorem andA_x {f : Fx} {Γ : Env} {e : Ex} {M : Mem} : andA f Γ (.exc e M) = .exc e M := rfl

def orA (f : Fx) (Γ : Env) (r : Res (U)) : Res (U) := r.bind fun a M => orK a f Γ M
theorem orA_k {f : Fx} {Γ : Env} {a : U} {M : Mem} : orA f Γ (.ok a M) = orK a f Γ M := rfl
theorem orA_x {f : Fx} {Γ : Env} {e : Ex} {M : Mem} : orA f Γ (.exc e M) = .exc e M := rfl

def notA  (r : Res (U)) : Res (U) := r.bind fun a M => notK a M
theorem notA_k  {a : U} {M : Mem} : notA  (.ok a M) = notK a M := rfl
theorem notA_x  {e : Ex} {M : Mem} : notA  (.exc e M) = .exc e M := rfl

def ifFA (f : Fx) (f' : Fx) (Γ : Env) (r : Res (Bool)) : Res (U) := r.bind fun a M => ifFK a f f' Γ M
theorem ifFA_k {f : Fx} {f' : Fx} {Γ : Env} {a : Bool} {M : Mem} : ifFA f f' Γ (.ok a M) = ifFK a f f' Γ M := rfl
theorem ifFA_x {f : Fx} {f' : Fx} {Γ : Env} {e : Ex} {M : Mem} : ifFA f f' Γ (.exc e M) = .exc e M := rfl

def ixB (d : U) (r : Res (U)) : Res (U) := r.bind fun a M => ixV M d a
theorem ixB_k {d : U} {a : U} {M : Mem} : ixB d (.ok a M) = ixV M d a := rfl
theorem ixB_x {d : U} {e : Ex} {M : Mem} : ixB d (.exc e M) = .exc e M := rfl

def ixA (f : Fx) (Γ : Env) (r : Res (U)) : Res (U) := r.bind fun a M => ixB a (f Γ M)
theorem ixA_k {f : Fx} {Γ : Env} {a : U} {M : Mem} : ixA f Γ (.ok a M) = ixB a (f Γ M) := rfl
theorem ixA_x {f : Fx} {Γ : Env} {e : Ex} {M : Mem} : ixA f Γ (.exc e M) = .exc e M := rfl

def isA (t : Ty) (r : Res (U)) : Res (U) := r.bind fun a M => isV t M a
theorem isA_k {t : Ty} {a : U} {M : Mem} : isA t (.ok a M) = isV t M a := rfl
theorem isA_x {t : Ty} {e : Ex} {M : Mem} : isA t (.exc e M) = .exc e M := rfl

def slC (d : U) (l : Option Int) (r : Res (Option Int)) : Res (U) := r.bind fun a M => slV M d l a
theorem slC_k {d : U} {l : Option Int} {a : Option Int} {M : Mem} : slC d l (.ok a M) = slV M d l a := rfl
theorem slC_x {d : U} {l : Option Int} {e : Ex} {M : Mem} : slC d l (.exc e M) = .exc e M := rfl

def slB (d : U) (hi : Fo) (Γ : Env) (r : Res (Option Int)) : Res (U) := r.bind fun a M => slC d a (hi Γ M)
theorem slB_k {d : U} {hi : Fo} {Γ : Env} {a : Option Int} {M : Mem} : slB d hi Γ (.ok a M) = slC d a (hi Γ M) := rfl
theorem slB_x {d : U} {hi : Fo} {Γ : Env} {e : Ex} {M : Mem} : slB d hi Γ (.exc e M) = .exc e M := rfl

def slA (lo : Fo) (hi : Fo) (Γ : Env) (r : Res (U)) : Res (U) := r.bind fun a M => slB a hi Γ (lo Γ M)
theorem slA_k {lo : Fo} {hi : Fo} {Γ : Env} {a : U} {M : Mem} : slA lo hi Γ (.ok a M) = slB a hi Γ (lo Γ M) := rfl
theorem slA_x {lo : Fo} {hi : Fo} {Γ : Env} {e : Ex} {M : Mem} : slA lo hi Γ (.exc e M) = .exc e M := rfl

def sooA  (r : Res (U)) : Res (Option Int) := r.bind fun a M => sooK a M
theorem sooA_k  {a : U} {M : Mem} : sooA  (.ok a M) = sooK a M := rfl
theorem sooA_x  {e : Ex} {M : Mem} : sooA  (.exc e M) = .exc e M := rfl

def exprA  (Γ : Env) (r : Res (U)) : Fl := thenS r Γ fun a M => .nx Γ M
theorem exprA_k  {Γ : Env} {a : U} {M : Mem} : exprA  Γ (.ok a M) = .nx Γ M := rfl
theorem exprA_x  {Γ : Env} {e : Ex} {M : Mem} : exprA  Γ (.exc e M) = .ex e Γ M := rfl

def retA  (Γ : Env) (r : Res (U)) : Fl := thenS r Γ fun a M => .rt a M
theorem retA_k  {Γ : Env} {a : U} {M : Mem} : retA  Γ (.ok a M) = .rt a M := rfl
theorem retA_x  {Γ : Env} {e : Ex} {M : Mem} : retA  Γ (.exc e M) = .ex e Γ M := rfl

def ifA (s : Fs) (t : Fs) (Γ : Env) (r : Res (Bool)) : Fl := thenS r Γ fun a M => ifK a s t Γ M
theorem ifA_k {s : Fs} {t : Fs} {Γ : Env} {a : Bool} {M : Mem} : ifA s t Γ (.ok a M) = ifK a s t Γ M := rfl
theorem ifA_x {s : Fs} {t : Fs} {Γ : Env} {e : Ex} {M : Mem} : ifA s t Γ (.exc e M) = .ex e Γ M := rfl

def setA_ (i : Nat) (Γ : Env) (r : Res (U)) : Fl := thenS r Γ fun a M => .nx (Γ.set i (some a)) M
theorem setA__k {i : Nat} {Γ : Env} {a : U} {M : Mem} : setA_ i Γ (.ok a M) = .nx (Γ.set i (some a)) M := rfl
theorem setA__x {i : Nat} {Γ : Env} {e : Ex} {M : Mem} : setA_ i Γ (.exc e M) = .ex e Γ M := rfl

def asgA (g : U → Mem → Env → Option Env) (Γ : Env) (r : Res (U)) : Fl := thenS r Γ fun a M => asK (g a M Γ) M
theorem asgA_k {g : U → Mem → Env → Option Env} {Γ : Env} {a : U} {M : Mem} : asgA g Γ (.ok a M) = asK (g a M Γ) M := rfl
theorem asgA_x {g : U → Mem → Env → Option Env} {Γ : Env} {e : Ex} {M : Mem} : asgA g Γ (.exc e M) = .ex e Γ M := rfl

def parA (i : Nat) (j : Nat) (Γ : Env) (r : Res (List U)) : Fl := thenS r Γ fun a M => parK i j a Γ M
theorem parA_k {i : Nat} {j : Nat} {Γ : Env} {a : List U} {M : Mem} : parA i j Γ (.ok a M) = parK i j a Γ M := rfl
theorem parA_x {i : Nat} {j : Nat} {Γ : Env} {e : Ex} {M : Mem} : parA i j Γ (.exc e M) = .ex e Γ M := rfl

def par3A (i : Nat) (j : Nat) (l : Nat) (Γ : Env) (r : Res (List U)) : Fl := thenS r Γ fun a M => par3K i j l a Γ M
theorem par3A_k {i : Nat} {j : Nat} {l : Nat} {Γ : Env} {a : List U} {M : Mem} : par3A i j l Γ (.ok a M) = par3K i j l a Γ M := rfl
theorem par3A_x {i : Nat} {j : Nat} {l : Nat} {Γ : Env} {e : Ex} {M : Mem} : par3A i j l Γ (.exc e M) = .ex e Γ M := rfl

def putC (v : U) (o : U) (Γ : Env) (r : Res (U)) : Fl := thenS r Γ fun a M => putK M o a v Γ
theorem putC_k {v : U} {o : U} {Γ : Env} {a : U} {M : Mem} : putC v o Γ (.ok a M) = putK M o a v Γ := rfl
theorem putC_x {v : U} {o : U} {Γ : Env} {e : Ex} {M : Mem} : putC v o Γ (.exc e M) = .ex e Γ M := rfl

def putB (v : U) (fi : Fx) (Γ : Env) (r : Res (U)) : Fl := thenS r Γ fun a M => putC v a Γ (fi Γ M)
theorem putB_k {v : U} {fi : Fx} {Γ : Env} {a : U} {M : Mem} : putB v fi Γ (.ok a M) = putC v a Γ (fi Γ M) := rfl
theorem putB_x {v : U} {fi : Fx} {Γ : Env} {e : Ex} {M : Mem} : putB v fi Γ (.exc e M) = .ex e Γ M := rfl

def putA (fo : Fx) (fi : Fx) (Γ : Env) (r : Res (U)) : Fl := thenS r Γ fun a M => putB a fi Γ (fo Γ M)
theorem putA_k {fo : Fx} {fi : Fx} {Γ : Env} {a : U} {M : Mem} : putA fo fi Γ (.ok a M) = putB a fi Γ (fo Γ M) := rfl
theorem putA_x {fo : Fx} {fi : Fx} {Γ : Env} {e : Ex} {M : Mem} : putA fo fi Γ (.exc e M) = .ex e Γ M := rfl

def thawA  (r : Res (U)) : Res (U) := r.bind fun a M => thawK a M
theorem thawA_k  {a : U} {M : Mem} : thawA  (.ok a M) = thawK a M := rfl
theorem thawA_x  {e : Ex} {M : Mem} : thawA  (.exc e M) = .exc e M := rfl

def mtA (h : Mem → U → List U → Option (U × Mem)) (g : Fa) (Γ : Env) (r : Res (U)) : Res (U) := r.bind fun a M => mtK (isLoc M a) h a g Γ M
theorem mtA_k {h : Mem → U → List U → Option (U × Mem)} {g : Fa} {Γ : Env} {a : U} {M : Mem} : mtA h g Γ (.ok a M) = mtK (isLoc M a) h a g Γ M := rfl
theorem mtA_x {h : Mem → U → List U → Option (U × Mem)} {g : Fa} {Γ : Env} {e : Ex} {M : Mem} : mtA h g Γ (.exc e M) = .exc e M := rfl

def mtB (h : Mem → U → List U → Option (U × Mem)) (x : U) (r : Res (List U)) : Res (U) := r.bind fun a M => mtK2 (h M x a)
theorem mtB_k {h : Mem → U → List U → Option (U × Mem)} {x : U} {a : List U} {M : Mem} : mtB h x (.ok a M) = mtK2 (h M x a) := rfl
theorem mtB_x {h : Mem → U → List U → Option (U × Mem)} {x : U} {e : Ex} {M : Mem} : mtB h x (.exc e M) = .exc e M := rfl

def dispA (ks : List Str) (r : Res (List U)) : Res (U) := r.bind fun a M => .ok (.loc M.length) (M ++ [.dic ((ks.map Sum.inr).zip a)])
theorem dispA_k {ks : List Str} {a : List U} {M : Mem} : dispA ks (.ok a M) = .ok (.loc M.length) (M ++ [.dic ((ks.map Sum.inr).zip a)]) := rfl
theorem dispA_x {ks : List Str} {e : Ex} {M : Mem} : dispA ks (.exc e M) = .exc e M := rfl

def callA (F : List U → Mem → Res U) (r : Res (List U)) : Res (U) := r.bind fun a M => F a M
theorem callA_k {F : List U → Mem → Res U} {a : List U} {M : Mem} : callA F (.ok a M) = F a M := id rfl
theorem callA_x {F : List U → Mem → Res U} {e : Ex} {M : Mem} : callA F (.exc e M) = .exc e M := rfl

def raiseA (x fl : Str) (Γ : Env) (r : Res (List U)) : Fl := thenS r Γ fun a M => rsK x fl a Γ M
theorem raiseA_k {x fl : Str} {Γ : Env} {a : List U} {M : Mem} : raiseA x fl Γ (.ok a M) = rsK x fl a Γ M := rfl
theorem raiseA_x {x fl : Str} {Γ : Env} {e : Ex} {M : Mem} : raiseA x fl Γ (.exc e M) = .ex e Γ M := rfl

def srA  (r : Res (List U)) : Res (U) := r.bind fun a M => srV a M
theorem srA_k  {a : List U} {M : Mem} : srA  (.ok a M) = srV a M := rfl
theorem srA_x  {e : Ex} {M : Mem} : srA  (.exc e M) = .exc e M := rfl

def seqA  (r : Res (U)) : Res (Wk) := r.bind fun a M => wkK (wkU M a) M
theorem seqA_k  {a : U} {M : Mem} : seqA  (.ok a M) = wkK (wkU M a) M := rfl
theorem seqA_x  {e : Ex} {M : Mem} : seqA  (.exc e M) = .exc e M := rfl

def r1A  (r : Res (List U)) : Res (Wk) := r.bind fun a M => r1K a M
theorem r1A_k  {a : List U} {M : Mem} : r1A  (.ok a M) = r1K a M := rfl
theorem r1A_x  {e : Ex} {M : Mem} : r1A  (.exc e M) = .exc e M := rfl

def r2A  (r : Res (List U)) : Res (Wk) := r.bind fun a M => r2K a M
theorem r2A_k  {a : List U} {M : Mem} : r2A  (.ok a M) = r2K a M := rfl
theorem r2A_x  {e : Ex} {M : Mem} : r2A  (.exc e M) = .exc e M := rfl

def zpA  (r : Res (List U)) : Res (Wk) := r.bind fun a M => zpK a M
theorem zpA_k  {a : List U} {M : Mem} : zpA  (.ok a M) = zpK a M := rfl
theorem zpA_x  {e : Ex} {M : Mem} : zpA  (.exc e M) = .exc e M := rfl

noncomputable def forA (asg : U → Mem → Env → Option Env) (s : Fs) (Γ : Env) (r : Res (Wk)) : Fl := thenS r Γ fun a M => forL a.gd asg s a.ds Γ M
theorem forA_k {asg : U → Mem → Env → Option Env} {s : Fs} {Γ : Env} {a : Wk} {M : Mem} : forA asg s Γ (.ok a M) = forL a.gd asg s a.ds Γ M := rfl
theorem forA_x {asg : U → Mem → Env → Option Env} {s : Fs} {Γ : Env} {e : Ex} {M : Mem} : forA asg s Γ (.exc e M) = .ex e Γ M := rfl

noncomputable def lcA (asg : U → Mem → Env → Option Env) (own : List Nat) (c : Fb) (f : Fx) (Γ : Env) (r : Res (Wk)) : Res (U) := r.bind fun a M => lcL a.gd asg c f (wipeG Γ own) a.ds [] M
theorem lcA_k {asg : U → Mem → Env → Option Env} {own : List Nat} {c : Fb} {f : Fx} {Γ : Env} {a : Wk} {M : Mem} : lcA asg own c f Γ (.ok a M) = lcL a.gd asg c f (wipeG Γ own) a.ds [] M := rfl
theorem lcA_x {asg : U → Mem → Env → Option Env} {own : List Nat} {c : Fb} {f : Fx} {Γ : Env} {e : Ex} {M : Mem} : lcA asg own c f Γ (.exc e M) = .exc e M := rfl

section
variable {α β : Type} {Γ Γ' : Env} {M M' M1 : Mem} {f f1 f2 f3 fo fi fv : Fx} {g : Fa} {c : Fb} {s t : Fs} {d x y z : D} {u v : U} {us : List U} {e : Ex} {k b : Bool} {i j n : Nat}
theorem chK_t {h : Mem → U → U → Option Bool} : chK h true u f Γ M = cmpK h u (f Γ M) := rfl
theorem mtK_t {h : Mem → U → List U → Option (U × Mem)} : mtK true h u g Γ M = mtB h u (g Γ M) := rfl
theorem ev_cons : consA f g Γ M = consK1 g Γ (f Γ M) := rfl
theorem ev_tup : tupF g Γ M = tupK (g Γ M) := rfl
theorem ev_lst : lstF g Γ M = lstK (g Γ M) := rfl
theorem ev_op2 {h : D → D → Option D} : op2F h f1 f2 Γ M = op2A h f2 Γ (f1 Γ M) := rfl
theorem ev_op1 {h : D → Option D} : op1F h f Γ M = op1A h (f Γ M) := rfl
theorem ev_bl {h : List D → Option D} : blF h g Γ M = blA h (g Γ M) := rfl
theorem ev_cmp {h : Mem → U → U → Option Bool} : cmpB h f1 f2 Γ M = cmpA h f2 Γ (f1 Γ M) := rfl
theorem ev_val : valF c Γ M = valK (c Γ M) := rfl
theorem ev_chain {h h' : Mem → U → U → Option Bool} : chainB h h' f1 f2 f3 Γ M = chA h h' f2 f3 Γ (f1 Γ M) := rfl
theorem ev_andB {c' : Fb} : andB c c' Γ M = andBA c' Γ (c Γ M) := rfl
theorem ev_orB {c' : Fb} : orB c c' Γ M = orBA c' Γ (c Γ M) := rfl
theorem ev_notB : notB c Γ M = notBA (c Γ M) := rfl
theorem ev_tru : truB f Γ M = truA (f Γ M) := rfl
theorem ev_and {f' : Fx} : andF f f' Γ M = andA f' Γ (f Γ M) := rfl
theorem ev_or {f' : Fx} : orF f f' Γ M = orA f' Γ (f Γ M) := rfl
theorem ev_not : notF f Γ M = notA (f Γ M) := rfl
theorem ev_ifF {f' : Fx} : ifF c f f' Γ M = ifFA f f' Γ (c Γ M) := rfl
theorem ev_ix : ixF f1 f2 Γ M = ixA f2 Γ (f1 Γ M) := rfl
theorem ev_is {t : Ty} : isF t f Γ M = isA t (f Γ M) := rfl
theorem ev_sl {lo hi : Fo} : slF f lo hi Γ M = slA lo hi Γ (f Γ M) := rfl
theorem ev_someO : someO f Γ M = sooA (f Γ M) := rfl
theorem ev_expr : exprS f Γ M = exprA Γ (f Γ M) := rfl
theorem ev_ret : retS f Γ M = retA Γ (f Γ M) := rfl
theorem ev_if : ifS c s t Γ M = ifA s t Γ (c Γ M) := rfl
theorem ev_set : setS i f Γ M = setA_ i Γ (f Γ M) := rfl
theorem ev_asg {a : U → Mem → Env → Option Env} : asgS a f Γ M = asgA a Γ (f Γ M) := rfl
theorem ev_par : parS i j g Γ M = parA i j Γ (g Γ M) := rfl
theorem ev_par3 {l : Nat} : par3S i j l g Γ M = par3A i j l Γ (g Γ M) := rfl
theorem ev_put : putS fo fi fv Γ M = putA fo fi Γ (fv Γ M) := rfl
theorem ev_thaw : thawF f Γ M = thawA (f Γ M) := rfl
theorem ev_meth {h : Mem → U → List U → Option (U × Mem)} : methF h f g Γ M = mtA h g Γ (f Γ M) := by
  unfold methF mtA mtK mtK2
  congr 1
theorem ev_disp {ks : List Str} : dispF ks g Γ M = dispA ks (g Γ M) := rfl
theorem ev_call {F : List U → Mem → Res U} : callF F g Γ M = callA F (g Γ M) := rfl
theorem ev_raise {x fl : Str} : raiseS x fl g Γ M = raiseA x fl Γ (g Γ M) := rfl
theorem ev_sorted : sortedF g Γ M = srA (g Γ M) := rfl
theorem ev_seqI : seqI f Γ M = seqA (f Γ M) := rfl
theorem ev_rng1 : rng1I g Γ M = r1A (g Γ M) := rfl
theorem ev_rng2 : rng2I g Γ M = r2A (g Γ M) := rfl
theorem ev_zip : zipI g Γ M = zpA (g Γ M) := rfl
theorem ev_for {it : Fi} {asg : U → Mem → Env → Option Env} : forS it asg s Γ M = forA asg s Γ (it Γ M) := rfl
theorem ev_lc {it : Fi} {asg : U → Mem → Env → Option Env} {own : List Nat} : lcF it asg own c f Γ M = lcA asg own c f Γ (it Γ M) := rfl
/-- a loop whose every pass goes on, with an invariant -/
theorem for_inv {asg : U → Mem → Env → Option Env} (I : Env → Mem → Prop) : ∀ {ds : List D} {Γ : Env} {M : Mem}, I Γ M →
    (∀ d ∈ ds, ∀ Γ M, I Γ M → ∃ Γ1 Γ2 M2, asg (.p d) M Γ = some Γ1 ∧ s Γ1 M = .nx Γ2 M2 ∧ I Γ2 M2) → ∃ Γ' M', forL [] asg s ds Γ M = .nx Γ' M' ∧ I Γ' M'
  | [], Γ, M, hi, _ => ⟨Γ, M, for_nil, hi⟩
  | d :: ds, Γ, M, hi, h => by
    obtain ⟨Γ1, Γ2, M2, h1, h2, h3⟩ := h d (by simp) Γ M hi
    obtain ⟨Γ', M', h4, h5⟩ := for_inv (asg := asg) (ds := ds) I h3 fun d' hd => h d' (List.mem_cons_of_mem _ hd)
    exact ⟨Γ', M', by rw [for_cons, h1, flK_s, h2, le_nx, h4], h5⟩
/-- a comprehension without a test, whose expression leaves the memory as it is -/
theorem lc_map {asg : U → Mem → Env → Option Env} {q : D → D} : ∀ {ds acc : List D}, (∀ d ∈ ds, ∃ Γ1, asg (.p d) M Γ = some Γ1 ∧ f Γ1 M = .ok (.p (q d)) M) → acc.length + ds.length ≤ 16777216 →
    lcL [] asg yesB f Γ ds acc M = .ok (.p (.lst (acc ++ ds.map q))) M
  | [], acc, _, _ => by
    unfold lcL
    rw [if_pos (grd_nil ▸ trivial)]
    simp
  | d :: ds, acc, h, hl => by
    obtain ⟨Γ1, h1, h2⟩ := h d (by simp)
    rw [lcL, if_pos (grd_nil ▸ trivial), h1]
    simp only [yesB, Res.calm, Res.bind, h2]
    simp only [List.length_cons] at hl
    rw [if_pos (by omega), lc_map (fun d' hd => h d' (List.mem_cons_of_mem _ hd)) (by simp; omega)]
    simp
end
def lcC {α : Type} (r : Res α) : Res α := r.calm
theorem lcC_k {α : Type} {a : α} {M : Mem} : lcC (.ok a M) = .ok a M := rfl
noncomputable def lcB (asg : U → Mem → Env → Option Env) (c : Fb) (e : Fx) (Γ0 : Env) (ds acc : List D) (r : Res U) : Res U := r.bind fun u M2 => match u with
  | .p y => if acc.length < 16777216 then lcL [] asg c e Γ0 ds (acc ++ [y]) M2 else .stuck
  | .loc _ => .stuck
noncomputable def lcT (asg : U → Mem → Env → Option Env) (c : Fb) (e : Fx) (Γ0 Γ1 : Env) (ds acc : List D) (r : Res Bool) : Res U := r.bind fun k M1 => match k with
  | true => lcB asg c e Γ0 ds acc (lcC (e Γ1 M1))
  | false => lcL [] asg c e Γ0 ds acc M1
noncomputable def lcS (asg : U → Mem → Env → Option Env) (c : Fb) (e : Fx) (Γ0 : Env) (ds acc : List D) (M : Mem) (o : Option Env) : Res U := match o with
  | some Γ1 => lcT asg c e Γ0 Γ1 ds acc (lcC (c Γ1 M))
  | none => .stuck
theorem lc_nil {asg : U → Mem → Env → Option Env} {c : Fb} {e : Fx} {Γ : Env} {M : Mem} {acc : List D} : lcL [] asg c e Γ [] acc M = .ok (.p (.lst acc)) M := by
  unfold lcL
  rw [if_pos (grd_nil ▸ trivial)]
theorem lc_cons {asg : U → Mem → Env → Option Env} {c : Fb} {e : Fx} {Γ : Env} {M : Mem} {d : D} {ds acc : List D} : lcL [] asg c e Γ (d :: ds) acc M = lcS asg c e Γ ds acc M (asg (.p d) M Γ) := by
  rw [lcL, if_pos (grd_nil ▸ trivial)]
  unfold lcS lcT lcB lcC
  rfl
theorem lcS_k {asg : U → Mem → Env → Option Env} {c : Fb} {e : Fx} {Γ Γ1 : Env} {M : Mem} {ds acc : List D} : lcS asg c e Γ ds acc M (some Γ1) = lcT asg c e Γ Γ1 ds acc (lcC (c Γ1 M)) := rfl
theorem lcT_t {asg : U → Mem → Env → Option Env} {c : Fb} {e : Fx} {Γ Γ1 : Env} {M : Mem} {ds acc : List D} : lcT asg c e Γ Γ1 ds acc (.ok true M) = lcB asg c e Γ ds acc (lcC (e Γ1 M)) := rfl
theorem lcT_f {asg : U → Mem → Env → Option Env} {c : Fb} {e : Fx} {Γ Γ1 : Env} {M : Mem} {ds acc : List D} : lcT asg c e Γ Γ1 ds acc (.ok false M) = lcL [] asg c e Γ ds acc M := rfl
theorem lcB_k {asg : U → Mem → Env → Option Env} {c : Fb} {e : Fx} {Γ : Env} {M : Mem} {ds acc : List D} {y : D} : lcB asg c e Γ ds acc (.ok (.p y) M) = if acc.length < 16777216 then lcL [] asg c e Γ ds (acc ++ [y]) M else .stuck := rfl
theorem ev_yes {Γ : Env} {M : Mem} : yesB Γ M = .ok true M := rfl
end Mp
namespace Mp
open PySem PySem.Spec PyProof.Rows L2
def dMixed : Fs := (seqS (setS 0 (op2F modD (blF intD (consA (varF 0) nilA)) (cF (.int 2147483647))))
  (retS (op2F modD (op2F mulD (op2F modD (op2F addD (op2F addD (op2F mulD (varF 0) (op2F addD (cF (.int 48271)) (op2F mulD (op2F mulD (cF (.int 2)) (varF 1)) (varF 1)))) (op2F mulD (cF (.int 69621)) (varF 1))) (cF (.int 11))) (cF (.int 2147483647))) (cF (.int 69621))) (cF (.int 2147483629)))))
def mixV (c k : Int) : Int := (((c.fmod 2147483647) * (48271 + 2 * k * k) + 69621 * k + 11).fmod 2147483647 * 69621).fmod 2147483629
theorem mulD_l {i j : Int} (h1 : -18446744073709551616 < i) (h2 : i < 18446744073709551616) : mulD (.int i) (.int j) = some (.int (i * j)) := by
  exact if_pos (by simp [mulOk, h1, h2])
theorem mulD_r {i j : Int} (h1 : -18446744073709551616 < j) (h2 : j < 18446744073709551616) : mulD (.int i) (.int j) = some (.int (i * j)) := by
  exact if_pos (by simp [mulOk, h1, h2])
theorem addD_i {i j : Int} : addD (.int i) (.int j) = some (.int (i + j)) := rfl
theorem addD_l {xs ys : List D} (h : xs.length + ys.length ≤ 16777216) : addD (.lst xs) (.lst ys) = some (.lst (xs ++ ys)) := if_pos h
theorem addD_t {x y : D} {xs ys : List D} (h : (x :: xs).length + (y :: ys).length ≤ 16777216) : addD (.tup (x :: xs)) (.tup (y :: ys)) = some (.tup (x :: xs ++ y :: ys)) := if_pos h
theorem addD_s {x y : Str} (h : x.length + y.length ≤ 16777216) : addD (.str x) (.str y) = some (.str (x ++ y)) := if_pos h
theorem subD_i {i j : Int} : subD (.int i) (.int j) = some (.int (i - j)) := rfl
theorem negD_i {i : Int} : negD (.int i) = some (.int (-i)) := rfl
theorem modD_i {i j : Int} (h : j ≠ 0) : modD (.int i) (.int j) = some (.int (i.fmod j)) := by
  exact if_pos h
theorem fdivD_i {i j : Int} (h : j ≠ 0) (h2 : j.natAbs < 1073741824) : fdivD (.int i) (.int j) = some (.int (i.fdiv j)) := by
  exact if_pos ⟨h, .inl h2⟩
theorem log2_lt {n k : Nat} (h : n < 2 ^ (k + 1)) : n.log2 < k + 1 := by
  by_cases hn : n = 0
  · subst hn; simp
  · exact (Nat.log2_lt hn).mpr h
theorem fdivD_g {i j : Int} (h : 0 < j) (h2 : j < 1267650600228229401496703205376) : fdivD (.int i) (.int j) = some (.int (i.fdiv j)) := by
  exact if_pos ⟨by omega, .inr ⟨h, Nat.lt_of_lt_of_le (log2_lt (k := 999) (by omega)) (by decide)⟩⟩
theorem intD_i {i : Int} : intD [.int i] = some (.int i) := rfl
theorem lenD_l {xs : List D} : lenD [.lst xs] = some (.int xs.length) := rfl
theorem lenD_t {xs : List D} : lenD [.tup xs] = some (.int xs.length) := rfl
theorem mixed_ok {c k : Int} {M : Mem} (h1 : -1000000000000 < k) (h2 : k < 1000000000000) : fnS 2 dMixed [.p (.int c), .p (.int k)] M = .ok (.p (.int (mixV c k))) M := by
  have a1 := Int.fmod_nonneg_of_pos c (b := 2147483647) (by decide)
  have a2 := Int.fmod_lt_of_pos c (b := 2147483647) (by decide)
  have b1 := Int.fmod_nonneg_of_pos ((c.fmod 2147483647) * (48271 + 2 * k * k) + 69621 * k + 11) (b := 2147483647) (by decide)
  have b2 := Int.fmod_lt_of_pos ((c.fmod 2147483647) * (48271 + 2 * k * k) + 69621 * k + 11) (b := 2147483647) (by decide)
  rw [ev_fn]
  simp (disch := omega) only [ev_var0, ev_vars, ev_c, ev_nil, pures_nil, pures_cons, opt_some, optB_some, optU_some, deref_p, op2V_pp, op1V_p, blV_1, blV_2, blV_3, dC_pp, chK_f, andBK_t, andBK_f, orBK_t, orBK_f, truV_p, truD_bl, truD_int, truD_tup, truD_lst, andK_t, andK_f, orK_t, orK_f, notK_b, ifFK_t, ifFK_f, ixV_pp, ixD_t, ixD_k, ixD_l, atI_0, atI_1, atI_2, atI_3, isV_int, isV_bl, isV_non, isV_str, isV_tup, isV_lst, isV_kup, slV_p, ev_noO, sooK_i, ev_seq, sqK_nx, sqK_rt, sqK_ex, sqK_bk, sqK_ct, ev_skip, ev_retN, ifK_t, ifK_f, asK_s, ev_nameG, ev_tupG, ev_tupGk, ev_consG, ev_nilG, parK_2, par3K_3, putK_p, pmK_s, thawK_l, ev_newT, ev_newK, mtK2_s, exit_p, exit_nx, exit_ex, rsK_1, ev_word, wdK_ok, wdK_exc, wdT_s, ev_heard, hdK_ok, hdK_exc, hdT_s, hdI_s, its_fii, its_fi, srV_1, srK_s, srcL, srcT, wkK_s, wkU_t, wkU_l, wkU_s, zpK_tt, zpK_ll, grd_nil, flK_s, le_nx, le_ct, le_bk, le_rt, le_ex, consK2_k, consK2_x, consK1_k, consK1_x, tupK_k, tupK_x, lstK_k, lstK_x, op2B_k, op2B_x, op2A_k, op2A_x, op1A_k, op1A_x, blA_k, blA_x, cmpK_k, cmpK_x, cmpA_k, cmpA_x, valK_k, valK_x, chC_k, chC_x, chB_k, chB_x, chA_k, chA_x, andBA_k, andBA_x, orBA_k, orBA_x, notBA_k, notBA_x, truA_k, truA_x, andA_k, andA_x, orA_k, orA_x, notA_k, notA_x, ifFA_k, ifFA_x, ixB_k, ixB_x, ixA_k, ixA_x, isA_k, isA_x, slC_k, slC_x, slB_k, slB_x, slA_k, slA_x, sooA_k, sooA_x, exprA_k, exprA_x, retA_k, retA_x, ifA_k, ifA_x, setA__k, setA__x, asgA_k, asgA_x, parA_k, parA_x, par3A_k, par3A_x, putC_k, putC_x, putB_k, putB_x, putA_k, putA_x, thawA_k, thawA_x, mtA_k, mtA_x, mtB_k, mtB_x, dispA_k, dispA_x, callA_k, callA_x, raiseA_k, raiseA_x, srA_k, srA_x, seqA_k, seqA_x, r1A_k, r1A_x, r2A_k, r2A_x, zpA_k, zpA_x, forA_k, forA_x, lcA_k, lcA_x, chK_t, mtK_t, ev_cons, ev_tup, ev_lst, ev_op2, ev_op1, ev_bl, ev_cmp, ev_val, ev_chain, ev_andB, ev_orB, ev_notB, ev_tru, ev_and, ev_or, ev_not, ev_ifF, ev_ix, ev_is, ev_sl, ev_someO, ev_expr, ev_ret, ev_if, ev_set, ev_asg, ev_par, ev_par3, ev_put, ev_thaw, ev_meth, ev_disp, ev_call, ev_raise, ev_sorted, ev_seqI, ev_rng1, ev_rng2, ev_zip, ev_for, ev_lc, lcC_k, lcS_k, lcT_t, lcT_f, lcB_k, ev_yes, entG, List.map_cons, List.map_nil, List.length_cons, List.length_nil, List.cons_append, List.nil_append, List.append_nil, List.set_cons_zero, List.set_cons_succ, List.replicate_zero, List.replicate_succ, Nat.reduceAdd, Nat.reduceSub, Option.map_some, Option.bind_some, Option.map_none, Option.bind_none, List.take_length, Bool.not_true, Bool.not_false, Nat.zero_add, Nat.sub_self, Nat.reduceMul, List.take_left, List.isEmpty_cons, List.isEmpty_nil, ↓reduceIte, Nat.reduceLT, dMixed, modD_i, mulD_l, mulD_r, addD_i, intD_i]
  rfl
theorem mixV_bd (c k : Int) : 0 ≤ mixV c k ∧ mixV c k < 2147483629 := ⟨Int.fmod_nonneg_of_pos _ (by decide), Int.fmod_lt_of_pos _ (by decide)⟩

def dDraw : Fs := (seqS (setS 2 (ixF (varF 0) (cF (.str "at"))))
  (seqS (putS (varF 0) (cF (.str "at")) (op2F addD (varF 2) (cF (.int 1))))
  (seqS (setS 3 (op2F modD (blF intD (consA (varF 2) nilA)) (blF lenD (consA (ixF (varF 0) (cF (.str "cells"))) nilA))))
  (seqS (setS 4 (ixF (ixF (varF 0) (cF (.str "lefts"))) (varF 3)))
  (seqS (ifS (cmpB (dC gtD) (varF 4) (cF (.int 0))) (seqS (putS (ixF (varF 0) (cF (.str "lefts"))) (varF 3) (op2F fdivD (varF 4) (varF 1)))
  (retS (op2F modD (blF intD (consA (varF 4) nilA)) (varF 1)))) skipS)
  (seqS (setS 5 (callF (fnS 2 dMixed) (consA (callF (fnS 2 dMixed) (consA (ixF (ixF (varF 0) (cF (.str "cells"))) (varF 3)) (consA (varF 2) nilA))) (consA (op2F addD (cF (.int 40)) (varF 2)) nilA))))
  (retS (op2F modD (op2F fdivD (blF intD (consA (op2F addD (op2F mulD (varF 5) (cF (.int 2147483647))) (callF (fnS 2 dMixed) (consA (varF 5) (consA (op2F addD (cF (.int 7)) (varF 2)) nilA)))) nilA)) (cF (.int 64))) (varF 1)))))))))

/-- the state of the draws, and what else the memory holds -/
def St (cs ls : List Int) (a : Int) (R : Mem) : Mem := .lst (ls.map .int) :: .dic [(.inr "cells", .p (.lst (cs.map .int))), (.inr "lefts", .loc 0), (.inr "at", .p (.int a))] :: R
structure Wf (n : Nat) (cs ls : List Int) (a : Int) : Prop where
  ne : cs ≠ []
  len : ls.length = cs.length
  nn : 0 ≤ a
  le : a ≤ n
theorem Wf.mono {n m : Nat} {cs ls : List Int} {a : Int} (h : Wf n cs ls a) (hm : n ≤ m) : Wf m cs ls a := ⟨h.ne, h.len, h.nn, by have := h.le; omega⟩
section
variable {cs ls : List Int} {a : Int} {R : Mem}
theorem St_len : (St cs ls a R).length = R.length + 2 := rfl
theorem St_app {R' : Mem} : St cs ls a R ++ R' = St cs ls a (R ++ R') := rfl
theorem St_get {n : Nat} : (St cs ls a R)[n + 2]? = R[n]? := rfl
theorem St_set {n : Nat} {o : Ob} : (St cs ls a R).set (n + 2) o = St cs ls a (R.set n o) := rfl
theorem St_take {n : Nat} : (St cs ls a R).take (n + 2) = St cs ls a (R.take n) := rfl
theorem St_0 : (St cs ls a R)[0]? = some (.lst (ls.map .int)) := rfl
theorem St_1 : (St cs ls a R)[1]? = some (.dic [(.inr "cells", .p (.lst (cs.map .int))), (.inr "lefts", .loc 0), (.inr "at", .p (.int a))]) := rfl
theorem isLoc_2 {xs : List D} : isLoc (St cs ls a (.lst xs :: R)) (.loc 2) = true := rfl
theorem isLoc_3 {o : Ob} {xs : List D} : isLoc (St cs ls a (o :: .lst xs :: R)) (.loc 3) = true := rfl
theorem isLoc_4 {o o' : Ob} {xs : List D} : isLoc (St cs ls a (o :: o' :: .lst xs :: R)) (.loc 4) = true := rfl
theorem appG_2 {xs : List D} {d : D} (h : xs.length < 16777216) : appG (St cs ls a (.lst xs :: R)) (.loc 2) [.p d] = some (.p .non, St cs ls a (.lst (xs ++ [d]) :: R)) := by
  show (if xs.length < 16777216 then some _ else none : Option Mem).map _ = _
  rw [if_pos h]
  rfl
theorem appG_3 {o : Ob} {xs : List D} {d : D} (h : xs.length < 16777216) : appG (St cs ls a (o :: .lst xs :: R)) (.loc 3) [.p d] = some (.p .non, St cs ls a (o :: .lst (xs ++ [d]) :: R)) := by
  show (if xs.length < 16777216 then some _ else none : Option Mem).map _ = _
  rw [if_pos h]
  rfl
theorem appG_4 {o o' : Ob} {xs : List D} {d : D} (h : xs.length < 16777216) : appG (St cs ls a (o :: o' :: .lst xs :: R)) (.loc 4) [.p d] = some (.p .non, St cs ls a (o :: o' :: .lst (xs ++ [d]) :: R)) := by
  show (if xs.length < 16777216 then some _ else none : Option Mem).map _ = _
  rw [if_pos h]
  rfl
theorem St_at : ixV (St cs ls a R) (.loc 1) (.p (.str "at")) = .ok (.p (.int a)) (St cs ls a R) := by
  rw [ixV_k St_1]
  rfl
theorem St_cells : ixV (St cs ls a R) (.loc 1) (.p (.str "cells")) = .ok (.p (.lst (cs.map .int))) (St cs ls a R) := by
  rw [ixV_k St_1]
  rfl
theorem St_lefts : ixV (St cs ls a R) (.loc 1) (.p (.str "lefts")) = .ok (.loc 0) (St cs ls a R) := by
  rw [ixV_k St_1]
  rfl
theorem St_put {b : Int} : putM (St cs ls a R) (.loc 1) (.str "at") (.p (.int b)) = some (St cs ls b R) := rfl
theorem ixN_nn {n : Nat} {i : Int} (h1 : 0 ≤ i) (h2 : i < n) : ixN n i = some i.toNat := by
  unfold ixN
  rw [if_pos h1, if_pos h2]
theorem St_ix0 {i : Int} (h1 : 0 ≤ i) (h2 : i < ls.length) : ixV (St cs ls a R) (.loc 0) (.p (.int i)) = .ok (.p (.int (ls.getD i.toNat 0))) (St cs ls a R) := by
  rw [ixV_l St_0, ixD_l]
  have : i.toNat < ls.length := by omega
  simp [atI, ixN_nn h1 (n := ls.length) h2, this, opt]
theorem St_put0 {i v : Int} (h1 : 0 ≤ i) (h2 : i < ls.length) : putM (St cs ls a R) (.loc 0) (.int i) (.p (.int v)) = some (St cs (ls.set i.toNat v) a R) := by
  show ((ixN (ls.map D.int).length i).map fun j => (St cs ls a R).set 0 (.lst ((ls.map D.int).set j (.int v)))) = _
  rw [ixN_nn h1 (by simpa using h2)]
  simp [St, List.map_set]
theorem atI_ints {i : Int} (h1 : 0 ≤ i) (h2 : i < cs.length) : atI (cs.map D.int) i = some (.int (cs.getD i.toNat 0)) := by
  have : i.toNat < cs.length := by omega
  simp [atI, ixN_nn h1 (n := cs.length) h2, this]
theorem ev_gt {i j : Int} : gtD (.int i) (.int j) = some (decide (j < i)) := rfl
theorem draw_ok {n : Nat} (w : Wf n cs ls a) (hn : n ≤ 100000000) {lim : Int} (h1 : 0 < lim) (h2 : lim < 1267650600228229401496703205376) :
    ∃ r ls', (∀ R, fnS 6 dDraw [.loc 1, .p (.int lim)] (St cs ls a R) = .ok (.p (.int r)) (St cs ls' (a + 1) R)) ∧ 0 ≤ r ∧ r < lim ∧ Wf (n + 1) cs ls' (a + 1) := by
  have hc : 0 < (cs.length : Int) := by
    have := List.length_pos_iff.mpr w.ne
    omega
  have p1 := Int.fmod_nonneg_of_pos a hc
  have p2 := Int.fmod_lt_of_pos a hc
  have p3 : a.fmod cs.length < ls.length := by rw [w.len]; exact p2
  have q0 := w.nn
  have q1 := w.le
  by_cases hl : 0 < ls.getD (a.fmod cs.length).toNat 0
  · refine ⟨(ls.getD (a.fmod cs.length).toNat 0).fmod lim, ls.set (a.fmod cs.length).toNat ((ls.getD (a.fmod cs.length).toNat 0).fdiv lim), fun R => ?_, Int.fmod_nonneg_of_pos _ h1, Int.fmod_lt_of_pos _ h1, ⟨w.ne, by simpa using w.len, by omega, by omega⟩⟩
    rw [ev_fn]
    simp (disch := first | omega | assumption) only [ev_var0, ev_vars, ev_c, ev_nil, pures_nil, pures_cons, opt_some, optB_some, optU_some, deref_p, op2V_pp, op1V_p, blV_1, blV_2, blV_3, dC_pp, chK_f, andBK_t, andBK_f, orBK_t, orBK_f, truV_p, truD_bl, truD_int, truD_tup, truD_lst, andK_t, andK_f, orK_t, orK_f, notK_b, ifFK_t, ifFK_f, ixV_pp, ixD_t, ixD_k, ixD_l, atI_0, atI_1, atI_2, atI_3, isV_int, isV_bl, isV_non, isV_str, isV_tup, isV_lst, isV_kup, slV_p, ev_noO, sooK_i, ev_seq, sqK_nx, sqK_rt, sqK_ex, sqK_bk, sqK_ct, ev_skip, ev_retN, ifK_t, ifK_f, asK_s, ev_nameG, ev_tupG, ev_tupGk, ev_consG, ev_nilG, parK_2, par3K_3, putK_p, pmK_s, thawK_l, ev_newT, ev_newK, mtK2_s, exit_p, exit_nx, exit_ex, rsK_1, ev_word, wdK_ok, wdK_exc, wdT_s, ev_heard, hdK_ok, hdK_exc, hdT_s, hdI_s, its_fii, its_fi, srV_1, srK_s, srcL, srcT, wkK_s, wkU_t, wkU_l, wkU_s, zpK_tt, zpK_ll, grd_nil, flK_s, le_nx, le_ct, le_bk, le_rt, le_ex, consK2_k, consK2_x, consK1_k, consK1_x, tupK_k, tupK_x, lstK_k, lstK_x, op2B_k, op2B_x, op2A_k, op2A_x, op1A_k, op1A_x, blA_k, blA_x, cmpK_k, cmpK_x, cmpA_k, cmpA_x, valK_k, valK_x, chC_k, chC_x, chB_k, chB_x, chA_k, chA_x, andBA_k, andBA_x, orBA_k, orBA_x, notBA_k, notBA_x, truA_k, truA_x, andA_k, andA_x, orA_k, orA_x, notA_k, notA_x, ifFA_k, ifFA_x, ixB_k, ixB_x, ixA_k, ixA_x, isA_k, isA_x, slC_k, slC_x, slB_k, slB_x, slA_k, slA_x, sooA_k, sooA_x, exprA_k, exprA_x, retA_k, retA_x, ifA_k, ifA_x, setA__k, setA__x, asgA_k, asgA_x, parA_k, parA_x, par3A_k, par3A_x, putC_k, putC_x, putB_k, putB_x, putA_k, putA_x, thawA_k, thawA_x, mtA_k, mtA_x, mtB_k, mtB_x, dispA_k, dispA_x, callA_k, callA_x, raiseA_k, raiseA_x, srA_k, srA_x, seqA_k, seqA_x, r1A_k, r1A_x, r2A_k, r2A_x, zpA_k, zpA_x, forA_k, forA_x, lcA_k, lcA_x, chK_t, mtK_t, ev_cons, ev_tup, ev_lst, ev_op2, ev_op1, ev_bl, ev_cmp, ev_val, ev_chain, ev_andB, ev_orB, ev_notB, ev_tru, ev_and, ev_or, ev_not, ev_ifF, ev_ix, ev_is, ev_sl, ev_someO, ev_expr, ev_ret, ev_if, ev_set, ev_asg, ev_par, ev_par3, ev_put, ev_thaw, ev_meth, ev_disp, ev_call, ev_raise, ev_sorted, ev_seqI, ev_rng1, ev_rng2, ev_zip, ev_for, ev_lc, lcC_k, lcS_k, lcT_t, lcT_f, lcB_k, ev_yes, entG, List.map_cons, List.map_nil, List.length_cons, List.length_nil, List.cons_append, List.nil_append, List.append_nil, List.set_cons_zero, List.set_cons_succ, List.replicate_zero, List.replicate_succ, Nat.reduceAdd, Nat.reduceSub, Option.map_some, Option.bind_some, Option.map_none, Option.bind_none, List.take_length, Bool.not_true, Bool.not_false, Nat.zero_add, Nat.sub_self, Nat.reduceMul, List.take_left, List.isEmpty_cons, List.isEmpty_nil, ↓reduceIte, Nat.reduceLT, dDraw, St_at, St_put, St_cells, St_lefts, lenD_l, intD_i, addD_i, modD_i, List.length_map, St_ix0, ev_gt, hl, decide_true, St_put0, fdivD_g, St_len, St_take]
  · have m1 := mixV_bd (cs.getD (a.fmod cs.length).toNat 0) a
    have m2 := mixV_bd (mixV (cs.getD (a.fmod cs.length).toNat 0) a) (40 + a)
    refine ⟨((mixV (mixV (cs.getD (a.fmod cs.length).toNat 0) a) (40 + a) * 2147483647 + mixV (mixV (mixV (cs.getD (a.fmod cs.length).toNat 0) a) (40 + a)) (7 + a)).fdiv 64).fmod lim, ls, fun R => ?_, Int.fmod_nonneg_of_pos _ h1, Int.fmod_lt_of_pos _ h1, ⟨w.ne, w.len, by omega, by omega⟩⟩
    rw [ev_fn]
    simp (disch := first | omega | assumption) only [ev_var0, ev_vars, ev_c, ev_nil, pures_nil, pures_cons, opt_some, optB_some, optU_some, deref_p, op2V_pp, op1V_p, blV_1, blV_2, blV_3, dC_pp, chK_f, andBK_t, andBK_f, orBK_t, orBK_f, truV_p, truD_bl, truD_int, truD_tup, truD_lst, andK_t, andK_f, orK_t, orK_f, notK_b, ifFK_t, ifFK_f, ixV_pp, ixD_t, ixD_k, ixD_l, atI_0, atI_1, atI_2, atI_3, isV_int, isV_bl, isV_non, isV_str, isV_tup, isV_lst, isV_kup, slV_p, ev_noO, sooK_i, ev_seq, sqK_nx, sqK_rt, sqK_ex, sqK_bk, sqK_ct, ev_skip, ev_retN, ifK_t, ifK_f, asK_s, ev_nameG, ev_tupG, ev_tupGk, ev_consG, ev_nilG, parK_2, par3K_3, putK_p, pmK_s, thawK_l, ev_newT, ev_newK, mtK2_s, exit_p, exit_nx, exit_ex, rsK_1, ev_word, wdK_ok, wdK_exc, wdT_s, ev_heard, hdK_ok, hdK_exc, hdT_s, hdI_s, its_fii, its_fi, srV_1, srK_s, srcL, srcT, wkK_s, wkU_t, wkU_l, wkU_s, zpK_tt, zpK_ll, grd_nil, flK_s, le_nx, le_ct, le_bk, le_rt, le_ex, consK2_k, consK2_x, consK1_k, consK1_x, tupK_k, tupK_x, lstK_k, lstK_x, op2B_k, op2B_x, op2A_k, op2A_x, op1A_k, op1A_x, blA_k, blA_x, cmpK_k, cmpK_x, cmpA_k, cmpA_x, valK_k, valK_x, chC_k, chC_x, chB_k, chB_x, chA_k, chA_x, andBA_k, andBA_x, orBA_k, orBA_x, notBA_k, notBA_x, truA_k, truA_x, andA_k, andA_x, orA_k, orA_x, notA_k, notA_x, ifFA_k, ifFA_x, ixB_k, ixB_x, ixA_k, ixA_x, isA_k, isA_x, slC_k, slC_x, slB_k, slB_x, slA_k, slA_x, sooA_k, sooA_x, exprA_k, exprA_x, retA_k, retA_x, ifA_k, ifA_x, setA__k, setA__x, asgA_k, asgA_x, parA_k, parA_x, par3A_k, par3A_x, putC_k, putC_x, putB_k, putB_x, putA_k, putA_x, thawA_k, thawA_x, mtA_k, mtA_x, mtB_k, mtB_x, dispA_k, dispA_x, callA_k, callA_x, raiseA_k, raiseA_x, srA_k, srA_x, seqA_k, seqA_x, r1A_k, r1A_x, r2A_k, r2A_x, zpA_k, zpA_x, forA_k, forA_x, lcA_k, lcA_x, chK_t, mtK_t, ev_cons, ev_tup, ev_lst, ev_op2, ev_op1, ev_bl, ev_cmp, ev_val, ev_chain, ev_andB, ev_orB, ev_notB, ev_tru, ev_and, ev_or, ev_not, ev_ifF, ev_ix, ev_is, ev_sl, ev_someO, ev_expr, ev_ret, ev_if, ev_set, ev_asg, ev_par, ev_par3, ev_put, ev_thaw, ev_meth, ev_disp, ev_call, ev_raise, ev_sorted, ev_seqI, ev_rng1, ev_rng2, ev_zip, ev_for, ev_lc, lcC_k, lcS_k, lcT_t, lcT_f, lcB_k, ev_yes, entG, List.map_cons, List.map_nil, List.length_cons, List.length_nil, List.cons_append, List.nil_append, List.append_nil, List.set_cons_zero, List.set_cons_succ, List.replicate_zero, List.replicate_succ, Nat.reduceAdd, Nat.reduceSub, Option.map_some, Option.bind_some, Option.map_none, Option.bind_none, List.take_length, Bool.not_true, Bool.not_false, Nat.zero_add, Nat.sub_self, Nat.reduceMul, List.take_left, List.isEmpty_cons, List.isEmpty_nil, ↓reduceIte, Nat.reduceLT, dDraw, St_at, St_put, St_cells, St_lefts, lenD_l, intD_i, addD_i, modD_i, List.length_map, St_ix0, ev_gt, hl, decide_false, fdivD_i, mixed_ok, atI_ints, mulD_r, St_len, St_take]

noncomputable def dBegin : Fs := (seqS (setS 1 (ifF (cmpB (dC neD) (varF 0) (lstF nilA)) (blF listD (consA (varF 0) nilA)) (lstF (consA (cF (.int 0)) nilA))))
  (seqS (setS 2 (thawF (lcF (seqI (varF 1)) (nameG 3) [3] yesB (ifF (cmpB (dC geD) (varF 3) (op2F powD (cF (.int 10)) (cF (.int 18)))) (varF 3) (cF (.int 0))))))
  (retS (dispF ["cells", "lefts", "at"] (consA (varF 1) (consA (varF 2) (consA (cF (.int 0)) nilA)))))))
theorem ev_ge {i j : Int} : geD (.int i) (.int j) = some (decide (j ≤ i)) := rfl
theorem ev_le {i j : Int} : leD (.int i) (.int j) = some (decide (i ≤ j)) := rfl
theorem ev_lt {i j : Int} : ltD (.int i) (.int j) = some (decide (i < j)) := rfl
theorem ev_eq {i j : Int} : eqD (.int i) (.int j) = some (decide (i = j)) := rfl
theorem ev_ne {i j : Int} : neD (.int i) (.int j) = some (!decide (i = j)) := rfl
theorem powD_i {i j : Int} (h1 : 0 ≤ j) (h2 : j ≤ 1000000) (h3 : i.natAbs < 2 ^ 64) : powD (.int i) (.int j) = some (.int (i ^ j.toNat)) := if_pos ⟨h1, h2, h3⟩
theorem canLay_ints : ∀ ns : List Int, PyData.canLayAll0 (ns.map .int) = true
  | [] => rfl
  | n :: ns => by simp only [List.map_cons, PyData.canLayAll0, PyData.canLay0, canLay_ints ns, Bool.and_self]
theorem depth_ints : ∀ ns : List Int, PyData.depthAll (ns.map .int) = 0
  | [] => rfl
  | n :: ns => by simp only [List.map_cons, PyData.depthAll, PyData.depth, depth_ints ns, Nat.max_self]
theorem shaped_ints (ns : List Int) : SeqAt.shaped (.list (ns.map .int)) = true := by
  simp only [SeqAt.shaped, PyData.canLay0, canLay_ints, PyData.depth, depth_ints]
  decide
/-- what is left of a cell at first -/
def leftV (c : Int) : Int := if 1000000000000000000 ≤ c then c else 0
theorem lefts_lc {M : Mem} {o1 o2 o3 : Option U} {cs : List Int} (hl : cs.length ≤ 16777216) : lcL [] (nameG 3) yesB (ifF (cmpB (dC geD) (varF 3) (op2F powD (cF (.int 10)) (cF (.int 18)))) (varF 3) (cF (.int 0))) [o1, o2, o3, none] (cs.map .int) [] M = .ok (.p (.lst ((cs.map leftV).map .int))) M := by
  have key := lc_map (Γ := [o1, o2, o3, none]) (M := M) (f := ifF (cmpB (dC geD) (varF 3) (op2F powD (cF (.int 10)) (cF (.int 18)))) (varF 3) (cF (.int 0))) (asg := nameG 3) (q := fun d => match d with | .int c => .int (leftV c) | d => d) (ds := cs.map .int) (acc := []) ?_ (by simpa using hl)
  · rw [key]
    simp [List.map_map, Function.comp_def]
  · intro d hd
    obtain ⟨c, hc, rfl⟩ := List.mem_map.mp hd
    refine ⟨[o1, o2, o3, some (.p (.int c))], rfl, ?_⟩
    by_cases h : 1000000000000000000 ≤ c
    · simp (disch := decide) only [ev_var0, ev_vars, ev_c, ev_nil, pures_nil, pures_cons, opt_some, optB_some, optU_some, deref_p, op2V_pp, op1V_p, blV_1, blV_2, blV_3, dC_pp, chK_f, andBK_t, andBK_f, orBK_t, orBK_f, truV_p, truD_bl, truD_int, truD_tup, truD_lst, andK_t, andK_f, orK_t, orK_f, notK_b, ifFK_t, ifFK_f, ixV_pp, ixD_t, ixD_k, ixD_l, atI_0, atI_1, atI_2, atI_3, isV_int, isV_bl, isV_non, isV_str, isV_tup, isV_lst, isV_kup, slV_p, ev_noO, sooK_i, ev_seq, sqK_nx, sqK_rt, sqK_ex, sqK_bk, sqK_ct, ev_skip, ev_retN, ifK_t, ifK_f, asK_s, ev_nameG, ev_tupG, ev_tupGk, ev_consG, ev_nilG, parK_2, par3K_3, putK_p, pmK_s, thawK_l, ev_newT, ev_newK, mtK2_s, exit_p, exit_nx, exit_ex, rsK_1, ev_word, wdK_ok, wdK_exc, wdT_s, ev_heard, hdK_ok, hdK_exc, hdT_s, hdI_s, its_fii, its_fi, srV_1, srK_s, srcL, srcT, wkK_s, wkU_t, wkU_l, wkU_s, zpK_tt, zpK_ll, grd_nil, flK_s, le_nx, le_ct, le_bk, le_rt, le_ex, consK2_k, consK2_x, consK1_k, consK1_x, tupK_k, tupK_x, lstK_k, lstK_x, op2B_k, op2B_x, op2A_k, op2A_x, op1A_k, op1A_x, blA_k, blA_x, cmpK_k, cmpK_x, cmpA_k, cmpA_x, valK_k, valK_x, chC_k, chC_x, chB_k, chB_x, chA_k, chA_x, andBA_k, andBA_x, orBA_k, orBA_x, notBA_k, notBA_x, truA_k, truA_x, andA_k, andA_x, orA_k, orA_x, notA_k, notA_x, ifFA_k, ifFA_x, ixB_k, ixB_x, ixA_k, ixA_x, isA_k, isA_x, slC_k, slC_x, slB_k, slB_x, slA_k, slA_x, sooA_k, sooA_x, exprA_k, exprA_x, retA_k, retA_x, ifA_k, ifA_x, setA__k, setA__x, asgA_k, asgA_x, parA_k, parA_x, par3A_k, par3A_x, putC_k, putC_x, putB_k, putB_x, putA_k, putA_x, thawA_k, thawA_x, mtA_k, mtA_x, mtB_k, mtB_x, dispA_k, dispA_x, callA_k, callA_x, raiseA_k, raiseA_x, srA_k, srA_x, seqA_k, seqA_x, r1A_k, r1A_x, r2A_k, r2A_x, zpA_k, zpA_x, forA_k, forA_x, lcA_k, lcA_x, chK_t, mtK_t, ev_cons, ev_tup, ev_lst, ev_op2, ev_op1, ev_bl, ev_cmp, ev_val, ev_chain, ev_andB, ev_orB, ev_notB, ev_tru, ev_and, ev_or, ev_not, ev_ifF, ev_ix, ev_is, ev_sl, ev_someO, ev_expr, ev_ret, ev_if, ev_set, ev_asg, ev_par, ev_par3, ev_put, ev_thaw, ev_meth, ev_disp, ev_call, ev_raise, ev_sorted, ev_seqI, ev_rng1, ev_rng2, ev_zip, ev_for, ev_lc, lcC_k, lcS_k, lcT_t, lcT_f, lcB_k, ev_yes, entG, List.map_cons, List.map_nil, List.length_cons, List.length_nil, List.cons_append, List.nil_append, List.append_nil, List.set_cons_zero, List.set_cons_succ, List.replicate_zero, List.replicate_succ, Nat.reduceAdd, Nat.reduceSub, Option.map_some, Option.bind_some, Option.map_none, Option.bind_none, List.take_length, Bool.not_true, Bool.not_false, Nat.zero_add, Nat.sub_self, Nat.reduceMul, List.take_left, List.isEmpty_cons, List.isEmpty_nil, ↓reduceIte, Nat.reduceLT, powD_i, ev_ge, Int.reduceToNat, Int.reducePow, h, decide_true, leftV, if_true]
    · simp (disch := decide) only [ev_var0, ev_vars, ev_c, ev_nil, pures_nil, pures_cons, opt_some, optB_some, optU_some, deref_p, op2V_pp, op1V_p, blV_1, blV_2, blV_3, dC_pp, chK_f, andBK_t, andBK_f, orBK_t, orBK_f, truV_p, truD_bl, truD_int, truD_tup, truD_lst, andK_t, andK_f, orK_t, orK_f, notK_b, ifFK_t, ifFK_f, ixV_pp, ixD_t, ixD_k, ixD_l, atI_0, atI_1, atI_2, atI_3, isV_int, isV_bl, isV_non, isV_str, isV_tup, isV_lst, isV_kup, slV_p, ev_noO, sooK_i, ev_seq, sqK_nx, sqK_rt, sqK_ex, sqK_bk, sqK_ct, ev_skip, ev_retN, ifK_t, ifK_f, asK_s, ev_nameG, ev_tupG, ev_tupGk, ev_consG, ev_nilG, parK_2, par3K_3, putK_p, pmK_s, thawK_l, ev_newT, ev_newK, mtK2_s, exit_p, exit_nx, exit_ex, rsK_1, ev_word, wdK_ok, wdK_exc, wdT_s, ev_heard, hdK_ok, hdK_exc, hdT_s, hdI_s, its_fii, its_fi, srV_1, srK_s, srcL, srcT, wkK_s, wkU_t, wkU_l, wkU_s, zpK_tt, zpK_ll, grd_nil, flK_s, le_nx, le_ct, le_bk, le_rt, le_ex, consK2_k, consK2_x, consK1_k, consK1_x, tupK_k, tupK_x, lstK_k, lstK_x, op2B_k, op2B_x, op2A_k, op2A_x, op1A_k, op1A_x, blA_k, blA_x, cmpK_k, cmpK_x, cmpA_k, cmpA_x, valK_k, valK_x, chC_k, chC_x, chB_k, chB_x, chA_k, chA_x, andBA_k, andBA_x, orBA_k, orBA_x, notBA_k, notBA_x, truA_k, truA_x, andA_k, andA_x, orA_k, orA_x, notA_k, notA_x, ifFA_k, ifFA_x, ixB_k, ixB_x, ixA_k, ixA_x, isA_k, isA_x, slC_k, slC_x, slB_k, slB_x, slA_k, slA_x, sooA_k, sooA_x, exprA_k, exprA_x, retA_k, retA_x, ifA_k, ifA_x, setA__k, setA__x, asgA_k, asgA_x, parA_k, parA_x, par3A_k, par3A_x, putC_k, putC_x, putB_k, putB_x, putA_k, putA_x, thawA_k, thawA_x, mtA_k, mtA_x, mtB_k, mtB_x, dispA_k, dispA_x, callA_k, callA_x, raiseA_k, raiseA_x, srA_k, srA_x, seqA_k, seqA_x, r1A_k, r1A_x, r2A_k, r2A_x, zpA_k, zpA_x, forA_k, forA_x, lcA_k, lcA_x, chK_t, mtK_t, ev_cons, ev_tup, ev_lst, ev_op2, ev_op1, ev_bl, ev_cmp, ev_val, ev_chain, ev_andB, ev_orB, ev_notB, ev_tru, ev_and, ev_or, ev_not, ev_ifF, ev_ix, ev_is, ev_sl, ev_someO, ev_expr, ev_ret, ev_if, ev_set, ev_asg, ev_par, ev_par3, ev_put, ev_thaw, ev_meth, ev_disp, ev_call, ev_raise, ev_sorted, ev_seqI, ev_rng1, ev_rng2, ev_zip, ev_for, ev_lc, lcC_k, lcS_k, lcT_t, lcT_f, lcB_k, ev_yes, entG, List.map_cons, List.map_nil, List.length_cons, List.length_nil, List.cons_append, List.nil_append, List.append_nil, List.set_cons_zero, List.set_cons_succ, List.replicate_zero, List.replicate_succ, Nat.reduceAdd, Nat.reduceSub, Option.map_some, Option.bind_some, Option.map_none, Option.bind_none, List.take_length, Bool.not_true, Bool.not_false, Nat.zero_add, Nat.sub_self, Nat.reduceMul, List.take_left, List.isEmpty_cons, List.isEmpty_nil, ↓reduceIte, Nat.reduceLT, powD_i, ev_ge, Int.reduceToNat, Int.reducePow, h, decide_false, leftV, if_false]
theorem begin_at {cs : List Int} (hl : cs.length ≤ 16777216) (h : cs ≠ []) {o : Option U} : ∃ ls, Wf 0 cs ls 0 ∧ exitR 0 (seqS (setS 2 (thawF (lcF (seqI (varF 1)) (nameG 3) [3] yesB (ifF (cmpB (dC geD) (varF 3) (op2F powD (cF (.int 10)) (cF (.int 18)))) (varF 3) (cF (.int 0))))))
  (retS (dispF ["cells", "lefts", "at"] (consA (varF 1) (consA (varF 2) (consA (cF (.int 0)) nilA))))) [o, some (.p (.lst (cs.map .int))), none, none] []) = .ok (.loc 1) (St cs ls 0 []) := by
  refine ⟨cs.map leftV, ⟨h, by simp, by decide, by decide⟩, ?_⟩
  have key := fun (o1 o2 : Option U) => lefts_lc (M := []) (o1 := o1) (o2 := o2) (o3 := none) (cs := cs) hl
  simp only [ev_var0, ev_vars, ev_c, ev_nil, pures_nil, pures_cons, opt_some, optB_some, optU_some, deref_p, op2V_pp, op1V_p, blV_1, blV_2, blV_3, dC_pp, chK_f, andBK_t, andBK_f, orBK_t, orBK_f, truV_p, truD_bl, truD_int, truD_tup, truD_lst, andK_t, andK_f, orK_t, orK_f, notK_b, ifFK_t, ifFK_f, ixV_pp, ixD_t, ixD_k, ixD_l, atI_0, atI_1, atI_2, atI_3, isV_int, isV_bl, isV_non, isV_str, isV_tup, isV_lst, isV_kup, slV_p, ev_noO, sooK_i, ev_seq, sqK_nx, sqK_rt, sqK_ex, sqK_bk, sqK_ct, ev_skip, ev_retN, ifK_t, ifK_f, asK_s, ev_nameG, ev_tupG, ev_tupGk, ev_consG, ev_nilG, parK_2, par3K_3, putK_p, pmK_s, thawK_l, ev_newT, ev_newK, mtK2_s, exit_p, exit_nx, exit_ex, rsK_1, ev_word, wdK_ok, wdK_exc, wdT_s, ev_heard, hdK_ok, hdK_exc, hdT_s, hdI_s, its_fii, its_fi, srV_1, srK_s, srcL, srcT, wkK_s, wkU_t, wkU_l, wkU_s, zpK_tt, zpK_ll, grd_nil, flK_s, le_nx, le_ct, le_bk, le_rt, le_ex, consK2_k, consK2_x, consK1_k, consK1_x, tupK_k, tupK_x, lstK_k, lstK_x, op2B_k, op2B_x, op2A_k, op2A_x, op1A_k, op1A_x, blA_k, blA_x, cmpK_k, cmpK_x, cmpA_k, cmpA_x, valK_k, valK_x, chC_k, chC_x, chB_k, chB_x, chA_k, chA_x, andBA_k, andBA_x, orBA_k, orBA_x, notBA_k, notBA_x, truA_k, truA_x, andA_k, andA_x, orA_k, orA_x, notA_k, notA_x, ifFA_k, ifFA_x, ixB_k, ixB_x, ixA_k, ixA_x, isA_k, isA_x, slC_k, slC_x, slB_k, slB_x, slA_k, slA_x, sooA_k, sooA_x, exprA_k, exprA_x, retA_k, retA_x, ifA_k, ifA_x, setA__k, setA__x, asgA_k, asgA_x, parA_k, parA_x, par3A_k, par3A_x, putC_k, putC_x, putB_k, putB_x, putA_k, putA_x, thawA_k, thawA_x, mtA_k, mtA_x, mtB_k, mtB_x, dispA_k, dispA_x, callA_k, callA_x, raiseA_k, raiseA_x, srA_k, srA_x, seqA_k, seqA_x, r1A_k, r1A_x, r2A_k, r2A_x, zpA_k, zpA_x, forA_k, forA_x, lcA_k, lcA_x, chK_t, mtK_t, ev_cons, ev_tup, ev_lst, ev_op2, ev_op1, ev_bl, ev_cmp, ev_val, ev_chain, ev_andB, ev_orB, ev_notB, ev_tru, ev_and, ev_or, ev_not, ev_ifF, ev_ix, ev_is, ev_sl, ev_someO, ev_expr, ev_ret, ev_if, ev_set, ev_asg, ev_par, ev_par3, ev_put, ev_thaw, ev_meth, ev_disp, ev_call, ev_raise, ev_sorted, ev_seqI, ev_rng1, ev_rng2, ev_zip, ev_for, ev_lc, lcC_k, lcS_k, lcT_t, lcT_f, lcB_k, ev_yes, entG, List.map_cons, List.map_nil, List.length_cons, List.length_nil, List.cons_append, List.nil_append, List.append_nil, List.set_cons_zero, List.set_cons_succ, List.replicate_zero, List.replicate_succ, Nat.reduceAdd, Nat.reduceSub, Option.map_some, Option.bind_some, Option.map_none, Option.bind_none, List.take_length, Bool.not_true, Bool.not_false, Nat.zero_add, Nat.sub_self, Nat.reduceMul, List.take_left, List.isEmpty_cons, List.isEmpty_nil, ↓reduceIte, Nat.reduceLT, wipeG, key]
  rfl
theorem begin_ok {ns : List Int} (hl : ns.length ≤ 63) : ∃ cs ls, Wf 0 cs ls 0 ∧ fnS 4 dBegin [.p (.scr ns)] [] = .ok (.loc 1) (St cs ls 0 []) := by
  rw [ev_fn]
  have key : ∀ cs : List Int, cs ≠ [] → cs.length ≤ 16777216 → setS 1 (ifF (cmpB (dC neD) (varF 0) (lstF nilA)) (blF listD (consA (varF 0) nilA)) (lstF (consA (cF (.int 0)) nilA))) (entG 4 [.p (.scr ns)]) [] = .nx [some (.p (.scr ns)), some (.p (.lst (cs.map .int))), none, none] [] →
      ∃ cs ls, Wf 0 cs ls 0 ∧ exitR 0 (dBegin (entG 4 [.p (.scr ns)]) []) = .ok (.loc 1) (St cs ls 0 []) := fun cs h hl h1 => by
    obtain ⟨ls, w, h2⟩ := begin_at hl h (o := some (.p (.scr ns)))
    refine ⟨cs, ls, w, ?_⟩
    rw [← h2, dBegin, ev_seq, h1]
    rfl
  cases ns with
  | nil =>
    refine key [0] (by decide) (by decide) ?_
    have e : neD (.scr []) (.lst []) = some false := by decide
    simp only [ev_var0, ev_vars, ev_c, ev_nil, pures_nil, pures_cons, opt_some, optB_some, optU_some, deref_p, op2V_pp, op1V_p, blV_1, blV_2, blV_3, dC_pp, chK_f, andBK_t, andBK_f, orBK_t, orBK_f, truV_p, truD_bl, truD_int, truD_tup, truD_lst, andK_t, andK_f, orK_t, orK_f, notK_b, ifFK_t, ifFK_f, ixV_pp, ixD_t, ixD_k, ixD_l, atI_0, atI_1, atI_2, atI_3, isV_int, isV_bl, isV_non, isV_str, isV_tup, isV_lst, isV_kup, slV_p, ev_noO, sooK_i, ev_seq, sqK_nx, sqK_rt, sqK_ex, sqK_bk, sqK_ct, ev_skip, ev_retN, ifK_t, ifK_f, asK_s, ev_nameG, ev_tupG, ev_tupGk, ev_consG, ev_nilG, parK_2, par3K_3, putK_p, pmK_s, thawK_l, ev_newT, ev_newK, mtK2_s, exit_p, exit_nx, exit_ex, rsK_1, ev_word, wdK_ok, wdK_exc, wdT_s, ev_heard, hdK_ok, hdK_exc, hdT_s, hdI_s, its_fii, its_fi, srV_1, srK_s, srcL, srcT, wkK_s, wkU_t, wkU_l, wkU_s, zpK_tt, zpK_ll, grd_nil, flK_s, le_nx, le_ct, le_bk, le_rt, le_ex, consK2_k, consK2_x, consK1_k, consK1_x, tupK_k, tupK_x, lstK_k, lstK_x, op2B_k, op2B_x, op2A_k, op2A_x, op1A_k, op1A_x, blA_k, blA_x, cmpK_k, cmpK_x, cmpA_k, cmpA_x, valK_k, valK_x, chC_k, chC_x, chB_k, chB_x, chA_k, chA_x, andBA_k, andBA_x, orBA_k, orBA_x, notBA_k, notBA_x, truA_k, truA_x, andA_k, andA_x, orA_k, orA_x, notA_k, notA_x, ifFA_k, ifFA_x, ixB_k, ixB_x, ixA_k, ixA_x, isA_k, isA_x, slC_k, slC_x, slB_k, slB_x, slA_k, slA_x, sooA_k, sooA_x, exprA_k, exprA_x, retA_k, retA_x, ifA_k, ifA_x, setA__k, setA__x, asgA_k, asgA_x, parA_k, parA_x, par3A_k, par3A_x, putC_k, putC_x, putB_k, putB_x, putA_k, putA_x, thawA_k, thawA_x, mtA_k, mtA_x, mtB_k, mtB_x, dispA_k, dispA_x, callA_k, callA_x, raiseA_k, raiseA_x, srA_k, srA_x, seqA_k, seqA_x, r1A_k, r1A_x, r2A_k, r2A_x, zpA_k, zpA_x, forA_k, forA_x, lcA_k, lcA_x, chK_t, mtK_t, ev_cons, ev_tup, ev_lst, ev_op2, ev_op1, ev_bl, ev_cmp, ev_val, ev_chain, ev_andB, ev_orB, ev_notB, ev_tru, ev_and, ev_or, ev_not, ev_ifF, ev_ix, ev_is, ev_sl, ev_someO, ev_expr, ev_ret, ev_if, ev_set, ev_asg, ev_par, ev_par3, ev_put, ev_thaw, ev_meth, ev_disp, ev_call, ev_raise, ev_sorted, ev_seqI, ev_rng1, ev_rng2, ev_zip, ev_for, ev_lc, lcC_k, lcS_k, lcT_t, lcT_f, lcB_k, ev_yes, entG, List.map_cons, List.map_nil, List.length_cons, List.length_nil, List.cons_append, List.nil_append, List.append_nil, List.set_cons_zero, List.set_cons_succ, List.replicate_zero, List.replicate_succ, Nat.reduceAdd, Nat.reduceSub, Option.map_some, Option.bind_some, Option.map_none, Option.bind_none, List.take_length, Bool.not_true, Bool.not_false, Nat.zero_add, Nat.sub_self, Nat.reduceMul, List.take_left, List.isEmpty_cons, List.isEmpty_nil, ↓reduceIte, Nat.reduceLT, e]
  | cons n ns =>
    refine key (n :: ns) (by simp) (by omega) ?_
    have e : neD (.scr (n :: ns)) (.lst []) = some true := by
      have e1 : SeqAt.shaped (.list ((n :: ns).map .int)) = true := shaped_ints _
      show (if SeqAt.shaped (.list ((n :: ns).map .int)) = true ∧ SeqAt.shaped (.list []) = true then some (PyData.eqv (.list ((n :: ns).map .int)) (.list [])) else none).map (!·) = _
      rw [if_pos ⟨e1, by decide⟩]
      rfl
    have e2 : listD [.scr (n :: ns)] = some (.lst ((n :: ns).map .int)) := rfl
    simp only [ev_var0, ev_vars, ev_c, ev_nil, pures_nil, pures_cons, opt_some, optB_some, optU_some, deref_p, op2V_pp, op1V_p, blV_1, blV_2, blV_3, dC_pp, chK_f, andBK_t, andBK_f, orBK_t, orBK_f, truV_p, truD_bl, truD_int, truD_tup, truD_lst, andK_t, andK_f, orK_t, orK_f, notK_b, ifFK_t, ifFK_f, ixV_pp, ixD_t, ixD_k, ixD_l, atI_0, atI_1, atI_2, atI_3, isV_int, isV_bl, isV_non, isV_str, isV_tup, isV_lst, isV_kup, slV_p, ev_noO, sooK_i, ev_seq, sqK_nx, sqK_rt, sqK_ex, sqK_bk, sqK_ct, ev_skip, ev_retN, ifK_t, ifK_f, asK_s, ev_nameG, ev_tupG, ev_tupGk, ev_consG, ev_nilG, parK_2, par3K_3, putK_p, pmK_s, thawK_l, ev_newT, ev_newK, mtK2_s, exit_p, exit_nx, exit_ex, rsK_1, ev_word, wdK_ok, wdK_exc, wdT_s, ev_heard, hdK_ok, hdK_exc, hdT_s, hdI_s, its_fii, its_fi, srV_1, srK_s, srcL, srcT, wkK_s, wkU_t, wkU_l, wkU_s, zpK_tt, zpK_ll, grd_nil, flK_s, le_nx, le_ct, le_bk, le_rt, le_ex, consK2_k, consK2_x, consK1_k, consK1_x, tupK_k, tupK_x, lstK_k, lstK_x, op2B_k, op2B_x, op2A_k, op2A_x, op1A_k, op1A_x, blA_k, blA_x, cmpK_k, cmpK_x, cmpA_k, cmpA_x, valK_k, valK_x, chC_k, chC_x, chB_k, chB_x, chA_k, chA_x, andBA_k, andBA_x, orBA_k, orBA_x, notBA_k, notBA_x, truA_k, truA_x, andA_k, andA_x, orA_k, orA_x, notA_k, notA_x, ifFA_k, ifFA_x, ixB_k, ixB_x, ixA_k, ixA_x, isA_k, isA_x, slC_k, slC_x, slB_k, slB_x, slA_k, slA_x, sooA_k, sooA_x, exprA_k, exprA_x, retA_k, retA_x, ifA_k, ifA_x, setA__k, setA__x, asgA_k, asgA_x, parA_k, parA_x, par3A_k, par3A_x, putC_k, putC_x, putB_k, putB_x, putA_k, putA_x, thawA_k, thawA_x, mtA_k, mtA_x, mtB_k, mtB_x, dispA_k, dispA_x, callA_k, callA_x, raiseA_k, raiseA_x, srA_k, srA_x, seqA_k, seqA_x, r1A_k, r1A_x, r2A_k, r2A_x, zpA_k, zpA_x, forA_k, forA_x, lcA_k, lcA_x, chK_t, mtK_t, ev_cons, ev_tup, ev_lst, ev_op2, ev_op1, ev_bl, ev_cmp, ev_val, ev_chain, ev_andB, ev_orB, ev_notB, ev_tru, ev_and, ev_or, ev_not, ev_ifF, ev_ix, ev_is, ev_sl, ev_someO, ev_expr, ev_ret, ev_if, ev_set, ev_asg, ev_par, ev_par3, ev_put, ev_thaw, ev_meth, ev_disp, ev_call, ev_raise, ev_sorted, ev_seqI, ev_rng1, ev_rng2, ev_zip, ev_for, ev_lc, lcC_k, lcS_k, lcT_t, lcT_f, lcB_k, ev_yes, entG, List.map_cons, List.map_nil, List.length_cons, List.length_nil, List.cons_append, List.nil_append, List.append_nil, List.set_cons_zero, List.set_cons_succ, List.replicate_zero, List.replicate_succ, Nat.reduceAdd, Nat.reduceSub, Option.map_some, Option.bind_some, Option.map_none, Option.bind_none, List.take_length, Bool.not_true, Bool.not_false, Nat.zero_add, Nat.sub_self, Nat.reduceMul, List.take_left, List.isEmpty_cons, List.isEmpty_nil, ↓reduceIte, Nat.reduceLT, e, e2]
end
/-- the same, the cells left told inside the dict -/
noncomputable def dBegin2 : Fs := (seqS (setS 1 (ifF (cmpB (dC neD) (varF 0) (lstF nilA)) (blF listD (consA (varF 0) nilA)) (lstF (consA (cF (.int 0)) nilA))))
  (retS (dispF ["cells", "lefts", "at"] (consA (varF 1) (consA (thawF (lcF (seqI (varF 1)) (nameG 2) [2] yesB (ifF (cmpB (dC geD) (varF 2) (op2F powD (cF (.int 10)) (cF (.int 18)))) (varF 2) (cF (.int 0))))) (consA (cF (.int 0)) nilA))))))
section
variable {Γ : Env} {M : Mem} {d : D}
theorem lefts_lc2 {M : Mem} {o1 o2 : Option U} {cs : List Int} (hl : cs.length ≤ 16777216) : lcL [] (nameG 2) yesB (ifF (cmpB (dC geD) (varF 2) (op2F powD (cF (.int 10)) (cF (.int 18)))) (varF 2) (cF (.int 0))) [o1, o2, none] (cs.map .int) [] M = .ok (.p (.lst ((cs.map leftV).map .int))) M := by
  have key := lc_map (Γ := [o1, o2, none]) (M := M) (f := ifF (cmpB (dC geD) (varF 2) (op2F powD (cF (.int 10)) (cF (.int 18)))) (varF 2) (cF (.int 0))) (asg := nameG 2) (q := fun d => match d with | .int c => .int (leftV c) | d => d) (ds := cs.map .int) (acc := []) ?_ (by simpa using hl)
  · rw [key]
    simp [List.map_map, Function.comp_def]
  · intro d hd
    obtain ⟨c, hc, rfl⟩ := List.mem_map.mp hd
    refine ⟨[o1, o2, some (.p (.int c))], rfl, ?_⟩
    by_cases h : 1000000000000000000 ≤ c
    · simp (disch := decide) only [ev_var0, ev_vars, ev_c, ev_nil, pures_nil, pures_cons, opt_some, optB_some, optU_some, deref_p, op2V_pp, op1V_p, blV_1, blV_2, blV_3, dC_pp, chK_f, andBK_t, andBK_f, orBK_t, orBK_f, truV_p, truD_bl, truD_int, truD_tup, truD_lst, andK_t, andK_f, orK_t, orK_f, notK_b, ifFK_t, ifFK_f, ixV_pp, ixD_t, ixD_k, ixD_l, atI_0, atI_1, atI_2, atI_3, isV_int, isV_bl, isV_non, isV_str, isV_tup, isV_lst, isV_kup, slV_p, ev_noO, sooK_i, ev_seq, sqK_nx, sqK_rt, sqK_ex, sqK_bk, sqK_ct, ev_skip, ev_retN, ifK_t, ifK_f, asK_s, ev_nameG, ev_tupG, ev_tupGk, ev_consG, ev_nilG, parK_2, par3K_3, putK_p, pmK_s, thawK_l, ev_newT, ev_newK, mtK2_s, exit_p, exit_nx, exit_ex, rsK_1, ev_word, wdK_ok, wdK_exc, wdT_s, ev_heard, hdK_ok, hdK_exc, hdT_s, hdI_s, its_fii, its_fi, srV_1, srK_s, srcL, srcT, wkK_s, wkU_t, wkU_l, wkU_s, zpK_tt, zpK_ll, grd_nil, flK_s, le_nx, le_ct, le_bk, le_rt, le_ex, consK2_k, consK2_x, consK1_k, consK1_x, tupK_k, tupK_x, lstK_k, lstK_x, op2B_k, op2B_x, op2A_k, op2A_x, op1A_k, op1A_x, blA_k, blA_x, cmpK_k, cmpK_x, cmpA_k, cmpA_x, valK_k, valK_x, chC_k, chC_x, chB_k, chB_x, chA_k, chA_x, andBA_k, andBA_x, orBA_k, orBA_x, notBA_k, notBA_x, truA_k, truA_x, andA_k, andA_x, orA_k, orA_x, notA_k, notA_x, ifFA_k, ifFA_x, ixB_k, ixB_x, ixA_k, ixA_x, isA_k, isA_x, slC_k, slC_x, slB_k, slB_x, slA_k, slA_x, sooA_k, sooA_x, exprA_k, exprA_x, retA_k, retA_x, ifA_k, ifA_x, setA__k, setA__x, asgA_k, asgA_x, parA_k, parA_x, par3A_k, par3A_x, putC_k, putC_x, putB_k, putB_x, putA_k, putA_x, thawA_k, thawA_x, mtA_k, mtA_x, mtB_k, mtB_x, dispA_k, dispA_x, callA_k, callA_x, raiseA_k, raiseA_x, srA_k, srA_x, seqA_k, seqA_x, r1A_k, r1A_x, r2A_k, r2A_x, zpA_k, zpA_x, forA_k, forA_x, lcA_k, lcA_x, chK_t, mtK_t, ev_cons, ev_tup, ev_lst, ev_op2, ev_op1, ev_bl, ev_cmp, ev_val, ev_chain, ev_andB, ev_orB, ev_notB, ev_tru, ev_and, ev_or, ev_not, ev_ifF, ev_ix, ev_is, ev_sl, ev_someO, ev_expr, ev_ret, ev_if, ev_set, ev_asg, ev_par, ev_par3, ev_put, ev_thaw, ev_meth, ev_disp, ev_call, ev_raise, ev_sorted, ev_seqI, ev_rng1, ev_rng2, ev_zip, ev_for, ev_lc, lcC_k, lcS_k, lcT_t, lcT_f, lcB_k, ev_yes, entG, List.map_cons, List.map_nil, List.length_cons, List.length_nil, List.cons_append, List.nil_append, List.append_nil, List.set_cons_zero, List.set_cons_succ, List.replicate_zero, List.replicate_succ, Nat.reduceAdd, Nat.reduceSub, Option.map_some, Option.bind_some, Option.map_none, Option.bind_none, List.take_length, Bool.not_true, Bool.not_false, Nat.zero_add, Nat.sub_self, Nat.reduceMul, List.take_left, List.isEmpty_cons, List.isEmpty_nil, ↓reduceIte, Nat.reduceLT, powD_i, ev_ge, Int.reduceToNat, Int.reducePow, h, decide_true, leftV, if_true]
    · simp (disch := decide) only [ev_var0, ev_vars, ev_c, ev_nil, pures_nil, pures_cons, opt_some, optB_some, optU_some, deref_p, op2V_pp, op1V_p, blV_1, blV_2, blV_3, dC_pp, chK_f, andBK_t, andBK_f, orBK_t, orBK_f, truV_p, truD_bl, truD_int, truD_tup, truD_lst, andK_t, andK_f, orK_t, orK_f, notK_b, ifFK_t, ifFK_f, ixV_pp, ixD_t, ixD_k, ixD_l, atI_0, atI_1, atI_2, atI_3, isV_int, isV_bl, isV_non, isV_str, isV_tup, isV_lst, isV_kup, slV_p, ev_noO, sooK_i, ev_seq, sqK_nx, sqK_rt, sqK_ex, sqK_bk, sqK_ct, ev_skip, ev_retN, ifK_t, ifK_f, asK_s, ev_nameG, ev_tupG, ev_tupGk, ev_consG, ev_nilG, parK_2, par3K_3, putK_p, pmK_s, thawK_l, ev_newT, ev_newK, mtK2_s, exit_p, exit_nx, exit_ex, rsK_1, ev_word, wdK_ok, wdK_exc, wdT_s, ev_heard, hdK_ok, hdK_exc, hdT_s, hdI_s, its_fii, its_fi, srV_1, srK_s, srcL, srcT, wkK_s, wkU_t, wkU_l, wkU_s, zpK_tt, zpK_ll, grd_nil, flK_s, le_nx, le_ct, le_bk, le_rt, le_ex, consK2_k, consK2_x, consK1_k, consK1_x, tupK_k, tupK_x, lstK_k, lstK_x, op2B_k, op2B_x, op2A_k, op2A_x, op1A_k, op1A_x, blA_k, blA_x, cmpK_k, cmpK_x, cmpA_k, cmpA_x, valK_k, valK_x, chC_k, chC_x, chB_k, chB_x, chA_k, chA_x, andBA_k, andBA_x, orBA_k, orBA_x, notBA_k, notBA_x, truA_k, truA_x, andA_k, andA_x, orA_k, orA_x, notA_k, notA_x, ifFA_k, ifFA_x, ixB_k, ixB_x, ixA_k, ixA_x, isA_k, isA_x, slC_k, slC_x, slB_k, slB_x, slA_k, slA_x, sooA_k, sooA_x, exprA_k, exprA_x, retA_k, retA_x, ifA_k, ifA_x, setA__k, setA__x, asgA_k, asgA_x, parA_k, parA_x, par3A_k, par3A_x, putC_k, putC_x, putB_k, putB_x, putA_k, putA_x, thawA_k, thawA_x, mtA_k, mtA_x, mtB_k, mtB_x, dispA_k, dispA_x, callA_k, callA_x, raiseA_k, raiseA_x, srA_k, srA_x, seqA_k, seqA_x, r1A_k, r1A_x, r2A_k, r2A_x, zpA_k, zpA_x, forA_k, forA_x, lcA_k, lcA_x, chK_t, mtK_t, ev_cons, ev_tup, ev_lst, ev_op2, ev_op1, ev_bl, ev_cmp, ev_val, ev_chain, ev_andB, ev_orB, ev_notB, ev_tru, ev_and, ev_or, ev_not, ev_ifF, ev_ix, ev_is, ev_sl, ev_someO, ev_expr, ev_ret, ev_if, ev_set, ev_asg, ev_par, ev_par3, ev_put, ev_thaw, ev_meth, ev_disp, ev_call, ev_raise, ev_sorted, ev_seqI, ev_rng1, ev_rng2, ev_zip, ev_for, ev_lc, lcC_k, lcS_k, lcT_t, lcT_f, lcB_k, ev_yes, entG, List.map_cons, List.map_nil, List.length_cons, List.length_nil, List.cons_append, List.nil_append, List.append_nil, List.set_cons_zero, List.set_cons_succ, List.replicate_zero, List.replicate_succ, Nat.reduceAdd, Nat.reduceSub, Option.map_some, Option.bind_some, Option.map_none, Option.bind_none, List.take_length, Bool.not_true, Bool.not_false, Nat.zero_add, Nat.sub_self, Nat.reduceMul, List.take_left, List.isEmpty_cons, List.isEmpty_nil, ↓reduceIte, Nat.reduceLT, powD_i, ev_ge, Int.reduceToNat, Int.reducePow, h, decide_false, leftV, if_false]
theorem begin_at2 {cs : List Int} (hl : cs.length ≤ 16777216) (h : cs ≠ []) {o : Option U} : ∃ ls, Wf 0 cs ls 0 ∧ exitR 0 (retS (dispF ["cells", "lefts", "at"] (consA (varF 1) (consA (thawF (lcF (seqI (varF 1)) (nameG 2) [2] yesB (ifF (cmpB (dC geD) (varF 2) (op2F powD (cF (.int 10)) (cF (.int 18)))) (varF 2) (cF (.int 0))))) (consA (cF (.int 0)) nilA)))) [o, some (.p (.lst (cs.map .int))), none] []) = .ok (.loc 1) (St cs ls 0 []) := by
  refine ⟨cs.map leftV, ⟨h, by simp, by decide, by decide⟩, ?_⟩
  have key := fun (o1 o2 : Option U) => lefts_lc2 (M := []) (o1 := o1) (o2 := o2) (cs := cs) hl
  simp only [ev_var0, ev_vars, ev_c, ev_nil, pures_nil, pures_cons, opt_some, optB_some, optU_some, deref_p, op2V_pp, op1V_p, blV_1, blV_2, blV_3, dC_pp, chK_f, andBK_t, andBK_f, orBK_t, orBK_f, truV_p, truD_bl, truD_int, truD_tup, truD_lst, andK_t, andK_f, orK_t, orK_f, notK_b, ifFK_t, ifFK_f, ixV_pp, ixD_t, ixD_k, ixD_l, atI_0, atI_1, atI_2, atI_3, isV_int, isV_bl, isV_non, isV_str, isV_tup, isV_lst, isV_kup, slV_p, ev_noO, sooK_i, ev_seq, sqK_nx, sqK_rt, sqK_ex, sqK_bk, sqK_ct, ev_skip, ev_retN, ifK_t, ifK_f, asK_s, ev_nameG, ev_tupG, ev_tupGk, ev_consG, ev_nilG, parK_2, par3K_3, putK_p, pmK_s, thawK_l, ev_newT, ev_newK, mtK2_s, exit_p, exit_nx, exit_ex, rsK_1, ev_word, wdK_ok, wdK_exc, wdT_s, ev_heard, hdK_ok, hdK_exc, hdT_s, hdI_s, its_fii, its_fi, srV_1, srK_s, srcL, srcT, wkK_s, wkU_t, wkU_l, wkU_s, zpK_tt, zpK_ll, grd_nil, flK_s, le_nx, le_ct, le_bk, le_rt, le_ex, consK2_k, consK2_x, consK1_k, consK1_x, tupK_k, tupK_x, lstK_k, lstK_x, op2B_k, op2B_x, op2A_k, op2A_x, op1A_k, op1A_x, blA_k, blA_x, cmpK_k, cmpK_x, cmpA_k, cmpA_x, valK_k, valK_x, chC_k, chC_x, chB_k, chB_x, chA_k, chA_x, andBA_k, andBA_x, orBA_k, orBA_x, notBA_k, notBA_x, truA_k, truA_x, andA_k, andA_x, orA_k, orA_x, notA_k, notA_x, ifFA_k, ifFA_x, ixB_k, ixB_x, ixA_k, ixA_x, isA_k, isA_x, slC_k, slC_x, slB_k, slB_x, slA_k, slA_x, sooA_k, sooA_x, exprA_k, exprA_x, retA_k, retA_x, ifA_k, ifA_x, setA__k, setA__x, asgA_k, asgA_x, parA_k, parA_x, par3A_k, par3A_x, putC_k, putC_x, putB_k, putB_x, putA_k, putA_x, thawA_k, thawA_x, mtA_k, mtA_x, mtB_k, mtB_x, dispA_k, dispA_x, callA_k, callA_x, raiseA_k, raiseA_x, srA_k, srA_x, seqA_k, seqA_x, r1A_k, r1A_x, r2A_k, r2A_x, zpA_k, zpA_x, forA_k, forA_x, lcA_k, lcA_x, chK_t, mtK_t, ev_cons, ev_tup, ev_lst, ev_op2, ev_op1, ev_bl, ev_cmp, ev_val, ev_chain, ev_andB, ev_orB, ev_notB, ev_tru, ev_and, ev_or, ev_not, ev_ifF, ev_ix, ev_is, ev_sl, ev_someO, ev_expr, ev_ret, ev_if, ev_set, ev_asg, ev_par, ev_par3, ev_put, ev_thaw, ev_meth, ev_disp, ev_call, ev_raise, ev_sorted, ev_seqI, ev_rng1, ev_rng2, ev_zip, ev_for, ev_lc, lcC_k, lcS_k, lcT_t, lcT_f, lcB_k, ev_yes, entG, List.map_cons, List.map_nil, List.length_cons, List.length_nil, List.cons_append, List.nil_append, List.append_nil, List.set_cons_zero, List.set_cons_succ, List.replicate_zero, List.replicate_succ, Nat.reduceAdd, Nat.reduceSub, Option.map_some, Option.bind_some, Option.map_none, Option.bind_none, List.take_length, Bool.not_true, Bool.not_false, Nat.zero_add, Nat.sub_self, Nat.reduceMul, List.take_left, List.isEmpty_cons, List.isEmpty_nil, ↓reduceIte, Nat.reduceLT, wipeG, key]
  rfl
theorem begin_ok2 {ns : List Int} (hl : ns.length ≤ 63) : ∃ cs ls, Wf 0 cs ls 0 ∧ fnS 3 dBegin2 [.p (.scr ns)] [] = .ok (.loc 1) (St cs ls 0 []) := by
  rw [ev_fn]
  have key : ∀ cs : List Int, cs ≠ [] → cs.length ≤ 16777216 → setS 1 (ifF (cmpB (dC neD) (varF 0) (lstF nilA)) (blF listD (consA (varF 0) nilA)) (lstF (consA (cF (.int 0)) nilA))) (entG 3 [.p (.scr ns)]) [] = .nx [some (.p (.scr ns)), some (.p (.lst (cs.map .int))), none] [] →
      ∃ cs ls, Wf 0 cs ls 0 ∧ exitR 0 (dBegin2 (entG 3 [.p (.scr ns)]) []) = .ok (.loc 1) (St cs ls 0 []) := fun cs h hl h1 => by
    obtain ⟨ls, w, h2⟩ := begin_at2 hl h (o := some (.p (.scr ns)))
    refine ⟨cs, ls, w, ?_⟩
    rw [← h2, dBegin2, ev_seq, h1]
    rfl
  cases ns with
  | nil =>
    refine key [0] (by decide) (by decide) ?_
    have e : neD (.scr []) (.lst []) = some false := by decide
    simp only [ev_var0, ev_vars, ev_c, ev_nil, pures_nil, pures_cons, opt_some, optB_some, optU_some, deref_p, op2V_pp, op1V_p, blV_1, blV_2, blV_3, dC_pp, chK_f, andBK_t, andBK_f, orBK_t, orBK_f, truV_p, truD_bl, truD_int, truD_tup, truD_lst, andK_t, andK_f, orK_t, orK_f, notK_b, ifFK_t, ifFK_f, ixV_pp, ixD_t, ixD_k, ixD_l, atI_0, atI_1, atI_2, atI_3, isV_int, isV_bl, isV_non, isV_str, isV_tup, isV_lst, isV_kup, slV_p, ev_noO, sooK_i, ev_seq, sqK_nx, sqK_rt, sqK_ex, sqK_bk, sqK_ct, ev_skip, ev_retN, ifK_t, ifK_f, asK_s, ev_nameG, ev_tupG, ev_tupGk, ev_consG, ev_nilG, parK_2, par3K_3, putK_p, pmK_s, thawK_l, ev_newT, ev_newK, mtK2_s, exit_p, exit_nx, exit_ex, rsK_1, ev_word, wdK_ok, wdK_exc, wdT_s, ev_heard, hdK_ok, hdK_exc, hdT_s, hdI_s, its_fii, its_fi, srV_1, srK_s, srcL, srcT, wkK_s, wkU_t, wkU_l, wkU_s, zpK_tt, zpK_ll, grd_nil, flK_s, le_nx, le_ct, le_bk, le_rt, le_ex, consK2_k, consK2_x, consK1_k, consK1_x, tupK_k, tupK_x, lstK_k, lstK_x, op2B_k, op2B_x, op2A_k, op2A_x, op1A_k, op1A_x, blA_k, blA_x, cmpK_k, cmpK_x, cmpA_k, cmpA_x, valK_k, valK_x, chC_k, chC_x, chB_k, chB_x, chA_k, chA_x, andBA_k, andBA_x, orBA_k, orBA_x, notBA_k, notBA_x, truA_k, truA_x, andA_k, andA_x, orA_k, orA_x, notA_k, notA_x, ifFA_k, ifFA_x, ixB_k, ixB_x, ixA_k, ixA_x, isA_k, isA_x, slC_k, slC_x, slB_k, slB_x, slA_k, slA_x, sooA_k, sooA_x, exprA_k, exprA_x, retA_k, retA_x, ifA_k, ifA_x, setA__k, setA__x, asgA_k, asgA_x, parA_k, parA_x, par3A_k, par3A_x, putC_k, putC_x, putB_k, putB_x, putA_k, putA_x, thawA_k, thawA_x, mtA_k, mtA_x, mtB_k, mtB_x, dispA_k, dispA_x, callA_k, callA_x, raiseA_k, raiseA_x, srA_k, srA_x, seqA_k, seqA_x, r1A_k, r1A_x, r2A_k, r2A_x, zpA_k, zpA_x, forA_k, forA_x, lcA_k, lcA_x, chK_t, mtK_t, ev_cons, ev_tup, ev_lst, ev_op2, ev_op1, ev_bl, ev_cmp, ev_val, ev_chain, ev_andB, ev_orB, ev_notB, ev_tru, ev_and, ev_or, ev_not, ev_ifF, ev_ix, ev_is, ev_sl, ev_someO, ev_expr, ev_ret, ev_if, ev_set, ev_asg, ev_par, ev_par3, ev_put, ev_thaw, ev_meth, ev_disp, ev_call, ev_raise, ev_sorted, ev_seqI, ev_rng1, ev_rng2, ev_zip, ev_for, ev_lc, lcC_k, lcS_k, lcT_t, lcT_f, lcB_k, ev_yes, entG, List.map_cons, List.map_nil, List.length_cons, List.length_nil, List.cons_append, List.nil_append, List.append_nil, List.set_cons_zero, List.set_cons_succ, List.replicate_zero, List.replicate_succ, Nat.reduceAdd, Nat.reduceSub, Option.map_some, Option.bind_some, Option.map_none, Option.bind_none, List.take_length, Bool.not_true, Bool.not_false, Nat.zero_add, Nat.sub_self, Nat.reduceMul, List.take_left, List.isEmpty_cons, List.isEmpty_nil, ↓reduceIte, Nat.reduceLT, e]
  | cons n ns =>
    refine key (n :: ns) (by simp) (by omega) ?_
    have e : neD (.scr (n :: ns)) (.lst []) = some true := by
      have e1 : SeqAt.shaped (.list ((n :: ns).map .int)) = true := shaped_ints _
      show (if SeqAt.shaped (.list ((n :: ns).map .int)) = true ∧ SeqAt.shaped (.list []) = true then some (PyData.eqv (.list ((n :: ns).map .int)) (.list [])) else none).map (!·) = _
      rw [if_pos ⟨e1, by decide⟩]
      rfl
    have e2 : listD [.scr (n :: ns)] = some (.lst ((n :: ns).map .int)) := rfl
    simp only [ev_var0, ev_vars, ev_c, ev_nil, pures_nil, pures_cons, opt_some, optB_some, optU_some, deref_p, op2V_pp, op1V_p, blV_1, blV_2, blV_3, dC_pp, chK_f, andBK_t, andBK_f, orBK_t, orBK_f, truV_p, truD_bl, truD_int, truD_tup, truD_lst, andK_t, andK_f, orK_t, orK_f, notK_b, ifFK_t, ifFK_f, ixV_pp, ixD_t, ixD_k, ixD_l, atI_0, atI_1, atI_2, atI_3, isV_int, isV_bl, isV_non, isV_str, isV_tup, isV_lst, isV_kup, slV_p, ev_noO, sooK_i, ev_seq, sqK_nx, sqK_rt, sqK_ex, sqK_bk, sqK_ct, ev_skip, ev_retN, ifK_t, ifK_f, asK_s, ev_nameG, ev_tupG, ev_tupGk, ev_consG, ev_nilG, parK_2, par3K_3, putK_p, pmK_s, thawK_l, ev_newT, ev_newK, mtK2_s, exit_p, exit_nx, exit_ex, rsK_1, ev_word, wdK_ok, wdK_exc, wdT_s, ev_heard, hdK_ok, hdK_exc, hdT_s, hdI_s, its_fii, its_fi, srV_1, srK_s, srcL, srcT, wkK_s, wkU_t, wkU_l, wkU_s, zpK_tt, zpK_ll, grd_nil, flK_s, le_nx, le_ct, le_bk, le_rt, le_ex, consK2_k, consK2_x, consK1_k, consK1_x, tupK_k, tupK_x, lstK_k, lstK_x, op2B_k, op2B_x, op2A_k, op2A_x, op1A_k, op1A_x, blA_k, blA_x, cmpK_k, cmpK_x, cmpA_k, cmpA_x, valK_k, valK_x, chC_k, chC_x, chB_k, chB_x, chA_k, chA_x, andBA_k, andBA_x, orBA_k, orBA_x, notBA_k, notBA_x, truA_k, truA_x, andA_k, andA_x, orA_k, orA_x, notA_k, notA_x, ifFA_k, ifFA_x, ixB_k, ixB_x, ixA_k, ixA_x, isA_k, isA_x, slC_k, slC_x, slB_k, slB_x, slA_k, slA_x, sooA_k, sooA_x, exprA_k, exprA_x, retA_k, retA_x, ifA_k, ifA_x, setA__k, setA__x, asgA_k, asgA_x, parA_k, parA_x, par3A_k, par3A_x, putC_k, putC_x, putB_k, putB_x, putA_k, putA_x, thawA_k, thawA_x, mtA_k, mtA_x, mtB_k, mtB_x, dispA_k, dispA_x, callA_k, callA_x, raiseA_k, raiseA_x, srA_k, srA_x, seqA_k, seqA_x, r1A_k, r1A_x, r2A_k, r2A_x, zpA_k, zpA_x, forA_k, forA_x, lcA_k, lcA_x, chK_t, mtK_t, ev_cons, ev_tup, ev_lst, ev_op2, ev_op1, ev_bl, ev_cmp, ev_val, ev_chain, ev_andB, ev_orB, ev_notB, ev_tru, ev_and, ev_or, ev_not, ev_ifF, ev_ix, ev_is, ev_sl, ev_someO, ev_expr, ev_ret, ev_if, ev_set, ev_asg, ev_par, ev_par3, ev_put, ev_thaw, ev_meth, ev_disp, ev_call, ev_raise, ev_sorted, ev_seqI, ev_rng1, ev_rng2, ev_zip, ev_for, ev_lc, lcC_k, lcS_k, lcT_t, lcT_f, lcB_k, ev_yes, entG, List.map_cons, List.map_nil, List.length_cons, List.length_nil, List.cons_append, List.nil_append, List.append_nil, List.set_cons_zero, List.set_cons_succ, List.replicate_zero, List.replicate_succ, Nat.reduceAdd, Nat.reduceSub, Option.map_some, Option.bind_some, Option.map_none, Option.bind_none, List.take_length, Bool.not_true, Bool.not_false, Nat.zero_add, Nat.sub_self, Nat.reduceMul, List.take_left, List.isEmpty_cons, List.isEmpty_nil, ↓reduceIte, Nat.reduceLT, e, e2]
end
end Mp
namespace Mp
open PySem PySem.Spec PyProof.Rows L2
mutual
/-- data whose text is short: at most n signs, at most k deep -/
inductive Shw : Nat → Nat → D → Prop
  | non : Shw 4 0 .non
  | bl (b : Bool) : Shw 5 0 (.bl b)
  | int {i : Int} (h : i.natAbs.log2 < 1900) : Shw 1901 0 (.int i)
  | str {x : Str} {n : Nat} (h : (reprText x).length ≤ n) : Shw n 0 (.str x)
  | tup {n k : Nat} {ds : List D} : Shws n k ds → Shw (n + 3) (k + 1) (.tup ds)
  | lst {n k : Nat} {ds : List D} : Shws n k ds → Shw (n + 3) (k + 1) (.lst ds)
  | kup {n k : Nat} {ds : List D} : Shws n k ds → Shw (n + 3) (k + 1) (.kup ds)
inductive Shws : Nat → Nat → List D → Prop
  | nil : Shws 0 0 []
  | cons {n m k l : Nat} {d : D} {ds : List D} : Shw n k d → Shws m l ds → Shws (n + m + 2) (max k l) (d :: ds)
end
structure Shp (n k : Nat) (p : PyData) : Prop where
  s : p.showable = true
  l : p.shown.length ≤ n
  d : p.depth ≤ k
  x : p.hasDict = false
structure Shps (n k : Nat) (ps : List PyData) : Prop where
  s : PyData.showableAll ps = true
  l : ((PyData.shownAll ps).map (·.length)).sum + 2 * (PyData.shownAll ps).length ≤ n
  d : PyData.depthAll ps ≤ k
  x : PyData.hasDictAll ps = false
theorem Shps.t {n k : Nat} {ps : List PyData} (h : Shps n k ps) : Shp (n + 3) (k + 1) (.tuple ps) := by
  refine ⟨by simpa [PyData.showable] using h.s, ?_, by simp only [PyData.depth]; have := h.d; omega, by simpa [PyData.hasDict] using h.x⟩
  have := tupleText_len_le (PyData.shownAll ps)
  have := h.l
  simp only [PyData.shown]
  omega
theorem Shps.li {n k : Nat} {ps : List PyData} (h : Shps n k ps) : Shp (n + 3) (k + 1) (.list ps) := by
  refine ⟨by simpa [PyData.showable] using h.s, ?_, by simp only [PyData.depth]; have := h.d; omega, by simpa [PyData.hasDict] using h.x⟩
  have := listText_len_le (PyData.shownAll ps)
  have := h.l
  simp only [PyData.shown]
  omega
mutual
theorem Shw.p : ∀ {n k : Nat} {d : D}, Shw n k d → ∃ p, toP0 d = some p ∧ Shp n k p
  | _, _, _, .non => ⟨_, rfl, by simp [PyData.showable], by simp only [PyData.shown]; decide, by simp [PyData.depth], by simp [PyData.hasDict]⟩
  | _, _, _, .bl b => ⟨_, rfl, by simp [PyData.showable], by simp only [PyData.shown]; cases b <;> decide, by simp [PyData.depth], by simp [PyData.hasDict]⟩
  | _, _, _, .int (i := i) h => ⟨_, rfl, by simp [PyData.showable]; omega, by
      simp only [PyData.shown]
      have := int_text_length_le (a := i) (k := 1900) (by decide) h
      rw [PySem.ofString_length]
      omega, by simp [PyData.depth], by simp [PyData.hasDict]⟩
  | _, _, _, .str h => ⟨_, rfl, by simp [PyData.showable], by simpa only [PyData.shown] using h, by simp [PyData.depth], by simp [PyData.hasDict]⟩
  | _, _, _, .tup (ds := ds) hs => by
    obtain ⟨ps, e, h⟩ := Shws.p hs
    exact ⟨.tuple ps, by simp [toP0, e], h.t⟩
  | _, _, _, .kup (ds := ds) hs => by
    obtain ⟨ps, e, h⟩ := Shws.p hs
    exact ⟨.tuple ps, by simp [toP0, e], h.t⟩
  | _, _, _, .lst (ds := ds) hs => by
    obtain ⟨ps, e, h⟩ := Shws.p hs
    exact ⟨.list ps, by simp [toP0, e], h.li⟩
theorem Shws.p : ∀ {n k : Nat} {ds : List D}, Shws n k ds → ∃ ps, toPs ds = some ps ∧ Shps n k ps
  | _, _, _, .nil => ⟨[], rfl, by simp [PyData.showableAll], by simp [PyData.shownAll], by simp [PyData.depthAll], by simp [PyData.hasDictAll]⟩
  | _, _, _, .cons (n := n) (m := m) (k := k) (l := l) h hs => by
    obtain ⟨p, e, a⟩ := Shw.p h
    obtain ⟨ps, es, b⟩ := Shws.p hs
    refine ⟨p :: ps, by simp [toPs, e, es], by simp [PyData.showableAll, a.s, b.s], ?_, ?_, by simp [PyData.hasDictAll, a.x, b.x]⟩
    · have := a.l
      have := b.l
      simp only [PyData.shownAll, List.map_cons, List.sum_cons, List.length_cons]
      omega
    · have := a.d
      have := b.d
      simp only [PyData.depthAll]
      omega
end
theorem Shws.all {n k : Nat} : ∀ {ds : List D}, (∀ d ∈ ds, Shw n k d) → ∃ l, l ≤ k ∧ Shws (ds.length * (n + 2)) l ds
  | [], _ => ⟨0, by omega, by simpa using Shws.nil⟩
  | d :: ds, h => by
    obtain ⟨l, hl, hs⟩ := Shws.all (n := n) (k := k) (ds := ds) fun d' hd => h d' (List.mem_cons_of_mem _ hd)
    refine ⟨max k l, by omega, ?_⟩
    have := Shws.cons (h d (by simp)) hs
    rw [show (d :: ds).length * (n + 2) = n + ds.length * (n + 2) + 2 from by simp [Nat.add_mul]; omega]
    exact this
theorem repr_ok {n k : Nat} {d : D} (h : Shw n k d) (hn : n ≤ 16777216) (hk : k ≤ 64) : ∃ x, reprD [d] = some (.str x) := by
  obtain ⟨p, e, a⟩ := h.p
  refine ⟨p.shown, ?_⟩
  show ((toP0 d).bind fun p => if shownOk p = true then some (D.str p.shown) else none) = _
  rw [e]
  have : shownOk p = true := by
    have := a.l
    have := a.d
    simp only [shownOk, a.s, a.x, Bool.true_and, Bool.not_false, Bool.and_true, Bool.and_eq_true, decide_eq_true_eq]
    omega
  simp [this]
theorem int_shw {i : Int} (h1 : -(2 ^ 1000) < i) (h2 : i < 2 ^ 1000) : i.natAbs.log2 < 1900 := Nat.lt_of_lt_of_le (log2_lt (k := 999) (by omega)) (by decide)
theorem ev_eqS {x y : Str} : eqD (.str x) (.str y) = some (decide (x = y)) := rfl
def dLike : Fs := (retS (valF (cmpB (dC eqD) (blF reprD (consA (varF 0) nilA)) (blF reprD (consA (varF 1) nilA)))))
theorem like_ok {n k : Nat} {d : D} {M : Mem} (h : Shw n k d) (hn : n ≤ 16777216) (hk : k ≤ 64) : fnS 2 dLike [.p d, .p d] M = .ok (.p (.bl true)) M := by
  obtain ⟨x, e⟩ := repr_ok h hn hk
  rw [ev_fn]
  simp only [ev_var0, ev_vars, ev_c, ev_nil, pures_nil, pures_cons, opt_some, optB_some, optU_some, deref_p, op2V_pp, op1V_p, blV_1, blV_2, blV_3, dC_pp, chK_f, andBK_t, andBK_f, orBK_t, orBK_f, truV_p, truD_bl, truD_int, truD_tup, truD_lst, andK_t, andK_f, orK_t, orK_f, notK_b, ifFK_t, ifFK_f, ixV_pp, ixD_t, ixD_k, ixD_l, atI_0, atI_1, atI_2, atI_3, isV_int, isV_bl, isV_non, isV_str, isV_tup, isV_lst, isV_kup, slV_p, ev_noO, sooK_i, ev_seq, sqK_nx, sqK_rt, sqK_ex, sqK_bk, sqK_ct, ev_skip, ev_retN, ifK_t, ifK_f, asK_s, ev_nameG, ev_tupG, ev_tupGk, ev_consG, ev_nilG, parK_2, par3K_3, putK_p, pmK_s, thawK_l, ev_newT, ev_newK, mtK2_s, exit_p, exit_nx, exit_ex, rsK_1, ev_word, wdK_ok, wdK_exc, wdT_s, ev_heard, hdK_ok, hdK_exc, hdT_s, hdI_s, its_fii, its_fi, srV_1, srK_s, srcL, srcT, wkK_s, wkU_t, wkU_l, wkU_s, zpK_tt, zpK_ll, grd_nil, flK_s, le_nx, le_ct, le_bk, le_rt, le_ex, consK2_k, consK2_x, consK1_k, consK1_x, tupK_k, tupK_x, lstK_k, lstK_x, op2B_k, op2B_x, op2A_k, op2A_x, op1A_k, op1A_x, blA_k, blA_x, cmpK_k, cmpK_x, cmpA_k, cmpA_x, valK_k, valK_x, chC_k, chC_x, chB_k, chB_x, chA_k, chA_x, andBA_k, andBA_x, orBA_k, orBA_x, notBA_k, notBA_x, truA_k, truA_x, andA_k, andA_x, orA_k, orA_x, notA_k, notA_x, ifFA_k, ifFA_x, ixB_k, ixB_x, ixA_k, ixA_x, isA_k, isA_x, slC_k, slC_x, slB_k, slB_x, slA_k, slA_x, sooA_k, sooA_x, exprA_k, exprA_x, retA_k, retA_x, ifA_k, ifA_x, setA__k, setA__x, asgA_k, asgA_x, parA_k, parA_x, par3A_k, par3A_x, putC_k, putC_x, putB_k, putB_x, putA_k, putA_x, thawA_k, thawA_x, mtA_k, mtA_x, mtB_k, mtB_x, dispA_k, dispA_x, callA_k, callA_x, raiseA_k, raiseA_x, srA_k, srA_x, seqA_k, seqA_x, r1A_k, r1A_x, r2A_k, r2A_x, zpA_k, zpA_x, forA_k, forA_x, lcA_k, lcA_x, chK_t, mtK_t, ev_cons, ev_tup, ev_lst, ev_op2, ev_op1, ev_bl, ev_cmp, ev_val, ev_chain, ev_andB, ev_orB, ev_notB, ev_tru, ev_and, ev_or, ev_not, ev_ifF, ev_ix, ev_is, ev_sl, ev_someO, ev_expr, ev_ret, ev_if, ev_set, ev_asg, ev_par, ev_par3, ev_put, ev_thaw, ev_meth, ev_disp, ev_call, ev_raise, ev_sorted, ev_seqI, ev_rng1, ev_rng2, ev_zip, ev_for, ev_lc, lcC_k, lcS_k, lcT_t, lcT_f, lcB_k, ev_yes, entG, List.map_cons, List.map_nil, List.length_cons, List.length_nil, List.cons_append, List.nil_append, List.append_nil, List.set_cons_zero, List.set_cons_succ, List.replicate_zero, List.replicate_succ, Nat.reduceAdd, Nat.reduceSub, Option.map_some, Option.bind_some, Option.map_none, Option.bind_none, List.take_length, Bool.not_true, Bool.not_false, Nat.zero_add, Nat.sub_self, Nat.reduceMul, List.take_left, List.isEmpty_cons, List.isEmpty_nil, ↓reduceIte, Nat.reduceLT, dLike, e, ev_eqS, decide_true]
theorem like_c {n k : Nat} {x d : D} {M : Mem} (e : x = d) (h : Shw n k d) (hn : n ≤ 16777216) (hk : k ≤ 64) : fnS 2 dLike [.p x, .p d] M = .ok (.p (.bl true)) M := by
  rw [e]
  exact like_ok h hn hk
theorem like_l {n k l : Nat} {ds : List D} {M : Mem} (h : Shw n k (.lst ds)) (hn : n ≤ 16777216) (hk : k ≤ 64) (hl : M[l]? = some (.lst ds)) : fnS 2 dLike [.loc l, .p (.lst ds)] M = .ok (.p (.bl true)) M := by
  obtain ⟨x, e⟩ := repr_ok h hn hk
  rw [ev_fn]
  simp only [ev_var0, ev_vars, ev_c, ev_nil, pures_nil, pures_cons, opt_some, optB_some, optU_some, deref_p, op2V_pp, op1V_p, blV_1, blV_2, blV_3, dC_pp, chK_f, andBK_t, andBK_f, orBK_t, orBK_f, truV_p, truD_bl, truD_int, truD_tup, truD_lst, andK_t, andK_f, orK_t, orK_f, notK_b, ifFK_t, ifFK_f, ixV_pp, ixD_t, ixD_k, ixD_l, atI_0, atI_1, atI_2, atI_3, isV_int, isV_bl, isV_non, isV_str, isV_tup, isV_lst, isV_kup, slV_p, ev_noO, sooK_i, ev_seq, sqK_nx, sqK_rt, sqK_ex, sqK_bk, sqK_ct, ev_skip, ev_retN, ifK_t, ifK_f, asK_s, ev_nameG, ev_tupG, ev_tupGk, ev_consG, ev_nilG, parK_2, par3K_3, putK_p, pmK_s, thawK_l, ev_newT, ev_newK, mtK2_s, exit_p, exit_nx, exit_ex, rsK_1, ev_word, wdK_ok, wdK_exc, wdT_s, ev_heard, hdK_ok, hdK_exc, hdT_s, hdI_s, its_fii, its_fi, srV_1, srK_s, srcL, srcT, wkK_s, wkU_t, wkU_l, wkU_s, zpK_tt, zpK_ll, grd_nil, flK_s, le_nx, le_ct, le_bk, le_rt, le_ex, consK2_k, consK2_x, consK1_k, consK1_x, tupK_k, tupK_x, lstK_k, lstK_x, op2B_k, op2B_x, op2A_k, op2A_x, op1A_k, op1A_x, blA_k, blA_x, cmpK_k, cmpK_x, cmpA_k, cmpA_x, valK_k, valK_x, chC_k, chC_x, chB_k, chB_x, chA_k, chA_x, andBA_k, andBA_x, orBA_k, orBA_x, notBA_k, notBA_x, truA_k, truA_x, andA_k, andA_x, orA_k, orA_x, notA_k, notA_x, ifFA_k, ifFA_x, ixB_k, ixB_x, ixA_k, ixA_x, isA_k, isA_x, slC_k, slC_x, slB_k, slB_x, slA_k, slA_x, sooA_k, sooA_x, exprA_k, exprA_x, retA_k, retA_x, ifA_k, ifA_x, setA__k, setA__x, asgA_k, asgA_x, parA_k, parA_x, par3A_k, par3A_x, putC_k, putC_x, putB_k, putB_x, putA_k, putA_x, thawA_k, thawA_x, mtA_k, mtA_x, mtB_k, mtB_x, dispA_k, dispA_x, callA_k, callA_x, raiseA_k, raiseA_x, srA_k, srA_x, seqA_k, seqA_x, r1A_k, r1A_x, r2A_k, r2A_x, zpA_k, zpA_x, forA_k, forA_x, lcA_k, lcA_x, chK_t, mtK_t, ev_cons, ev_tup, ev_lst, ev_op2, ev_op1, ev_bl, ev_cmp, ev_val, ev_chain, ev_andB, ev_orB, ev_notB, ev_tru, ev_and, ev_or, ev_not, ev_ifF, ev_ix, ev_is, ev_sl, ev_someO, ev_expr, ev_ret, ev_if, ev_set, ev_asg, ev_par, ev_par3, ev_put, ev_thaw, ev_meth, ev_disp, ev_call, ev_raise, ev_sorted, ev_seqI, ev_rng1, ev_rng2, ev_zip, ev_for, ev_lc, lcC_k, lcS_k, lcT_t, lcT_f, lcB_k, ev_yes, entG, List.map_cons, List.map_nil, List.length_cons, List.length_nil, List.cons_append, List.nil_append, List.append_nil, List.set_cons_zero, List.set_cons_succ, List.replicate_zero, List.replicate_succ, Nat.reduceAdd, Nat.reduceSub, Option.map_some, Option.bind_some, Option.map_none, Option.bind_none, List.take_length, Bool.not_true, Bool.not_false, Nat.zero_add, Nat.sub_self, Nat.reduceMul, List.take_left, List.isEmpty_cons, List.isEmpty_nil, ↓reduceIte, Nat.reduceLT, dLike, e, ev_eqS, decide_true, blV_loc hl]
theorem like_r {n k l : Nat} {ds : List D} {M : Mem} (h : Shw n k (.lst ds)) (hn : n ≤ 16777216) (hk : k ≤ 64) (hl : M[l]? = some (.lst ds)) : fnS 2 dLike [.p (.lst ds), .loc l] M = .ok (.p (.bl true)) M := by
  obtain ⟨x, e⟩ := repr_ok h hn hk
  rw [ev_fn]
  simp only [ev_var0, ev_vars, ev_c, ev_nil, pures_nil, pures_cons, opt_some, optB_some, optU_some, deref_p, op2V_pp, op1V_p, blV_1, blV_2, blV_3, dC_pp, chK_f, andBK_t, andBK_f, orBK_t, orBK_f, truV_p, truD_bl, truD_int, truD_tup, truD_lst, andK_t, andK_f, orK_t, orK_f, notK_b, ifFK_t, ifFK_f, ixV_pp, ixD_t, ixD_k, ixD_l, atI_0, atI_1, atI_2, atI_3, isV_int, isV_bl, isV_non, isV_str, isV_tup, isV_lst, isV_kup, slV_p, ev_noO, sooK_i, ev_seq, sqK_nx, sqK_rt, sqK_ex, sqK_bk, sqK_ct, ev_skip, ev_retN, ifK_t, ifK_f, asK_s, ev_nameG, ev_tupG, ev_tupGk, ev_consG, ev_nilG, parK_2, par3K_3, putK_p, pmK_s, thawK_l, ev_newT, ev_newK, mtK2_s, exit_p, exit_nx, exit_ex, rsK_1, ev_word, wdK_ok, wdK_exc, wdT_s, ev_heard, hdK_ok, hdK_exc, hdT_s, hdI_s, its_fii, its_fi, srV_1, srK_s, srcL, srcT, wkK_s, wkU_t, wkU_l, wkU_s, zpK_tt, zpK_ll, grd_nil, flK_s, le_nx, le_ct, le_bk, le_rt, le_ex, consK2_k, consK2_x, consK1_k, consK1_x, tupK_k, tupK_x, lstK_k, lstK_x, op2B_k, op2B_x, op2A_k, op2A_x, op1A_k, op1A_x, blA_k, blA_x, cmpK_k, cmpK_x, cmpA_k, cmpA_x, valK_k, valK_x, chC_k, chC_x, chB_k, chB_x, chA_k, chA_x, andBA_k, andBA_x, orBA_k, orBA_x, notBA_k, notBA_x, truA_k, truA_x, andA_k, andA_x, orA_k, orA_x, notA_k, notA_x, ifFA_k, ifFA_x, ixB_k, ixB_x, ixA_k, ixA_x, isA_k, isA_x, slC_k, slC_x, slB_k, slB_x, slA_k, slA_x, sooA_k, sooA_x, exprA_k, exprA_x, retA_k, retA_x, ifA_k, ifA_x, setA__k, setA__x, asgA_k, asgA_x, parA_k, parA_x, par3A_k, par3A_x, putC_k, putC_x, putB_k, putB_x, putA_k, putA_x, thawA_k, thawA_x, mtA_k, mtA_x, mtB_k, mtB_x, dispA_k, dispA_x, callA_k, callA_x, raiseA_k, raiseA_x, srA_k, srA_x, seqA_k, seqA_x, r1A_k, r1A_x, r2A_k, r2A_x, zpA_k, zpA_x, forA_k, forA_x, lcA_k, lcA_x, chK_t, mtK_t, ev_cons, ev_tup, ev_lst, ev_op2, ev_op1, ev_bl, ev_cmp, ev_val, ev_chain, ev_andB, ev_orB, ev_notB, ev_tru, ev_and, ev_or, ev_not, ev_ifF, ev_ix, ev_is, ev_sl, ev_someO, ev_expr, ev_ret, ev_if, ev_set, ev_asg, ev_par, ev_par3, ev_put, ev_thaw, ev_meth, ev_disp, ev_call, ev_raise, ev_sorted, ev_seqI, ev_rng1, ev_rng2, ev_zip, ev_for, ev_lc, lcC_k, lcS_k, lcT_t, lcT_f, lcB_k, ev_yes, entG, List.map_cons, List.map_nil, List.length_cons, List.length_nil, List.cons_append, List.nil_append, List.append_nil, List.set_cons_zero, List.set_cons_succ, List.replicate_zero, List.replicate_succ, Nat.reduceAdd, Nat.reduceSub, Option.map_some, Option.bind_some, Option.map_none, Option.bind_none, List.take_length, Bool.not_true, Bool.not_false, Nat.zero_add, Nat.sub_self, Nat.reduceMul, List.take_left, List.isEmpty_cons, List.isEmpty_nil, ↓reduceIte, Nat.reduceLT, dLike, e, ev_eqS, decide_true, blV_loc hl]
end Mp
namespace Mp
open PySem PySem.Spec PyProof.Rows L2
theorem whileN_up {c : Fb} {b : Fs} : ∀ (n : Nat) (Γ : Env) (M : Mem), whileN c b n Γ M ≠ .st → whileN c b (n + 1) Γ M = whileN c b n Γ M
  | 0, Γ, M, h => (h rfl).elim
  | n + 1, Γ, M, h => by
    rw [whileN, whileN]
    rw [whileN] at h
    cases hc : c Γ M with
    | exc e M1 => rfl
    | stuck => rfl
    | ok k M1 =>
      rw [hc] at h
      cases k with
      | false => rfl
      | true =>
        simp only [thenS] at h ⊢
        cases hb : b Γ M1 with
        | nx Γ2 M2 => rw [hb] at h; exact whileN_up n Γ2 M2 h
        | ct Γ2 M2 => rw [hb] at h; exact whileN_up n Γ2 M2 h
        | bk Γ2 M2 => rfl
        | rt u M2 => rfl
        | ex e Γ2 M2 => rfl
        | st => rfl
theorem whileN_mono {c : Fb} {b : Fs} {n : Nat} {Γ : Env} {M : Mem} (h : whileN c b n Γ M ≠ .st) : ∀ d : Nat, whileN c b (n + d) Γ M = whileN c b n Γ M
  | 0 => rfl
  | d + 1 => by rw [← Nat.add_assoc, whileN_up _ _ _ (by rw [whileN_mono h d]; exact h), whileN_mono h d]
theorem whileC_eq {c : Fb} {b : Fs} {n : Nat} {Γ : Env} {M : Mem} {r : Fl} (h : whileN c b n Γ M = r) (hr : r ≠ .st) : whileC c b Γ M = r := by
  have hex : ∃ n, whileN c b n Γ M ≠ .st := ⟨n, by rw [h]; exact hr⟩
  unfold whileC
  rw [dif_pos hex]
  have h1 := Classical.choose_spec hex
  generalize Classical.choose hex = m at h1
  rw [← h]
  have a := whileN_mono h1 n
  have b := whileN_mono (h ▸ hr : whileN c b n Γ M ≠ .st) m
  rw [← a, ← b, Nat.add_comm]
theorem whileS_C {c : Fb} {b : Fs} {Γ : Env} {M : Mem} : whileS c b Γ M = whileC c b Γ M := by
  unfold whileS
  cases e : whileN c b 400 Γ M with
  | st => rfl
  | nx _ _ => exact (whileC_eq e (by simp)).symm
  | rt _ _ => exact (whileC_eq e (by simp)).symm
  | bk _ _ => exact (whileC_eq e (by simp)).symm
  | ct _ _ => exact (whileC_eq e (by simp)).symm
  | ex _ _ _ => exact (whileC_eq e (by simp)).symm
theorem whileS_eq {c : Fb} {b : Fs} {n : Nat} {Γ : Env} {M : Mem} {r : Fl} (h : whileN c b n Γ M = r) (hr : r ≠ .st) : whileS c b Γ M = r := whileS_C.trans (whileC_eq h hr)
/-- the while loop, one test after another -/
theorem while_f {c : Fb} {b : Fs} {Γ : Env} {M M1 : Mem} (h : c Γ M = .ok false M1) : whileS c b Γ M = .nx Γ M1 := whileS_eq (n := 1) (by rw [whileN, h]; rfl) (by simp)
/-- a loop that counts down -/
theorem while_inv {c : Fb} {b : Fs} (μ : Env → Nat) (I : Env → Prop) (M : Mem) (h : ∀ Γ, I Γ → c Γ M = .ok false M ∨ (c Γ M = .ok true M ∧ ∃ Γ', b Γ M = .nx Γ' M ∧ I Γ' ∧ μ Γ' < μ Γ)) :
    ∀ (n : Nat) (Γ : Env), I Γ → μ Γ < n → ∃ Γ', whileN c b n Γ M = .nx Γ' M ∧ I Γ' ∧ c Γ' M = .ok false M
  | 0, Γ, _, hn => by omega
  | n + 1, Γ, hi, hn => by
    rcases h Γ hi with e | ⟨e, Γ', e2, hi', hl⟩
    · exact ⟨Γ, by rw [whileN, e]; rfl, hi, e⟩
    · obtain ⟨Γ2, e3, h3, h4⟩ := while_inv μ I M h n Γ' hi' (by omega)
      exact ⟨Γ2, by rw [whileN, e]; simp only [thenS, e2, e3], h3, h4⟩
theorem while_ok {c : Fb} {b : Fs} (μ : Env → Nat) (I : Env → Prop) {M : Mem} {Γ : Env} (hi : I Γ) (h : ∀ Γ, I Γ → c Γ M = .ok false M ∨ (c Γ M = .ok true M ∧ ∃ Γ', b Γ M = .nx Γ' M ∧ I Γ' ∧ μ Γ' < μ Γ)) :
    ∃ Γ', whileS c b Γ M = .nx Γ' M ∧ I Γ' ∧ c Γ' M = .ok false M := by
  obtain ⟨Γ', e, h1, h2⟩ := while_inv μ I M h (μ Γ + 1) Γ hi (by omega)
  exact ⟨Γ', whileS_eq e (by simp), h1, h2⟩

/-- the greatest common divisor, by a loop -/
noncomputable def dGcd : Fs := (seqS (parS 0 1 (consA (blF maxD (consA (varF 0) (consA (op1F negD (varF 0)) nilA))) (consA (blF maxD (consA (varF 1) (consA (op1F negD (varF 1)) nilA))) nilA)))
  (seqS (whileS (cmpB (dC gtD) (varF 1) (cF (.int 0))) (parS 0 1 (consA (varF 1) (consA (op2F modD (varF 0) (varF 1)) nilA))))
  (retS (varF 0))))
theorem maxD_2 {i j : Int} : maxD [.int i, .int j] = some (.int (max i j)) := rfl
theorem gcd_ok {a b : Int} {M : Mem} : fnS 2 dGcd [.p (.int a), .p (.int b)] M = .ok (.p (.int (Int.gcd a b))) M := by
  rw [ev_fn]
  simp (disch := omega) only [ev_var0, ev_vars, ev_c, ev_nil, pures_nil, pures_cons, opt_some, optB_some, optU_some, deref_p, op2V_pp, op1V_p, blV_1, blV_2, blV_3, dC_pp, chK_f, andBK_t, andBK_f, orBK_t, orBK_f, truV_p, truD_bl, truD_int, truD_tup, truD_lst, andK_t, andK_f, orK_t, orK_f, notK_b, ifFK_t, ifFK_f, ixV_pp, ixD_t, ixD_k, ixD_l, atI_0, atI_1, atI_2, atI_3, isV_int, isV_bl, isV_non, isV_str, isV_tup, isV_lst, isV_kup, slV_p, ev_noO, sooK_i, ev_seq, sqK_nx, sqK_rt, sqK_ex, sqK_bk, sqK_ct, ev_skip, ev_retN, ifK_t, ifK_f, asK_s, ev_nameG, ev_tupG, ev_tupGk, ev_consG, ev_nilG, parK_2, par3K_3, putK_p, pmK_s, thawK_l, ev_newT, ev_newK, mtK2_s, exit_p, exit_nx, exit_ex, rsK_1, ev_word, wdK_ok, wdK_exc, wdT_s, ev_heard, hdK_ok, hdK_exc, hdT_s, hdI_s, its_fii, its_fi, srV_1, srK_s, srcL, srcT, wkK_s, wkU_t, wkU_l, wkU_s, zpK_tt, zpK_ll, grd_nil, flK_s, le_nx, le_ct, le_bk, le_rt, le_ex, consK2_k, consK2_x, consK1_k, consK1_x, tupK_k, tupK_x, lstK_k, lstK_x, op2B_k, op2B_x, op2A_k, op2A_x, op1A_k, op1A_x, blA_k, blA_x, cmpK_k, cmpK_x, cmpA_k, cmpA_x, valK_k, valK_x, chC_k, chC_x, chB_k, chB_x, chA_k, chA_x, andBA_k, andBA_x, orBA_k, orBA_x, notBA_k, notBA_x, truA_k, truA_x, andA_k, andA_x, orA_k, orA_x, notA_k, notA_x, ifFA_k, ifFA_x, ixB_k, ixB_x, ixA_k, ixA_x, isA_k, isA_x, slC_k, slC_x, slB_k, slB_x, slA_k, slA_x, sooA_k, sooA_x, exprA_k, exprA_x, retA_k, retA_x, ifA_k, ifA_x, setA__k, setA__x, asgA_k, asgA_x, parA_k, parA_x, par3A_k, par3A_x, putC_k, putC_x, putB_k, putB_x, putA_k, putA_x, thawA_k, thawA_x, mtA_k, mtA_x, mtB_k, mtB_x, dispA_k, dispA_x, callA_k, callA_x, raiseA_k, raiseA_x, srA_k, srA_x, seqA_k, seqA_x, r1A_k, r1A_x, r2A_k, r2A_x, zpA_k, zpA_x, forA_k, forA_x, lcA_k, lcA_x, chK_t, mtK_t, ev_cons, ev_tup, ev_lst, ev_op2, ev_op1, ev_bl, ev_cmp, ev_val, ev_chain, ev_andB, ev_orB, ev_notB, ev_tru, ev_and, ev_or, ev_not, ev_ifF, ev_ix, ev_is, ev_sl, ev_someO, ev_expr, ev_ret, ev_if, ev_set, ev_asg, ev_par, ev_par3, ev_put, ev_thaw, ev_meth, ev_disp, ev_call, ev_raise, ev_sorted, ev_seqI, ev_rng1, ev_rng2, ev_zip, ev_for, ev_lc, lcC_k, lcS_k, lcT_t, lcT_f, lcB_k, ev_yes, entG, List.map_cons, List.map_nil, List.length_cons, List.length_nil, List.cons_append, List.nil_append, List.append_nil, List.set_cons_zero, List.set_cons_succ, List.replicate_zero, List.replicate_succ, Nat.reduceAdd, Nat.reduceSub, Option.map_some, Option.bind_some, Option.map_none, Option.bind_none, List.take_length, Bool.not_true, Bool.not_false, Nat.zero_add, Nat.sub_self, Nat.reduceMul, List.take_left, List.isEmpty_cons, List.isEmpty_nil, ↓reduceIte, Nat.reduceLT, dGcd, negD_i, maxD_2]
  obtain ⟨Γ', e, ⟨x, y, e1, hx, hy, hg⟩, h2⟩ := while_ok (c := cmpB (dC gtD) (varF 1) (cF (.int 0))) (b := parS 0 1 (consA (varF 1) (consA (op2F modD (varF 0) (varF 1)) nilA)))
    (fun Γ => match Γ with | [_, some (.p (.int y))] => y.toNat | _ => 0) (fun Γ => ∃ x y : Int, Γ = [some (.p (.int x)), some (.p (.int y))] ∧ 0 ≤ x ∧ 0 ≤ y ∧ Int.gcd x y = Int.gcd a b)
    (Γ := [some (.p (.int (max a (-a)))), some (.p (.int (max b (-b))))]) (M := M) ⟨max a (-a), max b (-b), rfl, by omega, by omega, by
      have e1 : max a (-a) = (a.natAbs : Int) := by omega
      have e2 : max b (-b) = (b.natAbs : Int) := by omega
      rw [e1, e2]
      simp [Int.gcd]⟩ fun Γ hΓ => by
      obtain ⟨x, y, rfl, hx, hy, hg⟩ := hΓ
      by_cases h : 0 < y
      · refine .inr ⟨by simp only [ev_var0, ev_vars, ev_c, ev_nil, pures_nil, pures_cons, opt_some, optB_some, optU_some, deref_p, op2V_pp, op1V_p, blV_1, blV_2, blV_3, dC_pp, chK_f, andBK_t, andBK_f, orBK_t, orBK_f, truV_p, truD_bl, truD_int, truD_tup, truD_lst, andK_t, andK_f, orK_t, orK_f, notK_b, ifFK_t, ifFK_f, ixV_pp, ixD_t, ixD_k, ixD_l, atI_0, atI_1, atI_2, atI_3, isV_int, isV_bl, isV_non, isV_str, isV_tup, isV_lst, isV_kup, slV_p, ev_noO, sooK_i, ev_seq, sqK_nx, sqK_rt, sqK_ex, sqK_bk, sqK_ct, ev_skip, ev_retN, ifK_t, ifK_f, asK_s, ev_nameG, ev_tupG, ev_tupGk, ev_consG, ev_nilG, parK_2, par3K_3, putK_p, pmK_s, thawK_l, ev_newT, ev_newK, mtK2_s, exit_p, exit_nx, exit_ex, rsK_1, ev_word, wdK_ok, wdK_exc, wdT_s, ev_heard, hdK_ok, hdK_exc, hdT_s, hdI_s, its_fii, its_fi, srV_1, srK_s, srcL, srcT, wkK_s, wkU_t, wkU_l, wkU_s, zpK_tt, zpK_ll, grd_nil, flK_s, le_nx, le_ct, le_bk, le_rt, le_ex, consK2_k, consK2_x, consK1_k, consK1_x, tupK_k, tupK_x, lstK_k, lstK_x, op2B_k, op2B_x, op2A_k, op2A_x, op1A_k, op1A_x, blA_k, blA_x, cmpK_k, cmpK_x, cmpA_k, cmpA_x, valK_k, valK_x, chC_k, chC_x, chB_k, chB_x, chA_k, chA_x, andBA_k, andBA_x, orBA_k, orBA_x, notBA_k, notBA_x, truA_k, truA_x, andA_k, andA_x, orA_k, orA_x, notA_k, notA_x, ifFA_k, ifFA_x, ixB_k, ixB_x, ixA_k, ixA_x, isA_k, isA_x, slC_k, slC_x, slB_k, slB_x, slA_k, slA_x, sooA_k, sooA_x, exprA_k, exprA_x, retA_k, retA_x, ifA_k, ifA_x, setA__k, setA__x, asgA_k, asgA_x, parA_k, parA_x, par3A_k, par3A_x, putC_k, putC_x, putB_k, putB_x, putA_k, putA_x, thawA_k, thawA_x, mtA_k, mtA_x, mtB_k, mtB_x, dispA_k, dispA_x, callA_k, callA_x, raiseA_k, raiseA_x, srA_k, srA_x, seqA_k, seqA_x, r1A_k, r1A_x, r2A_k, r2A_x, zpA_k, zpA_x, forA_k, forA_x, lcA_k, lcA_x, chK_t, mtK_t, ev_cons, ev_tup, ev_lst, ev_op2, ev_op1, ev_bl, ev_cmp, ev_val, ev_chain, ev_andB, ev_orB, ev_notB, ev_tru, ev_and, ev_or, ev_not, ev_ifF, ev_ix, ev_is, ev_sl, ev_someO, ev_expr, ev_ret, ev_if, ev_set, ev_asg, ev_par, ev_par3, ev_put, ev_thaw, ev_meth, ev_disp, ev_call, ev_raise, ev_sorted, ev_seqI, ev_rng1, ev_rng2, ev_zip, ev_for, ev_lc, lcC_k, lcS_k, lcT_t, lcT_f, lcB_k, ev_yes, entG, List.map_cons, List.map_nil, List.length_cons, List.length_nil, List.cons_append, List.nil_append, List.append_nil, List.set_cons_zero, List.set_cons_succ, List.replicate_zero, List.replicate_succ, Nat.reduceAdd, Nat.reduceSub, Option.map_some, Option.bind_some, Option.map_none, Option.bind_none, List.take_length, Bool.not_true, Bool.not_false, Nat.zero_add, Nat.sub_self, Nat.reduceMul, List.take_left, List.isEmpty_cons, List.isEmpty_nil, ↓reduceIte, Nat.reduceLT, ev_gt, h, decide_true], [some (.p (.int y)), some (.p (.int (x.fmod y)))], by simp (disch := omega) only [ev_var0, ev_vars, ev_c, ev_nil, pures_nil, pures_cons, opt_some, optB_some, optU_some, deref_p, op2V_pp, op1V_p, blV_1, blV_2, blV_3, dC_pp, chK_f, andBK_t, andBK_f, orBK_t, orBK_f, truV_p, truD_bl, truD_int, truD_tup, truD_lst, andK_t, andK_f, orK_t, orK_f, notK_b, ifFK_t, ifFK_f, ixV_pp, ixD_t, ixD_k, ixD_l, atI_0, atI_1, atI_2, atI_3, isV_int, isV_bl, isV_non, isV_str, isV_tup, isV_lst, isV_kup, slV_p, ev_noO, sooK_i, ev_seq, sqK_nx, sqK_rt, sqK_ex, sqK_bk, sqK_ct, ev_skip, ev_retN, ifK_t, ifK_f, asK_s, ev_nameG, ev_tupG, ev_tupGk, ev_consG, ev_nilG, parK_2, par3K_3, putK_p, pmK_s, thawK_l, ev_newT, ev_newK, mtK2_s, exit_p, exit_nx, exit_ex, rsK_1, ev_word, wdK_ok, wdK_exc, wdT_s, ev_heard, hdK_ok, hdK_exc, hdT_s, hdI_s, its_fii, its_fi, srV_1, srK_s, srcL, srcT, wkK_s, wkU_t, wkU_l, wkU_s, zpK_tt, zpK_ll, grd_nil, flK_s, le_nx, le_ct, le_bk, le_rt, le_ex, consK2_k, consK2_x, consK1_k, consK1_x, tupK_k, tupK_x, lstK_k, lstK_x, op2B_k, op2B_x, op2A_k, op2A_x, op1A_k, op1A_x, blA_k, blA_x, cmpK_k, cmpK_x, cmpA_k, cmpA_x, valK_k, valK_x, chC_k, chC_x, chB_k, chB_x, chA_k, chA_x, andBA_k, andBA_x, orBA_k, orBA_x, notBA_k, notBA_x, truA_k, truA_x, andA_k, andA_x, orA_k, orA_x, notA_k, notA_x, ifFA_k, ifFA_x, ixB_k, ixB_x, ixA_k, ixA_x, isA_k, isA_x, slC_k, slC_x, slB_k, slB_x, slA_k, slA_x, sooA_k, sooA_x, exprA_k, exprA_x, retA_k, retA_x, ifA_k, ifA_x, setA__k, setA__x, asgA_k, asgA_x, parA_k, parA_x, par3A_k, par3A_x, putC_k, putC_x, putB_k, putB_x, putA_k, putA_x, thawA_k, thawA_x, mtA_k, mtA_x, mtB_k, mtB_x, dispA_k, dispA_x, callA_k, callA_x, raiseA_k, raiseA_x, srA_k, srA_x, seqA_k, seqA_x, r1A_k, r1A_x, r2A_k, r2A_x, zpA_k, zpA_x, forA_k, forA_x, lcA_k, lcA_x, chK_t, mtK_t, ev_cons, ev_tup, ev_lst, ev_op2, ev_op1, ev_bl, ev_cmp, ev_val, ev_chain, ev_andB, ev_orB, ev_notB, ev_tru, ev_and, ev_or, ev_not, ev_ifF, ev_ix, ev_is, ev_sl, ev_someO, ev_expr, ev_ret, ev_if, ev_set, ev_asg, ev_par, ev_par3, ev_put, ev_thaw, ev_meth, ev_disp, ev_call, ev_raise, ev_sorted, ev_seqI, ev_rng1, ev_rng2, ev_zip, ev_for, ev_lc, lcC_k, lcS_k, lcT_t, lcT_f, lcB_k, ev_yes, entG, List.map_cons, List.map_nil, List.length_cons, List.length_nil, List.cons_append, List.nil_append, List.append_nil, List.set_cons_zero, List.set_cons_succ, List.replicate_zero, List.replicate_succ, Nat.reduceAdd, Nat.reduceSub, Option.map_some, Option.bind_some, Option.map_none, Option.bind_none, List.take_length, Bool.not_true, Bool.not_false, Nat.zero_add, Nat.sub_self, Nat.reduceMul, List.take_left, List.isEmpty_cons, List.isEmpty_nil, ↓reduceIte, Nat.reduceLT, modD_i], ⟨y, x.fmod y, rfl, hy, Int.fmod_nonneg_of_pos _ h, ?_⟩, ?_⟩
        · rw [← hg, Int.fmod_eq_emod_of_nonneg _ hy]
          obtain ⟨m, rfl⟩ := Int.eq_ofNat_of_zero_le hx
          obtain ⟨n, rfl⟩ := Int.eq_ofNat_of_zero_le hy
          rw [← Int.natCast_emod]
          show Nat.gcd n (m % n) = Nat.gcd m n
          rw [Nat.gcd_comm m n, Nat.gcd_rec n m, Nat.gcd_comm]
        · have := Int.fmod_lt_of_pos x h
          have := Int.fmod_nonneg_of_pos x h
          show (x.fmod y).toNat < y.toNat
          omega
      · exact .inl (by simp only [ev_var0, ev_vars, ev_c, ev_nil, pures_nil, pures_cons, opt_some, optB_some, optU_some, deref_p, op2V_pp, op1V_p, blV_1, blV_2, blV_3, dC_pp, chK_f, andBK_t, andBK_f, orBK_t, orBK_f, truV_p, truD_bl, truD_int, truD_tup, truD_lst, andK_t, andK_f, orK_t, orK_f, notK_b, ifFK_t, ifFK_f, ixV_pp, ixD_t, ixD_k, ixD_l, atI_0, atI_1, atI_2, atI_3, isV_int, isV_bl, isV_non, isV_str, isV_tup, isV_lst, isV_kup, slV_p, ev_noO, sooK_i, ev_seq, sqK_nx, sqK_rt, sqK_ex, sqK_bk, sqK_ct, ev_skip, ev_retN, ifK_t, ifK_f, asK_s, ev_nameG, ev_tupG, ev_tupGk, ev_consG, ev_nilG, parK_2, par3K_3, putK_p, pmK_s, thawK_l, ev_newT, ev_newK, mtK2_s, exit_p, exit_nx, exit_ex, rsK_1, ev_word, wdK_ok, wdK_exc, wdT_s, ev_heard, hdK_ok, hdK_exc, hdT_s, hdI_s, its_fii, its_fi, srV_1, srK_s, srcL, srcT, wkK_s, wkU_t, wkU_l, wkU_s, zpK_tt, zpK_ll, grd_nil, flK_s, le_nx, le_ct, le_bk, le_rt, le_ex, consK2_k, consK2_x, consK1_k, consK1_x, tupK_k, tupK_x, lstK_k, lstK_x, op2B_k, op2B_x, op2A_k, op2A_x, op1A_k, op1A_x, blA_k, blA_x, cmpK_k, cmpK_x, cmpA_k, cmpA_x, valK_k, valK_x, chC_k, chC_x, chB_k, chB_x, chA_k, chA_x, andBA_k, andBA_x, orBA_k, orBA_x, notBA_k, notBA_x, truA_k, truA_x, andA_k, andA_x, orA_k, orA_x, notA_k, notA_x, ifFA_k, ifFA_x, ixB_k, ixB_x, ixA_k, ixA_x, isA_k, isA_x, slC_k, slC_x, slB_k, slB_x, slA_k, slA_x, sooA_k, sooA_x, exprA_k, exprA_x, retA_k, retA_x, ifA_k, ifA_x, setA__k, setA__x, asgA_k, asgA_x, parA_k, parA_x, par3A_k, par3A_x, putC_k, putC_x, putB_k, putB_x, putA_k, putA_x, thawA_k, thawA_x, mtA_k, mtA_x, mtB_k, mtB_x, dispA_k, dispA_x, callA_k, callA_x, raiseA_k, raiseA_x, srA_k, srA_x, seqA_k, seqA_x, r1A_k, r1A_x, r2A_k, r2A_x, zpA_k, zpA_x, forA_k, forA_x, lcA_k, lcA_x, chK_t, mtK_t, ev_cons, ev_tup, ev_lst, ev_op2, ev_op1, ev_bl, ev_cmp, ev_val, ev_chain, ev_andB, ev_orB, ev_notB, ev_tru, ev_and, ev_or, ev_not, ev_ifF, ev_ix, ev_is, ev_sl, ev_someO, ev_expr, ev_ret, ev_if, ev_set, ev_asg, ev_par, ev_par3, ev_put, ev_thaw, ev_meth, ev_disp, ev_call, ev_raise, ev_sorted, ev_seqI, ev_rng1, ev_rng2, ev_zip, ev_for, ev_lc, lcC_k, lcS_k, lcT_t, lcT_f, lcB_k, ev_yes, entG, List.map_cons, List.map_nil, List.length_cons, List.length_nil, List.cons_append, List.nil_append, List.append_nil, List.set_cons_zero, List.set_cons_succ, List.replicate_zero, List.replicate_succ, Nat.reduceAdd, Nat.reduceSub, Option.map_some, Option.bind_some, Option.map_none, Option.bind_none, List.take_length, Bool.not_true, Bool.not_false, Nat.zero_add, Nat.sub_self, Nat.reduceMul, List.take_left, List.isEmpty_cons, List.isEmpty_nil, ↓reduceIte, Nat.reduceLT, ev_gt, h, decide_false])
  subst e1
  simp only [ev_var0, ev_vars, ev_c, ev_nil, pures_nil, pures_cons, opt_some, optB_some, optU_some, deref_p, op2V_pp, op1V_p, blV_1, blV_2, blV_3, dC_pp, chK_f, andBK_t, andBK_f, orBK_t, orBK_f, truV_p, truD_bl, truD_int, truD_tup, truD_lst, andK_t, andK_f, orK_t, orK_f, notK_b, ifFK_t, ifFK_f, ixV_pp, ixD_t, ixD_k, ixD_l, atI_0, atI_1, atI_2, atI_3, isV_int, isV_bl, isV_non, isV_str, isV_tup, isV_lst, isV_kup, slV_p, ev_noO, sooK_i, ev_seq, sqK_nx, sqK_rt, sqK_ex, sqK_bk, sqK_ct, ev_skip, ev_retN, ifK_t, ifK_f, asK_s, ev_nameG, ev_tupG, ev_tupGk, ev_consG, ev_nilG, parK_2, par3K_3, putK_p, pmK_s, thawK_l, ev_newT, ev_newK, mtK2_s, exit_p, exit_nx, exit_ex, rsK_1, ev_word, wdK_ok, wdK_exc, wdT_s, ev_heard, hdK_ok, hdK_exc, hdT_s, hdI_s, its_fii, its_fi, srV_1, srK_s, srcL, srcT, wkK_s, wkU_t, wkU_l, wkU_s, zpK_tt, zpK_ll, grd_nil, flK_s, le_nx, le_ct, le_bk, le_rt, le_ex, consK2_k, consK2_x, consK1_k, consK1_x, tupK_k, tupK_x, lstK_k, lstK_x, op2B_k, op2B_x, op2A_k, op2A_x, op1A_k, op1A_x, blA_k, blA_x, cmpK_k, cmpK_x, cmpA_k, cmpA_x, valK_k, valK_x, chC_k, chC_x, chB_k, chB_x, chA_k, chA_x, andBA_k, andBA_x, orBA_k, orBA_x, notBA_k, notBA_x, truA_k, truA_x, andA_k, andA_x, orA_k, orA_x, notA_k, notA_x, ifFA_k, ifFA_x, ixB_k, ixB_x, ixA_k, ixA_x, isA_k, isA_x, slC_k, slC_x, slB_k, slB_x, slA_k, slA_x, sooA_k, sooA_x, exprA_k, exprA_x, retA_k, retA_x, ifA_k, ifA_x, setA__k, setA__x, asgA_k, asgA_x, parA_k, parA_x, par3A_k, par3A_x, putC_k, putC_x, putB_k, putB_x, putA_k, putA_x, thawA_k, thawA_x, mtA_k, mtA_x, mtB_k, mtB_x, dispA_k, dispA_x, callA_k, callA_x, raiseA_k, raiseA_x, srA_k, srA_x, seqA_k, seqA_x, r1A_k, r1A_x, r2A_k, r2A_x, zpA_k, zpA_x, forA_k, forA_x, lcA_k, lcA_x, chK_t, mtK_t, ev_cons, ev_tup, ev_lst, ev_op2, ev_op1, ev_bl, ev_cmp, ev_val, ev_chain, ev_andB, ev_orB, ev_notB, ev_tru, ev_and, ev_or, ev_not, ev_ifF, ev_ix, ev_is, ev_sl, ev_someO, ev_expr, ev_ret, ev_if, ev_set, ev_asg, ev_par, ev_par3, ev_put, ev_thaw, ev_meth, ev_disp, ev_call, ev_raise, ev_sorted, ev_seqI, ev_rng1, ev_rng2, ev_zip, ev_for, ev_lc, lcC_k, lcS_k, lcT_t, lcT_f, lcB_k, ev_yes, entG, List.map_cons, List.map_nil, List.length_cons, List.length_nil, List.cons_append, List.nil_append, List.append_nil, List.set_cons_zero, List.set_cons_succ, List.replicate_zero, List.replicate_succ, Nat.reduceAdd, Nat.reduceSub, Option.map_some, Option.bind_some, Option.map_none, Option.bind_none, List.take_length, Bool.not_true, Bool.not_false, Nat.zero_add, Nat.sub_self, Nat.reduceMul, List.take_left, List.isEmpty_cons, List.isEmpty_nil, ↓reduceIte, Nat.reduceLT, e]
  simp only [ev_var0, ev_vars, ev_c, ev_nil, pures_nil, pures_cons, opt_some, optB_some, optU_some, deref_p, op2V_pp, op1V_p, blV_1, blV_2, blV_3, dC_pp, chK_f, andBK_t, andBK_f, orBK_t, orBK_f, truV_p, truD_bl, truD_int, truD_tup, truD_lst, andK_t, andK_f, orK_t, orK_f, notK_b, ifFK_t, ifFK_f, ixV_pp, ixD_t, ixD_k, ixD_l, atI_0, atI_1, atI_2, atI_3, isV_int, isV_bl, isV_non, isV_str, isV_tup, isV_lst, isV_kup, slV_p, ev_noO, sooK_i, ev_seq, sqK_nx, sqK_rt, sqK_ex, sqK_bk, sqK_ct, ev_skip, ev_retN, ifK_t, ifK_f, asK_s, ev_nameG, ev_tupG, ev_tupGk, ev_consG, ev_nilG, parK_2, par3K_3, putK_p, pmK_s, thawK_l, ev_newT, ev_newK, mtK2_s, exit_p, exit_nx, exit_ex, rsK_1, ev_word, wdK_ok, wdK_exc, wdT_s, ev_heard, hdK_ok, hdK_exc, hdT_s, hdI_s, its_fii, its_fi, srV_1, srK_s, srcL, srcT, wkK_s, wkU_t, wkU_l, wkU_s, zpK_tt, zpK_ll, grd_nil, flK_s, le_nx, le_ct, le_bk, le_rt, le_ex, consK2_k, consK2_x, consK1_k, consK1_x, tupK_k, tupK_x, lstK_k, lstK_x, op2B_k, op2B_x, op2A_k, op2A_x, op1A_k, op1A_x, blA_k, blA_x, cmpK_k, cmpK_x, cmpA_k, cmpA_x, valK_k, valK_x, chC_k, chC_x, chB_k, chB_x, chA_k, chA_x, andBA_k, andBA_x, orBA_k, orBA_x, notBA_k, notBA_x, truA_k, truA_x, andA_k, andA_x, orA_k, orA_x, notA_k, notA_x, ifFA_k, ifFA_x, ixB_k, ixB_x, ixA_k, ixA_x, isA_k, isA_x, slC_k, slC_x, slB_k, slB_x, slA_k, slA_x, sooA_k, sooA_x, exprA_k, exprA_x, retA_k, retA_x, ifA_k, ifA_x, setA__k, setA__x, asgA_k, asgA_x, parA_k, parA_x, par3A_k, par3A_x, putC_k, putC_x, putB_k, putB_x, putA_k, putA_x, thawA_k, thawA_x, mtA_k, mtA_x, mtB_k, mtB_x, dispA_k, dispA_x, callA_k, callA_x, raiseA_k, raiseA_x, srA_k, srA_x, seqA_k, seqA_x, r1A_k, r1A_x, r2A_k, r2A_x, zpA_k, zpA_x, forA_k, forA_x, lcA_k, lcA_x, chK_t, mtK_t, ev_cons, ev_tup, ev_lst, ev_op2, ev_op1, ev_bl, ev_cmp, ev_val, ev_chain, ev_andB, ev_orB, ev_notB, ev_tru, ev_and, ev_or, ev_not, ev_ifF, ev_ix, ev_is, ev_sl, ev_someO, ev_expr, ev_ret, ev_if, ev_set, ev_asg, ev_par, ev_par3, ev_put, ev_thaw, ev_meth, ev_disp, ev_call, ev_raise, ev_sorted, ev_seqI, ev_rng1, ev_rng2, ev_zip, ev_for, ev_lc, lcC_k, lcS_k, lcT_t, lcT_f, lcB_k, ev_yes, entG, List.map_cons, List.map_nil, List.length_cons, List.length_nil, List.cons_append, List.nil_append, List.append_nil, List.set_cons_zero, List.set_cons_succ, List.replicate_zero, List.replicate_succ, Nat.reduceAdd, Nat.reduceSub, Option.map_some, Option.bind_some, Option.map_none, Option.bind_none, List.take_length, Bool.not_true, Bool.not_false, Nat.zero_add, Nat.sub_self, Nat.reduceMul, List.take_left, List.isEmpty_cons, List.isEmpty_nil, ↓reduceIte, Nat.reduceLT, ev_gt] at h2
  have hy0 : ¬ 0 < y := by
    intro h
    simp [h] at h2
  have : y = 0 := by omega
  subst this
  have : x = (Int.gcd a b : Int) := by
    rw [← hg]
    simp
    omega
  rw [this]
end Mp
namespace Mp
open PySem PySem.Spec PyProof.Rows L2
def dOf : Fs := (retS (ixF (varF 1) (callF (fnS 6 dDraw) (consA (varF 0) (consA (blF lenD (consA (varF 1) nilA)) nilA)))))
theorem atI_mem {xs : List D} {i : Int} (h1 : 0 ≤ i) (h2 : i < xs.length) : ∃ d, d ∈ xs ∧ atI xs i = some d := by
  have h : i.toNat < xs.length := by omega
  exact ⟨xs[i.toNat], List.getElem_mem h, by simp [atI, ixN_nn h1 h2, h]⟩
section
variable {cs ls : List Int} {a : Int} {n : Nat}
theorem of_l (w : Wf n cs ls a) (hn : n ≤ 100000000) {xs : List D} (h1 : 0 < xs.length) (h2 : xs.length < 16777216) :
    ∃ d ls', (∀ R, fnS 2 dOf [.loc 1, .p (.lst xs)] (St cs ls a R) = .ok (.p d) (St cs ls' (a + 1) R)) ∧ d ∈ xs ∧ Wf (n + 1) cs ls' (a + 1) := by
  obtain ⟨r, ls', e, hr, hl, w'⟩ := draw_ok w hn (lim := xs.length) (by omega) (by omega)
  obtain ⟨d, hd, e2⟩ := atI_mem hr hl
  refine ⟨d, ls', fun R => ?_, hd, w'⟩
  rw [ev_fn]
  simp only [ev_var0, ev_vars, ev_c, ev_nil, pures_nil, pures_cons, opt_some, optB_some, optU_some, deref_p, op2V_pp, op1V_p, blV_1, blV_2, blV_3, dC_pp, chK_f, andBK_t, andBK_f, orBK_t, orBK_f, truV_p, truD_bl, truD_int, truD_tup, truD_lst, andK_t, andK_f, orK_t, orK_f, notK_b, ifFK_t, ifFK_f, ixV_pp, ixD_t, ixD_k, ixD_l, atI_0, atI_1, atI_2, atI_3, isV_int, isV_bl, isV_non, isV_str, isV_tup, isV_lst, isV_kup, slV_p, ev_noO, sooK_i, ev_seq, sqK_nx, sqK_rt, sqK_ex, sqK_bk, sqK_ct, ev_skip, ev_retN, ifK_t, ifK_f, asK_s, ev_nameG, ev_tupG, ev_tupGk, ev_consG, ev_nilG, parK_2, par3K_3, putK_p, pmK_s, thawK_l, ev_newT, ev_newK, mtK2_s, exit_p, exit_nx, exit_ex, rsK_1, ev_word, wdK_ok, wdK_exc, wdT_s, ev_heard, hdK_ok, hdK_exc, hdT_s, hdI_s, its_fii, its_fi, srV_1, srK_s, srcL, srcT, wkK_s, wkU_t, wkU_l, wkU_s, zpK_tt, zpK_ll, grd_nil, flK_s, le_nx, le_ct, le_bk, le_rt, le_ex, consK2_k, consK2_x, consK1_k, consK1_x, tupK_k, tupK_x, lstK_k, lstK_x, op2B_k, op2B_x, op2A_k, op2A_x, op1A_k, op1A_x, blA_k, blA_x, cmpK_k, cmpK_x, cmpA_k, cmpA_x, valK_k, valK_x, chC_k, chC_x, chB_k, chB_x, chA_k, chA_x, andBA_k, andBA_x, orBA_k, orBA_x, notBA_k, notBA_x, truA_k, truA_x, andA_k, andA_x, orA_k, orA_x, notA_k, notA_x, ifFA_k, ifFA_x, ixB_k, ixB_x, ixA_k, ixA_x, isA_k, isA_x, slC_k, slC_x, slB_k, slB_x, slA_k, slA_x, sooA_k, sooA_x, exprA_k, exprA_x, retA_k, retA_x, ifA_k, ifA_x, setA__k, setA__x, asgA_k, asgA_x, parA_k, parA_x, par3A_k, par3A_x, putC_k, putC_x, putB_k, putB_x, putA_k, putA_x, thawA_k, thawA_x, mtA_k, mtA_x, mtB_k, mtB_x, dispA_k, dispA_x, callA_k, callA_x, raiseA_k, raiseA_x, srA_k, srA_x, seqA_k, seqA_x, r1A_k, r1A_x, r2A_k, r2A_x, zpA_k, zpA_x, forA_k, forA_x, lcA_k, lcA_x, chK_t, mtK_t, ev_cons, ev_tup, ev_lst, ev_op2, ev_op1, ev_bl, ev_cmp, ev_val, ev_chain, ev_andB, ev_orB, ev_notB, ev_tru, ev_and, ev_or, ev_not, ev_ifF, ev_ix, ev_is, ev_sl, ev_someO, ev_expr, ev_ret, ev_if, ev_set, ev_asg, ev_par, ev_par3, ev_put, ev_thaw, ev_meth, ev_disp, ev_call, ev_raise, ev_sorted, ev_seqI, ev_rng1, ev_rng2, ev_zip, ev_for, ev_lc, lcC_k, lcS_k, lcT_t, lcT_f, lcB_k, ev_yes, entG, List.map_cons, List.map_nil, List.length_cons, List.length_nil, List.cons_append, List.nil_append, List.append_nil, List.set_cons_zero, List.set_cons_succ, List.replicate_zero, List.replicate_succ, Nat.reduceAdd, Nat.reduceSub, Option.map_some, Option.bind_some, Option.map_none, Option.bind_none, List.take_length, Bool.not_true, Bool.not_false, Nat.zero_add, Nat.sub_self, Nat.reduceMul, List.take_left, List.isEmpty_cons, List.isEmpty_nil, ↓reduceIte, Nat.reduceLT, dOf, lenD_l, e, ixD_l, e2, St_len, St_take]
theorem of_t (w : Wf n cs ls a) (hn : n ≤ 100000000) {xs : List D} (h1 : 0 < xs.length) (h2 : xs.length < 16777216) :
    ∃ d ls', (∀ R, fnS 2 dOf [.loc 1, .p (.tup xs)] (St cs ls a R) = .ok (.p d) (St cs ls' (a + 1) R)) ∧ d ∈ xs ∧ Wf (n + 1) cs ls' (a + 1) := by
  obtain ⟨r, ls', e, hr, hl, w'⟩ := draw_ok w hn (lim := xs.length) (by omega) (by omega)
  obtain ⟨d, hd, e2⟩ := atI_mem hr hl
  refine ⟨d, ls', fun R => ?_, hd, w'⟩
  rw [ev_fn]
  simp only [ev_var0, ev_vars, ev_c, ev_nil, pures_nil, pures_cons, opt_some, optB_some, optU_some, deref_p, op2V_pp, op1V_p, blV_1, blV_2, blV_3, dC_pp, chK_f, andBK_t, andBK_f, orBK_t, orBK_f, truV_p, truD_bl, truD_int, truD_tup, truD_lst, andK_t, andK_f, orK_t, orK_f, notK_b, ifFK_t, ifFK_f, ixV_pp, ixD_t, ixD_k, ixD_l, atI_0, atI_1, atI_2, atI_3, isV_int, isV_bl, isV_non, isV_str, isV_tup, isV_lst, isV_kup, slV_p, ev_noO, sooK_i, ev_seq, sqK_nx, sqK_rt, sqK_ex, sqK_bk, sqK_ct, ev_skip, ev_retN, ifK_t, ifK_f, asK_s, ev_nameG, ev_tupG, ev_tupGk, ev_consG, ev_nilG, parK_2, par3K_3, putK_p, pmK_s, thawK_l, ev_newT, ev_newK, mtK2_s, exit_p, exit_nx, exit_ex, rsK_1, ev_word, wdK_ok, wdK_exc, wdT_s, ev_heard, hdK_ok, hdK_exc, hdT_s, hdI_s, its_fii, its_fi, srV_1, srK_s, srcL, srcT, wkK_s, wkU_t, wkU_l, wkU_s, zpK_tt, zpK_ll, grd_nil, flK_s, le_nx, le_ct, le_bk, le_rt, le_ex, consK2_k, consK2_x, consK1_k, consK1_x, tupK_k, tupK_x, lstK_k, lstK_x, op2B_k, op2B_x, op2A_k, op2A_x, op1A_k, op1A_x, blA_k, blA_x, cmpK_k, cmpK_x, cmpA_k, cmpA_x, valK_k, valK_x, chC_k, chC_x, chB_k, chB_x, chA_k, chA_x, andBA_k, andBA_x, orBA_k, orBA_x, notBA_k, notBA_x, truA_k, truA_x, andA_k, andA_x, orA_k, orA_x, notA_k, notA_x, ifFA_k, ifFA_x, ixB_k, ixB_x, ixA_k, ixA_x, isA_k, isA_x, slC_k, slC_x, slB_k, slB_x, slA_k, slA_x, sooA_k, sooA_x, exprA_k, exprA_x, retA_k, retA_x, ifA_k, ifA_x, setA__k, setA__x, asgA_k, asgA_x, parA_k, parA_x, par3A_k, par3A_x, putC_k, putC_x, putB_k, putB_x, putA_k, putA_x, thawA_k, thawA_x, mtA_k, mtA_x, mtB_k, mtB_x, dispA_k, dispA_x, callA_k, callA_x, raiseA_k, raiseA_x, srA_k, srA_x, seqA_k, seqA_x, r1A_k, r1A_x, r2A_k, r2A_x, zpA_k, zpA_x, forA_k, forA_x, lcA_k, lcA_x, chK_t, mtK_t, ev_cons, ev_tup, ev_lst, ev_op2, ev_op1, ev_bl, ev_cmp, ev_val, ev_chain, ev_andB, ev_orB, ev_notB, ev_tru, ev_and, ev_or, ev_not, ev_ifF, ev_ix, ev_is, ev_sl, ev_someO, ev_expr, ev_ret, ev_if, ev_set, ev_asg, ev_par, ev_par3, ev_put, ev_thaw, ev_meth, ev_disp, ev_call, ev_raise, ev_sorted, ev_seqI, ev_rng1, ev_rng2, ev_zip, ev_for, ev_lc, lcC_k, lcS_k, lcT_t, lcT_f, lcB_k, ev_yes, entG, List.map_cons, List.map_nil, List.length_cons, List.length_nil, List.cons_append, List.nil_append, List.append_nil, List.set_cons_zero, List.set_cons_succ, List.replicate_zero, List.replicate_succ, Nat.reduceAdd, Nat.reduceSub, Option.map_some, Option.bind_some, Option.map_none, Option.bind_none, List.take_length, Bool.not_true, Bool.not_false, Nat.zero_add, Nat.sub_self, Nat.reduceMul, List.take_left, List.isEmpty_cons, List.isEmpty_nil, ↓reduceIte, Nat.reduceLT, dOf, lenD_t, e, ixD_t, e2, St_len, St_take]
end
/-- what a range goes through -/
theorem upto_len (lo : Int) : ∀ n : Nat, (upto lo n).length = n
  | 0 => rfl
  | n + 1 => by rw [upto, List.length_cons, upto_len (lo + 1) n]
end Mp
namespace Mp
open PySem PySem.Spec PyProof.Rows L2
abbrev pr (x y : Int) : D := .tup [.int x, .int y]
def ppD (p : Int × Int) : D := pr p.1 p.2
def leP (p q : Int × Int) : Bool := decide (p.1 < q.1 ∨ (p.1 = q.1 ∧ p.2 ≤ q.2))
def ltP (p q : Int × Int) : Prop := p.1 < q.1 ∨ (p.1 = q.1 ∧ p.2 < q.2)
theorem enc_pr (p : Int × Int) : encD (ppD p) = .tuple [.int p.1, .int p.2] := by
  simp [encD, ppD, toP0, toPs]
theorem leD_pr (p q : Int × Int) : leD' (ppD p) (ppD q) = leP p q := by
  show (!PySem.W.dataLt (encD (ppD q)) (encD (ppD p))) = leP p q
  rw [enc_pr, enc_pr, PySem.W.dataLt_ii, leP]
  by_cases h : q.1 < p.1 ∨ (q.1 = p.1 ∧ q.2 < p.2)
  · have h' : ¬ (p.1 < q.1 ∨ (p.1 = q.1 ∧ p.2 ≤ q.2)) := by omega
    simp [h, h']
  · have h' : p.1 < q.1 ∨ (p.1 = q.1 ∧ p.2 ≤ q.2) := by omega
    simp [h, h']
theorem alike_ii (x y x' y' : Int) : PySem.W.alike (.tuple [.int x, .int y]) (.tuple [.int x', .int y']) = true := by simp [PySem.W.alike, PySem.W.alikeAll]
theorem depth_ii (x y : Int) : (PyData.tuple [.int x, .int y]).depth = 1 := by simp [PyData.depth, PyData.depthAll]
theorem sortOk_prs (L : List (Int × Int)) : sortOk (L.map ppD) = true := by
  simp only [sortOk, Bool.and_eq_true, Bool.or_eq_true, List.all_map, List.all_eq_true, Function.comp, enc_pr, alike_ii, depth_ii]
  refine ⟨⟨fun p _ => ⟨by simp [ppD, toP0, toPs], by decide⟩, fun _ _ _ _ => trivial⟩, .inl fun _ _ => trivial⟩
def sortP (L : List (Int × Int)) : List (Int × Int) := L.mergeSort leP
theorem sortD_prs (L : List (Int × Int)) (h : L.length ≤ 16777216) : sortD (L.map ppD) = some ((sortP L).map ppD) := by
  rw [sortD, if_pos ⟨sortOk_prs L, by simpa using h⟩, sortP, List.map_mergeSort fun a _ b _ => (leD_pr a b).symm]
theorem leP_total (p q : Int × Int) : (leP p q || leP q p) = true := by
  simp only [leP, Bool.or_eq_true, decide_eq_true_eq]
  omega
theorem leP_trans (p q r : Int × Int) (h1 : leP p q = true) (h2 : leP q r = true) : leP p r = true := by
  simp only [leP, decide_eq_true_eq] at *
  omega
theorem sortP_perm (L : List (Int × Int)) : (sortP L).Perm L := List.mergeSort_perm L leP
theorem sortP_mem {L : List (Int × Int)} {p : Int × Int} : p ∈ sortP L ↔ p ∈ L := (sortP_perm L).mem_iff
theorem sortP_len (L : List (Int × Int)) : (sortP L).length = L.length := (sortP_perm L).length_eq
/-- sorted, each once: ascending -/
theorem sortP_lt {L : List (Int × Int)} (h : L.Nodup) : (sortP L).Pairwise ltP := by
  have h1 : (sortP L).Pairwise fun a b => leP a b = true := List.pairwise_mergeSort leP_trans leP_total L
  have h2 : (sortP L).Nodup := (sortP_perm L).nodup_iff.mpr h
  refine (h1.and h2).imp fun {a b} hab => ?_
  obtain ⟨h3, h4⟩ := hab
  simp only [leP, decide_eq_true_eq] at h3
  rcases h3 with h3 | ⟨h3, h5⟩
  · exact .inl h3
  · refine .inr ⟨h3, ?_⟩
    have : a.2 ≠ b.2 := fun e => h4 (Prod.ext h3 e)
    omega
theorem ev_geP {p q : Int × Int} : geD (ppD p) (ppD q) = some (leP q p) := by
  have e : ordOk (.tuple [.int p.1, .int p.2]) (.tuple [.int q.1, .int q.2]) = true := by
    simp only [ordOk, alike_ii, depth_ii]
    decide
  show (if ordOk (.tuple [.int p.1, .int p.2]) (.tuple [.int q.1, .int q.2]) = true then some (!PySem.W.dataLt (.tuple [.int p.1, .int p.2]) (.tuple [.int q.1, .int q.2])) else none) = _
  rw [if_pos e, ← enc_pr, ← enc_pr]
  show some (leD' (ppD q) (ppD p)) = _
  rw [leD_pr]
theorem ltP_ge {p q : Int × Int} (h : ltP p q) : geD (ppD p) (ppD q) = some false := by
  rw [ev_geP]
  have : ¬ (q.1 < p.1 ∨ (q.1 = p.1 ∧ q.2 ≤ p.2)) := by
    rcases h with h | h <;> omega
  simp [leP, this]
theorem shaped_ii (x y : Int) : SeqAt.shaped (.tuple [.int x, .int y]) = true := by
  simp only [SeqAt.shaped, PyData.canLay0, PyData.canLayAll0, depth_ii]
  decide
theorem eq_pr {x y x' y' : Int} : eqD (pr x y) (pr x' y') = some (decide (x = x' ∧ y = y')) := by
  show (if SeqAt.shaped (.tuple [.int x, .int y]) = true ∧ SeqAt.shaped (.tuple [.int x', .int y']) = true then some (PyData.eqv (.tuple [.int x, .int y]) (.tuple [.int x', .int y'])) else none) = _
  rw [if_pos ⟨shaped_ii _ _, shaped_ii _ _⟩]
  simp only [PyData.eqv, PyData.eqvAll, Bool.and_true]
  by_cases h : x = x' <;> by_cases h' : y = y' <;> simp [h, h']
theorem ne_pr {x y x' y' : Int} : neD (pr x y) (pr x' y') = some (!decide (x = x' ∧ y = y')) := by
  rw [neD, eq_pr]
  rfl
/-- two beside one another -/
theorem zip_tail {α : Type} {R : α → α → Prop} {f : α → D} : ∀ {l : List α}, l.Pairwise R → ∀ d ∈ zipD (l.map f) (l.map f).tail, ∃ p q, d = .tup [f p, f q] ∧ R p q ∧ p ∈ l ∧ q ∈ l
  | [], _, d, hd => by simp [zipD] at hd
  | [a], _, d, hd => by simp [zipD] at hd
  | a :: b :: l, h, d, hd => by
    simp only [List.map_cons, List.tail_cons, zipD, List.mem_cons] at hd
    rcases hd with rfl | hd
    · exact ⟨a, b, rfl, (List.pairwise_cons.mp h).1 b (by simp), by simp, by simp⟩
    · obtain ⟨p, q, h1, h2, h3, h4⟩ := zip_tail (f := f) (List.pairwise_cons.mp h).2 d (by simpa only [List.map_cons, List.tail_cons] using hd)
      exact ⟨p, q, h1, h2, by simp [h3], by simp [h4]⟩
theorem sl_tail {ds : List D} : slD (.tup ds) (some 1) none = some (.tup ds.tail) := by
  show some (D.tup (cutD ds (some 1) none)) = _
  congr 2
  simp only [cutD, HT.sIx]
  cases ds with
  | nil => rfl
  | cons d ds =>
    simp only [List.length_cons, List.tail_cons]
    have : min (1 : Int).toNat (ds.length + 1) = 1 := by simp
    rw [if_neg (by decide), this]
    simp
theorem sl_2 {a b c : D} : slD (.tup [a, b, c]) none (some 2) = some (.tup [a, b]) := rfl
/-- pairs as keys -/
def kvP (p : Int × Int) : List Key × D := ([.inl p.1, .inl p.2], .bl true)
def insP (L : List (Int × Int)) (p : Int × Int) : List (Int × Int) := if p ∈ L then L else L ++ [p]
theorem insP_nd {L : List (Int × Int)} {p : Int × Int} (h : L.Nodup) : (insP L p).Nodup := by
  unfold insP
  split
  · exact h
  · rename_i hp
    exact List.nodup_append.mpr ⟨h, by simp, fun a ha b hb e => by simp at hb; subst hb; subst e; exact hp ha⟩
theorem insP_mem {L : List (Int × Int)} {p q : Int × Int} : q ∈ insP L p ↔ q ∈ L ∨ q = p := by
  unfold insP
  split
  · rename_i hp
    constructor
    · exact .inl
    · rintro (h | rfl)
      · exact h
      · exact hp
  · simp
theorem insP_len {L : List (Int × Int)} {p : Int × Int} : (insP L p).length ≤ L.length + 1 := by
  unfold insP
  split <;> simp
theorem setK_kvP (L : List (Int × Int)) (p : Int × Int) : setK (L.map kvP) [.inl p.1, .inl p.2] (.bl true) = (insP L p).map kvP := by
  have key : ∀ q : Int × Int, decide ((kvP q).1 = [Sum.inl p.1, Sum.inl p.2]) = decide (q = p) := fun q => by
    have : ((kvP q).1 = [Sum.inl p.1, Sum.inl p.2]) ↔ q = p := by
      simp only [kvP, List.cons.injEq, Sum.inl.injEq, and_true]
      exact ⟨fun h => Prod.ext h.1 h.2, fun h => by rw [h]; exact ⟨rfl, rfl⟩⟩
    simp only [this]
  have ha : ((L.map kvP).any fun kv => decide (kv.1 = [Sum.inl p.1, Sum.inl p.2])) = decide (p ∈ L) := by
    rw [List.any_map]
    simp only [Function.comp_def, key]
    rw [Bool.eq_iff_iff]
    simp
  unfold setK insP
  rw [ha]
  by_cases h : p ∈ L
  · rw [if_pos (by simpa using h), if_pos h]
    rw [List.map_map]
    refine List.map_congr_left fun q _ => ?_
    simp only [Function.comp]
    split
    · rfl
    · rfl
  · rw [if_neg (by simpa using h), if_neg h, List.map_append]
    rfl
theorem put_dtu {M : Mem} {n : Nat} {L : List (Int × Int)} {x y : Int} (h : M[n]? = some (.dtu (L.map kvP))) (hl : L.length < 16777216) : putM M (.loc n) (pr x y) (.p (.bl true)) = some (M.set n (.dtu ((insP L (x, y)).map kvP))) := by
  simp only [putM, h]
  show (if (L.map kvP).length < 16777216 then some (M.set n (.dtu (setK (L.map kvP) [.inl x, .inl y] (.bl true)))) else none) = _
  rw [if_pos (by simpa using hl), ← setK_kvP L (x, y)]
theorem src_dtu {M : Mem} {n : Nat} {L : List (Int × Int)} (h : M[n]? = some (.dtu (L.map kvP))) : sortSrc M (.loc n) = some (L.map ppD) := by
  simp only [sortSrc, h]
  rw [if_pos (by simp [kvP])]
  simp [kvP, keyD, ppD, Function.comp_def]
/-- an island: places within m, ascending -/
structure Isl (m : Int) (k : Nat) (L : List (Int × Int)) : Prop where
  lt : L.Pairwise ltP
  bd : ∀ p ∈ L, -m ≤ p.1 ∧ p.1 ≤ m ∧ -m ≤ p.2 ∧ p.2 ≤ m
  len : L.length ≤ k
end Mp
namespace Mp
open PySem PySem.Spec PyProof.Rows L2
section
variable {Γ : Env} {M : Mem}
/-- a comprehension that leaves the memory as it is -/
theorem lc_fm {gd : List (Nat × List D)} {asg : U → Mem → Env → Option Env} {c : Fb} {f : Fx} {t : D → Bool} {q : D → D} (hg : grd gd M) : ∀ {ds acc : List D}, (∀ d ∈ ds, ∃ Γ1, asg (.p d) M Γ = some Γ1 ∧ c Γ1 M = .ok (t d) M ∧ (t d = true → f Γ1 M = .ok (.p (q d)) M)) → acc.length + ds.length ≤ 16777216 →
    lcL gd asg c f Γ ds acc M = .ok (.p (.lst (acc ++ (ds.filter t).map q))) M
  | [], acc, _, _ => by
    unfold lcL
    rw [if_pos hg]
    simp
  | d :: ds, acc, h, hl => by
    obtain ⟨Γ1, h1, h2, h3⟩ := h d (by simp)
    simp only [List.length_cons] at hl
    rw [lcL, if_pos hg, h1]
    cases ht : t d with
    | true =>
      simp only [h2, ht, Res.calm, Res.bind, h3 ht]
      rw [if_pos (by omega), lc_fm hg (fun d' hd => h d' (List.mem_cons_of_mem _ hd)) (by simp; omega)]
      simp [List.filter_cons, ht]
    | false =>
      simp only [h2, ht, Res.calm, Res.bind]
      rw [lc_fm hg (fun d' hd => h d' (List.mem_cons_of_mem _ hd)) (by omega)]
      simp [List.filter_cons, ht]
theorem grd_1 {n : Nat} {xs : List D} (h : M[n]? = some (.lst xs)) : grd [(n, xs)] M := fun p hp => by
  simp at hp
  subst hp
  exact h
theorem wkU_loc {n : Nat} {xs : List D} (h : M[n]? = some (.lst xs)) : wkU M (.loc n) = some ⟨xs, [(n, xs)]⟩ := by simp [wkU, h]
end
section
variable {α : Type} {R : α → α → Bool} {Dm : α → Prop}
/-- two ascending lists of the same things -/
theorem asc_unique (as : ∀ a b, Dm a → Dm b → R a b = true → R b a = false) : ∀ {l m : List α}, (∀ a ∈ l, Dm a) → (∀ a ∈ m, Dm a) → l.Pairwise (fun a b => R a b = true) → m.Pairwise (fun a b => R a b = true) → (∀ x, x ∈ l ↔ x ∈ m) → l = m
  | [], [], _, _, _, _, _ => rfl
  | [], b :: m, _, _, _, _, h => absurd ((h b).mpr (by simp)) (by simp)
  | a :: l, [], _, _, _, _, h => absurd ((h a).mp (by simp)) (by simp)
  | a :: l, b :: m, d1, d2, p1, p2, h => by
    obtain ⟨q1, r1⟩ := List.pairwise_cons.mp p1
    obtain ⟨q2, r2⟩ := List.pairwise_cons.mp p2
    have irr : ∀ x, Dm x → R x x = true → False := fun x hx hr => by
      have := as x x hx hx hr
      rw [hr] at this
      cases this
    have da := d1 a (by simp)
    have db := d2 b (by simp)
    have e : a = b := by
      rcases List.mem_cons.mp ((h a).mp (by simp)) with e | h1
      · exact e
      · rcases List.mem_cons.mp ((h b).mpr (by simp)) with e | h2
        · exact e.symm
        · have z := as _ _ db da (q2 a h1)
          rw [q1 b h2] at z
          cases z
    subst e
    congr 1
    refine asc_unique as (fun x hx => d1 x (by simp [hx])) (fun x hx => d2 x (by simp [hx])) r1 r2 fun x => ?_
    have hx := h x
    constructor
    · intro hl
      rcases List.mem_cons.mp (hx.mp (by simp [hl])) with e | e
      · subst e
        exact (irr _ da (q1 _ hl)).elim
      · exact e
    · intro hl
      rcases List.mem_cons.mp (hx.mpr (by simp [hl])) with e | e
      · subst e
        exact (irr _ da (q2 _ hl)).elim
      · exact e
/-- put where it belongs: behind all that come ahead -/
def putMp (R : α → α → Bool) (l : List α) (p : α) : List α := l.take (l.filter fun a => R a p).length ++ [p] ++ l.drop (l.filter fun a => R a p).length
theorem putMp_mem {l : List α} {p x : α} : x ∈ putMp R l p ↔ x ∈ l ∨ x = p := by
  unfold putMp
  have := List.take_append_drop (l.filter fun a => R a p).length l
  constructor
  · intro h
    simp only [List.mem_append, List.mem_singleton] at h
    rcases h with (h | h) | h
    · exact .inl (List.mem_of_mem_take h)
    · exact .inr h
    · exact .inl (List.mem_of_mem_drop h)
  · intro h
    simp only [List.mem_append, List.mem_singleton]
    rcases h with h | h
    · rw [← this, List.mem_append] at h
      rcases h with h | h
      · exact .inl (.inl h)
      · exact .inr h
    · exact .inl (.inr h)
theorem putMp_len {l : List α} {p : α} : (putMp R l p).length = l.length + 1 := by
  have h := congrArg List.length (List.take_append_drop (l.filter fun a => R a p).length l)
  unfold putMp
  simp only [List.length_append, List.length_singleton] at h ⊢
  omega
theorem putMp_asc (as : ∀ a b, Dm a → Dm b → R a b = true → R b a = false) (tr : ∀ a b c, Dm a → Dm b → Dm c → R a b = true → R b c = true → R a c = true) (tot : ∀ a b, Dm a → Dm b → a ≠ b → R a b = true ∨ R b a = true) {p : α} (dp : Dm p) :
    ∀ {l : List α}, (∀ a ∈ l, Dm a) → p ∉ l → l.Pairwise (fun a b => R a b = true) → (putMp R l p).Pairwise (fun a b => R a b = true)
  | [], _, _, _ => by simp [putMp]
  | a :: l, d, np, pw => by
    obtain ⟨q, r⟩ := List.pairwise_cons.mp pw
    have da := d a (by simp)
    have dl : ∀ x ∈ l, Dm x := fun x hx => d x (by simp [hx])
    have ne : a ≠ p := fun e => np (by simp [e])
    by_cases h : R a p = true
    · have ih := putMp_asc as tr tot dp dl (fun z => np (by simp [z])) r
      have e : putMp R (a :: l) p = a :: putMp R l p := by simp [putMp, List.filter_cons, h]
      rw [e]
      refine List.pairwise_cons.mpr ⟨fun x hx => ?_, ih⟩
      rcases putMp_mem.mp hx with hx | rfl
      · exact q x hx
      · exact h
    · have hpa : R p a = true := by
        rcases tot a p da dp ne with z | z
        · exact absurd z h
        · exact z
      have all : ∀ x ∈ l, R p x = true := fun x hx => tr p a x dp da (dl x hx) hpa (q x hx)
      have ef : (a :: l).filter (fun a => R a p) = [] := by
        rw [List.filter_eq_nil_iff]
        intro x hx
        rcases List.mem_cons.mp hx with rfl | hx
        · exact h
        · rw [as p x dp (dl x hx) (all x hx)]
          simp
      have e : putMp R (a :: l) p = p :: a :: l := by simp [putMp, ef]
      rw [e]
      refine List.pairwise_cons.mpr ⟨fun x hx => ?_, pw⟩
      rcases List.mem_cons.mp hx with rfl | hx
      · exact hpa
      · exact all x hx
/-- one after another, each once -/
def putMpOnce [DecidableEq α] (R : α → α → Bool) (l : List α) (p : α) : List α := if p ∈ l then l else putMp R l p
def putMpAll [DecidableEq α] (R : α → α → Bool) (l : List α) (ps : List α) : List α := ps.foldl (putMpOnce R) l
theorem putMpAll_ok [DecidableEq α] (as : ∀ a b, Dm a → Dm b → R a b = true → R b a = false) (tr : ∀ a b c, Dm a → Dm b → Dm c → R a b = true → R b c = true → R a c = true) (tot : ∀ a b, Dm a → Dm b → a ≠ b → R a b = true ∨ R b a = true) :
    ∀ {ps l : List α}, (∀ a ∈ l, Dm a) → (∀ a ∈ ps, Dm a) → l.Pairwise (fun a b => R a b = true) → (putMpAll R l ps).Pairwise (fun a b => R a b = true) ∧ (∀ x, x ∈ putMpAll R l ps ↔ x ∈ l ∨ x ∈ ps) ∧ (putMpAll R l ps).length ≤ l.length + ps.length
  | [], l, _, _, pw => ⟨pw, by simp [putMpAll], by simp [putMpAll]⟩
  | p :: ps, l, dl, dp, pw => by
    have dpp := dp p (by simp)
    by_cases h : p ∈ l
    · have e : putMpAll R l (p :: ps) = putMpAll R l ps := by simp [putMpAll, putMpOnce, h]
      obtain ⟨h1, h2, h3⟩ := putMpAll_ok (ps := ps) as tr tot dl (fun x hx => dp x (by simp [hx])) pw
      rw [e]
      refine ⟨h1, fun x => ?_, by simp only [List.length_cons]; omega⟩
      rw [h2 x, List.mem_cons]
      constructor
      · rintro (z | z)
        · exact .inl z
        · exact .inr (.inr z)
      · rintro (z | rfl | z)
        · exact .inl z
        · exact .inl h
        · exact .inr z
    · have e : putMpAll R l (p :: ps) = putMpAll R (putMp R l p) ps := by simp [putMpAll, putMpOnce, h]
      have dl2 : ∀ a ∈ putMp R l p, Dm a := fun a ha => by
        rcases putMp_mem.mp ha with z | rfl
        · exact dl a z
        · exact dpp
      obtain ⟨h1, h2, h3⟩ := putMpAll_ok (ps := ps) as tr tot dl2 (fun x hx => dp x (by simp [hx])) (putMp_asc as tr tot dpp dl h pw)
      rw [e]
      refine ⟨h1, fun x => ?_, by rw [putMp_len] at h3; simp only [List.length_cons]; omega⟩
      rw [h2 x, putMp_mem, List.mem_cons]
      constructor
      · rintro ((z | z) | z)
        · exact .inl z
        · exact .inr (.inl z)
        · exact .inr (.inr z)
      · rintro (z | z | z)
        · exact .inl (.inl z)
        · exact .inl (.inr z)
        · exact .inr z
end
theorem toPs_prs : ∀ L : List (Int × Int), toPs (L.map ppD) = some (L.map fun p => .tuple [.int p.1, .int p.2])
  | [] => rfl
  | p :: L => by
    rw [List.map_cons, toPs, toPs_prs L]
    rfl
theorem canLay_prs : ∀ L : List (Int × Int), PyData.canLayAll0 (L.map fun p => PyData.tuple [.int p.1, .int p.2]) = true
  | [] => rfl
  | p :: L => by simp only [List.map_cons, PyData.canLayAll0, PyData.canLay0, canLay_prs L, Bool.and_self]
theorem depth_prs : ∀ L : List (Int × Int), PyData.depthAll (L.map fun p => PyData.tuple [.int p.1, .int p.2]) ≤ 1
  | [] => by simp [PyData.depthAll]
  | p :: L => by
    have := depth_prs L
    simp only [List.map_cons, PyData.depthAll, depth_ii]
    omega
theorem shaped_prs (L : List (Int × Int)) : SeqAt.shaped (.list (L.map fun p => PyData.tuple [.int p.1, .int p.2])) = true := by
  have h := depth_prs L
  have e : (PyData.list (L.map fun p => PyData.tuple [.int p.1, .int p.2])).depth ≤ 64 := by
    simp only [PyData.depth]
    omega
  have e2 : (PyData.list (L.map fun p => PyData.tuple [.int p.1, .int p.2])).canLay0 = true := by
    simp only [PyData.canLay0, canLay_prs]
  unfold SeqAt.shaped
  rw [e2, decide_eq_true e]
  rfl
theorem eqv_ii (a b c d : Int) : PyData.eqv (.tuple [.int a, .int b]) (.tuple [.int c, .int d]) = decide (a = c ∧ b = d) := by
  simp only [PyData.eqv, PyData.eqvAll, Bool.and_true]
  by_cases h : a = c <;> by_cases h' : b = d <;> simp [h, h']
theorem inD_prs (p : Int × Int) (c : D) (L : List (Int × Int)) (hc : seqOf c = some (L.map ppD)) : inD (ppD p) c = some (decide (p ∈ L)) := by
  have e1 : toP0 (ppD p) = some (.tuple [.int p.1, .int p.2]) := by simp [ppD, toP0, toPs]
  unfold inD
  rw [e1, hc]
  simp only [toPs_prs]
  rw [if_pos ⟨shaped_ii _ _, shaped_prs L⟩]
  congr 1
  rw [List.any_map, Bool.eq_iff_iff]
  simp only [List.any_eq_true, Function.comp_apply, eqv_ii, decide_eq_true_eq]
  constructor
  · rintro ⟨q, hq, h1, h2⟩
    have : q = p := Prod.ext h1 h2
    exact this ▸ hq
  · intro h
    exact ⟨p, h, rfl, rfl⟩
theorem notin_prs {M : Mem} {p : Int × Int} {c : U} {y : D} {L : List (Int × Int)} (h : deref M c = some y) (hc : seqOf y = some (L.map ppD)) : notinA M (.p (ppD p)) c = some (!decide (p ∈ L)) := by
  simp only [notinA, inA, deref_p, h, inD_prs p y L hc]
  rfl
theorem in_prs {M : Mem} {p : Int × Int} {c : U} {y : D} {L : List (Int × Int)} (h : deref M c = some y) (hc : seqOf y = some (L.map ppD)) : inA M (.p (ppD p)) c = some (decide (p ∈ L)) := by
  simp only [inA, deref_p, h, inD_prs p y L hc]
/-- a property of a pair, of data -/
def dP (t : Int × Int → Bool) : D → Bool
  | .tup [.int x, .int y] => t (x, y)
  | _ => false
def dF (q : Int × Int → D) : D → D
  | .tup [.int x, .int y] => q (x, y)
  | d => d
theorem filter_dP (t : Int × Int → Bool) (L : List (Int × Int)) : (L.map ppD).filter (dP t) = (L.filter t).map ppD := by
  rw [List.filter_map]
  rfl
theorem map_dF (q : Int × Int → D) (L : List (Int × Int)) : (L.map ppD).map (dF q) = L.map q := by
  rw [List.map_map]
  rfl
section
variable {M : Mem} {o o' : Ob}
theorem end_get : (M ++ [o])[M.length]? = some o := by simp
theorem end_set : (M ++ [o]).set M.length o' = M ++ [o'] := by simp
theorem end_take : (M ++ [o]).take M.length = M := by simp
theorem end_len : (M ++ [o]).length = M.length + 1 := by simp
theorem end_deref {xs : List D} : deref (M ++ [.lst xs]) (.loc M.length) = some (.lst xs) := deref_loc end_get
theorem end_isLoc {xs : List D} : isLoc (M ++ [.lst xs]) (.loc M.length) = true := by
  simp only [isLoc, end_get]
theorem end_app {xs : List D} {d : D} (h : xs.length < 16777216) : appG (M ++ [.lst xs]) (.loc M.length) [.p d] = some (.p .non, M ++ [.lst (xs ++ [d])]) := by
  simp only [appG, appM, end_get, h, if_true, end_set, Option.map_some]
theorem end_ins {xs : List D} {d : D} {i : Nat} (h : xs.length < 16777216) (hi : i ≤ xs.length) : insG (M ++ [.lst xs]) (.loc M.length) [.p (.int i), .p d] = some (.p .non, M ++ [.lst (xs.take i ++ [d] ++ xs.drop i)]) := by
  have : xs.length < 16777216 ∧ (0 : Int) ≤ i ∧ (i : Int) < 2 ^ 63 := ⟨h, by omega, by omega⟩
  simp only [insG, insM, end_get, end_set, Int.toNat_natCast]
  rw [if_pos this]
  rfl
theorem exit_end {xs : List D} : exitR M.length (.rt (.loc M.length) (M ++ [.lst xs])) = .ok (.p (.lst xs)) M := by
  rw [exit_lst (Nat.le_refl _) end_get, end_take]
end
theorem sl_take {xs : List D} {k : Nat} (h : k ≤ xs.length) : slD (.lst xs) none (some k) = some (.lst (xs.take k)) := by
  show some (D.lst (cutD xs none (some k))) = _
  simp only [cutD, HT.sIx_none, HT.sIx_nat, List.drop_zero, Nat.sub_zero, Nat.min_eq_left h]
theorem sl_drop {xs : List D} {k : Nat} (h : k ≤ xs.length) : slD (.lst xs) (some k) none = some (.lst (xs.drop k)) := by
  show some (D.lst (cutD xs (some k) none)) = _
  simp only [cutD, HT.sIx_none, HT.sIx_nat, Nat.min_eq_left h]
  rw [List.take_of_length_le (by simp)]
theorem sl_takeT {xs : List D} {k : Nat} (h : k ≤ xs.length) : slD (.tup xs) none (some k) = some (.tup (xs.take k)) := by
  show some (D.tup (cutD xs none (some k))) = _
  simp only [cutD, HT.sIx_none, HT.sIx_nat, List.drop_zero, Nat.sub_zero, Nat.min_eq_left h]
theorem sl_dropT {xs : List D} {k : Nat} (h : k ≤ xs.length) : slD (.tup xs) (some k) none = some (.tup (xs.drop k)) := by
  show some (D.tup (cutD xs (some k) none)) = _
  simp only [cutD, HT.sIx_none, HT.sIx_nat, Nat.min_eq_left h]
  rw [List.take_of_length_le (by simp)]
end Mp
namespace Mp
open PySem PySem.Spec PyProof.Rows L2
def upP (p : Int × Int) : Bool := decide (0 < p.2 ∨ (p.2 = 0 ∧ 0 < p.1))
def halfP (p : Int × Int) : Int := if upP p = true then 0 else 1
def crP (p q : Int × Int) : Int := p.1 * q.2 - p.2 * q.1
def ahP (p q : Int × Int) : Bool := if halfP p ≠ halfP q then decide (halfP p < halfP q) else decide (0 < crP p q)
/-- a direction without a common divisor -/
def PlnP (p : Int × Int) : Prop := Int.gcd p.1 p.2 = 1
def negP (p : Int × Int) : Int × Int := (-p.1, -p.2)
theorem half_01 (p : Int × Int) : halfP p = 0 ∨ halfP p = 1 := by unfold halfP; split <;> simp
theorem up_iff {p : Int × Int} : upP p = true ↔ (0 < p.2 ∨ (p.2 = 0 ∧ 0 < p.1)) := by simp [upP]
theorem pln_nz {p : Int × Int} (h : PlnP p) : ¬ (p.1 = 0 ∧ p.2 = 0) := by
  rintro ⟨h1, h2⟩
  unfold PlnP at h
  rw [h1, h2] at h
  simp at h
theorem up_neg {p : Int × Int} (h : ¬ (p.1 = 0 ∧ p.2 = 0)) : upP (negP p) = !upP p := by
  have : upP (negP p) = true ↔ ¬ upP p = true := by
    rw [up_iff, up_iff]
    simp only [negP]
    omega
  cases e : upP p <;> simp_all
theorem cr_neg (p q : Int × Int) : crP (negP p) (negP q) = crP p q := by simp only [crP, negP]; grind
theorem cr_swap (p q : Int × Int) : crP q p = - crP p q := by simp only [crP]; grind
theorem pos_of_mul {a b : Int} (h : 0 < a * b) (hb : 0 < b) : 0 < a := by
  by_cases ha : 0 < a
  · exact ha
  · have : a * b ≤ 0 := Int.mul_nonpos_of_nonpos_of_nonneg (by omega) (by omega)
    omega
theorem up_trans {p q r : Int × Int} (hp : upP p = true) (hq : upP q = true) (hr : upP r = true) (h1 : 0 < crP p q) (h2 : 0 < crP q r) : 0 < crP p r := by
  rw [up_iff] at hp hq hr
  have id : crP p r * q.2 = crP p q * r.2 + crP q r * p.2 := by simp only [crP]; grind
  have hq2 : 0 < q.2 := by
    rcases hq with h | ⟨h3, h4⟩
    · exact h
    · have e : crP p q = -(p.2 * q.1) := by simp only [crP, h3]; grind
      have : 0 ≤ p.2 * q.1 := Int.mul_nonneg (by omega) (by omega)
      omega
  have hr2 : 0 < r.2 := by
    rcases hr with h | ⟨h3, h4⟩
    · exact h
    · have e : crP q r = -(q.2 * r.1) := by simp only [crP, h3]; grind
      have : 0 < q.2 * r.1 := Int.mul_pos hq2 h4
      omega
  have a1 : 0 < crP p q * r.2 := Int.mul_pos h1 hr2
  have a2 : 0 ≤ crP q r * p.2 := Int.mul_nonneg (by omega) (by omega)
  exact pos_of_mul (b := q.2) (by omega) hq2
theorem ah_same {p q : Int × Int} (h : upP p = upP q) : ahP p q = decide (0 < crP p q) := by
  have : halfP p = halfP q := by unfold halfP; rw [h]
  simp [ahP, this]
theorem ah_diff {p q : Int × Int} (h : upP p ≠ upP q) : ahP p q = upP p := by
  unfold ahP halfP
  cases e1 : upP p <;> cases e2 : upP q <;> simp_all
theorem ah_trans (p q r : Int × Int) (dp : PlnP p) (dq : PlnP q) (dr : PlnP r) (h1 : ahP p q = true) (h2 : ahP q r = true) : ahP p r = true := by
  by_cases e1 : upP p = upP q
  · by_cases e2 : upP q = upP r
    · rw [ah_same e1] at h1
      rw [ah_same e2] at h2
      rw [ah_same (e1.trans e2)]
      simp only [decide_eq_true_eq] at *
      cases e : upP p with
      | true => exact up_trans e (e1 ▸ e) (e2 ▸ e1 ▸ e) h1 h2
      | false =>
        have np := up_neg (pln_nz dp)
        have nq := up_neg (pln_nz dq)
        have nr := up_neg (pln_nz dr)
        rw [e] at np
        rw [← e1, e] at nq
        rw [← e2, ← e1, e] at nr
        rw [← cr_neg] at h1 h2 ⊢
        exact up_trans (by simpa using np) (by simpa using nq) (by simpa using nr) h1 h2
    · rw [ah_diff e2] at h2
      rw [ah_diff (by rw [e1]; exact e2), e1]
      exact h2
  · rw [ah_diff e1] at h1
    by_cases e2 : upP q = upP r
    · rw [ah_diff (by rw [← e2]; exact e1)]
      exact h1
    · rw [ah_diff e2] at h2
      exact absurd (h1.trans h2.symm) e1
theorem ah_asym (p q : Int × Int) (h : ahP p q = true) : ahP q p = false := by
  by_cases e : upP p = upP q
  · rw [ah_same e] at h
    rw [ah_same e.symm, cr_swap p q]
    simp only [decide_eq_true_eq, decide_eq_false_iff_not] at *
    omega
  · rw [ah_diff e] at h
    rw [ah_diff (Ne.symm e)]
    cases e2 : upP q with
    | false => rfl
    | true => exact absurd (h.trans e2.symm) e
theorem cr_eq {p q : Int × Int} (dp : PlnP p) (dq : PlnP q) (hp : upP p = true) (hq : upP q = true) (h : crP p q = 0) : p = q := by
  rw [up_iff] at hp hq
  simp only [crP] at h
  have e : p.1 * q.2 = p.2 * q.1 := by omega
  have en : p.1.natAbs * q.2.natAbs = p.2.natAbs * q.1.natAbs := by rw [← Int.natAbs_mul, ← Int.natAbs_mul, e]
  have cp : Nat.Coprime p.1.natAbs p.2.natAbs := dp
  have cq : Nat.Coprime q.1.natAbs q.2.natAbs := dq
  have d1 : p.2.natAbs ∣ q.2.natAbs := (Nat.Coprime.dvd_of_dvd_mul_left cp.symm ⟨_, en⟩)
  have d2 : q.2.natAbs ∣ p.2.natAbs := (Nat.Coprime.dvd_of_dvd_mul_right cq.symm ⟨p.1.natAbs, by rw [← en, Nat.mul_comm]⟩)
  have e2 : p.2.natAbs = q.2.natAbs := Nat.dvd_antisymm d1 d2
  have e3 : p.2 = q.2 := by omega
  by_cases hz : p.2 = 0
  · have z1 : p.1.natAbs = 1 := by
      have : Nat.gcd p.1.natAbs p.2.natAbs = 1 := cp
      rw [hz] at this
      simpa using this
    have z2 : q.1.natAbs = 1 := by
      have : Nat.gcd q.1.natAbs q.2.natAbs = 1 := cq
      rw [← e3, hz] at this
      simpa using this
    exact Prod.ext (by omega) e3
  · have : p.1 * p.2 = q.1 * p.2 := by rw [e3, e, e3, Int.mul_comm]
    exact Prod.ext (Int.eq_of_mul_eq_mul_right hz this) e3
theorem pln_neg {p : Int × Int} (h : PlnP p) : PlnP (negP p) := by
  unfold PlnP negP at *
  simpa using h
theorem ah_tot (p q : Int × Int) (dp : PlnP p) (dq : PlnP q) (ne : p ≠ q) : ahP p q = true ∨ ahP q p = true := by
  by_cases e : upP p = upP q
  · rw [ah_same e, ah_same e.symm, cr_swap p q]
    simp only [decide_eq_true_eq]
    by_cases hz : crP p q = 0
    · exfalso
      apply ne
      cases e1 : upP p with
      | true => exact cr_eq dp dq e1 (e ▸ e1) hz
      | false =>
        have np := up_neg (pln_nz dp)
        have nq := up_neg (pln_nz dq)
        rw [e1] at np
        rw [← e, e1] at nq
        have := cr_eq (pln_neg dp) (pln_neg dq) (by simpa using np) (by simpa using nq) (by rw [cr_neg]; exact hz)
        simp only [negP, Prod.mk.injEq] at this
        exact Prod.ext (by omega) (by omega)
    · omega
  · rw [ah_diff e, ah_diff (Ne.symm e)]
    cases e1 : upP p <;> cases e2 : upP q <;> simp_all
/-- without the common divisor -/
def plnOf (p : Int × Int) : Int × Int := (p.1.fdiv (Int.gcd p.1 p.2), p.2.fdiv (Int.gcd p.1 p.2))
theorem pln_of {p : Int × Int} (h : ¬ (p.1 = 0 ∧ p.2 = 0)) : 0 < (Int.gcd p.1 p.2 : Int) ∧ PlnP (plnOf p) ∧ p.1 = Int.gcd p.1 p.2 * (plnOf p).1 ∧ p.2 = Int.gcd p.1 p.2 * (plnOf p).2 := by
  have hpos : 0 < Int.gcd p.1 p.2 := by
    rcases Nat.eq_zero_or_pos (Int.gcd p.1 p.2) with e | e
    · rw [Int.gcd_eq_zero_iff] at e
      exact absurd e h
    · exact e
  obtain ⟨a, ha⟩ : (Int.gcd p.1 p.2 : Int) ∣ p.1 := Int.gcd_dvd_left ..
  obtain ⟨b, hb⟩ : (Int.gcd p.1 p.2 : Int) ∣ p.2 := Int.gcd_dvd_right ..
  have hg0 : (Int.gcd p.1 p.2 : Int) ≠ 0 := by omega
  have e1 : (plnOf p).1 = a := by
    show p.1.fdiv _ = a
    conv => lhs; arg 1; rw [ha]
    rw [Int.mul_comm]
    exact Int.mul_fdiv_cancel _ hg0
  have e2 : (plnOf p).2 = b := by
    show p.2.fdiv _ = b
    conv => lhs; arg 1; rw [hb]
    rw [Int.mul_comm]
    exact Int.mul_fdiv_cancel _ hg0
  refine ⟨by omega, ?_, by rw [e1]; exact ha, by rw [e2]; exact hb⟩
  unfold PlnP
  rw [e1, e2]
  have z0 : Int.gcd (Int.gcd p.1 p.2 * a) (Int.gcd p.1 p.2 * b) = Int.gcd p.1 p.2 * Int.gcd a b := by
    rw [Int.gcd_mul_left]
    simp
  rw [← ha, ← hb] at z0
  have z : Int.gcd p.1 p.2 * 1 = Int.gcd p.1 p.2 * Int.gcd a b := by rw [Nat.mul_one]; exact z0
  exact (Nat.eq_of_mul_eq_mul_left hpos z).symm
theorem plnOf_pln {p : Int × Int} (h : PlnP p) : plnOf p = p := by
  unfold PlnP at h
  simp [plnOf, h]
theorem plnOf_mul {p : Int × Int} (h : ¬ (p.1 = 0 ∧ p.2 = 0)) {k : Int} (hk : 0 < k) : plnOf (k * p.1, k * p.2) = plnOf p := by
  obtain ⟨h1, h2, h3, h4⟩ := pln_of h
  have e : (Int.gcd (k * p.1) (k * p.2) : Int) = k * Int.gcd p.1 p.2 := by
    rw [Int.gcd_mul_left, Int.natCast_mul]
    congr 1
    omega
  have hz : (k * Int.gcd p.1 p.2 : Int) ≠ 0 := by
    have := Int.mul_pos hk h1
    omega
  refine Prod.ext ?_ ?_
  · show (k * p.1).fdiv (Int.gcd (k * p.1) (k * p.2)) = (plnOf p).1
    rw [e]
    conv => lhs; arg 1; rw [h3, ← Int.mul_assoc, Int.mul_comm]
    exact Int.mul_fdiv_cancel _ hz
  · show (k * p.2).fdiv (Int.gcd (k * p.1) (k * p.2)) = (plnOf p).2
    rw [e]
    conv => lhs; arg 1; rw [h4, ← Int.mul_assoc, Int.mul_comm]
    exact Int.mul_fdiv_cancel _ hz
theorem pln_le {p : Int × Int} (h : ¬ (p.1 = 0 ∧ p.2 = 0)) {m : Int} (h1 : -m ≤ p.1) (h2 : p.1 ≤ m) (h3 : -m ≤ p.2) (h4 : p.2 ≤ m) : -m ≤ (plnOf p).1 ∧ (plnOf p).1 ≤ m ∧ -m ≤ (plnOf p).2 ∧ (plnOf p).2 ≤ m := by
  obtain ⟨g1, _, g3, g4⟩ := pln_of h
  have key : ∀ t u : Int, t = Int.gcd p.1 p.2 * u → -m ≤ t → t ≤ m → -m ≤ u ∧ u ≤ m := fun t u e a b => by
    by_cases hu : 0 ≤ u
    · have : 1 * u ≤ Int.gcd p.1 p.2 * u := Int.mul_le_mul_of_nonneg_right (by omega) hu
      omega
    · have : Int.gcd p.1 p.2 * u ≤ 1 * u := Int.mul_le_mul_of_nonpos_right (by omega) (by omega)
      omega
  have a := key _ _ g3 h1 h2
  have b := key _ _ g4 h3 h4
  exact ⟨a.1, a.2, b.1, b.2⟩
/-- all directions of a list, plain, round about -/
def roundP (ps : List (Int × Int)) : List (Int × Int) := putMpAll ahP [] (ps.map plnOf)
theorem round_ok {ps : List (Int × Int)} (h : ∀ p ∈ ps, ¬ (p.1 = 0 ∧ p.2 = 0)) : (roundP ps).Pairwise (fun a b => ahP a b = true) ∧ (∀ x, x ∈ roundP ps ↔ x ∈ ps.map plnOf) ∧ (roundP ps).length ≤ ps.length := by
  obtain ⟨h1, h2, h3⟩ := putMpAll_ok (R := ahP) (Dm := PlnP) (fun a b _ _ => ah_asym a b) ah_trans ah_tot (l := []) (ps := ps.map plnOf) (by simp) (fun a ha => by
    obtain ⟨p, hp, rfl⟩ := List.mem_map.mp ha
    exact (pln_of (h p hp)).2.1) .nil
  exact ⟨h1, fun x => by rw [roundP, h2]; simp, by simpa [roundP] using h3⟩
theorem round_unique {ps : List (Int × Int)} (h : ∀ p ∈ ps, ¬ (p.1 = 0 ∧ p.2 = 0)) {l : List (Int × Int)} (d : ∀ p ∈ l, PlnP p) (hl : l.Pairwise (fun a b => ahP a b = true)) (hm : ∀ x, x ∈ l ↔ x ∈ ps.map plnOf) : roundP ps = l := by
  obtain ⟨h1, h2, _⟩ := round_ok h
  refine asc_unique (R := ahP) (Dm := PlnP) (fun a b _ _ => ah_asym a b) (fun a ha => ?_) d h1 hl fun x => by rw [h2, hm]
  obtain ⟨p, hp, rfl⟩ := List.mem_map.mp ((h2 a).mp ha)
  exact (pln_of (h p hp)).2.1
end Mp
namespace Mp
open PySem PySem.Spec PyProof.Rows L2
mutual
/-- data without texts, at most k deep -/
inductive Lay : Nat → D → Prop
  | non : Lay 0 .non
  | bl (b : Bool) : Lay 0 (.bl b)
  | int (i : Int) : Lay 0 (.int i)
  | str {x : Str} (h : (PyData.str x).canLay0 = true) : Lay 0 (.str x)
  | tup {k : Nat} {ds : List D} : Lays k ds → Lay (k + 1) (.tup ds)
  | lst {k : Nat} {ds : List D} : Lays k ds → Lay (k + 1) (.lst ds)
  | kup {k : Nat} {ds : List D} : Lays k ds → Lay (k + 1) (.kup ds)
inductive Lays : Nat → List D → Prop
  | nil {k : Nat} : Lays k []
  | cons {k l : Nat} {d : D} {ds : List D} : Lay k d → k ≤ l → Lays l ds → Lays l (d :: ds)
end
structure Layp (k : Nat) (p : PyData) : Prop where
  c : p.canLay0 = true
  d : p.depth ≤ k
  e : PyData.eqv p p = true
structure Layps (k : Nat) (ps : List PyData) : Prop where
  c : PyData.canLayAll0 ps = true
  d : PyData.depthAll ps ≤ k
  e : PyData.eqvAll ps ps = true
  m : ∀ p ∈ ps, Layp k p
mutual
theorem Lay.p : ∀ {k : Nat} {d : D}, Lay k d → ∃ p, toP0 d = some p ∧ Layp k p
  | _, _, .non => ⟨_, rfl, rfl, by simp [PyData.depth], by simp [PyData.eqv]⟩
  | _, _, .bl b => ⟨_, rfl, rfl, by simp [PyData.depth], by simp [PyData.eqv]⟩
  | _, _, .int b => ⟨_, rfl, rfl, by simp [PyData.depth], by simp [PyData.eqv]⟩
  | _, _, .str h => ⟨_, rfl, h, by simp [PyData.depth], by simp [PyData.eqv]⟩
  | _, _, .tup hs => by
    obtain ⟨ps, e, a⟩ := Lays.p hs
    exact ⟨.tuple ps, by simp [toP0, e], by simpa [PyData.canLay0] using a.c, by simp only [PyData.depth]; have := a.d; omega, by simpa [PyData.eqv] using a.e⟩
  | _, _, .kup hs => by
    obtain ⟨ps, e, a⟩ := Lays.p hs
    exact ⟨.tuple ps, by simp [toP0, e], by simpa [PyData.canLay0] using a.c, by simp only [PyData.depth]; have := a.d; omega, by simpa [PyData.eqv] using a.e⟩
  | _, _, .lst hs => by
    obtain ⟨ps, e, a⟩ := Lays.p hs
    exact ⟨.list ps, by simp [toP0, e], by simpa [PyData.canLay0] using a.c, by simp only [PyData.depth]; have := a.d; omega, by simpa [PyData.eqv] using a.e⟩
theorem Lays.p : ∀ {k : Nat} {ds : List D}, Lays k ds → ∃ ps, toPs ds = some ps ∧ Layps k ps
  | _, _, .nil => ⟨[], rfl, rfl, by simp [PyData.depthAll], by simp [PyData.eqvAll], by simp⟩
  | _, _, .cons h hk hs => by
    obtain ⟨p, e, a⟩ := Lay.p h
    obtain ⟨ps, es, b⟩ := Lays.p hs
    refine ⟨p :: ps, by simp [toPs, e, es], by simp [PyData.canLayAll0, a.c, b.c], ?_, by simp [PyData.eqvAll, a.e, b.e], fun q hq => ?_⟩
    · have := a.d
      have := b.d
      simp only [PyData.depthAll]
      omega
    · rcases List.mem_cons.mp hq with rfl | hq
      · exact ⟨a.c, Nat.le_trans a.d hk, a.e⟩
      · exact b.m q hq
end
theorem Layp.sh {k : Nat} {p : PyData} (a : Layp k p) (hk : k ≤ 64) : SeqAt.shaped p = true := by
  unfold SeqAt.shaped
  rw [a.c, decide_eq_true (Nat.le_trans a.d hk)]
  rfl
theorem Lays.all {k : Nat} : ∀ {ds : List D}, (∀ d ∈ ds, Lay k d) → Lays k ds
  | [], _ => .nil
  | d :: ds, h => .cons (h d (by simp)) (Nat.le_refl _) (Lays.all (ds := ds) fun x hx => h x (List.mem_cons_of_mem _ hx))
theorem eqD_gen {a b : D} (ha : ∀ i, a ≠ .int i) (hb : ∀ x, a ≠ .str x) (hc : ∀ x, a ≠ .bl x) : eqD a b = match toP0 a, toP0 b with
    | some p, some q => if SeqAt.shaped p = true ∧ SeqAt.shaped q = true then some (PyData.eqv p q) else none
    | _, _ => none := by
  cases a <;> first | rfl | exact absurd rfl (ha _) | exact absurd rfl (hb _) | exact absurd rfl (hc _)
theorem eqD_refl {k : Nat} {d : D} (h : Lay k d) (hk : k ≤ 64) : eqD d d = some true := by
  cases d with
  | int i => simp [eqD]
  | str i => simp [eqD]
  | bl i => simp [eqD]
  | _ =>
    obtain ⟨p, e, a⟩ := h.p
    rw [eqD_gen (by simp) (by simp) (by simp), e]
    simp only
    rw [if_pos ⟨a.sh hk, a.sh hk⟩, a.e]
theorem neD_refl {k : Nat} {d : D} (h : Lay k d) (hk : k ≤ 64) : neD d d = some false := by
  rw [neD, eqD_refl h hk]
  rfl
theorem lay_pr (p : Int × Int) : Lay 1 (ppD p) := .tup (.cons (.int _) (Nat.le_refl _) (.cons (.int _) (Nat.le_refl _) .nil))
theorem lays_prs (L : List (Int × Int)) : Lays 1 (L.map ppD) := Lays.all fun d hd => by
  obtain ⟨p, _, rfl⟩ := List.mem_map.mp hd
  exact lay_pr p
theorem ne_empty {L : List (Int × Int)} : neD (.tup (L.map ppD)) (.tup []) = some (!L.isEmpty) := by
  obtain ⟨p, e, a⟩ := (Lay.tup (lays_prs L)).p
  rw [neD, eqD_gen (by simp) (by simp) (by simp), e]
  have e2 : toP0 (.tup []) = some (.tuple []) := rfl
  rw [e2]
  simp only
  rw [if_pos ⟨a.sh (by decide), by decide⟩]
  have e3 : toP0 (.tup (L.map ppD)) = some (.tuple (L.map fun p => .tuple [.int p.1, .int p.2])) := by simp [toP0, toPs_prs]
  rw [e3] at e
  cases e
  cases L <;> simp [PyData.eqv, PyData.eqvAll]
theorem inD_true {k l : Nat} {x : D} {ys : List D} {c : D} (hx : Lay k x) (hk : k ≤ 64) (hy : Lays l ys) (hl : l ≤ 63) (hc : seqOf c = some ys) (hm : x ∈ ys) : inD x c = some true := by
  obtain ⟨p, e, a⟩ := hx.p
  obtain ⟨ps, es, b⟩ := hy.p
  have hz : SeqAt.shaped (.list ps) = true := by
    unfold SeqAt.shaped
    have h1 : (PyData.list ps).canLay0 = true := by simpa [PyData.canLay0] using b.c
    have h2 : (PyData.list ps).depth ≤ 64 := by simp only [PyData.depth]; have := b.d; omega
    rw [h1, decide_eq_true h2]
    rfl
  have hp : p ∈ ps := by
    clear b hz hc hy
    induction ys generalizing ps with
    | nil => simp at hm
    | cons y ys ih =>
      cases e1 : toP0 y with
      | none => simp [toPs, e1] at es
      | some q =>
        cases e2 : toPs ys with
        | none => simp [toPs, e1, e2] at es
        | some qs =>
          simp [toPs, e1, e2] at es
          subst es
          rcases List.mem_cons.mp hm with rfl | hm
          · rw [e] at e1
            cases e1
            simp
          · exact List.mem_cons_of_mem _ (ih hm _ e2)
  unfold inD
  rw [e, hc]
  simp only [es]
  rw [if_pos ⟨a.sh hk, hz⟩]
  congr 1
  exact List.any_eq_true.mpr ⟨p, hp, a.e⟩
theorem addD_tt {xs ys : List D} (h : xs.length + ys.length ≤ 16777216) : addD (.tup xs) (.tup ys) = some (.tup (xs ++ ys)) := by
  show (if xs.length + ys.length ≤ 16777216 then some (if xs.isEmpty = true then D.tup ys else if ys.isEmpty = true then .tup xs else .tup (xs ++ ys)) else none) = _
  rw [if_pos h]
  cases xs <;> cases ys <;> simp
theorem upto_mem : ∀ {n : Nat} {lo : Int} {d : D}, d ∈ upto lo n → ∃ i, d = .int i ∧ lo ≤ i ∧ i < lo + n
  | 0, _, _, h => by simp [upto] at h
  | n + 1, lo, d, h => by
    rw [upto, List.mem_cons] at h
    rcases h with rfl | h
    · exact ⟨lo, rfl, by omega, by omega⟩
    · obtain ⟨i, e, h1, h2⟩ := upto_mem h
      exact ⟨i, e, by omega, by omega⟩
theorem mem_upto : ∀ {n : Nat} {lo i : Int}, lo ≤ i → i < lo + n → D.int i ∈ upto lo n
  | 0, lo, i, h1, h2 => by omega
  | n + 1, lo, i, h1, h2 => by
    rw [upto, List.mem_cons]
    by_cases e : i = lo
    · exact .inl (by rw [e])
    · exact .inr (mem_upto (by omega) (by omega))
/-- sorted lists of the same pairs -/
theorem sortP_eq {l m : List (Int × Int)} (hl : l.Nodup) (hm : m.Nodup) (h : ∀ x, x ∈ l ↔ x ∈ m) : sortP l = sortP m := by
  refine asc_unique (R := fun a b => decide (a.1 < b.1 ∨ (a.1 = b.1 ∧ a.2 < b.2))) (Dm := fun _ => True) (fun a b _ _ h => ?_) (fun _ _ => trivial) (fun _ _ => trivial) ((sortP_lt hl).imp fun h => by simpa [ltP] using h) ((sortP_lt hm).imp fun h => by simpa [ltP] using h) fun x => by rw [sortP_mem, sortP_mem, h]
  simp only [decide_eq_true_eq, decide_eq_false_iff_not] at *
  omega
theorem asc_nodup {l : List (Int × Int)} (h : l.Pairwise (fun a b => ahP a b = true)) : l.Nodup := h.imp fun {a b} hab e => by
  subst e
  have := ah_asym a a hab
  rw [hab] at this
  cases this
def turnP (p : Int × Int) : Int × Int := (-p.2, p.1)
def q4 (p : Int × Int) : Bool := decide (0 ≤ p.1 ∧ p.2 < 0)
theorem cr_turn (p q : Int × Int) : crP (turnP p) (turnP q) = crP p q := by simp only [crP, turnP]; grind
theorem pln_turn {p : Int × Int} (h : PlnP p) : PlnP (turnP p) := by
  unfold PlnP turnP at *
  simp only [Int.gcd_neg, Int.neg_gcd]
  rw [Int.gcd_comm]
  exact h
theorem turn_inj {p q : Int × Int} (h : turnP p = turnP q) : p = q := by
  simp only [turnP, Prod.mk.injEq] at h
  exact Prod.ext h.2 (by omega)
theorem q4_last {p q : Int × Int} (dp : PlnP p) (hp : q4 p = false) (hq : q4 q = true) : ahP p q = true := by
  simp only [q4, decide_eq_true_eq, decide_eq_false_iff_not] at hp hq
  have nz := pln_nz dp
  have uq : upP q = false := by simp [upP]; omega
  cases up : upP p with
  | true => rw [ah_diff (by rw [up, uq]; simp)]; exact up
  | false =>
    rw [ah_same (up.trans uq.symm), decide_eq_true_eq]
    simp [upP] at up
    have a1 : 0 ≤ -p.2 * q.1 := Int.mul_nonneg (by omega) (by omega)
    have a2 : 0 < (-p.1) * (-q.2) := Int.mul_pos (by omega) (by omega)
    simp only [crP]
    grind
theorem up_turn (p : Int × Int) : upP (turnP p) = true ↔ (0 < p.1 ∨ (p.1 = 0 ∧ p.2 < 0)) := by
  rw [up_iff]
  simp only [turnP]
  omega
theorem turn_44 {p q : Int × Int} (hp : q4 p = true) (hq : q4 q = true) (h : ahP p q = true) : ahP (turnP p) (turnP q) = true := by
  simp only [q4, decide_eq_true_eq] at hp hq
  have u1 : upP p = false := by simp [upP]; omega
  have u2 : upP q = false := by simp [upP]; omega
  have t1 : upP (turnP p) = true := (up_turn p).mpr (by omega)
  have t2 : upP (turnP q) = true := (up_turn q).mpr (by omega)
  rw [ah_same (u1.trans u2.symm)] at h
  rw [ah_same (t1.trans t2.symm), cr_turn]
  exact h
theorem turn_40 {p q : Int × Int} (hp : q4 p = true) (dq : PlnP q) (hq : q4 q = false) : ahP (turnP p) (turnP q) = true := by
  simp only [q4, decide_eq_true_eq, decide_eq_false_iff_not] at hp hq
  have nz := pln_nz dq
  have t1 : upP (turnP p) = true := (up_turn p).mpr (by omega)
  cases t2 : upP (turnP q) with
  | false => rw [ah_diff (by rw [t1, t2]; simp)]; exact t1
  | true =>
    rw [ah_same (t1.trans t2.symm), cr_turn, decide_eq_true_eq]
    have := (up_turn q).mp t2
    have a1 : 0 ≤ p.1 * q.2 := Int.mul_nonneg (by omega) (by omega)
    have a2 : 0 < (-p.2) * q.1 := Int.mul_pos (by omega) (by omega)
    simp only [crP]
    grind
theorem turn_00 {p q : Int × Int} (dp : PlnP p) (dq : PlnP q) (hp : q4 p = false) (hq : q4 q = false) (h : ahP p q = true) : ahP (turnP p) (turnP q) = true := by
  simp only [q4, decide_eq_false_iff_not] at hp hq
  have n1 := pln_nz dp
  have n2 := pln_nz dq
  cases t1 : upP (turnP p) with
  | true =>
    cases t2 : upP (turnP q) with
    | false => rw [ah_diff (by rw [t1, t2]; simp)]; exact t1
    | true =>
      have z1 := (up_turn p).mp t1
      have z2 := (up_turn q).mp t2
      have u1 : upP p = true := up_iff.mpr (by omega)
      have u2 : upP q = true := up_iff.mpr (by omega)
      rw [ah_same (u1.trans u2.symm)] at h
      rw [ah_same (t1.trans t2.symm), cr_turn]
      exact h
  | false =>
    have z1 : ¬ (0 < p.1 ∨ (p.1 = 0 ∧ p.2 < 0)) := fun z => by
      have := (up_turn p).mpr z
      rw [t1] at this
      cases this
    cases t2 : upP (turnP q) with
    | true =>
      exfalso
      have z2 := (up_turn q).mp t2
      have u2 : upP q = true := up_iff.mpr (by omega)
      cases u1 : upP p with
      | false =>
        rw [ah_diff (by rw [u1, u2]; simp), u1] at h
        cases h
      | true =>
        rw [ah_same (u1.trans u2.symm), decide_eq_true_eq] at h
        rw [up_iff] at u1
        have a1 : 0 ≤ (-p.1) * q.2 := Int.mul_nonneg (by omega) (by omega)
        have a2 : 0 ≤ p.2 * q.1 := Int.mul_nonneg (by omega) (by omega)
        simp only [crP] at h
        grind
    | false =>
      have z2 : ¬ (0 < q.1 ∨ (q.1 = 0 ∧ q.2 < 0)) := fun z => by
        have := (up_turn q).mpr z
        rw [t2] at this
        cases this
      rw [ah_same (t1.trans t2.symm), cr_turn, decide_eq_true_eq]
      by_cases e : upP p = upP q
      · rw [ah_same e, decide_eq_true_eq] at h
        exact h
      · rw [ah_diff e] at h
        have u2 : upP q = false := by
          cases z : upP q with
          | false => rfl
          | true => exact absurd (h.trans z.symm) e
        rw [up_iff] at h
        have u2' : ¬ (0 < q.2 ∨ (q.2 = 0 ∧ 0 < q.1)) := fun z => by
          have := up_iff.mpr z
          rw [u2] at this
          cases this
        have a1 : 0 ≤ (-p.1) * (-q.2) := Int.mul_nonneg (by omega) (by omega)
        have a2 : 0 < p.2 * (-q.1) := Int.mul_pos (by omega) (by omega)
        simp only [crP]
        grind
/-- what is turned stands as it was, but for where it begins -/
theorem turn_round {A : List (Int × Int)} (hd : ∀ a ∈ A, PlnP a) (ha : A.Pairwise (fun a b => ahP a b = true)) :
    ∃ k, k ≤ A.length ∧ roundP (A.map turnP) = (A.map turnP).drop k ++ (A.map turnP).take k := by
  let B := A.filter fun a => !q4 a
  let C := A.filter fun a => q4 a
  have hB : ∀ a ∈ B, a ∈ A ∧ q4 a = false := fun a h => by
    obtain ⟨h1, h2⟩ := List.mem_filter.mp h
    exact ⟨h1, by simpa using h2⟩
  have hC : ∀ a ∈ C, a ∈ A ∧ q4 a = true := fun a h => by
    obtain ⟨h1, h2⟩ := List.mem_filter.mp h
    exact ⟨h1, h2⟩
  have memBC : ∀ x, x ∈ A ↔ x ∈ B ++ C := fun x => by
    rw [List.mem_append, List.mem_filter, List.mem_filter]
    cases q4 x <;> simp
  have pB := ha.filter fun a => !q4 a
  have pC := ha.filter fun a => q4 a
  have eA : A = B ++ C := by
    refine asc_unique (R := ahP) (Dm := PlnP) (fun a b _ _ => ah_asym a b) hd (fun a h => hd a ((memBC a).mpr h)) ha (List.pairwise_append.mpr ⟨pB, pC, fun a h b h' => ?_⟩) memBC
    exact q4_last (hd a (hB a h).1) (hB a h).2 (hC b h').2
  refine ⟨B.length, by rw [eA]; simp, ?_⟩
  have e1 : (A.map turnP).drop B.length ++ (A.map turnP).take B.length = C.map turnP ++ B.map turnP := by
    have : (B ++ C).map turnP = B.map turnP ++ C.map turnP := List.map_append ..
    rw [eA, this, List.drop_left' (by simp), List.take_left' (by simp)]
  rw [e1]
  have dT : ∀ p ∈ A.map turnP, PlnP p := fun p hp => by
    obtain ⟨a, h, rfl⟩ := List.mem_map.mp hp
    exact pln_turn (hd a h)
  refine round_unique (fun p hp => pln_nz (dT p hp)) (fun p hp => ?_) (List.pairwise_append.mpr ⟨?_, ?_, fun x hx y hy => ?_⟩) fun x => ?_
  · rw [List.mem_append, List.mem_map, List.mem_map] at hp
    rcases hp with ⟨a, h, rfl⟩ | ⟨a, h, rfl⟩
    · exact pln_turn (hd a (hC a h).1)
    · exact pln_turn (hd a (hB a h).1)
  · rw [List.pairwise_map]
    exact pC.imp_of_mem fun {a b} h1 h2 h => turn_44 (hC a h1).2 (hC b h2).2 h
  · rw [List.pairwise_map]
    exact pB.imp_of_mem fun {a b} h1 h2 h => turn_00 (hd a (hB a h1).1) (hd b (hB b h2).1) (hB a h1).2 (hB b h2).2 h
  · obtain ⟨a, h, rfl⟩ := List.mem_map.mp hx
    obtain ⟨b, h', rfl⟩ := List.mem_map.mp hy
    exact turn_40 (hC a h).2 (hd b (hB b h').1) (hB b h').2
  · have e2 : (A.map turnP).map plnOf = A.map turnP := by
      conv => rhs; rw [← List.map_id (A.map turnP)]
      exact List.map_congr_left fun p hp => plnOf_pln (dT p hp)
    rw [e2]
    conv => rhs; rw [eA, List.map_append]
    rw [List.mem_append, List.mem_append]
    exact Or.comm
end Mp
namespace K_whole
open PySem PySem.Spec PyProof.Rows L2 Mp
abbrev P : Program := PySem.Challenge.pw_allislands_k03_whole_directions_in_order
def top (i : Nat) : Stmt := PySem.Challenge.pw_allislands_k03_whole_directions_in_order.main.body.getD i (.Pass ⟨0, 0, 0, 0⟩)
def tryHs (st : Stmt) : List ExceptHandler := match defBody st with | .Try _ hs _ _ _ :: _ => hs | _ => []
def sb : Str → Str → Option Bool := sameE ["BadPlace", "BadIsland", "BadDirection", "BadParameter", "NoRow", "TooGreat"]
def k_BadPlace : CatD := ⟨"BadPlace", some "value", [("IslandError", true), ("BadIsland", false)]⟩
def k_BadIsland : CatD := ⟨"BadIsland", some "value", [("IslandError", true), ("BadPlace", false)]⟩
def k_BadDirection : CatD := ⟨"BadDirection", some "value", [("IslandError", true), ("BadPlace", false)]⟩
def k_BadParameter : CatD := ⟨"BadParameter", some "value", [("IslandError", true), ("BadPlace", false)]⟩
def k_NoRow : CatD := ⟨"NoRow", none, [("IslandError", true), ("BadPlace", false)]⟩
def k_TooGreat : CatD := ⟨"TooGreat", some "most", [("IslandError", true), ("BadPlace", false)]⟩
abbrev st__law_begin : Stmt := top 31
abbrev st_is_from : Stmt := top 13
abbrev st_is_pair_from : Stmt := top 14
abbrev st_is_direction : Stmt := top 16
abbrev st_need_direction : Stmt := top 18
abbrev st_plain_of : Stmt := top 21
abbrev st_half_of : Stmt := top 22
abbrev st_cross_so : Stmt := top 20
abbrev st_comes_ahead : Stmt := top 23
abbrev st_ordered : Stmt := top 24
abbrev st_in_order : Stmt := top 28
abbrev st_least_direction : Stmt := top 26
abbrev st__law_like : Stmt := top 35
abbrev st__law_heard : Stmt := top 36
abbrev st_turned_left : Stmt := top 27
abbrev st_dot_so : Stmt := top 19
abbrev st_is_place : Stmt := top 15
abbrev st_need_place : Stmt := top 17
abbrev st_dot : Stmt := top 25
abbrev st__law_by_hand : Stmt := top 43
abbrev st__law_divisor : Stmt := top 34
abbrev st__law_plainly : Stmt := top 38
abbrev st__law_half : Stmt := top 39
abbrev st__law_ahead : Stmt := top 40
abbrev st__law_sorted : Stmt := top 41
abbrev st__law_mixed : Stmt := top 30
abbrev st__law_draw : Stmt := top 32
abbrev st__law_toward : Stmt := top 37
abbrev st__law_of : Stmt := top 33
abbrev st__law_right : Stmt := top 42
abbrev st_law : Stmt := top 44
structure Facts (w : World) (K : PySem.W.Frag) (mg : Str → Option Value) (base : Heap) (T : List (Addr × Str)) : Prop where
  fn__law_begin : ∃ f fd, FunD K "_law_begin" "_law_begin" (defArgs st__law_begin) (defBody st__law_begin) (defScope st__law_begin) [] [] f fd ∧ mg "_law_begin" = some (.ref f)
  fn_is_from : ∃ f fd, FunD K "is_from" "is_from" (defArgs st_is_from) (defBody st_is_from) (defScope st_is_from) [] [] f fd ∧ mg "is_from" = some (.ref f)
  fn_is_pair_from : ∃ f fd, FunD K "is_pair_from" "is_pair_from" (defArgs st_is_pair_from) (defBody st_is_pair_from) (defScope st_is_pair_from) [] [] f fd ∧ mg "is_pair_from" = some (.ref f)
  fn_is_direction : ∃ f fd, FunD K "is_direction" "is_direction" (defArgs st_is_direction) (defBody st_is_direction) (defScope st_is_direction) [] [] f fd ∧ mg "is_direction" = some (.ref f)
  fn_need_direction : ∃ f fd, FunD K "need_direction" "need_direction" (defArgs st_need_direction) (defBody st_need_direction) (defScope st_need_direction) [] [] f fd ∧ mg "need_direction" = some (.ref f)
  fn_plain_of : ∃ f fd, FunD K "plain_of" "plain_of" (defArgs st_plain_of) (defBody st_plain_of) (defScope st_plain_of) [] [] f fd ∧ mg "plain_of" = some (.ref f)
  fn_half_of : ∃ f fd, FunD K "half_of" "half_of" (defArgs st_half_of) (defBody st_half_of) (defScope st_half_of) [] [] f fd ∧ mg "half_of" = some (.ref f)
  fn_cross_so : ∃ f fd, FunD K "cross_so" "cross_so" (defArgs st_cross_so) (defBody st_cross_so) (defScope st_cross_so) [] [] f fd ∧ mg "cross_so" = some (.ref f)
  fn_comes_ahead : ∃ f fd, FunD K "comes_ahead" "comes_ahead" (defArgs st_comes_ahead) (defBody st_comes_ahead) (defScope st_comes_ahead) [] [] f fd ∧ mg "comes_ahead" = some (.ref f)
  fn_ordered : ∃ f fd, FunD K "ordered" "ordered" (defArgs st_ordered) (defBody st_ordered) (defScope st_ordered) [] [] f fd ∧ mg "ordered" = some (.ref f)
  fn_in_order : ∃ f fd, FunD K "in_order" "in_order" (defArgs st_in_order) (defBody st_in_order) (defScope st_in_order) [] [] f fd ∧ mg "in_order" = some (.ref f)
  fn_least_direction : ∃ f fd, FunD K "least_direction" "least_direction" (defArgs st_least_direction) (defBody st_least_direction) (defScope st_least_direction) [] [] f fd ∧ mg "least_direction" = some (.ref f)
  fn__law_like : ∃ f fd, FunD K "_law_like" "_law_like" (defArgs st__law_like) (defBody st__law_like) (defScope st__law_like) [] [] f fd ∧ mg "_law_like" = some (.ref f)
  fn_turned_left : ∃ f fd, FunD K "turned_left" "turned_left" (defArgs st_turned_left) (defBody st_turned_left) (defScope st_turned_left) [] [] f fd ∧ mg "turned_left" = some (.ref f)
  fn_dot_so : ∃ f fd, FunD K "dot_so" "dot_so" (defArgs st_dot_so) (defBody st_dot_so) (defScope st_dot_so) [] [] f fd ∧ mg "dot_so" = some (.ref f)
  fn_is_place : ∃ f fd, FunD K "is_place" "is_place" (defArgs st_is_place) (defBody st_is_place) (defScope st_is_place) [] [] f fd ∧ mg "is_place" = some (.ref f)
  fn_need_place : ∃ f fd, FunD K "need_place" "need_place" (defArgs st_need_place) (defBody st_need_place) (defScope st_need_place) [] [] f fd ∧ mg "need_place" = some (.ref f)
  fn_dot : ∃ f fd, FunD K "dot" "dot" (defArgs st_dot) (defBody st_dot) (defScope st_dot) [] [] f fd ∧ mg "dot" = some (.ref f)
  fn__law_by_hand : ∃ f fd c Pt, FunD K "_law_by_hand" "_law_by_hand" (defArgs st__law_by_hand) (defBody st__law_by_hand) (defScope st__law_by_hand) [] [] f fd ∧ mg "_law_by_hand" = some (.ref f) ∧ fd.code = .ref c ∧ LamX.TabB base mg c Pt ∧ (Pt, ("_law_by_hand" : Str) ++ ".<locals>." ++ "<lambda>") ∈ T ∧ ∀ p ∈ T, p.1 = Pt → p.2 = ("_law_by_hand" : Str) ++ ".<locals>." ++ "<lambda>"
  fn__law_divisor : ∃ f fd, FunD K "_law_divisor" "_law_divisor" (defArgs st__law_divisor) (defBody st__law_divisor) (defScope st__law_divisor) [] [] f fd ∧ mg "_law_divisor" = some (.ref f)
  fn__law_plainly : ∃ f fd, FunD K "_law_plainly" "_law_plainly" (defArgs st__law_plainly) (defBody st__law_plainly) (defScope st__law_plainly) [] [] f fd ∧ mg "_law_plainly" = some (.ref f)
  fn__law_half : ∃ f fd, FunD K "_law_half" "_law_half" (defArgs st__law_half) (defBody st__law_half) (defScope st__law_half) [] [] f fd ∧ mg "_law_half" = some (.ref f)
  fn__law_ahead : ∃ f fd, FunD K "_law_ahead" "_law_ahead" (defArgs st__law_ahead) (defBody st__law_ahead) (defScope st__law_ahead) [] [] f fd ∧ mg "_law_ahead" = some (.ref f)
  fn__law_sorted : ∃ f fd, FunD K "_law_sorted" "_law_sorted" (defArgs st__law_sorted) (defBody st__law_sorted) (defScope st__law_sorted) [] [] f fd ∧ mg "_law_sorted" = some (.ref f)
  fn__law_mixed : ∃ f fd, FunD K "_law_mixed" "_law_mixed" (defArgs st__law_mixed) (defBody st__law_mixed) (defScope st__law_mixed) [] [] f fd ∧ mg "_law_mixed" = some (.ref f)
  fn__law_draw : ∃ f fd, FunD K "_law_draw" "_law_draw" (defArgs st__law_draw) (defBody st__law_draw) (defScope st__law_draw) [] [] f fd ∧ mg "_law_draw" = some (.ref f)
  fn__law_toward : ∃ f fd, FunD K "_law_toward" "_law_toward" (defArgs st__law_toward) (defBody st__law_toward) (defScope st__law_toward) [] [] f fd ∧ mg "_law_toward" = some (.ref f)
  fn__law_of : ∃ f fd, FunD K "_law_of" "_law_of" (defArgs st__law_of) (defBody st__law_of) (defScope st__law_of) [] [] f fd ∧ mg "_law_of" = some (.ref f)
  fn__law_right : ∃ f fd, FunD K "_law_right" "_law_right" (defArgs st__law_right) (defBody st__law_right) (defScope st__law_right) [] [] f fd ∧ mg "_law_right" = some (.ref f)
  fn_law : ∃ f fd, FunD K "law" "law" (defArgs st_law) (defBody st_law) (defScope st_law) [] [] f fd ∧ mg "law" = some (.ref f)
  fn__law_heard : ∃ f fd, FunD K "_law_heard" "_law_heard" (defArgs st__law_heard) (defBody st__law_heard) (defScope st__law_heard) [] [] f fd ∧ mg "_law_heard" = some (.ref f)
  i_MOST_PLACE : ∃ t, mg "MOST_PLACE" = some (.int 1000000000 t)
  i_MOST_DIRECTION : ∃ t, mg "MOST_DIRECTION" = some (.int 1000000 t)
  i_MOST_DIRECTIONS : ∃ t, mg "MOST_DIRECTIONS" = some (.int 60 t)
  z_bool : mg "bool" = none
  z_int : mg "int" = none
  z_isinstance : mg "isinstance" = none
  z_len : mg "len" = none
  z_list : mg "list" = none
  z_max : mg "max" = none
  z_range : mg "range" = none
  z_repr : mg "repr" = none
  z_sorted : mg "sorted" = none
  z_tuple : mg "tuple" = none
  b_gcd : mg "gcd" = some (.builtin "math.gcd")
  r_BadPlace : RaiseOk P w K mg base "BadPlace" "value"
  r_BadDirection : RaiseOk P w K mg base "BadDirection" "value"
  r_BadParameter : RaiseOk P w K mg base "BadParameter" "value"
  x_BadPlace : CatOk K mg k_BadPlace
  x_BadIsland : CatOk K mg k_BadIsland
  x_BadDirection : CatOk K mg k_BadDirection
  x_BadParameter : CatOk K mg k_BadParameter
  x_NoRow : CatOk K mg k_NoRow
  x_TooGreat : CatOk K mg k_TooGreat
  sub : SubOk K mg sb
section
variable {w : World} {K : PySem.W.Frag} {mg : Str → Option Value} {base : Heap} {T : List (Addr × Str)}
abbrev N__law_begin : List Str := ["_law_script", "_law_cells_so", "_law_cell"]
abbrev p__law_begin : List Str := ["_law_script"]
theorem sc__law_begin : FnScope N__law_begin p__law_begin (defScope st__law_begin) := ⟨rfl, rfl, rfl, by decide +kernel, rfl, by decide +kernel, by decide +kernel⟩
noncomputable def b__law_begin : Fs := (seqS (setS 1 (ifF (cmpB (dC neD) (varF 0) (lstF nilA)) (blF listD (consA (varF 0) nilA)) (lstF (consA (cF (.int 0)) nilA))))
  (retS (dispF ["cells", "lefts", "at"] (consA (varF 1) (consA (thawF (lcF (seqI (varF 1)) (nameG 2) [2] yesB (ifF (cmpB (dC geD) (varF 2) (op2F powD (cF (.int 10)) (cF (.int 18)))) (varF 2) (cF (.int 0))))) (consA (cF (.int 0)) nilA))))))
noncomputable def f__law_begin : List U → Mem → Res U := fnS 3 b__law_begin
theorem ok__law_begin (G : Facts w K mg base T) : DefOk T false P w K mg base 1 "_law_begin" p__law_begin f__law_begin := by
  obtain ⟨f, fd, F, hm⟩ := G.fn__law_begin
  refine ⟨f, fd, hm, F.kp, F.bindsN fun _ _ _ _ _ _ us hl => match us, hl with | [_], _ => rfl, FnD.of (N := N__law_begin) (g := b__law_begin) F sc__law_begin fun cdv hcdv A outer s H E hr hgd => ?_⟩
  unfold b__law_begin
  exact (dss_cons (ds_set (i := 1) sc__law_begin.nd rfl (by first | exact .inl rfl | exact .inr rfl) (de_if (dt_cmp (cmp_ne (room64 hr)) (de_var (i := 0) rfl (by first | exact .inl rfl | exact .inr (.inl rfl) | exact .inr (.inr rfl))) (de_lst da_nil)) (de_list rfl G.z_list (da_cons (de_var (i := 0) rfl (by first | exact .inl rfl | exact .inr (.inl rfl) | exact .inr (.inr rfl))) da_nil)) (de_lst (da_cons de_int da_nil))))
  (dss_one (ds_ret (de_disp (dp_cons (de_var (i := 1) rfl (by first | exact .inl rfl | exact .inr (.inl rfl) | exact .inr (.inr rfl))) (dp_cons (de_thaw (df_lc (own := [("_law_cell", 2)]) rfl sc__law_begin.nd (di_seq (de_var (i := 1) rfl (by first | exact .inl rfl | exact .inr (.inl rfl) | exact .inr (.inr rfl)))) (blkOk_by (own := [("_law_cell", 2)]) (N := N__law_begin) (sc := defScope st__law_begin) (by decide +kernel)) (fun _ _ _ _ _ => (dg_name (i := 2) sc__law_begin.nd rfl (by first | exact .inl rfl | exact .inr rfl))) (fun _ _ _ _ _ => dts_nil) (fun _ _ _ _ _ => (de_if (dt_cmp (cmp_ge (room64 hr)) (de_var (i := 2) rfl (by first | exact .inl rfl | exact .inr (.inl rfl) | exact .inr (.inr rfl))) (de_pow de_int de_int)) (de_var (i := 2) rfl (by first | exact .inl rfl | exact .inr (.inl rfl) | exact .inr (.inr rfl))) de_int)) (by decide))) (dp_cons de_int dp_nil))) (by rfl) (by simp) (by decide) (by decide +kernel)))))
abbrev N_is_from : List Str := ["value", "low", "high"]
abbrev p_is_from : List Str := ["value", "low", "high"]
theorem sc_is_from : FnScope N_is_from p_is_from (defScope st_is_from) := ⟨rfl, rfl, rfl, by decide +kernel, rfl, by decide +kernel, by decide +kernel⟩
noncomputable def b_is_from : Fs := (retS (andF (isF .int (varF 0)) (andF (notF (isF .bool (varF 0))) (valF (chainB (dC leD) (dC leD) (varF 1) (varF 0) (varF 2))))))
noncomputable def f_is_from : List U → Mem → Res U := fnS 3 b_is_from
theorem ok_is_from (G : Facts w K mg base T) : DefOk T false P w K mg base 1 "is_from" p_is_from f_is_from := by
  obtain ⟨f, fd, F, hm⟩ := G.fn_is_from
  refine ⟨f, fd, hm, F.kp, F.bindsN fun _ _ _ _ _ _ us hl => match us, hl with | [_, _, _], _ => rfl, FnD.of (N := N_is_from) (g := b_is_from) F sc_is_from fun cdv hcdv A outer s H E hr hgd => ?_⟩
  unfold b_is_from
  exact (dss_one (ds_ret (de_and (de_isi .int (de_var (i := 0) rfl (by first | exact .inl rfl | exact .inr (.inl rfl) | exact .inr (.inr rfl))) rfl G.z_isinstance rfl G.z_int (by decide +kernel)) (de_and (de_not (de_isi .bool (de_var (i := 0) rfl (by first | exact .inl rfl | exact .inr (.inl rfl) | exact .inr (.inr rfl))) rfl G.z_isinstance rfl G.z_bool (by decide +kernel))) (de_one (de_chain (cmp_le (room64 hr)) (cmp_le (room64 hr)) (de_var (i := 1) rfl (by first | exact .inl rfl | exact .inr (.inl rfl) | exact .inr (.inr rfl))) (de_var (i := 0) rfl (by first | exact .inl rfl | exact .inr (.inl rfl) | exact .inr (.inr rfl))) (de_var (i := 2) rfl (by first | exact .inl rfl | exact .inr (.inl rfl) | exact .inr (.inr rfl)))))))))
abbrev N_is_pair_from : List Str := ["value", "most"]
abbrev p_is_pair_from : List Str := ["value", "most"]
theorem sc_is_pair_from : FnScope N_is_pair_from p_is_pair_from (defScope st_is_pair_from) := ⟨rfl, rfl, rfl, by decide +kernel, rfl, by decide +kernel, by decide +kernel⟩
noncomputable def b_is_pair_from : Fs := (seqS (ifS (orB (notB (truB (isF .tuple (varF 0)))) (cmpB (dC neD) (blF lenD (consA (varF 0) nilA)) (cF (.int 2)))) (retS (cF (.bl false))) skipS)
  (retS (andF (callF f_is_from (consA (ixF (varF 0) (cF (.int 0))) (consA (op1F negD (varF 1)) (consA (varF 1) nilA)))) (callF f_is_from (consA (ixF (varF 0) (cF (.int 1))) (consA (op1F negD (varF 1)) (consA (varF 1) nilA)))))))
noncomputable def f_is_pair_from : List U → Mem → Res U := fnS 2 b_is_pair_from
theorem ok_is_pair_from (G : Facts w K mg base T) : DefOk T false P w K mg base 2 "is_pair_from" p_is_pair_from f_is_pair_from := by
  obtain ⟨f, fd, F, hm⟩ := G.fn_is_pair_from
  refine ⟨f, fd, hm, F.kp, F.bindsN fun _ _ _ _ _ _ us hl => match us, hl with | [_, _], _ => rfl, FnD.of (N := N_is_pair_from) (g := b_is_pair_from) F sc_is_pair_from fun cdv hcdv A outer s H E hr hgd => ?_⟩
  unfold b_is_pair_from
  exact (dss_cons (ds_if (DW.dt (dw_or (dt_not (dt_val (de_isi .tuple (de_var (i := 0) rfl (by first | exact .inl rfl | exact .inr (.inl rfl) | exact .inr (.inr rfl))) rfl G.z_isinstance rfl G.z_tuple (by decide +kernel)))) (dw_or1 (dt_cmp (cmp_ne (room64 hr)) (de_len rfl G.z_len (da_cons (de_var (i := 0) rfl (by first | exact .inl rfl | exact .inr (.inl rfl) | exact .inr (.inr rfl))) da_nil)) de_int)))) (dss_one (ds_ret de_bl)) dss_nil)
  (dss_one (ds_ret (de_and (de_callD (ok_is_from G) (hr.mono (by decide)) (fun h => nomatch h) (takes_of rfl rfl rfl rfl) rfl (da_cons (de_ix (room1 hr) (de_var (i := 0) rfl (by first | exact .inl rfl | exact .inr (.inl rfl) | exact .inr (.inr rfl))) de_int) (da_cons (de_neg (de_var (i := 1) rfl (by first | exact .inl rfl | exact .inr (.inl rfl) | exact .inr (.inr rfl)))) (da_cons (de_var (i := 1) rfl (by first | exact .inl rfl | exact .inr (.inl rfl) | exact .inr (.inr rfl))) da_nil)))) (de_one (de_callD (ok_is_from G) (hr.mono (by decide)) (fun h => nomatch h) (takes_of rfl rfl rfl rfl) rfl (da_cons (de_ix (room1 hr) (de_var (i := 0) rfl (by first | exact .inl rfl | exact .inr (.inl rfl) | exact .inr (.inr rfl))) de_int) (da_cons (de_neg (de_var (i := 1) rfl (by first | exact .inl rfl | exact .inr (.inl rfl) | exact .inr (.inr rfl)))) (da_cons (de_var (i := 1) rfl (by first | exact .inl rfl | exact .inr (.inl rfl) | exact .inr (.inr rfl))) da_nil)))))))))
abbrev N_is_direction : List Str := ["value"]
abbrev p_is_direction : List Str := ["value"]
theorem sc_is_direction : FnScope N_is_direction p_is_direction (defScope st_is_direction) := ⟨rfl, rfl, rfl, by decide +kernel, rfl, by decide +kernel, by decide +kernel⟩
noncomputable def b_is_direction : Fs := (retS (andF (callF f_is_pair_from (consA (varF 0) (consA (cF (.int 1000000)) nilA))) (valF (cmpB (dC neD) (varF 0) (tupF (consA (cF (.int 0)) (consA (cF (.int 0)) nilA)))))))
noncomputable def f_is_direction : List U → Mem → Res U := fnS 1 b_is_direction
theorem ok_is_direction (G : Facts w K mg base T) : DefOk T false P w K mg base 3 "is_direction" p_is_direction f_is_direction := by
  obtain ⟨f, fd, F, hm⟩ := G.fn_is_direction
  refine ⟨f, fd, hm, F.kp, F.bindsN fun _ _ _ _ _ _ us hl => match us, hl with | [_], _ => rfl, FnD.of (N := N_is_direction) (g := b_is_direction) F sc_is_direction fun cdv hcdv A outer s H E hr hgd => ?_⟩
  unfold b_is_direction
  exact (dss_one (ds_ret (de_and (de_callD (ok_is_pair_from G) (hr.mono (by decide)) (fun h => nomatch h) (takes_of rfl rfl rfl rfl) rfl (da_cons (de_var (i := 0) rfl (by first | exact .inl rfl | exact .inr (.inl rfl) | exact .inr (.inr rfl))) (da_cons (de_gintE G.i_MOST_DIRECTION rfl) da_nil))) (de_one (de_cmp (cmp_ne (room64 hr)) (de_var (i := 0) rfl (by first | exact .inl rfl | exact .inr (.inl rfl) | exact .inr (.inr rfl))) (de_tup (da_cons de_int (da_cons de_int da_nil))))))))
abbrev N_need_direction : List Str := ["value"]
abbrev p_need_direction : List Str := ["value"]
theorem sc_need_direction : FnScope N_need_direction p_need_direction (defScope st_need_direction) := ⟨rfl, rfl, rfl, by decide +kernel, rfl, by decide +kernel, by decide +kernel⟩
noncomputable def b_need_direction : Fs := (seqS (ifS (notB (truB (callF f_is_direction (consA (varF 0) nilA)))) (raiseS "BadDirection" "value" (consA (varF 0) nilA)) skipS)
  (retS (varF 0)))
noncomputable def f_need_direction : List U → Mem → Res U := fnS 1 b_need_direction
theorem ok_need_direction (G : Facts w K mg base T) : DefOk T false P w K mg base 4 "need_direction" p_need_direction f_need_direction := by
  obtain ⟨f, fd, F, hm⟩ := G.fn_need_direction
  refine ⟨f, fd, hm, F.kp, F.bindsN fun _ _ _ _ _ _ us hl => match us, hl with | [_], _ => rfl, FnD.of (N := N_need_direction) (g := b_need_direction) F sc_need_direction fun cdv hcdv A outer s H E hr hgd => ?_⟩
  unfold b_need_direction
  exact (dss_cons (ds_if (dt_not (dt_val (de_callD (ok_is_direction G) (hr.mono (by decide)) (fun h => nomatch h) (takes_of rfl rfl rfl rfl) rfl (da_cons (de_var (i := 0) rfl (by first | exact .inl rfl | exact .inr (.inl rfl) | exact .inr (.inr rfl))) da_nil)))) (dss_one (ds_raiseR G.r_BadDirection rfl (takes_of rfl rfl rfl rfl) (hr.mono (by decide)) rfl (da_cons (de_var (i := 0) rfl (by first | exact .inl rfl | exact .inr (.inl rfl) | exact .inr (.inr rfl))) da_nil))) dss_nil)
  (dss_one (ds_ret (de_var (i := 0) rfl (by first | exact .inl rfl | exact .inr (.inl rfl) | exact .inr (.inr rfl))))))
abbrev N_plain_of : List Str := ["direction", "whole"]
abbrev p_plain_of : List Str := ["direction"]
theorem sc_plain_of : FnScope N_plain_of p_plain_of (defScope st_plain_of) := ⟨rfl, rfl, rfl, by decide +kernel, rfl, by decide +kernel, by decide +kernel⟩
noncomputable def b_plain_of : Fs := (seqS (setS 1 (blF gcdD (consA (ixF (varF 0) (cF (.int 0))) (consA (ixF (varF 0) (cF (.int 1))) nilA))))
  (retS (tupF (consA (op2F fdivD (ixF (varF 0) (cF (.int 0))) (varF 1)) (consA (op2F fdivD (ixF (varF 0) (cF (.int 1))) (varF 1)) nilA)))))
noncomputable def f_plain_of : List U → Mem → Res U := fnS 2 b_plain_of
theorem ok_plain_of (G : Facts w K mg base T) : DefOk T false P w K mg base 1 "plain_of" p_plain_of f_plain_of := by
  obtain ⟨f, fd, F, hm⟩ := G.fn_plain_of
  refine ⟨f, fd, hm, F.kp, F.bindsN fun _ _ _ _ _ _ us hl => match us, hl with | [_], _ => rfl, FnD.of (N := N_plain_of) (g := b_plain_of) F sc_plain_of fun cdv hcdv A outer s H E hr hgd => ?_⟩
  unfold b_plain_of
  exact (dss_cons (ds_set (i := 1) sc_plain_of.nd rfl (by first | exact .inl rfl | exact .inr rfl) (de_gcd rfl G.b_gcd (da_cons (de_ix (room1 hr) (de_var (i := 0) rfl (by first | exact .inl rfl | exact .inr (.inl rfl) | exact .inr (.inr rfl))) de_int) (da_cons (de_ix (room1 hr) (de_var (i := 0) rfl (by first | exact .inl rfl | exact .inr (.inl rfl) | exact .inr (.inr rfl))) de_int) da_nil))))
  (dss_one (ds_ret (de_tup (da_cons (de_fdiv (de_ix (room1 hr) (de_var (i := 0) rfl (by first | exact .inl rfl | exact .inr (.inl rfl) | exact .inr (.inr rfl))) de_int) (de_var (i := 1) rfl (by first | exact .inl rfl | exact .inr (.inl rfl) | exact .inr (.inr rfl)))) (da_cons (de_fdiv (de_ix (room1 hr) (de_var (i := 0) rfl (by first | exact .inl rfl | exact .inr (.inl rfl) | exact .inr (.inr rfl))) de_int) (de_var (i := 1) rfl (by first | exact .inl rfl | exact .inr (.inl rfl) | exact .inr (.inr rfl)))) da_nil))))))
abbrev N_half_of : List Str := ["direction"]
abbrev p_half_of : List Str := ["direction"]
theorem sc_half_of : FnScope N_half_of p_half_of (defScope st_half_of) := ⟨rfl, rfl, rfl, by decide +kernel, rfl, by decide +kernel, by decide +kernel⟩
noncomputable def b_half_of : Fs := (retS (ifF (orB (cmpB (dC gtD) (ixF (varF 0) (cF (.int 1))) (cF (.int 0))) (andB (cmpB (dC eqD) (ixF (varF 0) (cF (.int 1))) (cF (.int 0))) (cmpB (dC gtD) (ixF (varF 0) (cF (.int 0))) (cF (.int 0))))) (cF (.int 0)) (cF (.int 1))))
noncomputable def f_half_of : List U → Mem → Res U := fnS 1 b_half_of
theorem ok_half_of (G : Facts w K mg base T) : DefOk T false P w K mg base 1 "half_of" p_half_of f_half_of := by
  obtain ⟨f, fd, F, hm⟩ := G.fn_half_of
  refine ⟨f, fd, hm, F.kp, F.bindsN fun _ _ _ _ _ _ us hl => match us, hl with | [_], _ => rfl, FnD.of (N := N_half_of) (g := b_half_of) F sc_half_of fun cdv hcdv A outer s H E hr hgd => ?_⟩
  unfold b_half_of
  exact (dss_one (ds_ret (de_if (DW.dt (dw_or (dt_cmp (cmp_gt (room64 hr)) (de_ix (room1 hr) (de_var (i := 0) rfl (by first | exact .inl rfl | exact .inr (.inl rfl) | exact .inr (.inr rfl))) de_int) de_int) (dw_or1 (DW.dt (dw_and (dt_cmp (cmp_eq (room64 hr)) (de_ix (room1 hr) (de_var (i := 0) rfl (by first | exact .inl rfl | exact .inr (.inl rfl) | exact .inr (.inr rfl))) de_int) de_int) (dw_and1 (dt_cmp (cmp_gt (room64 hr)) (de_ix (room1 hr) (de_var (i := 0) rfl (by first | exact .inl rfl | exact .inr (.inl rfl) | exact .inr (.inr rfl))) de_int) de_int))))))) de_int de_int)))
abbrev N_cross_so : List Str := ["one", "other"]
abbrev p_cross_so : List Str := ["one", "other"]
theorem sc_cross_so : FnScope N_cross_so p_cross_so (defScope st_cross_so) := ⟨rfl, rfl, rfl, by decide +kernel, rfl, by decide +kernel, by decide +kernel⟩
noncomputable def b_cross_so : Fs := (retS (op2F subD (op2F mulD (ixF (varF 0) (cF (.int 0))) (ixF (varF 1) (cF (.int 1)))) (op2F mulD (ixF (varF 0) (cF (.int 1))) (ixF (varF 1) (cF (.int 0))))))
noncomputable def f_cross_so : List U → Mem → Res U := fnS 2 b_cross_so
theorem ok_cross_so (G : Facts w K mg base T) : DefOk T false P w K mg base 1 "cross_so" p_cross_so f_cross_so := by
  obtain ⟨f, fd, F, hm⟩ := G.fn_cross_so
  refine ⟨f, fd, hm, F.kp, F.bindsN fun _ _ _ _ _ _ us hl => match us, hl with | [_, _], _ => rfl, FnD.of (N := N_cross_so) (g := b_cross_so) F sc_cross_so fun cdv hcdv A outer s H E hr hgd => ?_⟩
  unfold b_cross_so
  exact (dss_one (ds_ret (de_sub (de_mul (de_ix (room1 hr) (de_var (i := 0) rfl (by first | exact .inl rfl | exact .inr (.inl rfl) | exact .inr (.inr rfl))) de_int) (de_ix (room1 hr) (de_var (i := 1) rfl (by first | exact .inl rfl | exact .inr (.inl rfl) | exact .inr (.inr rfl))) de_int)) (de_mul (de_ix (room1 hr) (de_var (i := 0) rfl (by first | exact .inl rfl | exact .inr (.inl rfl) | exact .inr (.inr rfl))) de_int) (de_ix (room1 hr) (de_var (i := 1) rfl (by first | exact .inl rfl | exact .inr (.inl rfl) | exact .inr (.inr rfl))) de_int)))))
abbrev N_comes_ahead : List Str := ["one", "other"]
abbrev p_comes_ahead : List Str := ["one", "other"]
theorem sc_comes_ahead : FnScope N_comes_ahead p_comes_ahead (defScope st_comes_ahead) := ⟨rfl, rfl, rfl, by decide +kernel, rfl, by decide +kernel, by decide +kernel⟩
noncomputable def b_comes_ahead : Fs := (seqS (ifS (cmpB (dC neD) (callF f_half_of (consA (varF 0) nilA)) (callF f_half_of (consA (varF 1) nilA))) (retS (valF (cmpB (dC ltD) (callF f_half_of (consA (varF 0) nilA)) (callF f_half_of (consA (varF 1) nilA))))) skipS)
  (retS (valF (cmpB (dC gtD) (callF f_cross_so (consA (varF 0) (consA (varF 1) nilA))) (cF (.int 0))))))
noncomputable def f_comes_ahead : List U → Mem → Res U := fnS 2 b_comes_ahead
theorem ok_comes_ahead (G : Facts w K mg base T) : DefOk T false P w K mg base 2 "comes_ahead" p_comes_ahead f_comes_ahead := by
  obtain ⟨f, fd, F, hm⟩ := G.fn_comes_ahead
  refine ⟨f, fd, hm, F.kp, F.bindsN fun _ _ _ _ _ _ us hl => match us, hl with | [_, _], _ => rfl, FnD.of (N := N_comes_ahead) (g := b_comes_ahead) F sc_comes_ahead fun cdv hcdv A outer s H E hr hgd => ?_⟩
  unfold b_comes_ahead
  exact (dss_cons (ds_if (dt_cmp (cmp_ne (room64 hr)) (de_callD (ok_half_of G) (hr.mono (by decide)) (fun h => nomatch h) (takes_of rfl rfl rfl rfl) rfl (da_cons (de_var (i := 0) rfl (by first | exact .inl rfl | exact .inr (.inl rfl) | exact .inr (.inr rfl))) da_nil)) (de_callD (ok_half_of G) (hr.mono (by decide)) (fun h => nomatch h) (takes_of rfl rfl rfl rfl) rfl (da_cons (de_var (i := 1) rfl (by first | exact .inl rfl | exact .inr (.inl rfl) | exact .inr (.inr rfl))) da_nil))) (dss_one (ds_ret (de_cmp (cmp_lt (room64 hr)) (de_callD (ok_half_of G) (hr.mono (by decide)) (fun h => nomatch h) (takes_of rfl rfl rfl rfl) rfl (da_cons (de_var (i := 0) rfl (by first | exact .inl rfl | exact .inr (.inl rfl) | exact .inr (.inr rfl))) da_nil)) (de_callD (ok_half_of G) (hr.mono (by decide)) (fun h => nomatch h) (takes_of rfl rfl rfl rfl) rfl (da_cons (de_var (i := 1) rfl (by first | exact .inl rfl | exact .inr (.inl rfl) | exact .inr (.inr rfl))) da_nil))))) dss_nil)
  (dss_one (ds_ret (de_cmp (cmp_gt (room64 hr)) (de_callD (ok_cross_so G) (hr.mono (by decide)) (fun h => nomatch h) (takes_of rfl rfl rfl rfl) rfl (da_cons (de_var (i := 0) rfl (by first | exact .inl rfl | exact .inr (.inl rfl) | exact .inr (.inr rfl))) (da_cons (de_var (i := 1) rfl (by first | exact .inl rfl | exact .inr (.inl rfl) | exact .inr (.inr rfl))) da_nil))) de_int))))
abbrev N_ordered : List Str := ["directions", "found", "direction", "plain", "other"]
abbrev p_ordered : List Str := ["directions"]
theorem sc_ordered : FnScope N_ordered p_ordered (defScope st_ordered) := ⟨rfl, rfl, rfl, by decide +kernel, rfl, by decide +kernel, by decide +kernel⟩
noncomputable def b_ordered : Fs := (seqS (setS 1 (thawF (lstF nilA)))
  (seqS (forS (seqI (varF 0)) (nameG 2) (seqS (setS 3 (callF f_plain_of (consA (varF 2) nilA)))
  (ifS (cmpB notinA (varF 3) (varF 1)) (exprS (methF insG (varF 1) (consA (blF lenD (consA (lcF (seqI (varF 1)) (nameG 4) [4] (truB (callF f_comes_ahead (consA (varF 4) (consA (varF 3) nilA)))) (cF (.int 1))) nilA)) (consA (varF 3) nilA)))) skipS)))
  (retS (varF 1))))
noncomputable def f_ordered : List U → Mem → Res U := fnS 5 b_ordered
theorem ok_ordered (G : Facts w K mg base T) : DefOk T false P w K mg base 3 "ordered" p_ordered f_ordered := by
  obtain ⟨f, fd, F, hm⟩ := G.fn_ordered
  refine ⟨f, fd, hm, F.kp, F.bindsN fun _ _ _ _ _ _ us hl => match us, hl with | [_], _ => rfl, FnD.of (N := N_ordered) (g := b_ordered) F sc_ordered fun cdv hcdv A outer s H E hr hgd => ?_⟩
  unfold b_ordered
  exact (dss_cons (ds_set (i := 1) sc_ordered.nd rfl (by first | exact .inl rfl | exact .inr rfl) (de_thaw (df_lst da_nil)))
  (dss_cons (ds_for (passes_of rfl) rfl (di_seq (de_var (i := 0) rfl (by first | exact .inl rfl | exact .inr (.inl rfl) | exact .inr (.inr rfl)))) (dg_name (i := 2) sc_ordered.nd rfl (by first | exact .inl rfl | exact .inr rfl)) (dss_cons (ds_set (i := 3) sc_ordered.nd rfl (by first | exact .inl rfl | exact .inr rfl) (de_callD (ok_plain_of G) (hr.mono (by decide)) (fun h => nomatch h) (takes_of rfl rfl rfl rfl) rfl (da_cons (de_var (i := 2) rfl (by first | exact .inl rfl | exact .inr (.inl rfl) | exact .inr (.inr rfl))) da_nil)))
  (dss_one (ds_if (dt_cmp (cmp_notin' (room65 hr)) (de_var (i := 3) rfl (by first | exact .inl rfl | exact .inr (.inl rfl) | exact .inr (.inr rfl))) (de_var (i := 1) rfl (by first | exact .inl rfl | exact .inr (.inl rfl) | exact .inr (.inr rfl)))) (dss_one (ds_expr (de_insert (de_var (i := 1) rfl (by first | exact .inl rfl | exact .inr (.inl rfl) | exact .inr (.inr rfl))) (da_cons (de_len rfl G.z_len (da_cons (DF.de (df_lc (own := [("other", 4)]) rfl sc_ordered.nd (di_seq (de_var (i := 1) rfl (by first | exact .inl rfl | exact .inr (.inl rfl) | exact .inr (.inr rfl)))) (blkOk_by (own := [("other", 4)]) (N := N_ordered) (sc := defScope st_ordered) (by decide +kernel)) (fun _ _ _ _ _ => (dg_name (i := 4) sc_ordered.nd rfl (by first | exact .inl rfl | exact .inr rfl))) (fun _ _ _ _ _ => (dts_one (dt_val (de_callD (ok_comes_ahead G) (hr.mono (by decide)) (fun h => nomatch h) LamX.takes0 rfl (da_cons (de_var (i := 4) rfl (by first | exact .inl rfl | exact .inr (.inl rfl) | exact .inr (.inr rfl))) (da_cons (de_var (i := 3) rfl (by first | exact .inl rfl | exact .inr (.inl rfl) | exact .inr (.inr rfl))) da_nil)))))) (fun _ _ _ _ _ => de_int) (by decide))) da_nil)) (da_cons (de_var (i := 3) rfl (by first | exact .inl rfl | exact .inr (.inl rfl) | exact .inr (.inr rfl))) da_nil))))) dss_nil))))
  (dss_one (ds_ret (de_var (i := 1) rfl (by first | exact .inl rfl | exact .inr (.inl rfl) | exact .inr (.inr rfl)))))))
abbrev N_in_order : List Str := ["directions", "direction"]
abbrev p_in_order : List Str := ["directions"]
theorem sc_in_order : FnScope N_in_order p_in_order (defScope st_in_order) := ⟨rfl, rfl, rfl, by decide +kernel, rfl, by decide +kernel, by decide +kernel⟩
noncomputable def b_in_order : Fs := (seqS (ifS (orB (notB (truB (isF .tuple (varF 0)))) (cmpB (dC gtD) (blF lenD (consA (varF 0) nilA)) (cF (.int 60)))) (raiseS "BadParameter" "value" (consA (varF 0) nilA)) skipS)
  (seqS (forS (seqI (varF 0)) (nameG 1) (exprS (callF f_need_direction (consA (varF 1) nilA))))
  (retS (blF tupD (consA (callF f_ordered (consA (varF 0) nilA)) nilA)))))
noncomputable def f_in_order : List U → Mem → Res U := fnS 2 b_in_order
theorem both_in_order (G : Facts w K mg base T) : DefOk T false P w K mg base 5 "in_order" p_in_order f_in_order ∧ DefKw T false P w K mg base 5 "in_order" p_in_order f_in_order := by
  obtain ⟨f, fd, F, hm⟩ := G.fn_in_order
  have Fn : FnD T false P w K mg base 5 f fd p_in_order f_in_order := FnD.of (N := N_in_order) (g := b_in_order) F sc_in_order fun cdv hcdv A outer s H E hr hgd => by
    unfold b_in_order
    exact (dss_cons (ds_if (DW.dt (dw_or (dt_not (dt_val (de_isi .tuple (de_var (i := 0) rfl (by first | exact .inl rfl | exact .inr (.inl rfl) | exact .inr (.inr rfl))) rfl G.z_isinstance rfl G.z_tuple (by decide +kernel)))) (dw_or1 (dt_cmp (cmp_gt (room64 hr)) (de_len rfl G.z_len (da_cons (de_var (i := 0) rfl (by first | exact .inl rfl | exact .inr (.inl rfl) | exact .inr (.inr rfl))) da_nil)) (de_gintE G.i_MOST_DIRECTIONS rfl))))) (dss_one (ds_raiseR G.r_BadParameter rfl (takes_of rfl rfl rfl rfl) (hr.mono (by decide)) rfl (da_cons (de_var (i := 0) rfl (by first | exact .inl rfl | exact .inr (.inl rfl) | exact .inr (.inr rfl))) da_nil))) dss_nil)
  (dss_cons (ds_for (passes_of rfl) rfl (di_seq (de_var (i := 0) rfl (by first | exact .inl rfl | exact .inr (.inl rfl) | exact .inr (.inr rfl)))) (dg_name (i := 1) sc_in_order.nd rfl (by first | exact .inl rfl | exact .inr rfl)) (dss_one (ds_expr (de_callD (ok_need_direction G) (hr.mono (by decide)) (fun h => nomatch h) (takes_of rfl rfl rfl rfl) rfl (da_cons (de_var (i := 1) rfl (by first | exact .inl rfl | exact .inr (.inl rfl) | exact .inr (.inr rfl))) da_nil)))))
  (dss_one (ds_ret (de_tuple rfl G.z_tuple (da_cons (de_callD (ok_ordered G) (hr.mono (by decide)) (fun h => nomatch h) (takes_of rfl rfl rfl rfl) rfl (da_cons (de_var (i := 0) rfl (by first | exact .inl rfl | exact .inr (.inl rfl) | exact .inr (.inr rfl))) da_nil)) da_nil))))))
  exact ⟨⟨f, fd, hm, F.kp, F.bindsN fun _ _ _ _ _ _ us hl => match us, hl with | [_], _ => rfl, Fn⟩, ⟨f, fd, hm, F.kp, bindsKw F fun _ _ _ _ _ _ us hl => match us, hl with | [_], _ => rfl, Fn⟩⟩
theorem ok_in_order (G : Facts w K mg base T) : DefOk T false P w K mg base 5 "in_order" p_in_order f_in_order := (both_in_order G).1
theorem okw_in_order (G : Facts w K mg base T) : DefKw T false P w K mg base 5 "in_order" p_in_order f_in_order := (both_in_order G).2
abbrev N_least_direction : List Str := ["direction"]
abbrev p_least_direction : List Str := ["direction"]
theorem sc_least_direction : FnScope N_least_direction p_least_direction (defScope st_least_direction) := ⟨rfl, rfl, rfl, by decide +kernel, rfl, by decide +kernel, by decide +kernel⟩
noncomputable def b_least_direction : Fs := (retS (callF f_plain_of (consA (callF f_need_direction (consA (varF 0) nilA)) nilA)))
noncomputable def f_least_direction : List U → Mem → Res U := fnS 1 b_least_direction
theorem both_least_direction (G : Facts w K mg base T) : DefOk T false P w K mg base 5 "least_direction" p_least_direction f_least_direction ∧ DefKw T false P w K mg base 5 "least_direction" p_least_direction f_least_direction := by
  obtain ⟨f, fd, F, hm⟩ := G.fn_least_direction
  have Fn : FnD T false P w K mg base 5 f fd p_least_direction f_least_direction := FnD.of (N := N_least_direction) (g := b_least_direction) F sc_least_direction fun cdv hcdv A outer s H E hr hgd => by
    unfold b_least_direction
    exact (dss_one (ds_ret (de_callD (ok_plain_of G) (hr.mono (by decide)) (fun h => nomatch h) (takes_of rfl rfl rfl rfl) rfl (da_cons (de_callD (ok_need_direction G) (hr.mono (by decide)) (fun h => nomatch h) (takes_of rfl rfl rfl rfl) rfl (da_cons (de_var (i := 0) rfl (by first | exact .inl rfl | exact .inr (.inl rfl) | exact .inr (.inr rfl))) da_nil)) da_nil))))
  exact ⟨⟨f, fd, hm, F.kp, F.bindsN fun _ _ _ _ _ _ us hl => match us, hl with | [_], _ => rfl, Fn⟩, ⟨f, fd, hm, F.kp, bindsKw F fun _ _ _ _ _ _ us hl => match us, hl with | [_], _ => rfl, Fn⟩⟩
theorem ok_least_direction (G : Facts w K mg base T) : DefOk T false P w K mg base 5 "least_direction" p_least_direction f_least_direction := (both_least_direction G).1
theorem okw_least_direction (G : Facts w K mg base T) : DefKw T false P w K mg base 5 "least_direction" p_least_direction f_least_direction := (both_least_direction G).2
abbrev N__law_like : List Str := ["_law_got", "_law_due"]
abbrev p__law_like : List Str := ["_law_got", "_law_due"]
theorem sc__law_like : FnScope N__law_like p__law_like (defScope st__law_like) := ⟨rfl, rfl, rfl, by decide +kernel, rfl, by decide +kernel, by decide +kernel⟩
noncomputable def b__law_like : Fs := (retS (valF (cmpB (dC eqD) (blF reprD (consA (varF 0) nilA)) (blF reprD (consA (varF 1) nilA)))))
noncomputable def f__law_like : List U → Mem → Res U := fnS 2 b__law_like
theorem ok__law_like (G : Facts w K mg base T) : DefOk T true P w K mg base 1 "_law_like" p__law_like f__law_like := by
  obtain ⟨f, fd, F, hm⟩ := G.fn__law_like
  refine ⟨f, fd, hm, F.kp, F.bindsN fun _ _ _ _ _ _ us hl => match us, hl with | [_, _], _ => rfl, FnD.of (N := N__law_like) (g := b__law_like) F sc__law_like fun cdv hcdv A outer s H E hr hgd => ?_⟩
  unfold b__law_like
  exact (dss_one (ds_ret (de_cmp (cmp_eq (room64 hr)) (de_repr (hgd rfl) (room66 hr) rfl G.z_repr (da_cons (de_var (i := 0) rfl (by first | exact .inl rfl | exact .inr (.inl rfl) | exact .inr (.inr rfl))) da_nil)) (de_repr (hgd rfl) (room66 hr) rfl G.z_repr (da_cons (de_var (i := 1) rfl (by first | exact .inl rfl | exact .inr (.inl rfl) | exact .inr (.inr rfl))) da_nil)))))
abbrev N__law_heard : List Str := ["_law_call", "e", "_law_told"]
theorem sc__law_heard : FnScope N__law_heard ["_law_call"] (defScope st__law_heard) := ⟨rfl, rfl, rfl, by decide +kernel, rfl, by decide +kernel, by decide +kernel⟩
def cl__law_heard : List (Str × Str × List HIt) := [("BadPlace", "place", [.fld "value", .isi true, .isi false]), ("BadIsland", "island", [.fld "value", .isi true, .isi false]), ("BadDirection", "direction", [.fld "value", .isi true, .isi false]), ("BadParameter", "parameter", [.fld "value", .isi true, .isi false]), ("TooGreat", "great", [.fld "most", .isi true, .isi false]), ("NoRow", "none", [.isi true, .isi false])]
abbrev N_turned_left : List Str := ["direction"]
abbrev p_turned_left : List Str := ["direction"]
theorem sc_turned_left : FnScope N_turned_left p_turned_left (defScope st_turned_left) := ⟨rfl, rfl, rfl, by decide +kernel, rfl, by decide +kernel, by decide +kernel⟩
noncomputable def b_turned_left : Fs := (seqS (exprS (callF f_need_direction (consA (varF 0) nilA)))
  (retS (tupF (consA (op1F negD (ixF (varF 0) (cF (.int 1)))) (consA (ixF (varF 0) (cF (.int 0))) nilA)))))
noncomputable def f_turned_left : List U → Mem → Res U := fnS 1 b_turned_left
theorem both_turned_left (G : Facts w K mg base T) : DefOk T false P w K mg base 5 "turned_left" p_turned_left f_turned_left ∧ DefKw T false P w K mg base 5 "turned_left" p_turned_left f_turned_left := by
  obtain ⟨f, fd, F, hm⟩ := G.fn_turned_left
  have Fn : FnD T false P w K mg base 5 f fd p_turned_left f_turned_left := FnD.of (N := N_turned_left) (g := b_turned_left) F sc_turned_left fun cdv hcdv A outer s H E hr hgd => by
    unfold b_turned_left
    exact (dss_cons (ds_expr (de_callD (ok_need_direction G) (hr.mono (by decide)) (fun h => nomatch h) (takes_of rfl rfl rfl rfl) rfl (da_cons (de_var (i := 0) rfl (by first | exact .inl rfl | exact .inr (.inl rfl) | exact .inr (.inr rfl))) da_nil)))
  (dss_one (ds_ret (de_tup (da_cons (de_neg (de_ix (room1 hr) (de_var (i := 0) rfl (by first | exact .inl rfl | exact .inr (.inl rfl) | exact .inr (.inr rfl))) de_int)) (da_cons (de_ix (room1 hr) (de_var (i := 0) rfl (by first | exact .inl rfl | exact .inr (.inl rfl) | exact .inr (.inr rfl))) de_int) da_nil))))))
  exact ⟨⟨f, fd, hm, F.kp, F.bindsN fun _ _ _ _ _ _ us hl => match us, hl with | [_], _ => rfl, Fn⟩, ⟨f, fd, hm, F.kp, bindsKw F fun _ _ _ _ _ _ us hl => match us, hl with | [_], _ => rfl, Fn⟩⟩
theorem ok_turned_left (G : Facts w K mg base T) : DefOk T false P w K mg base 5 "turned_left" p_turned_left f_turned_left := (both_turned_left G).1
theorem okw_turned_left (G : Facts w K mg base T) : DefKw T false P w K mg base 5 "turned_left" p_turned_left f_turned_left := (both_turned_left G).2
abbrev N_dot_so : List Str := ["direction", "place"]
abbrev p_dot_so : List Str := ["direction", "place"]
theorem sc_dot_so : FnScope N_dot_so p_dot_so (defScope st_dot_so) := ⟨rfl, rfl, rfl, by decide +kernel, rfl, by decide +kernel, by decide +kernel⟩
noncomputable def b_dot_so : Fs := (retS (op2F addD (op2F mulD (ixF (varF 0) (cF (.int 0))) (ixF (varF 1) (cF (.int 0)))) (op2F mulD (ixF (varF 0) (cF (.int 1))) (ixF (varF 1) (cF (.int 1))))))
noncomputable def f_dot_so : List U → Mem → Res U := fnS 2 b_dot_so
theorem ok_dot_so (G : Facts w K mg base T) : DefOk T false P w K mg base 1 "dot_so" p_dot_so f_dot_so := by
  obtain ⟨f, fd, F, hm⟩ := G.fn_dot_so
  refine ⟨f, fd, hm, F.kp, F.bindsN fun _ _ _ _ _ _ us hl => match us, hl with | [_, _], _ => rfl, FnD.of (N := N_dot_so) (g := b_dot_so) F sc_dot_so fun cdv hcdv A outer s H E hr hgd => ?_⟩
  unfold b_dot_so
  exact (dss_one (ds_ret (de_add (de_mul (de_ix (room1 hr) (de_var (i := 0) rfl (by first | exact .inl rfl | exact .inr (.inl rfl) | exact .inr (.inr rfl))) de_int) (de_ix (room1 hr) (de_var (i := 1) rfl (by first | exact .inl rfl | exact .inr (.inl rfl) | exact .inr (.inr rfl))) de_int)) (de_mul (de_ix (room1 hr) (de_var (i := 0) rfl (by first | exact .inl rfl | exact .inr (.inl rfl) | exact .inr (.inr rfl))) de_int) (de_ix (room1 hr) (de_var (i := 1) rfl (by first | exact .inl rfl | exact .inr (.inl rfl) | exact .inr (.inr rfl))) de_int)))))
abbrev N_is_place : List Str := ["value"]
abbrev p_is_place : List Str := ["value"]
theorem sc_is_place : FnScope N_is_place p_is_place (defScope st_is_place) := ⟨rfl, rfl, rfl, by decide +kernel, rfl, by decide +kernel, by decide +kernel⟩
noncomputable def b_is_place : Fs := (retS (callF f_is_pair_from (consA (varF 0) (consA (cF (.int 1000000000)) nilA))))
noncomputable def f_is_place : List U → Mem → Res U := fnS 1 b_is_place
theorem ok_is_place (G : Facts w K mg base T) : DefOk T false P w K mg base 3 "is_place" p_is_place f_is_place := by
  obtain ⟨f, fd, F, hm⟩ := G.fn_is_place
  refine ⟨f, fd, hm, F.kp, F.bindsN fun _ _ _ _ _ _ us hl => match us, hl with | [_], _ => rfl, FnD.of (N := N_is_place) (g := b_is_place) F sc_is_place fun cdv hcdv A outer s H E hr hgd => ?_⟩
  unfold b_is_place
  exact (dss_one (ds_ret (de_callD (ok_is_pair_from G) (hr.mono (by decide)) (fun h => nomatch h) (takes_of rfl rfl rfl rfl) rfl (da_cons (de_var (i := 0) rfl (by first | exact .inl rfl | exact .inr (.inl rfl) | exact .inr (.inr rfl))) (da_cons (de_gintE G.i_MOST_PLACE rfl) da_nil)))))
abbrev N_need_place : List Str := ["value"]
abbrev p_need_place : List Str := ["value"]
theorem sc_need_place : FnScope N_need_place p_need_place (defScope st_need_place) := ⟨rfl, rfl, rfl, by decide +kernel, rfl, by decide +kernel, by decide +kernel⟩
noncomputable def b_need_place : Fs := (seqS (ifS (notB (truB (callF f_is_place (consA (varF 0) nilA)))) (raiseS "BadPlace" "value" (consA (varF 0) nilA)) skipS)
  (retS (varF 0)))
noncomputable def f_need_place : List U → Mem → Res U := fnS 1 b_need_place
theorem ok_need_place (G : Facts w K mg base T) : DefOk T false P w K mg base 4 "need_place" p_need_place f_need_place := by
  obtain ⟨f, fd, F, hm⟩ := G.fn_need_place
  refine ⟨f, fd, hm, F.kp, F.bindsN fun _ _ _ _ _ _ us hl => match us, hl with | [_], _ => rfl, FnD.of (N := N_need_place) (g := b_need_place) F sc_need_place fun cdv hcdv A outer s H E hr hgd => ?_⟩
  unfold b_need_place
  exact (dss_cons (ds_if (dt_not (dt_val (de_callD (ok_is_place G) (hr.mono (by decide)) (fun h => nomatch h) (takes_of rfl rfl rfl rfl) rfl (da_cons (de_var (i := 0) rfl (by first | exact .inl rfl | exact .inr (.inl rfl) | exact .inr (.inr rfl))) da_nil)))) (dss_one (ds_raiseR G.r_BadPlace rfl (takes_of rfl rfl rfl rfl) (hr.mono (by decide)) rfl (da_cons (de_var (i := 0) rfl (by first | exact .inl rfl | exact .inr (.inl rfl) | exact .inr (.inr rfl))) da_nil))) dss_nil)
  (dss_one (ds_ret (de_var (i := 0) rfl (by first | exact .inl rfl | exact .inr (.inl rfl) | exact .inr (.inr rfl))))))
abbrev N_dot : List Str := ["direction", "place"]
abbrev p_dot : List Str := ["direction", "place"]
theorem sc_dot : FnScope N_dot p_dot (defScope st_dot) := ⟨rfl, rfl, rfl, by decide +kernel, rfl, by decide +kernel, by decide +kernel⟩
noncomputable def b_dot : Fs := (seqS (exprS (callF f_need_direction (consA (varF 0) nilA)))
  (retS (callF f_dot_so (consA (varF 0) (consA (callF f_need_place (consA (varF 1) nilA)) nilA)))))
noncomputable def f_dot : List U → Mem → Res U := fnS 2 b_dot
theorem ok_dot (G : Facts w K mg base T) : DefOk T false P w K mg base 5 "dot" p_dot f_dot := by
  obtain ⟨f, fd, F, hm⟩ := G.fn_dot
  refine ⟨f, fd, hm, F.kp, F.bindsN fun _ _ _ _ _ _ us hl => match us, hl with | [_, _], _ => rfl, FnD.of (N := N_dot) (g := b_dot) F sc_dot fun cdv hcdv A outer s H E hr hgd => ?_⟩
  unfold b_dot
  exact (dss_cons (ds_expr (de_callD (ok_need_direction G) (hr.mono (by decide)) (fun h => nomatch h) (takes_of rfl rfl rfl rfl) rfl (da_cons (de_var (i := 0) rfl (by first | exact .inl rfl | exact .inr (.inl rfl) | exact .inr (.inr rfl))) da_nil)))
  (dss_one (ds_ret (de_callD (ok_dot_so G) (hr.mono (by decide)) (fun h => nomatch h) (takes_of rfl rfl rfl rfl) rfl (da_cons (de_var (i := 0) rfl (by first | exact .inl rfl | exact .inr (.inl rfl) | exact .inr (.inr rfl))) (da_cons (de_callD (ok_need_place G) (hr.mono (by decide)) (fun h => nomatch h) (takes_of rfl rfl rfl rfl) rfl (da_cons (de_var (i := 1) rfl (by first | exact .inl rfl | exact .inr (.inl rfl) | exact .inr (.inr rfl))) da_nil)) da_nil))))))
abbrev N__law_by_hand : List Str := ["_law_top", "_law_got", "_law_lots", "_law_due", "_law_odd", "_law_x"]
abbrev p__law_by_hand : List Str := []
theorem sc__law_by_hand : FnScope N__law_by_hand p__law_by_hand (defScope st__law_by_hand) := ⟨rfl, rfl, rfl, by decide +kernel, rfl, by decide +kernel, by decide +kernel⟩
noncomputable def b__law_by_hand : Fs := (seqS (setS 0 (op2F powD (cF (.int 10)) (cF (.int 6))))
  (seqS (setS 1 (thawF (lstF (consA (callF f_in_order (consA (tupF (consA (tupF (consA (cF (.int 0)) (consA (op1F negD (cF (.int 2))) nilA))) (consA (tupF (consA (cF (.int 3)) (consA (cF (.int 0)) nilA))) (consA (tupF (consA (op1F negD (cF (.int 1))) (consA (cF (.int 1)) nilA))) (consA (tupF (consA (cF (.int 1)) (consA (cF (.int 0)) nilA))) (consA (tupF (consA (cF (.int 1)) (consA (cF (.int 1)) nilA))) nilA)))))) nilA)) (consA (callF f_least_direction (consA (tupF (consA (varF 0) (consA (op1F negD (varF 0)) nilA))) nilA)) nilA)))))
  (seqS (setS 1 (op2F addD (varF 1) (lstF (consA (callF f_turned_left (consA (tupF (consA (cF (.int 1)) (consA (cF (.int 2)) nilA))) nilA)) (consA (callF f_dot (consA (tupF (consA (cF (.int 2)) (consA (cF (.int 3)) nilA))) (consA (tupF (consA (cF (.int 5)) (consA (cF (.int 7)) nilA))) nilA))) (consA (callF f_in_order (consA (tupF nilA) nilA)) nilA))))))
  (seqS (setS 1 (op2F addD (varF 1) (lstF (consA (valF (cmpB (dC eqD) (callF f_in_order (consA (blF tupD (consA (lcF (rng1I (consA (cF (.int 60)) nilA)) (nameG 5) [5] yesB (tupF (consA (cF (.int 1)) (consA (varF 5) nilA)))) nilA)) nilA)) (blF tupD (consA (lcF (rng1I (consA (cF (.int 60)) nilA)) (nameG 5) [5] yesB (tupF (consA (cF (.int 1)) (consA (varF 5) nilA)))) nilA)))) nilA))))
  (seqS (ifS (notB (truB (callF f__law_like (consA (varF 1) (consA (lstF (consA (tupF (consA (tupF (consA (cF (.int 1)) (consA (cF (.int 0)) nilA))) (consA (tupF (consA (cF (.int 1)) (consA (cF (.int 1)) nilA))) (consA (tupF (consA (op1F negD (cF (.int 1))) (consA (cF (.int 1)) nilA))) (consA (tupF (consA (cF (.int 0)) (consA (op1F negD (cF (.int 1))) nilA))) nilA))))) (consA (tupF (consA (cF (.int 1)) (consA (op1F negD (cF (.int 1))) nilA))) (consA (tupF (consA (op1F negD (cF (.int 2))) (consA (cF (.int 1)) nilA))) (consA (cF (.int 31)) (consA (tupF nilA) (consA (cF (.bl true)) nilA))))))) nilA))))) (retS (cF (.bl false))) skipS)
  (seqS (setS 2 (op2F mulD (tupF (consA (tupF (consA (cF (.int 1)) (consA (cF (.int 0)) nilA))) nilA)) (cF (.int 61))))
  (seqS (setS 1 (thawF (lstF (consA (heardF sb "told" cl__law_heard (callF f_in_order (consA (varF 2) nilA))) nilA))))
  (seqS (exprS (methF appG (varF 1) (consA (heardF sb "told" cl__law_heard (callF f_in_order (consA (lstF (consA (tupF (consA (cF (.int 1)) (consA (cF (.int 0)) nilA))) nilA)) nilA))) nilA)))
  (seqS (exprS (methF appG (varF 1) (consA (heardF sb "told" cl__law_heard (callF f_in_order (consA (tupF (consA (tupF (consA (cF (.int 1)) (consA (cF (.int 0)) nilA))) (consA (tupF (consA (cF (.int 0)) (consA (cF (.int 0)) nilA))) (consA (cF .non) nilA)))) nilA))) nilA)))
  (seqS (exprS (methF appG (varF 1) (consA (heardF sb "told" cl__law_heard (callF f_in_order (consA (cF .non) nilA))) nilA)))
  (seqS (setS 3 (lstF (consA (tupF (consA (cF (.str "parameter")) (consA (varF 2) (consA (cF (.bl true)) (consA (cF (.bl false)) nilA))))) (consA (tupF (consA (cF (.str "parameter")) (consA (lstF (consA (tupF (consA (cF (.int 1)) (consA (cF (.int 0)) nilA))) nilA)) (consA (cF (.bl true)) (consA (cF (.bl false)) nilA))))) (consA (tupF (consA (cF (.str "direction")) (consA (tupF (consA (cF (.int 0)) (consA (cF (.int 0)) nilA))) (consA (cF (.bl true)) (consA (cF (.bl false)) nilA))))) nilA)))))
  (seqS (ifS (notB (truB (callF f__law_like (consA (varF 1) (consA (op2F addD (varF 3) (lstF (consA (tupF (consA (cF (.str "parameter")) (consA (cF .non) (consA (cF (.bl true)) (consA (cF (.bl false)) nilA))))) nilA))) nilA))))) (retS (cF (.bl false))) skipS)
  (seqS (forS (seqI (tupF (consA (tupF (consA (cF (.int 0)) (consA (cF (.int 0)) nilA))) (consA (tupF (consA (op2F addD (varF 0) (cF (.int 1))) (consA (cF (.int 1)) nilA))) (consA (tupF (consA (cF (.int 1)) (consA (cF (.bl false)) nilA))) (consA (lstF (consA (cF (.int 1)) (consA (cF (.int 1)) nilA))) (consA (cF (.int 5)) nilA))))))) (nameG 4) (seqS (setS 1 (thawF (lstF (consA (heardF sb "told" cl__law_heard (callF f_least_direction (consA (varF 4) nilA))) nilA))))
  (seqS (exprS (methF appG (varF 1) (consA (heardF sb "told" cl__law_heard (callF f_turned_left (consA (varF 4) nilA))) nilA)))
  (seqS (exprS (methF appG (varF 1) (consA (heardF sb "told" cl__law_heard (callF f_need_direction (consA (varF 4) nilA))) nilA)))
  (ifS (notB (truB (callF f__law_like (consA (varF 1) (consA (op2F mulD (lstF (consA (tupF (consA (cF (.str "direction")) (consA (varF 4) (consA (cF (.bl true)) (consA (cF (.bl false)) nilA))))) nilA)) (cF (.int 3))) nilA))))) (retS (cF (.bl false))) skipS)))))
  (retS (cF (.bl true))))))))))))))))
noncomputable def f__law_by_hand : List U → Mem → Res U := fnS 6 b__law_by_hand
theorem ok__law_by_hand (G : Facts w K mg base T) : DefOk T true P w K mg base 8 "_law_by_hand" p__law_by_hand f__law_by_hand := by
  obtain ⟨f, fd, c, Pt, F, hm, hco, hTB, hmT, hut⟩ := G.fn__law_by_hand
  obtain ⟨g__law_heard, fd__law_heard, F__law_heard, h__law_heard⟩ := G.fn__law_heard
  have b__law_heard : L2.Binds K fd__law_heard ["_law_call"] [] := F__law_heard.bindsN fun _ _ _ _ _ _ us hl => match us, hl with | [_], _ => rfl
  have x_BadPlace := G.x_BadPlace
  have x_BadIsland := G.x_BadIsland
  have x_BadDirection := G.x_BadDirection
  have x_BadParameter := G.x_BadParameter
  have x_TooGreat := G.x_TooGreat
  have x_NoRow := G.x_NoRow
  have c__law_heard : HtOk mg cl__law_heard [(He.ga K "BadPlace", "place", [.fld "value", .isi true, .isi false]), (He.ga K "BadIsland", "island", [.fld "value", .isi true, .isi false]), (He.ga K "BadDirection", "direction", [.fld "value", .isi true, .isi false]), (He.ga K "BadParameter", "parameter", [.fld "value", .isi true, .isi false]), (He.ga K "TooGreat", "great", [.fld "most", .isi true, .isi false]), (He.ga K "NoRow", "none", [.isi true, .isi false])] := (.cons x_BadPlace.glo (.cons x_BadIsland.glo (.cons x_BadDirection.glo (.cons x_BadParameter.glo (.cons x_TooGreat.glo (.cons x_NoRow.glo .nil))))))
  have w__law_heard : ∀ (CXg : CXT) (A : Around) (outer : List PySem.Env) (s : Shared) (H : Hp) (E : XK) (cdg : Value), HcOk (cxOf CXg P w K mg base N__law_heard "_law_heard" (defScope st__law_heard) g__law_heard cdg A outer s H E).nox 2 "_law_told" (tryHs st__law_heard) [(He.ga K "BadPlace", "place", [.fld "value", .isi true, .isi false]), (He.ga K "BadIsland", "island", [.fld "value", .isi true, .isi false]), (He.ga K "BadDirection", "direction", [.fld "value", .isi true, .isi false]), (He.ga K "BadParameter", "parameter", [.fld "value", .isi true, .isi false]), (He.ga K "TooGreat", "great", [.fld "most", .isi true, .isi false]), (He.ga K "NoRow", "none", [.isi true, .isi false])] := fun CXg A outer s H E cdg => (.cons (i := 1) ⟨rfl, by decide, .inl x_BadPlace.glo⟩ rfl rfl (by decide) (.fld x_BadPlace.xf (x_BadPlace.no _ rfl) (fun _ => rfl) (fun _ => rfl) (.isi x_BadPlace.is_ rfl G.z_isinstance rfl (x_BadPlace.ts "IslandError" true (by decide)).1 (by decide) (x_BadPlace.ts "IslandError" true (by decide)).2 (fun _ => rfl) (.isi x_BadPlace.is_ rfl G.z_isinstance rfl (x_BadPlace.ts "BadIsland" false (by decide)).1 (by decide) (x_BadPlace.ts "BadIsland" false (by decide)).2 (fun _ => rfl) .nil))) (by decide) (by decide) (by decide) (fun _ => rfl) (fun _ => rfl) (.cons (i := 1) ⟨rfl, by decide, .inl x_BadIsland.glo⟩ rfl rfl (by decide) (.fld x_BadIsland.xf (x_BadIsland.no _ rfl) (fun _ => rfl) (fun _ => rfl) (.isi x_BadIsland.is_ rfl G.z_isinstance rfl (x_BadIsland.ts "IslandError" true (by decide)).1 (by decide) (x_BadIsland.ts "IslandError" true (by decide)).2 (fun _ => rfl) (.isi x_BadIsland.is_ rfl G.z_isinstance rfl (x_BadIsland.ts "BadPlace" false (by decide)).1 (by decide) (x_BadIsland.ts "BadPlace" false (by decide)).2 (fun _ => rfl) .nil))) (by decide) (by decide) (by decide) (fun _ => rfl) (fun _ => rfl) (.cons (i := 1) ⟨rfl, by decide, .inl x_BadDirection.glo⟩ rfl rfl (by decide) (.fld x_BadDirection.xf (x_BadDirection.no _ rfl) (fun _ => rfl) (fun _ => rfl) (.isi x_BadDirection.is_ rfl G.z_isinstance rfl (x_BadDirection.ts "IslandError" true (by decide)).1 (by decide) (x_BadDirection.ts "IslandError" true (by decide)).2 (fun _ => rfl) (.isi x_BadDirection.is_ rfl G.z_isinstance rfl (x_BadDirection.ts "BadPlace" false (by decide)).1 (by decide) (x_BadDirection.ts "BadPlace" false (by decide)).2 (fun _ => rfl) .nil))) (by decide) (by decide) (by decide) (fun _ => rfl) (fun _ => rfl) (.cons (i := 1) ⟨rfl, by decide, .inl x_BadParameter.glo⟩ rfl rfl (by decide) (.fld x_BadParameter.xf (x_BadParameter.no _ rfl) (fun _ => rfl) (fun _ => rfl) (.isi x_BadParameter.is_ rfl G.z_isinstance rfl (x_BadParameter.ts "IslandError" true (by decide)).1 (by decide) (x_BadParameter.ts "IslandError" true (by decide)).2 (fun _ => rfl) (.isi x_BadParameter.is_ rfl G.z_isinstance rfl (x_BadParameter.ts "BadPlace" false (by decide)).1 (by decide) (x_BadParameter.ts "BadPlace" false (by decide)).2 (fun _ => rfl) .nil))) (by decide) (by decide) (by decide) (fun _ => rfl) (fun _ => rfl) (.cons (i := 1) ⟨rfl, by decide, .inl x_TooGreat.glo⟩ rfl rfl (by decide) (.fld x_TooGreat.xf (x_TooGreat.no _ rfl) (fun _ => rfl) (fun _ => rfl) (.isi x_TooGreat.is_ rfl G.z_isinstance rfl (x_TooGreat.ts "IslandError" true (by decide)).1 (by decide) (x_TooGreat.ts "IslandError" true (by decide)).2 (fun _ => rfl) (.isi x_TooGreat.is_ rfl G.z_isinstance rfl (x_TooGreat.ts "BadPlace" false (by decide)).1 (by decide) (x_TooGreat.ts "BadPlace" false (by decide)).2 (fun _ => rfl) .nil))) (by decide) (by decide) (by decide) (fun _ => rfl) (fun _ => rfl) (.cons (i := 1) ⟨rfl, by decide, .inl x_NoRow.glo⟩ rfl rfl (by decide) (.isi x_NoRow.is_ rfl G.z_isinstance rfl (x_NoRow.ts "IslandError" true (by decide)).1 (by decide) (x_NoRow.ts "IslandError" true (by decide)).2 (fun _ => rfl) (.isi x_NoRow.is_ rfl G.z_isinstance rfl (x_NoRow.ts "BadPlace" false (by decide)).1 (by decide) (x_NoRow.ts "BadPlace" false (by decide)).2 (fun _ => rfl) .nil)) (by decide) (by decide) (by decide) (fun _ => rfl) (fun _ => rfl) .nil))))))
  refine ⟨f, fd, hm, F.kp, F.bindsN fun _ _ _ _ _ _ us hl => match us, hl with | [], _ => rfl, FnD.of (N := N__law_by_hand) (g := b__law_by_hand) F sc__law_by_hand fun cdv hcdv A outer s H E hr hgd => ?_⟩
  unfold b__law_by_hand
  exact (dss_cons (ds_set (i := 0) sc__law_by_hand.nd rfl (by first | exact .inl rfl | exact .inr rfl) (de_pow de_int de_int))
  (dss_cons (ds_set (i := 1) sc__law_by_hand.nd rfl (by first | exact .inl rfl | exact .inr rfl) (de_thaw (df_lst (da_cons (de_callKw (okw_in_order G) (hr.mono (by decide)) (fun h => nomatch h) (takes_of rfl rfl rfl rfl) rfl (dk_cons (de_tup (da_cons (de_tup (da_cons de_int (da_cons (de_neg de_int) da_nil))) (da_cons (de_tup (da_cons de_int (da_cons de_int da_nil))) (da_cons (de_tup (da_cons (de_neg de_int) (da_cons de_int da_nil))) (da_cons (de_tup (da_cons de_int (da_cons de_int da_nil))) (da_cons (de_tup (da_cons de_int (da_cons de_int da_nil))) da_nil)))))) dk_nil)) (da_cons (de_callKw (okw_least_direction G) (hr.mono (by decide)) (fun h => nomatch h) (takes_of rfl rfl rfl rfl) rfl (dk_cons (de_tup (da_cons (de_var (i := 0) rfl (by first | exact .inl rfl | exact .inr (.inl rfl) | exact .inr (.inr rfl))) (da_cons (de_neg (de_var (i := 0) rfl (by first | exact .inl rfl | exact .inr (.inl rfl) | exact .inr (.inr rfl)))) da_nil))) dk_nil)) da_nil)))))
  (dss_cons (ds_set (i := 1) sc__law_by_hand.nd rfl (by first | exact .inl rfl | exact .inr rfl) (de_add (de_var (i := 1) rfl (by first | exact .inl rfl | exact .inr (.inl rfl) | exact .inr (.inr rfl))) (de_lst (da_cons (de_callKw (okw_turned_left G) (hr.mono (by decide)) (fun h => nomatch h) (takes_of rfl rfl rfl rfl) rfl (dk_cons (de_tup (da_cons de_int (da_cons de_int da_nil))) dk_nil)) (da_cons (de_callD (ok_dot G) (hr.mono (by decide)) (fun h => nomatch h) (takes_of rfl rfl rfl rfl) rfl (da_cons (de_tup (da_cons de_int (da_cons de_int da_nil))) (da_cons (de_tup (da_cons de_int (da_cons de_int da_nil))) da_nil))) (da_cons (de_callD (ok_in_order G) (hr.mono (by decide)) (fun h => nomatch h) (takes_of rfl rfl rfl rfl) rfl (da_cons (de_tup da_nil) da_nil)) da_nil))))))
  (dss_cons (ds_set (i := 1) sc__law_by_hand.nd rfl (by first | exact .inl rfl | exact .inr rfl) (de_add (de_var (i := 1) rfl (by first | exact .inl rfl | exact .inr (.inl rfl) | exact .inr (.inr rfl))) (de_lst (da_cons (de_cmp (cmp_eq (room64 hr)) (de_callD (ok_in_order G) (hr.mono (by decide)) (fun h => nomatch h) (takes_of rfl rfl rfl rfl) rfl (da_cons (de_tuple rfl G.z_tuple (da_cons (DF.de (df_lc (own := [("_law_x", 5)]) rfl sc__law_by_hand.nd (di_range1 rfl G.z_range (da_cons de_int da_nil)) (blkOk_by (own := [("_law_x", 5)]) (N := N__law_by_hand) (sc := defScope st__law_by_hand) (by decide +kernel)) (fun _ _ _ _ _ => (dg_name (i := 5) sc__law_by_hand.nd rfl (by first | exact .inl rfl | exact .inr rfl))) (fun _ _ _ _ _ => dts_nil) (fun _ _ _ _ _ => (de_tup (da_cons de_int (da_cons (de_var (i := 5) rfl (by first | exact .inl rfl | exact .inr (.inl rfl) | exact .inr (.inr rfl))) da_nil)))) (by decide))) da_nil)) da_nil)) (de_tuple rfl G.z_tuple (da_cons (DF.de (df_lc (own := [("_law_x", 5)]) rfl sc__law_by_hand.nd (di_range1 rfl G.z_range (da_cons de_int da_nil)) (blkOk_by (own := [("_law_x", 5)]) (N := N__law_by_hand) (sc := defScope st__law_by_hand) (by decide +kernel)) (fun _ _ _ _ _ => (dg_name (i := 5) sc__law_by_hand.nd rfl (by first | exact .inl rfl | exact .inr rfl))) (fun _ _ _ _ _ => dts_nil) (fun _ _ _ _ _ => (de_tup (da_cons de_int (da_cons (de_var (i := 5) rfl (by first | exact .inl rfl | exact .inr (.inl rfl) | exact .inr (.inr rfl))) da_nil)))) (by decide))) da_nil))) da_nil))))
  (dss_cons (ds_if (dt_not (dt_val (de_callD (ok__law_like G) (hr.mono (by decide)) hgd (takes_of rfl rfl rfl rfl) rfl (da_cons (de_var (i := 1) rfl (by first | exact .inl rfl | exact .inr (.inl rfl) | exact .inr (.inr rfl))) (da_cons (de_lst (da_cons (de_tup (da_cons (de_tup (da_cons de_int (da_cons de_int da_nil))) (da_cons (de_tup (da_cons de_int (da_cons de_int da_nil))) (da_cons (de_tup (da_cons (de_neg de_int) (da_cons de_int da_nil))) (da_cons (de_tup (da_cons de_int (da_cons (de_neg de_int) da_nil))) da_nil))))) (da_cons (de_tup (da_cons de_int (da_cons (de_neg de_int) da_nil))) (da_cons (de_tup (da_cons (de_neg de_int) (da_cons de_int da_nil))) (da_cons de_int (da_cons (de_tup da_nil) (da_cons de_bl da_nil))))))) da_nil))))) (dss_one (ds_ret de_bl)) dss_nil)
  (dss_cons (ds_set (i := 2) sc__law_by_hand.nd rfl (by first | exact .inl rfl | exact .inr rfl) (de_mul (de_tup (da_cons (de_tup (da_cons de_int (da_cons de_int da_nil))) da_nil)) de_int))
  (dss_cons (ds_set (i := 1) sc__law_by_hand.nd rfl (by first | exact .inl rfl | exact .inr rfl) (de_thaw (df_lst (da_cons (de_heard (k := 5) (sub := sb) (w0 := "told") (cl := cl__law_heard) F__law_heard rfl h__law_heard b__law_heard sc__law_heard rfl (.inl rfl) (fun cdv => heard_gives (j := 2) sc__law_heard.nd (fun _ => rfl) rfl (fun _ _ => .inl rfl) (fun _ _ => rfl) (by decide) (by decide) (fun _ _ => w__law_heard _ _ _ _ _ _ _)) hTB (hcdv.symm.trans hco) hmT hut (hr.mono (by decide)) (LamX.lamS_by (sc := defScope st__law_by_hand) (by decide +kernel)) rfl (fun _ _ _ _ _ => rfl) (fun A2 outer2 s2 H2 E2 f2 c2 hrl => (de_callD (ok_in_order G) (hrl.mono (by decide)) (fun h => nomatch h) (takes_of rfl rfl rfl rfl) rfl (da_cons (de_var (i := 2) rfl (by first | exact .inl rfl | exact .inr (.inl rfl) | exact .inr (.inr rfl))) da_nil))) c__law_heard G.sub (by decide)) da_nil))))
  (dss_cons (ds_expr (de_append (de_var (i := 1) rfl (by first | exact .inl rfl | exact .inr (.inl rfl) | exact .inr (.inr rfl))) (da_cons (de_heard (k := 5) (sub := sb) (w0 := "told") (cl := cl__law_heard) F__law_heard rfl h__law_heard b__law_heard sc__law_heard rfl (.inl rfl) (fun cdv => heard_gives (j := 2) sc__law_heard.nd (fun _ => rfl) rfl (fun _ _ => .inl rfl) (fun _ _ => rfl) (by decide) (by decide) (fun _ _ => w__law_heard _ _ _ _ _ _ _)) hTB (hcdv.symm.trans hco) hmT hut (hr.mono (by decide)) (LamX.lamS_by (sc := defScope st__law_by_hand) (by decide +kernel)) rfl (fun _ _ _ _ _ => rfl) (fun A2 outer2 s2 H2 E2 f2 c2 hrl => (de_callD (ok_in_order G) (hrl.mono (by decide)) (fun h => nomatch h) (takes_of rfl rfl rfl rfl) rfl (da_cons (de_lst (da_cons (de_tup (da_cons de_int (da_cons de_int da_nil))) da_nil)) da_nil))) c__law_heard G.sub (by decide)) da_nil)))
  (dss_cons (ds_expr (de_append (de_var (i := 1) rfl (by first | exact .inl rfl | exact .inr (.inl rfl) | exact .inr (.inr rfl))) (da_cons (de_heard (k := 5) (sub := sb) (w0 := "told") (cl := cl__law_heard) F__law_heard rfl h__law_heard b__law_heard sc__law_heard rfl (.inl rfl) (fun cdv => heard_gives (j := 2) sc__law_heard.nd (fun _ => rfl) rfl (fun _ _ => .inl rfl) (fun _ _ => rfl) (by decide) (by decide) (fun _ _ => w__law_heard _ _ _ _ _ _ _)) hTB (hcdv.symm.trans hco) hmT hut (hr.mono (by decide)) (LamX.lamS_by (sc := defScope st__law_by_hand) (by decide +kernel)) rfl (fun _ _ _ _ _ => rfl) (fun A2 outer2 s2 H2 E2 f2 c2 hrl => (de_callD (ok_in_order G) (hrl.mono (by decide)) (fun h => nomatch h) (takes_of rfl rfl rfl rfl) rfl (da_cons (de_tup (da_cons (de_tup (da_cons de_int (da_cons de_int da_nil))) (da_cons (de_tup (da_cons de_int (da_cons de_int da_nil))) (da_cons de_non da_nil)))) da_nil))) c__law_heard G.sub (by decide)) da_nil)))
  (dss_cons (ds_expr (de_append (de_var (i := 1) rfl (by first | exact .inl rfl | exact .inr (.inl rfl) | exact .inr (.inr rfl))) (da_cons (de_heard (k := 5) (sub := sb) (w0 := "told") (cl := cl__law_heard) F__law_heard rfl h__law_heard b__law_heard sc__law_heard rfl (.inl rfl) (fun cdv => heard_gives (j := 2) sc__law_heard.nd (fun _ => rfl) rfl (fun _ _ => .inl rfl) (fun _ _ => rfl) (by decide) (by decide) (fun _ _ => w__law_heard _ _ _ _ _ _ _)) hTB (hcdv.symm.trans hco) hmT hut (hr.mono (by decide)) (LamX.lamS_by (sc := defScope st__law_by_hand) (by decide +kernel)) rfl (fun _ _ _ _ _ => rfl) (fun A2 outer2 s2 H2 E2 f2 c2 hrl => (de_callD (ok_in_order G) (hrl.mono (by decide)) (fun h => nomatch h) (takes_of rfl rfl rfl rfl) rfl (da_cons de_non da_nil))) c__law_heard G.sub (by decide)) da_nil)))
  (dss_cons (ds_set (i := 3) sc__law_by_hand.nd rfl (by first | exact .inl rfl | exact .inr rfl) (de_lst (da_cons (de_tup (da_cons de_str (da_cons (de_var (i := 2) rfl (by first | exact .inl rfl | exact .inr (.inl rfl) | exact .inr (.inr rfl))) (da_cons de_bl (da_cons de_bl da_nil))))) (da_cons (de_tup (da_cons de_str (da_cons (de_lst (da_cons (de_tup (da_cons de_int (da_cons de_int da_nil))) da_nil)) (da_cons de_bl (da_cons de_bl da_nil))))) (da_cons (de_tup (da_cons de_str (da_cons (de_tup (da_cons de_int (da_cons de_int da_nil))) (da_cons de_bl (da_cons de_bl da_nil))))) da_nil)))))
  (dss_cons (ds_if (dt_not (dt_val (de_callD (ok__law_like G) (hr.mono (by decide)) hgd (takes_of rfl rfl rfl rfl) rfl (da_cons (de_var (i := 1) rfl (by first | exact .inl rfl | exact .inr (.inl rfl) | exact .inr (.inr rfl))) (da_cons (de_add (de_var (i := 3) rfl (by first | exact .inl rfl | exact .inr (.inl rfl) | exact .inr (.inr rfl))) (de_lst (da_cons (de_tup (da_cons de_str (da_cons de_non (da_cons de_bl (da_cons de_bl da_nil))))) da_nil))) da_nil))))) (dss_one (ds_ret de_bl)) dss_nil)
  (dss_cons (ds_for (passes_of rfl) rfl (di_seq (de_tup (da_cons (de_tup (da_cons de_int (da_cons de_int da_nil))) (da_cons (de_tup (da_cons (de_add (de_var (i := 0) rfl (by first | exact .inl rfl | exact .inr (.inl rfl) | exact .inr (.inr rfl))) de_int) (da_cons de_int da_nil))) (da_cons (de_tup (da_cons de_int (da_cons de_bl da_nil))) (da_cons (de_lst (da_cons de_int (da_cons de_int da_nil))) (da_cons de_int da_nil))))))) (dg_name (i := 4) sc__law_by_hand.nd rfl (by first | exact .inl rfl | exact .inr rfl)) (dss_cons (ds_set (i := 1) sc__law_by_hand.nd rfl (by first | exact .inl rfl | exact .inr rfl) (de_thaw (df_lst (da_cons (de_heard (k := 5) (sub := sb) (w0 := "told") (cl := cl__law_heard) F__law_heard rfl h__law_heard b__law_heard sc__law_heard rfl (.inl rfl) (fun cdv => heard_gives (j := 2) sc__law_heard.nd (fun _ => rfl) rfl (fun _ _ => .inl rfl) (fun _ _ => rfl) (by decide) (by decide) (fun _ _ => w__law_heard _ _ _ _ _ _ _)) hTB (hcdv.symm.trans hco) hmT hut (hr.mono (by decide)) (LamX.lamS_by (sc := defScope st__law_by_hand) (by decide +kernel)) rfl (fun _ _ _ _ _ => rfl) (fun A2 outer2 s2 H2 E2 f2 c2 hrl => (de_callD (ok_least_direction G) (hrl.mono (by decide)) (fun h => nomatch h) (takes_of rfl rfl rfl rfl) rfl (da_cons (de_var (i := 4) rfl (by first | exact .inl rfl | exact .inr (.inl rfl) | exact .inr (.inr rfl))) da_nil))) c__law_heard G.sub (by decide)) da_nil))))
  (dss_cons (ds_expr (de_append (de_var (i := 1) rfl (by first | exact .inl rfl | exact .inr (.inl rfl) | exact .inr (.inr rfl))) (da_cons (de_heard (k := 5) (sub := sb) (w0 := "told") (cl := cl__law_heard) F__law_heard rfl h__law_heard b__law_heard sc__law_heard rfl (.inl rfl) (fun cdv => heard_gives (j := 2) sc__law_heard.nd (fun _ => rfl) rfl (fun _ _ => .inl rfl) (fun _ _ => rfl) (by decide) (by decide) (fun _ _ => w__law_heard _ _ _ _ _ _ _)) hTB (hcdv.symm.trans hco) hmT hut (hr.mono (by decide)) (LamX.lamS_by (sc := defScope st__law_by_hand) (by decide +kernel)) rfl (fun _ _ _ _ _ => rfl) (fun A2 outer2 s2 H2 E2 f2 c2 hrl => (de_callD (ok_turned_left G) (hrl.mono (by decide)) (fun h => nomatch h) (takes_of rfl rfl rfl rfl) rfl (da_cons (de_var (i := 4) rfl (by first | exact .inl rfl | exact .inr (.inl rfl) | exact .inr (.inr rfl))) da_nil))) c__law_heard G.sub (by decide)) da_nil)))
  (dss_cons (ds_expr (de_append (de_var (i := 1) rfl (by first | exact .inl rfl | exact .inr (.inl rfl) | exact .inr (.inr rfl))) (da_cons (de_heard (k := 4) (sub := sb) (w0 := "told") (cl := cl__law_heard) F__law_heard rfl h__law_heard b__law_heard sc__law_heard rfl (.inl rfl) (fun cdv => heard_gives (j := 2) sc__law_heard.nd (fun _ => rfl) rfl (fun _ _ => .inl rfl) (fun _ _ => rfl) (by decide) (by decide) (fun _ _ => w__law_heard _ _ _ _ _ _ _)) hTB (hcdv.symm.trans hco) hmT hut (hr.mono (by decide)) (LamX.lamS_by (sc := defScope st__law_by_hand) (by decide +kernel)) rfl (fun _ _ _ _ _ => rfl) (fun A2 outer2 s2 H2 E2 f2 c2 hrl => (de_callD (ok_need_direction G) (hrl.mono (by decide)) (fun h => nomatch h) (takes_of rfl rfl rfl rfl) rfl (da_cons (de_var (i := 4) rfl (by first | exact .inl rfl | exact .inr (.inl rfl) | exact .inr (.inr rfl))) da_nil))) c__law_heard G.sub (by decide)) da_nil)))
  (dss_one (ds_if (dt_not (dt_val (de_callD (ok__law_like G) (hr.mono (by decide)) hgd (takes_of rfl rfl rfl rfl) rfl (da_cons (de_var (i := 1) rfl (by first | exact .inl rfl | exact .inr (.inl rfl) | exact .inr (.inr rfl))) (da_cons (de_mul (de_lst (da_cons (de_tup (da_cons de_str (da_cons (de_var (i := 4) rfl (by first | exact .inl rfl | exact .inr (.inl rfl) | exact .inr (.inr rfl))) (da_cons de_bl (da_cons de_bl da_nil))))) da_nil)) de_int) da_nil))))) (dss_one (ds_ret de_bl)) dss_nil))))))
  (dss_one (ds_ret de_bl)))))))))))))))
abbrev N__law_divisor : List Str := ["_law_one", "_law_other"]
abbrev p__law_divisor : List Str := ["_law_one", "_law_other"]
theorem sc__law_divisor : FnScope N__law_divisor p__law_divisor (defScope st__law_divisor) := ⟨rfl, rfl, rfl, by decide +kernel, rfl, by decide +kernel, by decide +kernel⟩
noncomputable def b__law_divisor : Fs := (seqS (parS 0 1 (consA (blF maxD (consA (varF 0) (consA (op1F negD (varF 0)) nilA))) (consA (blF maxD (consA (varF 1) (consA (op1F negD (varF 1)) nilA))) nilA)))
  (seqS (whileS (cmpB (dC gtD) (varF 1) (cF (.int 0))) (parS 0 1 (consA (varF 1) (consA (op2F modD (varF 0) (varF 1)) nilA))))
  (retS (varF 0))))
noncomputable def f__law_divisor : List U → Mem → Res U := fnS 2 b__law_divisor
theorem ok__law_divisor (G : Facts w K mg base T) : DefOk T false P w K mg base 1 "_law_divisor" p__law_divisor f__law_divisor := by
  obtain ⟨f, fd, F, hm⟩ := G.fn__law_divisor
  refine ⟨f, fd, hm, F.kp, F.bindsN fun _ _ _ _ _ _ us hl => match us, hl with | [_, _], _ => rfl, FnD.of (N := N__law_divisor) (g := b__law_divisor) F sc__law_divisor fun cdv hcdv A outer s H E hr hgd => ?_⟩
  unfold b__law_divisor
  exact (dss_cons (ds_par (i := 0) (j := 1) rfl sc__law_divisor.nd rfl rfl (by decide) rfl rfl (da_cons (de_max rfl rfl G.z_max (da_cons (de_var (i := 0) rfl (by first | exact .inl rfl | exact .inr (.inl rfl) | exact .inr (.inr rfl))) (da_cons (de_neg (de_var (i := 0) rfl (by first | exact .inl rfl | exact .inr (.inl rfl) | exact .inr (.inr rfl)))) da_nil))) (da_cons (de_max rfl rfl G.z_max (da_cons (de_var (i := 1) rfl (by first | exact .inl rfl | exact .inr (.inl rfl) | exact .inr (.inr rfl))) (da_cons (de_neg (de_var (i := 1) rfl (by first | exact .inl rfl | exact .inr (.inl rfl) | exact .inr (.inr rfl)))) da_nil))) da_nil)) (by rfl))
  (dss_cons (ds_while (passes_of rfl) (dt_cmp (cmp_gt (room64 hr)) (de_var (i := 1) rfl (by first | exact .inl rfl | exact .inr (.inl rfl) | exact .inr (.inr rfl))) de_int) (dss_one (ds_par (i := 0) (j := 1) rfl sc__law_divisor.nd rfl rfl (by decide) rfl rfl (da_cons (de_var (i := 1) rfl (by first | exact .inl rfl | exact .inr (.inl rfl) | exact .inr (.inr rfl))) (da_cons (de_mod (de_var (i := 0) rfl (by first | exact .inl rfl | exact .inr (.inl rfl) | exact .inr (.inr rfl))) (de_var (i := 1) rfl (by first | exact .inl rfl | exact .inr (.inl rfl) | exact .inr (.inr rfl)))) da_nil)) (by rfl))))
  (dss_one (ds_ret (de_var (i := 0) rfl (by first | exact .inl rfl | exact .inr (.inl rfl) | exact .inr (.inr rfl)))))))
abbrev N__law_plainly : List Str := ["_law_toward_here", "_law_size"]
abbrev p__law_plainly : List Str := ["_law_toward_here"]
theorem sc__law_plainly : FnScope N__law_plainly p__law_plainly (defScope st__law_plainly) := ⟨rfl, rfl, rfl, by decide +kernel, rfl, by decide +kernel, by decide +kernel⟩
noncomputable def b__law_plainly : Fs := (seqS (setS 1 (callF f__law_divisor (consA (ixF (varF 0) (cF (.int 0))) (consA (ixF (varF 0) (cF (.int 1))) nilA))))
  (retS (tupF (consA (op2F fdivD (ixF (varF 0) (cF (.int 0))) (varF 1)) (consA (op2F fdivD (ixF (varF 0) (cF (.int 1))) (varF 1)) nilA)))))
noncomputable def f__law_plainly : List U → Mem → Res U := fnS 2 b__law_plainly
theorem ok__law_plainly (G : Facts w K mg base T) : DefOk T false P w K mg base 2 "_law_plainly" p__law_plainly f__law_plainly := by
  obtain ⟨f, fd, F, hm⟩ := G.fn__law_plainly
  refine ⟨f, fd, hm, F.kp, F.bindsN fun _ _ _ _ _ _ us hl => match us, hl with | [_], _ => rfl, FnD.of (N := N__law_plainly) (g := b__law_plainly) F sc__law_plainly fun cdv hcdv A outer s H E hr hgd => ?_⟩
  unfold b__law_plainly
  exact (dss_cons (ds_set (i := 1) sc__law_plainly.nd rfl (by first | exact .inl rfl | exact .inr rfl) (de_callD (ok__law_divisor G) (hr.mono (by decide)) (fun h => nomatch h) (takes_of rfl rfl rfl rfl) rfl (da_cons (de_ix (room1 hr) (de_var (i := 0) rfl (by first | exact .inl rfl | exact .inr (.inl rfl) | exact .inr (.inr rfl))) de_int) (da_cons (de_ix (room1 hr) (de_var (i := 0) rfl (by first | exact .inl rfl | exact .inr (.inl rfl) | exact .inr (.inr rfl))) de_int) da_nil))))
  (dss_one (ds_ret (de_tup (da_cons (de_fdiv (de_ix (room1 hr) (de_var (i := 0) rfl (by first | exact .inl rfl | exact .inr (.inl rfl) | exact .inr (.inr rfl))) de_int) (de_var (i := 1) rfl (by first | exact .inl rfl | exact .inr (.inl rfl) | exact .inr (.inr rfl)))) (da_cons (de_fdiv (de_ix (room1 hr) (de_var (i := 0) rfl (by first | exact .inl rfl | exact .inr (.inl rfl) | exact .inr (.inr rfl))) de_int) (de_var (i := 1) rfl (by first | exact .inl rfl | exact .inr (.inl rfl) | exact .inr (.inr rfl)))) da_nil))))))
abbrev N__law_half : List Str := ["_law_toward_here"]
abbrev p__law_half : List Str := ["_law_toward_here"]
theorem sc__law_half : FnScope N__law_half p__law_half (defScope st__law_half) := ⟨rfl, rfl, rfl, by decide +kernel, rfl, by decide +kernel, by decide +kernel⟩
noncomputable def b__law_half : Fs := (retS (ifF (orB (cmpB (dC gtD) (ixF (varF 0) (cF (.int 1))) (cF (.int 0))) (andB (cmpB (dC eqD) (ixF (varF 0) (cF (.int 1))) (cF (.int 0))) (cmpB (dC gtD) (ixF (varF 0) (cF (.int 0))) (cF (.int 0))))) (cF (.int 0)) (cF (.int 1))))
noncomputable def f__law_half : List U → Mem → Res U := fnS 1 b__law_half
theorem ok__law_half (G : Facts w K mg base T) : DefOk T false P w K mg base 1 "_law_half" p__law_half f__law_half := by
  obtain ⟨f, fd, F, hm⟩ := G.fn__law_half
  refine ⟨f, fd, hm, F.kp, F.bindsN fun _ _ _ _ _ _ us hl => match us, hl with | [_], _ => rfl, FnD.of (N := N__law_half) (g := b__law_half) F sc__law_half fun cdv hcdv A outer s H E hr hgd => ?_⟩
  unfold b__law_half
  exact (dss_one (ds_ret (de_if (DW.dt (dw_or (dt_cmp (cmp_gt (room64 hr)) (de_ix (room1 hr) (de_var (i := 0) rfl (by first | exact .inl rfl | exact .inr (.inl rfl) | exact .inr (.inr rfl))) de_int) de_int) (dw_or1 (DW.dt (dw_and (dt_cmp (cmp_eq (room64 hr)) (de_ix (room1 hr) (de_var (i := 0) rfl (by first | exact .inl rfl | exact .inr (.inl rfl) | exact .inr (.inr rfl))) de_int) de_int) (dw_and1 (dt_cmp (cmp_gt (room64 hr)) (de_ix (room1 hr) (de_var (i := 0) rfl (by first | exact .inl rfl | exact .inr (.inl rfl) | exact .inr (.inr rfl))) de_int) de_int))))))) de_int de_int)))
abbrev N__law_ahead : List Str := ["_law_one_so", "_law_two_so"]
abbrev p__law_ahead : List Str := ["_law_one_so", "_law_two_so"]
theorem sc__law_ahead : FnScope N__law_ahead p__law_ahead (defScope st__law_ahead) := ⟨rfl, rfl, rfl, by decide +kernel, rfl, by decide +kernel, by decide +kernel⟩
noncomputable def b__law_ahead : Fs := (seqS (ifS (cmpB (dC neD) (callF f__law_half (consA (varF 0) nilA)) (callF f__law_half (consA (varF 1) nilA))) (retS (valF (cmpB (dC ltD) (callF f__law_half (consA (varF 0) nilA)) (callF f__law_half (consA (varF 1) nilA))))) skipS)
  (retS (valF (cmpB (dC gtD) (op2F subD (op2F mulD (ixF (varF 0) (cF (.int 0))) (ixF (varF 1) (cF (.int 1)))) (op2F mulD (ixF (varF 0) (cF (.int 1))) (ixF (varF 1) (cF (.int 0))))) (cF (.int 0))))))
noncomputable def f__law_ahead : List U → Mem → Res U := fnS 2 b__law_ahead
theorem ok__law_ahead (G : Facts w K mg base T) : DefOk T false P w K mg base 2 "_law_ahead" p__law_ahead f__law_ahead := by
  obtain ⟨f, fd, F, hm⟩ := G.fn__law_ahead
  refine ⟨f, fd, hm, F.kp, F.bindsN fun _ _ _ _ _ _ us hl => match us, hl with | [_, _], _ => rfl, FnD.of (N := N__law_ahead) (g := b__law_ahead) F sc__law_ahead fun cdv hcdv A outer s H E hr hgd => ?_⟩
  unfold b__law_ahead
  exact (dss_cons (ds_if (dt_cmp (cmp_ne (room64 hr)) (de_callD (ok__law_half G) (hr.mono (by decide)) (fun h => nomatch h) (takes_of rfl rfl rfl rfl) rfl (da_cons (de_var (i := 0) rfl (by first | exact .inl rfl | exact .inr (.inl rfl) | exact .inr (.inr rfl))) da_nil)) (de_callD (ok__law_half G) (hr.mono (by decide)) (fun h => nomatch h) (takes_of rfl rfl rfl rfl) rfl (da_cons (de_var (i := 1) rfl (by first | exact .inl rfl | exact .inr (.inl rfl) | exact .inr (.inr rfl))) da_nil))) (dss_one (ds_ret (de_cmp (cmp_lt (room64 hr)) (de_callD (ok__law_half G) (hr.mono (by decide)) (fun h => nomatch h) (takes_of rfl rfl rfl rfl) rfl (da_cons (de_var (i := 0) rfl (by first | exact .inl rfl | exact .inr (.inl rfl) | exact .inr (.inr rfl))) da_nil)) (de_callD (ok__law_half G) (hr.mono (by decide)) (fun h => nomatch h) (takes_of rfl rfl rfl rfl) rfl (da_cons (de_var (i := 1) rfl (by first | exact .inl rfl | exact .inr (.inl rfl) | exact .inr (.inr rfl))) da_nil))))) dss_nil)
  (dss_one (ds_ret (de_cmp (cmp_gt (room64 hr)) (de_sub (de_mul (de_ix (room1 hr) (de_var (i := 0) rfl (by first | exact .inl rfl | exact .inr (.inl rfl) | exact .inr (.inr rfl))) de_int) (de_ix (room1 hr) (de_var (i := 1) rfl (by first | exact .inl rfl | exact .inr (.inl rfl) | exact .inr (.inr rfl))) de_int)) (de_mul (de_ix (room1 hr) (de_var (i := 0) rfl (by first | exact .inl rfl | exact .inr (.inl rfl) | exact .inr (.inr rfl))) de_int) (de_ix (room1 hr) (de_var (i := 1) rfl (by first | exact .inl rfl | exact .inr (.inl rfl) | exact .inr (.inr rfl))) de_int))) de_int))))
abbrev N__law_sorted : List Str := ["_law_towards", "_law_found", "_law_toward_here", "_law_at", "_law_near"]
abbrev p__law_sorted : List Str := ["_law_towards"]
theorem sc__law_sorted : FnScope N__law_sorted p__law_sorted (defScope st__law_sorted) := ⟨rfl, rfl, rfl, by decide +kernel, rfl, by decide +kernel, by decide +kernel⟩
noncomputable def b__law_sorted : Fs := (seqS (setS 1 (lstF nilA))
  (seqS (forS (seqI (lcF (seqI (varF 0)) (nameG 2) [2] yesB (callF f__law_plainly (consA (varF 2) nilA)))) (nameG 2) (ifS (cmpB notinA (varF 2) (varF 1)) (seqS (setS 3 (blF lenD (consA (lcF (seqI (varF 1)) (nameG 4) [4] (truB (callF f__law_ahead (consA (varF 4) (consA (varF 2) nilA)))) (cF (.int 1))) nilA)))
  (setS 1 (op2F addD (op2F addD (slF (varF 1) noO (someO (varF 3))) (lstF (consA (varF 2) nilA))) (slF (varF 1) (someO (varF 3)) noO)))) skipS))
  (retS (blF tupD (consA (varF 1) nilA)))))
noncomputable def f__law_sorted : List U → Mem → Res U := fnS 5 b__law_sorted
theorem ok__law_sorted (G : Facts w K mg base T) : DefOk T false P w K mg base 3 "_law_sorted" p__law_sorted f__law_sorted := by
  obtain ⟨f, fd, F, hm⟩ := G.fn__law_sorted
  refine ⟨f, fd, hm, F.kp, F.bindsN fun _ _ _ _ _ _ us hl => match us, hl with | [_], _ => rfl, FnD.of (N := N__law_sorted) (g := b__law_sorted) F sc__law_sorted fun cdv hcdv A outer s H E hr hgd => ?_⟩
  unfold b__law_sorted
  exact (dss_cons (ds_set (i := 1) sc__law_sorted.nd rfl (by first | exact .inl rfl | exact .inr rfl) (de_lst da_nil))
  (dss_cons (ds_for (passes_of rfl) rfl (di_seq (DF.de (df_lc (own := [("_law_toward_here", 2)]) rfl sc__law_sorted.nd (di_seq (de_var (i := 0) rfl (by first | exact .inl rfl | exact .inr (.inl rfl) | exact .inr (.inr rfl)))) (blkOk_by (own := [("_law_toward_here", 2)]) (N := N__law_sorted) (sc := defScope st__law_sorted) (by decide +kernel)) (fun _ _ _ _ _ => (dg_name (i := 2) sc__law_sorted.nd rfl (by first | exact .inl rfl | exact .inr rfl))) (fun _ _ _ _ _ => dts_nil) (fun _ _ _ _ _ => (de_callD (ok__law_plainly G) (hr.mono (by decide)) (fun h => nomatch h) LamX.takes0 rfl (da_cons (de_var (i := 2) rfl (by first | exact .inl rfl | exact .inr (.inl rfl) | exact .inr (.inr rfl))) da_nil))) (by decide)))) (dg_name (i := 2) sc__law_sorted.nd rfl (by first | exact .inl rfl | exact .inr rfl)) (dss_one (ds_if (dt_cmp (cmp_notin' (room65 hr)) (de_var (i := 2) rfl (by first | exact .inl rfl | exact .inr (.inl rfl) | exact .inr (.inr rfl))) (de_var (i := 1) rfl (by first | exact .inl rfl | exact .inr (.inl rfl) | exact .inr (.inr rfl)))) (dss_cons (ds_set (i := 3) sc__law_sorted.nd rfl (by first | exact .inl rfl | exact .inr rfl) (de_len rfl G.z_len (da_cons (DF.de (df_lc (own := [("_law_near", 4)]) rfl sc__law_sorted.nd (di_seq (de_var (i := 1) rfl (by first | exact .inl rfl | exact .inr (.inl rfl) | exact .inr (.inr rfl)))) (blkOk_by (own := [("_law_near", 4)]) (N := N__law_sorted) (sc := defScope st__law_sorted) (by decide +kernel)) (fun _ _ _ _ _ => (dg_name (i := 4) sc__law_sorted.nd rfl (by first | exact .inl rfl | exact .inr rfl))) (fun _ _ _ _ _ => (dts_one (dt_val (de_callD (ok__law_ahead G) (hr.mono (by decide)) (fun h => nomatch h) LamX.takes0 rfl (da_cons (de_var (i := 4) rfl (by first | exact .inl rfl | exact .inr (.inl rfl) | exact .inr (.inr rfl))) (da_cons (de_var (i := 2) rfl (by first | exact .inl rfl | exact .inr (.inl rfl) | exact .inr (.inr rfl))) da_nil)))))) (fun _ _ _ _ _ => de_int) (by decide))) da_nil)))
  (dss_one (ds_set (i := 1) sc__law_sorted.nd rfl (by first | exact .inl rfl | exact .inr rfl) (de_add (de_add (de_sl (de_var (i := 1) rfl (by first | exact .inl rfl | exact .inr (.inl rfl) | exact .inr (.inr rfl))) do_none (do_some (de_var (i := 3) rfl (by first | exact .inl rfl | exact .inr (.inl rfl) | exact .inr (.inr rfl))))) (de_lst (da_cons (de_var (i := 2) rfl (by first | exact .inl rfl | exact .inr (.inl rfl) | exact .inr (.inr rfl))) da_nil))) (de_sl (de_var (i := 1) rfl (by first | exact .inl rfl | exact .inr (.inl rfl) | exact .inr (.inr rfl))) (do_some (de_var (i := 3) rfl (by first | exact .inl rfl | exact .inr (.inl rfl) | exact .inr (.inr rfl)))) do_none))))) dss_nil)))
  (dss_one (ds_ret (de_tuple rfl G.z_tuple (da_cons (de_var (i := 1) rfl (by first | exact .inl rfl | exact .inr (.inl rfl) | exact .inr (.inr rfl))) da_nil))))))
abbrev N__law_mixed : List Str := ["_law_cell", "_law_k"]
abbrev p__law_mixed : List Str := ["_law_cell", "_law_k"]
theorem sc__law_mixed : FnScope N__law_mixed p__law_mixed (defScope st__law_mixed) := ⟨rfl, rfl, rfl, by decide +kernel, rfl, by decide +kernel, by decide +kernel⟩
noncomputable def b__law_mixed : Fs := (seqS (setS 0 (op2F modD (blF intD (consA (varF 0) nilA)) (cF (.int 2147483647))))
  (retS (op2F modD (op2F mulD (op2F modD (op2F addD (op2F addD (op2F mulD (varF 0) (op2F addD (cF (.int 48271)) (op2F mulD (op2F mulD (cF (.int 2)) (varF 1)) (varF 1)))) (op2F mulD (cF (.int 69621)) (varF 1))) (cF (.int 11))) (cF (.int 2147483647))) (cF (.int 69621))) (cF (.int 2147483629)))))
noncomputable def f__law_mixed : List U → Mem → Res U := fnS 2 b__law_mixed
theorem ok__law_mixed (G : Facts w K mg base T) : DefOk T false P w K mg base 1 "_law_mixed" p__law_mixed f__law_mixed := by
  obtain ⟨f, fd, F, hm⟩ := G.fn__law_mixed
  refine ⟨f, fd, hm, F.kp, F.bindsN fun _ _ _ _ _ _ us hl => match us, hl with | [_, _], _ => rfl, FnD.of (N := N__law_mixed) (g := b__law_mixed) F sc__law_mixed fun cdv hcdv A outer s H E hr hgd => ?_⟩
  unfold b__law_mixed
  exact (dss_cons (ds_set (i := 0) sc__law_mixed.nd rfl (by first | exact .inl rfl | exact .inr rfl) (de_mod (de_toint rfl G.z_int (da_cons (de_var (i := 0) rfl (by first | exact .inl rfl | exact .inr (.inl rfl) | exact .inr (.inr rfl))) da_nil)) de_int))
  (dss_one (ds_ret (de_mod (de_mul (de_mod (de_add (de_add (de_mul (de_var (i := 0) rfl (by first | exact .inl rfl | exact .inr (.inl rfl) | exact .inr (.inr rfl))) (de_add de_int (de_mul (de_mul de_int (de_var (i := 1) rfl (by first | exact .inl rfl | exact .inr (.inl rfl) | exact .inr (.inr rfl)))) (de_var (i := 1) rfl (by first | exact .inl rfl | exact .inr (.inl rfl) | exact .inr (.inr rfl)))))) (de_mul de_int (de_var (i := 1) rfl (by first | exact .inl rfl | exact .inr (.inl rfl) | exact .inr (.inr rfl))))) de_int) de_int) de_int) de_int))))
abbrev N__law_draw : List Str := ["_law_state", "_law_limit", "_law_at", "_law_place", "_law_left", "_law_number"]
abbrev p__law_draw : List Str := ["_law_state", "_law_limit"]
theorem sc__law_draw : FnScope N__law_draw p__law_draw (defScope st__law_draw) := ⟨rfl, rfl, rfl, by decide +kernel, rfl, by decide +kernel, by decide +kernel⟩
noncomputable def b__law_draw : Fs := (seqS (setS 2 (ixF (varF 0) (cF (.str "at"))))
  (seqS (putS (varF 0) (cF (.str "at")) (op2F addD (varF 2) (cF (.int 1))))
  (seqS (setS 3 (op2F modD (blF intD (consA (varF 2) nilA)) (blF lenD (consA (ixF (varF 0) (cF (.str "cells"))) nilA))))
  (seqS (setS 4 (ixF (ixF (varF 0) (cF (.str "lefts"))) (varF 3)))
  (seqS (ifS (cmpB (dC gtD) (varF 4) (cF (.int 0))) (seqS (putS (ixF (varF 0) (cF (.str "lefts"))) (varF 3) (op2F fdivD (varF 4) (varF 1)))
  (retS (op2F modD (blF intD (consA (varF 4) nilA)) (varF 1)))) skipS)
  (seqS (setS 5 (callF f__law_mixed (consA (callF f__law_mixed (consA (ixF (ixF (varF 0) (cF (.str "cells"))) (varF 3)) (consA (varF 2) nilA))) (consA (op2F addD (cF (.int 40)) (varF 2)) nilA))))
  (retS (op2F modD (op2F fdivD (blF intD (consA (op2F addD (op2F mulD (varF 5) (cF (.int 2147483647))) (callF f__law_mixed (consA (varF 5) (consA (op2F addD (cF (.int 7)) (varF 2)) nilA)))) nilA)) (cF (.int 64))) (varF 1)))))))))
noncomputable def f__law_draw : List U → Mem → Res U := fnS 6 b__law_draw
theorem ok__law_draw (G : Facts w K mg base T) : DefOk T false P w K mg base 2 "_law_draw" p__law_draw f__law_draw := by
  obtain ⟨f, fd, F, hm⟩ := G.fn__law_draw
  refine ⟨f, fd, hm, F.kp, F.bindsN fun _ _ _ _ _ _ us hl => match us, hl with | [_, _], _ => rfl, FnD.of (N := N__law_draw) (g := b__law_draw) F sc__law_draw fun cdv hcdv A outer s H E hr hgd => ?_⟩
  unfold b__law_draw
  exact (dss_cons (ds_set (i := 2) sc__law_draw.nd rfl (by first | exact .inl rfl | exact .inr rfl) (de_ix (room1 hr) (de_var (i := 0) rfl (by first | exact .inl rfl | exact .inr (.inl rfl) | exact .inr (.inr rfl))) de_str))
  (dss_cons (ds_put (room1 hr) (de_add (de_var (i := 2) rfl (by first | exact .inl rfl | exact .inr (.inl rfl) | exact .inr (.inr rfl))) de_int) (de_var (i := 0) rfl (by first | exact .inl rfl | exact .inr (.inl rfl) | exact .inr (.inr rfl))) de_str)
  (dss_cons (ds_set (i := 3) sc__law_draw.nd rfl (by first | exact .inl rfl | exact .inr rfl) (de_mod (de_toint rfl G.z_int (da_cons (de_var (i := 2) rfl (by first | exact .inl rfl | exact .inr (.inl rfl) | exact .inr (.inr rfl))) da_nil)) (de_len rfl G.z_len (da_cons (de_ix (room1 hr) (de_var (i := 0) rfl (by first | exact .inl rfl | exact .inr (.inl rfl) | exact .inr (.inr rfl))) de_str) da_nil))))
  (dss_cons (ds_set (i := 4) sc__law_draw.nd rfl (by first | exact .inl rfl | exact .inr rfl) (de_ix (room1 hr) (de_ix (room1 hr) (de_var (i := 0) rfl (by first | exact .inl rfl | exact .inr (.inl rfl) | exact .inr (.inr rfl))) de_str) (de_var (i := 3) rfl (by first | exact .inl rfl | exact .inr (.inl rfl) | exact .inr (.inr rfl)))))
  (dss_cons (ds_if (dt_cmp (cmp_gt (room64 hr)) (de_var (i := 4) rfl (by first | exact .inl rfl | exact .inr (.inl rfl) | exact .inr (.inr rfl))) de_int) (dss_cons (ds_put (room1 hr) (de_fdiv (de_var (i := 4) rfl (by first | exact .inl rfl | exact .inr (.inl rfl) | exact .inr (.inr rfl))) (de_var (i := 1) rfl (by first | exact .inl rfl | exact .inr (.inl rfl) | exact .inr (.inr rfl)))) (de_ix (room1 hr) (de_var (i := 0) rfl (by first | exact .inl rfl | exact .inr (.inl rfl) | exact .inr (.inr rfl))) de_str) (de_var (i := 3) rfl (by first | exact .inl rfl | exact .inr (.inl rfl) | exact .inr (.inr rfl))))
  (dss_one (ds_ret (de_mod (de_toint rfl G.z_int (da_cons (de_var (i := 4) rfl (by first | exact .inl rfl | exact .inr (.inl rfl) | exact .inr (.inr rfl))) da_nil)) (de_var (i := 1) rfl (by first | exact .inl rfl | exact .inr (.inl rfl) | exact .inr (.inr rfl))))))) dss_nil)
  (dss_cons (ds_set (i := 5) sc__law_draw.nd rfl (by first | exact .inl rfl | exact .inr rfl) (de_callD (ok__law_mixed G) (hr.mono (by decide)) (fun h => nomatch h) (takes_of rfl rfl rfl rfl) rfl (da_cons (de_callD (ok__law_mixed G) (hr.mono (by decide)) (fun h => nomatch h) (takes_of rfl rfl rfl rfl) rfl (da_cons (de_ix (room1 hr) (de_ix (room1 hr) (de_var (i := 0) rfl (by first | exact .inl rfl | exact .inr (.inl rfl) | exact .inr (.inr rfl))) de_str) (de_var (i := 3) rfl (by first | exact .inl rfl | exact .inr (.inl rfl) | exact .inr (.inr rfl)))) (da_cons (de_var (i := 2) rfl (by first | exact .inl rfl | exact .inr (.inl rfl) | exact .inr (.inr rfl))) da_nil))) (da_cons (de_add de_int (de_var (i := 2) rfl (by first | exact .inl rfl | exact .inr (.inl rfl) | exact .inr (.inr rfl)))) da_nil))))
  (dss_one (ds_ret (de_mod (de_fdiv (de_toint rfl G.z_int (da_cons (de_add (de_mul (de_var (i := 5) rfl (by first | exact .inl rfl | exact .inr (.inl rfl) | exact .inr (.inr rfl))) de_int) (de_callD (ok__law_mixed G) (hr.mono (by decide)) (fun h => nomatch h) (takes_of rfl rfl rfl rfl) rfl (da_cons (de_var (i := 5) rfl (by first | exact .inl rfl | exact .inr (.inl rfl) | exact .inr (.inr rfl))) (da_cons (de_add de_int (de_var (i := 2) rfl (by first | exact .inl rfl | exact .inr (.inl rfl) | exact .inr (.inr rfl)))) da_nil)))) da_nil)) de_int) (de_var (i := 1) rfl (by first | exact .inl rfl | exact .inr (.inl rfl) | exact .inr (.inr rfl))))))))))))
abbrev N__law_toward : List Str := ["_law_state", "_law_most", "_law_toward_here"]
abbrev p__law_toward : List Str := ["_law_state", "_law_most"]
theorem sc__law_toward : FnScope N__law_toward p__law_toward (defScope st__law_toward) := ⟨rfl, rfl, rfl, by decide +kernel, rfl, by decide +kernel, by decide +kernel⟩
noncomputable def b__law_toward : Fs := (seqS (setS 2 (tupF (consA (op2F subD (callF f__law_draw (consA (varF 0) (consA (op2F addD (op2F mulD (cF (.int 2)) (varF 1)) (cF (.int 1))) nilA))) (varF 1)) (consA (op2F subD (callF f__law_draw (consA (varF 0) (consA (op2F addD (op2F mulD (cF (.int 2)) (varF 1)) (cF (.int 1))) nilA))) (varF 1)) nilA))))
  (retS (ifF (cmpB (dC neD) (varF 2) (tupF (consA (cF (.int 0)) (consA (cF (.int 0)) nilA)))) (varF 2) (tupF (consA (cF (.int 1)) (consA (cF (.int 0)) nilA))))))
noncomputable def f__law_toward : List U → Mem → Res U := fnS 3 b__law_toward
theorem ok__law_toward (G : Facts w K mg base T) : DefOk T false P w K mg base 3 "_law_toward" p__law_toward f__law_toward := by
  obtain ⟨f, fd, F, hm⟩ := G.fn__law_toward
  refine ⟨f, fd, hm, F.kp, F.bindsN fun _ _ _ _ _ _ us hl => match us, hl with | [_, _], _ => rfl, FnD.of (N := N__law_toward) (g := b__law_toward) F sc__law_toward fun cdv hcdv A outer s H E hr hgd => ?_⟩
  unfold b__law_toward
  exact (dss_cons (ds_set (i := 2) sc__law_toward.nd rfl (by first | exact .inl rfl | exact .inr rfl) (de_tup (da_cons (de_sub (de_callD (ok__law_draw G) (hr.mono (by decide)) (fun h => nomatch h) (takes_of rfl rfl rfl rfl) rfl (da_cons (de_var (i := 0) rfl (by first | exact .inl rfl | exact .inr (.inl rfl) | exact .inr (.inr rfl))) (da_cons (de_add (de_mul de_int (de_var (i := 1) rfl (by first | exact .inl rfl | exact .inr (.inl rfl) | exact .inr (.inr rfl)))) de_int) da_nil))) (de_var (i := 1) rfl (by first | exact .inl rfl | exact .inr (.inl rfl) | exact .inr (.inr rfl)))) (da_cons (de_sub (de_callD (ok__law_draw G) (hr.mono (by decide)) (fun h => nomatch h) (takes_of rfl rfl rfl rfl) rfl (da_cons (de_var (i := 0) rfl (by first | exact .inl rfl | exact .inr (.inl rfl) | exact .inr (.inr rfl))) (da_cons (de_add (de_mul de_int (de_var (i := 1) rfl (by first | exact .inl rfl | exact .inr (.inl rfl) | exact .inr (.inr rfl)))) de_int) da_nil))) (de_var (i := 1) rfl (by first | exact .inl rfl | exact .inr (.inl rfl) | exact .inr (.inr rfl)))) da_nil))))
  (dss_one (ds_ret (de_if (dt_cmp (cmp_ne (room64 hr)) (de_var (i := 2) rfl (by first | exact .inl rfl | exact .inr (.inl rfl) | exact .inr (.inr rfl))) (de_tup (da_cons de_int (da_cons de_int da_nil)))) (de_var (i := 2) rfl (by first | exact .inl rfl | exact .inr (.inl rfl) | exact .inr (.inr rfl))) (de_tup (da_cons de_int (da_cons de_int da_nil)))))))
abbrev N__law_of : List Str := ["_law_state", "_law_some"]
abbrev p__law_of : List Str := ["_law_state", "_law_some"]
theorem sc__law_of : FnScope N__law_of p__law_of (defScope st__law_of) := ⟨rfl, rfl, rfl, by decide +kernel, rfl, by decide +kernel, by decide +kernel⟩
noncomputable def b__law_of : Fs := (retS (ixF (varF 1) (callF f__law_draw (consA (varF 0) (consA (blF lenD (consA (varF 1) nilA)) nilA)))))
noncomputable def f__law_of : List U → Mem → Res U := fnS 2 b__law_of
theorem ok__law_of (G : Facts w K mg base T) : DefOk T false P w K mg base 3 "_law_of" p__law_of f__law_of := by
  obtain ⟨f, fd, F, hm⟩ := G.fn__law_of
  refine ⟨f, fd, hm, F.kp, F.bindsN fun _ _ _ _ _ _ us hl => match us, hl with | [_, _], _ => rfl, FnD.of (N := N__law_of) (g := b__law_of) F sc__law_of fun cdv hcdv A outer s H E hr hgd => ?_⟩
  unfold b__law_of
  exact (dss_one (ds_ret (de_ix (room1 hr) (de_var (i := 1) rfl (by first | exact .inl rfl | exact .inr (.inl rfl) | exact .inr (.inr rfl))) (de_callD (ok__law_draw G) (hr.mono (by decide)) (fun h => nomatch h) (takes_of rfl rfl rfl rfl) rfl (da_cons (de_var (i := 0) rfl (by first | exact .inl rfl | exact .inr (.inl rfl) | exact .inr (.inr rfl))) (da_cons (de_len rfl G.z_len (da_cons (de_var (i := 1) rfl (by first | exact .inl rfl | exact .inr (.inl rfl) | exact .inr (.inr rfl))) da_nil)) da_nil))))))
abbrev N__law_right : List Str := ["_law_state", "_law_towards", "_law_due", "_law_longer", "_law_turned_so", "_law_far", "_law_shapes_so", "_law_toward_here", "_law_got", "_law_at", "_law_step"]
abbrev p__law_right : List Str := ["_law_state"]
theorem sc__law_right : FnScope N__law_right p__law_right (defScope st__law_right) := ⟨rfl, rfl, rfl, by decide +kernel, rfl, by decide +kernel, by decide +kernel⟩
noncomputable def b__law_right : Fs := (seqS (setS 1 (blF tupD (consA (lcF (rng1I (consA (callF f__law_draw (consA (varF 0) (consA (cF (.int 11)) nilA))) nilA)) (nameG 10) [10] yesB (callF f__law_toward (consA (varF 0) (consA (callF f__law_of (consA (varF 0) (consA (lstF (consA (cF (.int 4)) (consA (op2F powD (cF (.int 10)) (cF (.int 5))) nilA))) nilA))) nilA)))) nilA)))
  (seqS (setS 2 (callF f__law_sorted (consA (varF 1) nilA)))
  (seqS (setS 3 (blF tupD (consA (lcF (seqI (varF 1)) (nameG 7) [7] yesB (tupF (consA (op2F mulD (cF (.int 3)) (ixF (varF 7) (cF (.int 0)))) (consA (op2F mulD (cF (.int 3)) (ixF (varF 7) (cF (.int 1)))) nilA)))) nilA)))
  (seqS (ifS (notB (truB (callF f__law_like (consA (lstF (consA (callF f_in_order (consA (varF 1) nilA)) (consA (callF f_in_order (consA (op1F revD (varF 3)) nilA)) (consA (callF f_in_order (consA (varF 2) nilA)) nilA)))) (consA (op2F mulD (lstF (consA (varF 2) nilA)) (cF (.int 3))) nilA))))) (retS (cF (.bl false))) skipS)
  (seqS (setS 4 (blF tupD (consA (lcF (seqI (varF 2)) (nameG 7) [7] yesB (callF f_turned_left (consA (varF 7) nilA))) nilA)))
  (seqS (ifS (notB (truB (callF f__law_like (consA (varF 4) (consA (blF tupD (consA (lcF (seqI (varF 2)) (nameG 7) [7] yesB (tupF (consA (op1F negD (ixF (varF 7) (cF (.int 1)))) (consA (ixF (varF 7) (cF (.int 0))) nilA)))) nilA)) nilA))))) (retS (cF (.bl false))) skipS)
  (seqS (setS 5 (callF f_in_order (consA (varF 4) nilA)))
  (seqS (setS 6 (lcF (rng1I (consA (blF lenD (consA (varF 5) nilA)) nilA)) (nameG 9) [9] yesB (op2F addD (slF (varF 4) (someO (varF 9)) noO) (slF (varF 4) noO (someO (varF 9))))))
  (seqS (ifS (orB (cmpB (dC neD) (sortedF (consA (varF 5) nilA)) (sortedF (consA (varF 4) nilA))) (andB (cmpB (dC neD) (varF 5) (tupF nilA)) (cmpB notinA (varF 5) (varF 6)))) (retS (cF (.bl false))) skipS)
  (seqS (forS (seqI (varF 1)) (nameG 7) (seqS (setS 8 (lstF (consA (callF f_least_direction (consA (varF 7) nilA)) (consA (callF f_need_direction (consA (varF 7) nilA)) (consA (callF f_turned_left (consA (callF f_turned_left (consA (varF 7) nilA)) nilA)) nilA)))))
  (ifS (notB (truB (callF f__law_like (consA (varF 8) (consA (lstF (consA (callF f__law_plainly (consA (varF 7) nilA)) (consA (varF 7) (consA (tupF (consA (op1F negD (ixF (varF 7) (cF (.int 0)))) (consA (op1F negD (ixF (varF 7) (cF (.int 1)))) nilA))) nilA)))) nilA))))) (retS (cF (.bl false))) skipS)))
  (retS (cF (.bl true)))))))))))))
noncomputable def f__law_right : List U → Mem → Res U := fnS 11 b__law_right
theorem ok__law_right (G : Facts w K mg base T) : DefOk T true P w K mg base 6 "_law_right" p__law_right f__law_right := by
  obtain ⟨f, fd, F, hm⟩ := G.fn__law_right
  refine ⟨f, fd, hm, F.kp, F.bindsN fun _ _ _ _ _ _ us hl => match us, hl with | [_], _ => rfl, FnD.of (N := N__law_right) (g := b__law_right) F sc__law_right fun cdv hcdv A outer s H E hr hgd => ?_⟩
  unfold b__law_right
  exact (dss_cons (ds_set (i := 1) sc__law_right.nd rfl (by first | exact .inl rfl | exact .inr rfl) (de_tuple rfl G.z_tuple (da_cons (DF.de (df_lc (own := [("_law_step", 10)]) rfl sc__law_right.nd (di_range1 rfl G.z_range (da_cons (de_callD (ok__law_draw G) (hr.mono (by decide)) (fun h => nomatch h) (takes_of rfl rfl rfl rfl) rfl (da_cons (de_var (i := 0) rfl (by first | exact .inl rfl | exact .inr (.inl rfl) | exact .inr (.inr rfl))) (da_cons de_int da_nil))) da_nil)) (blkOk_by (own := [("_law_step", 10)]) (N := N__law_right) (sc := defScope st__law_right) (by decide +kernel)) (fun _ _ _ _ _ => (dg_name (i := 10) sc__law_right.nd rfl (by first | exact .inl rfl | exact .inr rfl))) (fun _ _ _ _ _ => dts_nil) (fun _ _ _ _ _ => (de_callD (ok__law_toward G) (hr.mono (by decide)) (fun h => nomatch h) LamX.takes0 rfl (da_cons (de_var (i := 0) rfl (by first | exact .inl rfl | exact .inr (.inl rfl) | exact .inr (.inr rfl))) (da_cons (de_callD (ok__law_of G) (hr.mono (by decide)) (fun h => nomatch h) LamX.takes0 rfl (da_cons (de_var (i := 0) rfl (by first | exact .inl rfl | exact .inr (.inl rfl) | exact .inr (.inr rfl))) (da_cons (de_lst (da_cons de_int (da_cons (de_pow de_int de_int) da_nil))) da_nil))) da_nil)))) (by decide))) da_nil)))
  (dss_cons (ds_set (i := 2) sc__law_right.nd rfl (by first | exact .inl rfl | exact .inr rfl) (de_callD (ok__law_sorted G) (hr.mono (by decide)) (fun h => nomatch h) (takes_of rfl rfl rfl rfl) rfl (da_cons (de_var (i := 1) rfl (by first | exact .inl rfl | exact .inr (.inl rfl) | exact .inr (.inr rfl))) da_nil)))
  (dss_cons (ds_set (i := 3) sc__law_right.nd rfl (by first | exact .inl rfl | exact .inr rfl) (de_tuple rfl G.z_tuple (da_cons (DF.de (df_lc (own := [("_law_toward_here", 7)]) rfl sc__law_right.nd (di_seq (de_var (i := 1) rfl (by first | exact .inl rfl | exact .inr (.inl rfl) | exact .inr (.inr rfl)))) (blkOk_by (own := [("_law_toward_here", 7)]) (N := N__law_right) (sc := defScope st__law_right) (by decide +kernel)) (fun _ _ _ _ _ => (dg_name (i := 7) sc__law_right.nd rfl (by first | exact .inl rfl | exact .inr rfl))) (fun _ _ _ _ _ => dts_nil) (fun _ _ _ _ _ => (de_tup (da_cons (de_mul de_int (de_ix (room1 hr) (de_var (i := 7) rfl (by first | exact .inl rfl | exact .inr (.inl rfl) | exact .inr (.inr rfl))) de_int)) (da_cons (de_mul de_int (de_ix (room1 hr) (de_var (i := 7) rfl (by first | exact .inl rfl | exact .inr (.inl rfl) | exact .inr (.inr rfl))) de_int)) da_nil)))) (by decide))) da_nil)))
  (dss_cons (ds_if (dt_not (dt_val (de_callD (ok__law_like G) (hr.mono (by decide)) hgd (takes_of rfl rfl rfl rfl) rfl (da_cons (de_lst (da_cons (de_callD (ok_in_order G) (hr.mono (by decide)) (fun h => nomatch h) (takes_of rfl rfl rfl rfl) rfl (da_cons (de_var (i := 1) rfl (by first | exact .inl rfl | exact .inr (.inl rfl) | exact .inr (.inr rfl))) da_nil)) (da_cons (de_callD (ok_in_order G) (hr.mono (by decide)) (fun h => nomatch h) (takes_of rfl rfl rfl rfl) rfl (da_cons (de_rev (de_var (i := 3) rfl (by first | exact .inl rfl | exact .inr (.inl rfl) | exact .inr (.inr rfl)))) da_nil)) (da_cons (de_callD (ok_in_order G) (hr.mono (by decide)) (fun h => nomatch h) (takes_of rfl rfl rfl rfl) rfl (da_cons (de_var (i := 2) rfl (by first | exact .inl rfl | exact .inr (.inl rfl) | exact .inr (.inr rfl))) da_nil)) da_nil)))) (da_cons (de_mul (de_lst (da_cons (de_var (i := 2) rfl (by first | exact .inl rfl | exact .inr (.inl rfl) | exact .inr (.inr rfl))) da_nil)) de_int) da_nil))))) (dss_one (ds_ret de_bl)) dss_nil)
  (dss_cons (ds_set (i := 4) sc__law_right.nd rfl (by first | exact .inl rfl | exact .inr rfl) (de_tuple rfl G.z_tuple (da_cons (DF.de (df_lc (own := [("_law_toward_here", 7)]) rfl sc__law_right.nd (di_seq (de_var (i := 2) rfl (by first | exact .inl rfl | exact .inr (.inl rfl) | exact .inr (.inr rfl)))) (blkOk_by (own := [("_law_toward_here", 7)]) (N := N__law_right) (sc := defScope st__law_right) (by decide +kernel)) (fun _ _ _ _ _ => (dg_name (i := 7) sc__law_right.nd rfl (by first | exact .inl rfl | exact .inr rfl))) (fun _ _ _ _ _ => dts_nil) (fun _ _ _ _ _ => (de_callD (ok_turned_left G) (hr.mono (by decide)) (fun h => nomatch h) LamX.takes0 rfl (da_cons (de_var (i := 7) rfl (by first | exact .inl rfl | exact .inr (.inl rfl) | exact .inr (.inr rfl))) da_nil))) (by decide))) da_nil)))
  (dss_cons (ds_if (dt_not (dt_val (de_callD (ok__law_like G) (hr.mono (by decide)) hgd (takes_of rfl rfl rfl rfl) rfl (da_cons (de_var (i := 4) rfl (by first | exact .inl rfl | exact .inr (.inl rfl) | exact .inr (.inr rfl))) (da_cons (de_tuple rfl G.z_tuple (da_cons (DF.de (df_lc (own := [("_law_toward_here", 7)]) rfl sc__law_right.nd (di_seq (de_var (i := 2) rfl (by first | exact .inl rfl | exact .inr (.inl rfl) | exact .inr (.inr rfl)))) (blkOk_by (own := [("_law_toward_here", 7)]) (N := N__law_right) (sc := defScope st__law_right) (by decide +kernel)) (fun _ _ _ _ _ => (dg_name (i := 7) sc__law_right.nd rfl (by first | exact .inl rfl | exact .inr rfl))) (fun _ _ _ _ _ => dts_nil) (fun _ _ _ _ _ => (de_tup (da_cons (de_neg (de_ix (room1 hr) (de_var (i := 7) rfl (by first | exact .inl rfl | exact .inr (.inl rfl) | exact .inr (.inr rfl))) de_int)) (da_cons (de_ix (room1 hr) (de_var (i := 7) rfl (by first | exact .inl rfl | exact .inr (.inl rfl) | exact .inr (.inr rfl))) de_int) da_nil)))) (by decide))) da_nil)) da_nil))))) (dss_one (ds_ret de_bl)) dss_nil)
  (dss_cons (ds_set (i := 5) sc__law_right.nd rfl (by first | exact .inl rfl | exact .inr rfl) (de_callD (ok_in_order G) (hr.mono (by decide)) (fun h => nomatch h) (takes_of rfl rfl rfl rfl) rfl (da_cons (de_var (i := 4) rfl (by first | exact .inl rfl | exact .inr (.inl rfl) | exact .inr (.inr rfl))) da_nil)))
  (dss_cons (ds_setLc (own := [("_law_at", 9)]) (i := 6) rfl sc__law_right.nd rfl rfl (sw_true rfl rfl rfl (by decide +kernel)) (di_range1 rfl G.z_range (da_cons (de_len rfl G.z_len (da_cons (de_var (i := 5) rfl (by first | exact .inl rfl | exact .inr (.inl rfl) | exact .inr (.inr rfl))) da_nil)) da_nil)) (blkOk_by (own := [("_law_at", 9)]) (N := N__law_right) (sc := defScope st__law_right) (by decide +kernel)) (fun _ _ _ _ _ => (dg_name (i := 9) sc__law_right.nd rfl (by first | exact .inl rfl | exact .inr rfl))) (fun _ _ _ _ _ => dts_nil) (fun _ _ _ _ _ => (de_add (de_sl (de_var (i := 4) rfl (by first | exact .inl rfl | exact .inr (.inl rfl) | exact .inr (.inr rfl))) (do_some (de_var (i := 9) rfl (by first | exact .inl rfl | exact .inr (.inl rfl) | exact .inr (.inr rfl)))) do_none) (de_sl (de_var (i := 4) rfl (by first | exact .inl rfl | exact .inr (.inl rfl) | exact .inr (.inr rfl))) do_none (do_some (de_var (i := 9) rfl (by first | exact .inl rfl | exact .inr (.inl rfl) | exact .inr (.inr rfl))))))) (by decide))
  (dss_cons (ds_if (DW.dt (dw_or (dt_cmp (cmp_ne (room64 hr)) (DF.de (df_sorted rfl (room66 hr) rfl G.z_sorted (da_cons (de_var (i := 5) rfl (by first | exact .inl rfl | exact .inr (.inl rfl) | exact .inr (.inr rfl))) da_nil))) (DF.de (df_sorted rfl (room66 hr) rfl G.z_sorted (da_cons (de_var (i := 4) rfl (by first | exact .inl rfl | exact .inr (.inl rfl) | exact .inr (.inr rfl))) da_nil)))) (dw_or1 (DW.dt (dw_and (dt_cmp (cmp_ne (room64 hr)) (de_var (i := 5) rfl (by first | exact .inl rfl | exact .inr (.inl rfl) | exact .inr (.inr rfl))) (de_tup da_nil)) (dw_and1 (dt_cmp (cmp_notin' (room65 hr)) (de_var (i := 5) rfl (by first | exact .inl rfl | exact .inr (.inl rfl) | exact .inr (.inr rfl))) (de_var (i := 6) rfl (by first | exact .inl rfl | exact .inr (.inl rfl) | exact .inr (.inr rfl)))))))))) (dss_one (ds_ret de_bl)) dss_nil)
  (dss_cons (ds_for (passes_of rfl) rfl (di_seq (de_var (i := 1) rfl (by first | exact .inl rfl | exact .inr (.inl rfl) | exact .inr (.inr rfl)))) (dg_name (i := 7) sc__law_right.nd rfl (by first | exact .inl rfl | exact .inr rfl)) (dss_cons (ds_set (i := 8) sc__law_right.nd rfl (by first | exact .inl rfl | exact .inr rfl) (de_lst (da_cons (de_callD (ok_least_direction G) (hr.mono (by decide)) (fun h => nomatch h) (takes_of rfl rfl rfl rfl) rfl (da_cons (de_var (i := 7) rfl (by first | exact .inl rfl | exact .inr (.inl rfl) | exact .inr (.inr rfl))) da_nil)) (da_cons (de_callD (ok_need_direction G) (hr.mono (by decide)) (fun h => nomatch h) (takes_of rfl rfl rfl rfl) rfl (da_cons (de_var (i := 7) rfl (by first | exact .inl rfl | exact .inr (.inl rfl) | exact .inr (.inr rfl))) da_nil)) (da_cons (de_callD (ok_turned_left G) (hr.mono (by decide)) (fun h => nomatch h) (takes_of rfl rfl rfl rfl) rfl (da_cons (de_callD (ok_turned_left G) (hr.mono (by decide)) (fun h => nomatch h) (takes_of rfl rfl rfl rfl) rfl (da_cons (de_var (i := 7) rfl (by first | exact .inl rfl | exact .inr (.inl rfl) | exact .inr (.inr rfl))) da_nil)) da_nil)) da_nil)))))
  (dss_one (ds_if (dt_not (dt_val (de_callD (ok__law_like G) (hr.mono (by decide)) hgd (takes_of rfl rfl rfl rfl) rfl (da_cons (de_var (i := 8) rfl (by first | exact .inl rfl | exact .inr (.inl rfl) | exact .inr (.inr rfl))) (da_cons (de_lst (da_cons (de_callD (ok__law_plainly G) (hr.mono (by decide)) (fun h => nomatch h) (takes_of rfl rfl rfl rfl) rfl (da_cons (de_var (i := 7) rfl (by first | exact .inl rfl | exact .inr (.inl rfl) | exact .inr (.inr rfl))) da_nil)) (da_cons (de_var (i := 7) rfl (by first | exact .inl rfl | exact .inr (.inl rfl) | exact .inr (.inr rfl))) (da_cons (de_tup (da_cons (de_neg (de_ix (room1 hr) (de_var (i := 7) rfl (by first | exact .inl rfl | exact .inr (.inl rfl) | exact .inr (.inr rfl))) de_int)) (da_cons (de_neg (de_ix (room1 hr) (de_var (i := 7) rfl (by first | exact .inl rfl | exact .inr (.inl rfl) | exact .inr (.inr rfl))) de_int)) da_nil))) da_nil)))) da_nil))))) (dss_one (ds_ret de_bl)) dss_nil))))
  (dss_one (ds_ret de_bl))))))))))))
abbrev N_law : List Str := ["_law_script", "_law_state", "_law_turn"]
abbrev p_law : List Str := ["_law_script"]
theorem sc_law : FnScope N_law p_law (defScope st_law) := ⟨rfl, rfl, rfl, by decide +kernel, rfl, by decide +kernel, by decide +kernel⟩
noncomputable def b_law : Fs := (seqS (setS 1 (callF f__law_begin (consA (varF 0) nilA)))
  (seqS (forS (rng1I (consA (cF (.int 3)) nilA)) (nameG 2) (ifS (notB (truB (callF f__law_right (consA (varF 1) nilA)))) (retS (cF (.bl false))) skipS))
  (retS (callF f__law_by_hand nilA))))
noncomputable def f_law : List U → Mem → Res U := fnS 3 b_law
theorem run_law (G : Facts w K mg base T) {f : Addr} {fd : FuncData} (F : FunD K "law" "law" (defArgs st_law) (defBody st_law) (defScope st_law) [] [] f fd) : FnD T true P w K mg base 9 f fd p_law f_law := by
  refine FnD.of (N := N_law) (g := b_law) F sc_law fun cdv hcdv A outer s H E hr hgd => ?_
  unfold b_law
  exact (dss_cons (ds_set (i := 1) sc_law.nd rfl (by first | exact .inl rfl | exact .inr rfl) (de_callD (ok__law_begin G) (hr.mono (by decide)) (fun h => nomatch h) (takes_of rfl rfl rfl rfl) rfl (da_cons (de_var (i := 0) rfl (by first | exact .inl rfl | exact .inr (.inl rfl) | exact .inr (.inr rfl))) da_nil)))
  (dss_cons (ds_for (passes_of rfl) rfl (di_range1 rfl G.z_range (da_cons de_int da_nil)) (dg_name (i := 2) sc_law.nd rfl (by first | exact .inl rfl | exact .inr rfl)) (dss_one (ds_if (dt_not (dt_val (de_callD (ok__law_right G) (hr.mono (by decide)) hgd (takes_of rfl rfl rfl rfl) rfl (da_cons (de_var (i := 1) rfl (by first | exact .inl rfl | exact .inr (.inl rfl) | exact .inr (.inr rfl))) da_nil)))) (dss_one (ds_ret de_bl)) dss_nil)))
  (dss_one (ds_ret (de_call0 (ok__law_by_hand G) (hr.mono (by decide)) hgd (takes_of rfl rfl rfl rfl) rfl)))))
end
def nm0 : List Str := ["IslandError", "BadPlace", "BadIsland", "BadDirection", "BadParameter", "NoRow", "TooGreat", "MOST_PLACE", "MOST_DIRECTION", "MOST_DIRECTIONS", "is_from", "is_pair_from", "is_place", "is_direction", "need_place", "need_direction", "dot_so", "cross_so", "plain_of", "half_of", "comes_ahead", "ordered", "dot", "least_direction", "turned_left", "in_order", "_law_mixed", "_law_begin", "_law_draw", "_law_of"]
def nm1 : List Str := ["_law_divisor", "_law_like", "_law_heard", "_law_toward", "_law_plainly", "_law_half", "_law_ahead", "_law_sorted", "_law_right", "_law_by_hand"]
def names : List Str := nm0 ++ nm1
def inSt (st : Stmt) : Stmt := match st with | .ClassDef (body := b) .. => b.getD 0 (.Pass ⟨0, 0, 0, 0⟩) | _ => .Pass ⟨0, 0, 0, 0⟩
def d__law_begin : He.DefD := ⟨("_law_begin", none), "_law_begin", "_law_begin", defArgs st__law_begin, defBody st__law_begin, defScope st__law_begin, [], []⟩
def d_is_from : He.DefD := ⟨("is_from", none), "is_from", "is_from", defArgs st_is_from, defBody st_is_from, defScope st_is_from, [], []⟩
def d_is_pair_from : He.DefD := ⟨("is_pair_from", none), "is_pair_from", "is_pair_from", defArgs st_is_pair_from, defBody st_is_pair_from, defScope st_is_pair_from, [], []⟩
def d_is_direction : He.DefD := ⟨("is_direction", none), "is_direction", "is_direction", defArgs st_is_direction, defBody st_is_direction, defScope st_is_direction, [], []⟩
def d_need_direction : He.DefD := ⟨("need_direction", none), "need_direction", "need_direction", defArgs st_need_direction, defBody st_need_direction, defScope st_need_direction, [], []⟩
def d_plain_of : He.DefD := ⟨("plain_of", none), "plain_of", "plain_of", defArgs st_plain_of, defBody st_plain_of, defScope st_plain_of, [], []⟩
def d_half_of : He.DefD := ⟨("half_of", none), "half_of", "half_of", defArgs st_half_of, defBody st_half_of, defScope st_half_of, [], []⟩
def d_cross_so : He.DefD := ⟨("cross_so", none), "cross_so", "cross_so", defArgs st_cross_so, defBody st_cross_so, defScope st_cross_so, [], []⟩
def d_comes_ahead : He.DefD := ⟨("comes_ahead", none), "comes_ahead", "comes_ahead", defArgs st_comes_ahead, defBody st_comes_ahead, defScope st_comes_ahead, [], []⟩
def d_ordered : He.DefD := ⟨("ordered", none), "ordered", "ordered", defArgs st_ordered, defBody st_ordered, defScope st_ordered, [], []⟩
def d_in_order : He.DefD := ⟨("in_order", none), "in_order", "in_order", defArgs st_in_order, defBody st_in_order, defScope st_in_order, [], []⟩
def d_least_direction : He.DefD := ⟨("least_direction", none), "least_direction", "least_direction", defArgs st_least_direction, defBody st_least_direction, defScope st_least_direction, [], []⟩
def d__law_like : He.DefD := ⟨("_law_like", none), "_law_like", "_law_like", defArgs st__law_like, defBody st__law_like, defScope st__law_like, [], []⟩
def d__law_heard : He.DefD := ⟨("_law_heard", none), "_law_heard", "_law_heard", defArgs st__law_heard, defBody st__law_heard, defScope st__law_heard, [], []⟩
def d_turned_left : He.DefD := ⟨("turned_left", none), "turned_left", "turned_left", defArgs st_turned_left, defBody st_turned_left, defScope st_turned_left, [], []⟩
def d_dot_so : He.DefD := ⟨("dot_so", none), "dot_so", "dot_so", defArgs st_dot_so, defBody st_dot_so, defScope st_dot_so, [], []⟩
def d_is_place : He.DefD := ⟨("is_place", none), "is_place", "is_place", defArgs st_is_place, defBody st_is_place, defScope st_is_place, [], []⟩
def d_need_place : He.DefD := ⟨("need_place", none), "need_place", "need_place", defArgs st_need_place, defBody st_need_place, defScope st_need_place, [], []⟩
def d_dot : He.DefD := ⟨("dot", none), "dot", "dot", defArgs st_dot, defBody st_dot, defScope st_dot, [], []⟩
def d__law_by_hand : He.DefD := ⟨("_law_by_hand", none), "_law_by_hand", "_law_by_hand", defArgs st__law_by_hand, defBody st__law_by_hand, defScope st__law_by_hand, [], []⟩
def d__law_divisor : He.DefD := ⟨("_law_divisor", none), "_law_divisor", "_law_divisor", defArgs st__law_divisor, defBody st__law_divisor, defScope st__law_divisor, [], []⟩
def d__law_plainly : He.DefD := ⟨("_law_plainly", none), "_law_plainly", "_law_plainly", defArgs st__law_plainly, defBody st__law_plainly, defScope st__law_plainly, [], []⟩
def d__law_half : He.DefD := ⟨("_law_half", none), "_law_half", "_law_half", defArgs st__law_half, defBody st__law_half, defScope st__law_half, [], []⟩
def d__law_ahead : He.DefD := ⟨("_law_ahead", none), "_law_ahead", "_law_ahead", defArgs st__law_ahead, defBody st__law_ahead, defScope st__law_ahead, [], []⟩
def d__law_sorted : He.DefD := ⟨("_law_sorted", none), "_law_sorted", "_law_sorted", defArgs st__law_sorted, defBody st__law_sorted, defScope st__law_sorted, [], []⟩
def d__law_mixed : He.DefD := ⟨("_law_mixed", none), "_law_mixed", "_law_mixed", defArgs st__law_mixed, defBody st__law_mixed, defScope st__law_mixed, [], []⟩
def d__law_draw : He.DefD := ⟨("_law_draw", none), "_law_draw", "_law_draw", defArgs st__law_draw, defBody st__law_draw, defScope st__law_draw, [], []⟩
def d__law_toward : He.DefD := ⟨("_law_toward", none), "_law_toward", "_law_toward", defArgs st__law_toward, defBody st__law_toward, defScope st__law_toward, [], []⟩
def d__law_of : He.DefD := ⟨("_law_of", none), "_law_of", "_law_of", defArgs st__law_of, defBody st__law_of, defScope st__law_of, [], []⟩
def d__law_right : He.DefD := ⟨("_law_right", none), "_law_right", "_law_right", defArgs st__law_right, defBody st__law_right, defScope st__law_right, [], []⟩
def d_law : He.DefD := ⟨("law", none), "law", "law", defArgs st_law, defBody st_law, defScope st_law, [], []⟩
def fn : List He.DefD := [d__law_begin, d_is_from, d_is_pair_from, d_is_direction, d_need_direction, d_plain_of, d_half_of, d_cross_so, d_comes_ahead, d_ordered, d_in_order, d_least_direction, d__law_like, d__law_heard, d_turned_left, d_dot_so, d_is_place, d_need_place, d_dot, d__law_by_hand, d__law_divisor, d__law_plainly, d__law_half, d__law_ahead, d__law_sorted, d__law_mixed, d__law_draw, d__law_toward, d__law_of, d__law_right, d_law]
def fa0 : List He.Fa := [.glo "_law_begin", .glo "is_from", .glo "is_pair_from", .glo "is_direction", .glo "need_direction", .glo "plain_of", .glo "half_of", .glo "cross_so", .glo "comes_ahead", .glo "ordered", .glo "in_order", .glo "least_direction", .glo "_law_like", .glo "_law_heard", .glo "turned_left", .glo "dot_so", .glo "is_place", .glo "need_place", .glo "dot", .glo "_law_by_hand", .glo "_law_divisor", .glo "_law_plainly", .glo "_law_half", .glo "_law_ahead", .glo "_law_sorted", .glo "_law_mixed", .glo "_law_draw", .glo "_law_toward", .glo "_law_of", .glo "_law_right"]
def fa1 : List He.Fa := [.glo "law", .int "MOST_PLACE" 1000000000, .int "MOST_DIRECTION" 1000000, .int "MOST_DIRECTIONS" 60, .free "bool", .free "int", .free "isinstance", .free "len", .free "list", .free "max", .free "range", .free "repr", .free "sorted", .free "tuple"]
def fa : List He.Fa := fa0 ++ fa1
abbrev is_BadPlace : Stmt := inSt (top 3)
def e_BadPlace : ExD := ⟨"BadPlace", "value", "BadPlace.__init__", defArgs is_BadPlace, defBody is_BadPlace, defScope is_BadPlace⟩
abbrev is_BadDirection : Stmt := inSt (top 5)
def e_BadDirection : ExD := ⟨"BadDirection", "value", "BadDirection.__init__", defArgs is_BadDirection, defBody is_BadDirection, defScope is_BadDirection⟩
abbrev is_BadParameter : Stmt := inSt (top 6)
def e_BadParameter : ExD := ⟨"BadParameter", "value", "BadParameter.__init__", defArgs is_BadParameter, defBody is_BadParameter, defScope is_BadParameter⟩
def exs : List ExD := [e_BadPlace, e_BadDirection, e_BadParameter]
def catl : List CatD := [k_BadPlace, k_BadIsland, k_BadDirection, k_BadParameter, k_NoRow, k_TooGreat]
def tf : List He.Defn := [("_law_by_hand", none)]
def blts : List (Str × String) := [("gcd", "math.gcd")]
def file : Str := P.main.file
abbrev R : PySem.W.OpenRow := PySem.W.OpenLaw.row PySem.Challenge.rw_allislands_k03_whole_directions_in_order
abbrev hk : PySem.W.Hook := hookM 4 fa fn tf file exs catl blts
def ob (s : PySem.W.SharedT) : AlM := obsM 4 fa fn tf file exs catl blts (HandSHeadRun.getT s)
theorem ob_eq (s : PySem.W.SharedT) : ob s = hk.obs s.abs := obsM_eq (HandSHeadRun.getT_eq s)
theorem run (w : World) : HandSHeadRun.RunEqI R (PySem.W.view R.prog [0, 44]) hk ob 6000 names w := by
  unfold HandSHeadRun.RunEqI
  kernel_rfl
def Tb (K : PySem.W.Frag) : List (Addr × Str) := [((He.cT K ("_law_by_hand", none)).2, ("_law_by_hand" : Str) ++ ".<locals>." ++ "<lambda>")]
section
variable {w : World} {K : PySem.W.Frag} {mg : Str → Option Value} {base h : Heap}
theorem ex_BadPlace (X : K.In h) (N : h.Ns mainGlobals mg) (c : SaysM fa fn tf file exs catl blts w h K) : ExOk P K mg e_BadPlace := by
  have z := c.exc (d := e_BadPlace) (by simp [exs])
  exact exOk_of X N z.1 z.2.1 z.2.2 ⟨rfl, rfl, rfl, rfl, rfl, rfl, rfl, by decide +kernel, by decide +kernel⟩ ⟨_, rfl, rfl⟩ (by rfl)
theorem ra_BadPlace (X : K.In h) (N : h.Ns mainGlobals mg) (c : SaysM fa fn tf file exs catl blts w h K) : RaiseOk P w K mg base "BadPlace" "value" :=
  raise_of (by first | exact .inl rfl | exact .inr (.inl rfl) | exact .inr (.inr (.inl rfl)) | exact .inr (.inr (.inr rfl))) (ex_BadPlace X N c) rfl (fun env => ⟨_, rfl⟩) fun _ _ _ _ _ _ _ us hl => match us, hl with | [_, _], _ => rfl
theorem ex_BadDirection (X : K.In h) (N : h.Ns mainGlobals mg) (c : SaysM fa fn tf file exs catl blts w h K) : ExOk P K mg e_BadDirection := by
  have z := c.exc (d := e_BadDirection) (by simp [exs])
  exact exOk_of X N z.1 z.2.1 z.2.2 ⟨rfl, rfl, rfl, rfl, rfl, rfl, rfl, by decide +kernel, by decide +kernel⟩ ⟨_, rfl, rfl⟩ (by rfl)
theorem ra_BadDirection (X : K.In h) (N : h.Ns mainGlobals mg) (c : SaysM fa fn tf file exs catl blts w h K) : RaiseOk P w K mg base "BadDirection" "value" :=
  raise_of (by first | exact .inl rfl | exact .inr (.inl rfl) | exact .inr (.inr (.inl rfl)) | exact .inr (.inr (.inr rfl))) (ex_BadDirection X N c) rfl (fun env => ⟨_, rfl⟩) fun _ _ _ _ _ _ _ us hl => match us, hl with | [_, _], _ => rfl
theorem ex_BadParameter (X : K.In h) (N : h.Ns mainGlobals mg) (c : SaysM fa fn tf file exs catl blts w h K) : ExOk P K mg e_BadParameter := by
  have z := c.exc (d := e_BadParameter) (by simp [exs])
  exact exOk_of X N z.1 z.2.1 z.2.2 ⟨rfl, rfl, rfl, rfl, rfl, rfl, rfl, by decide +kernel, by decide +kernel⟩ ⟨_, rfl, rfl⟩ (by rfl)
theorem ra_BadParameter (X : K.In h) (N : h.Ns mainGlobals mg) (c : SaysM fa fn tf file exs catl blts w h K) : RaiseOk P w K mg base "BadParameter" "value" :=
  raise_of (by first | exact .inl rfl | exact .inr (.inl rfl) | exact .inr (.inr (.inl rfl)) | exact .inr (.inr (.inr rfl))) (ex_BadParameter X N c) rfl (fun env => ⟨_, rfl⟩) fun _ _ _ _ _ _ _ us hl => match us, hl with | [_, _], _ => rfl
theorem facts (X : K.In h) (N : h.Ns mainGlobals mg) (c : SaysM fa fn tf file exs catl blts w h K) (tb : ∀ p ∈ tf.map (He.cT K), LamX.TabB base mg p.1 p.2) : Facts w K mg base (Tb K) where
  fn__law_begin := by
    obtain ⟨fd, F⟩ := c.t.d.def_ 0 (d := d__law_begin) rfl
    exact ⟨_, fd, F, He.glo_ok X N (c.t.d.fact 0 (f := .glo "_law_begin") rfl)⟩
  fn_is_from := by
    obtain ⟨fd, F⟩ := c.t.d.def_ 1 (d := d_is_from) rfl
    exact ⟨_, fd, F, He.glo_ok X N (c.t.d.fact 1 (f := .glo "is_from") rfl)⟩
  fn_is_pair_from := by
    obtain ⟨fd, F⟩ := c.t.d.def_ 2 (d := d_is_pair_from) rfl
    exact ⟨_, fd, F, He.glo_ok X N (c.t.d.fact 2 (f := .glo "is_pair_from") rfl)⟩
  fn_is_direction := by
    obtain ⟨fd, F⟩ := c.t.d.def_ 3 (d := d_is_direction) rfl
    exact ⟨_, fd, F, He.glo_ok X N (c.t.d.fact 3 (f := .glo "is_direction") rfl)⟩
  fn_need_direction := by
    obtain ⟨fd, F⟩ := c.t.d.def_ 4 (d := d_need_direction) rfl
    exact ⟨_, fd, F, He.glo_ok X N (c.t.d.fact 4 (f := .glo "need_direction") rfl)⟩
  fn_plain_of := by
    obtain ⟨fd, F⟩ := c.t.d.def_ 5 (d := d_plain_of) rfl
    exact ⟨_, fd, F, He.glo_ok X N (c.t.d.fact 5 (f := .glo "plain_of") rfl)⟩
  fn_half_of := by
    obtain ⟨fd, F⟩ := c.t.d.def_ 6 (d := d_half_of) rfl
    exact ⟨_, fd, F, He.glo_ok X N (c.t.d.fact 6 (f := .glo "half_of") rfl)⟩
  fn_cross_so := by
    obtain ⟨fd, F⟩ := c.t.d.def_ 7 (d := d_cross_so) rfl
    exact ⟨_, fd, F, He.glo_ok X N (c.t.d.fact 7 (f := .glo "cross_so") rfl)⟩
  fn_comes_ahead := by
    obtain ⟨fd, F⟩ := c.t.d.def_ 8 (d := d_comes_ahead) rfl
    exact ⟨_, fd, F, He.glo_ok X N (c.t.d.fact 8 (f := .glo "comes_ahead") rfl)⟩
  fn_ordered := by
    obtain ⟨fd, F⟩ := c.t.d.def_ 9 (d := d_ordered) rfl
    exact ⟨_, fd, F, He.glo_ok X N (c.t.d.fact 9 (f := .glo "ordered") rfl)⟩
  fn_in_order := by
    obtain ⟨fd, F⟩ := c.t.d.def_ 10 (d := d_in_order) rfl
    exact ⟨_, fd, F, He.glo_ok X N (c.t.d.fact 10 (f := .glo "in_order") rfl)⟩
  fn_least_direction := by
    obtain ⟨fd, F⟩ := c.t.d.def_ 11 (d := d_least_direction) rfl
    exact ⟨_, fd, F, He.glo_ok X N (c.t.d.fact 11 (f := .glo "least_direction") rfl)⟩
  fn__law_like := by
    obtain ⟨fd, F⟩ := c.t.d.def_ 12 (d := d__law_like) rfl
    exact ⟨_, fd, F, He.glo_ok X N (c.t.d.fact 12 (f := .glo "_law_like") rfl)⟩
  fn__law_heard := by
    obtain ⟨fd, F⟩ := c.t.d.def_ 13 (d := d__law_heard) rfl
    exact ⟨_, fd, F, He.glo_ok X N (c.t.d.fact 13 (f := .glo "_law_heard") rfl)⟩
  fn_turned_left := by
    obtain ⟨fd, F⟩ := c.t.d.def_ 14 (d := d_turned_left) rfl
    exact ⟨_, fd, F, He.glo_ok X N (c.t.d.fact 14 (f := .glo "turned_left") rfl)⟩
  fn_dot_so := by
    obtain ⟨fd, F⟩ := c.t.d.def_ 15 (d := d_dot_so) rfl
    exact ⟨_, fd, F, He.glo_ok X N (c.t.d.fact 15 (f := .glo "dot_so") rfl)⟩
  fn_is_place := by
    obtain ⟨fd, F⟩ := c.t.d.def_ 16 (d := d_is_place) rfl
    exact ⟨_, fd, F, He.glo_ok X N (c.t.d.fact 16 (f := .glo "is_place") rfl)⟩
  fn_need_place := by
    obtain ⟨fd, F⟩ := c.t.d.def_ 17 (d := d_need_place) rfl
    exact ⟨_, fd, F, He.glo_ok X N (c.t.d.fact 17 (f := .glo "need_place") rfl)⟩
  fn_dot := by
    obtain ⟨fd, F⟩ := c.t.d.def_ 18 (d := d_dot) rfl
    exact ⟨_, fd, F, He.glo_ok X N (c.t.d.fact 18 (f := .glo "dot") rfl)⟩
  fn__law_by_hand := by
    obtain ⟨fd, F⟩ := c.t.d.def_ 19 (d := d__law_by_hand) rfl
    exact ⟨_, fd, He.codeOf K ("_law_by_hand", none), _, F, He.glo_ok X N (c.t.d.fact 19 (f := .glo "_law_by_hand") rfl), code_ref (p := ("_law_by_hand", none)) F, tb (He.cT K ("_law_by_hand", none)) (List.mem_map_of_mem (by simp [tf])), by simp [Tb], fun p hp _ => by simp [Tb] at hp; rw [hp]⟩
  fn__law_divisor := by
    obtain ⟨fd, F⟩ := c.t.d.def_ 20 (d := d__law_divisor) rfl
    exact ⟨_, fd, F, He.glo_ok X N (c.t.d.fact 20 (f := .glo "_law_divisor") rfl)⟩
  fn__law_plainly := by
    obtain ⟨fd, F⟩ := c.t.d.def_ 21 (d := d__law_plainly) rfl
    exact ⟨_, fd, F, He.glo_ok X N (c.t.d.fact 21 (f := .glo "_law_plainly") rfl)⟩
  fn__law_half := by
    obtain ⟨fd, F⟩ := c.t.d.def_ 22 (d := d__law_half) rfl
    exact ⟨_, fd, F, He.glo_ok X N (c.t.d.fact 22 (f := .glo "_law_half") rfl)⟩
  fn__law_ahead := by
    obtain ⟨fd, F⟩ := c.t.d.def_ 23 (d := d__law_ahead) rfl
    exact ⟨_, fd, F, He.glo_ok X N (c.t.d.fact 23 (f := .glo "_law_ahead") rfl)⟩
  fn__law_sorted := by
    obtain ⟨fd, F⟩ := c.t.d.def_ 24 (d := d__law_sorted) rfl
    exact ⟨_, fd, F, He.glo_ok X N (c.t.d.fact 24 (f := .glo "_law_sorted") rfl)⟩
  fn__law_mixed := by
    obtain ⟨fd, F⟩ := c.t.d.def_ 25 (d := d__law_mixed) rfl
    exact ⟨_, fd, F, He.glo_ok X N (c.t.d.fact 25 (f := .glo "_law_mixed") rfl)⟩
  fn__law_draw := by
    obtain ⟨fd, F⟩ := c.t.d.def_ 26 (d := d__law_draw) rfl
    exact ⟨_, fd, F, He.glo_ok X N (c.t.d.fact 26 (f := .glo "_law_draw") rfl)⟩
  fn__law_toward := by
    obtain ⟨fd, F⟩ := c.t.d.def_ 27 (d := d__law_toward) rfl
    exact ⟨_, fd, F, He.glo_ok X N (c.t.d.fact 27 (f := .glo "_law_toward") rfl)⟩
  fn__law_of := by
    obtain ⟨fd, F⟩ := c.t.d.def_ 28 (d := d__law_of) rfl
    exact ⟨_, fd, F, He.glo_ok X N (c.t.d.fact 28 (f := .glo "_law_of") rfl)⟩
  fn__law_right := by
    obtain ⟨fd, F⟩ := c.t.d.def_ 29 (d := d__law_right) rfl
    exact ⟨_, fd, F, He.glo_ok X N (c.t.d.fact 29 (f := .glo "_law_right") rfl)⟩
  fn_law := by
    obtain ⟨fd, F⟩ := c.t.d.def_ 30 (d := d_law) rfl
    exact ⟨_, fd, F, He.glo_ok X N (c.t.d.fact 30 (f := .glo "law") rfl)⟩
  i_MOST_PLACE := He.int_ok X N (c.t.d.fact 31 (f := .int "MOST_PLACE" 1000000000) rfl)
  i_MOST_DIRECTION := He.int_ok X N (c.t.d.fact 32 (f := .int "MOST_DIRECTION" 1000000) rfl)
  i_MOST_DIRECTIONS := He.int_ok X N (c.t.d.fact 33 (f := .int "MOST_DIRECTIONS" 60) rfl)
  z_bool := He.free_ok X N (c.t.d.fact 34 (f := .free "bool") rfl)
  z_int := He.free_ok X N (c.t.d.fact 35 (f := .free "int") rfl)
  z_isinstance := He.free_ok X N (c.t.d.fact 36 (f := .free "isinstance") rfl)
  z_len := He.free_ok X N (c.t.d.fact 37 (f := .free "len") rfl)
  z_list := He.free_ok X N (c.t.d.fact 38 (f := .free "list") rfl)
  z_max := He.free_ok X N (c.t.d.fact 39 (f := .free "max") rfl)
  z_range := He.free_ok X N (c.t.d.fact 40 (f := .free "range") rfl)
  z_repr := He.free_ok X N (c.t.d.fact 41 (f := .free "repr") rfl)
  z_sorted := He.free_ok X N (c.t.d.fact 42 (f := .free "sorted") rfl)
  z_tuple := He.free_ok X N (c.t.d.fact 43 (f := .free "tuple") rfl)
  b_gcd := blt_of (p := ("gcd", "math.gcd")) X N c (by simp [blts])
  r_BadPlace := ra_BadPlace X N c
  r_BadDirection := ra_BadDirection X N c
  r_BadParameter := ra_BadParameter X N c
  x_BadPlace := cat_of X N c (by simp [catl])
  x_BadIsland := cat_of X N c (by simp [catl])
  x_BadDirection := cat_of X N c (by simp [catl])
  x_BadParameter := cat_of X N c (by simp [catl])
  x_NoRow := cat_of X N c (by simp [catl])
  x_TooGreat := cat_of X N c (by simp [catl])
  sub := sub_of X N c (fun a ha => by
    simp only [List.mem_cons, List.not_mem_nil, or_false] at ha
    rcases ha with rfl | rfl | rfl | rfl | rfl | rfl
    · exact ⟨k_BadPlace, by simp [catl], rfl⟩
    · exact ⟨k_BadIsland, by simp [catl], rfl⟩
    · exact ⟨k_BadDirection, by simp [catl], rfl⟩
    · exact ⟨k_BadParameter, by simp [catl], rfl⟩
    · exact ⟨k_NoRow, by simp [catl], rfl⟩
    · exact ⟨k_TooGreat, by simp [catl], rfl⟩)
end
theorem holds (truth : ∀ ns : List Int, ns.length ≤ 63 → (∀ z ∈ ns, Builtin.Int.intBits z ≤ 1048576) → ∃ M, f_law [.p (.scr ns)] [] = .ok (.p (.bl true)) M) : PySem.Challenge.rw_allislands_k03_whole_directions_in_order.Holds := by
  open PySem.W PySem.Calls in
  w_on; o_law
  refine HandSHeadRun.head_imp (r := OpenLaw.row PySem.Challenge.rw_allislands_k03_whole_directions_in_order) (q := PySem.W.view (OpenLaw.row PySem.Challenge.rw_allislands_k03_whole_directions_in_order).prog [0, 44]) (H := hk) (ob := ob) (M := 6000) (loose := names) (d := HandSHeadRun.topDef (OpenLaw.row PySem.Challenge.rw_allislands_k03_whole_directions_in_order).prog 44) (kwd := []) ob_eq run (by kernel_rfl) (by kernel_rfl) (by kernel_rfl) (by rfl) (by first | assumption | decide +kernel) (by decide +kernel) ⟨rfl, rfl, rfl, rfl, rfl, by decide +kernel⟩ ?hw ?hc
  case hw => w_witness2
  case hc =>
    refine walkM (l := PySem.Challenge.rw_allislands_k03_whole_directions_in_order) (n := 63) (k := 9) (x := "_law_script") rfl (by decide) (by kernel_rfl) ⟨rfl, by decide, by decide⟩ ?F
    intro w mg fad h Y G hmg0
    obtain ⟨K, KX, c⟩ := Y
    have hmg : mg ("law" : PySem.Str) = some (.ref fad) := by
      have e : (HandSHeadRun.topDef (OpenLaw.row PySem.Challenge.rw_allislands_k03_whole_directions_in_order).prog 44).name = ("law" : PySem.Str) := by kernel_rfl
      rw [← e]
      exact hmg0
    obtain ⟨fd, F⟩ := c.t.d.def_ 30 (d := d_law) rfl
    have eg := hmg.symm.trans (He.glo_ok KX G (c.t.d.fact 30 (f := .glo "law") rfl))
    cases eg
    have b := FunD.bindsA (ps := p_law) F fun _ _ _ _ _ _ us hl => match us, hl with | [_], _ => rfl
    refine ⟨K, KX, fd, tf.map (He.cT K), Tb K, true, f_law, ?_, ?_, ?_, ?_, fun s v => b s [v] rfl, truth, fun base hB hN tb => ?_⟩
    · intro p hp
      obtain ⟨q, hq, rfl⟩ := List.mem_map.mp hp
      exact c.empty q hq
    · intro p hp
      obtain ⟨q, hq, rfl⟩ := List.mem_map.mp hp
      exact c.out q hq
    · intro p hp
      obtain ⟨q, hq, rfl⟩ := List.mem_map.mp hp
      exact PySem.W.codeHd_of_K KX (c.hd q hq)
    · intro p hp
      simp [Tb, tf] at hp ⊢
      rw [hp]
    · exact run_law (facts KX G c tb) F
end K_whole
namespace K_whole
open PySem PySem.Spec PyProof.Rows L2 Mp
theorem drawK {cs ls : List Int} {a : Int} {n : Nat} (w : Wf n cs ls a) (hn : n ≤ 100000000) {lim : Int} (h1 : 0 < lim) (h2 : lim < 1267650600228229401496703205376) :
    ∃ r ls', (∀ R, f__law_draw [.loc 1, .p (.int lim)] (St cs ls a R) = .ok (.p (.int r)) (St cs ls' (a + 1) R)) ∧ 0 ≤ r ∧ r < lim ∧ Wf (n + 1) cs ls' (a + 1) := draw_ok w hn h1 h2
theorem ofL {cs ls : List Int} {a : Int} {n : Nat} (w : Wf n cs ls a) (hn : n ≤ 100000000) {xs : List D} (h1 : 0 < xs.length) (h2 : xs.length < 16777216) :
    ∃ d ls', (∀ R, f__law_of [.loc 1, .p (.lst xs)] (St cs ls a R) = .ok (.p d) (St cs ls' (a + 1) R)) ∧ d ∈ xs ∧ Wf (n + 1) cs ls' (a + 1) := of_l w hn h1 h2
theorem likeK {n k : Nat} {x d : D} {M : Mem} (e : x = d) (h : Shw n k d) (hn : n ≤ 16777216) (hk : k ≤ 64) : f__law_like [.p x, .p d] M = .ok (.p (.bl true)) M := like_c e h hn hk
theorem likeL {n k l : Nat} {x d : List D} {M : Mem} (e : x = d) (h : Shw n k (.lst d)) (hn : n ≤ 16777216) (hk : k ≤ 64) (hl : M[l]? = some (.lst x)) : f__law_like [.loc l, .p (.lst d)] M = .ok (.p (.bl true)) M := by
  subst e
  exact like_l h hn hk hl
theorem gcdK {a b : Int} {M : Mem} : f__law_divisor [.p (.int a), .p (.int b)] M = .ok (.p (.int (Int.gcd a b))) M := gcd_ok
section
variable {x y : Int} {M : Mem} {p q : Int × Int}
theorem is_from_ok {v lo hi : Int} (h1 : lo ≤ v) (h2 : v ≤ hi) : f_is_from [.p (.int v), .p (.int lo), .p (.int hi)] M = .ok (.p (.bl true)) M := by
  rw [f_is_from, ev_fn]
  simp only [ev_var0, ev_vars, ev_c, ev_nil, pures_nil, pures_cons, opt_some, optB_some, optU_some, deref_p, op2V_pp, op1V_p, blV_1, blV_2, blV_3, dC_pp, chK_f, andBK_t, andBK_f, orBK_t, orBK_f, truV_p, truD_bl, truD_int, truD_tup, truD_lst, andK_t, andK_f, orK_t, orK_f, notK_b, ifFK_t, ifFK_f, ixV_pp, ixD_t, ixD_k, ixD_l, atI_0, atI_1, atI_2, atI_3, isV_int, isV_bl, isV_non, isV_str, isV_tup, isV_lst, isV_kup, slV_p, ev_noO, sooK_i, ev_seq, sqK_nx, sqK_rt, sqK_ex, sqK_bk, sqK_ct, ev_skip, ev_retN, ifK_t, ifK_f, asK_s, ev_nameG, ev_tupG, ev_tupGk, ev_consG, ev_nilG, parK_2, par3K_3, putK_p, pmK_s, thawK_l, ev_newT, ev_newK, mtK2_s, exit_p, exit_nx, exit_ex, rsK_1, ev_word, wdK_ok, wdK_exc, wdT_s, ev_heard, hdK_ok, hdK_exc, hdT_s, hdI_s, its_fii, its_fi, srV_1, srK_s, srcL, srcT, wkK_s, wkU_t, wkU_l, wkU_s, zpK_tt, zpK_ll, grd_nil, flK_s, le_nx, le_ct, le_bk, le_rt, le_ex, consK2_k, consK2_x, consK1_k, consK1_x, tupK_k, tupK_x, lstK_k, lstK_x, op2B_k, op2B_x, op2A_k, op2A_x, op1A_k, op1A_x, blA_k, blA_x, cmpK_k, cmpK_x, cmpA_k, cmpA_x, valK_k, valK_x, chC_k, chC_x, chB_k, chB_x, chA_k, chA_x, andBA_k, andBA_x, orBA_k, orBA_x, notBA_k, notBA_x, truA_k, truA_x, andA_k, andA_x, orA_k, orA_x, notA_k, notA_x, ifFA_k, ifFA_x, ixB_k, ixB_x, ixA_k, ixA_x, isA_k, isA_x, slC_k, slC_x, slB_k, slB_x, slA_k, slA_x, sooA_k, sooA_x, exprA_k, exprA_x, retA_k, retA_x, ifA_k, ifA_x, setA__k, setA__x, asgA_k, asgA_x, parA_k, parA_x, par3A_k, par3A_x, putC_k, putC_x, putB_k, putB_x, putA_k, putA_x, thawA_k, thawA_x, mtA_k, mtA_x, mtB_k, mtB_x, dispA_k, dispA_x, callA_k, callA_x, raiseA_k, raiseA_x, srA_k, srA_x, seqA_k, seqA_x, r1A_k, r1A_x, r2A_k, r2A_x, zpA_k, zpA_x, forA_k, forA_x, lcA_k, lcA_x, chK_t, mtK_t, ev_cons, ev_tup, ev_lst, ev_op2, ev_op1, ev_bl, ev_cmp, ev_val, ev_chain, ev_andB, ev_orB, ev_notB, ev_tru, ev_and, ev_or, ev_not, ev_ifF, ev_ix, ev_is, ev_sl, ev_someO, ev_expr, ev_ret, ev_if, ev_set, ev_asg, ev_par, ev_par3, ev_put, ev_thaw, ev_meth, ev_disp, ev_call, ev_raise, ev_sorted, ev_seqI, ev_rng1, ev_rng2, ev_zip, ev_for, ev_lc, lcC_k, lcS_k, lcT_t, lcT_f, lcB_k, ev_yes, entG, List.map_cons, List.map_nil, List.length_cons, List.length_nil, List.cons_append, List.nil_append, List.append_nil, List.set_cons_zero, List.set_cons_succ, List.replicate_zero, List.replicate_succ, Nat.reduceAdd, Nat.reduceSub, Option.map_some, Option.bind_some, Option.map_none, Option.bind_none, List.take_length, Bool.not_true, Bool.not_false, Nat.zero_add, Nat.sub_self, Nat.reduceMul, List.take_left, List.isEmpty_cons, List.isEmpty_nil, ↓reduceIte, Nat.reduceLT, b_is_from, isD, ev_le, h1, h2, decide_true]
theorem is_pair_ok {m : Int} (h1 : -m ≤ x) (h2 : x ≤ m) (h3 : -m ≤ y) (h4 : y ≤ m) : f_is_pair_from [.p (pr x y), .p (.int m)] M = .ok (.p (.bl true)) M := by
  rw [f_is_pair_from, ev_fn]
  simp only [ev_var0, ev_vars, ev_c, ev_nil, pures_nil, pures_cons, opt_some, optB_some, optU_some, deref_p, op2V_pp, op1V_p, blV_1, blV_2, blV_3, dC_pp, chK_f, andBK_t, andBK_f, orBK_t, orBK_f, truV_p, truD_bl, truD_int, truD_tup, truD_lst, andK_t, andK_f, orK_t, orK_f, notK_b, ifFK_t, ifFK_f, ixV_pp, ixD_t, ixD_k, ixD_l, atI_0, atI_1, atI_2, atI_3, isV_int, isV_bl, isV_non, isV_str, isV_tup, isV_lst, isV_kup, slV_p, ev_noO, sooK_i, ev_seq, sqK_nx, sqK_rt, sqK_ex, sqK_bk, sqK_ct, ev_skip, ev_retN, ifK_t, ifK_f, asK_s, ev_nameG, ev_tupG, ev_tupGk, ev_consG, ev_nilG, parK_2, par3K_3, putK_p, pmK_s, thawK_l, ev_newT, ev_newK, mtK2_s, exit_p, exit_nx, exit_ex, rsK_1, ev_word, wdK_ok, wdK_exc, wdT_s, ev_heard, hdK_ok, hdK_exc, hdT_s, hdI_s, its_fii, its_fi, srV_1, srK_s, srcL, srcT, wkK_s, wkU_t, wkU_l, wkU_s, zpK_tt, zpK_ll, grd_nil, flK_s, le_nx, le_ct, le_bk, le_rt, le_ex, consK2_k, consK2_x, consK1_k, consK1_x, tupK_k, tupK_x, lstK_k, lstK_x, op2B_k, op2B_x, op2A_k, op2A_x, op1A_k, op1A_x, blA_k, blA_x, cmpK_k, cmpK_x, cmpA_k, cmpA_x, valK_k, valK_x, chC_k, chC_x, chB_k, chB_x, chA_k, chA_x, andBA_k, andBA_x, orBA_k, orBA_x, notBA_k, notBA_x, truA_k, truA_x, andA_k, andA_x, orA_k, orA_x, notA_k, notA_x, ifFA_k, ifFA_x, ixB_k, ixB_x, ixA_k, ixA_x, isA_k, isA_x, slC_k, slC_x, slB_k, slB_x, slA_k, slA_x, sooA_k, sooA_x, exprA_k, exprA_x, retA_k, retA_x, ifA_k, ifA_x, setA__k, setA__x, asgA_k, asgA_x, parA_k, parA_x, par3A_k, par3A_x, putC_k, putC_x, putB_k, putB_x, putA_k, putA_x, thawA_k, thawA_x, mtA_k, mtA_x, mtB_k, mtB_x, dispA_k, dispA_x, callA_k, callA_x, raiseA_k, raiseA_x, srA_k, srA_x, seqA_k, seqA_x, r1A_k, r1A_x, r2A_k, r2A_x, zpA_k, zpA_x, forA_k, forA_x, lcA_k, lcA_x, chK_t, mtK_t, ev_cons, ev_tup, ev_lst, ev_op2, ev_op1, ev_bl, ev_cmp, ev_val, ev_chain, ev_andB, ev_orB, ev_notB, ev_tru, ev_and, ev_or, ev_not, ev_ifF, ev_ix, ev_is, ev_sl, ev_someO, ev_expr, ev_ret, ev_if, ev_set, ev_asg, ev_par, ev_par3, ev_put, ev_thaw, ev_meth, ev_disp, ev_call, ev_raise, ev_sorted, ev_seqI, ev_rng1, ev_rng2, ev_zip, ev_for, ev_lc, lcC_k, lcS_k, lcT_t, lcT_f, lcB_k, ev_yes, entG, List.map_cons, List.map_nil, List.length_cons, List.length_nil, List.cons_append, List.nil_append, List.append_nil, List.set_cons_zero, List.set_cons_succ, List.replicate_zero, List.replicate_succ, Nat.reduceAdd, Nat.reduceSub, Option.map_some, Option.bind_some, Option.map_none, Option.bind_none, List.take_length, Bool.not_true, Bool.not_false, Nat.zero_add, Nat.sub_self, Nat.reduceMul, List.take_left, List.isEmpty_cons, List.isEmpty_nil, ↓reduceIte, Nat.reduceLT, b_is_pair_from, isD, lenD_t, ev_ne, Int.reduceNeg, negD_i, is_from_ok h1 h2, is_from_ok h3 h4, Int.cast_ofNat_Int, decide_true, ixD_t]
/-- a direction within m -/
structure Dr (m : Int) (p : Int × Int) : Prop where
  x1 : -m ≤ p.1
  x2 : p.1 ≤ m
  y1 : -m ≤ p.2
  y2 : p.2 ≤ m
  nz : ¬ (p.1 = 0 ∧ p.2 = 0)
theorem Dr.mono {m m' : Int} (h : Dr m p) (hm : m ≤ m') : Dr m' p := ⟨by have := h.x1; omega, by have := h.x2; omega, by have := h.y1; omega, by have := h.y2; omega, h.nz⟩
theorem is_dir_ok (h : Dr 1000000 p) : f_is_direction [.p (ppD p)] M = .ok (.p (.bl true)) M := by
  have k := is_pair_ok (M := M) h.x1 h.x2 h.y1 h.y2
  have n := h.nz
  rw [f_is_direction, ev_fn]
  simp only [ev_var0, ev_vars, ev_c, ev_nil, pures_nil, pures_cons, opt_some, optB_some, optU_some, deref_p, op2V_pp, op1V_p, blV_1, blV_2, blV_3, dC_pp, chK_f, andBK_t, andBK_f, orBK_t, orBK_f, truV_p, truD_bl, truD_int, truD_tup, truD_lst, andK_t, andK_f, orK_t, orK_f, notK_b, ifFK_t, ifFK_f, ixV_pp, ixD_t, ixD_k, ixD_l, atI_0, atI_1, atI_2, atI_3, isV_int, isV_bl, isV_non, isV_str, isV_tup, isV_lst, isV_kup, slV_p, ev_noO, sooK_i, ev_seq, sqK_nx, sqK_rt, sqK_ex, sqK_bk, sqK_ct, ev_skip, ev_retN, ifK_t, ifK_f, asK_s, ev_nameG, ev_tupG, ev_tupGk, ev_consG, ev_nilG, parK_2, par3K_3, putK_p, pmK_s, thawK_l, ev_newT, ev_newK, mtK2_s, exit_p, exit_nx, exit_ex, rsK_1, ev_word, wdK_ok, wdK_exc, wdT_s, ev_heard, hdK_ok, hdK_exc, hdT_s, hdI_s, its_fii, its_fi, srV_1, srK_s, srcL, srcT, wkK_s, wkU_t, wkU_l, wkU_s, zpK_tt, zpK_ll, grd_nil, flK_s, le_nx, le_ct, le_bk, le_rt, le_ex, consK2_k, consK2_x, consK1_k, consK1_x, tupK_k, tupK_x, lstK_k, lstK_x, op2B_k, op2B_x, op2A_k, op2A_x, op1A_k, op1A_x, blA_k, blA_x, cmpK_k, cmpK_x, cmpA_k, cmpA_x, valK_k, valK_x, chC_k, chC_x, chB_k, chB_x, chA_k, chA_x, andBA_k, andBA_x, orBA_k, orBA_x, notBA_k, notBA_x, truA_k, truA_x, andA_k, andA_x, orA_k, orA_x, notA_k, notA_x, ifFA_k, ifFA_x, ixB_k, ixB_x, ixA_k, ixA_x, isA_k, isA_x, slC_k, slC_x, slB_k, slB_x, slA_k, slA_x, sooA_k, sooA_x, exprA_k, exprA_x, retA_k, retA_x, ifA_k, ifA_x, setA__k, setA__x, asgA_k, asgA_x, parA_k, parA_x, par3A_k, par3A_x, putC_k, putC_x, putB_k, putB_x, putA_k, putA_x, thawA_k, thawA_x, mtA_k, mtA_x, mtB_k, mtB_x, dispA_k, dispA_x, callA_k, callA_x, raiseA_k, raiseA_x, srA_k, srA_x, seqA_k, seqA_x, r1A_k, r1A_x, r2A_k, r2A_x, zpA_k, zpA_x, forA_k, forA_x, lcA_k, lcA_x, chK_t, mtK_t, ev_cons, ev_tup, ev_lst, ev_op2, ev_op1, ev_bl, ev_cmp, ev_val, ev_chain, ev_andB, ev_orB, ev_notB, ev_tru, ev_and, ev_or, ev_not, ev_ifF, ev_ix, ev_is, ev_sl, ev_someO, ev_expr, ev_ret, ev_if, ev_set, ev_asg, ev_par, ev_par3, ev_put, ev_thaw, ev_meth, ev_disp, ev_call, ev_raise, ev_sorted, ev_seqI, ev_rng1, ev_rng2, ev_zip, ev_for, ev_lc, lcC_k, lcS_k, lcT_t, lcT_f, lcB_k, ev_yes, entG, List.map_cons, List.map_nil, List.length_cons, List.length_nil, List.cons_append, List.nil_append, List.append_nil, List.set_cons_zero, List.set_cons_succ, List.replicate_zero, List.replicate_succ, Nat.reduceAdd, Nat.reduceSub, Option.map_some, Option.bind_some, Option.map_none, Option.bind_none, List.take_length, Bool.not_true, Bool.not_false, Nat.zero_add, Nat.sub_self, Nat.reduceMul, List.take_left, List.isEmpty_cons, List.isEmpty_nil, ↓reduceIte, Nat.reduceLT, b_is_direction, ppD, k, ne_pr, n, decide_false]
theorem need_dir_ok (h : Dr 1000000 p) : f_need_direction [.p (ppD p)] M = .ok (.p (ppD p)) M := by
  rw [f_need_direction, ev_fn]
  simp only [ev_var0, ev_vars, ev_c, ev_nil, pures_nil, pures_cons, opt_some, optB_some, optU_some, deref_p, op2V_pp, op1V_p, blV_1, blV_2, blV_3, dC_pp, chK_f, andBK_t, andBK_f, orBK_t, orBK_f, truV_p, truD_bl, truD_int, truD_tup, truD_lst, andK_t, andK_f, orK_t, orK_f, notK_b, ifFK_t, ifFK_f, ixV_pp, ixD_t, ixD_k, ixD_l, atI_0, atI_1, atI_2, atI_3, isV_int, isV_bl, isV_non, isV_str, isV_tup, isV_lst, isV_kup, slV_p, ev_noO, sooK_i, ev_seq, sqK_nx, sqK_rt, sqK_ex, sqK_bk, sqK_ct, ev_skip, ev_retN, ifK_t, ifK_f, asK_s, ev_nameG, ev_tupG, ev_tupGk, ev_consG, ev_nilG, parK_2, par3K_3, putK_p, pmK_s, thawK_l, ev_newT, ev_newK, mtK2_s, exit_p, exit_nx, exit_ex, rsK_1, ev_word, wdK_ok, wdK_exc, wdT_s, ev_heard, hdK_ok, hdK_exc, hdT_s, hdI_s, its_fii, its_fi, srV_1, srK_s, srcL, srcT, wkK_s, wkU_t, wkU_l, wkU_s, zpK_tt, zpK_ll, grd_nil, flK_s, le_nx, le_ct, le_bk, le_rt, le_ex, consK2_k, consK2_x, consK1_k, consK1_x, tupK_k, tupK_x, lstK_k, lstK_x, op2B_k, op2B_x, op2A_k, op2A_x, op1A_k, op1A_x, blA_k, blA_x, cmpK_k, cmpK_x, cmpA_k, cmpA_x, valK_k, valK_x, chC_k, chC_x, chB_k, chB_x, chA_k, chA_x, andBA_k, andBA_x, orBA_k, orBA_x, notBA_k, notBA_x, truA_k, truA_x, andA_k, andA_x, orA_k, orA_x, notA_k, notA_x, ifFA_k, ifFA_x, ixB_k, ixB_x, ixA_k, ixA_x, isA_k, isA_x, slC_k, slC_x, slB_k, slB_x, slA_k, slA_x, sooA_k, sooA_x, exprA_k, exprA_x, retA_k, retA_x, ifA_k, ifA_x, setA__k, setA__x, asgA_k, asgA_x, parA_k, parA_x, par3A_k, par3A_x, putC_k, putC_x, putB_k, putB_x, putA_k, putA_x, thawA_k, thawA_x, mtA_k, mtA_x, mtB_k, mtB_x, dispA_k, dispA_x, callA_k, callA_x, raiseA_k, raiseA_x, srA_k, srA_x, seqA_k, seqA_x, r1A_k, r1A_x, r2A_k, r2A_x, zpA_k, zpA_x, forA_k, forA_x, lcA_k, lcA_x, chK_t, mtK_t, ev_cons, ev_tup, ev_lst, ev_op2, ev_op1, ev_bl, ev_cmp, ev_val, ev_chain, ev_andB, ev_orB, ev_notB, ev_tru, ev_and, ev_or, ev_not, ev_ifF, ev_ix, ev_is, ev_sl, ev_someO, ev_expr, ev_ret, ev_if, ev_set, ev_asg, ev_par, ev_par3, ev_put, ev_thaw, ev_meth, ev_disp, ev_call, ev_raise, ev_sorted, ev_seqI, ev_rng1, ev_rng2, ev_zip, ev_for, ev_lc, lcC_k, lcS_k, lcT_t, lcT_f, lcB_k, ev_yes, entG, List.map_cons, List.map_nil, List.length_cons, List.length_nil, List.cons_append, List.nil_append, List.append_nil, List.set_cons_zero, List.set_cons_succ, List.replicate_zero, List.replicate_succ, Nat.reduceAdd, Nat.reduceSub, Option.map_some, Option.bind_some, Option.map_none, Option.bind_none, List.take_length, Bool.not_true, Bool.not_false, Nat.zero_add, Nat.sub_self, Nat.reduceMul, List.take_left, List.isEmpty_cons, List.isEmpty_nil, ↓reduceIte, Nat.reduceLT, b_need_direction, is_dir_ok h]
theorem gcdD_2 {a b : Int} : gcdD [.int a, .int b] = some (.int (Int.gcd a b)) := rfl
theorem fdivD_p {i j : Int} (h : 0 < j) (h2 : j ≤ 1000000) : fdivD (.int i) (.int j) = some (.int (i.fdiv j)) := fdivD_g h (by omega)
theorem gcd_le (h : Dr 1000000 p) : (Int.gcd p.1 p.2 : Int) ≤ 1000000 := by
  obtain ⟨g1, g2, g3, g4⟩ := pln_of h.nz
  have b := h.x1
  have b2 := h.x2
  have b3 := h.y1
  have b4 := h.y2
  have nz := pln_nz g2
  by_cases z : (plnOf p).1 = 0
  · have : (plnOf p).2 ≠ 0 := fun e => nz ⟨z, e⟩
    have d : (Int.gcd p.1 p.2 : Int) ∣ p.2 := Int.gcd_dvd_right ..
    have ne : p.2 ≠ 0 := by
      rw [g4]
      exact Int.mul_ne_zero (by omega) this
    have := Nat.le_of_dvd (by omega) (Int.ofNat_dvd_left.mp d)
    omega
  · have d : (Int.gcd p.1 p.2 : Int) ∣ p.1 := Int.gcd_dvd_left ..
    have ne : p.1 ≠ 0 := by
      rw [g3]
      exact Int.mul_ne_zero (by omega) z
    have := Nat.le_of_dvd (by omega) (Int.ofNat_dvd_left.mp d)
    omega
theorem plain_ok (h : Dr 1000000 p) : f_plain_of [.p (ppD p)] M = .ok (.p (ppD (plnOf p))) M := by
  have g1 := (pln_of h.nz).1
  have g2 := gcd_le h
  rw [f_plain_of, ev_fn]
  simp (disch := omega) only [ev_var0, ev_vars, ev_c, ev_nil, pures_nil, pures_cons, opt_some, optB_some, optU_some, deref_p, op2V_pp, op1V_p, blV_1, blV_2, blV_3, dC_pp, chK_f, andBK_t, andBK_f, orBK_t, orBK_f, truV_p, truD_bl, truD_int, truD_tup, truD_lst, andK_t, andK_f, orK_t, orK_f, notK_b, ifFK_t, ifFK_f, ixV_pp, ixD_t, ixD_k, ixD_l, atI_0, atI_1, atI_2, atI_3, isV_int, isV_bl, isV_non, isV_str, isV_tup, isV_lst, isV_kup, slV_p, ev_noO, sooK_i, ev_seq, sqK_nx, sqK_rt, sqK_ex, sqK_bk, sqK_ct, ev_skip, ev_retN, ifK_t, ifK_f, asK_s, ev_nameG, ev_tupG, ev_tupGk, ev_consG, ev_nilG, parK_2, par3K_3, putK_p, pmK_s, thawK_l, ev_newT, ev_newK, mtK2_s, exit_p, exit_nx, exit_ex, rsK_1, ev_word, wdK_ok, wdK_exc, wdT_s, ev_heard, hdK_ok, hdK_exc, hdT_s, hdI_s, its_fii, its_fi, srV_1, srK_s, srcL, srcT, wkK_s, wkU_t, wkU_l, wkU_s, zpK_tt, zpK_ll, grd_nil, flK_s, le_nx, le_ct, le_bk, le_rt, le_ex, consK2_k, consK2_x, consK1_k, consK1_x, tupK_k, tupK_x, lstK_k, lstK_x, op2B_k, op2B_x, op2A_k, op2A_x, op1A_k, op1A_x, blA_k, blA_x, cmpK_k, cmpK_x, cmpA_k, cmpA_x, valK_k, valK_x, chC_k, chC_x, chB_k, chB_x, chA_k, chA_x, andBA_k, andBA_x, orBA_k, orBA_x, notBA_k, notBA_x, truA_k, truA_x, andA_k, andA_x, orA_k, orA_x, notA_k, notA_x, ifFA_k, ifFA_x, ixB_k, ixB_x, ixA_k, ixA_x, isA_k, isA_x, slC_k, slC_x, slB_k, slB_x, slA_k, slA_x, sooA_k, sooA_x, exprA_k, exprA_x, retA_k, retA_x, ifA_k, ifA_x, setA__k, setA__x, asgA_k, asgA_x, parA_k, parA_x, par3A_k, par3A_x, putC_k, putC_x, putB_k, putB_x, putA_k, putA_x, thawA_k, thawA_x, mtA_k, mtA_x, mtB_k, mtB_x, dispA_k, dispA_x, callA_k, callA_x, raiseA_k, raiseA_x, srA_k, srA_x, seqA_k, seqA_x, r1A_k, r1A_x, r2A_k, r2A_x, zpA_k, zpA_x, forA_k, forA_x, lcA_k, lcA_x, chK_t, mtK_t, ev_cons, ev_tup, ev_lst, ev_op2, ev_op1, ev_bl, ev_cmp, ev_val, ev_chain, ev_andB, ev_orB, ev_notB, ev_tru, ev_and, ev_or, ev_not, ev_ifF, ev_ix, ev_is, ev_sl, ev_someO, ev_expr, ev_ret, ev_if, ev_set, ev_asg, ev_par, ev_par3, ev_put, ev_thaw, ev_meth, ev_disp, ev_call, ev_raise, ev_sorted, ev_seqI, ev_rng1, ev_rng2, ev_zip, ev_for, ev_lc, lcC_k, lcS_k, lcT_t, lcT_f, lcB_k, ev_yes, entG, List.map_cons, List.map_nil, List.length_cons, List.length_nil, List.cons_append, List.nil_append, List.append_nil, List.set_cons_zero, List.set_cons_succ, List.replicate_zero, List.replicate_succ, Nat.reduceAdd, Nat.reduceSub, Option.map_some, Option.bind_some, Option.map_none, Option.bind_none, List.take_length, Bool.not_true, Bool.not_false, Nat.zero_add, Nat.sub_self, Nat.reduceMul, List.take_left, List.isEmpty_cons, List.isEmpty_nil, ↓reduceIte, Nat.reduceLT, b_plain_of, ppD, gcdD_2, fdivD_p, ixD_t]
  rfl
theorem plainly_ok (h : Dr 1000000 p) : f__law_plainly [.p (ppD p)] M = .ok (.p (ppD (plnOf p))) M := by
  have g1 := (pln_of h.nz).1
  have g2 := gcd_le h
  rw [f__law_plainly, ev_fn]
  simp (disch := omega) only [ev_var0, ev_vars, ev_c, ev_nil, pures_nil, pures_cons, opt_some, optB_some, optU_some, deref_p, op2V_pp, op1V_p, blV_1, blV_2, blV_3, dC_pp, chK_f, andBK_t, andBK_f, orBK_t, orBK_f, truV_p, truD_bl, truD_int, truD_tup, truD_lst, andK_t, andK_f, orK_t, orK_f, notK_b, ifFK_t, ifFK_f, ixV_pp, ixD_t, ixD_k, ixD_l, atI_0, atI_1, atI_2, atI_3, isV_int, isV_bl, isV_non, isV_str, isV_tup, isV_lst, isV_kup, slV_p, ev_noO, sooK_i, ev_seq, sqK_nx, sqK_rt, sqK_ex, sqK_bk, sqK_ct, ev_skip, ev_retN, ifK_t, ifK_f, asK_s, ev_nameG, ev_tupG, ev_tupGk, ev_consG, ev_nilG, parK_2, par3K_3, putK_p, pmK_s, thawK_l, ev_newT, ev_newK, mtK2_s, exit_p, exit_nx, exit_ex, rsK_1, ev_word, wdK_ok, wdK_exc, wdT_s, ev_heard, hdK_ok, hdK_exc, hdT_s, hdI_s, its_fii, its_fi, srV_1, srK_s, srcL, srcT, wkK_s, wkU_t, wkU_l, wkU_s, zpK_tt, zpK_ll, grd_nil, flK_s, le_nx, le_ct, le_bk, le_rt, le_ex, consK2_k, consK2_x, consK1_k, consK1_x, tupK_k, tupK_x, lstK_k, lstK_x, op2B_k, op2B_x, op2A_k, op2A_x, op1A_k, op1A_x, blA_k, blA_x, cmpK_k, cmpK_x, cmpA_k, cmpA_x, valK_k, valK_x, chC_k, chC_x, chB_k, chB_x, chA_k, chA_x, andBA_k, andBA_x, orBA_k, orBA_x, notBA_k, notBA_x, truA_k, truA_x, andA_k, andA_x, orA_k, orA_x, notA_k, notA_x, ifFA_k, ifFA_x, ixB_k, ixB_x, ixA_k, ixA_x, isA_k, isA_x, slC_k, slC_x, slB_k, slB_x, slA_k, slA_x, sooA_k, sooA_x, exprA_k, exprA_x, retA_k, retA_x, ifA_k, ifA_x, setA__k, setA__x, asgA_k, asgA_x, parA_k, parA_x, par3A_k, par3A_x, putC_k, putC_x, putB_k, putB_x, putA_k, putA_x, thawA_k, thawA_x, mtA_k, mtA_x, mtB_k, mtB_x, dispA_k, dispA_x, callA_k, callA_x, raiseA_k, raiseA_x, srA_k, srA_x, seqA_k, seqA_x, r1A_k, r1A_x, r2A_k, r2A_x, zpA_k, zpA_x, forA_k, forA_x, lcA_k, lcA_x, chK_t, mtK_t, ev_cons, ev_tup, ev_lst, ev_op2, ev_op1, ev_bl, ev_cmp, ev_val, ev_chain, ev_andB, ev_orB, ev_notB, ev_tru, ev_and, ev_or, ev_not, ev_ifF, ev_ix, ev_is, ev_sl, ev_someO, ev_expr, ev_ret, ev_if, ev_set, ev_asg, ev_par, ev_par3, ev_put, ev_thaw, ev_meth, ev_disp, ev_call, ev_raise, ev_sorted, ev_seqI, ev_rng1, ev_rng2, ev_zip, ev_for, ev_lc, lcC_k, lcS_k, lcT_t, lcT_f, lcB_k, ev_yes, entG, List.map_cons, List.map_nil, List.length_cons, List.length_nil, List.cons_append, List.nil_append, List.append_nil, List.set_cons_zero, List.set_cons_succ, List.replicate_zero, List.replicate_succ, Nat.reduceAdd, Nat.reduceSub, Option.map_some, Option.bind_some, Option.map_none, Option.bind_none, List.take_length, Bool.not_true, Bool.not_false, Nat.zero_add, Nat.sub_self, Nat.reduceMul, List.take_left, List.isEmpty_cons, List.isEmpty_nil, ↓reduceIte, Nat.reduceLT, b__law_plainly, ppD, gcdK, fdivD_p, ixD_t]
  rfl
theorem half_gen : exitR M.length (retA [some (.p (ppD p))] (ifFA (cF (.int 0)) (cF (.int 1)) [some (.p (ppD p))] (orBA (andB (cmpB (dC eqD) (ixF (varF 0) (cF (.int 1))) (cF (.int 0))) (cmpB (dC gtD) (ixF (varF 0) (cF (.int 0))) (cF (.int 0)))) [some (.p (ppD p))] (.ok (decide (0 < p.2)) M)))) = .ok (.p (.int (halfP p))) M := by
  by_cases h1 : 0 < p.2
  · have e : halfP p = 0 := by simp [halfP, upP, h1]
    simp only [ev_var0, ev_vars, ev_c, ev_nil, pures_nil, pures_cons, opt_some, optB_some, optU_some, deref_p, op2V_pp, op1V_p, blV_1, blV_2, blV_3, dC_pp, chK_f, andBK_t, andBK_f, orBK_t, orBK_f, truV_p, truD_bl, truD_int, truD_tup, truD_lst, andK_t, andK_f, orK_t, orK_f, notK_b, ifFK_t, ifFK_f, ixV_pp, ixD_t, ixD_k, ixD_l, atI_0, atI_1, atI_2, atI_3, isV_int, isV_bl, isV_non, isV_str, isV_tup, isV_lst, isV_kup, slV_p, ev_noO, sooK_i, ev_seq, sqK_nx, sqK_rt, sqK_ex, sqK_bk, sqK_ct, ev_skip, ev_retN, ifK_t, ifK_f, asK_s, ev_nameG, ev_tupG, ev_tupGk, ev_consG, ev_nilG, parK_2, par3K_3, putK_p, pmK_s, thawK_l, ev_newT, ev_newK, mtK2_s, exit_p, exit_nx, exit_ex, rsK_1, ev_word, wdK_ok, wdK_exc, wdT_s, ev_heard, hdK_ok, hdK_exc, hdT_s, hdI_s, its_fii, its_fi, srV_1, srK_s, srcL, srcT, wkK_s, wkU_t, wkU_l, wkU_s, zpK_tt, zpK_ll, grd_nil, flK_s, le_nx, le_ct, le_bk, le_rt, le_ex, consK2_k, consK2_x, consK1_k, consK1_x, tupK_k, tupK_x, lstK_k, lstK_x, op2B_k, op2B_x, op2A_k, op2A_x, op1A_k, op1A_x, blA_k, blA_x, cmpK_k, cmpK_x, cmpA_k, cmpA_x, valK_k, valK_x, chC_k, chC_x, chB_k, chB_x, chA_k, chA_x, andBA_k, andBA_x, orBA_k, orBA_x, notBA_k, notBA_x, truA_k, truA_x, andA_k, andA_x, orA_k, orA_x, notA_k, notA_x, ifFA_k, ifFA_x, ixB_k, ixB_x, ixA_k, ixA_x, isA_k, isA_x, slC_k, slC_x, slB_k, slB_x, slA_k, slA_x, sooA_k, sooA_x, exprA_k, exprA_x, retA_k, retA_x, ifA_k, ifA_x, setA__k, setA__x, asgA_k, asgA_x, parA_k, parA_x, par3A_k, par3A_x, putC_k, putC_x, putB_k, putB_x, putA_k, putA_x, thawA_k, thawA_x, mtA_k, mtA_x, mtB_k, mtB_x, dispA_k, dispA_x, callA_k, callA_x, raiseA_k, raiseA_x, srA_k, srA_x, seqA_k, seqA_x, r1A_k, r1A_x, r2A_k, r2A_x, zpA_k, zpA_x, forA_k, forA_x, lcA_k, lcA_x, chK_t, mtK_t, ev_cons, ev_tup, ev_lst, ev_op2, ev_op1, ev_bl, ev_cmp, ev_val, ev_chain, ev_andB, ev_orB, ev_notB, ev_tru, ev_and, ev_or, ev_not, ev_ifF, ev_ix, ev_is, ev_sl, ev_someO, ev_expr, ev_ret, ev_if, ev_set, ev_asg, ev_par, ev_par3, ev_put, ev_thaw, ev_meth, ev_disp, ev_call, ev_raise, ev_sorted, ev_seqI, ev_rng1, ev_rng2, ev_zip, ev_for, ev_lc, lcC_k, lcS_k, lcT_t, lcT_f, lcB_k, ev_yes, entG, List.map_cons, List.map_nil, List.length_cons, List.length_nil, List.cons_append, List.nil_append, List.append_nil, List.set_cons_zero, List.set_cons_succ, List.replicate_zero, List.replicate_succ, Nat.reduceAdd, Nat.reduceSub, Option.map_some, Option.bind_some, Option.map_none, Option.bind_none, List.take_length, Bool.not_true, Bool.not_false, Nat.zero_add, Nat.sub_self, Nat.reduceMul, List.take_left, List.isEmpty_cons, List.isEmpty_nil, ↓reduceIte, Nat.reduceLT, h1, decide_true, e]
  · by_cases h2 : p.2 = 0
    · by_cases h3 : 0 < p.1
      · have e : halfP p = 0 := by simp [halfP, upP, h2, h3]
        simp only [ev_var0, ev_vars, ev_c, ev_nil, pures_nil, pures_cons, opt_some, optB_some, optU_some, deref_p, op2V_pp, op1V_p, blV_1, blV_2, blV_3, dC_pp, chK_f, andBK_t, andBK_f, orBK_t, orBK_f, truV_p, truD_bl, truD_int, truD_tup, truD_lst, andK_t, andK_f, orK_t, orK_f, notK_b, ifFK_t, ifFK_f, ixV_pp, ixD_t, ixD_k, ixD_l, atI_0, atI_1, atI_2, atI_3, isV_int, isV_bl, isV_non, isV_str, isV_tup, isV_lst, isV_kup, slV_p, ev_noO, sooK_i, ev_seq, sqK_nx, sqK_rt, sqK_ex, sqK_bk, sqK_ct, ev_skip, ev_retN, ifK_t, ifK_f, asK_s, ev_nameG, ev_tupG, ev_tupGk, ev_consG, ev_nilG, parK_2, par3K_3, putK_p, pmK_s, thawK_l, ev_newT, ev_newK, mtK2_s, exit_p, exit_nx, exit_ex, rsK_1, ev_word, wdK_ok, wdK_exc, wdT_s, ev_heard, hdK_ok, hdK_exc, hdT_s, hdI_s, its_fii, its_fi, srV_1, srK_s, srcL, srcT, wkK_s, wkU_t, wkU_l, wkU_s, zpK_tt, zpK_ll, grd_nil, flK_s, le_nx, le_ct, le_bk, le_rt, le_ex, consK2_k, consK2_x, consK1_k, consK1_x, tupK_k, tupK_x, lstK_k, lstK_x, op2B_k, op2B_x, op2A_k, op2A_x, op1A_k, op1A_x, blA_k, blA_x, cmpK_k, cmpK_x, cmpA_k, cmpA_x, valK_k, valK_x, chC_k, chC_x, chB_k, chB_x, chA_k, chA_x, andBA_k, andBA_x, orBA_k, orBA_x, notBA_k, notBA_x, truA_k, truA_x, andA_k, andA_x, orA_k, orA_x, notA_k, notA_x, ifFA_k, ifFA_x, ixB_k, ixB_x, ixA_k, ixA_x, isA_k, isA_x, slC_k, slC_x, slB_k, slB_x, slA_k, slA_x, sooA_k, sooA_x, exprA_k, exprA_x, retA_k, retA_x, ifA_k, ifA_x, setA__k, setA__x, asgA_k, asgA_x, parA_k, parA_x, par3A_k, par3A_x, putC_k, putC_x, putB_k, putB_x, putA_k, putA_x, thawA_k, thawA_x, mtA_k, mtA_x, mtB_k, mtB_x, dispA_k, dispA_x, callA_k, callA_x, raiseA_k, raiseA_x, srA_k, srA_x, seqA_k, seqA_x, r1A_k, r1A_x, r2A_k, r2A_x, zpA_k, zpA_x, forA_k, forA_x, lcA_k, lcA_x, chK_t, mtK_t, ev_cons, ev_tup, ev_lst, ev_op2, ev_op1, ev_bl, ev_cmp, ev_val, ev_chain, ev_andB, ev_orB, ev_notB, ev_tru, ev_and, ev_or, ev_not, ev_ifF, ev_ix, ev_is, ev_sl, ev_someO, ev_expr, ev_ret, ev_if, ev_set, ev_asg, ev_par, ev_par3, ev_put, ev_thaw, ev_meth, ev_disp, ev_call, ev_raise, ev_sorted, ev_seqI, ev_rng1, ev_rng2, ev_zip, ev_for, ev_lc, lcC_k, lcS_k, lcT_t, lcT_f, lcB_k, ev_yes, entG, List.map_cons, List.map_nil, List.length_cons, List.length_nil, List.cons_append, List.nil_append, List.append_nil, List.set_cons_zero, List.set_cons_succ, List.replicate_zero, List.replicate_succ, Nat.reduceAdd, Nat.reduceSub, Option.map_some, Option.bind_some, Option.map_none, Option.bind_none, List.take_length, Bool.not_true, Bool.not_false, Nat.zero_add, Nat.sub_self, Nat.reduceMul, List.take_left, List.isEmpty_cons, List.isEmpty_nil, ↓reduceIte, Nat.reduceLT, h1, h2, h3, decide_true, decide_false, e, ppD, ev_eq, ev_gt, ixD_t]
        simp only [ev_var0, ev_vars, ev_c, ev_nil, pures_nil, pures_cons, opt_some, optB_some, optU_some, deref_p, op2V_pp, op1V_p, blV_1, blV_2, blV_3, dC_pp, chK_f, andBK_t, andBK_f, orBK_t, orBK_f, truV_p, truD_bl, truD_int, truD_tup, truD_lst, andK_t, andK_f, orK_t, orK_f, notK_b, ifFK_t, ifFK_f, ixV_pp, ixD_t, ixD_k, ixD_l, atI_0, atI_1, atI_2, atI_3, isV_int, isV_bl, isV_non, isV_str, isV_tup, isV_lst, isV_kup, slV_p, ev_noO, sooK_i, ev_seq, sqK_nx, sqK_rt, sqK_ex, sqK_bk, sqK_ct, ev_skip, ev_retN, ifK_t, ifK_f, asK_s, ev_nameG, ev_tupG, ev_tupGk, ev_consG, ev_nilG, parK_2, par3K_3, putK_p, pmK_s, thawK_l, ev_newT, ev_newK, mtK2_s, exit_p, exit_nx, exit_ex, rsK_1, ev_word, wdK_ok, wdK_exc, wdT_s, ev_heard, hdK_ok, hdK_exc, hdT_s, hdI_s, its_fii, its_fi, srV_1, srK_s, srcL, srcT, wkK_s, wkU_t, wkU_l, wkU_s, zpK_tt, zpK_ll, grd_nil, flK_s, le_nx, le_ct, le_bk, le_rt, le_ex, consK2_k, consK2_x, consK1_k, consK1_x, tupK_k, tupK_x, lstK_k, lstK_x, op2B_k, op2B_x, op2A_k, op2A_x, op1A_k, op1A_x, blA_k, blA_x, cmpK_k, cmpK_x, cmpA_k, cmpA_x, valK_k, valK_x, chC_k, chC_x, chB_k, chB_x, chA_k, chA_x, andBA_k, andBA_x, orBA_k, orBA_x, notBA_k, notBA_x, truA_k, truA_x, andA_k, andA_x, orA_k, orA_x, notA_k, notA_x, ifFA_k, ifFA_x, ixB_k, ixB_x, ixA_k, ixA_x, isA_k, isA_x, slC_k, slC_x, slB_k, slB_x, slA_k, slA_x, sooA_k, sooA_x, exprA_k, exprA_x, retA_k, retA_x, ifA_k, ifA_x, setA__k, setA__x, asgA_k, asgA_x, parA_k, parA_x, par3A_k, par3A_x, putC_k, putC_x, putB_k, putB_x, putA_k, putA_x, thawA_k, thawA_x, mtA_k, mtA_x, mtB_k, mtB_x, dispA_k, dispA_x, callA_k, callA_x, raiseA_k, raiseA_x, srA_k, srA_x, seqA_k, seqA_x, r1A_k, r1A_x, r2A_k, r2A_x, zpA_k, zpA_x, forA_k, forA_x, lcA_k, lcA_x, chK_t, mtK_t, ev_cons, ev_tup, ev_lst, ev_op2, ev_op1, ev_bl, ev_cmp, ev_val, ev_chain, ev_andB, ev_orB, ev_notB, ev_tru, ev_and, ev_or, ev_not, ev_ifF, ev_ix, ev_is, ev_sl, ev_someO, ev_expr, ev_ret, ev_if, ev_set, ev_asg, ev_par, ev_par3, ev_put, ev_thaw, ev_meth, ev_disp, ev_call, ev_raise, ev_sorted, ev_seqI, ev_rng1, ev_rng2, ev_zip, ev_for, ev_lc, lcC_k, lcS_k, lcT_t, lcT_f, lcB_k, ev_yes, entG, List.map_cons, List.map_nil, List.length_cons, List.length_nil, List.cons_append, List.nil_append, List.append_nil, List.set_cons_zero, List.set_cons_succ, List.replicate_zero, List.replicate_succ, Nat.reduceAdd, Nat.reduceSub, Option.map_some, Option.bind_some, Option.map_none, Option.bind_none, List.take_length, Bool.not_true, Bool.not_false, Nat.zero_add, Nat.sub_self, Nat.reduceMul, List.take_left, List.isEmpty_cons, List.isEmpty_nil, ↓reduceIte, Nat.reduceLT, Int.lt_irrefl, decide_false, ev_eq, ev_gt, ixD_t, h3, decide_true]
      · have e : halfP p = 1 := by simp [halfP, upP, h2, h3]
        simp only [ev_var0, ev_vars, ev_c, ev_nil, pures_nil, pures_cons, opt_some, optB_some, optU_some, deref_p, op2V_pp, op1V_p, blV_1, blV_2, blV_3, dC_pp, chK_f, andBK_t, andBK_f, orBK_t, orBK_f, truV_p, truD_bl, truD_int, truD_tup, truD_lst, andK_t, andK_f, orK_t, orK_f, notK_b, ifFK_t, ifFK_f, ixV_pp, ixD_t, ixD_k, ixD_l, atI_0, atI_1, atI_2, atI_3, isV_int, isV_bl, isV_non, isV_str, isV_tup, isV_lst, isV_kup, slV_p, ev_noO, sooK_i, ev_seq, sqK_nx, sqK_rt, sqK_ex, sqK_bk, sqK_ct, ev_skip, ev_retN, ifK_t, ifK_f, asK_s, ev_nameG, ev_tupG, ev_tupGk, ev_consG, ev_nilG, parK_2, par3K_3, putK_p, pmK_s, thawK_l, ev_newT, ev_newK, mtK2_s, exit_p, exit_nx, exit_ex, rsK_1, ev_word, wdK_ok, wdK_exc, wdT_s, ev_heard, hdK_ok, hdK_exc, hdT_s, hdI_s, its_fii, its_fi, srV_1, srK_s, srcL, srcT, wkK_s, wkU_t, wkU_l, wkU_s, zpK_tt, zpK_ll, grd_nil, flK_s, le_nx, le_ct, le_bk, le_rt, le_ex, consK2_k, consK2_x, consK1_k, consK1_x, tupK_k, tupK_x, lstK_k, lstK_x, op2B_k, op2B_x, op2A_k, op2A_x, op1A_k, op1A_x, blA_k, blA_x, cmpK_k, cmpK_x, cmpA_k, cmpA_x, valK_k, valK_x, chC_k, chC_x, chB_k, chB_x, chA_k, chA_x, andBA_k, andBA_x, orBA_k, orBA_x, notBA_k, notBA_x, truA_k, truA_x, andA_k, andA_x, orA_k, orA_x, notA_k, notA_x, ifFA_k, ifFA_x, ixB_k, ixB_x, ixA_k, ixA_x, isA_k, isA_x, slC_k, slC_x, slB_k, slB_x, slA_k, slA_x, sooA_k, sooA_x, exprA_k, exprA_x, retA_k, retA_x, ifA_k, ifA_x, setA__k, setA__x, asgA_k, asgA_x, parA_k, parA_x, par3A_k, par3A_x, putC_k, putC_x, putB_k, putB_x, putA_k, putA_x, thawA_k, thawA_x, mtA_k, mtA_x, mtB_k, mtB_x, dispA_k, dispA_x, callA_k, callA_x, raiseA_k, raiseA_x, srA_k, srA_x, seqA_k, seqA_x, r1A_k, r1A_x, r2A_k, r2A_x, zpA_k, zpA_x, forA_k, forA_x, lcA_k, lcA_x, chK_t, mtK_t, ev_cons, ev_tup, ev_lst, ev_op2, ev_op1, ev_bl, ev_cmp, ev_val, ev_chain, ev_andB, ev_orB, ev_notB, ev_tru, ev_and, ev_or, ev_not, ev_ifF, ev_ix, ev_is, ev_sl, ev_someO, ev_expr, ev_ret, ev_if, ev_set, ev_asg, ev_par, ev_par3, ev_put, ev_thaw, ev_meth, ev_disp, ev_call, ev_raise, ev_sorted, ev_seqI, ev_rng1, ev_rng2, ev_zip, ev_for, ev_lc, lcC_k, lcS_k, lcT_t, lcT_f, lcB_k, ev_yes, entG, List.map_cons, List.map_nil, List.length_cons, List.length_nil, List.cons_append, List.nil_append, List.append_nil, List.set_cons_zero, List.set_cons_succ, List.replicate_zero, List.replicate_succ, Nat.reduceAdd, Nat.reduceSub, Option.map_some, Option.bind_some, Option.map_none, Option.bind_none, List.take_length, Bool.not_true, Bool.not_false, Nat.zero_add, Nat.sub_self, Nat.reduceMul, List.take_left, List.isEmpty_cons, List.isEmpty_nil, ↓reduceIte, Nat.reduceLT, h1, h2, h3, decide_true, decide_false, e, ppD, ev_eq, ev_gt, ixD_t]
        simp only [ev_var0, ev_vars, ev_c, ev_nil, pures_nil, pures_cons, opt_some, optB_some, optU_some, deref_p, op2V_pp, op1V_p, blV_1, blV_2, blV_3, dC_pp, chK_f, andBK_t, andBK_f, orBK_t, orBK_f, truV_p, truD_bl, truD_int, truD_tup, truD_lst, andK_t, andK_f, orK_t, orK_f, notK_b, ifFK_t, ifFK_f, ixV_pp, ixD_t, ixD_k, ixD_l, atI_0, atI_1, atI_2, atI_3, isV_int, isV_bl, isV_non, isV_str, isV_tup, isV_lst, isV_kup, slV_p, ev_noO, sooK_i, ev_seq, sqK_nx, sqK_rt, sqK_ex, sqK_bk, sqK_ct, ev_skip, ev_retN, ifK_t, ifK_f, asK_s, ev_nameG, ev_tupG, ev_tupGk, ev_consG, ev_nilG, parK_2, par3K_3, putK_p, pmK_s, thawK_l, ev_newT, ev_newK, mtK2_s, exit_p, exit_nx, exit_ex, rsK_1, ev_word, wdK_ok, wdK_exc, wdT_s, ev_heard, hdK_ok, hdK_exc, hdT_s, hdI_s, its_fii, its_fi, srV_1, srK_s, srcL, srcT, wkK_s, wkU_t, wkU_l, wkU_s, zpK_tt, zpK_ll, grd_nil, flK_s, le_nx, le_ct, le_bk, le_rt, le_ex, consK2_k, consK2_x, consK1_k, consK1_x, tupK_k, tupK_x, lstK_k, lstK_x, op2B_k, op2B_x, op2A_k, op2A_x, op1A_k, op1A_x, blA_k, blA_x, cmpK_k, cmpK_x, cmpA_k, cmpA_x, valK_k, valK_x, chC_k, chC_x, chB_k, chB_x, chA_k, chA_x, andBA_k, andBA_x, orBA_k, orBA_x, notBA_k, notBA_x, truA_k, truA_x, andA_k, andA_x, orA_k, orA_x, notA_k, notA_x, ifFA_k, ifFA_x, ixB_k, ixB_x, ixA_k, ixA_x, isA_k, isA_x, slC_k, slC_x, slB_k, slB_x, slA_k, slA_x, sooA_k, sooA_x, exprA_k, exprA_x, retA_k, retA_x, ifA_k, ifA_x, setA__k, setA__x, asgA_k, asgA_x, parA_k, parA_x, par3A_k, par3A_x, putC_k, putC_x, putB_k, putB_x, putA_k, putA_x, thawA_k, thawA_x, mtA_k, mtA_x, mtB_k, mtB_x, dispA_k, dispA_x, callA_k, callA_x, raiseA_k, raiseA_x, srA_k, srA_x, seqA_k, seqA_x, r1A_k, r1A_x, r2A_k, r2A_x, zpA_k, zpA_x, forA_k, forA_x, lcA_k, lcA_x, chK_t, mtK_t, ev_cons, ev_tup, ev_lst, ev_op2, ev_op1, ev_bl, ev_cmp, ev_val, ev_chain, ev_andB, ev_orB, ev_notB, ev_tru, ev_and, ev_or, ev_not, ev_ifF, ev_ix, ev_is, ev_sl, ev_someO, ev_expr, ev_ret, ev_if, ev_set, ev_asg, ev_par, ev_par3, ev_put, ev_thaw, ev_meth, ev_disp, ev_call, ev_raise, ev_sorted, ev_seqI, ev_rng1, ev_rng2, ev_zip, ev_for, ev_lc, lcC_k, lcS_k, lcT_t, lcT_f, lcB_k, ev_yes, entG, List.map_cons, List.map_nil, List.length_cons, List.length_nil, List.cons_append, List.nil_append, List.append_nil, List.set_cons_zero, List.set_cons_succ, List.replicate_zero, List.replicate_succ, Nat.reduceAdd, Nat.reduceSub, Option.map_some, Option.bind_some, Option.map_none, Option.bind_none, List.take_length, Bool.not_true, Bool.not_false, Nat.zero_add, Nat.sub_self, Nat.reduceMul, List.take_left, List.isEmpty_cons, List.isEmpty_nil, ↓reduceIte, Nat.reduceLT, Int.lt_irrefl, decide_false, ev_eq, ev_gt, ixD_t, h3, decide_true]
    · have e : halfP p = 1 := by simp [halfP, upP, h1, h2]
      simp only [ev_var0, ev_vars, ev_c, ev_nil, pures_nil, pures_cons, opt_some, optB_some, optU_some, deref_p, op2V_pp, op1V_p, blV_1, blV_2, blV_3, dC_pp, chK_f, andBK_t, andBK_f, orBK_t, orBK_f, truV_p, truD_bl, truD_int, truD_tup, truD_lst, andK_t, andK_f, orK_t, orK_f, notK_b, ifFK_t, ifFK_f, ixV_pp, ixD_t, ixD_k, ixD_l, atI_0, atI_1, atI_2, atI_3, isV_int, isV_bl, isV_non, isV_str, isV_tup, isV_lst, isV_kup, slV_p, ev_noO, sooK_i, ev_seq, sqK_nx, sqK_rt, sqK_ex, sqK_bk, sqK_ct, ev_skip, ev_retN, ifK_t, ifK_f, asK_s, ev_nameG, ev_tupG, ev_tupGk, ev_consG, ev_nilG, parK_2, par3K_3, putK_p, pmK_s, thawK_l, ev_newT, ev_newK, mtK2_s, exit_p, exit_nx, exit_ex, rsK_1, ev_word, wdK_ok, wdK_exc, wdT_s, ev_heard, hdK_ok, hdK_exc, hdT_s, hdI_s, its_fii, its_fi, srV_1, srK_s, srcL, srcT, wkK_s, wkU_t, wkU_l, wkU_s, zpK_tt, zpK_ll, grd_nil, flK_s, le_nx, le_ct, le_bk, le_rt, le_ex, consK2_k, consK2_x, consK1_k, consK1_x, tupK_k, tupK_x, lstK_k, lstK_x, op2B_k, op2B_x, op2A_k, op2A_x, op1A_k, op1A_x, blA_k, blA_x, cmpK_k, cmpK_x, cmpA_k, cmpA_x, valK_k, valK_x, chC_k, chC_x, chB_k, chB_x, chA_k, chA_x, andBA_k, andBA_x, orBA_k, orBA_x, notBA_k, notBA_x, truA_k, truA_x, andA_k, andA_x, orA_k, orA_x, notA_k, notA_x, ifFA_k, ifFA_x, ixB_k, ixB_x, ixA_k, ixA_x, isA_k, isA_x, slC_k, slC_x, slB_k, slB_x, slA_k, slA_x, sooA_k, sooA_x, exprA_k, exprA_x, retA_k, retA_x, ifA_k, ifA_x, setA__k, setA__x, asgA_k, asgA_x, parA_k, parA_x, par3A_k, par3A_x, putC_k, putC_x, putB_k, putB_x, putA_k, putA_x, thawA_k, thawA_x, mtA_k, mtA_x, mtB_k, mtB_x, dispA_k, dispA_x, callA_k, callA_x, raiseA_k, raiseA_x, srA_k, srA_x, seqA_k, seqA_x, r1A_k, r1A_x, r2A_k, r2A_x, zpA_k, zpA_x, forA_k, forA_x, lcA_k, lcA_x, chK_t, mtK_t, ev_cons, ev_tup, ev_lst, ev_op2, ev_op1, ev_bl, ev_cmp, ev_val, ev_chain, ev_andB, ev_orB, ev_notB, ev_tru, ev_and, ev_or, ev_not, ev_ifF, ev_ix, ev_is, ev_sl, ev_someO, ev_expr, ev_ret, ev_if, ev_set, ev_asg, ev_par, ev_par3, ev_put, ev_thaw, ev_meth, ev_disp, ev_call, ev_raise, ev_sorted, ev_seqI, ev_rng1, ev_rng2, ev_zip, ev_for, ev_lc, lcC_k, lcS_k, lcT_t, lcT_f, lcB_k, ev_yes, entG, List.map_cons, List.map_nil, List.length_cons, List.length_nil, List.cons_append, List.nil_append, List.append_nil, List.set_cons_zero, List.set_cons_succ, List.replicate_zero, List.replicate_succ, Nat.reduceAdd, Nat.reduceSub, Option.map_some, Option.bind_some, Option.map_none, Option.bind_none, List.take_length, Bool.not_true, Bool.not_false, Nat.zero_add, Nat.sub_self, Nat.reduceMul, List.take_left, List.isEmpty_cons, List.isEmpty_nil, ↓reduceIte, Nat.reduceLT, h1, h2, decide_true, decide_false, e, ppD, ev_eq, ev_gt, ixD_t]
theorem half_ok : f_half_of [.p (ppD p)] M = .ok (.p (.int (halfP p))) M := by
  rw [f_half_of, ev_fn, ← half_gen]
  simp only [ev_var0, ev_vars, ev_c, ev_nil, pures_nil, pures_cons, opt_some, optB_some, optU_some, deref_p, op2V_pp, op1V_p, blV_1, blV_2, blV_3, dC_pp, chK_f, andBK_t, andBK_f, orBK_t, orBK_f, truV_p, truD_bl, truD_int, truD_tup, truD_lst, andK_t, andK_f, orK_t, orK_f, notK_b, ifFK_t, ifFK_f, ixV_pp, ixD_t, ixD_k, ixD_l, atI_0, atI_1, atI_2, atI_3, isV_int, isV_bl, isV_non, isV_str, isV_tup, isV_lst, isV_kup, slV_p, ev_noO, sooK_i, ev_seq, sqK_nx, sqK_rt, sqK_ex, sqK_bk, sqK_ct, ev_skip, ev_retN, ifK_t, ifK_f, asK_s, ev_nameG, ev_tupG, ev_tupGk, ev_consG, ev_nilG, parK_2, par3K_3, putK_p, pmK_s, thawK_l, ev_newT, ev_newK, mtK2_s, exit_p, exit_nx, exit_ex, rsK_1, ev_word, wdK_ok, wdK_exc, wdT_s, ev_heard, hdK_ok, hdK_exc, hdT_s, hdI_s, its_fii, its_fi, srV_1, srK_s, srcL, srcT, wkK_s, wkU_t, wkU_l, wkU_s, zpK_tt, zpK_ll, grd_nil, flK_s, le_nx, le_ct, le_bk, le_rt, le_ex, consK2_k, consK2_x, consK1_k, consK1_x, tupK_k, tupK_x, lstK_k, lstK_x, op2B_k, op2B_x, op2A_k, op2A_x, op1A_k, op1A_x, blA_k, blA_x, cmpK_k, cmpK_x, cmpA_k, cmpA_x, valK_k, valK_x, chC_k, chC_x, chB_k, chB_x, chA_k, chA_x, andBA_k, andBA_x, orBA_k, orBA_x, notBA_k, notBA_x, truA_k, truA_x, andA_k, andA_x, orA_k, orA_x, notA_k, notA_x, ifFA_k, ifFA_x, ixB_k, ixB_x, ixA_k, ixA_x, isA_k, isA_x, slC_k, slC_x, slB_k, slB_x, slA_k, slA_x, sooA_k, sooA_x, exprA_k, exprA_x, retA_k, retA_x, ifA_k, ifA_x, setA__k, setA__x, asgA_k, asgA_x, parA_k, parA_x, par3A_k, par3A_x, putC_k, putC_x, putB_k, putB_x, putA_k, putA_x, thawA_k, thawA_x, mtA_k, mtA_x, mtB_k, mtB_x, dispA_k, dispA_x, callA_k, callA_x, raiseA_k, raiseA_x, srA_k, srA_x, seqA_k, seqA_x, r1A_k, r1A_x, r2A_k, r2A_x, zpA_k, zpA_x, forA_k, forA_x, lcA_k, lcA_x, chK_t, mtK_t, ev_cons, ev_tup, ev_lst, ev_op2, ev_op1, ev_bl, ev_cmp, ev_val, ev_chain, ev_andB, ev_orB, ev_notB, ev_tru, ev_and, ev_or, ev_not, ev_ifF, ev_ix, ev_is, ev_sl, ev_someO, ev_expr, ev_ret, ev_if, ev_set, ev_asg, ev_par, ev_par3, ev_put, ev_thaw, ev_meth, ev_disp, ev_call, ev_raise, ev_sorted, ev_seqI, ev_rng1, ev_rng2, ev_zip, ev_for, ev_lc, lcC_k, lcS_k, lcT_t, lcT_f, lcB_k, ev_yes, entG, List.map_cons, List.map_nil, List.length_cons, List.length_nil, List.cons_append, List.nil_append, List.append_nil, List.set_cons_zero, List.set_cons_succ, List.replicate_zero, List.replicate_succ, Nat.reduceAdd, Nat.reduceSub, Option.map_some, Option.bind_some, Option.map_none, Option.bind_none, List.take_length, Bool.not_true, Bool.not_false, Nat.zero_add, Nat.sub_self, Nat.reduceMul, List.take_left, List.isEmpty_cons, List.isEmpty_nil, ↓reduceIte, Nat.reduceLT, b_half_of, ppD, ev_gt, ixD_t]
theorem lhalf_ok : f__law_half [.p (ppD p)] M = .ok (.p (.int (halfP p))) M := by
  rw [f__law_half, ev_fn, ← half_gen]
  simp only [ev_var0, ev_vars, ev_c, ev_nil, pures_nil, pures_cons, opt_some, optB_some, optU_some, deref_p, op2V_pp, op1V_p, blV_1, blV_2, blV_3, dC_pp, chK_f, andBK_t, andBK_f, orBK_t, orBK_f, truV_p, truD_bl, truD_int, truD_tup, truD_lst, andK_t, andK_f, orK_t, orK_f, notK_b, ifFK_t, ifFK_f, ixV_pp, ixD_t, ixD_k, ixD_l, atI_0, atI_1, atI_2, atI_3, isV_int, isV_bl, isV_non, isV_str, isV_tup, isV_lst, isV_kup, slV_p, ev_noO, sooK_i, ev_seq, sqK_nx, sqK_rt, sqK_ex, sqK_bk, sqK_ct, ev_skip, ev_retN, ifK_t, ifK_f, asK_s, ev_nameG, ev_tupG, ev_tupGk, ev_consG, ev_nilG, parK_2, par3K_3, putK_p, pmK_s, thawK_l, ev_newT, ev_newK, mtK2_s, exit_p, exit_nx, exit_ex, rsK_1, ev_word, wdK_ok, wdK_exc, wdT_s, ev_heard, hdK_ok, hdK_exc, hdT_s, hdI_s, its_fii, its_fi, srV_1, srK_s, srcL, srcT, wkK_s, wkU_t, wkU_l, wkU_s, zpK_tt, zpK_ll, grd_nil, flK_s, le_nx, le_ct, le_bk, le_rt, le_ex, consK2_k, consK2_x, consK1_k, consK1_x, tupK_k, tupK_x, lstK_k, lstK_x, op2B_k, op2B_x, op2A_k, op2A_x, op1A_k, op1A_x, blA_k, blA_x, cmpK_k, cmpK_x, cmpA_k, cmpA_x, valK_k, valK_x, chC_k, chC_x, chB_k, chB_x, chA_k, chA_x, andBA_k, andBA_x, orBA_k, orBA_x, notBA_k, notBA_x, truA_k, truA_x, andA_k, andA_x, orA_k, orA_x, notA_k, notA_x, ifFA_k, ifFA_x, ixB_k, ixB_x, ixA_k, ixA_x, isA_k, isA_x, slC_k, slC_x, slB_k, slB_x, slA_k, slA_x, sooA_k, sooA_x, exprA_k, exprA_x, retA_k, retA_x, ifA_k, ifA_x, setA__k, setA__x, asgA_k, asgA_x, parA_k, parA_x, par3A_k, par3A_x, putC_k, putC_x, putB_k, putB_x, putA_k, putA_x, thawA_k, thawA_x, mtA_k, mtA_x, mtB_k, mtB_x, dispA_k, dispA_x, callA_k, callA_x, raiseA_k, raiseA_x, srA_k, srA_x, seqA_k, seqA_x, r1A_k, r1A_x, r2A_k, r2A_x, zpA_k, zpA_x, forA_k, forA_x, lcA_k, lcA_x, chK_t, mtK_t, ev_cons, ev_tup, ev_lst, ev_op2, ev_op1, ev_bl, ev_cmp, ev_val, ev_chain, ev_andB, ev_orB, ev_notB, ev_tru, ev_and, ev_or, ev_not, ev_ifF, ev_ix, ev_is, ev_sl, ev_someO, ev_expr, ev_ret, ev_if, ev_set, ev_asg, ev_par, ev_par3, ev_put, ev_thaw, ev_meth, ev_disp, ev_call, ev_raise, ev_sorted, ev_seqI, ev_rng1, ev_rng2, ev_zip, ev_for, ev_lc, lcC_k, lcS_k, lcT_t, lcT_f, lcB_k, ev_yes, entG, List.map_cons, List.map_nil, List.length_cons, List.length_nil, List.cons_append, List.nil_append, List.append_nil, List.set_cons_zero, List.set_cons_succ, List.replicate_zero, List.replicate_succ, Nat.reduceAdd, Nat.reduceSub, Option.map_some, Option.bind_some, Option.map_none, Option.bind_none, List.take_length, Bool.not_true, Bool.not_false, Nat.zero_add, Nat.sub_self, Nat.reduceMul, List.take_left, List.isEmpty_cons, List.isEmpty_nil, ↓reduceIte, Nat.reduceLT, b__law_half, ppD, ev_gt, ixD_t]
/-- numbers that may be multiplied -/
structure Sm (p : Int × Int) : Prop where
  x1 : -1000000000 ≤ p.1
  x2 : p.1 ≤ 1000000000
  y1 : -1000000000 ≤ p.2
  y2 : p.2 ≤ 1000000000
theorem Dr.sm (h : Dr 1000000 p) : Sm p := ⟨by have := h.x1; omega, by have := h.x2; omega, by have := h.y1; omega, by have := h.y2; omega⟩
theorem cross_ok (h : Sm p) : f_cross_so [.p (ppD p), .p (ppD q)] M = .ok (.p (.int (crP p q))) M := by
  have a1 := h.x1
  have a2 := h.x2
  have a3 := h.y1
  have a4 := h.y2
  rw [f_cross_so, ev_fn]
  simp (disch := omega) only [ev_var0, ev_vars, ev_c, ev_nil, pures_nil, pures_cons, opt_some, optB_some, optU_some, deref_p, op2V_pp, op1V_p, blV_1, blV_2, blV_3, dC_pp, chK_f, andBK_t, andBK_f, orBK_t, orBK_f, truV_p, truD_bl, truD_int, truD_tup, truD_lst, andK_t, andK_f, orK_t, orK_f, notK_b, ifFK_t, ifFK_f, ixV_pp, ixD_t, ixD_k, ixD_l, atI_0, atI_1, atI_2, atI_3, isV_int, isV_bl, isV_non, isV_str, isV_tup, isV_lst, isV_kup, slV_p, ev_noO, sooK_i, ev_seq, sqK_nx, sqK_rt, sqK_ex, sqK_bk, sqK_ct, ev_skip, ev_retN, ifK_t, ifK_f, asK_s, ev_nameG, ev_tupG, ev_tupGk, ev_consG, ev_nilG, parK_2, par3K_3, putK_p, pmK_s, thawK_l, ev_newT, ev_newK, mtK2_s, exit_p, exit_nx, exit_ex, rsK_1, ev_word, wdK_ok, wdK_exc, wdT_s, ev_heard, hdK_ok, hdK_exc, hdT_s, hdI_s, its_fii, its_fi, srV_1, srK_s, srcL, srcT, wkK_s, wkU_t, wkU_l, wkU_s, zpK_tt, zpK_ll, grd_nil, flK_s, le_nx, le_ct, le_bk, le_rt, le_ex, consK2_k, consK2_x, consK1_k, consK1_x, tupK_k, tupK_x, lstK_k, lstK_x, op2B_k, op2B_x, op2A_k, op2A_x, op1A_k, op1A_x, blA_k, blA_x, cmpK_k, cmpK_x, cmpA_k, cmpA_x, valK_k, valK_x, chC_k, chC_x, chB_k, chB_x, chA_k, chA_x, andBA_k, andBA_x, orBA_k, orBA_x, notBA_k, notBA_x, truA_k, truA_x, andA_k, andA_x, orA_k, orA_x, notA_k, notA_x, ifFA_k, ifFA_x, ixB_k, ixB_x, ixA_k, ixA_x, isA_k, isA_x, slC_k, slC_x, slB_k, slB_x, slA_k, slA_x, sooA_k, sooA_x, exprA_k, exprA_x, retA_k, retA_x, ifA_k, ifA_x, setA__k, setA__x, asgA_k, asgA_x, parA_k, parA_x, par3A_k, par3A_x, putC_k, putC_x, putB_k, putB_x, putA_k, putA_x, thawA_k, thawA_x, mtA_k, mtA_x, mtB_k, mtB_x, dispA_k, dispA_x, callA_k, callA_x, raiseA_k, raiseA_x, srA_k, srA_x, seqA_k, seqA_x, r1A_k, r1A_x, r2A_k, r2A_x, zpA_k, zpA_x, forA_k, forA_x, lcA_k, lcA_x, chK_t, mtK_t, ev_cons, ev_tup, ev_lst, ev_op2, ev_op1, ev_bl, ev_cmp, ev_val, ev_chain, ev_andB, ev_orB, ev_notB, ev_tru, ev_and, ev_or, ev_not, ev_ifF, ev_ix, ev_is, ev_sl, ev_someO, ev_expr, ev_ret, ev_if, ev_set, ev_asg, ev_par, ev_par3, ev_put, ev_thaw, ev_meth, ev_disp, ev_call, ev_raise, ev_sorted, ev_seqI, ev_rng1, ev_rng2, ev_zip, ev_for, ev_lc, lcC_k, lcS_k, lcT_t, lcT_f, lcB_k, ev_yes, entG, List.map_cons, List.map_nil, List.length_cons, List.length_nil, List.cons_append, List.nil_append, List.append_nil, List.set_cons_zero, List.set_cons_succ, List.replicate_zero, List.replicate_succ, Nat.reduceAdd, Nat.reduceSub, Option.map_some, Option.bind_some, Option.map_none, Option.bind_none, List.take_length, Bool.not_true, Bool.not_false, Nat.zero_add, Nat.sub_self, Nat.reduceMul, List.take_left, List.isEmpty_cons, List.isEmpty_nil, ↓reduceIte, Nat.reduceLT, b_cross_so, ppD, mulD_l, subD_i, ixD_t]
  rfl
theorem ahead_ok (h : Sm p) : f_comes_ahead [.p (ppD p), .p (ppD q)] M = .ok (.p (.bl (ahP p q))) M := by
  rw [f_comes_ahead, ev_fn]
  by_cases e : halfP p = halfP q
  · have z : ahP p q = decide (0 < crP p q) := by simp [ahP, e]
    simp only [ev_var0, ev_vars, ev_c, ev_nil, pures_nil, pures_cons, opt_some, optB_some, optU_some, deref_p, op2V_pp, op1V_p, blV_1, blV_2, blV_3, dC_pp, chK_f, andBK_t, andBK_f, orBK_t, orBK_f, truV_p, truD_bl, truD_int, truD_tup, truD_lst, andK_t, andK_f, orK_t, orK_f, notK_b, ifFK_t, ifFK_f, ixV_pp, ixD_t, ixD_k, ixD_l, atI_0, atI_1, atI_2, atI_3, isV_int, isV_bl, isV_non, isV_str, isV_tup, isV_lst, isV_kup, slV_p, ev_noO, sooK_i, ev_seq, sqK_nx, sqK_rt, sqK_ex, sqK_bk, sqK_ct, ev_skip, ev_retN, ifK_t, ifK_f, asK_s, ev_nameG, ev_tupG, ev_tupGk, ev_consG, ev_nilG, parK_2, par3K_3, putK_p, pmK_s, thawK_l, ev_newT, ev_newK, mtK2_s, exit_p, exit_nx, exit_ex, rsK_1, ev_word, wdK_ok, wdK_exc, wdT_s, ev_heard, hdK_ok, hdK_exc, hdT_s, hdI_s, its_fii, its_fi, srV_1, srK_s, srcL, srcT, wkK_s, wkU_t, wkU_l, wkU_s, zpK_tt, zpK_ll, grd_nil, flK_s, le_nx, le_ct, le_bk, le_rt, le_ex, consK2_k, consK2_x, consK1_k, consK1_x, tupK_k, tupK_x, lstK_k, lstK_x, op2B_k, op2B_x, op2A_k, op2A_x, op1A_k, op1A_x, blA_k, blA_x, cmpK_k, cmpK_x, cmpA_k, cmpA_x, valK_k, valK_x, chC_k, chC_x, chB_k, chB_x, chA_k, chA_x, andBA_k, andBA_x, orBA_k, orBA_x, notBA_k, notBA_x, truA_k, truA_x, andA_k, andA_x, orA_k, orA_x, notA_k, notA_x, ifFA_k, ifFA_x, ixB_k, ixB_x, ixA_k, ixA_x, isA_k, isA_x, slC_k, slC_x, slB_k, slB_x, slA_k, slA_x, sooA_k, sooA_x, exprA_k, exprA_x, retA_k, retA_x, ifA_k, ifA_x, setA__k, setA__x, asgA_k, asgA_x, parA_k, parA_x, par3A_k, par3A_x, putC_k, putC_x, putB_k, putB_x, putA_k, putA_x, thawA_k, thawA_x, mtA_k, mtA_x, mtB_k, mtB_x, dispA_k, dispA_x, callA_k, callA_x, raiseA_k, raiseA_x, srA_k, srA_x, seqA_k, seqA_x, r1A_k, r1A_x, r2A_k, r2A_x, zpA_k, zpA_x, forA_k, forA_x, lcA_k, lcA_x, chK_t, mtK_t, ev_cons, ev_tup, ev_lst, ev_op2, ev_op1, ev_bl, ev_cmp, ev_val, ev_chain, ev_andB, ev_orB, ev_notB, ev_tru, ev_and, ev_or, ev_not, ev_ifF, ev_ix, ev_is, ev_sl, ev_someO, ev_expr, ev_ret, ev_if, ev_set, ev_asg, ev_par, ev_par3, ev_put, ev_thaw, ev_meth, ev_disp, ev_call, ev_raise, ev_sorted, ev_seqI, ev_rng1, ev_rng2, ev_zip, ev_for, ev_lc, lcC_k, lcS_k, lcT_t, lcT_f, lcB_k, ev_yes, entG, List.map_cons, List.map_nil, List.length_cons, List.length_nil, List.cons_append, List.nil_append, List.append_nil, List.set_cons_zero, List.set_cons_succ, List.replicate_zero, List.replicate_succ, Nat.reduceAdd, Nat.reduceSub, Option.map_some, Option.bind_some, Option.map_none, Option.bind_none, List.take_length, Bool.not_true, Bool.not_false, Nat.zero_add, Nat.sub_self, Nat.reduceMul, List.take_left, List.isEmpty_cons, List.isEmpty_nil, ↓reduceIte, Nat.reduceLT, b_comes_ahead, half_ok, ev_ne, e, decide_true, cross_ok h, ev_gt, z]
  · have z : ahP p q = decide (halfP p < halfP q) := by simp [ahP, e]
    simp only [ev_var0, ev_vars, ev_c, ev_nil, pures_nil, pures_cons, opt_some, optB_some, optU_some, deref_p, op2V_pp, op1V_p, blV_1, blV_2, blV_3, dC_pp, chK_f, andBK_t, andBK_f, orBK_t, orBK_f, truV_p, truD_bl, truD_int, truD_tup, truD_lst, andK_t, andK_f, orK_t, orK_f, notK_b, ifFK_t, ifFK_f, ixV_pp, ixD_t, ixD_k, ixD_l, atI_0, atI_1, atI_2, atI_3, isV_int, isV_bl, isV_non, isV_str, isV_tup, isV_lst, isV_kup, slV_p, ev_noO, sooK_i, ev_seq, sqK_nx, sqK_rt, sqK_ex, sqK_bk, sqK_ct, ev_skip, ev_retN, ifK_t, ifK_f, asK_s, ev_nameG, ev_tupG, ev_tupGk, ev_consG, ev_nilG, parK_2, par3K_3, putK_p, pmK_s, thawK_l, ev_newT, ev_newK, mtK2_s, exit_p, exit_nx, exit_ex, rsK_1, ev_word, wdK_ok, wdK_exc, wdT_s, ev_heard, hdK_ok, hdK_exc, hdT_s, hdI_s, its_fii, its_fi, srV_1, srK_s, srcL, srcT, wkK_s, wkU_t, wkU_l, wkU_s, zpK_tt, zpK_ll, grd_nil, flK_s, le_nx, le_ct, le_bk, le_rt, le_ex, consK2_k, consK2_x, consK1_k, consK1_x, tupK_k, tupK_x, lstK_k, lstK_x, op2B_k, op2B_x, op2A_k, op2A_x, op1A_k, op1A_x, blA_k, blA_x, cmpK_k, cmpK_x, cmpA_k, cmpA_x, valK_k, valK_x, chC_k, chC_x, chB_k, chB_x, chA_k, chA_x, andBA_k, andBA_x, orBA_k, orBA_x, notBA_k, notBA_x, truA_k, truA_x, andA_k, andA_x, orA_k, orA_x, notA_k, notA_x, ifFA_k, ifFA_x, ixB_k, ixB_x, ixA_k, ixA_x, isA_k, isA_x, slC_k, slC_x, slB_k, slB_x, slA_k, slA_x, sooA_k, sooA_x, exprA_k, exprA_x, retA_k, retA_x, ifA_k, ifA_x, setA__k, setA__x, asgA_k, asgA_x, parA_k, parA_x, par3A_k, par3A_x, putC_k, putC_x, putB_k, putB_x, putA_k, putA_x, thawA_k, thawA_x, mtA_k, mtA_x, mtB_k, mtB_x, dispA_k, dispA_x, callA_k, callA_x, raiseA_k, raiseA_x, srA_k, srA_x, seqA_k, seqA_x, r1A_k, r1A_x, r2A_k, r2A_x, zpA_k, zpA_x, forA_k, forA_x, lcA_k, lcA_x, chK_t, mtK_t, ev_cons, ev_tup, ev_lst, ev_op2, ev_op1, ev_bl, ev_cmp, ev_val, ev_chain, ev_andB, ev_orB, ev_notB, ev_tru, ev_and, ev_or, ev_not, ev_ifF, ev_ix, ev_is, ev_sl, ev_someO, ev_expr, ev_ret, ev_if, ev_set, ev_asg, ev_par, ev_par3, ev_put, ev_thaw, ev_meth, ev_disp, ev_call, ev_raise, ev_sorted, ev_seqI, ev_rng1, ev_rng2, ev_zip, ev_for, ev_lc, lcC_k, lcS_k, lcT_t, lcT_f, lcB_k, ev_yes, entG, List.map_cons, List.map_nil, List.length_cons, List.length_nil, List.cons_append, List.nil_append, List.append_nil, List.set_cons_zero, List.set_cons_succ, List.replicate_zero, List.replicate_succ, Nat.reduceAdd, Nat.reduceSub, Option.map_some, Option.bind_some, Option.map_none, Option.bind_none, List.take_length, Bool.not_true, Bool.not_false, Nat.zero_add, Nat.sub_self, Nat.reduceMul, List.take_left, List.isEmpty_cons, List.isEmpty_nil, ↓reduceIte, Nat.reduceLT, b_comes_ahead, half_ok, ev_ne, e, decide_false, ev_lt, z]
theorem lahead_ok (h : Sm p) : f__law_ahead [.p (ppD p), .p (ppD q)] M = .ok (.p (.bl (ahP p q))) M := by
  have a1 := h.x1
  have a2 := h.x2
  have a3 := h.y1
  have a4 := h.y2
  rw [f__law_ahead, ev_fn]
  by_cases e : halfP p = halfP q
  · have z : ahP p q = decide (0 < crP p q) := by simp [ahP, e]
    simp only [ev_var0, ev_vars, ev_c, ev_nil, pures_nil, pures_cons, opt_some, optB_some, optU_some, deref_p, op2V_pp, op1V_p, blV_1, blV_2, blV_3, dC_pp, chK_f, andBK_t, andBK_f, orBK_t, orBK_f, truV_p, truD_bl, truD_int, truD_tup, truD_lst, andK_t, andK_f, orK_t, orK_f, notK_b, ifFK_t, ifFK_f, ixV_pp, ixD_t, ixD_k, ixD_l, atI_0, atI_1, atI_2, atI_3, isV_int, isV_bl, isV_non, isV_str, isV_tup, isV_lst, isV_kup, slV_p, ev_noO, sooK_i, ev_seq, sqK_nx, sqK_rt, sqK_ex, sqK_bk, sqK_ct, ev_skip, ev_retN, ifK_t, ifK_f, asK_s, ev_nameG, ev_tupG, ev_tupGk, ev_consG, ev_nilG, parK_2, par3K_3, putK_p, pmK_s, thawK_l, ev_newT, ev_newK, mtK2_s, exit_p, exit_nx, exit_ex, rsK_1, ev_word, wdK_ok, wdK_exc, wdT_s, ev_heard, hdK_ok, hdK_exc, hdT_s, hdI_s, its_fii, its_fi, srV_1, srK_s, srcL, srcT, wkK_s, wkU_t, wkU_l, wkU_s, zpK_tt, zpK_ll, grd_nil, flK_s, le_nx, le_ct, le_bk, le_rt, le_ex, consK2_k, consK2_x, consK1_k, consK1_x, tupK_k, tupK_x, lstK_k, lstK_x, op2B_k, op2B_x, op2A_k, op2A_x, op1A_k, op1A_x, blA_k, blA_x, cmpK_k, cmpK_x, cmpA_k, cmpA_x, valK_k, valK_x, chC_k, chC_x, chB_k, chB_x, chA_k, chA_x, andBA_k, andBA_x, orBA_k, orBA_x, notBA_k, notBA_x, truA_k, truA_x, andA_k, andA_x, orA_k, orA_x, notA_k, notA_x, ifFA_k, ifFA_x, ixB_k, ixB_x, ixA_k, ixA_x, isA_k, isA_x, slC_k, slC_x, slB_k, slB_x, slA_k, slA_x, sooA_k, sooA_x, exprA_k, exprA_x, retA_k, retA_x, ifA_k, ifA_x, setA__k, setA__x, asgA_k, asgA_x, parA_k, parA_x, par3A_k, par3A_x, putC_k, putC_x, putB_k, putB_x, putA_k, putA_x, thawA_k, thawA_x, mtA_k, mtA_x, mtB_k, mtB_x, dispA_k, dispA_x, callA_k, callA_x, raiseA_k, raiseA_x, srA_k, srA_x, seqA_k, seqA_x, r1A_k, r1A_x, r2A_k, r2A_x, zpA_k, zpA_x, forA_k, forA_x, lcA_k, lcA_x, chK_t, mtK_t, ev_cons, ev_tup, ev_lst, ev_op2, ev_op1, ev_bl, ev_cmp, ev_val, ev_chain, ev_andB, ev_orB, ev_notB, ev_tru, ev_and, ev_or, ev_not, ev_ifF, ev_ix, ev_is, ev_sl, ev_someO, ev_expr, ev_ret, ev_if, ev_set, ev_asg, ev_par, ev_par3, ev_put, ev_thaw, ev_meth, ev_disp, ev_call, ev_raise, ev_sorted, ev_seqI, ev_rng1, ev_rng2, ev_zip, ev_for, ev_lc, lcC_k, lcS_k, lcT_t, lcT_f, lcB_k, ev_yes, entG, List.map_cons, List.map_nil, List.length_cons, List.length_nil, List.cons_append, List.nil_append, List.append_nil, List.set_cons_zero, List.set_cons_succ, List.replicate_zero, List.replicate_succ, Nat.reduceAdd, Nat.reduceSub, Option.map_some, Option.bind_some, Option.map_none, Option.bind_none, List.take_length, Bool.not_true, Bool.not_false, Nat.zero_add, Nat.sub_self, Nat.reduceMul, List.take_left, List.isEmpty_cons, List.isEmpty_nil, ↓reduceIte, Nat.reduceLT, b__law_ahead, lhalf_ok, ev_ne, e, decide_true]
    simp (disch := omega) only [ev_var0, ev_vars, ev_c, ev_nil, pures_nil, pures_cons, opt_some, optB_some, optU_some, deref_p, op2V_pp, op1V_p, blV_1, blV_2, blV_3, dC_pp, chK_f, andBK_t, andBK_f, orBK_t, orBK_f, truV_p, truD_bl, truD_int, truD_tup, truD_lst, andK_t, andK_f, orK_t, orK_f, notK_b, ifFK_t, ifFK_f, ixV_pp, ixD_t, ixD_k, ixD_l, atI_0, atI_1, atI_2, atI_3, isV_int, isV_bl, isV_non, isV_str, isV_tup, isV_lst, isV_kup, slV_p, ev_noO, sooK_i, ev_seq, sqK_nx, sqK_rt, sqK_ex, sqK_bk, sqK_ct, ev_skip, ev_retN, ifK_t, ifK_f, asK_s, ev_nameG, ev_tupG, ev_tupGk, ev_consG, ev_nilG, parK_2, par3K_3, putK_p, pmK_s, thawK_l, ev_newT, ev_newK, mtK2_s, exit_p, exit_nx, exit_ex, rsK_1, ev_word, wdK_ok, wdK_exc, wdT_s, ev_heard, hdK_ok, hdK_exc, hdT_s, hdI_s, its_fii, its_fi, srV_1, srK_s, srcL, srcT, wkK_s, wkU_t, wkU_l, wkU_s, zpK_tt, zpK_ll, grd_nil, flK_s, le_nx, le_ct, le_bk, le_rt, le_ex, consK2_k, consK2_x, consK1_k, consK1_x, tupK_k, tupK_x, lstK_k, lstK_x, op2B_k, op2B_x, op2A_k, op2A_x, op1A_k, op1A_x, blA_k, blA_x, cmpK_k, cmpK_x, cmpA_k, cmpA_x, valK_k, valK_x, chC_k, chC_x, chB_k, chB_x, chA_k, chA_x, andBA_k, andBA_x, orBA_k, orBA_x, notBA_k, notBA_x, truA_k, truA_x, andA_k, andA_x, orA_k, orA_x, notA_k, notA_x, ifFA_k, ifFA_x, ixB_k, ixB_x, ixA_k, ixA_x, isA_k, isA_x, slC_k, slC_x, slB_k, slB_x, slA_k, slA_x, sooA_k, sooA_x, exprA_k, exprA_x, retA_k, retA_x, ifA_k, ifA_x, setA__k, setA__x, asgA_k, asgA_x, parA_k, parA_x, par3A_k, par3A_x, putC_k, putC_x, putB_k, putB_x, putA_k, putA_x, thawA_k, thawA_x, mtA_k, mtA_x, mtB_k, mtB_x, dispA_k, dispA_x, callA_k, callA_x, raiseA_k, raiseA_x, srA_k, srA_x, seqA_k, seqA_x, r1A_k, r1A_x, r2A_k, r2A_x, zpA_k, zpA_x, forA_k, forA_x, lcA_k, lcA_x, chK_t, mtK_t, ev_cons, ev_tup, ev_lst, ev_op2, ev_op1, ev_bl, ev_cmp, ev_val, ev_chain, ev_andB, ev_orB, ev_notB, ev_tru, ev_and, ev_or, ev_not, ev_ifF, ev_ix, ev_is, ev_sl, ev_someO, ev_expr, ev_ret, ev_if, ev_set, ev_asg, ev_par, ev_par3, ev_put, ev_thaw, ev_meth, ev_disp, ev_call, ev_raise, ev_sorted, ev_seqI, ev_rng1, ev_rng2, ev_zip, ev_for, ev_lc, lcC_k, lcS_k, lcT_t, lcT_f, lcB_k, ev_yes, entG, List.map_cons, List.map_nil, List.length_cons, List.length_nil, List.cons_append, List.nil_append, List.append_nil, List.set_cons_zero, List.set_cons_succ, List.replicate_zero, List.replicate_succ, Nat.reduceAdd, Nat.reduceSub, Option.map_some, Option.bind_some, Option.map_none, Option.bind_none, List.take_length, Bool.not_true, Bool.not_false, Nat.zero_add, Nat.sub_self, Nat.reduceMul, List.take_left, List.isEmpty_cons, List.isEmpty_nil, ↓reduceIte, Nat.reduceLT, ppD, mulD_l, subD_i, ixD_t, ev_gt, z]
    rfl
  · have z : ahP p q = decide (halfP p < halfP q) := by simp [ahP, e]
    simp only [ev_var0, ev_vars, ev_c, ev_nil, pures_nil, pures_cons, opt_some, optB_some, optU_some, deref_p, op2V_pp, op1V_p, blV_1, blV_2, blV_3, dC_pp, chK_f, andBK_t, andBK_f, orBK_t, orBK_f, truV_p, truD_bl, truD_int, truD_tup, truD_lst, andK_t, andK_f, orK_t, orK_f, notK_b, ifFK_t, ifFK_f, ixV_pp, ixD_t, ixD_k, ixD_l, atI_0, atI_1, atI_2, atI_3, isV_int, isV_bl, isV_non, isV_str, isV_tup, isV_lst, isV_kup, slV_p, ev_noO, sooK_i, ev_seq, sqK_nx, sqK_rt, sqK_ex, sqK_bk, sqK_ct, ev_skip, ev_retN, ifK_t, ifK_f, asK_s, ev_nameG, ev_tupG, ev_tupGk, ev_consG, ev_nilG, parK_2, par3K_3, putK_p, pmK_s, thawK_l, ev_newT, ev_newK, mtK2_s, exit_p, exit_nx, exit_ex, rsK_1, ev_word, wdK_ok, wdK_exc, wdT_s, ev_heard, hdK_ok, hdK_exc, hdT_s, hdI_s, its_fii, its_fi, srV_1, srK_s, srcL, srcT, wkK_s, wkU_t, wkU_l, wkU_s, zpK_tt, zpK_ll, grd_nil, flK_s, le_nx, le_ct, le_bk, le_rt, le_ex, consK2_k, consK2_x, consK1_k, consK1_x, tupK_k, tupK_x, lstK_k, lstK_x, op2B_k, op2B_x, op2A_k, op2A_x, op1A_k, op1A_x, blA_k, blA_x, cmpK_k, cmpK_x, cmpA_k, cmpA_x, valK_k, valK_x, chC_k, chC_x, chB_k, chB_x, chA_k, chA_x, andBA_k, andBA_x, orBA_k, orBA_x, notBA_k, notBA_x, truA_k, truA_x, andA_k, andA_x, orA_k, orA_x, notA_k, notA_x, ifFA_k, ifFA_x, ixB_k, ixB_x, ixA_k, ixA_x, isA_k, isA_x, slC_k, slC_x, slB_k, slB_x, slA_k, slA_x, sooA_k, sooA_x, exprA_k, exprA_x, retA_k, retA_x, ifA_k, ifA_x, setA__k, setA__x, asgA_k, asgA_x, parA_k, parA_x, par3A_k, par3A_x, putC_k, putC_x, putB_k, putB_x, putA_k, putA_x, thawA_k, thawA_x, mtA_k, mtA_x, mtB_k, mtB_x, dispA_k, dispA_x, callA_k, callA_x, raiseA_k, raiseA_x, srA_k, srA_x, seqA_k, seqA_x, r1A_k, r1A_x, r2A_k, r2A_x, zpA_k, zpA_x, forA_k, forA_x, lcA_k, lcA_x, chK_t, mtK_t, ev_cons, ev_tup, ev_lst, ev_op2, ev_op1, ev_bl, ev_cmp, ev_val, ev_chain, ev_andB, ev_orB, ev_notB, ev_tru, ev_and, ev_or, ev_not, ev_ifF, ev_ix, ev_is, ev_sl, ev_someO, ev_expr, ev_ret, ev_if, ev_set, ev_asg, ev_par, ev_par3, ev_put, ev_thaw, ev_meth, ev_disp, ev_call, ev_raise, ev_sorted, ev_seqI, ev_rng1, ev_rng2, ev_zip, ev_for, ev_lc, lcC_k, lcS_k, lcT_t, lcT_f, lcB_k, ev_yes, entG, List.map_cons, List.map_nil, List.length_cons, List.length_nil, List.cons_append, List.nil_append, List.append_nil, List.set_cons_zero, List.set_cons_succ, List.replicate_zero, List.replicate_succ, Nat.reduceAdd, Nat.reduceSub, Option.map_some, Option.bind_some, Option.map_none, Option.bind_none, List.take_length, Bool.not_true, Bool.not_false, Nat.zero_add, Nat.sub_self, Nat.reduceMul, List.take_left, List.isEmpty_cons, List.isEmpty_nil, ↓reduceIte, Nat.reduceLT, b__law_ahead, lhalf_ok, ev_ne, e, decide_false, ev_lt, z]
end
end K_whole
namespace K_whole
open PySem PySem.Spec PyProof.Rows L2 Mp
section
variable {M : Mem} {p q : Int × Int} {ps L : List (Int × Int)}
noncomputable def ordBody : Fs := (seqS (setS 3 (callF f_plain_of (consA (varF 2) nilA)))
  (ifS (cmpB notinA (varF 3) (varF 1)) (exprS (methF insG (varF 1) (consA (blF lenD (consA (lcF (seqI (varF 1)) (nameG 4) [4] (truB (callF f_comes_ahead (consA (varF 4) (consA (varF 3) nilA)))) (cF (.int 1))) nilA)) (consA (varF 3) nilA)))) skipS))
theorem cnt_ok {gd : List (Nat × List D)} {o0 o1 o2 : Option U} (hg : grd gd M) (hs : ∀ a ∈ L, Sm a) (hl : L.length ≤ 100000) : lcL gd (nameG 4) (truB (callF f_comes_ahead (consA (varF 4) (consA (varF 3) nilA)))) (cF (.int 1)) [o0, o1, o2, some (.p (ppD p)), none] (L.map ppD) [] M = .ok (.p (.lst (((L.filter fun a => ahP a p).map ppD).map fun _ => .int 1))) M := by
  have h := lc_fm (Γ := [o0, o1, o2, some (.p (ppD p)), none]) (M := M) (gd := gd) (asg := nameG 4) (c := truB (callF f_comes_ahead (consA (varF 4) (consA (varF 3) nilA)))) (f := cF (.int 1)) (t := dP fun a => ahP a p) (q := fun _ => .int 1) hg (ds := L.map ppD) (acc := []) (fun d hd => by
    obtain ⟨a, ha, rfl⟩ := List.mem_map.mp hd
    have k := ahead_ok (M := M) (q := p) (hs a ha)
    refine ⟨_, rfl, ?_, fun _ => rfl⟩
    simp only [ev_var0, ev_vars, ev_c, ev_nil, pures_nil, pures_cons, opt_some, optB_some, optU_some, deref_p, op2V_pp, op1V_p, blV_1, blV_2, blV_3, dC_pp, chK_f, andBK_t, andBK_f, orBK_t, orBK_f, truV_p, truD_bl, truD_int, truD_tup, truD_lst, andK_t, andK_f, orK_t, orK_f, notK_b, ifFK_t, ifFK_f, ixV_pp, ixD_t, ixD_k, ixD_l, atI_0, atI_1, atI_2, atI_3, isV_int, isV_bl, isV_non, isV_str, isV_tup, isV_lst, isV_kup, slV_p, ev_noO, sooK_i, ev_seq, sqK_nx, sqK_rt, sqK_ex, sqK_bk, sqK_ct, ev_skip, ev_retN, ifK_t, ifK_f, asK_s, ev_nameG, ev_tupG, ev_tupGk, ev_consG, ev_nilG, parK_2, par3K_3, putK_p, pmK_s, thawK_l, ev_newT, ev_newK, mtK2_s, exit_p, exit_nx, exit_ex, rsK_1, ev_word, wdK_ok, wdK_exc, wdT_s, ev_heard, hdK_ok, hdK_exc, hdT_s, hdI_s, its_fii, its_fi, srV_1, srK_s, srcL, srcT, wkK_s, wkU_t, wkU_l, wkU_s, zpK_tt, zpK_ll, grd_nil, flK_s, le_nx, le_ct, le_bk, le_rt, le_ex, consK2_k, consK2_x, consK1_k, consK1_x, tupK_k, tupK_x, lstK_k, lstK_x, op2B_k, op2B_x, op2A_k, op2A_x, op1A_k, op1A_x, blA_k, blA_x, cmpK_k, cmpK_x, cmpA_k, cmpA_x, valK_k, valK_x, chC_k, chC_x, chB_k, chB_x, chA_k, chA_x, andBA_k, andBA_x, orBA_k, orBA_x, notBA_k, notBA_x, truA_k, truA_x, andA_k, andA_x, orA_k, orA_x, notA_k, notA_x, ifFA_k, ifFA_x, ixB_k, ixB_x, ixA_k, ixA_x, isA_k, isA_x, slC_k, slC_x, slB_k, slB_x, slA_k, slA_x, sooA_k, sooA_x, exprA_k, exprA_x, retA_k, retA_x, ifA_k, ifA_x, setA__k, setA__x, asgA_k, asgA_x, parA_k, parA_x, par3A_k, par3A_x, putC_k, putC_x, putB_k, putB_x, putA_k, putA_x, thawA_k, thawA_x, mtA_k, mtA_x, mtB_k, mtB_x, dispA_k, dispA_x, callA_k, callA_x, raiseA_k, raiseA_x, srA_k, srA_x, seqA_k, seqA_x, r1A_k, r1A_x, r2A_k, r2A_x, zpA_k, zpA_x, forA_k, forA_x, lcA_k, lcA_x, chK_t, mtK_t, ev_cons, ev_tup, ev_lst, ev_op2, ev_op1, ev_bl, ev_cmp, ev_val, ev_chain, ev_andB, ev_orB, ev_notB, ev_tru, ev_and, ev_or, ev_not, ev_ifF, ev_ix, ev_is, ev_sl, ev_someO, ev_expr, ev_ret, ev_if, ev_set, ev_asg, ev_par, ev_par3, ev_put, ev_thaw, ev_meth, ev_disp, ev_call, ev_raise, ev_sorted, ev_seqI, ev_rng1, ev_rng2, ev_zip, ev_for, ev_lc, lcC_k, lcS_k, lcT_t, lcT_f, lcB_k, ev_yes, entG, List.map_cons, List.map_nil, List.length_cons, List.length_nil, List.cons_append, List.nil_append, List.append_nil, List.set_cons_zero, List.set_cons_succ, List.replicate_zero, List.replicate_succ, Nat.reduceAdd, Nat.reduceSub, Option.map_some, Option.bind_some, Option.map_none, Option.bind_none, List.take_length, Bool.not_true, Bool.not_false, Nat.zero_add, Nat.sub_self, Nat.reduceMul, List.take_left, List.isEmpty_cons, List.isEmpty_nil, ↓reduceIte, Nat.reduceLT, k]
    rfl) (by simp; omega)
  rw [filter_dP, List.nil_append] at h
  exact h
theorem len_cnt {l : List (Int × Int)} {M : Mem} : lenD [.lst ((l.map ppD).map fun _ => .int 1)] = some (.int (l.length : Nat)) := by
  rw [lenD_l]
  simp
theorem ord_step {o0 o2 o4 : Option U} (hp : Dr 1000000 p) (hs : ∀ a ∈ L, Sm a) (hl : L.length ≤ 100000) :
    ∃ o4', ordBody [o0, some (.loc M.length), some (.p (ppD p)), o2, o4] (M ++ [.lst (L.map ppD)]) = .nx [o0, some (.loc M.length), some (.p (ppD p)), some (.p (ppD (plnOf p))), o4'] (M ++ [.lst ((putMpOnce ahP L (plnOf p)).map ppD)]) := by
  have k1 := fun M => plain_ok (M := M) hp
  have k2 := notin_prs (M := M ++ [.lst (L.map ppD)]) (p := plnOf p) (c := .loc M.length) (L := L) end_deref rfl
  by_cases h : plnOf p ∈ L
  · refine ⟨o4, ?_⟩
    simp only [ev_var0, ev_vars, ev_c, ev_nil, pures_nil, pures_cons, opt_some, optB_some, optU_some, deref_p, op2V_pp, op1V_p, blV_1, blV_2, blV_3, dC_pp, chK_f, andBK_t, andBK_f, orBK_t, orBK_f, truV_p, truD_bl, truD_int, truD_tup, truD_lst, andK_t, andK_f, orK_t, orK_f, notK_b, ifFK_t, ifFK_f, ixV_pp, ixD_t, ixD_k, ixD_l, atI_0, atI_1, atI_2, atI_3, isV_int, isV_bl, isV_non, isV_str, isV_tup, isV_lst, isV_kup, slV_p, ev_noO, sooK_i, ev_seq, sqK_nx, sqK_rt, sqK_ex, sqK_bk, sqK_ct, ev_skip, ev_retN, ifK_t, ifK_f, asK_s, ev_nameG, ev_tupG, ev_tupGk, ev_consG, ev_nilG, parK_2, par3K_3, putK_p, pmK_s, thawK_l, ev_newT, ev_newK, mtK2_s, exit_p, exit_nx, exit_ex, rsK_1, ev_word, wdK_ok, wdK_exc, wdT_s, ev_heard, hdK_ok, hdK_exc, hdT_s, hdI_s, its_fii, its_fi, srV_1, srK_s, srcL, srcT, wkK_s, wkU_t, wkU_l, wkU_s, zpK_tt, zpK_ll, grd_nil, flK_s, le_nx, le_ct, le_bk, le_rt, le_ex, consK2_k, consK2_x, consK1_k, consK1_x, tupK_k, tupK_x, lstK_k, lstK_x, op2B_k, op2B_x, op2A_k, op2A_x, op1A_k, op1A_x, blA_k, blA_x, cmpK_k, cmpK_x, cmpA_k, cmpA_x, valK_k, valK_x, chC_k, chC_x, chB_k, chB_x, chA_k, chA_x, andBA_k, andBA_x, orBA_k, orBA_x, notBA_k, notBA_x, truA_k, truA_x, andA_k, andA_x, orA_k, orA_x, notA_k, notA_x, ifFA_k, ifFA_x, ixB_k, ixB_x, ixA_k, ixA_x, isA_k, isA_x, slC_k, slC_x, slB_k, slB_x, slA_k, slA_x, sooA_k, sooA_x, exprA_k, exprA_x, retA_k, retA_x, ifA_k, ifA_x, setA__k, setA__x, asgA_k, asgA_x, parA_k, parA_x, par3A_k, par3A_x, putC_k, putC_x, putB_k, putB_x, putA_k, putA_x, thawA_k, thawA_x, mtA_k, mtA_x, mtB_k, mtB_x, dispA_k, dispA_x, callA_k, callA_x, raiseA_k, raiseA_x, srA_k, srA_x, seqA_k, seqA_x, r1A_k, r1A_x, r2A_k, r2A_x, zpA_k, zpA_x, forA_k, forA_x, lcA_k, lcA_x, chK_t, mtK_t, ev_cons, ev_tup, ev_lst, ev_op2, ev_op1, ev_bl, ev_cmp, ev_val, ev_chain, ev_andB, ev_orB, ev_notB, ev_tru, ev_and, ev_or, ev_not, ev_ifF, ev_ix, ev_is, ev_sl, ev_someO, ev_expr, ev_ret, ev_if, ev_set, ev_asg, ev_par, ev_par3, ev_put, ev_thaw, ev_meth, ev_disp, ev_call, ev_raise, ev_sorted, ev_seqI, ev_rng1, ev_rng2, ev_zip, ev_for, ev_lc, lcC_k, lcS_k, lcT_t, lcT_f, lcB_k, ev_yes, entG, List.map_cons, List.map_nil, List.length_cons, List.length_nil, List.cons_append, List.nil_append, List.append_nil, List.set_cons_zero, List.set_cons_succ, List.replicate_zero, List.replicate_succ, Nat.reduceAdd, Nat.reduceSub, Option.map_some, Option.bind_some, Option.map_none, Option.bind_none, List.take_length, Bool.not_true, Bool.not_false, Nat.zero_add, Nat.sub_self, Nat.reduceMul, List.take_left, List.isEmpty_cons, List.isEmpty_nil, ↓reduceIte, Nat.reduceLT, ordBody, k1, k2, h, decide_true, putMpOnce, if_true]
  · refine ⟨o4, ?_⟩
    have k3 := fun o0 o1 o2 => cnt_ok (M := M ++ [.lst (L.map ppD)]) (p := plnOf p) (o0 := o0) (o1 := o1) (o2 := o2) (gd := [(M.length, L.map ppD)]) (grd_1 end_get) hs hl
    have k4 := wkU_loc (M := M ++ [.lst (L.map ppD)]) end_get
    have hle : (L.filter fun a => ahP a (plnOf p)).length ≤ L.length := List.length_filter_le ..
    have k5 := end_ins (M := M) (xs := L.map ppD) (d := ppD (plnOf p)) (i := (L.filter fun a => ahP a (plnOf p)).length) (by simp; omega) (by simpa using hle)
    simp only [ev_var0, ev_vars, ev_c, ev_nil, pures_nil, pures_cons, opt_some, optB_some, optU_some, deref_p, op2V_pp, op1V_p, blV_1, blV_2, blV_3, dC_pp, chK_f, andBK_t, andBK_f, orBK_t, orBK_f, truV_p, truD_bl, truD_int, truD_tup, truD_lst, andK_t, andK_f, orK_t, orK_f, notK_b, ifFK_t, ifFK_f, ixV_pp, ixD_t, ixD_k, ixD_l, atI_0, atI_1, atI_2, atI_3, isV_int, isV_bl, isV_non, isV_str, isV_tup, isV_lst, isV_kup, slV_p, ev_noO, sooK_i, ev_seq, sqK_nx, sqK_rt, sqK_ex, sqK_bk, sqK_ct, ev_skip, ev_retN, ifK_t, ifK_f, asK_s, ev_nameG, ev_tupG, ev_tupGk, ev_consG, ev_nilG, parK_2, par3K_3, putK_p, pmK_s, thawK_l, ev_newT, ev_newK, mtK2_s, exit_p, exit_nx, exit_ex, rsK_1, ev_word, wdK_ok, wdK_exc, wdT_s, ev_heard, hdK_ok, hdK_exc, hdT_s, hdI_s, its_fii, its_fi, srV_1, srK_s, srcL, srcT, wkK_s, wkU_t, wkU_l, wkU_s, zpK_tt, zpK_ll, grd_nil, flK_s, le_nx, le_ct, le_bk, le_rt, le_ex, consK2_k, consK2_x, consK1_k, consK1_x, tupK_k, tupK_x, lstK_k, lstK_x, op2B_k, op2B_x, op2A_k, op2A_x, op1A_k, op1A_x, blA_k, blA_x, cmpK_k, cmpK_x, cmpA_k, cmpA_x, valK_k, valK_x, chC_k, chC_x, chB_k, chB_x, chA_k, chA_x, andBA_k, andBA_x, orBA_k, orBA_x, notBA_k, notBA_x, truA_k, truA_x, andA_k, andA_x, orA_k, orA_x, notA_k, notA_x, ifFA_k, ifFA_x, ixB_k, ixB_x, ixA_k, ixA_x, isA_k, isA_x, slC_k, slC_x, slB_k, slB_x, slA_k, slA_x, sooA_k, sooA_x, exprA_k, exprA_x, retA_k, retA_x, ifA_k, ifA_x, setA__k, setA__x, asgA_k, asgA_x, parA_k, parA_x, par3A_k, par3A_x, putC_k, putC_x, putB_k, putB_x, putA_k, putA_x, thawA_k, thawA_x, mtA_k, mtA_x, mtB_k, mtB_x, dispA_k, dispA_x, callA_k, callA_x, raiseA_k, raiseA_x, srA_k, srA_x, seqA_k, seqA_x, r1A_k, r1A_x, r2A_k, r2A_x, zpA_k, zpA_x, forA_k, forA_x, lcA_k, lcA_x, chK_t, mtK_t, ev_cons, ev_tup, ev_lst, ev_op2, ev_op1, ev_bl, ev_cmp, ev_val, ev_chain, ev_andB, ev_orB, ev_notB, ev_tru, ev_and, ev_or, ev_not, ev_ifF, ev_ix, ev_is, ev_sl, ev_someO, ev_expr, ev_ret, ev_if, ev_set, ev_asg, ev_par, ev_par3, ev_put, ev_thaw, ev_meth, ev_disp, ev_call, ev_raise, ev_sorted, ev_seqI, ev_rng1, ev_rng2, ev_zip, ev_for, ev_lc, lcC_k, lcS_k, lcT_t, lcT_f, lcB_k, ev_yes, entG, List.map_cons, List.map_nil, List.length_cons, List.length_nil, List.cons_append, List.nil_append, List.append_nil, List.set_cons_zero, List.set_cons_succ, List.replicate_zero, List.replicate_succ, Nat.reduceAdd, Nat.reduceSub, Option.map_some, Option.bind_some, Option.map_none, Option.bind_none, List.take_length, Bool.not_true, Bool.not_false, Nat.zero_add, Nat.sub_self, Nat.reduceMul, List.take_left, List.isEmpty_cons, List.isEmpty_nil, ↓reduceIte, Nat.reduceLT, ordBody, k1, k2, h, decide_false, end_isLoc, k4, wipeG, k3, len_cnt (M := M), k5]
    simp [putMpOnce, h, putMp, List.map_take, List.map_drop]
theorem pln_dr (h : Dr 1000000 p) : Sm (plnOf p) := by
  obtain ⟨a, b, c, d⟩ := pln_le h.nz h.x1 h.x2 h.y1 h.y2
  exact ⟨by omega, by omega, by omega, by omega⟩
theorem putOnce_len : (putMpOnce ahP L p).length ≤ L.length + 1 := by
  unfold putMpOnce
  split
  · omega
  · rw [putMp_len]; omega
theorem putOnce_mem : q ∈ putMpOnce ahP L p → q ∈ L ∨ q = p := by
  unfold putMpOnce
  split
  · exact .inl
  · exact putMp_mem.mp
theorem ord_loop {o0 : Option U} : ∀ {ps L : List (Int × Int)} {o2 o3 o4 : Option U}, (∀ p ∈ ps, Dr 1000000 p) → (∀ a ∈ L, Sm a) → L.length + ps.length ≤ 100000 →
    ∃ o2' o3' o4', forL [] (nameG 2) ordBody (ps.map ppD) [o0, some (.loc M.length), o2, o3, o4] (M ++ [.lst (L.map ppD)]) = .nx [o0, some (.loc M.length), o2', o3', o4'] (M ++ [.lst ((putMpAll ahP L (ps.map plnOf)).map ppD)])
  | [], L, o2, o3, o4, _, _, _ => ⟨o2, o3, o4, by simp only [List.map_nil, for_nil, for_cons, lc_nil, lc_cons, putMpAll, List.foldl_nil]⟩
  | p :: ps, L, o2, o3, o4, hp, hs, hl => by
    simp only [List.length_cons] at hl
    obtain ⟨o4', e1⟩ := ord_step (M := M) (o0 := o0) (o2 := o3) (o4 := o4) (hp p (by simp)) hs (by omega)
    obtain ⟨a, b, c, e2⟩ := ord_loop (o0 := o0) (ps := ps) (L := putMpOnce ahP L (plnOf p)) (o2 := some (.p (ppD p))) (o3 := some (.p (ppD (plnOf p)))) (o4 := o4') (fun x hx => hp x (by simp [hx])) (fun x hx => by
      rcases putOnce_mem hx with h | rfl
      · exact hs x h
      · exact pln_dr (hp p (by simp))) (by have := putOnce_len (L := L) (p := plnOf p); omega)
    refine ⟨a, b, c, ?_⟩
    rw [List.map_cons, for_cons]
    simp only [ev_var0, ev_vars, ev_c, ev_nil, pures_nil, pures_cons, opt_some, optB_some, optU_some, deref_p, op2V_pp, op1V_p, blV_1, blV_2, blV_3, dC_pp, chK_f, andBK_t, andBK_f, orBK_t, orBK_f, truV_p, truD_bl, truD_int, truD_tup, truD_lst, andK_t, andK_f, orK_t, orK_f, notK_b, ifFK_t, ifFK_f, ixV_pp, ixD_t, ixD_k, ixD_l, atI_0, atI_1, atI_2, atI_3, isV_int, isV_bl, isV_non, isV_str, isV_tup, isV_lst, isV_kup, slV_p, ev_noO, sooK_i, ev_seq, sqK_nx, sqK_rt, sqK_ex, sqK_bk, sqK_ct, ev_skip, ev_retN, ifK_t, ifK_f, asK_s, ev_nameG, ev_tupG, ev_tupGk, ev_consG, ev_nilG, parK_2, par3K_3, putK_p, pmK_s, thawK_l, ev_newT, ev_newK, mtK2_s, exit_p, exit_nx, exit_ex, rsK_1, ev_word, wdK_ok, wdK_exc, wdT_s, ev_heard, hdK_ok, hdK_exc, hdT_s, hdI_s, its_fii, its_fi, srV_1, srK_s, srcL, srcT, wkK_s, wkU_t, wkU_l, wkU_s, zpK_tt, zpK_ll, grd_nil, flK_s, le_nx, le_ct, le_bk, le_rt, le_ex, consK2_k, consK2_x, consK1_k, consK1_x, tupK_k, tupK_x, lstK_k, lstK_x, op2B_k, op2B_x, op2A_k, op2A_x, op1A_k, op1A_x, blA_k, blA_x, cmpK_k, cmpK_x, cmpA_k, cmpA_x, valK_k, valK_x, chC_k, chC_x, chB_k, chB_x, chA_k, chA_x, andBA_k, andBA_x, orBA_k, orBA_x, notBA_k, notBA_x, truA_k, truA_x, andA_k, andA_x, orA_k, orA_x, notA_k, notA_x, ifFA_k, ifFA_x, ixB_k, ixB_x, ixA_k, ixA_x, isA_k, isA_x, slC_k, slC_x, slB_k, slB_x, slA_k, slA_x, sooA_k, sooA_x, exprA_k, exprA_x, retA_k, retA_x, ifA_k, ifA_x, setA__k, setA__x, asgA_k, asgA_x, parA_k, parA_x, par3A_k, par3A_x, putC_k, putC_x, putB_k, putB_x, putA_k, putA_x, thawA_k, thawA_x, mtA_k, mtA_x, mtB_k, mtB_x, dispA_k, dispA_x, callA_k, callA_x, raiseA_k, raiseA_x, srA_k, srA_x, seqA_k, seqA_x, r1A_k, r1A_x, r2A_k, r2A_x, zpA_k, zpA_x, forA_k, forA_x, lcA_k, lcA_x, chK_t, mtK_t, ev_cons, ev_tup, ev_lst, ev_op2, ev_op1, ev_bl, ev_cmp, ev_val, ev_chain, ev_andB, ev_orB, ev_notB, ev_tru, ev_and, ev_or, ev_not, ev_ifF, ev_ix, ev_is, ev_sl, ev_someO, ev_expr, ev_ret, ev_if, ev_set, ev_asg, ev_par, ev_par3, ev_put, ev_thaw, ev_meth, ev_disp, ev_call, ev_raise, ev_sorted, ev_seqI, ev_rng1, ev_rng2, ev_zip, ev_for, ev_lc, lcC_k, lcS_k, lcT_t, lcT_f, lcB_k, ev_yes, entG, List.map_cons, List.map_nil, List.length_cons, List.length_nil, List.cons_append, List.nil_append, List.append_nil, List.set_cons_zero, List.set_cons_succ, List.replicate_zero, List.replicate_succ, Nat.reduceAdd, Nat.reduceSub, Option.map_some, Option.bind_some, Option.map_none, Option.bind_none, List.take_length, Bool.not_true, Bool.not_false, Nat.zero_add, Nat.sub_self, Nat.reduceMul, List.take_left, List.isEmpty_cons, List.isEmpty_nil, ↓reduceIte, Nat.reduceLT, e1, e2]
    rfl
theorem ordered_ok {d : D} (hd : wkU M (.p d) = some ⟨ps.map ppD, []⟩) (hp : ∀ p ∈ ps, Dr 1000000 p) (hl : ps.length ≤ 10000) : f_ordered [.p d] M = .ok (.p (.lst ((roundP ps).map ppD))) M := by
  obtain ⟨a, b, c, e⟩ := ord_loop (M := M) (o0 := some (.p d)) (ps := ps) (L := []) (o2 := none) (o3 := none) (o4 := none) hp (by simp) (by simp; omega)
  simp only [ordBody, List.map_nil] at e
  have hd' : ∀ M', wkU M' (.p d) = some ⟨ps.map ppD, []⟩ := fun M' => hd
  rw [f_ordered, ev_fn]
  simp only [ev_var0, ev_vars, ev_c, ev_nil, pures_nil, pures_cons, opt_some, optB_some, optU_some, deref_p, op2V_pp, op1V_p, blV_1, blV_2, blV_3, dC_pp, chK_f, andBK_t, andBK_f, orBK_t, orBK_f, truV_p, truD_bl, truD_int, truD_tup, truD_lst, andK_t, andK_f, orK_t, orK_f, notK_b, ifFK_t, ifFK_f, ixV_pp, ixD_t, ixD_k, ixD_l, atI_0, atI_1, atI_2, atI_3, isV_int, isV_bl, isV_non, isV_str, isV_tup, isV_lst, isV_kup, slV_p, ev_noO, sooK_i, ev_seq, sqK_nx, sqK_rt, sqK_ex, sqK_bk, sqK_ct, ev_skip, ev_retN, ifK_t, ifK_f, asK_s, ev_nameG, ev_tupG, ev_tupGk, ev_consG, ev_nilG, parK_2, par3K_3, putK_p, pmK_s, thawK_l, ev_newT, ev_newK, mtK2_s, exit_p, exit_nx, exit_ex, rsK_1, ev_word, wdK_ok, wdK_exc, wdT_s, ev_heard, hdK_ok, hdK_exc, hdT_s, hdI_s, its_fii, its_fi, srV_1, srK_s, srcL, srcT, wkK_s, wkU_t, wkU_l, wkU_s, zpK_tt, zpK_ll, grd_nil, flK_s, le_nx, le_ct, le_bk, le_rt, le_ex, consK2_k, consK2_x, consK1_k, consK1_x, tupK_k, tupK_x, lstK_k, lstK_x, op2B_k, op2B_x, op2A_k, op2A_x, op1A_k, op1A_x, blA_k, blA_x, cmpK_k, cmpK_x, cmpA_k, cmpA_x, valK_k, valK_x, chC_k, chC_x, chB_k, chB_x, chA_k, chA_x, andBA_k, andBA_x, orBA_k, orBA_x, notBA_k, notBA_x, truA_k, truA_x, andA_k, andA_x, orA_k, orA_x, notA_k, notA_x, ifFA_k, ifFA_x, ixB_k, ixB_x, ixA_k, ixA_x, isA_k, isA_x, slC_k, slC_x, slB_k, slB_x, slA_k, slA_x, sooA_k, sooA_x, exprA_k, exprA_x, retA_k, retA_x, ifA_k, ifA_x, setA__k, setA__x, asgA_k, asgA_x, parA_k, parA_x, par3A_k, par3A_x, putC_k, putC_x, putB_k, putB_x, putA_k, putA_x, thawA_k, thawA_x, mtA_k, mtA_x, mtB_k, mtB_x, dispA_k, dispA_x, callA_k, callA_x, raiseA_k, raiseA_x, srA_k, srA_x, seqA_k, seqA_x, r1A_k, r1A_x, r2A_k, r2A_x, zpA_k, zpA_x, forA_k, forA_x, lcA_k, lcA_x, chK_t, mtK_t, ev_cons, ev_tup, ev_lst, ev_op2, ev_op1, ev_bl, ev_cmp, ev_val, ev_chain, ev_andB, ev_orB, ev_notB, ev_tru, ev_and, ev_or, ev_not, ev_ifF, ev_ix, ev_is, ev_sl, ev_someO, ev_expr, ev_ret, ev_if, ev_set, ev_asg, ev_par, ev_par3, ev_put, ev_thaw, ev_meth, ev_disp, ev_call, ev_raise, ev_sorted, ev_seqI, ev_rng1, ev_rng2, ev_zip, ev_for, ev_lc, lcC_k, lcS_k, lcT_t, lcT_f, lcB_k, ev_yes, entG, List.map_cons, List.map_nil, List.length_cons, List.length_nil, List.cons_append, List.nil_append, List.append_nil, List.set_cons_zero, List.set_cons_succ, List.replicate_zero, List.replicate_succ, Nat.reduceAdd, Nat.reduceSub, Option.map_some, Option.bind_some, Option.map_none, Option.bind_none, List.take_length, Bool.not_true, Bool.not_false, Nat.zero_add, Nat.sub_self, Nat.reduceMul, List.take_left, List.isEmpty_cons, List.isEmpty_nil, ↓reduceIte, Nat.reduceLT, b_ordered, hd', e, exit_end]
  rfl
theorem round_dr (hp : ∀ p ∈ ps, Dr 1000000 p) : ∀ a ∈ roundP ps, Dr 1000000 a ∧ PlnP a := fun a ha => by
  obtain ⟨p, h, rfl⟩ := List.mem_map.mp (((round_ok fun p h => (hp p h).nz).2.1 a).mp ha)
  have g := hp p h
  obtain ⟨q1, q2, q3, q4⟩ := pln_le g.nz g.x1 g.x2 g.y1 g.y2
  have z := (pln_of g.nz).2.1
  exact ⟨⟨q1, q2, q3, q4, pln_nz z⟩, z⟩
theorem in_order_ok (hp : ∀ p ∈ ps, Dr 1000000 p) (hl : ps.length ≤ 60) : f_in_order [.p (.tup (ps.map ppD))] M = .ok (.p (.tup ((roundP ps).map ppD))) M := by
  have hg : ¬ (60 : Int) < ((ps.map ppD).length : Int) := by simp; omega
  have k : ∀ d ∈ ps.map ppD, ∀ (Γ : Mp.Env) (M1 : Mem), (M1 = M ∧ ∃ o, Γ = [some (U.p (.tup (ps.map ppD))), o]) → ∃ Γ1 Γ2 M2, nameG 1 (.p d) M1 Γ = some Γ1 ∧ exprS (callF f_need_direction (consA (varF 1) nilA)) Γ1 M1 = .nx Γ2 M2 ∧ (M2 = M ∧ ∃ o, Γ2 = [some (U.p (.tup (ps.map ppD))), o]) := by
    rintro d hd Γ M1 ⟨rfl, o, rfl⟩
    obtain ⟨p, h, rfl⟩ := List.mem_map.mp hd
    have := need_dir_ok (M := M1) (hp p h)
    exact ⟨_, [some (U.p (.tup (ps.map ppD))), some (.p (ppD p))], M1, rfl, by simp only [ev_var0, ev_vars, ev_c, ev_nil, pures_nil, pures_cons, opt_some, optB_some, optU_some, deref_p, op2V_pp, op1V_p, blV_1, blV_2, blV_3, dC_pp, chK_f, andBK_t, andBK_f, orBK_t, orBK_f, truV_p, truD_bl, truD_int, truD_tup, truD_lst, andK_t, andK_f, orK_t, orK_f, notK_b, ifFK_t, ifFK_f, ixV_pp, ixD_t, ixD_k, ixD_l, atI_0, atI_1, atI_2, atI_3, isV_int, isV_bl, isV_non, isV_str, isV_tup, isV_lst, isV_kup, slV_p, ev_noO, sooK_i, ev_seq, sqK_nx, sqK_rt, sqK_ex, sqK_bk, sqK_ct, ev_skip, ev_retN, ifK_t, ifK_f, asK_s, ev_nameG, ev_tupG, ev_tupGk, ev_consG, ev_nilG, parK_2, par3K_3, putK_p, pmK_s, thawK_l, ev_newT, ev_newK, mtK2_s, exit_p, exit_nx, exit_ex, rsK_1, ev_word, wdK_ok, wdK_exc, wdT_s, ev_heard, hdK_ok, hdK_exc, hdT_s, hdI_s, its_fii, its_fi, srV_1, srK_s, srcL, srcT, wkK_s, wkU_t, wkU_l, wkU_s, zpK_tt, zpK_ll, grd_nil, flK_s, le_nx, le_ct, le_bk, le_rt, le_ex, consK2_k, consK2_x, consK1_k, consK1_x, tupK_k, tupK_x, lstK_k, lstK_x, op2B_k, op2B_x, op2A_k, op2A_x, op1A_k, op1A_x, blA_k, blA_x, cmpK_k, cmpK_x, cmpA_k, cmpA_x, valK_k, valK_x, chC_k, chC_x, chB_k, chB_x, chA_k, chA_x, andBA_k, andBA_x, orBA_k, orBA_x, notBA_k, notBA_x, truA_k, truA_x, andA_k, andA_x, orA_k, orA_x, notA_k, notA_x, ifFA_k, ifFA_x, ixB_k, ixB_x, ixA_k, ixA_x, isA_k, isA_x, slC_k, slC_x, slB_k, slB_x, slA_k, slA_x, sooA_k, sooA_x, exprA_k, exprA_x, retA_k, retA_x, ifA_k, ifA_x, setA__k, setA__x, asgA_k, asgA_x, parA_k, parA_x, par3A_k, par3A_x, putC_k, putC_x, putB_k, putB_x, putA_k, putA_x, thawA_k, thawA_x, mtA_k, mtA_x, mtB_k, mtB_x, dispA_k, dispA_x, callA_k, callA_x, raiseA_k, raiseA_x, srA_k, srA_x, seqA_k, seqA_x, r1A_k, r1A_x, r2A_k, r2A_x, zpA_k, zpA_x, forA_k, forA_x, lcA_k, lcA_x, chK_t, mtK_t, ev_cons, ev_tup, ev_lst, ev_op2, ev_op1, ev_bl, ev_cmp, ev_val, ev_chain, ev_andB, ev_orB, ev_notB, ev_tru, ev_and, ev_or, ev_not, ev_ifF, ev_ix, ev_is, ev_sl, ev_someO, ev_expr, ev_ret, ev_if, ev_set, ev_asg, ev_par, ev_par3, ev_put, ev_thaw, ev_meth, ev_disp, ev_call, ev_raise, ev_sorted, ev_seqI, ev_rng1, ev_rng2, ev_zip, ev_for, ev_lc, lcC_k, lcS_k, lcT_t, lcT_f, lcB_k, ev_yes, entG, List.map_cons, List.map_nil, List.length_cons, List.length_nil, List.cons_append, List.nil_append, List.append_nil, List.set_cons_zero, List.set_cons_succ, List.replicate_zero, List.replicate_succ, Nat.reduceAdd, Nat.reduceSub, Option.map_some, Option.bind_some, Option.map_none, Option.bind_none, List.take_length, Bool.not_true, Bool.not_false, Nat.zero_add, Nat.sub_self, Nat.reduceMul, List.take_left, List.isEmpty_cons, List.isEmpty_nil, ↓reduceIte, Nat.reduceLT, this], rfl, _, rfl⟩
  obtain ⟨Γ1, M1, e1, rfl, o, rfl⟩ := for_inv _ ⟨rfl, none, rfl⟩ k
  have e2 := ordered_ok (M := M1) (d := .tup (ps.map ppD)) rfl hp (by omega)
  have e5 : ∀ xs : List D, tupD [.lst xs] = some (.tup xs) := fun _ => rfl
  rw [f_in_order, ev_fn]
  simp only [ev_var0, ev_vars, ev_c, ev_nil, pures_nil, pures_cons, opt_some, optB_some, optU_some, deref_p, op2V_pp, op1V_p, blV_1, blV_2, blV_3, dC_pp, chK_f, andBK_t, andBK_f, orBK_t, orBK_f, truV_p, truD_bl, truD_int, truD_tup, truD_lst, andK_t, andK_f, orK_t, orK_f, notK_b, ifFK_t, ifFK_f, ixV_pp, ixD_t, ixD_k, ixD_l, atI_0, atI_1, atI_2, atI_3, isV_int, isV_bl, isV_non, isV_str, isV_tup, isV_lst, isV_kup, slV_p, ev_noO, sooK_i, ev_seq, sqK_nx, sqK_rt, sqK_ex, sqK_bk, sqK_ct, ev_skip, ev_retN, ifK_t, ifK_f, asK_s, ev_nameG, ev_tupG, ev_tupGk, ev_consG, ev_nilG, parK_2, par3K_3, putK_p, pmK_s, thawK_l, ev_newT, ev_newK, mtK2_s, exit_p, exit_nx, exit_ex, rsK_1, ev_word, wdK_ok, wdK_exc, wdT_s, ev_heard, hdK_ok, hdK_exc, hdT_s, hdI_s, its_fii, its_fi, srV_1, srK_s, srcL, srcT, wkK_s, wkU_t, wkU_l, wkU_s, zpK_tt, zpK_ll, grd_nil, flK_s, le_nx, le_ct, le_bk, le_rt, le_ex, consK2_k, consK2_x, consK1_k, consK1_x, tupK_k, tupK_x, lstK_k, lstK_x, op2B_k, op2B_x, op2A_k, op2A_x, op1A_k, op1A_x, blA_k, blA_x, cmpK_k, cmpK_x, cmpA_k, cmpA_x, valK_k, valK_x, chC_k, chC_x, chB_k, chB_x, chA_k, chA_x, andBA_k, andBA_x, orBA_k, orBA_x, notBA_k, notBA_x, truA_k, truA_x, andA_k, andA_x, orA_k, orA_x, notA_k, notA_x, ifFA_k, ifFA_x, ixB_k, ixB_x, ixA_k, ixA_x, isA_k, isA_x, slC_k, slC_x, slB_k, slB_x, slA_k, slA_x, sooA_k, sooA_x, exprA_k, exprA_x, retA_k, retA_x, ifA_k, ifA_x, setA__k, setA__x, asgA_k, asgA_x, parA_k, parA_x, par3A_k, par3A_x, putC_k, putC_x, putB_k, putB_x, putA_k, putA_x, thawA_k, thawA_x, mtA_k, mtA_x, mtB_k, mtB_x, dispA_k, dispA_x, callA_k, callA_x, raiseA_k, raiseA_x, srA_k, srA_x, seqA_k, seqA_x, r1A_k, r1A_x, r2A_k, r2A_x, zpA_k, zpA_x, forA_k, forA_x, lcA_k, lcA_x, chK_t, mtK_t, ev_cons, ev_tup, ev_lst, ev_op2, ev_op1, ev_bl, ev_cmp, ev_val, ev_chain, ev_andB, ev_orB, ev_notB, ev_tru, ev_and, ev_or, ev_not, ev_ifF, ev_ix, ev_is, ev_sl, ev_someO, ev_expr, ev_ret, ev_if, ev_set, ev_asg, ev_par, ev_par3, ev_put, ev_thaw, ev_meth, ev_disp, ev_call, ev_raise, ev_sorted, ev_seqI, ev_rng1, ev_rng2, ev_zip, ev_for, ev_lc, lcC_k, lcS_k, lcT_t, lcT_f, lcB_k, ev_yes, entG, List.map_cons, List.map_nil, List.length_cons, List.length_nil, List.cons_append, List.nil_append, List.append_nil, List.set_cons_zero, List.set_cons_succ, List.replicate_zero, List.replicate_succ, Nat.reduceAdd, Nat.reduceSub, Option.map_some, Option.bind_some, Option.map_none, Option.bind_none, List.take_length, Bool.not_true, Bool.not_false, Nat.zero_add, Nat.sub_self, Nat.reduceMul, List.take_left, List.isEmpty_cons, List.isEmpty_nil, ↓reduceIte, Nat.reduceLT, b_in_order, isD, lenD_t, ev_gt, hg, decide_false, e1, e2, e5]
noncomputable def srtBody : Fs := (ifS (cmpB notinA (varF 2) (varF 1)) (seqS (setS 3 (blF lenD (consA (lcF (seqI (varF 1)) (nameG 4) [4] (truB (callF f__law_ahead (consA (varF 4) (consA (varF 2) nilA)))) (cF (.int 1))) nilA)))
  (setS 1 (op2F addD (op2F addD (slF (varF 1) noO (someO (varF 3))) (lstF (consA (varF 2) nilA))) (slF (varF 1) (someO (varF 3)) noO)))) skipS)
theorem lcnt_ok {o0 o1 o3 : Option U} (hs : ∀ a ∈ L, Sm a) (hl : L.length ≤ 100000) : lcL [] (nameG 4) (truB (callF f__law_ahead (consA (varF 4) (consA (varF 2) nilA)))) (cF (.int 1)) [o0, o1, some (.p (ppD p)), o3, none] (L.map ppD) [] M = .ok (.p (.lst (((L.filter fun a => ahP a p).map ppD).map fun _ => .int 1))) M := by
  have h := lc_fm (Γ := [o0, o1, some (.p (ppD p)), o3, none]) (M := M) (gd := []) (asg := nameG 4) (c := truB (callF f__law_ahead (consA (varF 4) (consA (varF 2) nilA)))) (f := cF (.int 1)) (t := dP fun a => ahP a p) (q := fun _ => .int 1) (grd_nil ▸ trivial) (ds := L.map ppD) (acc := []) (fun d hd => by
    obtain ⟨a, ha, rfl⟩ := List.mem_map.mp hd
    have k := lahead_ok (M := M) (q := p) (hs a ha)
    refine ⟨_, rfl, ?_, fun _ => rfl⟩
    simp only [ev_var0, ev_vars, ev_c, ev_nil, pures_nil, pures_cons, opt_some, optB_some, optU_some, deref_p, op2V_pp, op1V_p, blV_1, blV_2, blV_3, dC_pp, chK_f, andBK_t, andBK_f, orBK_t, orBK_f, truV_p, truD_bl, truD_int, truD_tup, truD_lst, andK_t, andK_f, orK_t, orK_f, notK_b, ifFK_t, ifFK_f, ixV_pp, ixD_t, ixD_k, ixD_l, atI_0, atI_1, atI_2, atI_3, isV_int, isV_bl, isV_non, isV_str, isV_tup, isV_lst, isV_kup, slV_p, ev_noO, sooK_i, ev_seq, sqK_nx, sqK_rt, sqK_ex, sqK_bk, sqK_ct, ev_skip, ev_retN, ifK_t, ifK_f, asK_s, ev_nameG, ev_tupG, ev_tupGk, ev_consG, ev_nilG, parK_2, par3K_3, putK_p, pmK_s, thawK_l, ev_newT, ev_newK, mtK2_s, exit_p, exit_nx, exit_ex, rsK_1, ev_word, wdK_ok, wdK_exc, wdT_s, ev_heard, hdK_ok, hdK_exc, hdT_s, hdI_s, its_fii, its_fi, srV_1, srK_s, srcL, srcT, wkK_s, wkU_t, wkU_l, wkU_s, zpK_tt, zpK_ll, grd_nil, flK_s, le_nx, le_ct, le_bk, le_rt, le_ex, consK2_k, consK2_x, consK1_k, consK1_x, tupK_k, tupK_x, lstK_k, lstK_x, op2B_k, op2B_x, op2A_k, op2A_x, op1A_k, op1A_x, blA_k, blA_x, cmpK_k, cmpK_x, cmpA_k, cmpA_x, valK_k, valK_x, chC_k, chC_x, chB_k, chB_x, chA_k, chA_x, andBA_k, andBA_x, orBA_k, orBA_x, notBA_k, notBA_x, truA_k, truA_x, andA_k, andA_x, orA_k, orA_x, notA_k, notA_x, ifFA_k, ifFA_x, ixB_k, ixB_x, ixA_k, ixA_x, isA_k, isA_x, slC_k, slC_x, slB_k, slB_x, slA_k, slA_x, sooA_k, sooA_x, exprA_k, exprA_x, retA_k, retA_x, ifA_k, ifA_x, setA__k, setA__x, asgA_k, asgA_x, parA_k, parA_x, par3A_k, par3A_x, putC_k, putC_x, putB_k, putB_x, putA_k, putA_x, thawA_k, thawA_x, mtA_k, mtA_x, mtB_k, mtB_x, dispA_k, dispA_x, callA_k, callA_x, raiseA_k, raiseA_x, srA_k, srA_x, seqA_k, seqA_x, r1A_k, r1A_x, r2A_k, r2A_x, zpA_k, zpA_x, forA_k, forA_x, lcA_k, lcA_x, chK_t, mtK_t, ev_cons, ev_tup, ev_lst, ev_op2, ev_op1, ev_bl, ev_cmp, ev_val, ev_chain, ev_andB, ev_orB, ev_notB, ev_tru, ev_and, ev_or, ev_not, ev_ifF, ev_ix, ev_is, ev_sl, ev_someO, ev_expr, ev_ret, ev_if, ev_set, ev_asg, ev_par, ev_par3, ev_put, ev_thaw, ev_meth, ev_disp, ev_call, ev_raise, ev_sorted, ev_seqI, ev_rng1, ev_rng2, ev_zip, ev_for, ev_lc, lcC_k, lcS_k, lcT_t, lcT_f, lcB_k, ev_yes, entG, List.map_cons, List.map_nil, List.length_cons, List.length_nil, List.cons_append, List.nil_append, List.append_nil, List.set_cons_zero, List.set_cons_succ, List.replicate_zero, List.replicate_succ, Nat.reduceAdd, Nat.reduceSub, Option.map_some, Option.bind_some, Option.map_none, Option.bind_none, List.take_length, Bool.not_true, Bool.not_false, Nat.zero_add, Nat.sub_self, Nat.reduceMul, List.take_left, List.isEmpty_cons, List.isEmpty_nil, ↓reduceIte, Nat.reduceLT, k]
    rfl) (by simp; omega)
  rw [filter_dP, List.nil_append] at h
  exact h
theorem srt_step {o0 o3 : Option U} (hs : ∀ a ∈ L, Sm a) (hl : L.length ≤ 100000) :
    ∃ o3', srtBody [o0, some (.p (.lst (L.map ppD))), some (.p (ppD p)), o3, none] M = .nx [o0, some (.p (.lst ((putMpOnce ahP L p).map ppD))), some (.p (ppD p)), o3', none] M := by
  have k2 := notin_prs (M := M) (p := p) (c := .p (.lst (L.map ppD))) (L := L) rfl rfl
  by_cases h : p ∈ L
  · refine ⟨o3, ?_⟩
    simp only [ev_var0, ev_vars, ev_c, ev_nil, pures_nil, pures_cons, opt_some, optB_some, optU_some, deref_p, op2V_pp, op1V_p, blV_1, blV_2, blV_3, dC_pp, chK_f, andBK_t, andBK_f, orBK_t, orBK_f, truV_p, truD_bl, truD_int, truD_tup, truD_lst, andK_t, andK_f, orK_t, orK_f, notK_b, ifFK_t, ifFK_f, ixV_pp, ixD_t, ixD_k, ixD_l, atI_0, atI_1, atI_2, atI_3, isV_int, isV_bl, isV_non, isV_str, isV_tup, isV_lst, isV_kup, slV_p, ev_noO, sooK_i, ev_seq, sqK_nx, sqK_rt, sqK_ex, sqK_bk, sqK_ct, ev_skip, ev_retN, ifK_t, ifK_f, asK_s, ev_nameG, ev_tupG, ev_tupGk, ev_consG, ev_nilG, parK_2, par3K_3, putK_p, pmK_s, thawK_l, ev_newT, ev_newK, mtK2_s, exit_p, exit_nx, exit_ex, rsK_1, ev_word, wdK_ok, wdK_exc, wdT_s, ev_heard, hdK_ok, hdK_exc, hdT_s, hdI_s, its_fii, its_fi, srV_1, srK_s, srcL, srcT, wkK_s, wkU_t, wkU_l, wkU_s, zpK_tt, zpK_ll, grd_nil, flK_s, le_nx, le_ct, le_bk, le_rt, le_ex, consK2_k, consK2_x, consK1_k, consK1_x, tupK_k, tupK_x, lstK_k, lstK_x, op2B_k, op2B_x, op2A_k, op2A_x, op1A_k, op1A_x, blA_k, blA_x, cmpK_k, cmpK_x, cmpA_k, cmpA_x, valK_k, valK_x, chC_k, chC_x, chB_k, chB_x, chA_k, chA_x, andBA_k, andBA_x, orBA_k, orBA_x, notBA_k, notBA_x, truA_k, truA_x, andA_k, andA_x, orA_k, orA_x, notA_k, notA_x, ifFA_k, ifFA_x, ixB_k, ixB_x, ixA_k, ixA_x, isA_k, isA_x, slC_k, slC_x, slB_k, slB_x, slA_k, slA_x, sooA_k, sooA_x, exprA_k, exprA_x, retA_k, retA_x, ifA_k, ifA_x, setA__k, setA__x, asgA_k, asgA_x, parA_k, parA_x, par3A_k, par3A_x, putC_k, putC_x, putB_k, putB_x, putA_k, putA_x, thawA_k, thawA_x, mtA_k, mtA_x, mtB_k, mtB_x, dispA_k, dispA_x, callA_k, callA_x, raiseA_k, raiseA_x, srA_k, srA_x, seqA_k, seqA_x, r1A_k, r1A_x, r2A_k, r2A_x, zpA_k, zpA_x, forA_k, forA_x, lcA_k, lcA_x, chK_t, mtK_t, ev_cons, ev_tup, ev_lst, ev_op2, ev_op1, ev_bl, ev_cmp, ev_val, ev_chain, ev_andB, ev_orB, ev_notB, ev_tru, ev_and, ev_or, ev_not, ev_ifF, ev_ix, ev_is, ev_sl, ev_someO, ev_expr, ev_ret, ev_if, ev_set, ev_asg, ev_par, ev_par3, ev_put, ev_thaw, ev_meth, ev_disp, ev_call, ev_raise, ev_sorted, ev_seqI, ev_rng1, ev_rng2, ev_zip, ev_for, ev_lc, lcC_k, lcS_k, lcT_t, lcT_f, lcB_k, ev_yes, entG, List.map_cons, List.map_nil, List.length_cons, List.length_nil, List.cons_append, List.nil_append, List.append_nil, List.set_cons_zero, List.set_cons_succ, List.replicate_zero, List.replicate_succ, Nat.reduceAdd, Nat.reduceSub, Option.map_some, Option.bind_some, Option.map_none, Option.bind_none, List.take_length, Bool.not_true, Bool.not_false, Nat.zero_add, Nat.sub_self, Nat.reduceMul, List.take_left, List.isEmpty_cons, List.isEmpty_nil, ↓reduceIte, Nat.reduceLT, srtBody, k2, h, decide_true, putMpOnce, if_true]
  · refine ⟨some (.p (.int ((L.filter fun a => ahP a p).length : Nat))), ?_⟩
    have k3 := fun o0 o1 o3 => lcnt_ok (M := M) (p := p) (o0 := o0) (o1 := o1) (o3 := o3) hs hl
    have hle : (L.filter fun a => ahP a p).length ≤ L.length := List.length_filter_le ..
    have k4 := sl_take (xs := L.map ppD) (k := (L.filter fun a => ahP a p).length) (by simpa using hle)
    have k5 := sl_drop (xs := L.map ppD) (k := (L.filter fun a => ahP a p).length) (by simpa using hle)
    have z1 : ((L.map ppD).take (L.filter fun a => ahP a p).length).length + [ppD p].length ≤ 16777216 := by simp; omega
    have z2 : ((L.map ppD).take (L.filter fun a => ahP a p).length ++ [ppD p]).length + ((L.map ppD).drop (L.filter fun a => ahP a p).length).length ≤ 16777216 := by simp; omega
    simp only [ev_var0, ev_vars, ev_c, ev_nil, pures_nil, pures_cons, opt_some, optB_some, optU_some, deref_p, op2V_pp, op1V_p, blV_1, blV_2, blV_3, dC_pp, chK_f, andBK_t, andBK_f, orBK_t, orBK_f, truV_p, truD_bl, truD_int, truD_tup, truD_lst, andK_t, andK_f, orK_t, orK_f, notK_b, ifFK_t, ifFK_f, ixV_pp, ixD_t, ixD_k, ixD_l, atI_0, atI_1, atI_2, atI_3, isV_int, isV_bl, isV_non, isV_str, isV_tup, isV_lst, isV_kup, slV_p, ev_noO, sooK_i, ev_seq, sqK_nx, sqK_rt, sqK_ex, sqK_bk, sqK_ct, ev_skip, ev_retN, ifK_t, ifK_f, asK_s, ev_nameG, ev_tupG, ev_tupGk, ev_consG, ev_nilG, parK_2, par3K_3, putK_p, pmK_s, thawK_l, ev_newT, ev_newK, mtK2_s, exit_p, exit_nx, exit_ex, rsK_1, ev_word, wdK_ok, wdK_exc, wdT_s, ev_heard, hdK_ok, hdK_exc, hdT_s, hdI_s, its_fii, its_fi, srV_1, srK_s, srcL, srcT, wkK_s, wkU_t, wkU_l, wkU_s, zpK_tt, zpK_ll, grd_nil, flK_s, le_nx, le_ct, le_bk, le_rt, le_ex, consK2_k, consK2_x, consK1_k, consK1_x, tupK_k, tupK_x, lstK_k, lstK_x, op2B_k, op2B_x, op2A_k, op2A_x, op1A_k, op1A_x, blA_k, blA_x, cmpK_k, cmpK_x, cmpA_k, cmpA_x, valK_k, valK_x, chC_k, chC_x, chB_k, chB_x, chA_k, chA_x, andBA_k, andBA_x, orBA_k, orBA_x, notBA_k, notBA_x, truA_k, truA_x, andA_k, andA_x, orA_k, orA_x, notA_k, notA_x, ifFA_k, ifFA_x, ixB_k, ixB_x, ixA_k, ixA_x, isA_k, isA_x, slC_k, slC_x, slB_k, slB_x, slA_k, slA_x, sooA_k, sooA_x, exprA_k, exprA_x, retA_k, retA_x, ifA_k, ifA_x, setA__k, setA__x, asgA_k, asgA_x, parA_k, parA_x, par3A_k, par3A_x, putC_k, putC_x, putB_k, putB_x, putA_k, putA_x, thawA_k, thawA_x, mtA_k, mtA_x, mtB_k, mtB_x, dispA_k, dispA_x, callA_k, callA_x, raiseA_k, raiseA_x, srA_k, srA_x, seqA_k, seqA_x, r1A_k, r1A_x, r2A_k, r2A_x, zpA_k, zpA_x, forA_k, forA_x, lcA_k, lcA_x, chK_t, mtK_t, ev_cons, ev_tup, ev_lst, ev_op2, ev_op1, ev_bl, ev_cmp, ev_val, ev_chain, ev_andB, ev_orB, ev_notB, ev_tru, ev_and, ev_or, ev_not, ev_ifF, ev_ix, ev_is, ev_sl, ev_someO, ev_expr, ev_ret, ev_if, ev_set, ev_asg, ev_par, ev_par3, ev_put, ev_thaw, ev_meth, ev_disp, ev_call, ev_raise, ev_sorted, ev_seqI, ev_rng1, ev_rng2, ev_zip, ev_for, ev_lc, lcC_k, lcS_k, lcT_t, lcT_f, lcB_k, ev_yes, entG, List.map_cons, List.map_nil, List.length_cons, List.length_nil, List.cons_append, List.nil_append, List.append_nil, List.set_cons_zero, List.set_cons_succ, List.replicate_zero, List.replicate_succ, Nat.reduceAdd, Nat.reduceSub, Option.map_some, Option.bind_some, Option.map_none, Option.bind_none, List.take_length, Bool.not_true, Bool.not_false, Nat.zero_add, Nat.sub_self, Nat.reduceMul, List.take_left, List.isEmpty_cons, List.isEmpty_nil, ↓reduceIte, Nat.reduceLT, srtBody, k2, h, decide_false, wipeG, k3, len_cnt (M := M), k4, k5, addD_l z1, addD_l z2]
    simp [putMpOnce, h, putMp, List.map_take, List.map_drop]
theorem srt_loop {o0 : Option U} : ∀ {ps L : List (Int × Int)} {o2 o3 : Option U}, (∀ p ∈ ps, Sm p) → (∀ a ∈ L, Sm a) → L.length + ps.length ≤ 100000 →
    ∃ o2' o3', forL [] (nameG 2) srtBody (ps.map ppD) [o0, some (.p (.lst (L.map ppD))), o2, o3, none] M = .nx [o0, some (.p (.lst ((putMpAll ahP L ps).map ppD))), o2', o3', none] M
  | [], L, o2, o3, _, _, _ => ⟨o2, o3, by simp only [List.map_nil, for_nil, for_cons, lc_nil, lc_cons, putMpAll, List.foldl_nil]⟩
  | p :: ps, L, o2, o3, hp, hs, hl => by
    simp only [List.length_cons] at hl
    obtain ⟨o3', e1⟩ := srt_step (M := M) (o0 := o0) (o3 := o3) (p := p) hs (by omega)
    obtain ⟨a, b, e2⟩ := srt_loop (o0 := o0) (ps := ps) (L := putMpOnce ahP L p) (o2 := some (.p (ppD p))) (o3 := o3') (fun x hx => hp x (by simp [hx])) (fun x hx => by
      rcases putOnce_mem hx with h | rfl
      · exact hs x h
      · exact hp _ (by simp)) (by have := putOnce_len (L := L) (p := p); omega)
    refine ⟨a, b, ?_⟩
    rw [List.map_cons, for_cons]
    simp only [ev_var0, ev_vars, ev_c, ev_nil, pures_nil, pures_cons, opt_some, optB_some, optU_some, deref_p, op2V_pp, op1V_p, blV_1, blV_2, blV_3, dC_pp, chK_f, andBK_t, andBK_f, orBK_t, orBK_f, truV_p, truD_bl, truD_int, truD_tup, truD_lst, andK_t, andK_f, orK_t, orK_f, notK_b, ifFK_t, ifFK_f, ixV_pp, ixD_t, ixD_k, ixD_l, atI_0, atI_1, atI_2, atI_3, isV_int, isV_bl, isV_non, isV_str, isV_tup, isV_lst, isV_kup, slV_p, ev_noO, sooK_i, ev_seq, sqK_nx, sqK_rt, sqK_ex, sqK_bk, sqK_ct, ev_skip, ev_retN, ifK_t, ifK_f, asK_s, ev_nameG, ev_tupG, ev_tupGk, ev_consG, ev_nilG, parK_2, par3K_3, putK_p, pmK_s, thawK_l, ev_newT, ev_newK, mtK2_s, exit_p, exit_nx, exit_ex, rsK_1, ev_word, wdK_ok, wdK_exc, wdT_s, ev_heard, hdK_ok, hdK_exc, hdT_s, hdI_s, its_fii, its_fi, srV_1, srK_s, srcL, srcT, wkK_s, wkU_t, wkU_l, wkU_s, zpK_tt, zpK_ll, grd_nil, flK_s, le_nx, le_ct, le_bk, le_rt, le_ex, consK2_k, consK2_x, consK1_k, consK1_x, tupK_k, tupK_x, lstK_k, lstK_x, op2B_k, op2B_x, op2A_k, op2A_x, op1A_k, op1A_x, blA_k, blA_x, cmpK_k, cmpK_x, cmpA_k, cmpA_x, valK_k, valK_x, chC_k, chC_x, chB_k, chB_x, chA_k, chA_x, andBA_k, andBA_x, orBA_k, orBA_x, notBA_k, notBA_x, truA_k, truA_x, andA_k, andA_x, orA_k, orA_x, notA_k, notA_x, ifFA_k, ifFA_x, ixB_k, ixB_x, ixA_k, ixA_x, isA_k, isA_x, slC_k, slC_x, slB_k, slB_x, slA_k, slA_x, sooA_k, sooA_x, exprA_k, exprA_x, retA_k, retA_x, ifA_k, ifA_x, setA__k, setA__x, asgA_k, asgA_x, parA_k, parA_x, par3A_k, par3A_x, putC_k, putC_x, putB_k, putB_x, putA_k, putA_x, thawA_k, thawA_x, mtA_k, mtA_x, mtB_k, mtB_x, dispA_k, dispA_x, callA_k, callA_x, raiseA_k, raiseA_x, srA_k, srA_x, seqA_k, seqA_x, r1A_k, r1A_x, r2A_k, r2A_x, zpA_k, zpA_x, forA_k, forA_x, lcA_k, lcA_x, chK_t, mtK_t, ev_cons, ev_tup, ev_lst, ev_op2, ev_op1, ev_bl, ev_cmp, ev_val, ev_chain, ev_andB, ev_orB, ev_notB, ev_tru, ev_and, ev_or, ev_not, ev_ifF, ev_ix, ev_is, ev_sl, ev_someO, ev_expr, ev_ret, ev_if, ev_set, ev_asg, ev_par, ev_par3, ev_put, ev_thaw, ev_meth, ev_disp, ev_call, ev_raise, ev_sorted, ev_seqI, ev_rng1, ev_rng2, ev_zip, ev_for, ev_lc, lcC_k, lcS_k, lcT_t, lcT_f, lcB_k, ev_yes, entG, List.map_cons, List.map_nil, List.length_cons, List.length_nil, List.cons_append, List.nil_append, List.append_nil, List.set_cons_zero, List.set_cons_succ, List.replicate_zero, List.replicate_succ, Nat.reduceAdd, Nat.reduceSub, Option.map_some, Option.bind_some, Option.map_none, Option.bind_none, List.take_length, Bool.not_true, Bool.not_false, Nat.zero_add, Nat.sub_self, Nat.reduceMul, List.take_left, List.isEmpty_cons, List.isEmpty_nil, ↓reduceIte, Nat.reduceLT, e1, e2]
    rfl
theorem sorted_ok (hp : ∀ p ∈ ps, Dr 1000000 p) (hl : ps.length ≤ 10000) : f__law_sorted [.p (.tup (ps.map ppD))] M = .ok (.p (.tup ((roundP ps).map ppD))) M := by
  have k := lc_map (Γ := [some (.p (.tup (ps.map ppD))), some (.p (.lst [])), none, none, none]) (M := M) (asg := nameG 2) (f := callF f__law_plainly (consA (varF 2) nilA)) (q := dF fun p => ppD (plnOf p)) (ds := ps.map ppD) (acc := []) (fun d hd => by
    obtain ⟨p, h, rfl⟩ := List.mem_map.mp hd
    have e := plainly_ok (M := M) (hp p h)
    exact ⟨_, rfl, by simp only [ev_var0, ev_vars, ev_c, ev_nil, pures_nil, pures_cons, opt_some, optB_some, optU_some, deref_p, op2V_pp, op1V_p, blV_1, blV_2, blV_3, dC_pp, chK_f, andBK_t, andBK_f, orBK_t, orBK_f, truV_p, truD_bl, truD_int, truD_tup, truD_lst, andK_t, andK_f, orK_t, orK_f, notK_b, ifFK_t, ifFK_f, ixV_pp, ixD_t, ixD_k, ixD_l, atI_0, atI_1, atI_2, atI_3, isV_int, isV_bl, isV_non, isV_str, isV_tup, isV_lst, isV_kup, slV_p, ev_noO, sooK_i, ev_seq, sqK_nx, sqK_rt, sqK_ex, sqK_bk, sqK_ct, ev_skip, ev_retN, ifK_t, ifK_f, asK_s, ev_nameG, ev_tupG, ev_tupGk, ev_consG, ev_nilG, parK_2, par3K_3, putK_p, pmK_s, thawK_l, ev_newT, ev_newK, mtK2_s, exit_p, exit_nx, exit_ex, rsK_1, ev_word, wdK_ok, wdK_exc, wdT_s, ev_heard, hdK_ok, hdK_exc, hdT_s, hdI_s, its_fii, its_fi, srV_1, srK_s, srcL, srcT, wkK_s, wkU_t, wkU_l, wkU_s, zpK_tt, zpK_ll, grd_nil, flK_s, le_nx, le_ct, le_bk, le_rt, le_ex, consK2_k, consK2_x, consK1_k, consK1_x, tupK_k, tupK_x, lstK_k, lstK_x, op2B_k, op2B_x, op2A_k, op2A_x, op1A_k, op1A_x, blA_k, blA_x, cmpK_k, cmpK_x, cmpA_k, cmpA_x, valK_k, valK_x, chC_k, chC_x, chB_k, chB_x, chA_k, chA_x, andBA_k, andBA_x, orBA_k, orBA_x, notBA_k, notBA_x, truA_k, truA_x, andA_k, andA_x, orA_k, orA_x, notA_k, notA_x, ifFA_k, ifFA_x, ixB_k, ixB_x, ixA_k, ixA_x, isA_k, isA_x, slC_k, slC_x, slB_k, slB_x, slA_k, slA_x, sooA_k, sooA_x, exprA_k, exprA_x, retA_k, retA_x, ifA_k, ifA_x, setA__k, setA__x, asgA_k, asgA_x, parA_k, parA_x, par3A_k, par3A_x, putC_k, putC_x, putB_k, putB_x, putA_k, putA_x, thawA_k, thawA_x, mtA_k, mtA_x, mtB_k, mtB_x, dispA_k, dispA_x, callA_k, callA_x, raiseA_k, raiseA_x, srA_k, srA_x, seqA_k, seqA_x, r1A_k, r1A_x, r2A_k, r2A_x, zpA_k, zpA_x, forA_k, forA_x, lcA_k, lcA_x, chK_t, mtK_t, ev_cons, ev_tup, ev_lst, ev_op2, ev_op1, ev_bl, ev_cmp, ev_val, ev_chain, ev_andB, ev_orB, ev_notB, ev_tru, ev_and, ev_or, ev_not, ev_ifF, ev_ix, ev_is, ev_sl, ev_someO, ev_expr, ev_ret, ev_if, ev_set, ev_asg, ev_par, ev_par3, ev_put, ev_thaw, ev_meth, ev_disp, ev_call, ev_raise, ev_sorted, ev_seqI, ev_rng1, ev_rng2, ev_zip, ev_for, ev_lc, lcC_k, lcS_k, lcT_t, lcT_f, lcB_k, ev_yes, entG, List.map_cons, List.map_nil, List.length_cons, List.length_nil, List.cons_append, List.nil_append, List.append_nil, List.set_cons_zero, List.set_cons_succ, List.replicate_zero, List.replicate_succ, Nat.reduceAdd, Nat.reduceSub, Option.map_some, Option.bind_some, Option.map_none, Option.bind_none, List.take_length, Bool.not_true, Bool.not_false, Nat.zero_add, Nat.sub_self, Nat.reduceMul, List.take_left, List.isEmpty_cons, List.isEmpty_nil, ↓reduceIte, Nat.reduceLT, e]; rfl⟩) (by simp; omega)
  rw [map_dF, List.nil_append] at k
  obtain ⟨a, b, e⟩ := srt_loop (M := M) (o0 := some (.p (.tup (ps.map ppD)))) (ps := ps.map plnOf) (L := []) (o2 := none) (o3 := none) (fun x hx => by
    obtain ⟨p, h, rfl⟩ := List.mem_map.mp hx
    exact pln_dr (hp p h)) (by simp) (by simp; omega)
  simp only [srtBody, List.map_nil, List.map_map, Function.comp_def] at e
  have e5 : ∀ xs : List D, tupD [.lst xs] = some (.tup xs) := fun _ => rfl
  rw [f__law_sorted, ev_fn]
  simp only [ev_var0, ev_vars, ev_c, ev_nil, pures_nil, pures_cons, opt_some, optB_some, optU_some, deref_p, op2V_pp, op1V_p, blV_1, blV_2, blV_3, dC_pp, chK_f, andBK_t, andBK_f, orBK_t, orBK_f, truV_p, truD_bl, truD_int, truD_tup, truD_lst, andK_t, andK_f, orK_t, orK_f, notK_b, ifFK_t, ifFK_f, ixV_pp, ixD_t, ixD_k, ixD_l, atI_0, atI_1, atI_2, atI_3, isV_int, isV_bl, isV_non, isV_str, isV_tup, isV_lst, isV_kup, slV_p, ev_noO, sooK_i, ev_seq, sqK_nx, sqK_rt, sqK_ex, sqK_bk, sqK_ct, ev_skip, ev_retN, ifK_t, ifK_f, asK_s, ev_nameG, ev_tupG, ev_tupGk, ev_consG, ev_nilG, parK_2, par3K_3, putK_p, pmK_s, thawK_l, ev_newT, ev_newK, mtK2_s, exit_p, exit_nx, exit_ex, rsK_1, ev_word, wdK_ok, wdK_exc, wdT_s, ev_heard, hdK_ok, hdK_exc, hdT_s, hdI_s, its_fii, its_fi, srV_1, srK_s, srcL, srcT, wkK_s, wkU_t, wkU_l, wkU_s, zpK_tt, zpK_ll, grd_nil, flK_s, le_nx, le_ct, le_bk, le_rt, le_ex, consK2_k, consK2_x, consK1_k, consK1_x, tupK_k, tupK_x, lstK_k, lstK_x, op2B_k, op2B_x, op2A_k, op2A_x, op1A_k, op1A_x, blA_k, blA_x, cmpK_k, cmpK_x, cmpA_k, cmpA_x, valK_k, valK_x, chC_k, chC_x, chB_k, chB_x, chA_k, chA_x, andBA_k, andBA_x, orBA_k, orBA_x, notBA_k, notBA_x, truA_k, truA_x, andA_k, andA_x, orA_k, orA_x, notA_k, notA_x, ifFA_k, ifFA_x, ixB_k, ixB_x, ixA_k, ixA_x, isA_k, isA_x, slC_k, slC_x, slB_k, slB_x, slA_k, slA_x, sooA_k, sooA_x, exprA_k, exprA_x, retA_k, retA_x, ifA_k, ifA_x, setA__k, setA__x, asgA_k, asgA_x, parA_k, parA_x, par3A_k, par3A_x, putC_k, putC_x, putB_k, putB_x, putA_k, putA_x, thawA_k, thawA_x, mtA_k, mtA_x, mtB_k, mtB_x, dispA_k, dispA_x, callA_k, callA_x, raiseA_k, raiseA_x, srA_k, srA_x, seqA_k, seqA_x, r1A_k, r1A_x, r2A_k, r2A_x, zpA_k, zpA_x, forA_k, forA_x, lcA_k, lcA_x, chK_t, mtK_t, ev_cons, ev_tup, ev_lst, ev_op2, ev_op1, ev_bl, ev_cmp, ev_val, ev_chain, ev_andB, ev_orB, ev_notB, ev_tru, ev_and, ev_or, ev_not, ev_ifF, ev_ix, ev_is, ev_sl, ev_someO, ev_expr, ev_ret, ev_if, ev_set, ev_asg, ev_par, ev_par3, ev_put, ev_thaw, ev_meth, ev_disp, ev_call, ev_raise, ev_sorted, ev_seqI, ev_rng1, ev_rng2, ev_zip, ev_for, ev_lc, lcC_k, lcS_k, lcT_t, lcT_f, lcB_k, ev_yes, entG, List.map_cons, List.map_nil, List.length_cons, List.length_nil, List.cons_append, List.nil_append, List.append_nil, List.set_cons_zero, List.set_cons_succ, List.replicate_zero, List.replicate_succ, Nat.reduceAdd, Nat.reduceSub, Option.map_some, Option.bind_some, Option.map_none, Option.bind_none, List.take_length, Bool.not_true, Bool.not_false, Nat.zero_add, Nat.sub_self, Nat.reduceMul, List.take_left, List.isEmpty_cons, List.isEmpty_nil, ↓reduceIte, Nat.reduceLT, b__law_sorted, wipeG, k, e, e5]
  rfl
end
end K_whole
namespace K_whole
open PySem PySem.Spec PyProof.Rows L2 Mp
section
variable {cs ls : List Int} {at_ : Int} {n : Nat} {M : Mem} {p q : Int × Int} {ps L : List (Int × Int)}
theorem toward_ok (w : Wf n cs ls at_) (hn : n ≤ 10000000) {s : Int} (h1 : 0 < s) (h2 : s ≤ 1000000) :
    ∃ p ls' at', (∀ R, f__law_toward [.loc 1, .p (.int s)] (St cs ls at_ R) = .ok (.p (ppD p)) (St cs ls' at' R)) ∧ Dr s p ∧ Wf (n + 2) cs ls' at' := by
  obtain ⟨r1, ls1, e1, hr1, hl1, w1⟩ := drawK w (by omega) (lim := 2 * s + 1) (by omega) (by omega)
  obtain ⟨r2, ls2, e2, hr2, hl2, w2⟩ := drawK w1 (by omega) (lim := 2 * s + 1) (by omega) (by omega)
  by_cases h : r1 - s = 0 ∧ r2 - s = 0
  · refine ⟨(1, 0), ls2, _, fun R => ?_, ⟨by omega, by omega, by omega, by omega, by omega⟩, w2⟩
    rw [f__law_toward, ev_fn]
    simp (disch := first | omega | (simp; done)) only [ev_var0, ev_vars, ev_c, ev_nil, pures_nil, pures_cons, opt_some, optB_some, optU_some, deref_p, op2V_pp, op1V_p, blV_1, blV_2, blV_3, dC_pp, chK_f, andBK_t, andBK_f, orBK_t, orBK_f, truV_p, truD_bl, truD_int, truD_tup, truD_lst, andK_t, andK_f, orK_t, orK_f, notK_b, ifFK_t, ifFK_f, ixV_pp, ixD_t, ixD_k, ixD_l, atI_0, atI_1, atI_2, atI_3, isV_int, isV_bl, isV_non, isV_str, isV_tup, isV_lst, isV_kup, slV_p, ev_noO, sooK_i, ev_seq, sqK_nx, sqK_rt, sqK_ex, sqK_bk, sqK_ct, ev_skip, ev_retN, ifK_t, ifK_f, asK_s, ev_nameG, ev_tupG, ev_tupGk, ev_consG, ev_nilG, parK_2, par3K_3, putK_p, pmK_s, thawK_l, ev_newT, ev_newK, mtK2_s, exit_p, exit_nx, exit_ex, rsK_1, ev_word, wdK_ok, wdK_exc, wdT_s, ev_heard, hdK_ok, hdK_exc, hdT_s, hdI_s, its_fii, its_fi, srV_1, srK_s, srcL, srcT, wkK_s, wkU_t, wkU_l, wkU_s, zpK_tt, zpK_ll, grd_nil, flK_s, le_nx, le_ct, le_bk, le_rt, le_ex, consK2_k, consK2_x, consK1_k, consK1_x, tupK_k, tupK_x, lstK_k, lstK_x, op2B_k, op2B_x, op2A_k, op2A_x, op1A_k, op1A_x, blA_k, blA_x, cmpK_k, cmpK_x, cmpA_k, cmpA_x, valK_k, valK_x, chC_k, chC_x, chB_k, chB_x, chA_k, chA_x, andBA_k, andBA_x, orBA_k, orBA_x, notBA_k, notBA_x, truA_k, truA_x, andA_k, andA_x, orA_k, orA_x, notA_k, notA_x, ifFA_k, ifFA_x, ixB_k, ixB_x, ixA_k, ixA_x, isA_k, isA_x, slC_k, slC_x, slB_k, slB_x, slA_k, slA_x, sooA_k, sooA_x, exprA_k, exprA_x, retA_k, retA_x, ifA_k, ifA_x, setA__k, setA__x, asgA_k, asgA_x, parA_k, parA_x, par3A_k, par3A_x, putC_k, putC_x, putB_k, putB_x, putA_k, putA_x, thawA_k, thawA_x, mtA_k, mtA_x, mtB_k, mtB_x, dispA_k, dispA_x, callA_k, callA_x, raiseA_k, raiseA_x, srA_k, srA_x, seqA_k, seqA_x, r1A_k, r1A_x, r2A_k, r2A_x, zpA_k, zpA_x, forA_k, forA_x, lcA_k, lcA_x, chK_t, mtK_t, ev_cons, ev_tup, ev_lst, ev_op2, ev_op1, ev_bl, ev_cmp, ev_val, ev_chain, ev_andB, ev_orB, ev_notB, ev_tru, ev_and, ev_or, ev_not, ev_ifF, ev_ix, ev_is, ev_sl, ev_someO, ev_expr, ev_ret, ev_if, ev_set, ev_asg, ev_par, ev_par3, ev_put, ev_thaw, ev_meth, ev_disp, ev_call, ev_raise, ev_sorted, ev_seqI, ev_rng1, ev_rng2, ev_zip, ev_for, ev_lc, lcC_k, lcS_k, lcT_t, lcT_f, lcB_k, ev_yes, entG, List.map_cons, List.map_nil, List.length_cons, List.length_nil, List.cons_append, List.nil_append, List.append_nil, List.set_cons_zero, List.set_cons_succ, List.replicate_zero, List.replicate_succ, Nat.reduceAdd, Nat.reduceSub, Option.map_some, Option.bind_some, Option.map_none, Option.bind_none, List.take_length, Bool.not_true, Bool.not_false, Nat.zero_add, Nat.sub_self, Nat.reduceMul, List.take_left, List.isEmpty_cons, List.isEmpty_nil, ↓reduceIte, Nat.reduceLT, b__law_toward, mulD_l, addD_i, subD_i, e1, e2, ne_pr, h, and_self, decide_true, St_len, St_take]
    rfl
  · refine ⟨(r1 - s, r2 - s), ls2, _, fun R => ?_, ⟨by omega, by omega, by omega, by omega, h⟩, w2⟩
    rw [f__law_toward, ev_fn]
    simp (disch := first | omega | (simp; done)) only [ev_var0, ev_vars, ev_c, ev_nil, pures_nil, pures_cons, opt_some, optB_some, optU_some, deref_p, op2V_pp, op1V_p, blV_1, blV_2, blV_3, dC_pp, chK_f, andBK_t, andBK_f, orBK_t, orBK_f, truV_p, truD_bl, truD_int, truD_tup, truD_lst, andK_t, andK_f, orK_t, orK_f, notK_b, ifFK_t, ifFK_f, ixV_pp, ixD_t, ixD_k, ixD_l, atI_0, atI_1, atI_2, atI_3, isV_int, isV_bl, isV_non, isV_str, isV_tup, isV_lst, isV_kup, slV_p, ev_noO, sooK_i, ev_seq, sqK_nx, sqK_rt, sqK_ex, sqK_bk, sqK_ct, ev_skip, ev_retN, ifK_t, ifK_f, asK_s, ev_nameG, ev_tupG, ev_tupGk, ev_consG, ev_nilG, parK_2, par3K_3, putK_p, pmK_s, thawK_l, ev_newT, ev_newK, mtK2_s, exit_p, exit_nx, exit_ex, rsK_1, ev_word, wdK_ok, wdK_exc, wdT_s, ev_heard, hdK_ok, hdK_exc, hdT_s, hdI_s, its_fii, its_fi, srV_1, srK_s, srcL, srcT, wkK_s, wkU_t, wkU_l, wkU_s, zpK_tt, zpK_ll, grd_nil, flK_s, le_nx, le_ct, le_bk, le_rt, le_ex, consK2_k, consK2_x, consK1_k, consK1_x, tupK_k, tupK_x, lstK_k, lstK_x, op2B_k, op2B_x, op2A_k, op2A_x, op1A_k, op1A_x, blA_k, blA_x, cmpK_k, cmpK_x, cmpA_k, cmpA_x, valK_k, valK_x, chC_k, chC_x, chB_k, chB_x, chA_k, chA_x, andBA_k, andBA_x, orBA_k, orBA_x, notBA_k, notBA_x, truA_k, truA_x, andA_k, andA_x, orA_k, orA_x, notA_k, notA_x, ifFA_k, ifFA_x, ixB_k, ixB_x, ixA_k, ixA_x, isA_k, isA_x, slC_k, slC_x, slB_k, slB_x, slA_k, slA_x, sooA_k, sooA_x, exprA_k, exprA_x, retA_k, retA_x, ifA_k, ifA_x, setA__k, setA__x, asgA_k, asgA_x, parA_k, parA_x, par3A_k, par3A_x, putC_k, putC_x, putB_k, putB_x, putA_k, putA_x, thawA_k, thawA_x, mtA_k, mtA_x, mtB_k, mtB_x, dispA_k, dispA_x, callA_k, callA_x, raiseA_k, raiseA_x, srA_k, srA_x, seqA_k, seqA_x, r1A_k, r1A_x, r2A_k, r2A_x, zpA_k, zpA_x, forA_k, forA_x, lcA_k, lcA_x, chK_t, mtK_t, ev_cons, ev_tup, ev_lst, ev_op2, ev_op1, ev_bl, ev_cmp, ev_val, ev_chain, ev_andB, ev_orB, ev_notB, ev_tru, ev_and, ev_or, ev_not, ev_ifF, ev_ix, ev_is, ev_sl, ev_someO, ev_expr, ev_ret, ev_if, ev_set, ev_asg, ev_par, ev_par3, ev_put, ev_thaw, ev_meth, ev_disp, ev_call, ev_raise, ev_sorted, ev_seqI, ev_rng1, ev_rng2, ev_zip, ev_for, ev_lc, lcC_k, lcS_k, lcT_t, lcT_f, lcB_k, ev_yes, entG, List.map_cons, List.map_nil, List.length_cons, List.length_nil, List.cons_append, List.nil_append, List.append_nil, List.set_cons_zero, List.set_cons_succ, List.replicate_zero, List.replicate_succ, Nat.reduceAdd, Nat.reduceSub, Option.map_some, Option.bind_some, Option.map_none, Option.bind_none, List.take_length, Bool.not_true, Bool.not_false, Nat.zero_add, Nat.sub_self, Nat.reduceMul, List.take_left, List.isEmpty_cons, List.isEmpty_nil, ↓reduceIte, Nat.reduceLT, b__law_toward, mulD_l, addD_i, subD_i, e1, e2, ne_pr, h, decide_false, St_len, St_take]
    rfl
noncomputable def twE : Fx := callF f__law_toward (consA (varF 0) (consA (callF f__law_of (consA (varF 0) (consA (lstF (consA (cF (.int 4)) (consA (op2F powD (cF (.int 10)) (cF (.int 5))) nilA))) nilA))) nilA))
theorem tw_loop {o1 o2 o3 o4 o5 o6 o7 o8 o9 : Option U} : ∀ {ds : List D} {n : Nat} {ls : List Int} {at_ : Int} {acc : List (Int × Int)}, Wf n cs ls at_ → n + 3 * ds.length ≤ 1000000 → (∀ p ∈ acc, Dr 100000 p) → acc.length + ds.length ≤ 1000 →
    ∃ (ps : List (Int × Int)) (ls' : List Int) (at' : Int), lcL [] (nameG 10) yesB twE [some (.loc 1), o1, o2, o3, o4, o5, o6, o7, o8, o9, none] ds (acc.map ppD) (St cs ls at_ []) = .ok (.p (.lst (ps.map ppD))) (St cs ls' at' []) ∧ (∀ p ∈ ps, Dr 100000 p) ∧ ps.length = acc.length + ds.length ∧ Wf (n + 3 * ds.length) cs ls' at'
  | [], n, ls, at_, acc, w, hn, ha, hl => ⟨acc, ls, at_, by rw [lc_nil], ha, by simp, w⟩
  | d :: ds, n, ls, at_, acc, w, hn, ha, hl => by
    simp only [List.length_cons] at hn hl
    obtain ⟨z, ls1, e1, hz, w1⟩ := ofL w (by omega) (xs := [.int 4, .int 100000]) (by decide) (by decide)
    have hs : ∃ s : Int, z = .int s ∧ 0 < s ∧ s ≤ 100000 := by
      simp only [List.mem_cons, List.not_mem_nil, or_false] at hz
      rcases hz with rfl | rfl <;> exact ⟨_, rfl, by decide, by decide⟩
    obtain ⟨s, rfl, s1, s2⟩ := hs
    obtain ⟨p, ls2, at2, e2, hp, w2⟩ := toward_ok w1 (by omega) s1 (by omega)
    obtain ⟨ps, ls', at', e3, h3, h4, w3⟩ := tw_loop (o1 := o1) (o2 := o2) (o3 := o3) (o4 := o4) (o5 := o5) (o6 := o6) (o7 := o7) (o8 := o8) (o9 := o9) (ds := ds) (acc := acc ++ [p]) w2 (by omega) (fun x hx => by
      rcases List.mem_append.mp hx with h | h
      · exact ha x h
      · simp at h; subst h; exact hp.mono s2) (by simp; omega)
    refine ⟨ps, ls', at', ?_, h3, by simp at h4; simp; omega, by rw [List.length_cons, show n + 3 * (ds.length + 1) = n + 1 + 2 + 3 * ds.length from by omega]; exact w3⟩
    rw [← e3, lc_cons]
    have hacc : (acc.map ppD).length < 16777216 := by simp; omega
    simp (disch := decide) only [ev_var0, ev_vars, ev_c, ev_nil, pures_nil, pures_cons, opt_some, optB_some, optU_some, deref_p, op2V_pp, op1V_p, blV_1, blV_2, blV_3, dC_pp, chK_f, andBK_t, andBK_f, orBK_t, orBK_f, truV_p, truD_bl, truD_int, truD_tup, truD_lst, andK_t, andK_f, orK_t, orK_f, notK_b, ifFK_t, ifFK_f, ixV_pp, ixD_t, ixD_k, ixD_l, atI_0, atI_1, atI_2, atI_3, isV_int, isV_bl, isV_non, isV_str, isV_tup, isV_lst, isV_kup, slV_p, ev_noO, sooK_i, ev_seq, sqK_nx, sqK_rt, sqK_ex, sqK_bk, sqK_ct, ev_skip, ev_retN, ifK_t, ifK_f, asK_s, ev_nameG, ev_tupG, ev_tupGk, ev_consG, ev_nilG, parK_2, par3K_3, putK_p, pmK_s, thawK_l, ev_newT, ev_newK, mtK2_s, exit_p, exit_nx, exit_ex, rsK_1, ev_word, wdK_ok, wdK_exc, wdT_s, ev_heard, hdK_ok, hdK_exc, hdT_s, hdI_s, its_fii, its_fi, srV_1, srK_s, srcL, srcT, wkK_s, wkU_t, wkU_l, wkU_s, zpK_tt, zpK_ll, grd_nil, flK_s, le_nx, le_ct, le_bk, le_rt, le_ex, consK2_k, consK2_x, consK1_k, consK1_x, tupK_k, tupK_x, lstK_k, lstK_x, op2B_k, op2B_x, op2A_k, op2A_x, op1A_k, op1A_x, blA_k, blA_x, cmpK_k, cmpK_x, cmpA_k, cmpA_x, valK_k, valK_x, chC_k, chC_x, chB_k, chB_x, chA_k, chA_x, andBA_k, andBA_x, orBA_k, orBA_x, notBA_k, notBA_x, truA_k, truA_x, andA_k, andA_x, orA_k, orA_x, notA_k, notA_x, ifFA_k, ifFA_x, ixB_k, ixB_x, ixA_k, ixA_x, isA_k, isA_x, slC_k, slC_x, slB_k, slB_x, slA_k, slA_x, sooA_k, sooA_x, exprA_k, exprA_x, retA_k, retA_x, ifA_k, ifA_x, setA__k, setA__x, asgA_k, asgA_x, parA_k, parA_x, par3A_k, par3A_x, putC_k, putC_x, putB_k, putB_x, putA_k, putA_x, thawA_k, thawA_x, mtA_k, mtA_x, mtB_k, mtB_x, dispA_k, dispA_x, callA_k, callA_x, raiseA_k, raiseA_x, srA_k, srA_x, seqA_k, seqA_x, r1A_k, r1A_x, r2A_k, r2A_x, zpA_k, zpA_x, forA_k, forA_x, lcA_k, lcA_x, chK_t, mtK_t, ev_cons, ev_tup, ev_lst, ev_op2, ev_op1, ev_bl, ev_cmp, ev_val, ev_chain, ev_andB, ev_orB, ev_notB, ev_tru, ev_and, ev_or, ev_not, ev_ifF, ev_ix, ev_is, ev_sl, ev_someO, ev_expr, ev_ret, ev_if, ev_set, ev_asg, ev_par, ev_par3, ev_put, ev_thaw, ev_meth, ev_disp, ev_call, ev_raise, ev_sorted, ev_seqI, ev_rng1, ev_rng2, ev_zip, ev_for, ev_lc, lcC_k, lcS_k, lcT_t, lcT_f, lcB_k, ev_yes, entG, List.map_cons, List.map_nil, List.length_cons, List.length_nil, List.cons_append, List.nil_append, List.append_nil, List.set_cons_zero, List.set_cons_succ, List.replicate_zero, List.replicate_succ, Nat.reduceAdd, Nat.reduceSub, Option.map_some, Option.bind_some, Option.map_none, Option.bind_none, List.take_length, Bool.not_true, Bool.not_false, Nat.zero_add, Nat.sub_self, Nat.reduceMul, List.take_left, List.isEmpty_cons, List.isEmpty_nil, ↓reduceIte, Nat.reduceLT, twE, powD_i, Int.reduceToNat, Int.reducePow, e1, e2]
    rw [if_pos hacc, List.map_append]
    rfl
theorem turned_ok (h : Dr 1000000 p) : f_turned_left [.p (ppD p)] M = .ok (.p (ppD (turnP p))) M := by
  have k := need_dir_ok (M := M) h
  simp only [ppD] at k
  rw [f_turned_left, ev_fn]
  simp only [ev_var0, ev_vars, ev_c, ev_nil, pures_nil, pures_cons, opt_some, optB_some, optU_some, deref_p, op2V_pp, op1V_p, blV_1, blV_2, blV_3, dC_pp, chK_f, andBK_t, andBK_f, orBK_t, orBK_f, truV_p, truD_bl, truD_int, truD_tup, truD_lst, andK_t, andK_f, orK_t, orK_f, notK_b, ifFK_t, ifFK_f, ixV_pp, ixD_t, ixD_k, ixD_l, atI_0, atI_1, atI_2, atI_3, isV_int, isV_bl, isV_non, isV_str, isV_tup, isV_lst, isV_kup, slV_p, ev_noO, sooK_i, ev_seq, sqK_nx, sqK_rt, sqK_ex, sqK_bk, sqK_ct, ev_skip, ev_retN, ifK_t, ifK_f, asK_s, ev_nameG, ev_tupG, ev_tupGk, ev_consG, ev_nilG, parK_2, par3K_3, putK_p, pmK_s, thawK_l, ev_newT, ev_newK, mtK2_s, exit_p, exit_nx, exit_ex, rsK_1, ev_word, wdK_ok, wdK_exc, wdT_s, ev_heard, hdK_ok, hdK_exc, hdT_s, hdI_s, its_fii, its_fi, srV_1, srK_s, srcL, srcT, wkK_s, wkU_t, wkU_l, wkU_s, zpK_tt, zpK_ll, grd_nil, flK_s, le_nx, le_ct, le_bk, le_rt, le_ex, consK2_k, consK2_x, consK1_k, consK1_x, tupK_k, tupK_x, lstK_k, lstK_x, op2B_k, op2B_x, op2A_k, op2A_x, op1A_k, op1A_x, blA_k, blA_x, cmpK_k, cmpK_x, cmpA_k, cmpA_x, valK_k, valK_x, chC_k, chC_x, chB_k, chB_x, chA_k, chA_x, andBA_k, andBA_x, orBA_k, orBA_x, notBA_k, notBA_x, truA_k, truA_x, andA_k, andA_x, orA_k, orA_x, notA_k, notA_x, ifFA_k, ifFA_x, ixB_k, ixB_x, ixA_k, ixA_x, isA_k, isA_x, slC_k, slC_x, slB_k, slB_x, slA_k, slA_x, sooA_k, sooA_x, exprA_k, exprA_x, retA_k, retA_x, ifA_k, ifA_x, setA__k, setA__x, asgA_k, asgA_x, parA_k, parA_x, par3A_k, par3A_x, putC_k, putC_x, putB_k, putB_x, putA_k, putA_x, thawA_k, thawA_x, mtA_k, mtA_x, mtB_k, mtB_x, dispA_k, dispA_x, callA_k, callA_x, raiseA_k, raiseA_x, srA_k, srA_x, seqA_k, seqA_x, r1A_k, r1A_x, r2A_k, r2A_x, zpA_k, zpA_x, forA_k, forA_x, lcA_k, lcA_x, chK_t, mtK_t, ev_cons, ev_tup, ev_lst, ev_op2, ev_op1, ev_bl, ev_cmp, ev_val, ev_chain, ev_andB, ev_orB, ev_notB, ev_tru, ev_and, ev_or, ev_not, ev_ifF, ev_ix, ev_is, ev_sl, ev_someO, ev_expr, ev_ret, ev_if, ev_set, ev_asg, ev_par, ev_par3, ev_put, ev_thaw, ev_meth, ev_disp, ev_call, ev_raise, ev_sorted, ev_seqI, ev_rng1, ev_rng2, ev_zip, ev_for, ev_lc, lcC_k, lcS_k, lcT_t, lcT_f, lcB_k, ev_yes, entG, List.map_cons, List.map_nil, List.length_cons, List.length_nil, List.cons_append, List.nil_append, List.append_nil, List.set_cons_zero, List.set_cons_succ, List.replicate_zero, List.replicate_succ, Nat.reduceAdd, Nat.reduceSub, Option.map_some, Option.bind_some, Option.map_none, Option.bind_none, List.take_length, Bool.not_true, Bool.not_false, Nat.zero_add, Nat.sub_self, Nat.reduceMul, List.take_left, List.isEmpty_cons, List.isEmpty_nil, ↓reduceIte, Nat.reduceLT, b_turned_left, ppD, k, ixD_t, negD_i]
  rfl
theorem turn_dr {m : Int} (h : Dr m p) : Dr m (turnP p) := by
  obtain ⟨h1, h2, h3, h4, h5⟩ := h
  exact ⟨by show -m ≤ -p.2; omega, by show -p.2 ≤ m; omega, h1, h2, fun z => h5 ⟨z.2, by have := z.1; show p.2 = 0; have e : -p.2 = 0 := this; omega⟩⟩
theorem least_ok (h : Dr 1000000 p) : f_least_direction [.p (ppD p)] M = .ok (.p (ppD (plnOf p))) M := by
  have k := need_dir_ok (M := M) h
  have k2 := plain_ok (M := M) h
  rw [f_least_direction, ev_fn]
  simp only [ev_var0, ev_vars, ev_c, ev_nil, pures_nil, pures_cons, opt_some, optB_some, optU_some, deref_p, op2V_pp, op1V_p, blV_1, blV_2, blV_3, dC_pp, chK_f, andBK_t, andBK_f, orBK_t, orBK_f, truV_p, truD_bl, truD_int, truD_tup, truD_lst, andK_t, andK_f, orK_t, orK_f, notK_b, ifFK_t, ifFK_f, ixV_pp, ixD_t, ixD_k, ixD_l, atI_0, atI_1, atI_2, atI_3, isV_int, isV_bl, isV_non, isV_str, isV_tup, isV_lst, isV_kup, slV_p, ev_noO, sooK_i, ev_seq, sqK_nx, sqK_rt, sqK_ex, sqK_bk, sqK_ct, ev_skip, ev_retN, ifK_t, ifK_f, asK_s, ev_nameG, ev_tupG, ev_tupGk, ev_consG, ev_nilG, parK_2, par3K_3, putK_p, pmK_s, thawK_l, ev_newT, ev_newK, mtK2_s, exit_p, exit_nx, exit_ex, rsK_1, ev_word, wdK_ok, wdK_exc, wdT_s, ev_heard, hdK_ok, hdK_exc, hdT_s, hdI_s, its_fii, its_fi, srV_1, srK_s, srcL, srcT, wkK_s, wkU_t, wkU_l, wkU_s, zpK_tt, zpK_ll, grd_nil, flK_s, le_nx, le_ct, le_bk, le_rt, le_ex, consK2_k, consK2_x, consK1_k, consK1_x, tupK_k, tupK_x, lstK_k, lstK_x, op2B_k, op2B_x, op2A_k, op2A_x, op1A_k, op1A_x, blA_k, blA_x, cmpK_k, cmpK_x, cmpA_k, cmpA_x, valK_k, valK_x, chC_k, chC_x, chB_k, chB_x, chA_k, chA_x, andBA_k, andBA_x, orBA_k, orBA_x, notBA_k, notBA_x, truA_k, truA_x, andA_k, andA_x, orA_k, orA_x, notA_k, notA_x, ifFA_k, ifFA_x, ixB_k, ixB_x, ixA_k, ixA_x, isA_k, isA_x, slC_k, slC_x, slB_k, slB_x, slA_k, slA_x, sooA_k, sooA_x, exprA_k, exprA_x, retA_k, retA_x, ifA_k, ifA_x, setA__k, setA__x, asgA_k, asgA_x, parA_k, parA_x, par3A_k, par3A_x, putC_k, putC_x, putB_k, putB_x, putA_k, putA_x, thawA_k, thawA_x, mtA_k, mtA_x, mtB_k, mtB_x, dispA_k, dispA_x, callA_k, callA_x, raiseA_k, raiseA_x, srA_k, srA_x, seqA_k, seqA_x, r1A_k, r1A_x, r2A_k, r2A_x, zpA_k, zpA_x, forA_k, forA_x, lcA_k, lcA_x, chK_t, mtK_t, ev_cons, ev_tup, ev_lst, ev_op2, ev_op1, ev_bl, ev_cmp, ev_val, ev_chain, ev_andB, ev_orB, ev_notB, ev_tru, ev_and, ev_or, ev_not, ev_ifF, ev_ix, ev_is, ev_sl, ev_someO, ev_expr, ev_ret, ev_if, ev_set, ev_asg, ev_par, ev_par3, ev_put, ev_thaw, ev_meth, ev_disp, ev_call, ev_raise, ev_sorted, ev_seqI, ev_rng1, ev_rng2, ev_zip, ev_for, ev_lc, lcC_k, lcS_k, lcT_t, lcT_f, lcB_k, ev_yes, entG, List.map_cons, List.map_nil, List.length_cons, List.length_nil, List.cons_append, List.nil_append, List.append_nil, List.set_cons_zero, List.set_cons_succ, List.replicate_zero, List.replicate_succ, Nat.reduceAdd, Nat.reduceSub, Option.map_some, Option.bind_some, Option.map_none, Option.bind_none, List.take_length, Bool.not_true, Bool.not_false, Nat.zero_add, Nat.sub_self, Nat.reduceMul, List.take_left, List.isEmpty_cons, List.isEmpty_nil, ↓reduceIte, Nat.reduceLT, b_least_direction, k, k2]
theorem shw_pp (h : Dr 1000000 p) : Shw 3809 1 (ppD p) := by
  obtain ⟨h1, h2, h3, h4, h5⟩ := h
  exact .tup (.cons (.int (int_shw (by omega) (by omega))) (.cons (.int (int_shw (by omega) (by omega))) .nil))
theorem shws_pp (h : ∀ p ∈ L, Dr 1000000 p) : ∃ l, l ≤ 1 ∧ Shws (L.length * 3811) l (L.map ppD) := by
  obtain ⟨l, hl, hs⟩ := Shws.all (n := 3809) (k := 1) (ds := L.map ppD) fun z hz => by
    obtain ⟨p, hp, rfl⟩ := List.mem_map.mp hz
    exact shw_pp (h p hp)
  exact ⟨l, hl, by simpa using hs⟩
def lgP (p : Int × Int) : Int × Int := (3 * p.1, 3 * p.2)
theorem lg_dr (h : Dr 100000 p) : Dr 1000000 (lgP p) := by
  obtain ⟨h1, h2, h3, h4, h5⟩ := h
  exact ⟨by show -1000000 ≤ 3 * p.1; omega, by show 3 * p.1 ≤ 1000000; omega, by show -1000000 ≤ 3 * p.2; omega, by show 3 * p.2 ≤ 1000000; omega, fun z => h5 ⟨by have e : 3 * p.1 = 0 := z.1; omega, by have e : 3 * p.2 = 0 := z.2; omega⟩⟩
theorem round_lg (h : ∀ p ∈ ps, Dr 100000 p) : roundP ((ps.map lgP).reverse) = roundP ps := by
  have hz : ∀ p ∈ ps, ¬ (p.1 = 0 ∧ p.2 = 0) := fun p hp => (h p hp).nz
  obtain ⟨h1, h2, _⟩ := round_ok hz
  refine round_unique (fun x hx => ?_) (fun a ha => ?_) h1 fun x => ?_
  · obtain ⟨p, hp, rfl⟩ := List.mem_map.mp (List.mem_reverse.mp hx)
    exact (lg_dr (h p hp)).nz
  · obtain ⟨p, hp, rfl⟩ := List.mem_map.mp ((h2 a).mp ha)
    exact (pln_of (hz p hp)).2.1
  · rw [h2]
    have e : (ps.map lgP).map plnOf = ps.map plnOf := by
      rw [List.map_map]
      exact List.map_congr_left fun p hp => plnOf_mul (hz p hp) (by decide)
    rw [List.map_reverse, List.mem_reverse, e]
theorem round_round (h : ∀ p ∈ ps, Dr 1000000 p) : roundP (roundP ps) = roundP ps := by
  have hz : ∀ p ∈ ps, ¬ (p.1 = 0 ∧ p.2 = 0) := fun p hp => (h p hp).nz
  obtain ⟨h1, h2, _⟩ := round_ok hz
  have d := round_dr h
  refine round_unique (fun x hx => (d x hx).1.nz) (fun a ha => (d a ha).2) h1 fun x => ?_
  have e : (roundP ps).map plnOf = roundP ps := by
    conv => rhs; rw [← List.map_id (roundP ps)]
    exact List.map_congr_left fun p hp => plnOf_pln (d p hp).2
  rw [e]
def rotD (T : List (Int × Int)) : D → D
  | .int i => .tup ((T.drop i.toNat ++ T.take i.toNat).map ppD)
  | d => d
theorem shapes_ok {T : List (Int × Int)} {o0 o1 o2 o3 o5 o6 o7 o8 o10 : Option U} (hT : T.length ≤ 1000) : lcL [] (nameG 9) yesB (op2F addD (slF (varF 4) (someO (varF 9)) noO) (slF (varF 4) noO (someO (varF 9)))) [o0, o1, o2, o3, some (.p (.tup (T.map ppD))), o5, o6, o7, o8, none, o10] (upto 0 T.length) [] M = .ok (.p (.lst ((upto 0 T.length).map (rotD T)))) M := by
  have h := lc_map (Γ := [o0, o1, o2, o3, some (.p (.tup (T.map ppD))), o5, o6, o7, o8, none, o10]) (M := M) (asg := nameG 9) (f := op2F addD (slF (varF 4) (someO (varF 9)) noO) (slF (varF 4) noO (someO (varF 9)))) (q := rotD T) (ds := upto 0 T.length) (acc := []) (fun d hd => by
    obtain ⟨i, rfl, h1, h2⟩ := upto_mem hd
    obtain ⟨k, rfl⟩ := Int.eq_ofNat_of_zero_le h1
    have k1 := sl_takeT (xs := T.map ppD) (k := k) (by simp; omega)
    have k2 := sl_dropT (xs := T.map ppD) (k := k) (by simp; omega)
    have k3 : ((T.map ppD).drop k).length + ((T.map ppD).take k).length ≤ 16777216 := by simp; omega
    refine ⟨_, rfl, ?_⟩
    simp -implicitDefEqProofs only [ev_var0, ev_vars, ev_c, ev_nil, pures_nil, pures_cons, opt_some, optB_some, optU_some, deref_p, op2V_pp, op1V_p, blV_1, blV_2, blV_3, dC_pp, chK_f, andBK_t, andBK_f, orBK_t, orBK_f, truV_p, truD_bl, truD_int, truD_tup, truD_lst, andK_t, andK_f, orK_t, orK_f, notK_b, ifFK_t, ifFK_f, ixV_pp, ixD_t, ixD_k, ixD_l, atI_0, atI_1, atI_2, atI_3, isV_int, isV_bl, isV_non, isV_str, isV_tup, isV_lst, isV_kup, slV_p, ev_noO, sooK_i, ev_seq, sqK_nx, sqK_rt, sqK_ex, sqK_bk, sqK_ct, ev_skip, ev_retN, ifK_t, ifK_f, asK_s, ev_nameG, ev_tupG, ev_tupGk, ev_consG, ev_nilG, parK_2, par3K_3, putK_p, pmK_s, thawK_l, ev_newT, ev_newK, mtK2_s, exit_p, exit_nx, exit_ex, rsK_1, ev_word, wdK_ok, wdK_exc, wdT_s, ev_heard, hdK_ok, hdK_exc, hdT_s, hdI_s, its_fii, its_fi, srV_1, srK_s, srcL, srcT, wkK_s, wkU_t, wkU_l, wkU_s, zpK_tt, zpK_ll, grd_nil, flK_s, le_nx, le_ct, le_bk, le_rt, le_ex, consK2_k, consK2_x, consK1_k, consK1_x, tupK_k, tupK_x, lstK_k, lstK_x, op2B_k, op2B_x, op2A_k, op2A_x, op1A_k, op1A_x, blA_k, blA_x, cmpK_k, cmpK_x, cmpA_k, cmpA_x, valK_k, valK_x, chC_k, chC_x, chB_k, chB_x, chA_k, chA_x, andBA_k, andBA_x, orBA_k, orBA_x, notBA_k, notBA_x, truA_k, truA_x, andA_k, andA_x, orA_k, orA_x, notA_k, notA_x, ifFA_k, ifFA_x, ixB_k, ixB_x, ixA_k, ixA_x, isA_k, isA_x, slC_k, slC_x, slB_k, slB_x, slA_k, slA_x, sooA_k, sooA_x, exprA_k, exprA_x, retA_k, retA_x, ifA_k, ifA_x, setA__k, setA__x, asgA_k, asgA_x, parA_k, parA_x, par3A_k, par3A_x, putC_k, putC_x, putB_k, putB_x, putA_k, putA_x, thawA_k, thawA_x, mtA_k, mtA_x, mtB_k, mtB_x, dispA_k, dispA_x, callA_k, callA_x, raiseA_k, raiseA_x, srA_k, srA_x, seqA_k, seqA_x, r1A_k, r1A_x, r2A_k, r2A_x, zpA_k, zpA_x, forA_k, forA_x, lcA_k, lcA_x, chK_t, mtK_t, ev_cons, ev_tup, ev_lst, ev_op2, ev_op1, ev_bl, ev_cmp, ev_val, ev_chain, ev_andB, ev_orB, ev_notB, ev_tru, ev_and, ev_or, ev_not, ev_ifF, ev_ix, ev_is, ev_sl, ev_someO, ev_expr, ev_ret, ev_if, ev_set, ev_asg, ev_par, ev_par3, ev_put, ev_thaw, ev_meth, ev_disp, ev_call, ev_raise, ev_sorted, ev_seqI, ev_rng1, ev_rng2, ev_zip, ev_for, ev_lc, lcC_k, lcS_k, lcT_t, lcT_f, lcB_k, ev_yes, entG, List.map_cons, List.map_nil, List.length_cons, List.length_nil, List.cons_append, List.nil_append, List.append_nil, List.set_cons_zero, List.set_cons_succ, List.replicate_zero, List.replicate_succ, Nat.reduceAdd, Nat.reduceSub, Option.map_some, Option.bind_some, Option.map_none, Option.bind_none, List.take_length, Bool.not_true, Bool.not_false, Nat.zero_add, Nat.sub_self, Nat.reduceMul, List.take_left, List.isEmpty_cons, List.isEmpty_nil, ↓reduceIte, Nat.reduceLT, k1, k2, addD_tt k3, rotD, Int.toNat_natCast, List.map_append, List.map_take, List.map_drop]) (by rw [upto_len]; simp; omega)
  rw [List.nil_append] at h
  exact h
/-- one direction, told in three ways -/
theorem each_ok {o0 o2 o3 o4 o5 o6 o8 o9 o10 : Option U} {o1 : Option U} (h : Dr 100000 p) :
    ∃ o8', (seqS (setS 8 (lstF (consA (callF f_least_direction (consA (varF 7) nilA)) (consA (callF f_need_direction (consA (varF 7) nilA)) (consA (callF f_turned_left (consA (callF f_turned_left (consA (varF 7) nilA)) nilA)) nilA)))))
  (ifS (notB (truB (callF f__law_like (consA (varF 8) (consA (lstF (consA (callF f__law_plainly (consA (varF 7) nilA)) (consA (varF 7) (consA (tupF (consA (op1F negD (ixF (varF 7) (cF (.int 0)))) (consA (op1F negD (ixF (varF 7) (cF (.int 1)))) nilA))) nilA)))) nilA))))) (retS (cF (.bl false))) skipS))
      [o0, o1, o2, o3, o4, o5, o6, some (.p (ppD p)), o8, o9, o10] M = .nx [o0, o1, o2, o3, o4, o5, o6, some (.p (ppD p)), o8', o9, o10] M := by
  have h6 := h.mono (m' := 1000000) (by decide)
  have k1 := least_ok (M := M) h6
  have k2 := need_dir_ok (M := M) h6
  have k3 := turned_ok (M := M) h6
  have k4 := turned_ok (M := M) (turn_dr h6)
  have k5 := plainly_ok (M := M) h6
  have hn : Dr 1000000 (-p.1, -p.2) := turn_dr (turn_dr h6)
  have hp : Dr 1000000 (plnOf p) := by
    obtain ⟨q1, q2, q3, q4⟩ := pln_le h6.nz h6.x1 h6.x2 h6.y1 h6.y2
    exact ⟨q1, q2, q3, q4, pln_nz (pln_of h6.nz).2.1⟩
  have L1 := fun (x : D) hx => likeK (x := x) (M := M) hx (.lst (.cons (shw_pp hp) (.cons (shw_pp h6) (.cons (shw_pp hn) .nil)))) (by decide) (by decide)
  refine ⟨some (.p (.lst [ppD (plnOf p), ppD p, ppD (turnP (turnP p))])), ?_⟩
  simp only [ev_var0, ev_vars, ev_c, ev_nil, pures_nil, pures_cons, opt_some, optB_some, optU_some, deref_p, op2V_pp, op1V_p, blV_1, blV_2, blV_3, dC_pp, chK_f, andBK_t, andBK_f, orBK_t, orBK_f, truV_p, truD_bl, truD_int, truD_tup, truD_lst, andK_t, andK_f, orK_t, orK_f, notK_b, ifFK_t, ifFK_f, ixV_pp, ixD_t, ixD_k, ixD_l, atI_0, atI_1, atI_2, atI_3, isV_int, isV_bl, isV_non, isV_str, isV_tup, isV_lst, isV_kup, slV_p, ev_noO, sooK_i, ev_seq, sqK_nx, sqK_rt, sqK_ex, sqK_bk, sqK_ct, ev_skip, ev_retN, ifK_t, ifK_f, asK_s, ev_nameG, ev_tupG, ev_tupGk, ev_consG, ev_nilG, parK_2, par3K_3, putK_p, pmK_s, thawK_l, ev_newT, ev_newK, mtK2_s, exit_p, exit_nx, exit_ex, rsK_1, ev_word, wdK_ok, wdK_exc, wdT_s, ev_heard, hdK_ok, hdK_exc, hdT_s, hdI_s, its_fii, its_fi, srV_1, srK_s, srcL, srcT, wkK_s, wkU_t, wkU_l, wkU_s, zpK_tt, zpK_ll, grd_nil, flK_s, le_nx, le_ct, le_bk, le_rt, le_ex, consK2_k, consK2_x, consK1_k, consK1_x, tupK_k, tupK_x, lstK_k, lstK_x, op2B_k, op2B_x, op2A_k, op2A_x, op1A_k, op1A_x, blA_k, blA_x, cmpK_k, cmpK_x, cmpA_k, cmpA_x, valK_k, valK_x, chC_k, chC_x, chB_k, chB_x, chA_k, chA_x, andBA_k, andBA_x, orBA_k, orBA_x, notBA_k, notBA_x, truA_k, truA_x, andA_k, andA_x, orA_k, orA_x, notA_k, notA_x, ifFA_k, ifFA_x, ixB_k, ixB_x, ixA_k, ixA_x, isA_k, isA_x, slC_k, slC_x, slB_k, slB_x, slA_k, slA_x, sooA_k, sooA_x, exprA_k, exprA_x, retA_k, retA_x, ifA_k, ifA_x, setA__k, setA__x, asgA_k, asgA_x, parA_k, parA_x, par3A_k, par3A_x, putC_k, putC_x, putB_k, putB_x, putA_k, putA_x, thawA_k, thawA_x, mtA_k, mtA_x, mtB_k, mtB_x, dispA_k, dispA_x, callA_k, callA_x, raiseA_k, raiseA_x, srA_k, srA_x, seqA_k, seqA_x, r1A_k, r1A_x, r2A_k, r2A_x, zpA_k, zpA_x, forA_k, forA_x, lcA_k, lcA_x, chK_t, mtK_t, ev_cons, ev_tup, ev_lst, ev_op2, ev_op1, ev_bl, ev_cmp, ev_val, ev_chain, ev_andB, ev_orB, ev_notB, ev_tru, ev_and, ev_or, ev_not, ev_ifF, ev_ix, ev_is, ev_sl, ev_someO, ev_expr, ev_ret, ev_if, ev_set, ev_asg, ev_par, ev_par3, ev_put, ev_thaw, ev_meth, ev_disp, ev_call, ev_raise, ev_sorted, ev_seqI, ev_rng1, ev_rng2, ev_zip, ev_for, ev_lc, lcC_k, lcS_k, lcT_t, lcT_f, lcB_k, ev_yes, entG, List.map_cons, List.map_nil, List.length_cons, List.length_nil, List.cons_append, List.nil_append, List.append_nil, List.set_cons_zero, List.set_cons_succ, List.replicate_zero, List.replicate_succ, Nat.reduceAdd, Nat.reduceSub, Option.map_some, Option.bind_some, Option.map_none, Option.bind_none, List.take_length, Bool.not_true, Bool.not_false, Nat.zero_add, Nat.sub_self, Nat.reduceMul, List.take_left, List.isEmpty_cons, List.isEmpty_nil, ↓reduceIte, Nat.reduceLT, k1, k2, k3, k4, k5]
  have e1 : ixV M (.p (ppD p)) (.p (.int 0)) = .ok (.p (.int p.1)) M := rfl
  have e2 : ixV M (.p (ppD p)) (.p (.int 1)) = .ok (.p (.int p.2)) M := rfl
  simp only [ev_var0, ev_vars, ev_c, ev_nil, pures_nil, pures_cons, opt_some, optB_some, optU_some, deref_p, op2V_pp, op1V_p, blV_1, blV_2, blV_3, dC_pp, chK_f, andBK_t, andBK_f, orBK_t, orBK_f, truV_p, truD_bl, truD_int, truD_tup, truD_lst, andK_t, andK_f, orK_t, orK_f, notK_b, ifFK_t, ifFK_f, ixV_pp, ixD_t, ixD_k, ixD_l, atI_0, atI_1, atI_2, atI_3, isV_int, isV_bl, isV_non, isV_str, isV_tup, isV_lst, isV_kup, slV_p, ev_noO, sooK_i, ev_seq, sqK_nx, sqK_rt, sqK_ex, sqK_bk, sqK_ct, ev_skip, ev_retN, ifK_t, ifK_f, asK_s, ev_nameG, ev_tupG, ev_tupGk, ev_consG, ev_nilG, parK_2, par3K_3, putK_p, pmK_s, thawK_l, ev_newT, ev_newK, mtK2_s, exit_p, exit_nx, exit_ex, rsK_1, ev_word, wdK_ok, wdK_exc, wdT_s, ev_heard, hdK_ok, hdK_exc, hdT_s, hdI_s, its_fii, its_fi, srV_1, srK_s, srcL, srcT, wkK_s, wkU_t, wkU_l, wkU_s, zpK_tt, zpK_ll, grd_nil, flK_s, le_nx, le_ct, le_bk, le_rt, le_ex, consK2_k, consK2_x, consK1_k, consK1_x, tupK_k, tupK_x, lstK_k, lstK_x, op2B_k, op2B_x, op2A_k, op2A_x, op1A_k, op1A_x, blA_k, blA_x, cmpK_k, cmpK_x, cmpA_k, cmpA_x, valK_k, valK_x, chC_k, chC_x, chB_k, chB_x, chA_k, chA_x, andBA_k, andBA_x, orBA_k, orBA_x, notBA_k, notBA_x, truA_k, truA_x, andA_k, andA_x, orA_k, orA_x, notA_k, notA_x, ifFA_k, ifFA_x, ixB_k, ixB_x, ixA_k, ixA_x, isA_k, isA_x, slC_k, slC_x, slB_k, slB_x, slA_k, slA_x, sooA_k, sooA_x, exprA_k, exprA_x, retA_k, retA_x, ifA_k, ifA_x, setA__k, setA__x, asgA_k, asgA_x, parA_k, parA_x, par3A_k, par3A_x, putC_k, putC_x, putB_k, putB_x, putA_k, putA_x, thawA_k, thawA_x, mtA_k, mtA_x, mtB_k, mtB_x, dispA_k, dispA_x, callA_k, callA_x, raiseA_k, raiseA_x, srA_k, srA_x, seqA_k, seqA_x, r1A_k, r1A_x, r2A_k, r2A_x, zpA_k, zpA_x, forA_k, forA_x, lcA_k, lcA_x, chK_t, mtK_t, ev_cons, ev_tup, ev_lst, ev_op2, ev_op1, ev_bl, ev_cmp, ev_val, ev_chain, ev_andB, ev_orB, ev_notB, ev_tru, ev_and, ev_or, ev_not, ev_ifF, ev_ix, ev_is, ev_sl, ev_someO, ev_expr, ev_ret, ev_if, ev_set, ev_asg, ev_par, ev_par3, ev_put, ev_thaw, ev_meth, ev_disp, ev_call, ev_raise, ev_sorted, ev_seqI, ev_rng1, ev_rng2, ev_zip, ev_for, ev_lc, lcC_k, lcS_k, lcT_t, lcT_f, lcB_k, ev_yes, entG, List.map_cons, List.map_nil, List.length_cons, List.length_nil, List.cons_append, List.nil_append, List.append_nil, List.set_cons_zero, List.set_cons_succ, List.replicate_zero, List.replicate_succ, Nat.reduceAdd, Nat.reduceSub, Option.map_some, Option.bind_some, Option.map_none, Option.bind_none, List.take_length, Bool.not_true, Bool.not_false, Nat.zero_add, Nat.sub_self, Nat.reduceMul, List.take_left, List.isEmpty_cons, List.isEmpty_nil, ↓reduceIte, Nat.reduceLT, ixD_t, ppD, negD_i]
  have := L1 (.lst [ppD (plnOf p), ppD p, ppD (turnP (turnP p))]) rfl
  simp only [ppD] at this
  simp only [ev_var0, ev_vars, ev_c, ev_nil, pures_nil, pures_cons, opt_some, optB_some, optU_some, deref_p, op2V_pp, op1V_p, blV_1, blV_2, blV_3, dC_pp, chK_f, andBK_t, andBK_f, orBK_t, orBK_f, truV_p, truD_bl, truD_int, truD_tup, truD_lst, andK_t, andK_f, orK_t, orK_f, notK_b, ifFK_t, ifFK_f, ixV_pp, ixD_t, ixD_k, ixD_l, atI_0, atI_1, atI_2, atI_3, isV_int, isV_bl, isV_non, isV_str, isV_tup, isV_lst, isV_kup, slV_p, ev_noO, sooK_i, ev_seq, sqK_nx, sqK_rt, sqK_ex, sqK_bk, sqK_ct, ev_skip, ev_retN, ifK_t, ifK_f, asK_s, ev_nameG, ev_tupG, ev_tupGk, ev_consG, ev_nilG, parK_2, par3K_3, putK_p, pmK_s, thawK_l, ev_newT, ev_newK, mtK2_s, exit_p, exit_nx, exit_ex, rsK_1, ev_word, wdK_ok, wdK_exc, wdT_s, ev_heard, hdK_ok, hdK_exc, hdT_s, hdI_s, its_fii, its_fi, srV_1, srK_s, srcL, srcT, wkK_s, wkU_t, wkU_l, wkU_s, zpK_tt, zpK_ll, grd_nil, flK_s, le_nx, le_ct, le_bk, le_rt, le_ex, consK2_k, consK2_x, consK1_k, consK1_x, tupK_k, tupK_x, lstK_k, lstK_x, op2B_k, op2B_x, op2A_k, op2A_x, op1A_k, op1A_x, blA_k, blA_x, cmpK_k, cmpK_x, cmpA_k, cmpA_x, valK_k, valK_x, chC_k, chC_x, chB_k, chB_x, chA_k, chA_x, andBA_k, andBA_x, orBA_k, orBA_x, notBA_k, notBA_x, truA_k, truA_x, andA_k, andA_x, orA_k, orA_x, notA_k, notA_x, ifFA_k, ifFA_x, ixB_k, ixB_x, ixA_k, ixA_x, isA_k, isA_x, slC_k, slC_x, slB_k, slB_x, slA_k, slA_x, sooA_k, sooA_x, exprA_k, exprA_x, retA_k, retA_x, ifA_k, ifA_x, setA__k, setA__x, asgA_k, asgA_x, parA_k, parA_x, par3A_k, par3A_x, putC_k, putC_x, putB_k, putB_x, putA_k, putA_x, thawA_k, thawA_x, mtA_k, mtA_x, mtB_k, mtB_x, dispA_k, dispA_x, callA_k, callA_x, raiseA_k, raiseA_x, srA_k, srA_x, seqA_k, seqA_x, r1A_k, r1A_x, r2A_k, r2A_x, zpA_k, zpA_x, forA_k, forA_x, lcA_k, lcA_x, chK_t, mtK_t, ev_cons, ev_tup, ev_lst, ev_op2, ev_op1, ev_bl, ev_cmp, ev_val, ev_chain, ev_andB, ev_orB, ev_notB, ev_tru, ev_and, ev_or, ev_not, ev_ifF, ev_ix, ev_is, ev_sl, ev_someO, ev_expr, ev_ret, ev_if, ev_set, ev_asg, ev_par, ev_par3, ev_put, ev_thaw, ev_meth, ev_disp, ev_call, ev_raise, ev_sorted, ev_seqI, ev_rng1, ev_rng2, ev_zip, ev_for, ev_lc, lcC_k, lcS_k, lcT_t, lcT_f, lcB_k, ev_yes, entG, List.map_cons, List.map_nil, List.length_cons, List.length_nil, List.cons_append, List.nil_append, List.append_nil, List.set_cons_zero, List.set_cons_succ, List.replicate_zero, List.replicate_succ, Nat.reduceAdd, Nat.reduceSub, Option.map_some, Option.bind_some, Option.map_none, Option.bind_none, List.take_length, Bool.not_true, Bool.not_false, Nat.zero_add, Nat.sub_self, Nat.reduceMul, List.take_left, List.isEmpty_cons, List.isEmpty_nil, ↓reduceIte, Nat.reduceLT, this]
theorem right_ok (w : Wf n cs ls at_) (hn : n ≤ 100000) : ∃ ls' at', f__law_right [.loc 1] (St cs ls at_ []) = .ok (.p (.bl true)) (St cs ls' at' []) ∧ Wf (n + 31) cs ls' at' := by
  obtain ⟨r, ls1, e1, hr, hl, w1⟩ := drawK w (by omega) (lim := 11) (by decide) (by decide)
  have hu := upto_len 0 r.toNat
  obtain ⟨ps, ls2, at2, e2, hp, hlen, w2⟩ := tw_loop (o1 := none) (o2 := none) (o3 := none) (o4 := none) (o5 := none) (o6 := none) (o7 := none) (o8 := none) (o9 := none) (ds := upto 0 r.toNat) (acc := []) w1 (by omega) (by simp) (by simp; omega)
  simp only [List.map_nil, twE, List.length_nil, Nat.zero_add] at e2 hlen
  refine ⟨ls2, at2, ?_, w2.mono (by omega)⟩
  have hp6 : ∀ p ∈ ps, Dr 1000000 p := fun p h => (hp p h).mono (by decide)
  obtain ⟨rp1, rp2, rp3⟩ := round_ok fun p h => (hp p h).nz
  have dd := round_dr hp6
  have k1 := fun M => sorted_ok (M := M) hp6 (by omega)
  have k2 := fun M o0 o2 o3 o4 o5 o6 o8 o9 o10 => lc_map (Γ := [o0, some (.p (.tup (ps.map ppD))), o2, o3, o4, o5, o6, none, o8, o9, o10]) (M := M) (asg := nameG 7) (f := tupF (consA (op2F mulD (cF (.int 3)) (ixF (varF 7) (cF (.int 0)))) (consA (op2F mulD (cF (.int 3)) (ixF (varF 7) (cF (.int 1)))) nilA))) (q := dF fun p => ppD (lgP p)) (ds := ps.map ppD) (acc := []) (fun d hd => by
    obtain ⟨p, h, rfl⟩ := List.mem_map.mp hd
    refine ⟨_, rfl, ?_⟩
    simp (disch := decide) only [ev_var0, ev_vars, ev_c, ev_nil, pures_nil, pures_cons, opt_some, optB_some, optU_some, deref_p, op2V_pp, op1V_p, blV_1, blV_2, blV_3, dC_pp, chK_f, andBK_t, andBK_f, orBK_t, orBK_f, truV_p, truD_bl, truD_int, truD_tup, truD_lst, andK_t, andK_f, orK_t, orK_f, notK_b, ifFK_t, ifFK_f, ixV_pp, ixD_t, ixD_k, ixD_l, atI_0, atI_1, atI_2, atI_3, isV_int, isV_bl, isV_non, isV_str, isV_tup, isV_lst, isV_kup, slV_p, ev_noO, sooK_i, ev_seq, sqK_nx, sqK_rt, sqK_ex, sqK_bk, sqK_ct, ev_skip, ev_retN, ifK_t, ifK_f, asK_s, ev_nameG, ev_tupG, ev_tupGk, ev_consG, ev_nilG, parK_2, par3K_3, putK_p, pmK_s, thawK_l, ev_newT, ev_newK, mtK2_s, exit_p, exit_nx, exit_ex, rsK_1, ev_word, wdK_ok, wdK_exc, wdT_s, ev_heard, hdK_ok, hdK_exc, hdT_s, hdI_s, its_fii, its_fi, srV_1, srK_s, srcL, srcT, wkK_s, wkU_t, wkU_l, wkU_s, zpK_tt, zpK_ll, grd_nil, flK_s, le_nx, le_ct, le_bk, le_rt, le_ex, consK2_k, consK2_x, consK1_k, consK1_x, tupK_k, tupK_x, lstK_k, lstK_x, op2B_k, op2B_x, op2A_k, op2A_x, op1A_k, op1A_x, blA_k, blA_x, cmpK_k, cmpK_x, cmpA_k, cmpA_x, valK_k, valK_x, chC_k, chC_x, chB_k, chB_x, chA_k, chA_x, andBA_k, andBA_x, orBA_k, orBA_x, notBA_k, notBA_x, truA_k, truA_x, andA_k, andA_x, orA_k, orA_x, notA_k, notA_x, ifFA_k, ifFA_x, ixB_k, ixB_x, ixA_k, ixA_x, isA_k, isA_x, slC_k, slC_x, slB_k, slB_x, slA_k, slA_x, sooA_k, sooA_x, exprA_k, exprA_x, retA_k, retA_x, ifA_k, ifA_x, setA__k, setA__x, asgA_k, asgA_x, parA_k, parA_x, par3A_k, par3A_x, putC_k, putC_x, putB_k, putB_x, putA_k, putA_x, thawA_k, thawA_x, mtA_k, mtA_x, mtB_k, mtB_x, dispA_k, dispA_x, callA_k, callA_x, raiseA_k, raiseA_x, srA_k, srA_x, seqA_k, seqA_x, r1A_k, r1A_x, r2A_k, r2A_x, zpA_k, zpA_x, forA_k, forA_x, lcA_k, lcA_x, chK_t, mtK_t, ev_cons, ev_tup, ev_lst, ev_op2, ev_op1, ev_bl, ev_cmp, ev_val, ev_chain, ev_andB, ev_orB, ev_notB, ev_tru, ev_and, ev_or, ev_not, ev_ifF, ev_ix, ev_is, ev_sl, ev_someO, ev_expr, ev_ret, ev_if, ev_set, ev_asg, ev_par, ev_par3, ev_put, ev_thaw, ev_meth, ev_disp, ev_call, ev_raise, ev_sorted, ev_seqI, ev_rng1, ev_rng2, ev_zip, ev_for, ev_lc, lcC_k, lcS_k, lcT_t, lcT_f, lcB_k, ev_yes, entG, List.map_cons, List.map_nil, List.length_cons, List.length_nil, List.cons_append, List.nil_append, List.append_nil, List.set_cons_zero, List.set_cons_succ, List.replicate_zero, List.replicate_succ, Nat.reduceAdd, Nat.reduceSub, Option.map_some, Option.bind_some, Option.map_none, Option.bind_none, List.take_length, Bool.not_true, Bool.not_false, Nat.zero_add, Nat.sub_self, Nat.reduceMul, List.take_left, List.isEmpty_cons, List.isEmpty_nil, ↓reduceIte, Nat.reduceLT, ppD, mulD_l, ixD_t]
    rfl) (by simp; omega)
  have k2e : ps.map (fun p => ppD (lgP p)) = (ps.map lgP).map ppD := by rw [List.map_map]; rfl
  simp only [map_dF, List.nil_append, k2e] at k2
  have k3 := fun M => in_order_ok (M := M) hp6 (by omega)
  have k4 : revD (.tup ((ps.map lgP).map ppD)) = some (.tup (((ps.map lgP).reverse).map ppD)) := by
    show some (D.tup _) = _
    rw [List.map_reverse]
  have k5 := fun M => in_order_ok (M := M) (ps := (ps.map lgP).reverse) (fun x hx => by
    obtain ⟨p, h, rfl⟩ := List.mem_map.mp (List.mem_reverse.mp hx)
    exact lg_dr (hp p h)) (by simp; omega)
  rw [round_lg hp] at k5
  have k6 := fun M => in_order_ok (M := M) (ps := roundP ps) (fun a h => (dd a h).1) (by omega)
  rw [round_round hp6] at k6
  have k7 : mulD (.lst [.tup ((roundP ps).map ppD)]) (.int 3) = some (.lst [.tup ((roundP ps).map ppD), .tup ((roundP ps).map ppD), .tup ((roundP ps).map ppD)]) := by rfl
  obtain ⟨l, hl1, hs⟩ := shws_pp (L := roundP ps) fun p h => (dd p h).1
  have L1 := fun (M : Mem) => likeK (M := M) rfl (.lst (.cons (.tup hs) (.cons (.tup hs) (.cons (.tup hs) .nil)))) (by omega) (by omega)
  -- turned
  have k8 := fun M o0 o1 o2 o3 o4 o5 o6 o8 o9 o10 => lc_map (Γ := [o0, o1, o2, o3, o4, o5, o6, none, o8, o9, o10]) (M := M) (asg := nameG 7) (f := callF f_turned_left (consA (varF 7) nilA)) (q := dF fun p => ppD (turnP p)) (ds := (roundP ps).map ppD) (acc := []) (fun d hd => by
    obtain ⟨p, h, rfl⟩ := List.mem_map.mp hd
    have e := turned_ok (M := M) (dd p h).1
    exact ⟨_, rfl, by simp only [ev_var0, ev_vars, ev_c, ev_nil, pures_nil, pures_cons, opt_some, optB_some, optU_some, deref_p, op2V_pp, op1V_p, blV_1, blV_2, blV_3, dC_pp, chK_f, andBK_t, andBK_f, orBK_t, orBK_f, truV_p, truD_bl, truD_int, truD_tup, truD_lst, andK_t, andK_f, orK_t, orK_f, notK_b, ifFK_t, ifFK_f, ixV_pp, ixD_t, ixD_k, ixD_l, atI_0, atI_1, atI_2, atI_3, isV_int, isV_bl, isV_non, isV_str, isV_tup, isV_lst, isV_kup, slV_p, ev_noO, sooK_i, ev_seq, sqK_nx, sqK_rt, sqK_ex, sqK_bk, sqK_ct, ev_skip, ev_retN, ifK_t, ifK_f, asK_s, ev_nameG, ev_tupG, ev_tupGk, ev_consG, ev_nilG, parK_2, par3K_3, putK_p, pmK_s, thawK_l, ev_newT, ev_newK, mtK2_s, exit_p, exit_nx, exit_ex, rsK_1, ev_word, wdK_ok, wdK_exc, wdT_s, ev_heard, hdK_ok, hdK_exc, hdT_s, hdI_s, its_fii, its_fi, srV_1, srK_s, srcL, srcT, wkK_s, wkU_t, wkU_l, wkU_s, zpK_tt, zpK_ll, grd_nil, flK_s, le_nx, le_ct, le_bk, le_rt, le_ex, consK2_k, consK2_x, consK1_k, consK1_x, tupK_k, tupK_x, lstK_k, lstK_x, op2B_k, op2B_x, op2A_k, op2A_x, op1A_k, op1A_x, blA_k, blA_x, cmpK_k, cmpK_x, cmpA_k, cmpA_x, valK_k, valK_x, chC_k, chC_x, chB_k, chB_x, chA_k, chA_x, andBA_k, andBA_x, orBA_k, orBA_x, notBA_k, notBA_x, truA_k, truA_x, andA_k, andA_x, orA_k, orA_x, notA_k, notA_x, ifFA_k, ifFA_x, ixB_k, ixB_x, ixA_k, ixA_x, isA_k, isA_x, slC_k, slC_x, slB_k, slB_x, slA_k, slA_x, sooA_k, sooA_x, exprA_k, exprA_x, retA_k, retA_x, ifA_k, ifA_x, setA__k, setA__x, asgA_k, asgA_x, parA_k, parA_x, par3A_k, par3A_x, putC_k, putC_x, putB_k, putB_x, putA_k, putA_x, thawA_k, thawA_x, mtA_k, mtA_x, mtB_k, mtB_x, dispA_k, dispA_x, callA_k, callA_x, raiseA_k, raiseA_x, srA_k, srA_x, seqA_k, seqA_x, r1A_k, r1A_x, r2A_k, r2A_x, zpA_k, zpA_x, forA_k, forA_x, lcA_k, lcA_x, chK_t, mtK_t, ev_cons, ev_tup, ev_lst, ev_op2, ev_op1, ev_bl, ev_cmp, ev_val, ev_chain, ev_andB, ev_orB, ev_notB, ev_tru, ev_and, ev_or, ev_not, ev_ifF, ev_ix, ev_is, ev_sl, ev_someO, ev_expr, ev_ret, ev_if, ev_set, ev_asg, ev_par, ev_par3, ev_put, ev_thaw, ev_meth, ev_disp, ev_call, ev_raise, ev_sorted, ev_seqI, ev_rng1, ev_rng2, ev_zip, ev_for, ev_lc, lcC_k, lcS_k, lcT_t, lcT_f, lcB_k, ev_yes, entG, List.map_cons, List.map_nil, List.length_cons, List.length_nil, List.cons_append, List.nil_append, List.append_nil, List.set_cons_zero, List.set_cons_succ, List.replicate_zero, List.replicate_succ, Nat.reduceAdd, Nat.reduceSub, Option.map_some, Option.bind_some, Option.map_none, Option.bind_none, List.take_length, Bool.not_true, Bool.not_false, Nat.zero_add, Nat.sub_self, Nat.reduceMul, List.take_left, List.isEmpty_cons, List.isEmpty_nil, ↓reduceIte, Nat.reduceLT, e]; rfl⟩) (by simp; omega)
  have k9 := fun M o0 o1 o2 o3 o4 o5 o6 o8 o9 o10 => lc_map (Γ := [o0, o1, o2, o3, o4, o5, o6, none, o8, o9, o10]) (M := M) (asg := nameG 7) (f := tupF (consA (op1F negD (ixF (varF 7) (cF (.int 1)))) (consA (ixF (varF 7) (cF (.int 0))) nilA))) (q := dF fun p => ppD (turnP p)) (ds := (roundP ps).map ppD) (acc := []) (fun d hd => by
    obtain ⟨p, h, rfl⟩ := List.mem_map.mp hd
    refine ⟨_, rfl, ?_⟩
    simp -implicitDefEqProofs only [ev_var0, ev_vars, ev_c, ev_nil, pures_nil, pures_cons, opt_some, optB_some, optU_some, deref_p, op2V_pp, op1V_p, blV_1, blV_2, blV_3, dC_pp, chK_f, andBK_t, andBK_f, orBK_t, orBK_f, truV_p, truD_bl, truD_int, truD_tup, truD_lst, andK_t, andK_f, orK_t, orK_f, notK_b, ifFK_t, ifFK_f, ixV_pp, ixD_t, ixD_k, ixD_l, atI_0, atI_1, atI_2, atI_3, isV_int, isV_bl, isV_non, isV_str, isV_tup, isV_lst, isV_kup, slV_p, ev_noO, sooK_i, ev_seq, sqK_nx, sqK_rt, sqK_ex, sqK_bk, sqK_ct, ev_skip, ev_retN, ifK_t, ifK_f, asK_s, ev_nameG, ev_tupG, ev_tupGk, ev_consG, ev_nilG, parK_2, par3K_3, putK_p, pmK_s, thawK_l, ev_newT, ev_newK, mtK2_s, exit_p, exit_nx, exit_ex, rsK_1, ev_word, wdK_ok, wdK_exc, wdT_s, ev_heard, hdK_ok, hdK_exc, hdT_s, hdI_s, its_fii, its_fi, srV_1, srK_s, srcL, srcT, wkK_s, wkU_t, wkU_l, wkU_s, zpK_tt, zpK_ll, grd_nil, flK_s, le_nx, le_ct, le_bk, le_rt, le_ex, consK2_k, consK2_x, consK1_k, consK1_x, tupK_k, tupK_x, lstK_k, lstK_x, op2B_k, op2B_x, op2A_k, op2A_x, op1A_k, op1A_x, blA_k, blA_x, cmpK_k, cmpK_x, cmpA_k, cmpA_x, valK_k, valK_x, chC_k, chC_x, chB_k, chB_x, chA_k, chA_x, andBA_k, andBA_x, orBA_k, orBA_x, notBA_k, notBA_x, truA_k, truA_x, andA_k, andA_x, orA_k, orA_x, notA_k, notA_x, ifFA_k, ifFA_x, ixB_k, ixB_x, ixA_k, ixA_x, isA_k, isA_x, slC_k, slC_x, slB_k, slB_x, slA_k, slA_x, sooA_k, sooA_x, exprA_k, exprA_x, retA_k, retA_x, ifA_k, ifA_x, setA__k, setA__x, asgA_k, asgA_x, parA_k, parA_x, par3A_k, par3A_x, putC_k, putC_x, putB_k, putB_x, putA_k, putA_x, thawA_k, thawA_x, mtA_k, mtA_x, mtB_k, mtB_x, dispA_k, dispA_x, callA_k, callA_x, raiseA_k, raiseA_x, srA_k, srA_x, seqA_k, seqA_x, r1A_k, r1A_x, r2A_k, r2A_x, zpA_k, zpA_x, forA_k, forA_x, lcA_k, lcA_x, chK_t, mtK_t, ev_cons, ev_tup, ev_lst, ev_op2, ev_op1, ev_bl, ev_cmp, ev_val, ev_chain, ev_andB, ev_orB, ev_notB, ev_tru, ev_and, ev_or, ev_not, ev_ifF, ev_ix, ev_is, ev_sl, ev_someO, ev_expr, ev_ret, ev_if, ev_set, ev_asg, ev_par, ev_par3, ev_put, ev_thaw, ev_meth, ev_disp, ev_call, ev_raise, ev_sorted, ev_seqI, ev_rng1, ev_rng2, ev_zip, ev_for, ev_lc, lcC_k, lcS_k, lcT_t, lcT_f, lcB_k, ev_yes, entG, List.map_cons, List.map_nil, List.length_cons, List.length_nil, List.cons_append, List.nil_append, List.append_nil, List.set_cons_zero, List.set_cons_succ, List.replicate_zero, List.replicate_succ, Nat.reduceAdd, Nat.reduceSub, Option.map_some, Option.bind_some, Option.map_none, Option.bind_none, List.take_length, Bool.not_true, Bool.not_false, Nat.zero_add, Nat.sub_self, Nat.reduceMul, List.take_left, List.isEmpty_cons, List.isEmpty_nil, ↓reduceIte, Nat.reduceLT, ppD, negD_i, ixD_t]
    rfl) (by simp; omega)
  obtain ⟨T, hT⟩ : ∃ T, (roundP ps).map turnP = T := ⟨_, rfl⟩
  have k8e : (roundP ps).map (fun p => ppD (turnP p)) = T.map ppD := by rw [← hT, List.map_map]; rfl
  simp only [map_dF, List.nil_append, k8e] at k8 k9
  have dT : ∀ p ∈ T, Dr 1000000 p := fun p h => by
    rw [← hT] at h
    obtain ⟨a, h', rfl⟩ := List.mem_map.mp h
    exact turn_dr (dd a h').1
  obtain ⟨l2, hl2, hs2⟩ := shws_pp (L := T) dT
  have lenT : T.length = (roundP ps).length := by rw [← hT]; simp
  have L2' := fun (M : Mem) => likeK (M := M) rfl (.tup hs2) (by rw [lenT]; omega) (by omega)
  have k10 := fun M => in_order_ok (M := M) dT (by rw [lenT]; omega)
  obtain ⟨k, hk, hrot⟩ := turn_round (fun a h => (dd a h).2) rp1
  rw [hT] at hrot
  have lenF : (roundP T).length = T.length := by
    rw [hrot, List.length_append, List.length_drop, List.length_take]
    omega
  have k11 := fun M o0 o1 o2 o3 o5 o6 o7 o8 o10 => shapes_ok (M := M) (T := T) (o0 := o0) (o1 := o1) (o2 := o2) (o3 := o3) (o5 := o5) (o6 := o6) (o7 := o7) (o8 := o8) (o10 := o10) (by omega)
  have k12 := sortD_prs (roundP T) (by omega)
  have k13 := sortD_prs T (by omega)
  have nT : T.Nodup := by
    rw [← hT]
    exact List.Pairwise.map _ (fun a b hab e => hab (turn_inj e)) (asc_nodup rp1)
  have k14 : sortP (roundP T) = sortP T := by
    refine sortP_eq (asc_nodup (round_ok fun p h => (dT p h).nz).1) nT fun x => ?_
    rw [hrot, List.mem_append]
    conv => rhs; rw [← List.take_append_drop k T, List.mem_append]
    exact Or.comm
  have k15 := neD_refl (Lay.lst (lays_prs (sortP T))) (by decide)
  have k16 := ne_empty (L := roundP T)
  have k17 : ∀ M, roundP T ≠ [] → notinA M (.p (.tup ((roundP T).map ppD))) (.p (.lst ((upto 0 T.length).map (rotD T)))) = some false := fun M hne => by
    have hpos : 0 < T.length := by
      rw [← lenF]
      exact List.length_pos_iff.mpr hne
    have hm : D.tup ((roundP T).map ppD) ∈ (upto 0 T.length).map (rotD T) := by
      by_cases hk2 : k = T.length
      · refine List.mem_map.mpr ⟨.int 0, mem_upto (by omega) (by omega), ?_⟩
        show D.tup ((T.drop 0 ++ T.take 0).map ppD) = _
        rw [hrot, hk2]
        simp
      · refine List.mem_map.mpr ⟨.int k, mem_upto (by omega) (by omega), ?_⟩
        show D.tup ((T.drop (k : Int).toNat ++ T.take (k : Int).toNat).map ppD) = _
        rw [hrot, Int.toNat_natCast]
    have hy : Lays 2 ((upto 0 T.length).map (rotD T)) := Lays.all fun d hd => by
      obtain ⟨z, hz, rfl⟩ := List.mem_map.mp hd
      obtain ⟨i, rfl, _, _⟩ := upto_mem hz
      exact .tup (lays_prs _)
    have e := inD_true (c := .lst ((upto 0 T.length).map (rotD T))) (Lay.tup (lays_prs (roundP T))) (by decide) hy (by decide) rfl hm
    simp only [notinA, inA, deref_p, e]
    rfl
  have k18 := fun M (ds : List D) (hds : ds = ps.map ppD) (o2 o3 o4 o5 o6 o7 o8 o9 o10 : Option U) => for_inv (M := M) (s := (seqS (setS 8 (lstF (consA (callF f_least_direction (consA (varF 7) nilA)) (consA (callF f_need_direction (consA (varF 7) nilA)) (consA (callF f_turned_left (consA (callF f_turned_left (consA (varF 7) nilA)) nilA)) nilA)))))
  (ifS (notB (truB (callF f__law_like (consA (varF 8) (consA (lstF (consA (callF f__law_plainly (consA (varF 7) nilA)) (consA (varF 7) (consA (tupF (consA (op1F negD (ixF (varF 7) (cF (.int 0)))) (consA (op1F negD (ixF (varF 7) (cF (.int 1)))) nilA))) nilA)))) nilA))))) (retS (cF (.bl false))) skipS)))
    (asg := nameG 7) (fun Γ M' => M' = M ∧ ∃ o7 o8, Γ = [some (U.loc 1), some (.p (.tup (ps.map ppD))), o2, o3, o4, o5, o6, o7, o8, o9, o10]) (ds := ds) (Γ := [some (U.loc 1), some (.p (.tup (ps.map ppD))), o2, o3, o4, o5, o6, o7, o8, o9, o10]) ⟨rfl, o7, o8, rfl⟩ fun d hd Γ M1 ⟨hM, o7, o8, hΓ⟩ => by
      subst hM hΓ hds
      obtain ⟨p, h, rfl⟩ := List.mem_map.mp hd
      obtain ⟨o8', e⟩ := each_ok (M := M1) (p := p) (o0 := some (.loc 1)) (o1 := some (.p (.tup (ps.map ppD)))) (o2 := o2) (o3 := o3) (o4 := o4) (o5 := o5) (o6 := o6) (o8 := o8) (o9 := o9) (o10 := o10) (hp p h)
      exact ⟨_, _, _, rfl, e, rfl, _, _, rfl⟩
  have e5 : ∀ xs : List D, tupD [.lst xs] = some (.tup xs) := fun _ => rfl
  have hr2 : r < 4611686018427387904 := by omega
  have hT2 : ((T.length : Nat) : Int) < 4611686018427387904 := by omega
  have hT3 : (0 : Int) ≤ ((T.length : Nat) : Int) := by omega
  rw [f__law_right, ev_fn]
  simp -implicitDefEqProofs (disch := assumption) only [ev_var0, ev_vars, ev_c, ev_nil, pures_nil, pures_cons, opt_some, optB_some, optU_some, deref_p, op2V_pp, op1V_p, blV_1, blV_2, blV_3, dC_pp, chK_f, andBK_t, andBK_f, orBK_t, orBK_f, truV_p, truD_bl, truD_int, truD_tup, truD_lst, andK_t, andK_f, orK_t, orK_f, notK_b, ifFK_t, ifFK_f, ixV_pp, ixD_t, ixD_k, ixD_l, atI_0, atI_1, atI_2, atI_3, isV_int, isV_bl, isV_non, isV_str, isV_tup, isV_lst, isV_kup, slV_p, ev_noO, sooK_i, ev_seq, sqK_nx, sqK_rt, sqK_ex, sqK_bk, sqK_ct, ev_skip, ev_retN, ifK_t, ifK_f, asK_s, ev_nameG, ev_tupG, ev_tupGk, ev_consG, ev_nilG, parK_2, par3K_3, putK_p, pmK_s, thawK_l, ev_newT, ev_newK, mtK2_s, exit_p, exit_nx, exit_ex, rsK_1, ev_word, wdK_ok, wdK_exc, wdT_s, ev_heard, hdK_ok, hdK_exc, hdT_s, hdI_s, its_fii, its_fi, srV_1, srK_s, srcL, srcT, wkK_s, wkU_t, wkU_l, wkU_s, zpK_tt, zpK_ll, grd_nil, flK_s, le_nx, le_ct, le_bk, le_rt, le_ex, consK2_k, consK2_x, consK1_k, consK1_x, tupK_k, tupK_x, lstK_k, lstK_x, op2B_k, op2B_x, op2A_k, op2A_x, op1A_k, op1A_x, blA_k, blA_x, cmpK_k, cmpK_x, cmpA_k, cmpA_x, valK_k, valK_x, chC_k, chC_x, chB_k, chB_x, chA_k, chA_x, andBA_k, andBA_x, orBA_k, orBA_x, notBA_k, notBA_x, truA_k, truA_x, andA_k, andA_x, orA_k, orA_x, notA_k, notA_x, ifFA_k, ifFA_x, ixB_k, ixB_x, ixA_k, ixA_x, isA_k, isA_x, slC_k, slC_x, slB_k, slB_x, slA_k, slA_x, sooA_k, sooA_x, exprA_k, exprA_x, retA_k, retA_x, ifA_k, ifA_x, setA__k, setA__x, asgA_k, asgA_x, parA_k, parA_x, par3A_k, par3A_x, putC_k, putC_x, putB_k, putB_x, putA_k, putA_x, thawA_k, thawA_x, mtA_k, mtA_x, mtB_k, mtB_x, dispA_k, dispA_x, callA_k, callA_x, raiseA_k, raiseA_x, srA_k, srA_x, seqA_k, seqA_x, r1A_k, r1A_x, r2A_k, r2A_x, zpA_k, zpA_x, forA_k, forA_x, lcA_k, lcA_x, chK_t, mtK_t, ev_cons, ev_tup, ev_lst, ev_op2, ev_op1, ev_bl, ev_cmp, ev_val, ev_chain, ev_andB, ev_orB, ev_notB, ev_tru, ev_and, ev_or, ev_not, ev_ifF, ev_ix, ev_is, ev_sl, ev_someO, ev_expr, ev_ret, ev_if, ev_set, ev_asg, ev_par, ev_par3, ev_put, ev_thaw, ev_meth, ev_disp, ev_call, ev_raise, ev_sorted, ev_seqI, ev_rng1, ev_rng2, ev_zip, ev_for, ev_lc, lcC_k, lcS_k, lcT_t, lcT_f, lcB_k, ev_yes, entG, List.map_cons, List.map_nil, List.length_cons, List.length_nil, List.cons_append, List.nil_append, List.append_nil, List.set_cons_zero, List.set_cons_succ, List.replicate_zero, List.replicate_succ, Nat.reduceAdd, Nat.reduceSub, Option.map_some, Option.bind_some, Option.map_none, Option.bind_none, List.take_length, Bool.not_true, Bool.not_false, Nat.zero_add, Nat.sub_self, Nat.reduceMul, List.take_left, List.isEmpty_cons, List.isEmpty_nil, ↓reduceIte, Nat.reduceLT, b__law_right, e1, r1K_i, wipeG, e2, e5, k1, k2, k3, k4, k5, k6, k7]
  rw [L1]
  simp -implicitDefEqProofs (disch := assumption) only [ev_var0, ev_vars, ev_c, ev_nil, pures_nil, pures_cons, opt_some, optB_some, optU_some, deref_p, op2V_pp, op1V_p, blV_1, blV_2, blV_3, dC_pp, chK_f, andBK_t, andBK_f, orBK_t, orBK_f, truV_p, truD_bl, truD_int, truD_tup, truD_lst, andK_t, andK_f, orK_t, orK_f, notK_b, ifFK_t, ifFK_f, ixV_pp, ixD_t, ixD_k, ixD_l, atI_0, atI_1, atI_2, atI_3, isV_int, isV_bl, isV_non, isV_str, isV_tup, isV_lst, isV_kup, slV_p, ev_noO, sooK_i, ev_seq, sqK_nx, sqK_rt, sqK_ex, sqK_bk, sqK_ct, ev_skip, ev_retN, ifK_t, ifK_f, asK_s, ev_nameG, ev_tupG, ev_tupGk, ev_consG, ev_nilG, parK_2, par3K_3, putK_p, pmK_s, thawK_l, ev_newT, ev_newK, mtK2_s, exit_p, exit_nx, exit_ex, rsK_1, ev_word, wdK_ok, wdK_exc, wdT_s, ev_heard, hdK_ok, hdK_exc, hdT_s, hdI_s, its_fii, its_fi, srV_1, srK_s, srcL, srcT, wkK_s, wkU_t, wkU_l, wkU_s, zpK_tt, zpK_ll, grd_nil, flK_s, le_nx, le_ct, le_bk, le_rt, le_ex, consK2_k, consK2_x, consK1_k, consK1_x, tupK_k, tupK_x, lstK_k, lstK_x, op2B_k, op2B_x, op2A_k, op2A_x, op1A_k, op1A_x, blA_k, blA_x, cmpK_k, cmpK_x, cmpA_k, cmpA_x, valK_k, valK_x, chC_k, chC_x, chB_k, chB_x, chA_k, chA_x, andBA_k, andBA_x, orBA_k, orBA_x, notBA_k, notBA_x, truA_k, truA_x, andA_k, andA_x, orA_k, orA_x, notA_k, notA_x, ifFA_k, ifFA_x, ixB_k, ixB_x, ixA_k, ixA_x, isA_k, isA_x, slC_k, slC_x, slB_k, slB_x, slA_k, slA_x, sooA_k, sooA_x, exprA_k, exprA_x, retA_k, retA_x, ifA_k, ifA_x, setA__k, setA__x, asgA_k, asgA_x, parA_k, parA_x, par3A_k, par3A_x, putC_k, putC_x, putB_k, putB_x, putA_k, putA_x, thawA_k, thawA_x, mtA_k, mtA_x, mtB_k, mtB_x, dispA_k, dispA_x, callA_k, callA_x, raiseA_k, raiseA_x, srA_k, srA_x, seqA_k, seqA_x, r1A_k, r1A_x, r2A_k, r2A_x, zpA_k, zpA_x, forA_k, forA_x, lcA_k, lcA_x, chK_t, mtK_t, ev_cons, ev_tup, ev_lst, ev_op2, ev_op1, ev_bl, ev_cmp, ev_val, ev_chain, ev_andB, ev_orB, ev_notB, ev_tru, ev_and, ev_or, ev_not, ev_ifF, ev_ix, ev_is, ev_sl, ev_someO, ev_expr, ev_ret, ev_if, ev_set, ev_asg, ev_par, ev_par3, ev_put, ev_thaw, ev_meth, ev_disp, ev_call, ev_raise, ev_sorted, ev_seqI, ev_rng1, ev_rng2, ev_zip, ev_for, ev_lc, lcC_k, lcS_k, lcT_t, lcT_f, lcB_k, ev_yes, entG, List.map_cons, List.map_nil, List.length_cons, List.length_nil, List.cons_append, List.nil_append, List.append_nil, List.set_cons_zero, List.set_cons_succ, List.replicate_zero, List.replicate_succ, Nat.reduceAdd, Nat.reduceSub, Option.map_some, Option.bind_some, Option.map_none, Option.bind_none, List.take_length, Bool.not_true, Bool.not_false, Nat.zero_add, Nat.sub_self, Nat.reduceMul, List.take_left, List.isEmpty_cons, List.isEmpty_nil, ↓reduceIte, Nat.reduceLT, wipeG, k8, k9, e5]
  rw [L2']
  simp -implicitDefEqProofs (disch := assumption) only [ev_var0, ev_vars, ev_c, ev_nil, pures_nil, pures_cons, opt_some, optB_some, optU_some, deref_p, op2V_pp, op1V_p, blV_1, blV_2, blV_3, dC_pp, chK_f, andBK_t, andBK_f, orBK_t, orBK_f, truV_p, truD_bl, truD_int, truD_tup, truD_lst, andK_t, andK_f, orK_t, orK_f, notK_b, ifFK_t, ifFK_f, ixV_pp, ixD_t, ixD_k, ixD_l, atI_0, atI_1, atI_2, atI_3, isV_int, isV_bl, isV_non, isV_str, isV_tup, isV_lst, isV_kup, slV_p, ev_noO, sooK_i, ev_seq, sqK_nx, sqK_rt, sqK_ex, sqK_bk, sqK_ct, ev_skip, ev_retN, ifK_t, ifK_f, asK_s, ev_nameG, ev_tupG, ev_tupGk, ev_consG, ev_nilG, parK_2, par3K_3, putK_p, pmK_s, thawK_l, ev_newT, ev_newK, mtK2_s, exit_p, exit_nx, exit_ex, rsK_1, ev_word, wdK_ok, wdK_exc, wdT_s, ev_heard, hdK_ok, hdK_exc, hdT_s, hdI_s, its_fii, its_fi, srV_1, srK_s, srcL, srcT, wkK_s, wkU_t, wkU_l, wkU_s, zpK_tt, zpK_ll, grd_nil, flK_s, le_nx, le_ct, le_bk, le_rt, le_ex, consK2_k, consK2_x, consK1_k, consK1_x, tupK_k, tupK_x, lstK_k, lstK_x, op2B_k, op2B_x, op2A_k, op2A_x, op1A_k, op1A_x, blA_k, blA_x, cmpK_k, cmpK_x, cmpA_k, cmpA_x, valK_k, valK_x, chC_k, chC_x, chB_k, chB_x, chA_k, chA_x, andBA_k, andBA_x, orBA_k, orBA_x, notBA_k, notBA_x, truA_k, truA_x, andA_k, andA_x, orA_k, orA_x, notA_k, notA_x, ifFA_k, ifFA_x, ixB_k, ixB_x, ixA_k, ixA_x, isA_k, isA_x, slC_k, slC_x, slB_k, slB_x, slA_k, slA_x, sooA_k, sooA_x, exprA_k, exprA_x, retA_k, retA_x, ifA_k, ifA_x, setA__k, setA__x, asgA_k, asgA_x, parA_k, parA_x, par3A_k, par3A_x, putC_k, putC_x, putB_k, putB_x, putA_k, putA_x, thawA_k, thawA_x, mtA_k, mtA_x, mtB_k, mtB_x, dispA_k, dispA_x, callA_k, callA_x, raiseA_k, raiseA_x, srA_k, srA_x, seqA_k, seqA_x, r1A_k, r1A_x, r2A_k, r2A_x, zpA_k, zpA_x, forA_k, forA_x, lcA_k, lcA_x, chK_t, mtK_t, ev_cons, ev_tup, ev_lst, ev_op2, ev_op1, ev_bl, ev_cmp, ev_val, ev_chain, ev_andB, ev_orB, ev_notB, ev_tru, ev_and, ev_or, ev_not, ev_ifF, ev_ix, ev_is, ev_sl, ev_someO, ev_expr, ev_ret, ev_if, ev_set, ev_asg, ev_par, ev_par3, ev_put, ev_thaw, ev_meth, ev_disp, ev_call, ev_raise, ev_sorted, ev_seqI, ev_rng1, ev_rng2, ev_zip, ev_for, ev_lc, lcC_k, lcS_k, lcT_t, lcT_f, lcB_k, ev_yes, entG, List.map_cons, List.map_nil, List.length_cons, List.length_nil, List.cons_append, List.nil_append, List.append_nil, List.set_cons_zero, List.set_cons_succ, List.replicate_zero, List.replicate_succ, Nat.reduceAdd, Nat.reduceSub, Option.map_some, Option.bind_some, Option.map_none, Option.bind_none, List.take_length, Bool.not_true, Bool.not_false, Nat.zero_add, Nat.sub_self, Nat.reduceMul, List.take_left, List.isEmpty_cons, List.isEmpty_nil, ↓reduceIte, Nat.reduceLT, wipeG]
  rw [k10]
  simp -implicitDefEqProofs (disch := assumption) only [ev_var0, ev_vars, ev_c, ev_nil, pures_nil, pures_cons, opt_some, optB_some, optU_some, deref_p, op2V_pp, op1V_p, blV_1, blV_2, blV_3, dC_pp, chK_f, andBK_t, andBK_f, orBK_t, orBK_f, truV_p, truD_bl, truD_int, truD_tup, truD_lst, andK_t, andK_f, orK_t, orK_f, notK_b, ifFK_t, ifFK_f, ixV_pp, ixD_t, ixD_k, ixD_l, atI_0, atI_1, atI_2, atI_3, isV_int, isV_bl, isV_non, isV_str, isV_tup, isV_lst, isV_kup, slV_p, ev_noO, sooK_i, ev_seq, sqK_nx, sqK_rt, sqK_ex, sqK_bk, sqK_ct, ev_skip, ev_retN, ifK_t, ifK_f, asK_s, ev_nameG, ev_tupG, ev_tupGk, ev_consG, ev_nilG, parK_2, par3K_3, putK_p, pmK_s, thawK_l, ev_newT, ev_newK, mtK2_s, exit_p, exit_nx, exit_ex, rsK_1, ev_word, wdK_ok, wdK_exc, wdT_s, ev_heard, hdK_ok, hdK_exc, hdT_s, hdI_s, its_fii, its_fi, srV_1, srK_s, srcL, srcT, wkK_s, wkU_t, wkU_l, wkU_s, zpK_tt, zpK_ll, grd_nil, flK_s, le_nx, le_ct, le_bk, le_rt, le_ex, consK2_k, consK2_x, consK1_k, consK1_x, tupK_k, tupK_x, lstK_k, lstK_x, op2B_k, op2B_x, op2A_k, op2A_x, op1A_k, op1A_x, blA_k, blA_x, cmpK_k, cmpK_x, cmpA_k, cmpA_x, valK_k, valK_x, chC_k, chC_x, chB_k, chB_x, chA_k, chA_x, andBA_k, andBA_x, orBA_k, orBA_x, notBA_k, notBA_x, truA_k, truA_x, andA_k, andA_x, orA_k, orA_x, notA_k, notA_x, ifFA_k, ifFA_x, ixB_k, ixB_x, ixA_k, ixA_x, isA_k, isA_x, slC_k, slC_x, slB_k, slB_x, slA_k, slA_x, sooA_k, sooA_x, exprA_k, exprA_x, retA_k, retA_x, ifA_k, ifA_x, setA__k, setA__x, asgA_k, asgA_x, parA_k, parA_x, par3A_k, par3A_x, putC_k, putC_x, putB_k, putB_x, putA_k, putA_x, thawA_k, thawA_x, mtA_k, mtA_x, mtB_k, mtB_x, dispA_k, dispA_x, callA_k, callA_x, raiseA_k, raiseA_x, srA_k, srA_x, seqA_k, seqA_x, r1A_k, r1A_x, r2A_k, r2A_x, zpA_k, zpA_x, forA_k, forA_x, lcA_k, lcA_x, chK_t, mtK_t, ev_cons, ev_tup, ev_lst, ev_op2, ev_op1, ev_bl, ev_cmp, ev_val, ev_chain, ev_andB, ev_orB, ev_notB, ev_tru, ev_and, ev_or, ev_not, ev_ifF, ev_ix, ev_is, ev_sl, ev_someO, ev_expr, ev_ret, ev_if, ev_set, ev_asg, ev_par, ev_par3, ev_put, ev_thaw, ev_meth, ev_disp, ev_call, ev_raise, ev_sorted, ev_seqI, ev_rng1, ev_rng2, ev_zip, ev_for, ev_lc, lcC_k, lcS_k, lcT_t, lcT_f, lcB_k, ev_yes, entG, List.map_cons, List.map_nil, List.length_cons, List.length_nil, List.cons_append, List.nil_append, List.append_nil, List.set_cons_zero, List.set_cons_succ, List.replicate_zero, List.replicate_succ, Nat.reduceAdd, Nat.reduceSub, Option.map_some, Option.bind_some, Option.map_none, Option.bind_none, List.take_length, Bool.not_true, Bool.not_false, Nat.zero_add, Nat.sub_self, Nat.reduceMul, List.take_left, List.isEmpty_cons, List.isEmpty_nil, ↓reduceIte, Nat.reduceLT, wipeG, e5, lenD_t, List.length_map, lenF, r1K_i, Int.toNat_natCast, k11, srcT, k12, k13, k14, k15, k16]
  by_cases hne : roundP T = []
  · simp -implicitDefEqProofs only [hne, ev_var0, ev_vars, ev_c, ev_nil, pures_nil, pures_cons, opt_some, optB_some, optU_some, deref_p, op2V_pp, op1V_p, blV_1, blV_2, blV_3, dC_pp, chK_f, andBK_t, andBK_f, orBK_t, orBK_f, truV_p, truD_bl, truD_int, truD_tup, truD_lst, andK_t, andK_f, orK_t, orK_f, notK_b, ifFK_t, ifFK_f, ixV_pp, ixD_t, ixD_k, ixD_l, atI_0, atI_1, atI_2, atI_3, isV_int, isV_bl, isV_non, isV_str, isV_tup, isV_lst, isV_kup, slV_p, ev_noO, sooK_i, ev_seq, sqK_nx, sqK_rt, sqK_ex, sqK_bk, sqK_ct, ev_skip, ev_retN, ifK_t, ifK_f, asK_s, ev_nameG, ev_tupG, ev_tupGk, ev_consG, ev_nilG, parK_2, par3K_3, putK_p, pmK_s, thawK_l, ev_newT, ev_newK, mtK2_s, exit_p, exit_nx, exit_ex, rsK_1, ev_word, wdK_ok, wdK_exc, wdT_s, ev_heard, hdK_ok, hdK_exc, hdT_s, hdI_s, its_fii, its_fi, srV_1, srK_s, srcL, srcT, wkK_s, wkU_t, wkU_l, wkU_s, zpK_tt, zpK_ll, grd_nil, flK_s, le_nx, le_ct, le_bk, le_rt, le_ex, consK2_k, consK2_x, consK1_k, consK1_x, tupK_k, tupK_x, lstK_k, lstK_x, op2B_k, op2B_x, op2A_k, op2A_x, op1A_k, op1A_x, blA_k, blA_x, cmpK_k, cmpK_x, cmpA_k, cmpA_x, valK_k, valK_x, chC_k, chC_x, chB_k, chB_x, chA_k, chA_x, andBA_k, andBA_x, orBA_k, orBA_x, notBA_k, notBA_x, truA_k, truA_x, andA_k, andA_x, orA_k, orA_x, notA_k, notA_x, ifFA_k, ifFA_x, ixB_k, ixB_x, ixA_k, ixA_x, isA_k, isA_x, slC_k, slC_x, slB_k, slB_x, slA_k, slA_x, sooA_k, sooA_x, exprA_k, exprA_x, retA_k, retA_x, ifA_k, ifA_x, setA__k, setA__x, asgA_k, asgA_x, parA_k, parA_x, par3A_k, par3A_x, putC_k, putC_x, putB_k, putB_x, putA_k, putA_x, thawA_k, thawA_x, mtA_k, mtA_x, mtB_k, mtB_x, dispA_k, dispA_x, callA_k, callA_x, raiseA_k, raiseA_x, srA_k, srA_x, seqA_k, seqA_x, r1A_k, r1A_x, r2A_k, r2A_x, zpA_k, zpA_x, forA_k, forA_x, lcA_k, lcA_x, chK_t, mtK_t, ev_cons, ev_tup, ev_lst, ev_op2, ev_op1, ev_bl, ev_cmp, ev_val, ev_chain, ev_andB, ev_orB, ev_notB, ev_tru, ev_and, ev_or, ev_not, ev_ifF, ev_ix, ev_is, ev_sl, ev_someO, ev_expr, ev_ret, ev_if, ev_set, ev_asg, ev_par, ev_par3, ev_put, ev_thaw, ev_meth, ev_disp, ev_call, ev_raise, ev_sorted, ev_seqI, ev_rng1, ev_rng2, ev_zip, ev_for, ev_lc, lcC_k, lcS_k, lcT_t, lcT_f, lcB_k, ev_yes, entG, List.map_cons, List.map_nil, List.length_cons, List.length_nil, List.cons_append, List.nil_append, List.append_nil, List.set_cons_zero, List.set_cons_succ, List.replicate_zero, List.replicate_succ, Nat.reduceAdd, Nat.reduceSub, Option.map_some, Option.bind_some, Option.map_none, Option.bind_none, List.take_length, Bool.not_true, Bool.not_false, Nat.zero_add, Nat.sub_self, Nat.reduceMul, List.take_left, List.isEmpty_cons, List.isEmpty_nil, ↓reduceIte, Nat.reduceLT]
    obtain ⟨Γ1, M1, k19, hM1, o7, o8, rfl⟩ := k18 (St cs ls2 at2 []) (ps.map ppD) rfl (some (.p (.tup ((roundP ps).map ppD)))) (some (.p (.tup ((ps.map lgP).map ppD)))) (some (.p (.tup (T.map ppD)))) (some (.p (.tup []))) (some (.p (.lst ((upto 0 T.length).map (rotD T))))) none none none none
    subst hM1
    rw [k19]
    simp -implicitDefEqProofs only [ev_var0, ev_vars, ev_c, ev_nil, pures_nil, pures_cons, opt_some, optB_some, optU_some, deref_p, op2V_pp, op1V_p, blV_1, blV_2, blV_3, dC_pp, chK_f, andBK_t, andBK_f, orBK_t, orBK_f, truV_p, truD_bl, truD_int, truD_tup, truD_lst, andK_t, andK_f, orK_t, orK_f, notK_b, ifFK_t, ifFK_f, ixV_pp, ixD_t, ixD_k, ixD_l, atI_0, atI_1, atI_2, atI_3, isV_int, isV_bl, isV_non, isV_str, isV_tup, isV_lst, isV_kup, slV_p, ev_noO, sooK_i, ev_seq, sqK_nx, sqK_rt, sqK_ex, sqK_bk, sqK_ct, ev_skip, ev_retN, ifK_t, ifK_f, asK_s, ev_nameG, ev_tupG, ev_tupGk, ev_consG, ev_nilG, parK_2, par3K_3, putK_p, pmK_s, thawK_l, ev_newT, ev_newK, mtK2_s, exit_p, exit_nx, exit_ex, rsK_1, ev_word, wdK_ok, wdK_exc, wdT_s, ev_heard, hdK_ok, hdK_exc, hdT_s, hdI_s, its_fii, its_fi, srV_1, srK_s, srcL, srcT, wkK_s, wkU_t, wkU_l, wkU_s, zpK_tt, zpK_ll, grd_nil, flK_s, le_nx, le_ct, le_bk, le_rt, le_ex, consK2_k, consK2_x, consK1_k, consK1_x, tupK_k, tupK_x, lstK_k, lstK_x, op2B_k, op2B_x, op2A_k, op2A_x, op1A_k, op1A_x, blA_k, blA_x, cmpK_k, cmpK_x, cmpA_k, cmpA_x, valK_k, valK_x, chC_k, chC_x, chB_k, chB_x, chA_k, chA_x, andBA_k, andBA_x, orBA_k, orBA_x, notBA_k, notBA_x, truA_k, truA_x, andA_k, andA_x, orA_k, orA_x, notA_k, notA_x, ifFA_k, ifFA_x, ixB_k, ixB_x, ixA_k, ixA_x, isA_k, isA_x, slC_k, slC_x, slB_k, slB_x, slA_k, slA_x, sooA_k, sooA_x, exprA_k, exprA_x, retA_k, retA_x, ifA_k, ifA_x, setA__k, setA__x, asgA_k, asgA_x, parA_k, parA_x, par3A_k, par3A_x, putC_k, putC_x, putB_k, putB_x, putA_k, putA_x, thawA_k, thawA_x, mtA_k, mtA_x, mtB_k, mtB_x, dispA_k, dispA_x, callA_k, callA_x, raiseA_k, raiseA_x, srA_k, srA_x, seqA_k, seqA_x, r1A_k, r1A_x, r2A_k, r2A_x, zpA_k, zpA_x, forA_k, forA_x, lcA_k, lcA_x, chK_t, mtK_t, ev_cons, ev_tup, ev_lst, ev_op2, ev_op1, ev_bl, ev_cmp, ev_val, ev_chain, ev_andB, ev_orB, ev_notB, ev_tru, ev_and, ev_or, ev_not, ev_ifF, ev_ix, ev_is, ev_sl, ev_someO, ev_expr, ev_ret, ev_if, ev_set, ev_asg, ev_par, ev_par3, ev_put, ev_thaw, ev_meth, ev_disp, ev_call, ev_raise, ev_sorted, ev_seqI, ev_rng1, ev_rng2, ev_zip, ev_for, ev_lc, lcC_k, lcS_k, lcT_t, lcT_f, lcB_k, ev_yes, entG, List.map_cons, List.map_nil, List.length_cons, List.length_nil, List.cons_append, List.nil_append, List.append_nil, List.set_cons_zero, List.set_cons_succ, List.replicate_zero, List.replicate_succ, Nat.reduceAdd, Nat.reduceSub, Option.map_some, Option.bind_some, Option.map_none, Option.bind_none, List.take_length, Bool.not_true, Bool.not_false, Nat.zero_add, Nat.sub_self, Nat.reduceMul, List.take_left, List.isEmpty_cons, List.isEmpty_nil, ↓reduceIte, Nat.reduceLT, St_len, St_take, List.take_nil]
  · have hne2 : (roundP T).isEmpty = false := by simpa using hne
    simp -implicitDefEqProofs only [hne2, ev_var0, ev_vars, ev_c, ev_nil, pures_nil, pures_cons, opt_some, optB_some, optU_some, deref_p, op2V_pp, op1V_p, blV_1, blV_2, blV_3, dC_pp, chK_f, andBK_t, andBK_f, orBK_t, orBK_f, truV_p, truD_bl, truD_int, truD_tup, truD_lst, andK_t, andK_f, orK_t, orK_f, notK_b, ifFK_t, ifFK_f, ixV_pp, ixD_t, ixD_k, ixD_l, atI_0, atI_1, atI_2, atI_3, isV_int, isV_bl, isV_non, isV_str, isV_tup, isV_lst, isV_kup, slV_p, ev_noO, sooK_i, ev_seq, sqK_nx, sqK_rt, sqK_ex, sqK_bk, sqK_ct, ev_skip, ev_retN, ifK_t, ifK_f, asK_s, ev_nameG, ev_tupG, ev_tupGk, ev_consG, ev_nilG, parK_2, par3K_3, putK_p, pmK_s, thawK_l, ev_newT, ev_newK, mtK2_s, exit_p, exit_nx, exit_ex, rsK_1, ev_word, wdK_ok, wdK_exc, wdT_s, ev_heard, hdK_ok, hdK_exc, hdT_s, hdI_s, its_fii, its_fi, srV_1, srK_s, srcL, srcT, wkK_s, wkU_t, wkU_l, wkU_s, zpK_tt, zpK_ll, grd_nil, flK_s, le_nx, le_ct, le_bk, le_rt, le_ex, consK2_k, consK2_x, consK1_k, consK1_x, tupK_k, tupK_x, lstK_k, lstK_x, op2B_k, op2B_x, op2A_k, op2A_x, op1A_k, op1A_x, blA_k, blA_x, cmpK_k, cmpK_x, cmpA_k, cmpA_x, valK_k, valK_x, chC_k, chC_x, chB_k, chB_x, chA_k, chA_x, andBA_k, andBA_x, orBA_k, orBA_x, notBA_k, notBA_x, truA_k, truA_x, andA_k, andA_x, orA_k, orA_x, notA_k, notA_x, ifFA_k, ifFA_x, ixB_k, ixB_x, ixA_k, ixA_x, isA_k, isA_x, slC_k, slC_x, slB_k, slB_x, slA_k, slA_x, sooA_k, sooA_x, exprA_k, exprA_x, retA_k, retA_x, ifA_k, ifA_x, setA__k, setA__x, asgA_k, asgA_x, parA_k, parA_x, par3A_k, par3A_x, putC_k, putC_x, putB_k, putB_x, putA_k, putA_x, thawA_k, thawA_x, mtA_k, mtA_x, mtB_k, mtB_x, dispA_k, dispA_x, callA_k, callA_x, raiseA_k, raiseA_x, srA_k, srA_x, seqA_k, seqA_x, r1A_k, r1A_x, r2A_k, r2A_x, zpA_k, zpA_x, forA_k, forA_x, lcA_k, lcA_x, chK_t, mtK_t, ev_cons, ev_tup, ev_lst, ev_op2, ev_op1, ev_bl, ev_cmp, ev_val, ev_chain, ev_andB, ev_orB, ev_notB, ev_tru, ev_and, ev_or, ev_not, ev_ifF, ev_ix, ev_is, ev_sl, ev_someO, ev_expr, ev_ret, ev_if, ev_set, ev_asg, ev_par, ev_par3, ev_put, ev_thaw, ev_meth, ev_disp, ev_call, ev_raise, ev_sorted, ev_seqI, ev_rng1, ev_rng2, ev_zip, ev_for, ev_lc, lcC_k, lcS_k, lcT_t, lcT_f, lcB_k, ev_yes, entG, List.map_cons, List.map_nil, List.length_cons, List.length_nil, List.cons_append, List.nil_append, List.append_nil, List.set_cons_zero, List.set_cons_succ, List.replicate_zero, List.replicate_succ, Nat.reduceAdd, Nat.reduceSub, Option.map_some, Option.bind_some, Option.map_none, Option.bind_none, List.take_length, Bool.not_true, Bool.not_false, Nat.zero_add, Nat.sub_self, Nat.reduceMul, List.take_left, List.isEmpty_cons, List.isEmpty_nil, ↓reduceIte, Nat.reduceLT, k17 _ hne]
    obtain ⟨Γ1, M1, k19, hM1, o7, o8, rfl⟩ := k18 (St cs ls2 at2 []) (ps.map ppD) rfl (some (.p (.tup ((roundP ps).map ppD)))) (some (.p (.tup ((ps.map lgP).map ppD)))) (some (.p (.tup (T.map ppD)))) (some (.p (.tup ((roundP T).map ppD)))) (some (.p (.lst ((upto 0 T.length).map (rotD T))))) none none none none
    subst hM1
    rw [k19]
    simp -implicitDefEqProofs only [ev_var0, ev_vars, ev_c, ev_nil, pures_nil, pures_cons, opt_some, optB_some, optU_some, deref_p, op2V_pp, op1V_p, blV_1, blV_2, blV_3, dC_pp, chK_f, andBK_t, andBK_f, orBK_t, orBK_f, truV_p, truD_bl, truD_int, truD_tup, truD_lst, andK_t, andK_f, orK_t, orK_f, notK_b, ifFK_t, ifFK_f, ixV_pp, ixD_t, ixD_k, ixD_l, atI_0, atI_1, atI_2, atI_3, isV_int, isV_bl, isV_non, isV_str, isV_tup, isV_lst, isV_kup, slV_p, ev_noO, sooK_i, ev_seq, sqK_nx, sqK_rt, sqK_ex, sqK_bk, sqK_ct, ev_skip, ev_retN, ifK_t, ifK_f, asK_s, ev_nameG, ev_tupG, ev_tupGk, ev_consG, ev_nilG, parK_2, par3K_3, putK_p, pmK_s, thawK_l, ev_newT, ev_newK, mtK2_s, exit_p, exit_nx, exit_ex, rsK_1, ev_word, wdK_ok, wdK_exc, wdT_s, ev_heard, hdK_ok, hdK_exc, hdT_s, hdI_s, its_fii, its_fi, srV_1, srK_s, srcL, srcT, wkK_s, wkU_t, wkU_l, wkU_s, zpK_tt, zpK_ll, grd_nil, flK_s, le_nx, le_ct, le_bk, le_rt, le_ex, consK2_k, consK2_x, consK1_k, consK1_x, tupK_k, tupK_x, lstK_k, lstK_x, op2B_k, op2B_x, op2A_k, op2A_x, op1A_k, op1A_x, blA_k, blA_x, cmpK_k, cmpK_x, cmpA_k, cmpA_x, valK_k, valK_x, chC_k, chC_x, chB_k, chB_x, chA_k, chA_x, andBA_k, andBA_x, orBA_k, orBA_x, notBA_k, notBA_x, truA_k, truA_x, andA_k, andA_x, orA_k, orA_x, notA_k, notA_x, ifFA_k, ifFA_x, ixB_k, ixB_x, ixA_k, ixA_x, isA_k, isA_x, slC_k, slC_x, slB_k, slB_x, slA_k, slA_x, sooA_k, sooA_x, exprA_k, exprA_x, retA_k, retA_x, ifA_k, ifA_x, setA__k, setA__x, asgA_k, asgA_x, parA_k, parA_x, par3A_k, par3A_x, putC_k, putC_x, putB_k, putB_x, putA_k, putA_x, thawA_k, thawA_x, mtA_k, mtA_x, mtB_k, mtB_x, dispA_k, dispA_x, callA_k, callA_x, raiseA_k, raiseA_x, srA_k, srA_x, seqA_k, seqA_x, r1A_k, r1A_x, r2A_k, r2A_x, zpA_k, zpA_x, forA_k, forA_x, lcA_k, lcA_x, chK_t, mtK_t, ev_cons, ev_tup, ev_lst, ev_op2, ev_op1, ev_bl, ev_cmp, ev_val, ev_chain, ev_andB, ev_orB, ev_notB, ev_tru, ev_and, ev_or, ev_not, ev_ifF, ev_ix, ev_is, ev_sl, ev_someO, ev_expr, ev_ret, ev_if, ev_set, ev_asg, ev_par, ev_par3, ev_put, ev_thaw, ev_meth, ev_disp, ev_call, ev_raise, ev_sorted, ev_seqI, ev_rng1, ev_rng2, ev_zip, ev_for, ev_lc, lcC_k, lcS_k, lcT_t, lcT_f, lcB_k, ev_yes, entG, List.map_cons, List.map_nil, List.length_cons, List.length_nil, List.cons_append, List.nil_append, List.append_nil, List.set_cons_zero, List.set_cons_succ, List.replicate_zero, List.replicate_succ, Nat.reduceAdd, Nat.reduceSub, Option.map_some, Option.bind_some, Option.map_none, Option.bind_none, List.take_length, Bool.not_true, Bool.not_false, Nat.zero_add, Nat.sub_self, Nat.reduceMul, List.take_left, List.isEmpty_cons, List.isEmpty_nil, ↓reduceIte, Nat.reduceLT, St_len, St_take, List.take_nil]
end
end K_whole
namespace K_whole
open PySem PySem.Spec PyProof.Rows L2 Mp
section
variable {cs ls : List Int} {at_ : Int} {n : Nat} {M : Mem}
theorem bh_a (t : Fs) : (seqS (setS 0 (op2F powD (cF (.int 10)) (cF (.int 6)))) (seqS (setS 1 (thawF (lstF (consA (callF f_in_order (consA (tupF (consA (tupF (consA (cF (.int 0)) (consA (op1F negD (cF (.int 2))) nilA))) (consA (tupF (consA (cF (.int 3)) (consA (cF (.int 0)) nilA))) (consA (tupF (consA (op1F negD (cF (.int 1))) (consA (cF (.int 1)) nilA))) (consA (tupF (consA (cF (.int 1)) (consA (cF (.int 0)) nilA))) (consA (tupF (consA (cF (.int 1)) (consA (cF (.int 1)) nilA))) nilA)))))) nilA)) (consA (callF f_least_direction (consA (tupF (consA (varF 0) (consA (op1F negD (varF 0)) nilA))) nilA)) nilA))))) (seqS (setS 1 (op2F addD (varF 1) (lstF (consA (callF f_turned_left (consA (tupF (consA (cF (.int 1)) (consA (cF (.int 2)) nilA))) nilA)) (consA (callF f_dot (consA (tupF (consA (cF (.int 2)) (consA (cF (.int 3)) nilA))) (consA (tupF (consA (cF (.int 5)) (consA (cF (.int 7)) nilA))) nilA))) (consA (callF f_in_order (consA (tupF nilA) nilA)) nilA)))))) t))) [none, none, none, none, none, none] (St cs ls at_ []) = t [some (.p (.int 1000000)), some (.p (.lst [.tup [.tup [.int 1, .int 0], .tup [.int 1, .int 1], .tup [.int (-1), .int 1], .tup [.int 0, .int (-1)]], .tup [.int 1, .int (-1)], .tup [.int (-2), .int 1], .int 31, .tup []])), none, none, none, none] (St cs ls at_ [.lst [.tup [.tup [.int 1, .int 0], .tup [.int 1, .int 1], .tup [.int (-1), .int 1], .tup [.int 0, .int (-1)]], .tup [.int 1, .int (-1)]]]) := by kernel_rfl
def dirs60 : List (Int × Int) := (List.range 60).map fun (k : Nat) => (1, (k : Int))
def trs60 : List D := dirs60.map ppD
theorem dr60 : ∀ p ∈ dirs60, Dr 1000000 p := fun p h => by
  obtain ⟨k, hk, rfl⟩ := List.mem_map.mp h
  have := List.mem_range.mp hk
  exact ⟨by show -1000000 ≤ (1 : Int); decide, by show (1 : Int) ≤ 1000000; decide, by show -1000000 ≤ (k : Int); omega, by show (k : Int) ≤ 1000000; omega, fun z => by have : (1 : Int) = 0 := z.1; omega⟩
theorem pl60 : ∀ p ∈ dirs60, PlnP p := fun p h => by
  obtain ⟨k, hk, rfl⟩ := List.mem_map.mp h
  show Int.gcd 1 k = 1
  simp
theorem round60 : roundP dirs60 = dirs60 := by
  refine round_unique (fun p h => (dr60 p h).nz) pl60 (by decide +kernel) fun x => ?_
  have e : dirs60.map plnOf = dirs60 := by
    conv => rhs; rw [← List.map_id dirs60]
    exact List.map_congr_left fun p hp => plnOf_pln (pl60 p hp)
  rw [e]
theorem ord60 : f_in_order [.p (.tup trs60)] M = .ok (.p (.tup trs60)) M := by
  have := in_order_ok (M := M) dr60 (by decide)
  rw [round60] at this
  exact this
theorem lc60 {M : Mem} : (lcF (rng1I (consA (cF (.int 60)) nilA)) (nameG 5) [5] yesB (tupF (consA (cF (.int 1)) (consA (varF 5) nilA)))) [some (.p (.int 1000000)), some (.p (.lst [.tup [.tup [.int 1, .int 0], .tup [.int 1, .int 1], .tup [.int (-1), .int 1], .tup [.int 0, .int (-1)]], .tup [.int 1, .int (-1)], .tup [.int (-2), .int 1], .int 31, .tup []])), none, none, none, none] M = .ok (.p (.lst trs60)) M := by kernel_rfl
theorem eq60 : eqD (.tup trs60) (.tup trs60) = some true := by kernel_rfl
theorem bl60 {M : Mem} : blF tupD (consA (lcF (rng1I (consA (cF (.int 60)) nilA)) (nameG 5) [5] yesB (tupF (consA (cF (.int 1)) (consA (varF 5) nilA)))) nilA) [some (.p (.int 1000000)), some (.p (.lst [.tup [.tup [.int 1, .int 0], .tup [.int 1, .int 1], .tup [.int (-1), .int 1], .tup [.int 0, .int (-1)]], .tup [.int 1, .int (-1)], .tup [.int (-2), .int 1], .int 31, .tup []])), none, none, none, none] M = .ok (.p (.tup trs60)) M := by kernel_rfl
theorem cmp_gen {A : Fa} {Γ : Mp.Env} {M : Mem} {x : D} (h1 : blF tupD A Γ M = .ok (.p x) M) (h2 : ∀ M, f_in_order [.p x] M = .ok (.p x) M) (h3 : eqD x x = some true) : cmpB (dC eqD) (callF f_in_order (consA (blF tupD A) nilA)) (blF tupD A) Γ M = .ok true M := by
  rw [ev_bl] at h1
  simp only [ev_var0, ev_vars, ev_c, ev_nil, pures_nil, pures_cons, opt_some, optB_some, optU_some, deref_p, op2V_pp, op1V_p, blV_1, blV_2, blV_3, dC_pp, chK_f, andBK_t, andBK_f, orBK_t, orBK_f, truV_p, truD_bl, truD_int, truD_tup, truD_lst, andK_t, andK_f, orK_t, orK_f, notK_b, ifFK_t, ifFK_f, ixV_pp, ixD_t, ixD_k, ixD_l, atI_0, atI_1, atI_2, atI_3, isV_int, isV_bl, isV_non, isV_str, isV_tup, isV_lst, isV_kup, slV_p, ev_noO, sooK_i, ev_seq, sqK_nx, sqK_rt, sqK_ex, sqK_bk, sqK_ct, ev_skip, ev_retN, ifK_t, ifK_f, asK_s, ev_nameG, ev_tupG, ev_tupGk, ev_consG, ev_nilG, parK_2, par3K_3, putK_p, pmK_s, thawK_l, ev_newT, ev_newK, mtK2_s, exit_p, exit_nx, exit_ex, rsK_1, ev_word, wdK_ok, wdK_exc, wdT_s, ev_heard, hdK_ok, hdK_exc, hdT_s, hdI_s, its_fii, its_fi, srV_1, srK_s, srcL, srcT, wkK_s, wkU_t, wkU_l, wkU_s, zpK_tt, zpK_ll, grd_nil, flK_s, le_nx, le_ct, le_bk, le_rt, le_ex, consK2_k, consK2_x, consK1_k, consK1_x, tupK_k, tupK_x, lstK_k, lstK_x, op2B_k, op2B_x, op2A_k, op2A_x, op1A_k, op1A_x, blA_k, blA_x, cmpK_k, cmpK_x, cmpA_k, cmpA_x, valK_k, valK_x, chC_k, chC_x, chB_k, chB_x, chA_k, chA_x, andBA_k, andBA_x, orBA_k, orBA_x, notBA_k, notBA_x, truA_k, truA_x, andA_k, andA_x, orA_k, orA_x, notA_k, notA_x, ifFA_k, ifFA_x, ixB_k, ixB_x, ixA_k, ixA_x, isA_k, isA_x, slC_k, slC_x, slB_k, slB_x, slA_k, slA_x, sooA_k, sooA_x, exprA_k, exprA_x, retA_k, retA_x, ifA_k, ifA_x, setA__k, setA__x, asgA_k, asgA_x, parA_k, parA_x, par3A_k, par3A_x, putC_k, putC_x, putB_k, putB_x, putA_k, putA_x, thawA_k, thawA_x, mtA_k, mtA_x, mtB_k, mtB_x, dispA_k, dispA_x, callA_k, callA_x, raiseA_k, raiseA_x, srA_k, srA_x, seqA_k, seqA_x, r1A_k, r1A_x, r2A_k, r2A_x, zpA_k, zpA_x, forA_k, forA_x, lcA_k, lcA_x, chK_t, mtK_t, ev_cons, ev_tup, ev_lst, ev_op2, ev_op1, ev_bl, ev_cmp, ev_val, ev_chain, ev_andB, ev_orB, ev_notB, ev_tru, ev_and, ev_or, ev_not, ev_ifF, ev_ix, ev_is, ev_sl, ev_someO, ev_expr, ev_ret, ev_if, ev_set, ev_asg, ev_par, ev_par3, ev_put, ev_thaw, ev_meth, ev_disp, ev_call, ev_raise, ev_sorted, ev_seqI, ev_rng1, ev_rng2, ev_zip, ev_for, ev_lc, lcC_k, lcS_k, lcT_t, lcT_f, lcB_k, ev_yes, entG, List.map_cons, List.map_nil, List.length_cons, List.length_nil, List.cons_append, List.nil_append, List.append_nil, List.set_cons_zero, List.set_cons_succ, List.replicate_zero, List.replicate_succ, Nat.reduceAdd, Nat.reduceSub, Option.map_some, Option.bind_some, Option.map_none, Option.bind_none, List.take_length, Bool.not_true, Bool.not_false, Nat.zero_add, Nat.sub_self, Nat.reduceMul, List.take_left, List.isEmpty_cons, List.isEmpty_nil, ↓reduceIte, Nat.reduceLT, h1, h2, h3]
theorem set_gen {C : Fb} {t : Fs} {M : Mem} {o0 : Option U} {xs : List D} (hC : C [o0, some (.p (.lst xs)), none, none, none, none] M = .ok true M) (hx : addD (.lst xs) (.lst [.bl true]) = some (.lst (xs ++ [.bl true]))) : seqS (setS 1 (op2F addD (varF 1) (lstF (consA (valF C) nilA)))) t [o0, some (.p (.lst xs)), none, none, none, none] M = t [o0, some (.p (.lst (xs ++ [.bl true]))), none, none, none, none] M := by
  simp only [ev_var0, ev_vars, ev_c, ev_nil, pures_nil, pures_cons, opt_some, optB_some, optU_some, deref_p, op2V_pp, op1V_p, blV_1, blV_2, blV_3, dC_pp, chK_f, andBK_t, andBK_f, orBK_t, orBK_f, truV_p, truD_bl, truD_int, truD_tup, truD_lst, andK_t, andK_f, orK_t, orK_f, notK_b, ifFK_t, ifFK_f, ixV_pp, ixD_t, ixD_k, ixD_l, atI_0, atI_1, atI_2, atI_3, isV_int, isV_bl, isV_non, isV_str, isV_tup, isV_lst, isV_kup, slV_p, ev_noO, sooK_i, ev_seq, sqK_nx, sqK_rt, sqK_ex, sqK_bk, sqK_ct, ev_skip, ev_retN, ifK_t, ifK_f, asK_s, ev_nameG, ev_tupG, ev_tupGk, ev_consG, ev_nilG, parK_2, par3K_3, putK_p, pmK_s, thawK_l, ev_newT, ev_newK, mtK2_s, exit_p, exit_nx, exit_ex, rsK_1, ev_word, wdK_ok, wdK_exc, wdT_s, ev_heard, hdK_ok, hdK_exc, hdT_s, hdI_s, its_fii, its_fi, srV_1, srK_s, srcL, srcT, wkK_s, wkU_t, wkU_l, wkU_s, zpK_tt, zpK_ll, grd_nil, flK_s, le_nx, le_ct, le_bk, le_rt, le_ex, consK2_k, consK2_x, consK1_k, consK1_x, tupK_k, tupK_x, lstK_k, lstK_x, op2B_k, op2B_x, op2A_k, op2A_x, op1A_k, op1A_x, blA_k, blA_x, cmpK_k, cmpK_x, cmpA_k, cmpA_x, valK_k, valK_x, chC_k, chC_x, chB_k, chB_x, chA_k, chA_x, andBA_k, andBA_x, orBA_k, orBA_x, notBA_k, notBA_x, truA_k, truA_x, andA_k, andA_x, orA_k, orA_x, notA_k, notA_x, ifFA_k, ifFA_x, ixB_k, ixB_x, ixA_k, ixA_x, isA_k, isA_x, slC_k, slC_x, slB_k, slB_x, slA_k, slA_x, sooA_k, sooA_x, exprA_k, exprA_x, retA_k, retA_x, ifA_k, ifA_x, setA__k, setA__x, asgA_k, asgA_x, parA_k, parA_x, par3A_k, par3A_x, putC_k, putC_x, putB_k, putB_x, putA_k, putA_x, thawA_k, thawA_x, mtA_k, mtA_x, mtB_k, mtB_x, dispA_k, dispA_x, callA_k, callA_x, raiseA_k, raiseA_x, srA_k, srA_x, seqA_k, seqA_x, r1A_k, r1A_x, r2A_k, r2A_x, zpA_k, zpA_x, forA_k, forA_x, lcA_k, lcA_x, chK_t, mtK_t, ev_cons, ev_tup, ev_lst, ev_op2, ev_op1, ev_bl, ev_cmp, ev_val, ev_chain, ev_andB, ev_orB, ev_notB, ev_tru, ev_and, ev_or, ev_not, ev_ifF, ev_ix, ev_is, ev_sl, ev_someO, ev_expr, ev_ret, ev_if, ev_set, ev_asg, ev_par, ev_par3, ev_put, ev_thaw, ev_meth, ev_disp, ev_call, ev_raise, ev_sorted, ev_seqI, ev_rng1, ev_rng2, ev_zip, ev_for, ev_lc, lcC_k, lcS_k, lcT_t, lcT_f, lcB_k, ev_yes, entG, List.map_cons, List.map_nil, List.length_cons, List.length_nil, List.cons_append, List.nil_append, List.append_nil, List.set_cons_zero, List.set_cons_succ, List.replicate_zero, List.replicate_succ, Nat.reduceAdd, Nat.reduceSub, Option.map_some, Option.bind_some, Option.map_none, Option.bind_none, List.take_length, Bool.not_true, Bool.not_false, Nat.zero_add, Nat.sub_self, Nat.reduceMul, List.take_left, List.isEmpty_cons, List.isEmpty_nil, ↓reduceIte, Nat.reduceLT, hC, hx]
theorem bh_b (t : Fs) : seqS (setS 1 (op2F addD (varF 1) (lstF (consA (valF (cmpB (dC eqD) (callF f_in_order (consA (blF tupD (consA (lcF (rng1I (consA (cF (.int 60)) nilA)) (nameG 5) [5] yesB (tupF (consA (cF (.int 1)) (consA (varF 5) nilA)))) nilA)) nilA)) (blF tupD (consA (lcF (rng1I (consA (cF (.int 60)) nilA)) (nameG 5) [5] yesB (tupF (consA (cF (.int 1)) (consA (varF 5) nilA)))) nilA)))) nilA)))) t [some (.p (.int 1000000)), some (.p (.lst [.tup [.tup [.int 1, .int 0], .tup [.int 1, .int 1], .tup [.int (-1), .int 1], .tup [.int 0, .int (-1)]], .tup [.int 1, .int (-1)], .tup [.int (-2), .int 1], .int 31, .tup []])), none, none, none, none] M = t [some (.p (.int 1000000)), some (.p (.lst [.tup [.tup [.int 1, .int 0], .tup [.int 1, .int 1], .tup [.int (-1), .int 1], .tup [.int 0, .int (-1)]], .tup [.int 1, .int (-1)], .tup [.int (-2), .int 1], .int 31, .tup [], .bl true])), none, none, none, none] M := set_gen (cmp_gen bl60 (fun M => ord60) eq60) rfl
theorem y4 (t : Fs) : seqS (ifS (notB (truB (callF f__law_like (consA (varF 1) (consA (lstF (consA (tupF (consA (tupF (consA (cF (.int 1)) (consA (cF (.int 0)) nilA))) (consA (tupF (consA (cF (.int 1)) (consA (cF (.int 1)) nilA))) (consA (tupF (consA (op1F negD (cF (.int 1))) (consA (cF (.int 1)) nilA))) (consA (tupF (consA (cF (.int 0)) (consA (op1F negD (cF (.int 1))) nilA))) nilA))))) (consA (tupF (consA (cF (.int 1)) (consA (op1F negD (cF (.int 1))) nilA))) (consA (tupF (consA (op1F negD (cF (.int 2))) (consA (cF (.int 1)) nilA))) (consA (cF (.int 31)) (consA (tupF nilA) (consA (cF (.bl true)) nilA))))))) nilA))))) (retS (cF (.bl false))) skipS) t [some (.p (.int 1000000)), some (.p (.lst [.tup [.tup [.int 1, .int 0], .tup [.int 1, .int 1], .tup [.int (-1), .int 1], .tup [.int 0, .int (-1)]], .tup [.int 1, .int (-1)], .tup [.int (-2), .int 1], .int 31, .tup [], .bl true])), none, none, none, none] (St cs ls at_ [.lst [.tup [.tup [.int 1, .int 0], .tup [.int 1, .int 1], .tup [.int (-1), .int 1], .tup [.int 0, .int (-1)]], .tup [.int 1, .int (-1)]]]) = t [some (.p (.int 1000000)), some (.p (.lst [.tup [.tup [.int 1, .int 0], .tup [.int 1, .int 1], .tup [.int (-1), .int 1], .tup [.int 0, .int (-1)]], .tup [.int 1, .int (-1)], .tup [.int (-2), .int 1], .int 31, .tup [], .bl true])), none, none, none, none] (St cs ls at_ [.lst [.tup [.tup [.int 1, .int 0], .tup [.int 1, .int 1], .tup [.int (-1), .int 1], .tup [.int 0, .int (-1)]], .tup [.int 1, .int (-1)]]]) := by kernel_rfl
theorem y5 (t : Fs) : seqS (setS 2 (op2F mulD (tupF (consA (tupF (consA (cF (.int 1)) (consA (cF (.int 0)) nilA))) nilA)) (cF (.int 61)))) t [some (.p (.int 1000000)), some (.p (.lst [.tup [.tup [.int 1, .int 0], .tup [.int 1, .int 1], .tup [.int (-1), .int 1], .tup [.int 0, .int (-1)]], .tup [.int 1, .int (-1)], .tup [.int (-2), .int 1], .int 31, .tup [], .bl true])), none, none, none, none] (St cs ls at_ [.lst [.tup [.tup [.int 1, .int 0], .tup [.int 1, .int 1], .tup [.int (-1), .int 1], .tup [.int 0, .int (-1)]], .tup [.int 1, .int (-1)]]]) = t [some (.p (.int 1000000)), some (.p (.lst [.tup [.tup [.int 1, .int 0], .tup [.int 1, .int 1], .tup [.int (-1), .int 1], .tup [.int 0, .int (-1)]], .tup [.int 1, .int (-1)], .tup [.int (-2), .int 1], .int 31, .tup [], .bl true])), some (.p (.tup (List.replicate 61 (.tup [.int 1, .int 0])))), none, none, none] (St cs ls at_ [.lst [.tup [.tup [.int 1, .int 0], .tup [.int 1, .int 1], .tup [.int (-1), .int 1], .tup [.int 0, .int (-1)]], .tup [.int 1, .int (-1)]]]) := by kernel_rfl
theorem y6 (t : Fs) : seqS (setS 1 (thawF (lstF (consA (heardF sb "told" cl__law_heard (callF f_in_order (consA (varF 2) nilA))) nilA)))) (seqS (exprS (methF appG (varF 1) (consA (heardF sb "told" cl__law_heard (callF f_in_order (consA (lstF (consA (tupF (consA (cF (.int 1)) (consA (cF (.int 0)) nilA))) nilA)) nilA))) nilA))) (seqS (exprS (methF appG (varF 1) (consA (heardF sb "told" cl__law_heard (callF f_in_order (consA (tupF (consA (tupF (consA (cF (.int 1)) (consA (cF (.int 0)) nilA))) (consA (tupF (consA (cF (.int 0)) (consA (cF (.int 0)) nilA))) (consA (cF .non) nilA)))) nilA))) nilA))) (seqS (exprS (methF appG (varF 1) (consA (heardF sb "told" cl__law_heard (callF f_in_order (consA (cF .non) nilA))) nilA))) t))) [some (.p (.int 1000000)), some (.p (.lst [.tup [.tup [.int 1, .int 0], .tup [.int 1, .int 1], .tup [.int (-1), .int 1], .tup [.int 0, .int (-1)]], .tup [.int 1, .int (-1)], .tup [.int (-2), .int 1], .int 31, .tup [], .bl true])), some (.p (.tup (List.replicate 61 (.tup [.int 1, .int 0])))), none, none, none] (St cs ls at_ [.lst [.tup [.tup [.int 1, .int 0], .tup [.int 1, .int 1], .tup [.int (-1), .int 1], .tup [.int 0, .int (-1)]], .tup [.int 1, .int (-1)]]]) = t [some (.p (.int 1000000)), some (.loc 3), some (.p (.tup (List.replicate 61 (.tup [.int 1, .int 0])))), none, none, none] (St cs ls at_ [.lst [.tup [.tup [.int 1, .int 0], .tup [.int 1, .int 1], .tup [.int (-1), .int 1], .tup [.int 0, .int (-1)]], .tup [.int 1, .int (-1)]], .lst [.tup [.str "parameter", .tup (List.replicate 61 (.tup [.int 1, .int 0])), .bl true, .bl false], .tup [.str "parameter", .lst [.tup [.int 1, .int 0]], .bl true, .bl false], .tup [.str "direction", .tup [.int 0, .int 0], .bl true, .bl false], .tup [.str "parameter", .non, .bl true, .bl false]]]) := by kernel_rfl
theorem y10 (t : Fs) : seqS (setS 3 (lstF (consA (tupF (consA (cF (.str "parameter")) (consA (varF 2) (consA (cF (.bl true)) (consA (cF (.bl false)) nilA))))) (consA (tupF (consA (cF (.str "parameter")) (consA (lstF (consA (tupF (consA (cF (.int 1)) (consA (cF (.int 0)) nilA))) nilA)) (consA (cF (.bl true)) (consA (cF (.bl false)) nilA))))) (consA (tupF (consA (cF (.str "direction")) (consA (tupF (consA (cF (.int 0)) (consA (cF (.int 0)) nilA))) (consA (cF (.bl true)) (consA (cF (.bl false)) nilA))))) nilA))))) t [some (.p (.int 1000000)), some (.loc 3), some (.p (.tup (List.replicate 61 (.tup [.int 1, .int 0])))), none, none, none] (St cs ls at_ [.lst [.tup [.tup [.int 1, .int 0], .tup [.int 1, .int 1], .tup [.int (-1), .int 1], .tup [.int 0, .int (-1)]], .tup [.int 1, .int (-1)]], .lst [.tup [.str "parameter", .tup (List.replicate 61 (.tup [.int 1, .int 0])), .bl true, .bl false], .tup [.str "parameter", .lst [.tup [.int 1, .int 0]], .bl true, .bl false], .tup [.str "direction", .tup [.int 0, .int 0], .bl true, .bl false], .tup [.str "parameter", .non, .bl true, .bl false]]]) = t [some (.p (.int 1000000)), some (.loc 3), some (.p (.tup (List.replicate 61 (.tup [.int 1, .int 0])))), some (.p (.lst [.tup [.str "parameter", .tup (List.replicate 61 (.tup [.int 1, .int 0])), .bl true, .bl false], .tup [.str "parameter", .lst [.tup [.int 1, .int 0]], .bl true, .bl false], .tup [.str "direction", .tup [.int 0, .int 0], .bl true, .bl false]])), none, none] (St cs ls at_ [.lst [.tup [.tup [.int 1, .int 0], .tup [.int 1, .int 1], .tup [.int (-1), .int 1], .tup [.int 0, .int (-1)]], .tup [.int 1, .int (-1)]], .lst [.tup [.str "parameter", .tup (List.replicate 61 (.tup [.int 1, .int 0])), .bl true, .bl false], .tup [.str "parameter", .lst [.tup [.int 1, .int 0]], .bl true, .bl false], .tup [.str "direction", .tup [.int 0, .int 0], .bl true, .bl false], .tup [.str "parameter", .non, .bl true, .bl false]]]) := by kernel_rfl
theorem like_h {x : D} {n k : Nat} (hx : Shw n k x) (hn : n ≤ 300000) (hk : k ≤ 3) : f__law_like [.loc 3, .p (.lst [.tup [.str "parameter", x, .bl true, .bl false], .tup [.str "parameter", .lst [.tup [.int 1, .int 0]], .bl true, .bl false], .tup [.str "direction", .tup [.int 0, .int 0], .bl true, .bl false], .tup [.str "parameter", .non, .bl true, .bl false]])] (St cs ls at_ [.lst [.tup [.tup [.int 1, .int 0], .tup [.int 1, .int 1], .tup [.int (-1), .int 1], .tup [.int 0, .int (-1)]], .tup [.int 1, .int (-1)]], .lst [.tup [.str "parameter", x, .bl true, .bl false], .tup [.str "parameter", .lst [.tup [.int 1, .int 0]], .bl true, .bl false], .tup [.str "direction", .tup [.int 0, .int 0], .bl true, .bl false], .tup [.str "parameter", .non, .bl true, .bl false]]]) = .ok (.p (.bl true)) (St cs ls at_ [.lst [.tup [.tup [.int 1, .int 0], .tup [.int 1, .int 1], .tup [.int (-1), .int 1], .tup [.int 0, .int (-1)]], .tup [.int 1, .int (-1)]], .lst [.tup [.str "parameter", x, .bl true, .bl false], .tup [.str "parameter", .lst [.tup [.int 1, .int 0]], .bl true, .bl false], .tup [.str "direction", .tup [.int 0, .int 0], .bl true, .bl false], .tup [.str "parameter", .non, .bl true, .bl false]]]) := 
  likeL rfl (.lst (.cons (.tup (.cons (.str (n := 20) (by decide +kernel)) (.cons hx (.cons (.bl _) (.cons (.bl _) .nil))))) (.cons (.tup (.cons (.str (n := 20) (by decide +kernel)) (.cons (.lst (.cons (shw_pp (p := (1, 0)) ⟨by decide, by decide, by decide, by decide, by decide⟩) .nil)) (.cons (.bl _) (.cons (.bl _) .nil))))) (.cons (.tup (.cons (.str (n := 20) (by decide +kernel)) (.cons (.tup (.cons (.int (by decide)) (.cons (.int (by decide)) .nil))) (.cons (.bl _) (.cons (.bl _) .nil))))) (.cons (.tup (.cons (.str (n := 20) (by decide +kernel)) (.cons .non (.cons (.bl _) (.cons (.bl _) .nil))))) .nil))))) (by omega) (by omega) rfl
theorem y11g {x : D} {n k : Nat} (hx : Shw n k x) (hn : n ≤ 300000) (hk : k ≤ 3) (t : Fs) : seqS (ifS (notB (truB (callF f__law_like (consA (varF 1) (consA (op2F addD (varF 3) (lstF (consA (tupF (consA (cF (.str "parameter")) (consA (cF .non) (consA (cF (.bl true)) (consA (cF (.bl false)) nilA))))) nilA))) nilA))))) (retS (cF (.bl false))) skipS) t [some (.p (.int 1000000)), some (.loc 3), some (.p (x)), some (.p (.lst [.tup [.str "parameter", x, .bl true, .bl false], .tup [.str "parameter", .lst [.tup [.int 1, .int 0]], .bl true, .bl false], .tup [.str "direction", .tup [.int 0, .int 0], .bl true, .bl false]])), none, none] (St cs ls at_ [.lst [.tup [.tup [.int 1, .int 0], .tup [.int 1, .int 1], .tup [.int (-1), .int 1], .tup [.int 0, .int (-1)]], .tup [.int 1, .int (-1)]], .lst [.tup [.str "parameter", x, .bl true, .bl false], .tup [.str "parameter", .lst [.tup [.int 1, .int 0]], .bl true, .bl false], .tup [.str "direction", .tup [.int 0, .int 0], .bl true, .bl false], .tup [.str "parameter", .non, .bl true, .bl false]]]) = t [some (.p (.int 1000000)), some (.loc 3), some (.p (x)), some (.p (.lst [.tup [.str "parameter", x, .bl true, .bl false], .tup [.str "parameter", .lst [.tup [.int 1, .int 0]], .bl true, .bl false], .tup [.str "direction", .tup [.int 0, .int 0], .bl true, .bl false]])), none, none] (St cs ls at_ [.lst [.tup [.tup [.int 1, .int 0], .tup [.int 1, .int 1], .tup [.int (-1), .int 1], .tup [.int 0, .int (-1)]], .tup [.int 1, .int (-1)]], .lst [.tup [.str "parameter", x, .bl true, .bl false], .tup [.str "parameter", .lst [.tup [.int 1, .int 0]], .bl true, .bl false], .tup [.str "direction", .tup [.int 0, .int 0], .bl true, .bl false], .tup [.str "parameter", .non, .bl true, .bl false]]]) := by
  have h := like_h (cs := cs) (ls := ls) (at_ := at_) hx hn hk
  have h2 : addD (.lst [.tup [.str "parameter", x, .bl true, .bl false], .tup [.str "parameter", .lst [.tup [.int 1, .int 0]], .bl true, .bl false], .tup [.str "direction", .tup [.int 0, .int 0], .bl true, .bl false]]) (.lst [.tup [.str "parameter", .non, .bl true, .bl false]]) = some (.lst [.tup [.str "parameter", x, .bl true, .bl false], .tup [.str "parameter", .lst [.tup [.int 1, .int 0]], .bl true, .bl false], .tup [.str "direction", .tup [.int 0, .int 0], .bl true, .bl false], .tup [.str "parameter", .non, .bl true, .bl false]]) := rfl
  simp only [ev_var0, ev_vars, ev_c, ev_nil, pures_nil, pures_cons, opt_some, optB_some, optU_some, deref_p, op2V_pp, op1V_p, blV_1, blV_2, blV_3, dC_pp, chK_f, andBK_t, andBK_f, orBK_t, orBK_f, truV_p, truD_bl, truD_int, truD_tup, truD_lst, andK_t, andK_f, orK_t, orK_f, notK_b, ifFK_t, ifFK_f, ixV_pp, ixD_t, ixD_k, ixD_l, atI_0, atI_1, atI_2, atI_3, isV_int, isV_bl, isV_non, isV_str, isV_tup, isV_lst, isV_kup, slV_p, ev_noO, sooK_i, ev_seq, sqK_nx, sqK_rt, sqK_ex, sqK_bk, sqK_ct, ev_skip, ev_retN, ifK_t, ifK_f, asK_s, ev_nameG, ev_tupG, ev_tupGk, ev_consG, ev_nilG, parK_2, par3K_3, putK_p, pmK_s, thawK_l, ev_newT, ev_newK, mtK2_s, exit_p, exit_nx, exit_ex, rsK_1, ev_word, wdK_ok, wdK_exc, wdT_s, ev_heard, hdK_ok, hdK_exc, hdT_s, hdI_s, its_fii, its_fi, srV_1, srK_s, srcL, srcT, wkK_s, wkU_t, wkU_l, wkU_s, zpK_tt, zpK_ll, grd_nil, flK_s, le_nx, le_ct, le_bk, le_rt, le_ex, consK2_k, consK2_x, consK1_k, consK1_x, tupK_k, tupK_x, lstK_k, lstK_x, op2B_k, op2B_x, op2A_k, op2A_x, op1A_k, op1A_x, blA_k, blA_x, cmpK_k, cmpK_x, cmpA_k, cmpA_x, valK_k, valK_x, chC_k, chC_x, chB_k, chB_x, chA_k, chA_x, andBA_k, andBA_x, orBA_k, orBA_x, notBA_k, notBA_x, truA_k, truA_x, andA_k, andA_x, orA_k, orA_x, notA_k, notA_x, ifFA_k, ifFA_x, ixB_k, ixB_x, ixA_k, ixA_x, isA_k, isA_x, slC_k, slC_x, slB_k, slB_x, slA_k, slA_x, sooA_k, sooA_x, exprA_k, exprA_x, retA_k, retA_x, ifA_k, ifA_x, setA__k, setA__x, asgA_k, asgA_x, parA_k, parA_x, par3A_k, par3A_x, putC_k, putC_x, putB_k, putB_x, putA_k, putA_x, thawA_k, thawA_x, mtA_k, mtA_x, mtB_k, mtB_x, dispA_k, dispA_x, callA_k, callA_x, raiseA_k, raiseA_x, srA_k, srA_x, seqA_k, seqA_x, r1A_k, r1A_x, r2A_k, r2A_x, zpA_k, zpA_x, forA_k, forA_x, lcA_k, lcA_x, chK_t, mtK_t, ev_cons, ev_tup, ev_lst, ev_op2, ev_op1, ev_bl, ev_cmp, ev_val, ev_chain, ev_andB, ev_orB, ev_notB, ev_tru, ev_and, ev_or, ev_not, ev_ifF, ev_ix, ev_is, ev_sl, ev_someO, ev_expr, ev_ret, ev_if, ev_set, ev_asg, ev_par, ev_par3, ev_put, ev_thaw, ev_meth, ev_disp, ev_call, ev_raise, ev_sorted, ev_seqI, ev_rng1, ev_rng2, ev_zip, ev_for, ev_lc, lcC_k, lcS_k, lcT_t, lcT_f, lcB_k, ev_yes, entG, List.map_cons, List.map_nil, List.length_cons, List.length_nil, List.cons_append, List.nil_append, List.append_nil, List.set_cons_zero, List.set_cons_succ, List.replicate_zero, List.replicate_succ, Nat.reduceAdd, Nat.reduceSub, Option.map_some, Option.bind_some, Option.map_none, Option.bind_none, List.take_length, Bool.not_true, Bool.not_false, Nat.zero_add, Nat.sub_self, Nat.reduceMul, List.take_left, List.isEmpty_cons, List.isEmpty_nil, ↓reduceIte, Nat.reduceLT, h2, h]
theorem shw61 : ∃ n k, Shw n k (.tup (List.replicate 61 (.tup [.int 1, .int 0]))) ∧ n ≤ 300000 ∧ k ≤ 3 := by
  obtain ⟨l, hl, h⟩ := Shws.all (ds := List.replicate 61 (D.tup [.int 1, .int 0])) fun d hd => by
    rw [(List.mem_replicate.mp hd).2]
    exact shw_pp (p := (1, 0)) ⟨by decide, by decide, by decide, by decide, by decide⟩
  exact ⟨_, _, .tup h, by simp, by omega⟩
theorem y12 : exitR (List.length (St cs ls at_ [])) ((seqS (forS (seqI (tupF (consA (tupF (consA (cF (.int 0)) (consA (cF (.int 0)) nilA))) (consA (tupF (consA (op2F addD (varF 0) (cF (.int 1))) (consA (cF (.int 1)) nilA))) (consA (tupF (consA (cF (.int 1)) (consA (cF (.bl false)) nilA))) (consA (lstF (consA (cF (.int 1)) (consA (cF (.int 1)) nilA))) (consA (cF (.int 5)) nilA))))))) (nameG 4) (seqS (setS 1 (thawF (lstF (consA (heardF sb "told" cl__law_heard (callF f_least_direction (consA (varF 4) nilA))) nilA))))
  (seqS (exprS (methF appG (varF 1) (consA (heardF sb "told" cl__law_heard (callF f_turned_left (consA (varF 4) nilA))) nilA)))
  (seqS (exprS (methF appG (varF 1) (consA (heardF sb "told" cl__law_heard (callF f_need_direction (consA (varF 4) nilA))) nilA)))
  (ifS (notB (truB (callF f__law_like (consA (varF 1) (consA (op2F mulD (lstF (consA (tupF (consA (cF (.str "direction")) (consA (varF 4) (consA (cF (.bl true)) (consA (cF (.bl false)) nilA))))) nilA)) (cF (.int 3))) nilA))))) (retS (cF (.bl false))) skipS))))) (retS (cF (.bl true)))) [some (.p (.int 1000000)), some (.loc 3), some (.p (.tup (List.replicate 61 (.tup [.int 1, .int 0])))), some (.p (.lst [.tup [.str "parameter", .tup (List.replicate 61 (.tup [.int 1, .int 0])), .bl true, .bl false], .tup [.str "parameter", .lst [.tup [.int 1, .int 0]], .bl true, .bl false], .tup [.str "direction", .tup [.int 0, .int 0], .bl true, .bl false]])), none, none] (St cs ls at_ [.lst [.tup [.tup [.int 1, .int 0], .tup [.int 1, .int 1], .tup [.int (-1), .int 1], .tup [.int 0, .int (-1)]], .tup [.int 1, .int (-1)]], .lst [.tup [.str "parameter", .tup (List.replicate 61 (.tup [.int 1, .int 0])), .bl true, .bl false], .tup [.str "parameter", .lst [.tup [.int 1, .int 0]], .bl true, .bl false], .tup [.str "direction", .tup [.int 0, .int 0], .bl true, .bl false], .tup [.str "parameter", .non, .bl true, .bl false]]])) = .ok (.p (.bl true)) (St cs ls at_ []) := by kernel_rfl
theorem bh_c : exitR (List.length (St cs ls at_ [])) ((seqS (ifS (notB (truB (callF f__law_like (consA (varF 1) (consA (lstF (consA (tupF (consA (tupF (consA (cF (.int 1)) (consA (cF (.int 0)) nilA))) (consA (tupF (consA (cF (.int 1)) (consA (cF (.int 1)) nilA))) (consA (tupF (consA (op1F negD (cF (.int 1))) (consA (cF (.int 1)) nilA))) (consA (tupF (consA (cF (.int 0)) (consA (op1F negD (cF (.int 1))) nilA))) nilA))))) (consA (tupF (consA (cF (.int 1)) (consA (op1F negD (cF (.int 1))) nilA))) (consA (tupF (consA (op1F negD (cF (.int 2))) (consA (cF (.int 1)) nilA))) (consA (cF (.int 31)) (consA (tupF nilA) (consA (cF (.bl true)) nilA))))))) nilA))))) (retS (cF (.bl false))) skipS) (seqS (setS 2 (op2F mulD (tupF (consA (tupF (consA (cF (.int 1)) (consA (cF (.int 0)) nilA))) nilA)) (cF (.int 61)))) (seqS (setS 1 (thawF (lstF (consA (heardF sb "told" cl__law_heard (callF f_in_order (consA (varF 2) nilA))) nilA)))) (seqS (exprS (methF appG (varF 1) (consA (heardF sb "told" cl__law_heard (callF f_in_order (consA (lstF (consA (tupF (consA (cF (.int 1)) (consA (cF (.int 0)) nilA))) nilA)) nilA))) nilA))) (seqS (exprS (methF appG (varF 1) (consA (heardF sb "told" cl__law_heard (callF f_in_order (consA (tupF (consA (tupF (consA (cF (.int 1)) (consA (cF (.int 0)) nilA))) (consA (tupF (consA (cF (.int 0)) (consA (cF (.int 0)) nilA))) (consA (cF .non) nilA)))) nilA))) nilA))) (seqS (exprS (methF appG (varF 1) (consA (heardF sb "told" cl__law_heard (callF f_in_order (consA (cF .non) nilA))) nilA))) (seqS (setS 3 (lstF (consA (tupF (consA (cF (.str "parameter")) (consA (varF 2) (consA (cF (.bl true)) (consA (cF (.bl false)) nilA))))) (consA (tupF (consA (cF (.str "parameter")) (consA (lstF (consA (tupF (consA (cF (.int 1)) (consA (cF (.int 0)) nilA))) nilA)) (consA (cF (.bl true)) (consA (cF (.bl false)) nilA))))) (consA (tupF (consA (cF (.str "direction")) (consA (tupF (consA (cF (.int 0)) (consA (cF (.int 0)) nilA))) (consA (cF (.bl true)) (consA (cF (.bl false)) nilA))))) nilA))))) (seqS (ifS (notB (truB (callF f__law_like (consA (varF 1) (consA (op2F addD (varF 3) (lstF (consA (tupF (consA (cF (.str "parameter")) (consA (cF .non) (consA (cF (.bl true)) (consA (cF (.bl false)) nilA))))) nilA))) nilA))))) (retS (cF (.bl false))) skipS) (seqS (forS (seqI (tupF (consA (tupF (consA (cF (.int 0)) (consA (cF (.int 0)) nilA))) (consA (tupF (consA (op2F addD (varF 0) (cF (.int 1))) (consA (cF (.int 1)) nilA))) (consA (tupF (consA (cF (.int 1)) (consA (cF (.bl false)) nilA))) (consA (lstF (consA (cF (.int 1)) (consA (cF (.int 1)) nilA))) (consA (cF (.int 5)) nilA))))))) (nameG 4) (seqS (setS 1 (thawF (lstF (consA (heardF sb "told" cl__law_heard (callF f_least_direction (consA (varF 4) nilA))) nilA))))
  (seqS (exprS (methF appG (varF 1) (consA (heardF sb "told" cl__law_heard (callF f_turned_left (consA (varF 4) nilA))) nilA)))
  (seqS (exprS (methF appG (varF 1) (consA (heardF sb "told" cl__law_heard (callF f_need_direction (consA (varF 4) nilA))) nilA)))
  (ifS (notB (truB (callF f__law_like (consA (varF 1) (consA (op2F mulD (lstF (consA (tupF (consA (cF (.str "direction")) (consA (varF 4) (consA (cF (.bl true)) (consA (cF (.bl false)) nilA))))) nilA)) (cF (.int 3))) nilA))))) (retS (cF (.bl false))) skipS))))) (retS (cF (.bl true)))))))))))) [some (.p (.int 1000000)), some (.p (.lst [.tup [.tup [.int 1, .int 0], .tup [.int 1, .int 1], .tup [.int (-1), .int 1], .tup [.int 0, .int (-1)]], .tup [.int 1, .int (-1)], .tup [.int (-2), .int 1], .int 31, .tup [], .bl true])), none, none, none, none] (St cs ls at_ [.lst [.tup [.tup [.int 1, .int 0], .tup [.int 1, .int 1], .tup [.int (-1), .int 1], .tup [.int 0, .int (-1)]], .tup [.int 1, .int (-1)]]])) = .ok (.p (.bl true)) (St cs ls at_ []) :=
  have ⟨n, k, h, hn, hk⟩ := shw61
  (congrArg (exitR _) ((y4 _).trans ((y5 _).trans ((y6 _).trans ((y10 _).trans (y11g h hn hk _)))))).trans y12
theorem hand_fn {M : Mem} : f__law_by_hand [] M = exitR M.length (b__law_by_hand [none, none, none, none, none, none] M) := by kernel_rfl
theorem hand_b : b__law_by_hand [none, none, none, none, none, none] (St cs ls at_ []) = (seqS (ifS (notB (truB (callF f__law_like (consA (varF 1) (consA (lstF (consA (tupF (consA (tupF (consA (cF (.int 1)) (consA (cF (.int 0)) nilA))) (consA (tupF (consA (cF (.int 1)) (consA (cF (.int 1)) nilA))) (consA (tupF (consA (op1F negD (cF (.int 1))) (consA (cF (.int 1)) nilA))) (consA (tupF (consA (cF (.int 0)) (consA (op1F negD (cF (.int 1))) nilA))) nilA))))) (consA (tupF (consA (cF (.int 1)) (consA (op1F negD (cF (.int 1))) nilA))) (consA (tupF (consA (op1F negD (cF (.int 2))) (consA (cF (.int 1)) nilA))) (consA (cF (.int 31)) (consA (tupF nilA) (consA (cF (.bl true)) nilA))))))) nilA))))) (retS (cF (.bl false))) skipS) (seqS (setS 2 (op2F mulD (tupF (consA (tupF (consA (cF (.int 1)) (consA (cF (.int 0)) nilA))) nilA)) (cF (.int 61)))) (seqS (setS 1 (thawF (lstF (consA (heardF sb "told" cl__law_heard (callF f_in_order (consA (varF 2) nilA))) nilA)))) (seqS (exprS (methF appG (varF 1) (consA (heardF sb "told" cl__law_heard (callF f_in_order (consA (lstF (consA (tupF (consA (cF (.int 1)) (consA (cF (.int 0)) nilA))) nilA)) nilA))) nilA))) (seqS (exprS (methF appG (varF 1) (consA (heardF sb "told" cl__law_heard (callF f_in_order (consA (tupF (consA (tupF (consA (cF (.int 1)) (consA (cF (.int 0)) nilA))) (consA (tupF (consA (cF (.int 0)) (consA (cF (.int 0)) nilA))) (consA (cF .non) nilA)))) nilA))) nilA))) (seqS (exprS (methF appG (varF 1) (consA (heardF sb "told" cl__law_heard (callF f_in_order (consA (cF .non) nilA))) nilA))) (seqS (setS 3 (lstF (consA (tupF (consA (cF (.str "parameter")) (consA (varF 2) (consA (cF (.bl true)) (consA (cF (.bl false)) nilA))))) (consA (tupF (consA (cF (.str "parameter")) (consA (lstF (consA (tupF (consA (cF (.int 1)) (consA (cF (.int 0)) nilA))) nilA)) (consA (cF (.bl true)) (consA (cF (.bl false)) nilA))))) (consA (tupF (consA (cF (.str "direction")) (consA (tupF (consA (cF (.int 0)) (consA (cF (.int 0)) nilA))) (consA (cF (.bl true)) (consA (cF (.bl false)) nilA))))) nilA))))) (seqS (ifS (notB (truB (callF f__law_like (consA (varF 1) (consA (op2F addD (varF 3) (lstF (consA (tupF (consA (cF (.str "parameter")) (consA (cF .non) (consA (cF (.bl true)) (consA (cF (.bl false)) nilA))))) nilA))) nilA))))) (retS (cF (.bl false))) skipS) (seqS (forS (seqI (tupF (consA (tupF (consA (cF (.int 0)) (consA (cF (.int 0)) nilA))) (consA (tupF (consA (op2F addD (varF 0) (cF (.int 1))) (consA (cF (.int 1)) nilA))) (consA (tupF (consA (cF (.int 1)) (consA (cF (.bl false)) nilA))) (consA (lstF (consA (cF (.int 1)) (consA (cF (.int 1)) nilA))) (consA (cF (.int 5)) nilA))))))) (nameG 4) (seqS (setS 1 (thawF (lstF (consA (heardF sb "told" cl__law_heard (callF f_least_direction (consA (varF 4) nilA))) nilA))))
  (seqS (exprS (methF appG (varF 1) (consA (heardF sb "told" cl__law_heard (callF f_turned_left (consA (varF 4) nilA))) nilA)))
  (seqS (exprS (methF appG (varF 1) (consA (heardF sb "told" cl__law_heard (callF f_need_direction (consA (varF 4) nilA))) nilA)))
  (ifS (notB (truB (callF f__law_like (consA (varF 1) (consA (op2F mulD (lstF (consA (tupF (consA (cF (.str "direction")) (consA (varF 4) (consA (cF (.bl true)) (consA (cF (.bl false)) nilA))))) nilA)) (cF (.int 3))) nilA))))) (retS (cF (.bl false))) skipS))))) (retS (cF (.bl true)))))))))))) [some (.p (.int 1000000)), some (.p (.lst [.tup [.tup [.int 1, .int 0], .tup [.int 1, .int 1], .tup [.int (-1), .int 1], .tup [.int 0, .int (-1)]], .tup [.int 1, .int (-1)], .tup [.int (-2), .int 1], .int 31, .tup [], .bl true])), none, none, none, none] (St cs ls at_ [.lst [.tup [.tup [.int 1, .int 0], .tup [.int 1, .int 1], .tup [.int (-1), .int 1], .tup [.int 0, .int (-1)]], .tup [.int 1, .int (-1)]]]) := (bh_a _).trans (bh_b _)
theorem by_hand : f__law_by_hand [] (St cs ls at_ []) = .ok (.p (.bl true)) (St cs ls at_ []) := hand_fn.trans ((congrArg (exitR _) hand_b).trans bh_c)
end
end K_whole
namespace K_whole
open PySem PySem.Spec PyProof.Rows L2 Mp
theorem truth (ns : List Int) (hl : ns.length ≤ 63) (hb : ∀ z ∈ ns, Builtin.Int.intBits z ≤ 1048576) : ∃ M, f_law [.p (.scr ns)] [] = .ok (.p (.bl true)) M := by
  obtain ⟨cs, ls, w, e0⟩ := begin_ok2 hl
  have e0 : f__law_begin [.p (.scr ns)] [] = .ok (.loc 1) (St cs ls 0 []) := e0
  obtain ⟨ls1, at1, e1, w1⟩ := right_ok w (by omega)
  obtain ⟨ls2, at2, e2, w2⟩ := right_ok w1 (by omega)
  obtain ⟨ls3, at3, e3, w3⟩ := right_ok w2 (by omega)
  have e4 := by_hand (cs := cs) (ls := ls3) (at_ := at3)
  have hu : forL [] (nameG 2) (ifS (notB (truB (callF f__law_right (consA (varF 1) nilA)))) (retS (cF (.bl false))) skipS) (upto 0 3) [some (.p (.scr ns)), some (.loc 1), none] (St cs ls 0 []) = .nx [some (.p (.scr ns)), some (.loc 1), some (.p (.int 2))] (St cs ls3 at3 []) := by
    rw [show upto 0 3 = [.int 0, .int 1, .int 2] from rfl]
    simp -implicitDefEqProofs only [ev_var0, ev_vars, ev_c, ev_nil, pures_nil, pures_cons, opt_some, optB_some, optU_some, deref_p, op2V_pp, op1V_p, blV_1, blV_2, blV_3, dC_pp, chK_f, andBK_t, andBK_f, orBK_t, orBK_f, truV_p, truD_bl, truD_int, truD_tup, truD_lst, andK_t, andK_f, orK_t, orK_f, notK_b, ifFK_t, ifFK_f, ixV_pp, ixD_t, ixD_k, ixD_l, atI_0, atI_1, atI_2, atI_3, isV_int, isV_bl, isV_non, isV_str, isV_tup, isV_lst, isV_kup, slV_p, ev_noO, sooK_i, ev_seq, sqK_nx, sqK_rt, sqK_ex, sqK_bk, sqK_ct, ev_skip, ev_retN, ifK_t, ifK_f, asK_s, ev_nameG, ev_tupG, ev_tupGk, ev_consG, ev_nilG, parK_2, par3K_3, putK_p, pmK_s, thawK_l, ev_newT, ev_newK, mtK2_s, exit_p, exit_nx, exit_ex, rsK_1, ev_word, wdK_ok, wdK_exc, wdT_s, ev_heard, hdK_ok, hdK_exc, hdT_s, hdI_s, its_fii, its_fi, srV_1, srK_s, srcL, srcT, wkK_s, wkU_t, wkU_l, wkU_s, zpK_tt, zpK_ll, grd_nil, flK_s, le_nx, le_ct, le_bk, le_rt, le_ex, consK2_k, consK2_x, consK1_k, consK1_x, tupK_k, tupK_x, lstK_k, lstK_x, op2B_k, op2B_x, op2A_k, op2A_x, op1A_k, op1A_x, blA_k, blA_x, cmpK_k, cmpK_x, cmpA_k, cmpA_x, valK_k, valK_x, chC_k, chC_x, chB_k, chB_x, chA_k, chA_x, andBA_k, andBA_x, orBA_k, orBA_x, notBA_k, notBA_x, truA_k, truA_x, andA_k, andA_x, orA_k, orA_x, notA_k, notA_x, ifFA_k, ifFA_x, ixB_k, ixB_x, ixA_k, ixA_x, isA_k, isA_x, slC_k, slC_x, slB_k, slB_x, slA_k, slA_x, sooA_k, sooA_x, exprA_k, exprA_x, retA_k, retA_x, ifA_k, ifA_x, setA__k, setA__x, asgA_k, asgA_x, parA_k, parA_x, par3A_k, par3A_x, putC_k, putC_x, putB_k, putB_x, putA_k, putA_x, thawA_k, thawA_x, mtA_k, mtA_x, mtB_k, mtB_x, dispA_k, dispA_x, callA_k, callA_x, raiseA_k, raiseA_x, srA_k, srA_x, seqA_k, seqA_x, r1A_k, r1A_x, r2A_k, r2A_x, zpA_k, zpA_x, forA_k, forA_x, lcA_k, lcA_x, chK_t, mtK_t, ev_cons, ev_tup, ev_lst, ev_op2, ev_op1, ev_bl, ev_cmp, ev_val, ev_chain, ev_andB, ev_orB, ev_notB, ev_tru, ev_and, ev_or, ev_not, ev_ifF, ev_ix, ev_is, ev_sl, ev_someO, ev_expr, ev_ret, ev_if, ev_set, ev_asg, ev_par, ev_par3, ev_put, ev_thaw, ev_meth, ev_disp, ev_call, ev_raise, ev_sorted, ev_seqI, ev_rng1, ev_rng2, ev_zip, ev_for, ev_lc, lcC_k, lcS_k, lcT_t, lcT_f, lcB_k, ev_yes, entG, List.map_cons, List.map_nil, List.length_cons, List.length_nil, List.cons_append, List.nil_append, List.append_nil, List.set_cons_zero, List.set_cons_succ, List.replicate_zero, List.replicate_succ, Nat.reduceAdd, Nat.reduceSub, Option.map_some, Option.bind_some, Option.map_none, Option.bind_none, List.take_length, Bool.not_true, Bool.not_false, Nat.zero_add, Nat.sub_self, Nat.reduceMul, List.take_left, List.isEmpty_cons, List.isEmpty_nil, ↓reduceIte, Nat.reduceLT, for_nil, for_cons, lc_nil, lc_cons, e1, e2, e3]
  refine ⟨[], ?_⟩
  rw [f_law, ev_fn]
  simp -implicitDefEqProofs (disch := first | omega | assumption | decide | (simp; done)) only [ev_var0, ev_vars, ev_c, ev_nil, pures_nil, pures_cons, opt_some, optB_some, optU_some, deref_p, op2V_pp, op1V_p, blV_1, blV_2, blV_3, dC_pp, chK_f, andBK_t, andBK_f, orBK_t, orBK_f, truV_p, truD_bl, truD_int, truD_tup, truD_lst, andK_t, andK_f, orK_t, orK_f, notK_b, ifFK_t, ifFK_f, ixV_pp, ixD_t, ixD_k, ixD_l, atI_0, atI_1, atI_2, atI_3, isV_int, isV_bl, isV_non, isV_str, isV_tup, isV_lst, isV_kup, slV_p, ev_noO, sooK_i, ev_seq, sqK_nx, sqK_rt, sqK_ex, sqK_bk, sqK_ct, ev_skip, ev_retN, ifK_t, ifK_f, asK_s, ev_nameG, ev_tupG, ev_tupGk, ev_consG, ev_nilG, parK_2, par3K_3, putK_p, pmK_s, thawK_l, ev_newT, ev_newK, mtK2_s, exit_p, exit_nx, exit_ex, rsK_1, ev_word, wdK_ok, wdK_exc, wdT_s, ev_heard, hdK_ok, hdK_exc, hdT_s, hdI_s, its_fii, its_fi, srV_1, srK_s, srcL, srcT, wkK_s, wkU_t, wkU_l, wkU_s, zpK_tt, zpK_ll, grd_nil, flK_s, le_nx, le_ct, le_bk, le_rt, le_ex, consK2_k, consK2_x, consK1_k, consK1_x, tupK_k, tupK_x, lstK_k, lstK_x, op2B_k, op2B_x, op2A_k, op2A_x, op1A_k, op1A_x, blA_k, blA_x, cmpK_k, cmpK_x, cmpA_k, cmpA_x, valK_k, valK_x, chC_k, chC_x, chB_k, chB_x, chA_k, chA_x, andBA_k, andBA_x, orBA_k, orBA_x, notBA_k, notBA_x, truA_k, truA_x, andA_k, andA_x, orA_k, orA_x, notA_k, notA_x, ifFA_k, ifFA_x, ixB_k, ixB_x, ixA_k, ixA_x, isA_k, isA_x, slC_k, slC_x, slB_k, slB_x, slA_k, slA_x, sooA_k, sooA_x, exprA_k, exprA_x, retA_k, retA_x, ifA_k, ifA_x, setA__k, setA__x, asgA_k, asgA_x, parA_k, parA_x, par3A_k, par3A_x, putC_k, putC_x, putB_k, putB_x, putA_k, putA_x, thawA_k, thawA_x, mtA_k, mtA_x, mtB_k, mtB_x, dispA_k, dispA_x, callA_k, callA_x, raiseA_k, raiseA_x, srA_k, srA_x, seqA_k, seqA_x, r1A_k, r1A_x, r2A_k, r2A_x, zpA_k, zpA_x, forA_k, forA_x, lcA_k, lcA_x, chK_t, mtK_t, ev_cons, ev_tup, ev_lst, ev_op2, ev_op1, ev_bl, ev_cmp, ev_val, ev_chain, ev_andB, ev_orB, ev_notB, ev_tru, ev_and, ev_or, ev_not, ev_ifF, ev_ix, ev_is, ev_sl, ev_someO, ev_expr, ev_ret, ev_if, ev_set, ev_asg, ev_par, ev_par3, ev_put, ev_thaw, ev_meth, ev_disp, ev_call, ev_raise, ev_sorted, ev_seqI, ev_rng1, ev_rng2, ev_zip, ev_for, ev_lc, lcC_k, lcS_k, lcT_t, lcT_f, lcB_k, ev_yes, entG, List.map_cons, List.map_nil, List.length_cons, List.length_nil, List.cons_append, List.nil_append, List.append_nil, List.set_cons_zero, List.set_cons_succ, List.replicate_zero, List.replicate_succ, Nat.reduceAdd, Nat.reduceSub, Option.map_some, Option.bind_some, Option.map_none, Option.bind_none, List.take_length, Bool.not_true, Bool.not_false, Nat.zero_add, Nat.sub_self, Nat.reduceMul, List.take_left, List.isEmpty_cons, List.isEmpty_nil, ↓reduceIte, Nat.reduceLT, b_law, e0, r1K_i, Int.reduceToNat]
  rw [hu]
  simp -implicitDefEqProofs only [ev_var0, ev_vars, ev_c, ev_nil, pures_nil, pures_cons, opt_some, optB_some, optU_some, deref_p, op2V_pp, op1V_p, blV_1, blV_2, blV_3, dC_pp, chK_f, andBK_t, andBK_f, orBK_t, orBK_f, truV_p, truD_bl, truD_int, truD_tup, truD_lst, andK_t, andK_f, orK_t, orK_f, notK_b, ifFK_t, ifFK_f, ixV_pp, ixD_t, ixD_k, ixD_l, atI_0, atI_1, atI_2, atI_3, isV_int, isV_bl, isV_non, isV_str, isV_tup, isV_lst, isV_kup, slV_p, ev_noO, sooK_i, ev_seq, sqK_nx, sqK_rt, sqK_ex, sqK_bk, sqK_ct, ev_skip, ev_retN, ifK_t, ifK_f, asK_s, ev_nameG, ev_tupG, ev_tupGk, ev_consG, ev_nilG, parK_2, par3K_3, putK_p, pmK_s, thawK_l, ev_newT, ev_newK, mtK2_s, exit_p, exit_nx, exit_ex, rsK_1, ev_word, wdK_ok, wdK_exc, wdT_s, ev_heard, hdK_ok, hdK_exc, hdT_s, hdI_s, its_fii, its_fi, srV_1, srK_s, srcL, srcT, wkK_s, wkU_t, wkU_l, wkU_s, zpK_tt, zpK_ll, grd_nil, flK_s, le_nx, le_ct, le_bk, le_rt, le_ex, consK2_k, consK2_x, consK1_k, consK1_x, tupK_k, tupK_x, lstK_k, lstK_x, op2B_k, op2B_x, op2A_k, op2A_x, op1A_k, op1A_x, blA_k, blA_x, cmpK_k, cmpK_x, cmpA_k, cmpA_x, valK_k, valK_x, chC_k, chC_x, chB_k, chB_x, chA_k, chA_x, andBA_k, andBA_x, orBA_k, orBA_x, notBA_k, notBA_x, truA_k, truA_x, andA_k, andA_x, orA_k, orA_x, notA_k, notA_x, ifFA_k, ifFA_x, ixB_k, ixB_x, ixA_k, ixA_x, isA_k, isA_x, slC_k, slC_x, slB_k, slB_x, slA_k, slA_x, sooA_k, sooA_x, exprA_k, exprA_x, retA_k, retA_x, ifA_k, ifA_x, setA__k, setA__x, asgA_k, asgA_x, parA_k, parA_x, par3A_k, par3A_x, putC_k, putC_x, putB_k, putB_x, putA_k, putA_x, thawA_k, thawA_x, mtA_k, mtA_x, mtB_k, mtB_x, dispA_k, dispA_x, callA_k, callA_x, raiseA_k, raiseA_x, srA_k, srA_x, seqA_k, seqA_x, r1A_k, r1A_x, r2A_k, r2A_x, zpA_k, zpA_x, forA_k, forA_x, lcA_k, lcA_x, chK_t, mtK_t, ev_cons, ev_tup, ev_lst, ev_op2, ev_op1, ev_bl, ev_cmp, ev_val, ev_chain, ev_andB, ev_orB, ev_notB, ev_tru, ev_and, ev_or, ev_not, ev_ifF, ev_ix, ev_is, ev_sl, ev_someO, ev_expr, ev_ret, ev_if, ev_set, ev_asg, ev_par, ev_par3, ev_put, ev_thaw, ev_meth, ev_disp, ev_call, ev_raise, ev_sorted, ev_seqI, ev_rng1, ev_rng2, ev_zip, ev_for, ev_lc, lcC_k, lcS_k, lcT_t, lcT_f, lcB_k, ev_yes, entG, List.map_cons, List.map_nil, List.length_cons, List.length_nil, List.cons_append, List.nil_append, List.append_nil, List.set_cons_zero, List.set_cons_succ, List.replicate_zero, List.replicate_succ, Nat.reduceAdd, Nat.reduceSub, Option.map_some, Option.bind_some, Option.map_none, Option.bind_none, List.take_length, Bool.not_true, Bool.not_false, Nat.zero_add, Nat.sub_self, Nat.reduceMul, List.take_left, List.isEmpty_cons, List.isEmpty_nil, ↓reduceIte, Nat.reduceLT, e4]
  rfl
end K_whole
theorem PySem.Challenge.cw_allislands_k03_whole_directions_in_order_holds : PySem.Challenge.rw_allislands_k03_whole_directions_in_order.Holds :=
  K_whole.holds K_whole.truth
