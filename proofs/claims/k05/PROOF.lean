import PyProof.Rows.All
import Wide.All
import OpenK.AllK
import Wide.FinOn
import HandS.ForMost
import HandS.ForExc
import HandS.CallSlots
import HandS.Lambda
import HandS.Wide
import HandS.IsInst
import HandS.TupLe
import HandS.TupAny
import HandS.TupMul
import HandS.Style
import HandS.Deep
import HandS.Flow
import HandS.ExcInit
import KE.KExcInit
import HandS.ExcValue
import HandS.ExcIs
import KE.KExcIs
import HandS.RaiseMore
import HandS.Dict
import HandS.SetFor
import HandS.TryOnly
import PySem.Challenge.RW_carrynet_k05_errors_by_hand
set_option Elab.async false
set_option linter.all false
set_option maxRecDepth 100000
set_option maxHeartbeats 2000000
/-! Ve: values as trees, lists and dicts that change in a store; a def's plain mirror and its proof by rules over HandS. -/
namespace Ve
open PySem PySem.Spec PyProof.Rows L2

/-- a value: tuples and lists that nobody changes are trees; loc n: what stands at place n of the store -/
inductive AV where
  | non | bl (b : Bool) | int (i : Int) | str (x : Str) | tup (xs : List AV) | lst (xs : List AV) | scr (ns : List Int) | exc (C : Nat) (ns : List Str) (vs : List AV) | dc0 | loc (n : Nat) | at (j : Nat) | ty (n : String)
inductive Ob where
  | lst (xs : List AV) | dK (kvs : List (Key × AV)) | dT (kvs : List (List Key × AV))
abbrev Sl := L2.St
abbrev Store := List Ob
abbrev Ev := List (Option AV)

inductive Res (α : Type) where
  | ok (v : α) (S : Store) | rse (C : Nat) (ns : List Str) (fs : List AV) (S : Store) | bad
def Res.bind {α β : Type} (r : Res α) (k : α → Store → Res β) : Res β :=
  match r with
  | .ok v S => k v S
  | .rse C ns fs S => .rse C ns fs S
  | .bad => .bad
inductive SR where
  | nx (env : Ev) (S : Store) | rt (v : AV) (S : Store) | bk (env : Ev) (S : Store) | ct (env : Ev) (S : Store) | rse (C : Nat) (ns : List Str) (fs : List AV) (env : Ev) (S : Store) | bad
abbrev ME := Ev → Store → Res AV
abbrev MT := Ev → Store → Res Bool
abbrev MA := Ev → Store → Res (List AV)
abbrev MS := Ev → Store → SR
abbrev Fn := List AV → Store → Res AV

/-! ### how values stand -/
/-- the tables of code objects that may grow; the classes of errors by their numbers -/
structure Tb where
  tb : List (Addr × Str)
  cm : Nat → Addr
/-- an exception that is kept: its class, its own dict -/
def excO (a C d : Addr) : HO := .ext fun h => ∃ (oe : Obj) (vs : Array Value), h.get? a = some oe ∧ oe.cls = .ref C ∧ oe.dict = some d ∧ oe.data = .fields vs
/-- a list that is read and stays: tracked or locked, or one of the module's own -/
def RdL (K : PySem.W.Frag) (H : Hp) (a : Addr) (vs : List V) : Prop := Rd H a (.lst vs) ∨ ∃ (its : List Value) (n : Nat), K.lookup a = some { cls := .type "list", data := .seq its.toArray n } ∧ Vals vs its ∧ vs.length ≤ sizeLine
theorem RdL.sq {K : PySem.W.Frag} {H : Hp} {a : Addr} {vs : List V} (h : RdL K H a vs) : SqL K H a vs := by
  rcases h with h | ⟨its, n, h1, h2, h3⟩
  · exact .inl h
  · exact .inr ⟨_, its.toArray, n, h1, rfl, rfl, rfl, by rw [List.size_toArray, ← Paired.length h2]; exact h3, by simpa using h2⟩
/-- the script: a locked list of ints -/
def IsScr (K : PySem.W.Frag) (H : Hp) (a : Addr) (ns : List Int) : Prop := (∃ o, H a = some (.frz o (.lst (ns.map V.int)))) ∨ ∃ (its : List Value) (n : Nat), K.lookup a = some { cls := .type "list", data := .seq its.toArray n } ∧ Vals (ns.map V.int) its ∧ (ns.map V.int).length ≤ sizeLine
theorem IsScr.rd {K : PySem.W.Frag} {H : Hp} {a : Addr} {ns : List Int} (h : IsScr K H a ns) : RdL K H a (ns.map V.int) := h.imp (fun q => .inr q) id
mutual
inductive RV (T : Tb) (K : PySem.W.Frag) (ρ : List Addr) (H : Hp) : AV → V → Prop
  | non : RV T K ρ H .non .non
  | bl (b : Bool) : RV T K ρ H (.bl b) (.bl b)
  | int (i : Int) : RV T K ρ H (.int i) (.int i)
  | str (x : Str) : RV T K ρ H (.str x) (.str x)
  | ty (n : String) : RV T K ρ H (.ty n) (.ty n)
  | at (j : Nat) : RV T K ρ H (.at j) (.ref (T.cm j))
  | tup {xs : List AV} {a : Addr} {vs : List V} : SqT K H a vs → RVs T K ρ H xs vs → RV T K ρ H (.tup xs) (.ref a)
  | lst {xs : List AV} {a : Addr} {vs : List V} : a ∉ ρ → H a = some (.lst vs) → RVs T K ρ H xs vs → RV T K ρ H (.lst xs) (.ref a)
  | scr {ns : List Int} {a : Addr} : IsScr K H a ns → RV T K ρ H (.scr ns) (.ref a)
  | exc {C : Nat} {a d : Addr} {ns : List Str} {vs : List AV} {ws : List V} : a ∉ ρ → d ∉ ρ → H a = some (excO a (T.cm C) d) → H d = some (.xd (ns.zip ws)) → RVs T K ρ H vs ws → RV T K ρ H (.exc C ns vs) (.ref a)
  | dc0 {a : Addr} : a ∉ ρ → H a = some (.dK []) → RV T K ρ H .dc0 (.ref a)
  | loc {n : Nat} {a : Addr} : ρ[n]? = some a → RV T K ρ H (.loc n) (.ref a)
inductive RVs (T : Tb) (K : PySem.W.Frag) (ρ : List Addr) (H : Hp) : List AV → List V → Prop
  | nil : RVs T K ρ H [] []
  | cons {x : AV} {v : V} {xs : List AV} {vs : List V} : RV T K ρ H x v → RVs T K ρ H xs vs → RVs T K ρ H (x :: xs) (v :: vs)
end

/-- later: more places in the store; what stands beside it stays -/
structure Ext (ρ : List Addr) (H : Hp) (ρ' : List Addr) (H' : Hp) : Prop where
  pre : ∃ l, ρ' = ρ ++ l
  new : ∀ p, p ∈ ρ' → p ∉ ρ → H p = none
  keep : ∀ a o, a ∉ ρ → (∀ ps, o ≠ .tbl ps) → H a = some o → H' a = some o
  tups : ∀ a xs, H a = some (.tup xs) → H' a = some (.tup xs)
  frzs : ∀ a o u, H a = some (.frz o u) → H' a = some (.frz o u)
  tbls : ∀ a ps, H a = some (.tbl ps) → ∃ more, H' a = some (.tbl (ps ++ more))
theorem Ext.refl (ρ : List Addr) (H : Hp) : Ext ρ H ρ H :=
  ⟨⟨[], by simp⟩, fun _ h n => absurd h n, fun _ _ _ _ h => h, fun _ _ h => h, fun _ _ _ h => h, fun _ ps h => ⟨#[], by rw [h]; simp⟩⟩
theorem Ext.mem {ρ ρ' : List Addr} {H H' : Hp} (e : Ext ρ H ρ' H') {p : Addr} (h : p ∈ ρ) : p ∈ ρ' := by
  obtain ⟨l, q⟩ := e.pre
  rw [q]; exact List.mem_append_left _ h
theorem Ext.get {ρ ρ' : List Addr} {H H' : Hp} (e : Ext ρ H ρ' H') {n : Nat} {a : Addr} (h : ρ[n]? = some a) : ρ'[n]? = some a := by
  obtain ⟨l, q⟩ := e.pre
  rw [q, List.getElem?_append_left (List.getElem?_eq_some_iff.mp h).1]; exact h
theorem Ext.out {ρ ρ' : List Addr} {H H' : Hp} (e : Ext ρ H ρ' H') {a : Addr} {o : HO} (n : a ∉ ρ) (h : H a = some o) : a ∉ ρ' := fun hm => by
  have := e.new a hm n
  rw [h] at this; cases this
theorem Ext.live {ρ ρ' : List Addr} {H H' : Hp} (e : Ext ρ H ρ' H') {a : Addr} {o : HO} (n : a ∉ ρ) (h : H a = some o) : ∃ o', H' a = some o' := by
  by_cases ht : ∃ ps, o = .tbl ps
  · obtain ⟨ps, rfl⟩ := ht
    obtain ⟨m, q⟩ := e.tbls a ps h
    exact ⟨_, q⟩
  · exact ⟨o, e.keep a o n (fun ps z => ht ⟨ps, z⟩) h⟩
theorem Ext.trans {ρ ρ1 ρ2 : List Addr} {H H1 H2 : Hp} (a : Ext ρ H ρ1 H1) (b : Ext ρ1 H1 ρ2 H2) : Ext ρ H ρ2 H2 where
  pre := by
    obtain ⟨l, q⟩ := a.pre
    obtain ⟨m, r⟩ := b.pre
    exact ⟨l ++ m, by rw [r, q, List.append_assoc]⟩
  new := fun p h n => by
    by_cases h1 : p ∈ ρ1
    · exact a.new p h1 n
    · have z := b.new p h h1
      cases q : H p with
      | none => rfl
      | some o =>
        obtain ⟨o', q'⟩ := a.live n q
        rw [z] at q'; cases q'
  keep := fun x o n nt h => b.keep x o (a.out n h) nt (a.keep x o n nt h)
  tups := fun x xs h => b.tups x xs (a.tups x xs h)
  frzs := fun x o u h => b.frzs x o u (a.frzs x o u h)
  tbls := fun x ps h => by
    obtain ⟨m, q⟩ := a.tbls x ps h
    obtain ⟨m2, r⟩ := b.tbls x _ q
    exact ⟨m ++ m2, by rw [r, Array.append_assoc]⟩

section
variable {T : Tb} {K : PySem.W.Frag} {ρ ρ' : List Addr} {H H' : Hp}
theorem Ext.sqT (e : Ext ρ H ρ' H') {a : Addr} {vs : List V} (h : SqT K H a vs) : SqT K H' a vs := by
  rcases h with (h | ⟨o, h⟩) | h
  · exact .inl (.inl (e.tups _ _ h))
  · exact .inl (.inr ⟨o, e.frzs _ _ _ h⟩)
  · exact .inr h
theorem Ext.keepL (e : Ext ρ H ρ' H') {a : Addr} {vs : List V} (n : a ∉ ρ) (h : H a = some (.lst vs)) : H' a = some (.lst vs) := e.keep _ _ n (fun _ z => nomatch z) h
theorem Ext.keepD (e : Ext ρ H ρ' H') {a : Addr} {vs : List (Key × V)} (n : a ∉ ρ) (h : H a = some (.dK vs)) : H' a = some (.dK vs) := e.keep _ _ n (fun _ z => nomatch z) h
theorem Ext.keepX (e : Ext ρ H ρ' H') {a : Addr} {fs : List (Str × V)} (n : a ∉ ρ) (h : H a = some (.xd fs)) : H' a = some (.xd fs) := e.keep _ _ n (fun _ z => nomatch z) h
theorem Ext.keepE (e : Ext ρ H ρ' H') {a b C d : Addr} (n : a ∉ ρ) (h : H a = some (excO b C d)) : H' a = some (excO b C d) := e.keep _ _ n (fun _ z => by
  have z' : HO.ext _ = HO.tbl _ := z
  cases z') h
theorem Ext.scr (e : Ext ρ H ρ' H') {a : Addr} {ns : List Int} (h : IsScr K H a ns) : IsScr K H' a ns := h.imp (fun ⟨o, q⟩ => ⟨o, e.frzs _ _ _ q⟩) id
mutual
theorem RV.mono_ : ∀ {x : AV} {v : V}, RV T K ρ H x v → Ext ρ H ρ' H' → RV T K ρ' H' x v
  | _, _, .non, _ => .non
  | _, _, .bl b, _ => .bl b
  | _, _, .int i, _ => .int i
  | _, _, .str s, _ => .str s
  | _, _, .ty n, _ => .ty n
  | _, _, .at a, _ => .at a
  | _, _, .tup h r, e => .tup (e.sqT h) (RVs.mono_ r e)
  | _, _, .lst n h r, e => .lst (e.out n h) (e.keepL n h) (RVs.mono_ r e)
  | _, _, .scr h, e => .scr (e.scr h)
  | _, _, .exc n1 n2 h1 h2 r, e => .exc (e.out n1 h1) (e.out n2 h2) (e.keepE n1 h1) (e.keepX n2 h2) (RVs.mono_ r e)
  | _, _, .dc0 n h, e => .dc0 (e.out n h) (e.keepD n h)
  | _, _, .loc h, e => .loc (e.get h)
theorem RVs.mono_ : ∀ {xs : List AV} {vs : List V}, RVs T K ρ H xs vs → Ext ρ H ρ' H' → RVs T K ρ' H' xs vs
  | _, _, .nil, _ => .nil
  | _, _, .cons h r, e => .cons (RV.mono_ h e) (RVs.mono_ r e)
end
theorem RV.mono (e : Ext ρ H ρ' H') {x : AV} {v : V} (r : RV T K ρ H x v) : RV T K ρ' H' x v := r.mono_ e
theorem RVs.mono (e : Ext ρ H ρ' H') {x : List AV} {v : List V} (r : RVs T K ρ H x v) : RVs T K ρ' H' x v := r.mono_ e
theorem RVs.length : ∀ {xs : List AV} {vs : List V}, RVs T K ρ H xs vs → xs.length = vs.length
  | _, _, .nil => rfl
  | _, _, .cons _ r => congrArg (· + 1) (RVs.length r)
theorem RVs.get : ∀ {xs : List AV} {vs : List V} {i : Nat} {x : AV}, RVs T K ρ H xs vs → xs[i]? = some x → ∃ v, vs[i]? = some v ∧ RV T K ρ H x v
  | _, _, _, _, .nil, e => by simp at e
  | _, _, 0, x, .cons h _, e => by simp at e; subst e; exact ⟨_, rfl, h⟩
  | _, _, i + 1, x, .cons _ r, e => by
    obtain ⟨v, q, s⟩ := RVs.get (i := i) (x := x) r (by simpa using e)
    exact ⟨v, by simpa using q, s⟩
theorem RVs.getV : ∀ {xs : List AV} {vs : List V} {i : Nat} {v : V}, RVs T K ρ H xs vs → vs[i]? = some v → ∃ x, xs[i]? = some x ∧ RV T K ρ H x v
  | _, _, _, _, .nil, e => by simp at e
  | _, _, 0, x, .cons h _, e => by simp at e; subst e; exact ⟨_, rfl, h⟩
  | _, _, i + 1, x, .cons _ r, e => by
    obtain ⟨v, q, s⟩ := RVs.getV (i := i) (v := x) r (by simpa using e)
    exact ⟨v, by simpa using q, s⟩
theorem RVs.append : ∀ {xs ys : List AV} {vs ws : List V}, RVs T K ρ H xs vs → RVs T K ρ H ys ws → RVs T K ρ H (xs ++ ys) (vs ++ ws)
  | _, _, _, _, .nil, s => s
  | _, _, _, _, .cons h r, s => .cons h (RVs.append r s)
theorem RVs.take : ∀ {xs : List AV} {vs : List V} (n : Nat), RVs T K ρ H xs vs → RVs T K ρ H (xs.take n) (vs.take n)
  | _, _, 0, _ => .nil
  | _, _, _ + 1, .nil => .nil
  | _, _, n + 1, .cons h r => .cons h (RVs.take n r)
theorem RVs.drop : ∀ {xs : List AV} {vs : List V} (n : Nat), RVs T K ρ H xs vs → RVs T K ρ H (xs.drop n) (vs.drop n)
  | _, _, 0, r => r
  | _, _, _ + 1, .nil => .nil
  | _, _, n + 1, .cons _ r => RVs.drop n r
theorem RVs.reverse : ∀ {xs : List AV} {vs : List V}, RVs T K ρ H xs vs → RVs T K ρ H xs.reverse vs.reverse
  | _, _, .nil => .nil
  | _, _, .cons h r => by rw [List.reverse_cons, List.reverse_cons]; exact (RVs.reverse r).append (.cons h .nil)
theorem RVs.set {x : AV} {v : V} (h : RV T K ρ H x v) : ∀ {xs : List AV} {vs : List V} (i : Nat), RVs T K ρ H xs vs → RVs T K ρ H (xs.set i x) (vs.set i v)
  | _, _, _, .nil => .nil
  | _, _, 0, .cons _ r => .cons h r
  | _, _, i + 1, .cons h' r => .cons h' (RVs.set h i r)
theorem RVs.eraseIdx : ∀ {xs : List AV} {vs : List V} (i : Nat), RVs T K ρ H xs vs → RVs T K ρ H (xs.eraseIdx i) (vs.eraseIdx i)
  | _, _, _, .nil => .nil
  | _, _, 0, .cons _ r => r
  | _, _, i + 1, .cons h r => .cons h (RVs.eraseIdx i r)
theorem RVs.inv_int : ∀ {ns : List Int} {vs : List V}, RVs T K ρ H (ns.map AV.int) vs → vs = ns.map V.int
  | [], _, .nil => rfl
  | n :: ns, _, .cons h r => by
    cases h
    rw [RVs.inv_int r]; rfl
theorem RVs.ints : ∀ (ns : List Int), RVs T K ρ H (ns.map AV.int) (ns.map V.int)
  | [] => .nil
  | n :: ns => .cons (.int n) (RVs.ints ns)
end

/-! ### the store -/
def RKV (T : Tb) (K : PySem.W.Frag) (ρ : List Addr) (H : Hp) {κ : Type} : List (κ × AV) → List (κ × V) → Prop := Paired fun p q => p.1 = q.1 ∧ RV T K ρ H p.2 q.2
theorem RKV.mono {T : Tb} {K : PySem.W.Frag} {ρ ρ' : List Addr} {H H' : Hp} {κ : Type} (e : Ext ρ H ρ' H') {xs : List (κ × AV)} {ys : List (κ × V)} (h : RKV T K ρ H xs ys) : RKV T K ρ' H' xs ys :=
  Paired.mapP h fun _ _ q => ⟨q.1, q.2.mono e⟩
def ROb (T : Tb) (K : PySem.W.Frag) (ρ : List Addr) (H : Hp) (a : Addr) : Ob → Prop
  | .lst xs => ∃ vs, H a = some (.lst vs) ∧ RVs T K ρ H xs vs
  | .dK kvs => ∃ ws, H a = some (.dK ws) ∧ RKV T K ρ H kvs ws
  | .dT kvs => ∃ ws, H a = some (.dT ws) ∧ RKV T K ρ H kvs ws
structure RSt (T : Tb) (K : PySem.W.Frag) (ρ : List Addr) (H : Hp) (S : Store) : Prop where
  len : ρ.length = S.length
  nd : ρ.Nodup
  ob : ∀ (n : Nat) (o : Ob), S[n]? = some o → ∃ a, ρ[n]? = some a ∧ ROb T K ρ H a o
  tabs : LamX.Tabs T.tb H
def REnv (T : Tb) (K : PySem.W.Frag) (ρ : List Addr) (H : Hp) (env : Ev) (σ : Sl) : Prop :=
  σ.length = env.length ∧ ∀ (i : Nat) v, env[i]? = some (some v) → ∃ u, σ[i]? = some (some u) ∧ RV T K ρ H v u
theorem REnv.mono {T : Tb} {K : PySem.W.Frag} {ρ ρ' : List Addr} {H H' : Hp} {env : Ev} {σ : Sl} (e : Ext ρ H ρ' H') (h : REnv T K ρ H env σ) : REnv T K ρ' H' env σ :=
  ⟨h.1, fun i v q => let ⟨u, a, b⟩ := h.2 i v q; ⟨u, a, b.mono e⟩⟩
theorem REnv.set {T : Tb} {K : PySem.W.Frag} {ρ : List Addr} {H : Hp} {env : Ev} {σ : Sl} (h : REnv T K ρ H env σ) {i : Nat} {v : AV} {u : V} (r : RV T K ρ H v u) : REnv T K ρ H (env.set i (some v)) (σ.set i (some u)) := by
  refine ⟨by simpa using h.1, fun j w q => ?_⟩
  by_cases e : i = j
  · subst e
    have hl : i < env.length := by
      have := (List.getElem?_eq_some_iff.mp q).1
      simpa using this
    rw [List.getElem?_set_self hl] at q
    cases q
    exact ⟨u, by rw [List.getElem?_set_self (by rw [h.1]; exact hl)], r⟩
  · rw [List.getElem?_set_ne e] at q
    rw [List.getElem?_set_ne e]
    exact h.2 j w q
theorem REnv.gone {T : Tb} {K : PySem.W.Frag} {ρ : List Addr} {H : Hp} {env : Ev} {σ : Sl} (h : REnv T K ρ H env σ) {i : Nat} {o : Option V} : REnv T K ρ H (env.set i none) (σ.set i o) := by
  refine ⟨by simpa using h.1, fun j w q => ?_⟩
  by_cases e : i = j
  · subst e
    have hl : i < env.length := by
      have := (List.getElem?_eq_some_iff.mp q).1
      simpa using this
    rw [List.getElem?_set_self hl] at q
    cases q
  · rw [List.getElem?_set_ne e] at q
    rw [List.getElem?_set_ne e]
    exact h.2 j w q
def RX (T : Tb) (K : PySem.W.Frag) (ρ : List Addr) (H : Hp) (d : Addr) (ns : List Str) (fs : List AV) : Prop := ∃ ws, H d = some (.xd (ns.zip ws)) ∧ d ∉ ρ ∧ RVs T K ρ H fs ws

/-! ### what a mirror's result asks of the walk -/
abbrev Rel (α β : Type) := Tb → PySem.W.Frag → List Addr → Hp → α → β → Prop
/-- relations that later states keep -/
def Rel.Mono {α β : Type} (R : Rel α β) : Prop := ∀ (T : Tb) (K : PySem.W.Frag) (ρ ρ' : List Addr) (H H' : Hp) (x : α) (y : β), Ext ρ H ρ' H' → R T K ρ H x y → R T K ρ' H' x y
def RB : Rel Bool Bool := fun _ _ _ _ x y => x = y
theorem RV.m : Rel.Mono RV := fun _ _ _ _ _ _ _ _ e h => RV.mono e h
theorem RVs.m : Rel.Mono RVs := fun _ _ _ _ _ _ _ _ e h => RVs.mono e h
theorem RB.m : Rel.Mono RB := fun _ _ _ _ _ _ _ _ _ h => h
def RP {α β : Type} (R : Rel α β) (T : Tb) (K : PySem.W.Frag) (W : WX) (σ : Sl) (ρ : List Addr) (H : Hp) (Q : β → Hp → Prop) : Res α → Prop
  | .ok v S' => ∀ ρ' H' u, Ext ρ H ρ' H' → RSt T K ρ' H' S' → R T K ρ' H' v u → Q u H'
  | .rse C ns fs S' => ∀ ρ' H' d, Ext ρ H ρ' H' → RSt T K ρ' H' S' → RX T K ρ' H' d ns fs → W (.ref (T.cm C)) (some d) σ H'
  | .bad => False
def RPS (T : Tb) (K : PySem.W.Frag) (W : WX) (ρ : List Addr) (H : Hp) (D : Ends) : SR → Prop
  | .nx env S' => ∀ ρ' H' σ', Ext ρ H ρ' H' → RSt T K ρ' H' S' → REnv T K ρ' H' env σ' → D.nx σ' H'
  | .rt v S' => ∀ ρ' H' u, Ext ρ H ρ' H' → RSt T K ρ' H' S' → RV T K ρ' H' v u → D.rt u H'
  | .bk env S' => ∀ ρ' H' σ', Ext ρ H ρ' H' → RSt T K ρ' H' S' → REnv T K ρ' H' env σ' → D.bk σ' H'
  | .ct env S' => ∀ ρ' H' σ', Ext ρ H ρ' H' → RSt T K ρ' H' S' → REnv T K ρ' H' env σ' → D.ct σ' H'
  | .rse C ns fs env S' => ∀ ρ' H' σ' d, Ext ρ H ρ' H' → RSt T K ρ' H' S' → REnv T K ρ' H' env σ' → RX T K ρ' H' d ns fs → W (.ref (T.cm C)) (some d) σ' H'
  | .bad => False
def bindM {α β : Type} (m : Ev → Store → Res α) (k : α → Ev → Store → Res β) : Ev → Store → Res β := fun env S => (m env S).bind fun v S1 => k v env S1
def pureM {α : Type} (v : α) : Ev → Store → Res α := fun _ S => .ok v S
def Res.toS {α : Type} (r : Res α) (env : Ev) (k : α → Store → SR) : SR :=
  match r with
  | .ok v S => k v S
  | .rse C ns fs S => .rse C ns fs env S
  | .bad => .bad
section
variable {α β γ δ : Type} {R : Rel α β} {R' : Rel γ δ} {T : Tb} {K : PySem.W.Frag} {W : WX} {σ : Sl} {ρ ρ1 : List Addr} {H H1 : Hp}
theorem RP.mono {Q : β → Hp → Prop} (e : Ext ρ H ρ1 H1) : ∀ {r : Res α}, RP R T K W σ ρ H Q r → RP R T K W σ ρ1 H1 Q r
  | .ok v S', h => fun ρ' H' u e' st rv => h ρ' H' u (e.trans e') st rv
  | .rse C ns fs S', h => fun ρ' H' d e' st rx => h ρ' H' d (e.trans e') st rx
  | .bad, h => h
theorem RP.imp {Q Q' : β → Hp → Prop} (hq : ∀ u H', Q u H' → Q' u H') : ∀ {r : Res α}, RP R T K W σ ρ H Q r → RP R T K W σ ρ H Q' r
  | .ok v S', h => fun ρ' H' u e' st rv => hq _ _ (h ρ' H' u e' st rv)
  | .rse C ns fs S', h => h
  | .bad, h => h
theorem RPS.mono {D : Ends} (e : Ext ρ H ρ1 H1) : ∀ {r : SR}, RPS T K W ρ H D r → RPS T K W ρ1 H1 D r
  | .nx env S', h => fun ρ' H' σ' e' st re => h ρ' H' σ' (e.trans e') st re
  | .rt v S', h => fun ρ' H' u e' st rv => h ρ' H' u (e.trans e') st rv
  | .bk env S', h => fun ρ' H' σ' e' st re => h ρ' H' σ' (e.trans e') st re
  | .ct env S', h => fun ρ' H' σ' e' st re => h ρ' H' σ' (e.trans e') st re
  | .rse C ns fs env S', h => fun ρ' H' σ' d e' st re rx => h ρ' H' σ' d (e.trans e') st re rx
  | .bad, h => h
/-- first r, then k -/
theorem RP.bind {Q : δ → Hp → Prop} {k : α → Store → Res γ} : ∀ {r : Res α}, RP R' T K W σ ρ H Q (r.bind k) →
    RP R T K W σ ρ H (fun u H1 => ∃ v S1 ρ1, Ext ρ H ρ1 H1 ∧ RSt T K ρ1 H1 S1 ∧ R T K ρ1 H1 v u ∧ RP R' T K W σ ρ1 H1 Q (k v S1)) r
  | .ok v S', h => fun ρ' H' u e st rv => ⟨v, S', ρ', e, st, rv, RP.mono e h⟩
  | .rse C ns fs S', h => h
  | .bad, h => h
theorem RP.toS {D : Ends} {env : Ev} {k : α → Store → SR} (re : REnv T K ρ H env σ) : ∀ {r : Res α}, RPS T K W ρ H D (r.toS env k) →
    RP R T K W σ ρ H (fun u H1 => ∃ v S1 ρ1, Ext ρ H ρ1 H1 ∧ RSt T K ρ1 H1 S1 ∧ R T K ρ1 H1 v u ∧ RPS T K W ρ1 H1 D (k v S1)) r
  | .ok v S', h => fun ρ' H' u e st rv => ⟨v, S', ρ', e, st, rv, RPS.mono e h⟩
  | .rse C ns fs S', h => fun ρ' H' d e st rx => h ρ' H' σ d e st (re.mono e) rx
  | .bad, h => h
/-- r is ok now -/
theorem RP.okN {Q : β → Hp → Prop} {v : α} {S : Store} {u : β} (h : RP R T K W σ ρ H Q (.ok v S)) (st : RSt T K ρ H S) (r : R T K ρ H v u) : Q u H := h ρ H u (Ext.refl _ _) st r
end

/-! ### new objects, objects that change -/
section
variable {T : Tb} {K : PySem.W.Frag} {ρ : List Addr} {H : Hp} {S : Store}
theorem RSt.ex (st : RSt T K ρ H S) {a : Addr} (h : a ∈ ρ) : ∃ o, H a = some o := by
  obtain ⟨n, hn, e⟩ := List.getElem_of_mem h
  obtain ⟨o, ho⟩ : ∃ o, S[n]? = some o := ⟨S[n]'(by rw [← st.len]; exact hn), List.getElem?_eq_getElem _⟩
  obtain ⟨a', e', r⟩ := st.ob n o ho
  have : a' = a := by
    rw [List.getElem?_eq_getElem hn] at e'
    rw [← e]; exact (Option.some.inj e').symm
  subst this
  cases o with
  | lst xs => obtain ⟨vs, q, _⟩ := r; exact ⟨_, q⟩
  | dK xs => obtain ⟨vs, q, _⟩ := r; exact ⟨_, q⟩
  | dT xs => obtain ⟨vs, q, _⟩ := r; exact ⟨_, q⟩
theorem RSt.out (st : RSt T K ρ H S) {p : Addr} (h : H p = none) : p ∉ ρ := fun hm => by
  obtain ⟨o, q⟩ := st.ex hm
  rw [h] at q; cases q
theorem ROb.mono {ρ' : List Addr} {H' : Hp} (e : Ext ρ H ρ' H') {a : Addr} (ha : H' a = H a) : ∀ {o : Ob}, ROb T K ρ H a o → ROb T K ρ' H' a o
  | .lst xs, ⟨vs, q, r⟩ => ⟨vs, ha.trans q, r.mono e⟩
  | .dK xs, ⟨vs, q, r⟩ => ⟨vs, ha.trans q, r.mono e⟩
  | .dT xs, ⟨vs, q, r⟩ => ⟨vs, ha.trans q, r.mono e⟩
theorem Ext.new1 {p : Addr} {o : HO} (h : H p = none) : Ext ρ H ρ (upd H p o) :=
  ⟨⟨[], by simp⟩, fun _ a b => absurd a b, fun a o' _ _ q => by rw [upd_ne (ne_of_none q h)]; exact q, fun a xs q => by rw [upd_ne (ne_of_none q h)]; exact q,
    fun a o' u q => by rw [upd_ne (ne_of_none q h)]; exact q, fun a ps q => ⟨#[], by rw [upd_ne (ne_of_none q h), q]; simp⟩⟩
theorem RSt.new1 (st : RSt T K ρ H S) {p : Addr} {o : HO} (h : H p = none) : RSt T K ρ (upd H p o) S := by
  refine ⟨st.len, st.nd, fun n o' q => ?_, st.tabs.ext fun b o' q => by rw [upd_ne (ne_of_none q h)]; exact q⟩
  obtain ⟨a, e, r⟩ := st.ob n o' q
  have ha : a ≠ p := fun z => st.out h (z ▸ List.mem_of_getElem? e)
  exact ⟨a, e, r.mono (Ext.new1 h) (upd_ne ha)⟩
theorem Ext.newL {p : Addr} {o : HO} (h : H p = none) : Ext ρ H (ρ ++ [p]) (upd H p o) :=
  ⟨⟨[p], rfl⟩, fun q a b => by
    rcases List.mem_append.mp a with z | z
    · exact absurd z b
    · rw [List.mem_singleton] at z; rw [z]; exact h, (Ext.new1 (ρ := ρ) h).keep, (Ext.new1 (ρ := ρ) h).tups, (Ext.new1 (ρ := ρ) h).frzs, (Ext.new1 (ρ := ρ) h).tbls⟩
theorem RSt.newL (st : RSt T K ρ H S) {p : Addr} {o : HO} {ob : Ob} (h : H p = none) (r : ROb T K (ρ ++ [p]) (upd H p o) p ob) : RSt T K (ρ ++ [p]) (upd H p o) (S ++ [ob]) := by
  have e := Ext.newL (ρ := ρ) (o := o) h
  have st' := st.new1 (o := o) h
  refine ⟨by simp [st.len], ?_, fun n o' q => ?_, st'.tabs⟩
  · rw [List.nodup_append]
    refine ⟨st.nd, by simp, fun a ha b hb z => ?_⟩
    rw [List.mem_singleton] at hb
    exact st.out h (by rw [← hb, ← z]; exact ha)
  · by_cases hn : n < S.length
    · rw [List.getElem?_append_left hn] at q
      obtain ⟨a, e', r'⟩ := st.ob n o' q
      have ha : a ≠ p := fun z => st.out h (z ▸ List.mem_of_getElem? e')
      exact ⟨a, by rw [List.getElem?_append_left (by rw [st.len]; exact hn)]; exact e', r'.mono e (upd_ne ha)⟩
    · rw [List.getElem?_append_right (by omega)] at q
      have h0 : n - S.length = 0 := by
        have := (List.getElem?_eq_some_iff.mp q).1
        simp at this; omega
      rw [h0] at q
      have q' : ob = o' := by simpa using q
      subst q'
      refine ⟨p, ?_, r⟩
      rw [List.getElem?_append_right (by rw [st.len]; omega), st.len, h0]; rfl
/-- a list or dict of the store is written -/
def Wr : HO → Prop
  | .lst _ => True
  | .dK _ => True
  | .dT _ => True
  | _ => False
theorem Ext.wr {p : Addr} {o o' : HO} (h : H p = some o) (w : Wr o) (m : p ∈ ρ) : Ext ρ H ρ (upd H p o') := by
  have ne : ∀ a u, H a = some u → ¬ Wr u → a ≠ p := fun a u q nw z => by subst z; rw [h] at q; cases q; exact nw w
  exact ⟨⟨[], by simp⟩, fun _ a b => absurd a b, fun a u n _ q => by rw [upd_ne (fun z => n (by rw [z]; exact m))]; exact q, fun a xs q => by rw [upd_ne (ne a _ q fun z => z)]; exact q,
    fun a u z q => by rw [upd_ne (ne a _ q fun z => z)]; exact q, fun a ps q => ⟨#[], by rw [upd_ne (ne a _ q fun z => z), q]; simp⟩⟩
theorem RSt.wr (st : RSt T K ρ H S) {n : Nat} {p : Addr} {o o' : HO} {ob : Ob} (hn : ρ[n]? = some p) (h : H p = some o) (w : Wr o) (r : ROb T K ρ (upd H p o') p ob) : RSt T K ρ (upd H p o') (S.set n ob) := by
  have m : p ∈ ρ := List.mem_of_getElem? hn
  have e : Ext ρ H ρ (upd H p o') := Ext.wr h w m
  have hlt : n < S.length := by rw [← st.len]; exact (List.getElem?_eq_some_iff.mp hn).1
  have ne : ∀ a u, H a = some u → ¬ Wr u → a ≠ p := fun a u q nw z => by subst z; rw [h] at q; cases q; exact nw w
  refine ⟨by simpa using st.len, st.nd, fun k u q => ?_, fun t ht => ?_⟩
  · by_cases hk : n = k
    · subst hk
      rw [List.getElem?_set_self hlt] at q
      cases q
      exact ⟨p, hn, r⟩
    · rw [List.getElem?_set_ne hk] at q
      obtain ⟨a, e', r'⟩ := st.ob k u q
      have ha : a ≠ p := fun z => by
        subst z
        obtain ⟨h1, e1⟩ := List.getElem?_eq_some_iff.mp hn
        obtain ⟨h2, e2⟩ := List.getElem?_eq_some_iff.mp e'
        exact hk ((List.getElem_inj st.nd).mp (e1.trans e2.symm))
      exact ⟨a, e', r'.mono e (upd_ne ha)⟩
  · obtain ⟨ps, a1, a2, a3⟩ := st.tabs t ht
    refine ⟨ps, by rw [upd_ne (ne _ _ a1 fun z => z)]; exact a1, a2, fun p' cv hcv => ?_⟩
    obtain ⟨c0, e1, e2⟩ := a3 p' cv hcv
    exact ⟨c0, e1, by rw [upd_ne (ne _ _ e2 fun z => z)]; exact e2⟩
end

/-! ### values without places of the store from b on -/
mutual
def AV.cl (b : Nat) : AV → Bool
  | .tup xs => clL b xs
  | .exc _ _ vs => clL b vs
  | .lst xs => clL b xs
  | .loc n => decide (n < b)
  | _ => true
def clL (b : Nat) : List AV → Bool
  | [] => true
  | x :: xs => x.cl b && clL b xs
end
def Ob.cl (b : Nat) : Ob → Bool
  | .lst xs => clL b xs
  | .dK kvs => clL b (kvs.map (·.2))
  | .dT kvs => clL b (kvs.map (·.2))
theorem clL_append (b : Nat) (xs ys : List AV) : clL b (xs ++ ys) = (clL b xs && clL b ys) := by
  induction xs with
  | nil => rfl
  | cons x xs ih => simp [clL, ih, Bool.and_assoc]
theorem clL_iff (b : Nat) (xs : List AV) : clL b xs = true ↔ ∀ x ∈ xs, x.cl b = true := by
  induction xs with
  | nil => simp [clL]
  | cons x xs ih => simp [clL, ih]
theorem clL_map_int (b : Nat) (ns : List Int) : clL b (ns.map AV.int) = true := by
  induction ns with
  | nil => rfl
  | cons x xs ih => simp [clL, AV.cl, ih]
mutual
theorem AV.cl_mono {b c : Nat} (h : b ≤ c) : ∀ (x : AV), x.cl b = true → x.cl c = true
  | .tup xs, q => by simp only [AV.cl] at *; exact clL_mono h xs q
  | .lst xs, q => by simp only [AV.cl] at *; exact clL_mono h xs q
  | .loc n, q => by simp only [AV.cl, decide_eq_true_eq] at *; omega
  | .non, _ => rfl
  | .bl _, _ => rfl
  | .int _, _ => rfl
  | .str _, _ => rfl
  | .dc0, _ => rfl
  | .scr _, _ => rfl
  | .exc _ _ vs, q => by simp only [AV.cl] at *; exact clL_mono h vs q
  | .at _, _ => rfl
  | .ty _, _ => rfl
theorem clL_mono {b c : Nat} (h : b ≤ c) : ∀ (xs : List AV), clL b xs = true → clL c xs = true
  | [], _ => rfl
  | x :: xs, q => by
    simp only [clL, Bool.and_eq_true] at *
    exact ⟨AV.cl_mono h x q.1, clL_mono h xs q.2⟩
end
section
variable {T : Tb} {K : PySem.W.Frag} {ρ : List Addr} {H : Hp}
mutual
theorem RV.cl : ∀ {x : AV} {v : V}, RV T K ρ H x v → x.cl ρ.length = true
  | _, _, .non => rfl
  | _, _, .bl b => rfl
  | _, _, .int i => rfl
  | _, _, .str s => rfl
  | _, _, .ty n => rfl
  | _, _, .at a => rfl
  | _, _, .dc0 _ _ => rfl
  | _, _, .scr _ => rfl
  | _, _, .exc _ _ _ _ r => by simp only [AV.cl]; exact RVs.cl r
  | _, _, .tup h r => by simp only [AV.cl]; exact RVs.cl r
  | _, _, .lst _ h r => by simp only [AV.cl]; exact RVs.cl r
  | _, _, .loc h => by simp only [AV.cl]; exact decide_eq_true (List.getElem?_eq_some_iff.mp h).1
theorem RVs.cl : ∀ {x : List AV} {v : List V}, RVs T K ρ H x v → clL ρ.length x = true
  | _, _, .nil => rfl
  | _, _, .cons h r => by simp only [clL, Bool.and_eq_true]; exact ⟨RV.cl h, RVs.cl r⟩
end
mutual
theorem RV.sub {b : Nat} {ρ2 : List Addr} (h1 : ∀ n, n < b → ρ2[n]? = ρ[n]?) (h2 : ∀ p, p ∈ ρ2 → p ∈ ρ) : ∀ {x : AV} {v : V}, RV T K ρ H x v → x.cl b = true → RV T K ρ2 H x v
  | _, _, .non, _ => .non
  | _, _, .bl b, _ => .bl b
  | _, _, .int i, _ => .int i
  | _, _, .str s, _ => .str s
  | _, _, .ty n, _ => .ty n
  | _, _, .at a, _ => .at a
  | _, _, .dc0 n h, _ => .dc0 (fun z => n (h2 _ z)) h
  | _, _, .scr h, _ => .scr h
  | _, _, .exc n1 n2 q1 q2 r, q => .exc (fun z => n1 (h2 _ z)) (fun z => n2 (h2 _ z)) q1 q2 (RVs.sub h1 h2 r (by simpa only [AV.cl] using q))
  | _, _, .tup h r, q => .tup h (RVs.sub h1 h2 r (by simpa only [AV.cl] using q))
  | _, _, .lst n h r, q => .lst (fun z => n (h2 _ z)) h (RVs.sub h1 h2 r (by simpa only [AV.cl] using q))
  | _, _, .loc h, q => .loc (by rw [h1 _ (of_decide_eq_true (by simpa only [AV.cl] using q))]; exact h)
theorem RVs.sub {b : Nat} {ρ2 : List Addr} (h1 : ∀ n, n < b → ρ2[n]? = ρ[n]?) (h2 : ∀ p, p ∈ ρ2 → p ∈ ρ) : ∀ {x : List AV} {v : List V}, RVs T K ρ H x v → clL b x = true → RVs T K ρ2 H x v
  | _, _, .nil, _ => .nil
  | _, _, .cons h r, q => by
    simp only [clL, Bool.and_eq_true] at q
    exact .cons (RV.sub h1 h2 h q.1) (RVs.sub h1 h2 r q.2)
end
theorem RKV.cl {κ : Type} {xs : List (κ × AV)} {ys : List (κ × V)} (h : RKV T K ρ H xs ys) : clL ρ.length (xs.map (·.2)) = true := by
  induction h with
  | nil => rfl
  | cons r _ ih => simp only [List.map_cons, clL, Bool.and_eq_true]; exact ⟨r.2.cl, ih⟩
theorem RKV.sub {κ : Type} {b : Nat} {ρ2 : List Addr} (h1 : ∀ n, n < b → ρ2[n]? = ρ[n]?) (h2 : ∀ p, p ∈ ρ2 → p ∈ ρ) {xs : List (κ × AV)} {ys : List (κ × V)} (h : RKV T K ρ H xs ys) : clL b (xs.map (·.2)) = true → RKV T K ρ2 H xs ys := by
  induction h with
  | nil => intro _; exact .nil
  | cons r _ ih =>
    intro q
    simp only [List.map_cons, clL, Bool.and_eq_true] at q
    exact .cons ⟨r.1, r.2.sub h1 h2 q.1⟩ (ih q.2)
theorem ROb.cl {a : Addr} : ∀ {o : Ob}, ROb T K ρ H a o → o.cl ρ.length = true
  | .lst xs, ⟨vs, q, r⟩ => r.cl
  | .dK xs, ⟨vs, q, r⟩ => r.cl
  | .dT xs, ⟨vs, q, r⟩ => r.cl
theorem ROb.sub {a : Addr} {b : Nat} {ρ2 : List Addr} (h1 : ∀ n, n < b → ρ2[n]? = ρ[n]?) (h2 : ∀ p, p ∈ ρ2 → p ∈ ρ) : ∀ {o : Ob}, ROb T K ρ H a o → o.cl b = true → ROb T K ρ2 H a o
  | .lst xs, ⟨vs, q, r⟩, h => ⟨vs, q, r.sub h1 h2 h⟩
  | .dK xs, ⟨vs, q, r⟩, h => ⟨vs, q, r.sub h1 h2 h⟩
  | .dT xs, ⟨vs, q, r⟩, h => ⟨vs, q, r.sub h1 h2 h⟩
end

/-! ### what a mirror leaves of the store below b -/
def TR (b : Nat) (S S' : Store) : Prop := S.length ≤ S'.length ∧ ∀ (n : Nat) (o o' : Ob), n < b → S[n]? = some o → S'[n]? = some o' → ∀ c, o.cl c = true → o'.cl c = true
theorem TR.refl (b : Nat) (S : Store) : TR b S S := ⟨Nat.le_refl _, fun n o o' _ h h' c q => by rw [h] at h'; cases h'; exact q⟩
theorem TR.trans {b : Nat} {S S1 S2 : Store} (x : TR b S S1) (y : TR b S1 S2) : TR b S S2 := by
  refine ⟨Nat.le_trans x.1 y.1, fun n o o' hb h h' c q => ?_⟩
  have hl : n < S1.length := Nat.lt_of_lt_of_le (List.getElem?_eq_some_iff.mp h).1 x.1
  exact y.2 n S1[n] o' hb (List.getElem?_eq_getElem hl) h' c (x.2 n o _ hb h (List.getElem?_eq_getElem hl) c q)
theorem TR.app (b : Nat) (S l : Store) : TR b S (S ++ l) := ⟨by simp, fun n o o' _ h h' c q => by
  rw [List.getElem?_append_left (List.getElem?_eq_some_iff.mp h).1, h] at h'; cases h'; exact q⟩
def Tm {α : Type} (b : Nat) (S : Store) : Res α → Prop
  | .ok _ S' => TR b S S'
  | .rse _ _ _ S' => TR b S S'
  | .bad => True
def TmS (b : Nat) (S : Store) : SR → Prop
  | .nx _ S' => TR b S S'
  | .rt _ S' => TR b S S'
  | .bk _ S' => TR b S S'
  | .ct _ S' => TR b S S'
  | .rse _ _ _ _ S' => TR b S S'
  | .bad => True
theorem Tm.bind {α β : Type} {b : Nat} {S : Store} {k : α → Store → Res β} : ∀ {r : Res α}, b ≤ S.length → Tm b S r → (∀ v S1, b ≤ S1.length → Tm b S1 (k v S1)) → Tm b S (r.bind k)
  | .ok v S1, hb, h, hk => by
    have h1 : TR b S S1 := h
    have h2 := hk v S1 (Nat.le_trans hb h1.1)
    show Tm b S (k v S1)
    cases e : k v S1 with
    | ok w S2 => rw [e] at h2; exact h1.trans h2
    | rse C ns fs S2 => rw [e] at h2; exact h1.trans h2
    | bad => trivial
  | .rse C ns fs S1, _, h, _ => h
  | .bad, _, _, _ => trivial
theorem TmS.after {b : Nat} {S S1 : Store} (h1 : TR b S S1) : ∀ {r : SR}, TmS b S1 r → TmS b S r
  | .nx _ _, h => h1.trans h
  | .rt _ _, h => h1.trans h
  | .bk _ _, h => h1.trans h
  | .ct _ _, h => h1.trans h
  | .rse _ _ _ _ _, h => h1.trans h
  | .bad, _ => trivial
theorem Tm.toS {α : Type} {b : Nat} {S : Store} {env : Ev} {k : α → Store → SR} : ∀ {r : Res α}, b ≤ S.length → Tm b S r → (∀ v S1, b ≤ S1.length → TmS b S1 (k v S1)) → TmS b S (r.toS env k)
  | .ok v S1, hb, h, hk => TmS.after h (hk v S1 (Nat.le_trans hb h.1))
  | .rse C ns fs S1, _, h, _ => h
  | .bad, _, _, _ => trivial
end Ve

set_option Elab.async false
set_option linter.all false
set_option maxRecDepth 100000
set_option maxHeartbeats 2000000
/-! Ve, second part: expressions. -/
namespace Ve
open PySem PySem.Spec PyProof.Rows L2
section
variable (T : Tb) (X : Cx) (W : WX)
def tV (m : ME) : TE := fun σ H Q => ∃ env S ρ, RSt T X.K ρ H S ∧ REnv T X.K ρ H env σ ∧ RP RV T X.K W σ ρ H Q (m env S)
def tT (m : MT) : TT := fun σ H Q => ∃ env S ρ, RSt T X.K ρ H S ∧ REnv T X.K ρ H env σ ∧ RP RB T X.K W σ ρ H Q (m env S)
def tA (m : MA) : TA := fun σ H Q => ∃ env S ρ, RSt T X.K ρ H S ∧ REnv T X.K ρ H env σ ∧ RP RVs T X.K W σ ρ H Q (m env S)
def tS (m : MS) : TS := fun D σ H => ∃ env S ρ, RSt T X.K ρ H S ∧ REnv T X.K ρ H env σ ∧ RPS T X.K W ρ H D (m env S)
end
def TmE {α : Type} (b : Nat) (m : Ev → Store → Res α) : Prop := ∀ env S, b ≤ S.length → Tm b S (m env S)
def TmX (b : Nat) (m : MS) : Prop := ∀ env S, b ≤ S.length → TmS b S (m env S)
/-- an expression and its mirror -/
structure VE (T : Tb) (X : Cx) (W : WX) (b : Nat) (e : Expr) (m : ME) : Prop where
  pe : PE X e (tV T X W m)
  tm : TmE b m
structure VT (T : Tb) (X : Cx) (W : WX) (b : Nat) (e : Expr) (m : MT) : Prop where
  pe : PT X e (tT T X W m)
  tm : TmE b m
structure VW (T : Tb) (X : Cx) (W : WX) (b : Nat) (e : Expr) (m : MT) : Prop where
  pe : PW X e (tT T X W m)
  tm : TmE b m
structure VA (T : Tb) (X : Cx) (W : WX) (b : Nat) (es : List Expr) (m : MA) : Prop where
  pe : PA X es (tA T X W m)
  tm : TmE b m
structure VS (T : Tb) (X : Cx) (W : WX) (b : Nat) (st : Stmt) (m : MS) : Prop where
  pe : PS X st (tS T X W m)
  tm : TmX b m
structure VSs (T : Tb) (X : Cx) (W : WX) (b : Nat) (st : List Stmt) (m : MS) : Prop where
  pe : PSs X st (tS T X W m)
  tm : TmX b m

theorem TmE.bind {α β : Type} {b : Nat} {m : Ev → Store → Res α} {k : α → Ev → Store → Res β} (h : TmE b m) (hk : ∀ v, TmE b (k v)) : TmE b (bindM m k) := fun env S hb =>
  Tm.bind hb (h env S hb) fun v S1 h1 => hk v env S1 h1
theorem TmE.pure {α : Type} {b : Nat} (v : α) : TmE b (pureM v) := fun env S _ => TR.refl b S
theorem _root_.L2.PE.impR {X : Cx} {e : Expr} {t t' : TE} (p : PE X e t) (h : ∀ σ H Q, t' σ H Q → t σ H Q) : PE X e t' := ⟨fun pins s σ H Q I q => p.run pins s σ H Q I (h _ _ _ q)⟩
theorem _root_.L2.PT.impR {X : Cx} {e : Expr} {t t' : TT} (p : PT X e t) (h : ∀ σ H Q, t' σ H Q → t σ H Q) : PT X e t' := ⟨fun pins s σ H Q I q => p.run pins s σ H Q I (h _ _ _ q)⟩
theorem _root_.L2.PW.impR {X : Cx} {e : Expr} {t t' : TT} (p : PW X e t) (h : ∀ σ H Q, t' σ H Q → t σ H Q) : PW X e t' := ⟨fun wh pins s σ H Q I q => p.run wh pins s σ H Q I (h _ _ _ q)⟩
theorem _root_.L2.PA.impR {X : Cx} {es : List Expr} {t t' : TA} (p : PA X es t) (h : ∀ σ H Q, t' σ H Q → t σ H Q) : PA X es t' := ⟨fun pos pins s σ H Q I q => p.run pos pins s σ H Q I (h _ _ _ q)⟩
theorem _root_.L2.PS.impR {X : Cx} {st : Stmt} {t t' : TS} (p : PS X st t) (h : ∀ D σ H, t' D σ H → t D σ H) : PS X st t' := ⟨fun pins s σ H D I q => p.run pins s σ H D I (h _ _ _ q)⟩
theorem _root_.L2.PSs.impR {X : Cx} {st : List Stmt} {t t' : TS} (p : PSs X st t) (h : ∀ D σ H, t' D σ H → t D σ H) : PSs X st t' := ⟨fun pins s σ H D I q => p.run pins s σ H D I (h _ _ _ q)⟩

section
variable {T : Tb} {X : Cx} {W : WX} {b : Nat}
theorem tV_run {m : ME} {σ : Sl} {H : Hp} {Q : VK} {env : Ev} {S : Store} {ρ : List Addr} (st : RSt T X.K ρ H S) (re : REnv T X.K ρ H env σ) (h : RP RV T X.K W σ ρ H Q (m env S)) : tV T X W m σ H Q := ⟨env, S, ρ, st, re, h⟩
theorem tT_run {m : MT} {σ : Sl} {H : Hp} {Q : Bool → Hp → Prop} {env : Ev} {S : Store} {ρ : List Addr} (st : RSt T X.K ρ H S) (re : REnv T X.K ρ H env σ) (h : RP RB T X.K W σ ρ H Q (m env S)) : tT T X W m σ H Q := ⟨env, S, ρ, st, re, h⟩
theorem tA_run {m : MA} {σ : Sl} {H : Hp} {Q : List V → Hp → Prop} {env : Ev} {S : Store} {ρ : List Addr} (st : RSt T X.K ρ H S) (re : REnv T X.K ρ H env σ) (h : RP RVs T X.K W σ ρ H Q (m env S)) : tA T X W m σ H Q := ⟨env, S, ρ, st, re, h⟩
theorem tS_run {m : MS} {σ : Sl} {H : Hp} {D : Ends} {env : Ev} {S : Store} {ρ : List Addr} (st : RSt T X.K ρ H S) (re : REnv T X.K ρ H env σ) (h : RPS T X.K W ρ H D (m env S)) : tS T X W m D σ H := ⟨env, S, ρ, st, re, h⟩

/-! ### names, constants -/
def mVar (i : Nat) : ME := fun env S =>
  match env[i]? with
  | some (some v) => .ok v S
  | _ => .bad
theorem ve_var {i : Nat} {x : Str} {pos : Pos} (hN : X.N[i]? = some x := by rfl) (hv : Vis X.env.scope x := by first | exact Or.inl rfl | exact Or.inr (Or.inl rfl) | exact Or.inr (Or.inr rfl))
    (hd : (x == ("__debug__" : Str)) = false := by decide) (hcd : (x == ("__classdict__" : Str)) = false := by decide) : VE T X W b (.Name x pos) (mVar i) := by
  refine ⟨(pe_var (i := i) hN hv hd hcd).impR ?_, fun env S hb => ?_⟩
  · rintro σ H Q ⟨env, S, ρ, st, re, h⟩
    unfold mVar at h
    split at h
    · rename_i v e
      obtain ⟨u, e2, r⟩ := re.2 i v e
      exact ⟨u, e2, RP.okN h st r⟩
    · exact h.elim
  · unfold mVar
    split
    · exact TR.refl b S
    · trivial
def mC (v : AV) : ME := pureM v
theorem tC_of {v : AV} {u : V} (r : ∀ T K ρ H, RV T K ρ H v u) {σ : Sl} {H : Hp} {Q : VK} (h : tV T X W (mC v) σ H Q) : tC u σ H Q := by
  obtain ⟨env, S, ρ, st, re, h⟩ := h
  exact RP.okN h st (r _ _ _ _)
theorem ve_int {i : Int} {j : Nat} {pos : Pos} : VE T X W b (.Constant (.int i) j pos) (mC (.int i)) := ⟨pe_int.impR fun _ _ _ h => tC_of (fun _ _ _ _ => .int i) h, TmE.pure _⟩
theorem ve_bl {i : Bool} {j : Nat} {pos : Pos} : VE T X W b (.Constant (.bool i) j pos) (mC (.bl i)) := ⟨pe_bl.impR fun _ _ _ h => tC_of (fun _ _ _ _ => .bl i) h, TmE.pure _⟩
theorem ve_non {j : Nat} {pos : Pos} : VE T X W b (.Constant .none j pos) (mC .non) := ⟨pe_non.impR fun _ _ _ h => tC_of (fun _ _ _ _ => .non) h, TmE.pure _⟩
theorem ve_str {i : Str} {j : Nat} {pos : Pos} : VE T X W b (.Constant (.str i) j pos) (mC (.str i)) := ⟨pe_str.impR fun _ _ _ h => tC_of (fun _ _ _ _ => .str i) h, TmE.pure _⟩
/-- a class, a def of the module as a value -/
theorem ve_glob {x : Str} {j : Nat} {pos : Pos} (hm : X.mg x = some (.ref (T.cm j))) (hg : Gl X x := by rfl) (hd : (x == ("__debug__" : Str)) = false := by decide) : VE T X W b (.Name x pos) (mC (.at j)) :=
  ⟨(pe_glob (v := .ref (T.cm j)) hg hm rfl hd).impR fun σ H Q h => by
    obtain ⟨env, S, ρ, st, re, h⟩ := h
    exact RP.okN h st (.at j), TmE.pure _⟩
/-- a constant int of the module -/
theorem ve_globI {x : Str} {i : Int} {pos : Pos} (hm : ∃ t, X.mg x = some (.int i t)) (hg : Gl X x := by rfl) (hd : (x == ("__debug__" : Str)) = false := by decide) : VE T X W b (.Name x pos) (mC (.int i)) := by
  obtain ⟨t, hm⟩ := hm
  exact ⟨(pe_glob (v := .int i) hg hm ⟨t, rfl⟩ hd).impR fun _ _ _ h => tC_of (fun _ _ _ _ => .int i) h, TmE.pure _⟩
theorem ve_globS {x : Str} {i : Str} {pos : Pos} (hm : ∃ t, X.mg x = some (.str i t)) (hg : Gl X x := by rfl) (hd : (x == ("__debug__" : Str)) = false := by decide) : VE T X W b (.Name x pos) (mC (.str i)) := by
  obtain ⟨t, hm⟩ := hm
  exact ⟨(pe_glob (v := .str i) hg hm ⟨t, rfl⟩ hd).impR fun _ _ _ h => tC_of (fun _ _ _ _ => .str i) h, TmE.pure _⟩

/-! ### operators by values -/
abbrev Op2 := AV → AV → Store → Res AV
/-- the mirror's operator f answers the reading r -/
def OpV (T : Tb) (X : Cx) (f : Op2) (r : R2) : Prop := ∀ (W : WX) (σ : Sl) (ρ : List Addr) (H : Hp) (S : Store) (v w : AV) (x y : V) (Q : VK), RSt T X.K ρ H S → RV T X.K ρ H v x → RV T X.K ρ H w y → RP RV T X.K W σ ρ H Q (f v w S) → r x y H Q
def TmO (f : Op2) : Prop := ∀ b v w S, b ≤ S.length → Tm b S (f v w S)
def mBin (f : Op2) (m1 m2 : ME) : ME := bindM m1 fun v => bindM m2 fun w => fun _ S => f v w S
theorem tOp_of {f : Op2} {r : R2} {m1 m2 : ME} (hv : OpV T X f r) {σ : Sl} {H : Hp} {Q : VK} (h : tV T X W (mBin f m1 m2) σ H Q) : tOp r (tV T X W m1) (tV T X W m2) σ H Q := by
  obtain ⟨env, S, ρ, st, re, h⟩ := h
  refine tV_run st re ((RP.bind h).imp ?_)
  rintro x H1 ⟨v, S1, ρ1, e1, st1, rv, h1⟩
  refine tV_run st1 (re.mono e1) ((RP.bind h1).imp ?_)
  rintro y H2 ⟨w, S2, ρ2, e2, st2, rw', h2⟩
  exact hv W σ ρ2 H2 S2 v w x y Q st2 (rv.mono e2) rw' h2
theorem mBin_tm {f : Op2} {m1 m2 : ME} (hf : TmO f) (h1 : TmE b m1) (h2 : TmE b m2) : TmE b (mBin f m1 m2) := h1.bind fun v => h2.bind fun w => fun env S hb => hf b v w S hb
theorem ve_op {op : Operator} {r : R2} {f : Op2} {a c : Expr} {m1 m2 : ME} {pos : Pos} (ho : OpR X (binaryOp op) r) (hv : OpV T X f r) (hf : TmO f) (ha : VE T X W b a m1) (hc : VE T X W b c m2) : VE T X W b (.BinOp a op c pos) (mBin f m1 m2) :=
  ⟨(pe_op ho ha.pe hc.pe).impR fun _ _ _ h => tOp_of hv h, mBin_tm hf ha.tm hc.tm⟩
theorem ve_cmp {op : CmpOp} {r : R2} {f : Op2} {a c : Expr} {m1 m2 : ME} {pos : Pos} (ho : OpR X (compareOp op) r) (hv : OpV T X f r) (hf : TmO f) (ha : VE T X W b a m1) (hc : VE T X W b c m2) (hm : behindInMarks op c = false := by first | exact nomark _ | rfl) :
    VE T X W b (.Compare a [op] [c] pos) (mBin f m1 m2) := ⟨(pe_cmpR ho ha.pe hc.pe hm).impR fun _ _ _ h => tOp_of hv h, mBin_tm hf ha.tm hc.tm⟩
/-- a value that is a bool, as a test -/
def tst (v : AV) (S : Store) : Res Bool := match v with
  | .bl k => .ok k S
  | _ => .bad
def mTst (m : ME) : MT := bindM m fun v _ S => tst v S
theorem mTst_tm {m : ME} (h : TmE b m) : TmE b (mTst m) := h.bind fun v env S hb => by
  cases v <;> first | exact TR.refl b S | trivial
theorem tst_rp {σ : Sl} {ρ : List Addr} {H : Hp} {S : Store} {v : AV} {x : V} {Q : Bool → Hp → Prop} (st : RSt T X.K ρ H S) (rv : RV T X.K ρ H v x) (h : RP RB T X.K W σ ρ H Q (tst v S)) : ∃ k, x = .bl k ∧ Q k H := by
  cases rv with
  | bl k => exact ⟨k, rfl, RP.okN h st rfl⟩
  | _ => exact h.elim
theorem tTest_of {t : TE} {m : ME} (himp : ∀ σ H Q, tV T X W m σ H Q → t σ H Q) {σ : Sl} {H : Hp} {Q : Bool → Hp → Prop} (h : tT T X W (mTst m) σ H Q) : t σ H fun x H' => ∃ k, x = .bl k ∧ Q k H' := by
  obtain ⟨env, S, ρ, st, re, h⟩ := h
  refine himp _ _ _ (tV_run st re ((RP.bind h).imp ?_))
  rintro x H1 ⟨v, S1, ρ1, e1, st1, rv, h1⟩
  exact tst_rp st1 rv h1
theorem vt_cmp {op : CmpOp} {r : R2} {f : Op2} {a c : Expr} {m1 m2 : ME} {pos : Pos} (ho : OpR X (compareOp op) r) (hv : OpV T X f r) (hf : TmO f) (ha : VE T X W b a m1) (hc : VE T X W b c m2) (hm : behindInMarks op c = false := by first | exact nomark _ | rfl) :
    VT T X W b (.Compare a [op] [c] pos) (mTst (mBin f m1 m2)) :=
  ⟨(pt_cmpR ho ha.pe hc.pe hm).impR fun _ _ _ h => tTest_of (fun _ _ _ h => tOp_of hv h) h, mTst_tm (mBin_tm hf ha.tm hc.tm)⟩
/-- an expression of truth value, as a test -/
theorem vt_val {e : Expr} {m : ME} (h : VE T X W b e m) (he : ∀ whole, isTrue e X.env whole = (do let v ← whole; standAt e.pos; holding [v] (truthy v)) := by intro _; rfl) : VT T X W b e (mTst m) :=
  ⟨(pt_val h.pe he).impR fun _ _ _ h => tTest_of (fun _ _ _ h => h) h, mTst_tm h.tm⟩
/-- a < b < c -/
def mChain (f g : Op2) (m1 m2 m3 : ME) : ME := bindM m1 fun v => bindM m2 fun w => bindM (fun _ S => f v w S) fun z => bindM (fun _ S => tst z S) fun k => if k = true then bindM m3 fun u => fun _ S => g w u S else mC (.bl false)
theorem tChain_of {f g : Op2} {r r' : R2} {m1 m2 m3 : ME} (hv : OpV T X f r) (hv' : OpV T X g r') {σ : Sl} {H : Hp} {Q : VK} (h : tV T X W (mChain f g m1 m2 m3) σ H Q) : tChain r r' (tV T X W m1) (tV T X W m2) (tV T X W m3) σ H Q := by
  obtain ⟨env, S, ρ, st, re, h⟩ := h
  refine tV_run st re ((RP.bind h).imp ?_)
  rintro x H1 ⟨v, S1, ρ1, e1, st1, rv, h1⟩
  refine tV_run st1 (re.mono e1) ((RP.bind h1).imp ?_)
  rintro y H2 ⟨w, S2, ρ2, e2, st2, rw', h2⟩
  refine hv W σ ρ2 H2 S2 v w x y _ st2 (rv.mono e2) rw' ((RP.bind h2).imp ?_)
  rintro z H3 ⟨u, S3, ρ3, e3, st3, ru, h3⟩
  obtain ⟨k, hk, h4⟩ := tst_rp st3 ru (RP.bind h3)
  refine ⟨k, hk, ?_⟩
  obtain ⟨k', S4, ρ4, e4, st4, rk, h5⟩ := h4
  obtain rfl : k' = k := rk
  cases k' with
  | true =>
    dsimp only at h5
    rw [if_pos rfl]
    rw [if_pos rfl] at h5
    refine tV_run st4 ((((re.mono e1).mono e2).mono e3).mono e4) ((RP.bind h5).imp ?_)
    rintro o H5 ⟨u2, S5, ρ5, e5, st5, ru2, h6⟩
    exact hv' W σ ρ5 H5 S5 w u2 y o Q st5 (((rw'.mono e3).mono e4).mono e5) ru2 h6
  | false =>
    dsimp only at h5
    rw [if_neg Bool.false_ne_true]
    rw [if_neg Bool.false_ne_true] at h5
    exact RP.okN h5 st4 (.bl false)
theorem tst_tm : ∀ v S, b ≤ S.length → Tm b S (tst v S) := fun v S hb => by cases v <;> first | exact TR.refl b S | trivial
theorem mChain_tm {f g : Op2} {m1 m2 m3 : ME} (hf : TmO f) (hg : TmO g) (h1 : TmE b m1) (h2 : TmE b m2) (h3 : TmE b m3) : TmE b (mChain f g m1 m2 m3) :=
  h1.bind fun v => h2.bind fun w => TmE.bind (fun env S hb => hf b v w S hb) fun z => TmE.bind (fun env S hb => tst_tm z S hb) fun k => by
    split
    · exact h3.bind fun u env S hb => hg b w u S hb
    · exact TmE.pure _
theorem ve_chain {op op' : CmpOp} {r r' : R2} {f g : Op2} {a c d : Expr} {m1 m2 m3 : ME} {pos : Pos} (ho : OpR X (compareOp op) r) (ho' : OpR X (compareOp op') r') (hv : OpV T X f r) (hv' : OpV T X g r') (hf : TmO f) (hg : TmO g)
    (ha : VE T X W b a m1) (hc : VE T X W b c m2) (hd : VE T X W b d m3) (hm : lastMarks [op, op'] [c, d] = false := by rfl) :
    VE T X W b (.Compare a [op, op'] [c, d] pos) (mChain f g m1 m2 m3) := ⟨(pe_chain ho ho' ha.pe hc.pe hd.pe hm).impR fun _ _ _ h => tChain_of hv hv' h, mChain_tm hf hg ha.tm hc.tm hd.tm⟩
theorem vt_chain {op op' : CmpOp} {r r' : R2} {f g : Op2} {a c d : Expr} {m1 m2 m3 : ME} {pos : Pos} (ho : OpR X (compareOp op) r) (ho' : OpR X (compareOp op') r') (hv : OpV T X f r) (hv' : OpV T X g r') (hf : TmO f) (hg : TmO g)
    (ha : VE T X W b a m1) (hc : VE T X W b c m2) (hd : VE T X W b d m3) (hm : lastMarks [op, op'] [c, d] = false := by rfl) :
    VT T X W b (.Compare a [op, op'] [c, d] pos) (mTst (mChain f g m1 m2 m3)) :=
  ⟨(pt_chain ho ho' ha.pe hc.pe hd.pe hm).impR fun _ _ _ h => tTest_of (fun _ _ _ h => tChain_of hv hv' h) h, mTst_tm (mChain_tm hf hg ha.tm hc.tm hd.tm)⟩

/-! ### and, or, not, if -/
def mAnd (m1 m2 : MT) : MT := bindM m1 fun k => if k = true then m2 else pureM false
def mOr (m1 m2 : MT) : MT := bindM m1 fun k => if k = true then pureM true else m2
def mNot (m : MT) : MT := bindM m fun k => pureM (!k)
def mIfE (t : MT) (m1 m2 : ME) : ME := bindM t fun k => if k = true then m1 else m2
theorem bindT_rp {m : MT} {k : Bool → Ev → Store → Res Bool} {σ : Sl} {H : Hp} {Q : Bool → Hp → Prop} (h : tT T X W (bindM m k) σ H Q) : tT T X W m σ H fun c H1 => ∃ env S ρ, RSt T X.K ρ H1 S ∧ REnv T X.K ρ H1 env σ ∧ RP RB T X.K W σ ρ H1 Q (k c env S) := by
  obtain ⟨env, S, ρ, st, re, h⟩ := h
  refine tT_run st re ((RP.bind h).imp ?_)
  rintro c H1 ⟨v, S1, ρ1, e1, st1, rv, h1⟩
  cases rv
  exact ⟨env, S1, ρ1, st1, re.mono e1, h1⟩
theorem bindTE_rp {m : MT} {k : Bool → ME} {σ : Sl} {H : Hp} {Q : VK} (h : tV T X W (bindM m k) σ H Q) : tT T X W m σ H fun c H1 => tV T X W (k c) σ H1 Q := by
  obtain ⟨env, S, ρ, st, re, h⟩ := h
  refine tT_run st re ((RP.bind h).imp ?_)
  rintro c H1 ⟨v, S1, ρ1, e1, st1, rv, h1⟩
  cases rv
  exact ⟨env, S1, ρ1, st1, re.mono e1, h1⟩
theorem tAnd_of {m1 m2 : MT} {σ : Sl} {H : Hp} {Q : Bool → Hp → Prop} (h : tT T X W (mAnd m1 m2) σ H Q) : tAnd (tT T X W m1) (tT T X W m2) σ H Q := by
  obtain ⟨env, S, ρ, st, re, h⟩ := h
  refine tT_run st re ((RP.bind h).imp ?_)
  rintro c H1 ⟨v, S1, ρ1, e1, st1, rv, h1⟩
  have rv : v = c := rv
  subst rv
  cases v with
  | true => exact ⟨env, S1, ρ1, st1, re.mono e1, h1⟩
  | false => exact RP.okN (v := false) h1 st1 rfl
theorem tOr_of {m1 m2 : MT} {σ : Sl} {H : Hp} {Q : Bool → Hp → Prop} (h : tT T X W (mOr m1 m2) σ H Q) : tOr (tT T X W m1) (tT T X W m2) σ H Q := by
  obtain ⟨env, S, ρ, st, re, h⟩ := h
  refine tT_run st re ((RP.bind h).imp ?_)
  rintro c H1 ⟨v, S1, ρ1, e1, st1, rv, h1⟩
  have rv : v = c := rv
  subst rv
  cases v with
  | false => exact ⟨env, S1, ρ1, st1, re.mono e1, h1⟩
  | true => exact RP.okN (v := true) h1 st1 rfl
theorem tNot_of {m : MT} {σ : Sl} {H : Hp} {Q : Bool → Hp → Prop} (h : tT T X W (mNot m) σ H Q) : tNot (tT T X W m) σ H Q := by
  obtain ⟨env, S, ρ, st, re, h⟩ := h
  refine tT_run st re ((RP.bind h).imp ?_)
  rintro c H1 ⟨v, S1, ρ1, e1, st1, rv, h1⟩
  have rv : v = c := rv
  subst rv
  exact RP.okN (v := !v) h1 st1 rfl
theorem iteTm {α : Type} {m1 m2 : Ev → Store → Res α} (h1 : TmE b m1) (h2 : TmE b m2) (k : Bool) : TmE b (if k = true then m1 else m2) := by split <;> assumption
theorem vw_and1 {a : Expr} {m : MT} {pos : Pos} (h : VT T X W b a m) : VW T X W b (.BoolOp .And [a] pos) m := ⟨pw_and1 h.pe, h.tm⟩
theorem vw_or1 {a : Expr} {m : MT} {pos : Pos} (h : VT T X W b a m) : VW T X W b (.BoolOp .Or [a] pos) m := ⟨pw_or1 h.pe, h.tm⟩
theorem vw_and {a c : Expr} {rest : List Expr} {m1 m2 : MT} {pos : Pos} (h1 : VT T X W b a m1) (h2 : VW T X W b (.BoolOp .And (c :: rest) pos) m2) : VW T X W b (.BoolOp .And (a :: c :: rest) pos) (mAnd m1 m2) :=
  ⟨(pw_and h1.pe h2.pe).impR fun _ _ _ h => tAnd_of h, h1.tm.bind fun k => iteTm h2.tm (TmE.pure _) k⟩
theorem vw_or {a c : Expr} {rest : List Expr} {m1 m2 : MT} {pos : Pos} (h1 : VT T X W b a m1) (h2 : VW T X W b (.BoolOp .Or (c :: rest) pos) m2) : VW T X W b (.BoolOp .Or (a :: c :: rest) pos) (mOr m1 m2) :=
  ⟨(pw_or h1.pe h2.pe).impR fun _ _ _ h => tOr_of h, h1.tm.bind fun k => iteTm (TmE.pure _) h2.tm k⟩
theorem VW.vt {e : Expr} {m : MT} (h : VW T X W b e m) : VT T X W b e m := ⟨h.pe.pt, h.tm⟩
theorem vt_not {a : Expr} {m : MT} {pos : Pos} (h : VT T X W b a m) : VT T X W b (.UnaryOp .Not a pos) (mNot m) := ⟨(pt_not h.pe).impR fun _ _ _ h => tNot_of h, h.tm.bind fun k => TmE.pure _⟩
/-- .. as values: all are bools -/
def mAndV (m1 m2 : ME) : ME := bindM (mTst m1) fun k => if k = true then m2 else mC (.bl false)
def mOrV (m1 m2 : ME) : ME := bindM (mTst m1) fun k => if k = true then mC (.bl true) else m2
def mNotV (m : ME) : ME := bindM (mTst m) fun k => mC (.bl (!k))
theorem ve_one {op : BoolOp} {a : Expr} {m : ME} {pos : Pos} (h : VE T X W b a m) : VE T X W b (.BoolOp op [a] pos) m := ⟨pe_one h.pe, h.tm⟩
theorem bindTstE {m : ME} {k : Bool → ME} {σ : Sl} {H : Hp} {Q : VK} (h : tV T X W (bindM (mTst m) k) σ H Q) : tV T X W m σ H fun x H1 => ∃ c, x = .bl c ∧ tV T X W (k c) σ H1 Q := by
  obtain ⟨env, S, ρ, st, re, h⟩ := h
  have h' := RP.bind (R := RB) h
  refine tV_run st re ((RP.bind (R := RV) h').imp ?_)
  rintro x H1 ⟨v, S1, ρ1, e1, st1, rv, h1⟩
  obtain ⟨c, hc, v2, S2, ρ2, e2, st2, rb, h2⟩ := tst_rp st1 rv h1
  have rb : v2 = c := rb
  subst rb
  exact ⟨v2, hc, env, S2, ρ2, st2, re.mono e2, h2⟩
theorem ve_and {a c : Expr} {rest : List Expr} {m1 m2 : ME} {pos : Pos} (h1 : VE T X W b a m1) (h2 : VE T X W b (.BoolOp .And (c :: rest) pos) m2) : VE T X W b (.BoolOp .And (a :: c :: rest) pos) (mAndV m1 m2) := by
  refine ⟨(pe_and h1.pe h2.pe).impR fun σ H Q h => ?_, (mTst_tm h1.tm).bind fun k => iteTm h2.tm (TmE.pure _) k⟩
  obtain ⟨env, S, ρ, st, re, q⟩ := bindTstE h
  refine ⟨env, S, ρ, st, re, q.imp ?_⟩
  rintro x H1 ⟨k, rfl, h'⟩
  refine ⟨k, rfl, ?_⟩
  cases k with
  | true => exact h'
  | false => exact tC_of (fun _ _ _ _ => .bl false) h'
theorem ve_or {a c : Expr} {rest : List Expr} {m1 m2 : ME} {pos : Pos} (h1 : VE T X W b a m1) (h2 : VE T X W b (.BoolOp .Or (c :: rest) pos) m2) : VE T X W b (.BoolOp .Or (a :: c :: rest) pos) (mOrV m1 m2) := by
  refine ⟨(pe_or h1.pe h2.pe).impR fun σ H Q h => ?_, (mTst_tm h1.tm).bind fun k => iteTm (TmE.pure _) h2.tm k⟩
  obtain ⟨env, S, ρ, st, re, q⟩ := bindTstE h
  refine ⟨env, S, ρ, st, re, q.imp ?_⟩
  rintro x H1 ⟨k, rfl, h'⟩
  refine ⟨k, rfl, ?_⟩
  cases k with
  | true => exact tC_of (fun _ _ _ _ => .bl true) h'
  | false => exact h'
theorem ve_not {a : Expr} {m : ME} {pos : Pos} (h : VE T X W b a m) : VE T X W b (.UnaryOp .Not a pos) (mNotV m) := by
  refine ⟨(pe_not h.pe).impR fun σ H Q h => ?_, (mTst_tm h.tm).bind fun k => TmE.pure _⟩
  obtain ⟨env, S, ρ, st, re, q⟩ := bindTstE h
  refine ⟨env, S, ρ, st, re, q.imp ?_⟩
  rintro x H1 ⟨k, rfl, h'⟩
  exact ⟨k, rfl, tC_of (fun _ _ _ _ => .bl (!k)) h'⟩
theorem ve_if {t a c : Expr} {mt : MT} {m1 m2 : ME} {pos : Pos} (ht : VT T X W b t mt) (ha : VE T X W b a m1) (hc : VE T X W b c m2) : VE T X W b (.IfExp t a c pos) (mIfE mt m1 m2) := by
  refine ⟨(pe_ifExp ht.pe ha.pe hc.pe).impR fun σ H Q h => ?_, ht.tm.bind fun k => iteTm ha.tm hc.tm k⟩
  obtain ⟨env, S, ρ, st, re, q⟩ := bindTE_rp h
  refine ⟨env, S, ρ, st, re, q.imp ?_⟩
  intro k H1 h'
  cases k with
  | true => exact h'
  | false => exact h'

/-! ### argument lists, displays -/
def mNil : MA := pureM []
def mCons (m : ME) (ms : MA) : MA := bindM m fun v => bindM ms fun vs => pureM (v :: vs)
theorem va_nil : VA T X W b [] mNil := ⟨pa_nil.impR fun σ H Q h => by
  obtain ⟨env, S, ρ, st, re, h⟩ := h
  exact RP.okN (R := RVs) h st .nil, TmE.pure _⟩
theorem va_cons {e : Expr} {es : List Expr} {m : ME} {ms : MA} (h : VE T X W b e m) (hs : VA T X W b es ms) (hse : starEach (e :: es) X.env = (false, eval e X.env) :: starEach es X.env := by rfl) : VA T X W b (e :: es) (mCons m ms) := by
  refine ⟨(pa_cons h.pe hs.pe hse).impR fun σ H Q q => ?_, h.tm.bind fun v => hs.tm.bind fun vs => TmE.pure _⟩
  obtain ⟨env, S, ρ, st, re, q⟩ := q
  refine tV_run st re ((RP.bind q).imp ?_)
  rintro x H1 ⟨v, S1, ρ1, e1, st1, rv, h1⟩
  refine tA_run st1 (re.mono e1) ((RP.bind h1).imp ?_)
  rintro xs H2 ⟨vs, S2, ρ2, e2, st2, rvs, h2⟩
  exact RP.okN (R := RVs) h2 st2 (.cons (rv.mono e2) rvs)
def mTup (ms : MA) : ME := bindM ms fun vs _ S => if vs.length ≤ sizeLine then .ok (.tup vs) S else .bad
/-- a list that nobody will change -/
def mLst (ms : MA) : ME := bindM ms fun vs _ S => if vs.length ≤ sizeLine then .ok (.lst vs) S else .bad
/-- a list in the store -/
def mLstM (ms : MA) : ME := bindM ms fun vs _ S => if vs.length ≤ sizeLine then .ok (.loc S.length) (S ++ [.lst vs]) else .bad
theorem tupNew {T : Tb} {K : PySem.W.Frag} {ρ : List Addr} {H : Hp} {vs : List AV} {us : List V} (rvs : RVs T K ρ H vs us) {p : Addr} (hp : H p = none) : RV T K ρ (upd H p (.tup us)) (.tup vs) (.ref p) :=
  .tup (.inl (.inl upd_same)) (RVs.mono (Ext.new1 hp) rvs)
theorem lstNew {S : Store} {ρ : List Addr} {H : Hp} {vs : List AV} {us : List V} (st : RSt T X.K ρ H S) (rvs : RVs T X.K ρ H vs us) {p : Addr} (hp : H p = none) : RV T X.K ρ (upd H p (.lst us)) (.lst vs) (.ref p) :=
  .lst (st.out hp) upd_same (RVs.mono (Ext.new1 hp) rvs)
theorem locNew {S : Store} {ρ : List Addr} {H : Hp} {vs : List AV} {us : List V} (st : RSt T X.K ρ H S) (rvs : RVs T X.K ρ H vs us) {p : Addr} (hp : H p = none) :
    RSt T X.K (ρ ++ [p]) (upd H p (.lst us)) (S ++ [.lst vs]) ∧ RV T X.K (ρ ++ [p]) (upd H p (.lst us)) (.loc S.length) (.ref p) :=
  ⟨st.newL hp ⟨us, upd_same, RVs.mono (Ext.newL hp) rvs⟩, .loc (by rw [← st.len]; simp)⟩
theorem lenTm {α : Type} {c : Prop} [Decidable c] {S S' : Store} {v : α} (h : TR b S S') : Tm b S (if c then Res.ok v S' else .bad) := by
  split
  · exact h
  · trivial
theorem ve_tup {es : List Expr} {ms : MA} {x1 : Nat} {pos : Pos} (h : VA T X W b es ms) : VE T X W b (.Tuple es x1 pos) (mTup ms) := by
  refine ⟨(pe_tup h.pe).impR fun σ H Q q => ?_, h.tm.bind fun vs env S hb => lenTm (TR.refl b S)⟩
  obtain ⟨env, S, ρ, st, re, q⟩ := q
  refine tA_run st re ((RP.bind q).imp ?_)
  rintro us H1 ⟨vs, S1, ρ1, e1, st1, rvs, h1⟩
  dsimp only at h1
  split at h1
  · rename_i hz
    exact ⟨by rw [← rvs.length]; exact hz, fun p hp => h1 _ _ _ (Ext.new1 hp) (st1.new1 hp) (tupNew rvs hp)⟩
  · exact h1.elim
theorem ve_lst {es : List Expr} {ms : MA} {pos : Pos} (h : VA T X W b es ms) : VE T X W b (.List es pos) (mLst ms) := by
  refine ⟨(pe_lst h.pe).impR fun σ H Q q => ?_, h.tm.bind fun vs env S hb => lenTm (TR.refl b S)⟩
  obtain ⟨env, S, ρ, st, re, q⟩ := q
  refine tA_run st re ((RP.bind q).imp ?_)
  rintro us H1 ⟨vs, S1, ρ1, e1, st1, rvs, h1⟩
  dsimp only at h1
  split at h1
  · rename_i hz
    exact ⟨by rw [← rvs.length]; exact hz, fun p hp => h1 _ _ _ (Ext.new1 hp) (st1.new1 hp) (lstNew st1 rvs hp)⟩
  · exact h1.elim
theorem ve_lstM {es : List Expr} {ms : MA} {pos : Pos} (h : VA T X W b es ms) : VE T X W b (.List es pos) (mLstM ms) := by
  refine ⟨(pe_lst h.pe).impR fun σ H Q q => ?_, h.tm.bind fun vs env S hb => lenTm (TR.app b S _)⟩
  obtain ⟨env, S, ρ, st, re, q⟩ := q
  refine tA_run st re ((RP.bind q).imp ?_)
  rintro us H1 ⟨vs, S1, ρ1, e1, st1, rvs, h1⟩
  dsimp only at h1
  split at h1
  · rename_i hz
    exact ⟨by rw [← rvs.length]; exact hz, fun p hp => h1 _ _ _ (Ext.newL hp) (locNew st1 rvs hp).1 (locNew st1 rvs hp).2⟩
  · exact h1.elim
end
end Ve

set_option Elab.async false
set_option linter.all false
set_option maxRecDepth 100000
set_option maxHeartbeats 2000000
/-! Ve, third part: operators by values, subscripts, slices. -/
namespace Ve
open PySem PySem.Spec PyProof.Rows L2

/-! ### what a value is, read -/
def asL (S : Store) : AV → Option (List AV)
  | .lst xs => some xs
  | .scr ns => some (ns.map AV.int)
  | .loc n => match S[n]? with
    | some (.lst xs) => some xs
    | _ => none
  | _ => none
/-- a list of the store read as a tree -/
def rsv (S : Store) : AV → AV
  | .loc n => match S[n]? with
    | some (.lst xs) => .lst xs
    | _ => .loc n
  | v => v
mutual
def AV.dat : AV → PyData
  | .non => .none
  | .bl b => .bool b
  | .int i => .int i
  | .str x => .str x
  | .tup xs => .tuple (datL xs)
  | .lst xs => .list (datL xs)
  | .scr ns => .list (ns.map PyData.int)
  | _ => .none
def datL : List AV → List PyData
  | [] => []
  | x :: xs => x.dat :: datL xs
end
/-! made of None, bools, ints, texts, tuples and lists alone -/
mutual
def AV.pl : AV → Bool
  | .tup xs => plL xs
  | .lst xs => plL xs
  | .dc0 => false
  | .exc _ _ _ => false
  | .loc _ => false
  | .at _ => false
  | .ty _ => false
  | _ => true
def plL : List AV → Bool
  | [] => true
  | x :: xs => x.pl && plL xs
end
def AV.sh (v : AV) : Bool := v.pl && SeqAt.shaped v.dat
section
variable {T : Tb} {K : PySem.W.Frag} {ρ : List Addr} {H : Hp} {S : Store}
theorem asL_rd (st : RSt T K ρ H S) {v : AV} {u : V} (r : RV T K ρ H v u) {xs : List AV} (h : asL S v = some xs) : ∃ a vs, u = .ref a ∧ RdL K H a vs ∧ RVs T K ρ H xs vs := by
  cases r with
  | lst n hr rs =>
    have h' := Option.some.inj h
    subst h'
    exact ⟨_, _, rfl, .inl (.inl hr), rs⟩
  | scr hs =>
    have h' := Option.some.inj h
    subst h'
    exact ⟨_, _, rfl, hs.rd, RVs.ints _⟩
  | @loc n a hn =>
    unfold asL at h
    dsimp only at h
    split at h
    · rename_i ys hy
      have h' := Option.some.inj h
      subst h'
      obtain ⟨a', e, vs, hv, rs⟩ := st.ob _ _ hy
      rw [hn] at e; cases e
      exact ⟨_, vs, rfl, .inl (.inl hv), rs⟩
    · cases h
  | _ => cases h
theorem dp_ints (ns : List Int) : DpAll K H (ns.map V.int) (ns.map PyData.int) := by
  induction ns with
  | nil => exact .nil
  | cons n ns ih => exact .cons (.int n) ih
mutual
theorem dp_of : ∀ {v : AV} {u : V}, RV T K ρ H v u → v.pl = true → Dp K H u v.dat
  | _, _, .non, _ => by simp only [AV.dat]; exact .non
  | _, _, .bl b, _ => by simp only [AV.dat]; exact .bl b
  | _, _, .int i, _ => by simp only [AV.dat]; exact .int i
  | _, _, .str s, _ => by simp only [AV.dat]; exact .str s
  | _, _, .ty n, h => by simp [AV.pl] at h
  | _, _, .at a, h => by simp [AV.pl] at h
  | _, _, .dc0 _ _, h => by simp [AV.pl] at h
  | _, _, .exc _ _ _ _ _, h => by simp [AV.pl] at h
  | _, _, .loc _, h => by simp [AV.pl] at h
  | _, _, .tup h r, q => by simp only [AV.dat]; exact .tup h (dpL_of r (by simpa only [AV.pl] using q))
  | _, _, .lst n h r, q => by simp only [AV.dat]; exact .lst (.inl (.inl h)) (dpL_of r (by simpa only [AV.pl] using q))
  | _, _, .scr h, _ => by simp only [AV.dat]; exact .lst h.rd.sq (dp_ints _)
theorem dpL_of : ∀ {v : List AV} {u : List V}, RVs T K ρ H v u → plL v = true → DpAll K H u (datL v)
  | _, _, .nil, _ => by simp only [datL]; exact .nil
  | _, _, .cons h r, q => by
    simp only [plL, Bool.and_eq_true] at q
    simp only [datL]
    exact .cons (dp_of h q.1) (dpL_of r q.2)
end
theorem dp_rsv (st : RSt T K ρ H S) {v : AV} {u : V} (r : RV T K ρ H v u) (h : (rsv S v).pl = true) : Dp K H u (rsv S v).dat := by
  by_cases e : ∃ n xs, v = .loc n ∧ S[n]? = some (.lst xs)
  · obtain ⟨n, xs, rfl, hx⟩ := e
    have e1 : rsv S (.loc n) = .lst xs := by simp [rsv, hx]
    rw [e1] at h ⊢
    obtain ⟨a, vs, rfl, hr, rs⟩ := asL_rd st r (show asL S (.loc n) = some xs by simp [asL, hx])
    simp only [AV.dat]
    exact .lst hr.sq (dpL_of rs (by simpa only [AV.pl] using h))
  · have e1 : rsv S v = v := by
      unfold rsv
      split
      · split
        · rename_i n _ xs hx
          exact absurd ⟨_, _, rfl, hx⟩ e
        · rfl
      · rfl
    rw [e1] at h ⊢
    exact dp_of r h
end

/-! ### arithmetic -/
def addV : Op2 := fun v w S =>
  match v, w with
  | .int i, .int j => .ok (.int (i + j)) S
  | .str x, .str y => if x.length + y.length ≤ sizeLine then .ok (.str (x ++ y)) S else .bad
  | .tup xs, .tup ys => if xs.length + ys.length ≤ sizeLine then .ok (.tup (xs ++ ys)) S else .bad
  | v, w => match asL S v, asL S w with
    | some xs, some ys => if xs.length + ys.length ≤ sizeLine then .ok (.lst (xs ++ ys)) S else .bad
    | _, _ => .bad
def subV : Op2 := fun v w S =>
  match v, w with
  | .int i, .int j => .ok (.int (i - j)) S
  | _, _ => .bad
instance (i j : Int) : Decidable (CMulW i j) := inferInstanceAs (Decidable (_ < _))
def mulV : Op2 := fun v w S =>
  match v, w with
  | .int i, .int j => if CMulW i j then .ok (.int (i * j)) S else .bad
  | .tup xs, .int k => if xs ≠ [] ∧ 2 ≤ k ∧ k ≤ 1000 ∧ xs.length ≤ 1000 then .ok (.tup (List.replicate k.toNat xs).flatten) S else .bad
  | .lst xs, .int k => if -(2 ^ 63) ≤ k ∧ k < 2 ^ 63 ∧ xs.length * k.toNat ≤ sizeLine then .ok (.lst (List.replicate k.toNat xs).flatten) S else .bad
  | _, _ => .bad
/-- list * int, the list in the store -/
def mulVM : Op2 := fun v w S =>
  match v, w with
  | .lst xs, .int k => if -(2 ^ 63) ≤ k ∧ k < 2 ^ 63 ∧ xs.length * k.toNat ≤ sizeLine then .ok (.loc S.length) (S ++ [.lst (List.replicate k.toNat xs).flatten]) else .bad
  | _, _ => .bad
def fdivV : Op2 := fun v w S =>
  match v, w with
  | .int i, .int j => if 0 < j ∧ j.natAbs.log2 < 9000 then .ok (.int (i / j)) S else .bad
  | _, _ => .bad
def modV : Op2 := fun v w S =>
  match v, w with
  | .int i, .int j => if 0 < j then .ok (.int (i % j)) S else .bad
  | _, _ => .bad
def powV : Op2 := fun v w S =>
  match v, w with
  | .int i, .int j => if 0 ≤ j ∧ j ≤ 1000000 ∧ i.natAbs < 2 ^ 64 then .ok (.int (i ^ j.toNat)) S else .bad
  | _, _ => .bad
theorem tm_add : TmO addV := fun b v w S hb => by
  unfold addV
  split
  · exact TR.refl b S
  · exact lenTm (TR.refl b S)
  · exact lenTm (TR.refl b S)
  · split
    · exact lenTm (TR.refl b S)
    · trivial
theorem tm_sub : TmO subV := fun b v w S hb => by unfold subV; split <;> first | exact TR.refl b S | trivial
theorem tm_mul : TmO mulV := fun b v w S hb => by unfold mulV; split <;> first | exact lenTm (TR.refl b S) | trivial
theorem tm_mulM : TmO mulVM := fun b v w S hb => by unfold mulVM; split <;> first | exact lenTm (TR.app b S _) | trivial
theorem tm_fdiv : TmO fdivV := fun b v w S hb => by unfold fdivV; split <;> first | exact lenTm (TR.refl b S) | trivial
theorem tm_mod : TmO modV := fun b v w S hb => by unfold modV; split <;> first | exact lenTm (TR.refl b S) | trivial
theorem tm_pow : TmO powV := fun b v w S hb => by unfold powV; split <;> first | exact lenTm (TR.refl b S) | trivial

section
variable {T : Tb} {X : Cx}
/-- xs + ys of lists that are read -/
def rCatR (K : PySem.W.Frag) : R2 := fun x y H Q => ∃ p q vs ws, x = .ref p ∧ y = .ref q ∧ RdL K H p vs ∧ RdL K H q ws ∧ vs.length + ws.length ≤ sizeLine ∧ ∀ n, H n = none → Q (.ref n) (upd H n (.lst (vs ++ ws)))
theorem rdL_at {pins : List (Addr × Obj)} {σ : Sl} {H : Hp} {s : Shared} {p : Addr} {vs : List V} (I : Inv X pins σ H s) (h : RdL X.K H p vs) : ∃ (as : List Value) (k : Nat), Vals vs as ∧ s.heap.get? p = some { cls := .type "list", data := .seq as.toArray k } := by
  rcases h with h | ⟨as, k, h1, h2, _⟩
  · obtain ⟨_, as, k, ra, ea⟩ := h.ok I.hok
    exact ⟨as, k, ra, ea⟩
  · exact ⟨as, k, h2, I.kIn p _ h1⟩
theorem op_catR : OpR X (binaryOp .Add) (rCatR X.K) := by
  rintro pins s σ H x y u w Q I r1 r2 ⟨p, q, vs, ws, rfl, rfl, hp, hq, hsum, hQ⟩
  obtain rfl : u = Value.ref p := r1
  obtain rfl : w = Value.ref q := r2
  obtain ⟨as, k, ra, ea⟩ := rdL_at I hp
  obtain ⟨bs, j, rb, eb⟩ := rdL_at I hq
  have la := Paired.length ra
  have lb := Paired.length rb
  refine PySem.P.add_list ea eb ?_ (by simp only [List.size_toArray]; omega)
  rw [show as.toArray ++ bs.toArray = (as ++ bs).toArray from by simp]
  have hl : (vs ++ ws).length ≤ sizeLine := by rw [List.length_append]; exact hsum
  exact ⟨.ref _, _, I.lnew (t' := s.toks) (Vals.append ra rb) hl, rfl, hQ _ I.fresh⟩
abbrev rAddA (K : PySem.W.Frag) : R2 := fun x y H Q => (rI0 (fun i j => .int (i + j)) x y H Q ∨ (fun x y H Q => ∃ i j, x = V.str i ∧ y = .str j ∧ i.length + j.length ≤ sizeLine ∧ Q (.str (i ++ j)) H : R2) x y H Q) ∨ (rCatA K x y H Q ∨ rCatR K x y H Q)
theorem op_addA : OpR X (binaryOp .Add) (rAddA X.K) := (op_add.or op_add_str).or (op_catA.or op_catR)
theorem add_v : OpV T X addV (rAddA X.K) := by
  intro W σ ρ H S v w x y Q st rv rw' h
  unfold addV at h
  split at h
  · cases rv; cases rw'
    exact .inl (.inl ⟨_, _, rfl, rfl, RP.okN h st (.int _)⟩)
  · cases rv; cases rw'
    split at h
    · rename_i hz
      exact .inl (.inr ⟨_, _, rfl, rfl, hz, RP.okN h st (.str _)⟩)
    · exact h.elim
  · split at h
    · rename_i hz
      cases rv with
      | @tup xs a vs ha ra =>
        cases rw' with
        | @tup ys c ws hc rc =>
          refine .inr (.inl ⟨a, c, vs, ws, rfl, rfl, ha, hc, by rw [← ra.length, ← rc.length]; exact hz, fun e => ?_, fun _ e => ?_, fun _ _ p hp => ?_⟩)
          · subst e
            cases ra
            exact RP.okN h st (.tup hc rc)
          · subst e
            cases rc
            rw [List.append_nil] at h
            exact RP.okN h st (.tup ha ra)
          · exact h _ _ _ (Ext.new1 hp) (st.new1 hp) (tupNew (ra.append rc) hp)
    · exact h.elim
  · split at h
    · rename_i xs ys e1 e2
      obtain ⟨a, vs, rfl, ha, ra⟩ := asL_rd st rv e1
      obtain ⟨c, ws, rfl, hc, rc⟩ := asL_rd st rw' e2
      split at h
      · rename_i hz
        exact .inr (.inr ⟨a, c, vs, ws, rfl, rfl, ha, hc, by rw [← ra.length, ← rc.length]; exact hz, fun p hp => h _ _ _ (Ext.new1 hp) (st.new1 hp) (lstNew st (ra.append rc) hp)⟩)
      · exact h.elim
    · exact h.elim
theorem sub_v : OpV T X subV (rI0 fun i j => .int (i - j)) := by
  intro W σ ρ H S v w x y Q st rv rw' h
  unfold subV at h
  split at h
  · cases rv; cases rw'
    exact ⟨_, _, rfl, rfl, RP.okN h st (.int _)⟩
  · exact h.elim
theorem RVs.rep {T : Tb} {K : PySem.W.Frag} {ρ : List Addr} {H : Hp} {xs : List AV} {vs : List V} (r : RVs T K ρ H xs vs) : ∀ k : Nat, RVs T K ρ H (List.replicate k xs).flatten (List.replicate k vs).flatten
  | 0 => .nil
  | k + 1 => by
    rw [List.replicate_succ, List.replicate_succ, List.flatten_cons, List.flatten_cons]
    exact r.append (RVs.rep r k)
theorem mul_v : OpV T X mulV (fun x y H Q => rI CMulW (fun i j => .int (i * j)) x y H Q ∨ (rRepT X.K x y H Q ∨ rRep x y H Q)) := by
  intro W σ ρ H S v w x y Q st rv rw' h
  unfold mulV at h
  split at h
  · cases rv; cases rw'
    split at h
    · rename_i hc
      exact .inl ⟨_, _, rfl, rfl, hc, RP.okN h st (.int _)⟩
    · exact h.elim
  · cases rw'
    split at h
    · rename_i hc
      cases rv with
      | @tup xs a vs ha ra =>
        refine .inr (.inl ⟨a, _, vs, rfl, rfl, ha, fun e => ?_, hc.2.1, hc.2.2.1, by rw [← ra.length]; exact hc.2.2.2, fun p hp => h _ _ _ (Ext.new1 hp) (st.new1 hp) (tupNew (ra.rep _) hp)⟩)
        subst e
        cases ra
        exact hc.1 rfl
    · exact h.elim
  · cases rw'
    split at h
    · rename_i hc
      cases rv with
      | @lst xs a vs hn ha ra =>
        exact .inr (.inr ⟨a, _, vs, rfl, rfl, ha, hc.1, hc.2.1, by rw [← ra.length]; exact hc.2.2, fun p hp => h _ _ _ (Ext.new1 hp) (st.new1 hp) (lstNew st (ra.rep _) hp)⟩)
    · exact h.elim
  · exact h.elim
theorem fdiv_v : OpV T X fdivV (rI CDivW fun i j => .int (i / j)) := by
  intro W σ ρ H S v w x y Q st rv rw' h
  unfold fdivV at h
  split at h
  · cases rv; cases rw'
    split at h
    · rename_i hc
      exact ⟨_, _, rfl, rfl, hc, RP.okN h st (.int _)⟩
    · exact h.elim
  · exact h.elim
theorem mod_v : OpV T X modV (rI (fun _ j => 0 < j) fun i j => .int (i % j)) := by
  intro W σ ρ H S v w x y Q st rv rw' h
  unfold modV at h
  split at h
  · cases rv; cases rw'
    split at h
    · rename_i hc
      exact ⟨_, _, rfl, rfl, hc, RP.okN h st (.int _)⟩
    · exact h.elim
  · exact h.elim
theorem pow_v : OpV T X powV (rI CPow fun i j => .int (i ^ j.toNat)) := by
  intro W σ ρ H S v w x y Q st rv rw' h
  unfold powV at h
  split at h
  · cases rv; cases rw'
    split at h
    · rename_i hc
      exact ⟨_, _, rfl, rfl, hc, RP.okN h st (.int _)⟩
    · exact h.elim
  · exact h.elim
/-- unary minus -/
def negV (v : AV) (S : Store) : Res AV := match v with
  | .int i => .ok (.int (-i)) S
  | _ => .bad
def mNeg (m : ME) : ME := bindM m fun v _ S => negV v S
theorem ve_neg {W : WX} {b : Nat} {a : Expr} {m : ME} {pos : Pos} (h : VE T X W b a m) : VE T X W b (.UnaryOp .USub a pos) (mNeg m) := by
  refine ⟨(pe_un un_neg h.pe).impR fun σ H Q q => ?_, h.tm.bind fun v env S hb => by unfold negV; split <;> first | exact TR.refl b S | trivial⟩
  obtain ⟨env, S, ρ, st, re, q⟩ := q
  refine tV_run st re ((RP.bind q).imp ?_)
  rintro x H1 ⟨v, S1, ρ1, e1, st1, rv, h1⟩
  unfold negV at h1
  dsimp only at h1
  split at h1
  · cases rv
    exact ⟨_, rfl, RP.okN h1 st1 (.int _)⟩
  · exact h1.elim

/-! ### comparisons -/
def asI : List AV → Option (List Int)
  | [] => some []
  | .int i :: xs => (asI xs).map (i :: ·)
  | _ => none
theorem asI_eq : ∀ {xs : List AV} {ns : List Int}, asI xs = some ns → xs = ns.map AV.int
  | [], ns, h => by cases h; rfl
  | .int i :: xs, ns, h => by
    simp only [asI, Option.map_eq_some_iff] at h
    obtain ⟨ms, h1, h2⟩ := h
    subst h2
    rw [List.map_cons, ← asI_eq h1]
  | .non :: _, _, h => by simp [asI] at h
  | .bl _ :: _, _, h => by simp [asI] at h
  | .str _ :: _, _, h => by simp [asI] at h
  | .tup _ :: _, _, h => by simp [asI] at h
  | .lst _ :: _, _, h => by simp [asI] at h
  | .scr _ :: _, _, h => by simp [asI] at h
  | .exc _ _ _ :: _, _, h => by simp [asI] at h
  | .dc0 :: _, _, h => by simp [asI] at h
  | .loc _ :: _, _, h => by simp [asI] at h
  | .at _ :: _, _, h => by simp [asI] at h
  | .ty _ :: _, _, h => by simp [asI] at h
theorem asI_map (ns : List Int) : asI (ns.map AV.int) = some ns := by
  induction ns with
  | nil => rfl
  | cons n ns ih => simp [asI, ih]
/-- the order of tuples of ints, by the order p of ints at the first place where they part, c of the lengths -/
def lexB (p : Int → Int → Bool) (c : Bool) (ns ms : List Int) : Bool := Ob.lexAt (fun j => decide (ns.getD j 0 = ms.getD j 0)) (fun j => p (ns.getD j 0) (ms.getD j 0)) c 0 (min ns.length ms.length)
def cmpV (p : Int → Int → Bool) (c : Nat → Nat → Bool) : Op2 := fun v w S =>
  match v, w with
  | .int i, .int j => .ok (.bl (p i j)) S
  | .tup xs, .tup ys => match asI xs, asI ys with
    | some ns, some ms => .ok (.bl (lexB p (c ns.length ms.length) ns ms)) S
    | _, _ => .bad
  | _, _ => .bad
def ltV : Op2 := fun v w S =>
  match v, w with
  | .int i, .int j => .ok (.bl (decide (i < j))) S
  | _, _ => .bad
def gtV : Op2 := fun v w S =>
  match v, w with
  | .int i, .int j => .ok (.bl (decide (j < i))) S
  | _, _ => .bad
def leV : Op2 := cmpV (fun i j => decide (i ≤ j)) fun n m => decide (n ≤ m)
def geV : Op2 := cmpV (fun i j => decide (j ≤ i)) fun n m => decide (m ≤ n)
theorem tm_lt : TmO ltV := fun b v w S hb => by unfold ltV; split <;> first | exact TR.refl b S | trivial
theorem tm_gt : TmO gtV := fun b v w S hb => by unfold gtV; split <;> first | exact TR.refl b S | trivial
theorem tm_cmp {p : Int → Int → Bool} {c : Nat → Nat → Bool} : TmO (cmpV p c) := fun b v w S hb => by
  unfold cmpV
  split
  · exact TR.refl b S
  · split
    · exact TR.refl b S
    · trivial
  · trivial
theorem lt_v : OpV T X ltV (rI0 fun i j => .bl (decide (i < j))) := by
  intro W σ ρ H S v w x y Q st rv rw' h
  unfold ltV at h
  split at h
  · cases rv; cases rw'
    exact ⟨_, _, rfl, rfl, RP.okN h st (.bl _)⟩
  · exact h.elim
theorem gt_v : OpV T X gtV (rI0 fun i j => .bl (decide (j < i))) := by
  intro W σ ρ H S v w x y Q st rv rw' h
  unfold gtV at h
  split at h
  · cases rv; cases rw'
    exact ⟨_, _, rfl, rfl, RP.okN h st (.bl _)⟩
  · exact h.elim
/-- t >= u of tuples of ints -/
def rGeT (K : PySem.W.Frag) : R2 := fun x y H Q => ∃ (p q : Addr) (ns ms : List Int), x = .ref p ∧ y = .ref q ∧ SqT K H p (ns.map V.int) ∧ SqT K H q (ms.map V.int) ∧ Q (.bl (lexB (fun i j => decide (j ≤ i)) (decide (ms.length ≤ ns.length)) ns ms)) H
theorem op_geT (hu : X.A.units < cLine) : OpR X (compareOp .GtE) (rGeT X.K) := by
  rintro pins s σ H x y u w Q I r1 r2 ⟨p, q, ns, ms, rfl, rfl, hp, hq, hQ⟩
  obtain rfl : u = Value.ref p := r1
  obtain rfl : w = Value.ref q := r2
  obtain ⟨as, ra, ta, _⟩ := I.tuple hp
  obtain ⟨bs, rb, tb, _⟩ := I.tuple hq
  have ia := Vals.ints ra
  have ib := Vals.ints rb
  have sa : as.toArray.size = ns.length := (List.size_toArray ..).trans ia.length
  have sb : bs.toArray.size = ms.length := (List.size_toArray ..).trans ib.length
  have ga : ∀ j (hj : j < as.toArray.size), ∃ t, as.toArray[j] = .int (ns.getD j 0) t := fun j hj => PyProof.Rows.IntsAre.int_at ia _ _ (by simp only [List.size_toArray] at hj; simp [hj])
  have gb : ∀ j (hj : j < bs.toArray.size), ∃ t, bs.toArray[j] = .int (ms.getD j 0) t := fun j hj => PyProof.Rows.IntsAre.int_at ib _ _ (by simp only [List.size_toArray] at hj; simp [hj])
  have R := _root_.Ob.RcOp.tuples_ge (A := X.A) (s := s) (e := fun j => decide (ns.getD j 0 = ms.getD j 0)) (r := fun j => decide (ms.getD j 0 ≤ ns.getD j 0)) ta tb hu (fun j ha hb => by
    obtain ⟨t, et⟩ := ga j ha
    obtain ⟨t', et'⟩ := gb j hb
    rw [et, et', show decide (ns.getD j 0 = ms.getD j 0) = (ns.getD j 0 == ms.getD j 0) from by rw [Bool.beq_eq_decide_eq]]
    exact SeqAt.EqAt.int_int _ _ _ _) (fun j ha hb _ => by
    obtain ⟨t, et⟩ := ga j ha
    obtain ⟨t', et'⟩ := gb j hb
    rw [et, et']
    exact _root_.Ob.RcOp.ge_int _ _ _ _)
  rw [sa, sb] at R
  exact R X.prog X.w X.xe (EP X pins σ Q) ⟨.bl _, H, I, rfl, hQ⟩
theorem le_v : OpV T X leV (fun x y H Q => rI0 (fun i j => .bl (decide (i ≤ j))) x y H Q ∨ rLeT X.K x y H Q) := by
  intro W σ ρ H S v w x y Q st rv rw' h
  unfold leV cmpV at h
  split at h
  · cases rv; cases rw'
    exact .inl ⟨_, _, rfl, rfl, RP.okN h st (.bl _)⟩
  · split at h
    · rename_i ns ms e1 e2
      rw [asI_eq e1] at rv
      rw [asI_eq e2] at rw'
      cases rv with
      | @tup xs a vs ha ra =>
        cases rw' with
        | @tup ys c ws hc rc =>
          rw [RVs.inv_int ra] at ha
          rw [RVs.inv_int rc] at hc
          exact .inr ⟨a, c, _, _, rfl, rfl, ha, hc, RP.okN h st (.bl _)⟩
    · exact h.elim
  · exact h.elim
theorem ge_v : OpV T X geV (fun x y H Q => rI0 (fun i j => .bl (decide (j ≤ i))) x y H Q ∨ rGeT X.K x y H Q) := by
  intro W σ ρ H S v w x y Q st rv rw' h
  unfold geV cmpV at h
  split at h
  · cases rv; cases rw'
    exact .inl ⟨_, _, rfl, rfl, RP.okN h st (.bl _)⟩
  · split at h
    · rename_i ns ms e1 e2
      rw [asI_eq e1] at rv
      rw [asI_eq e2] at rw'
      cases rv with
      | @tup xs a vs ha ra =>
        cases rw' with
        | @tup ys c ws hc rc =>
          rw [RVs.inv_int ra] at ha
          rw [RVs.inv_int rc] at hc
          exact .inr ⟨a, c, _, _, rfl, rfl, ha, hc, RP.okN h st (.bl _)⟩
    · exact h.elim
  · exact h.elim
/-- a == b: two ints, two texts, two bools, None beside any of them; or data -/
def scA : AV → Bool
  | .non => true
  | .int _ => true
  | .str _ => true
  | .bl _ => true
  | _ => false
def eqA (v w : AV) : Bool := PyData.eqv v.dat w.dat
def eqV : Op2 := fun v w S =>
  match v, w with
  | .int i, .int j => .ok (.bl (decide (i = j))) S
  | .str i, .str j => .ok (.bl (decide (i = j))) S
  | v, w => if (rsv S v).sh = true ∧ (rsv S w).sh = true then .ok (.bl (eqA (rsv S v) (rsv S w))) S else .bad
def neV : Op2 := fun v w S =>
  match v, w with
  | .int i, .int j => .ok (.bl (!decide (i = j))) S
  | .str i, .str j => .ok (.bl (!decide (i = j))) S
  | v, w => if (rsv S v).sh = true ∧ (rsv S w).sh = true then .ok (.bl (!eqA (rsv S v) (rsv S w))) S else .bad
theorem tm_eq : TmO eqV := fun b v w S hb => by
  unfold eqV
  split
  · exact TR.refl b S
  · exact TR.refl b S
  · exact lenTm (TR.refl b S)
theorem tm_ne : TmO neV := fun b v w S hb => by
  unfold neV
  split
  · exact TR.refl b S
  · exact TR.refl b S
  · exact lenTm (TR.refl b S)
theorem decI {i j : Int} : decide (V.int i = V.int j) = decide (i = j) := by simp
theorem decS {i j : Str} : decide (V.str i = V.str j) = decide (i = j) := by simp
theorem eq_v : OpV T X eqV (fun x y H Q => rEq x y H Q ∨ rEqD X.K x y H Q) := by
  intro W σ ρ H S v w x y Q st rv rw' h
  unfold eqV at h
  split at h
  · cases rv; cases rw'
    exact .inl ⟨rfl, RP.okN h st (by rw [decI]; exact .bl _)⟩
  · cases rv; cases rw'
    exact .inl ⟨rfl, RP.okN h st (by rw [decS]; exact .bl _)⟩
  · split at h
    · rename_i hc
      obtain ⟨h1, h2⟩ := hc
      unfold AV.sh at h1 h2
      simp only [Bool.and_eq_true] at h1 h2
      exact .inr ⟨_, _, dp_rsv st rv h1.1, dp_rsv st rw' h2.1, h1.2, h2.2, RP.okN h st (.bl _)⟩
    · exact h.elim
theorem ne_v : OpV T X neV (fun x y H Q => rNe x y H Q ∨ rNeD X.K x y H Q) := by
  intro W σ ρ H S v w x y Q st rv rw' h
  unfold neV at h
  split at h
  · cases rv; cases rw'
    exact .inl ⟨rfl, RP.okN h st (by rw [decI]; exact .bl _)⟩
  · cases rv; cases rw'
    exact .inl ⟨rfl, RP.okN h st (by rw [decS]; exact .bl _)⟩
  · split at h
    · rename_i hc
      obtain ⟨h1, h2⟩ := hc
      unfold AV.sh at h1 h2
      simp only [Bool.and_eq_true] at h1 h2
      exact .inr ⟨_, _, dp_rsv st rv h1.1, dp_rsv st rw' h2.1, h1.2, h2.2, RP.okN h st (.bl _)⟩
    · exact h.elim
/-- v is None -/
def isN : AV → Bool
  | .non => true
  | _ => false
def isNV : Op2 := fun v w S => match w with
  | .non => .ok (.bl (isN v)) S
  | _ => .bad
def notNV : Op2 := fun v w S => match w with
  | .non => .ok (.bl (!isN v)) S
  | _ => .bad
theorem tm_isN : TmO isNV := fun b v w S hb => by unfold isNV; split <;> first | exact TR.refl b S | trivial
theorem tm_notN : TmO notNV := fun b v w S hb => by unfold notNV; split <;> first | exact TR.refl b S | trivial
theorem isN_eq {T : Tb} {K : PySem.W.Frag} {ρ : List Addr} {H : Hp} {v : AV} {x : V} (r : RV T K ρ H v x) : isN v = decide (x = .non) := by cases r <;> simp [isN]
theorem isN_v : OpV T X isNV (fun x y H Q => y = .non ∧ Q (.bl (decide (x = .non))) H) := by
  intro W σ ρ H S v w x y Q st rv rw' h
  unfold isNV at h
  split at h
  · cases rw'
    exact ⟨rfl, RP.okN h st (by rw [← isN_eq rv]; exact .bl _)⟩
  · exact h.elim
theorem notN_v : OpV T X notNV (fun x y H Q => y = .non ∧ Q (.bl (!decide (x = .non))) H) := by
  intro W σ ρ H S v w x y Q st rv rw' h
  unfold notNV at h
  split at h
  · cases rw'
    exact ⟨rfl, RP.okN h st (by rw [← isN_eq rv]; exact .bl _)⟩
  · exact h.elim
/-- v is b of bools (b written) -/
def isBV : Op2 := fun v w S => match v, w with
  | .bl a, .bl c => .ok (.bl (decide (a = c))) S
  | _, _ => .bad
def notBV : Op2 := fun v w S => match v, w with
  | .bl a, .bl c => .ok (.bl (!decide (a = c))) S
  | _, _ => .bad
theorem tm_isB : TmO isBV := fun b v w S hb => by unfold isBV; split <;> first | exact TR.refl b S | trivial
theorem tm_notB : TmO notBV := fun b v w S hb => by unfold notBV; split <;> first | exact TR.refl b S | trivial
theorem isB_v : OpV T X isBV rIsB := by
  intro W σ ρ H S v w x y Q st rv rw' h
  unfold isBV at h
  split at h
  · cases rv; cases rw'
    exact ⟨_, _, rfl, rfl, RP.okN h st (.bl _)⟩
  · exact h.elim
theorem notB_v : OpV T X notBV rNotB := by
  intro W σ ρ H S v w x y Q st rv rw' h
  unfold notBV at h
  split at h
  · cases rv; cases rw'
    exact ⟨_, _, rfl, rfl, RP.okN h st (.bl _)⟩
  · exact h.elim

/-! ### in, not in: flat things -/
def flA : AV → Bool
  | .non => true
  | .bl _ => true
  | .int _ => true
  | .str _ => true
  | _ => false
def asSq (S : Store) : AV → Option (List AV)
  | .tup xs => some xs
  | v => asL S v
def inA (v : AV) (xs : List AV) : Bool := xs.any fun y => eqA y v
def inV0 (neg : Bool) : Op2 := fun v w S =>
  match asSq S w with
  | some xs => if flA v = true ∧ xs.all flA = true then .ok (.bl (if neg then !inA v xs else inA v xs)) S else .bad
  | _ => .bad
theorem tm_in {neg : Bool} : TmO (inV0 neg) := fun b v w S hb => by
  unfold inV0
  split
  · exact lenTm (TR.refl b S)
  · trivial
theorem flat_of {T : Tb} {K : PySem.W.Frag} {ρ : List Addr} {H : Hp} {v : AV} {x : V} (r : RV T K ρ H v x) (h : flA v = true) : flatV x = true := by cases r <;> first | rfl | cases h
theorem eqV_of {T : Tb} {K : PySem.W.Frag} {ρ : List Addr} {H : Hp} {v w : AV} {x y : V} (r : RV T K ρ H v x) (r' : RV T K ρ H w y) (h : flA v = true) (h' : flA w = true) : L2.eqV x y = eqA v w := by
  cases r <;> cases h <;> cases r' <;> cases h' <;> simp [L2.eqV, eqA, AV.dat, PyData.eqv]
theorem asSq_rd {T : Tb} {K : PySem.W.Frag} {ρ : List Addr} {H : Hp} {S : Store} (st : RSt T K ρ H S) {v : AV} {u : V} (r : RV T K ρ H v u) {xs : List AV} (h : asSq S v = some xs) : ∃ a vs, u = .ref a ∧ (SqL K H a vs ∨ SqT K H a vs) ∧ RVs T K ρ H xs vs := by
  by_cases e : ∃ ys, v = .tup ys
  · obtain ⟨ys, rfl⟩ := e
    have h' := Option.some.inj h
    subst h'
    cases r with
    | tup ha ra => exact ⟨_, _, rfl, .inr ha, ra⟩
  · have h' : asL S v = some xs := by
      unfold asSq at h
      split at h
      · exact absurd ⟨_, rfl⟩ e
      · exact h
    obtain ⟨a, vs, rfl, ha, ra⟩ := asL_rd st r h'
    exact ⟨a, vs, rfl, .inl ha.sq, ra⟩
theorem flL_of {T : Tb} {K : PySem.W.Frag} {ρ : List Addr} {H : Hp} : ∀ {xs : List AV} {vs : List V}, RVs T K ρ H xs vs → xs.all flA = true → vs.all flatV = true
  | _, _, .nil, _ => rfl
  | _, _, .cons r t, h => by
    simp only [List.all_cons, Bool.and_eq_true] at h ⊢
    exact ⟨flat_of r h.1, flL_of t h.2⟩
theorem inA_of {T : Tb} {K : PySem.W.Frag} {ρ : List Addr} {H : Hp} {v : AV} {x : V} (r : RV T K ρ H v x) (hv : flA v = true) : ∀ {xs : List AV} {vs : List V}, RVs T K ρ H xs vs → xs.all flA = true → inV x vs = inA v xs
  | _, _, .nil, _ => rfl
  | _, _, .cons q t, h => by
    simp only [List.all_cons, Bool.and_eq_true] at h
    have e1 := inA_of r hv t h.2
    unfold inV inA at *
    rw [List.any_cons, List.any_cons, eqV_of q r h.1 hv, e1]
theorem in_v (neg : Bool) : OpV T X (inV0 neg) (rIn X.K neg) := by
  intro W σ ρ H S v w x y Q st rv rw' h
  unfold inV0 at h
  split at h
  · rename_i xs e
    obtain ⟨a, vs, rfl, ha, ra⟩ := asSq_rd st rw' e
    split at h
    · rename_i hc
      refine ⟨a, vs, rfl, ha, flat_of rv hc.1, flL_of ra hc.2, RP.okN h st ?_⟩
      rw [inA_of rv hc.1 ra hc.2]
      cases neg <;> exact .bl _
    · exact h.elim
  · exact h.elim

/-! ### subscripts -/
def ixV : Op2 := fun v w S =>
  match w with
  | .int i => match asSq S v with
    | some xs => match atI xs i with
      | some y => .ok y S
      | none => .bad
    | none => .bad
  | _ => .bad
theorem tm_ix : TmO ixV := fun b v w S hb => by
  unfold ixV
  split
  · split
    · split
      · exact TR.refl b S
      · trivial
    · trivial
  · trivial
theorem atI_rv {T : Tb} {K : PySem.W.Frag} {ρ : List Addr} {H : Hp} {xs : List AV} {vs : List V} (r : RVs T K ρ H xs vs) {i : Int} {y : AV} (h : atI xs i = some y) : ∃ u, atI vs i = some u ∧ RV T K ρ H y u := by
  unfold atI at h ⊢
  rw [← r.length]
  cases e : ixN xs.length i with
  | none => rw [e] at h; cases h
  | some j =>
    rw [e] at h
    exact r.get h
theorem ix_v : OpV T X ixV (rIx X.K) := by
  intro W σ ρ H S v w x y Q st rv rw' h
  unfold ixV at h
  split at h
  · cases rw'
    split at h
    · rename_i xs e
      obtain ⟨a, vs, rfl, ha, ra⟩ := asSq_rd st rv e
      split at h
      · rename_i z hz
        obtain ⟨u, h1, h2⟩ := atI_rv ra hz
        rcases ha with ha | ha
        · exact .inl ⟨a, vs, _, u, rfl, rfl, ha, h1, RP.okN h st h2⟩
        · exact .inr (.inl ⟨a, vs, _, u, rfl, rfl, ha, h1, RP.okN h st h2⟩)
      · exact h.elim
    · exact h.elim
  · exact h.elim
theorem ve_ix {W : WX} {b : Nat} {a c : Expr} {m1 m2 : ME} {pos : Pos} (ha : VE T X W b a m1) (hc : VE T X W b c m2) (hs : PlainIx c := by intro _ _; rfl) : VE T X W b (.Subscript a c pos) (mBin ixV m1 m2) :=
  ⟨(pe_ix ix_seq ha.pe hc.pe hs).impR fun _ _ _ h => tOp_of ix_v h, mBin_tm tm_ix ha.tm hc.tm⟩

/-! ### slices -/
abbrev MO := Ev → Store → Res (Option Int)
def RO : Rel (Option Int) (Option Int) := fun _ _ _ _ x y => x = y
def tO (T : Tb) (X : Cx) (W : WX) (m : MO) : TO := fun σ H Q => ∃ env S ρ, RSt T X.K ρ H S ∧ REnv T X.K ρ H env σ ∧ RP RO T X.K W σ ρ H Q (m env S)
structure VO (T : Tb) (X : Cx) (W : WX) (b : Nat) (e : Option Expr) (m : MO) : Prop where
  pe : PO X e (tO T X W m)
  tm : TmE b m
def intO (v : AV) (S : Store) : Res (Option Int) := match v with
  | .int i => .ok (some i) S
  | _ => .bad
def mPart (m : ME) : MO := bindM m fun v _ S => intO v S
theorem _root_.L2.PO.impR {e : Option Expr} {t t' : TO} (p : PO X e t) (h : ∀ σ H Q, t' σ H Q → t σ H Q) : PO X e t' := ⟨fun s σ H pins Q I q => p.run s σ H pins Q I (h _ _ _ q)⟩
theorem vo_none {W : WX} {b : Nat} : VO T X W b none (pureM none) := ⟨po_none.impR fun σ H Q q => by
  obtain ⟨env, S, ρ, st, re, q⟩ := q
  exact RP.okN (R := RO) q st rfl, TmE.pure _⟩
theorem vo_some {W : WX} {b : Nat} {e : Expr} {m : ME} (h : VE T X W b e m) : VO T X W b (some e) (mPart m) := by
  refine ⟨(po_some h.pe).impR fun σ H Q q => ?_, h.tm.bind fun v env S hb => by unfold intO; split <;> first | exact TR.refl b S | trivial⟩
  obtain ⟨env, S, ρ, st, re, q⟩ := q
  refine tV_run st re ((RP.bind q).imp ?_)
  rintro x H1 ⟨v, S1, ρ1, e1, st1, rv, h1⟩
  unfold intO at h1
  dsimp only at h1
  split at h1
  · cases rv
    exact ⟨_, rfl, RP.okN (R := RO) h1 st1 rfl⟩
  · exact h1.elim
def cutA {α : Type} (xs : List α) (lo hi : Option Int) : List α := (xs.drop (HT.sIx xs.length 0 lo)).take (HT.sIx xs.length xs.length hi - HT.sIx xs.length 0 lo)
/-- a slice of a tuple or of a list: a new one -/
def slV (v : AV) (lo hi : Option Int) (S : Store) : Res AV := match v with
  | .tup xs => .ok (.tup (cutA xs lo hi)) S
  | v => match asL S v with
    | some xs => .ok (.lst (cutA xs lo hi)) S
    | none => .bad
def mSl (m : ME) (ml mh : MO) : ME := bindM m fun v => bindM ml fun lo => bindM mh fun hi => fun _ S => slV v lo hi S
theorem cut_rv {T : Tb} {K : PySem.W.Frag} {ρ : List Addr} {H : Hp} {xs : List AV} {vs : List V} (r : RVs T K ρ H xs vs) (lo hi : Option Int) : RVs T K ρ H (cutA xs lo hi) (cutV vs lo hi) := by
  unfold cutA cutV
  rw [← r.length]
  exact (r.drop _).take _
theorem ve_sl {W : WX} {b : Nat} {e : Expr} {lo hi : Option Expr} {m : ME} {ml mh : MO} {p2 pos : Pos} (h : VE T X W b e m) (hl : VO T X W b lo ml) (hh : VO T X W b hi mh) : VE T X W b (.Subscript e (.Slice lo hi none p2) pos) (mSl m ml mh) := by
  refine ⟨(pe_slice (sl_tupA.or sl_list) h.pe hl.pe hh.pe).impR fun σ H Q q => ?_, h.tm.bind fun v => hl.tm.bind fun lo => hh.tm.bind fun hi env S hb => ?_⟩
  · obtain ⟨env, S, ρ, st, re, q⟩ := q
    refine tV_run st re ((RP.bind q).imp ?_)
    rintro x H1 ⟨v, S1, ρ1, e1, st1, rv, h1⟩
    refine ⟨env, S1, ρ1, st1, re.mono e1, (RP.bind (R := RO) h1).imp ?_⟩
    rintro l H2 ⟨l', S2, ρ2, e2, st2, rl, h2⟩
    have rl : l' = l := rl
    subst rl
    refine ⟨env, S2, ρ2, st2, (re.mono e1).mono e2, (RP.bind (R := RO) h2).imp ?_⟩
    rintro u H3 ⟨u', S3, ρ3, e3, st3, ru, h3⟩
    have ru : u' = u := ru
    subst ru
    have rv := (rv.mono e2).mono e3
    unfold slV at h3
    dsimp only at h3
    split at h3
    · rename_i xs _
      cases rv with
      | @tup _ a vs ha ra =>
        refine .inl ⟨a, vs, rfl, ha, fun hw => ?_, fun _ p hp => h3 _ _ _ (Ext.new1 hp) (st3.new1 hp) (tupNew (cut_rv ra _ _) hp)⟩
        have e : cutA xs l' u' = xs := by
          unfold cutA
          rw [← ra.length] at hw
          rw [hw.1, hw.2]
          simp
        rw [e] at h3
        exact RP.okN h3 st3 (.tup ha ra)
    · split at h3
      · rename_i xs hx
        obtain ⟨a, vs, rfl, ha, ra⟩ := asL_rd st3 rv hx
        exact .inr ⟨a, vs, rfl, ha.sq, fun p hp => h3 _ _ _ (Ext.new1 hp) (st3.new1 hp) (lstNew st3 (cut_rv ra _ _) hp)⟩
      · exact h3.elim
  · unfold slV
    split
    · exact TR.refl b S
    · split
      · exact TR.refl b S
      · trivial

/-! ### calls of built-in functions and classes -/
abbrev OpN := List AV → Store → Res AV
def CalV (T : Tb) (X : Cx) (f : OpN) (r : List V → Hp → VK → Prop) : Prop := ∀ (W : WX) (σ : Sl) (ρ : List Addr) (H : Hp) (S : Store) (vs : List AV) (xs : List V) (Q : VK), RSt T X.K ρ H S → RVs T X.K ρ H vs xs → RP RV T X.K W σ ρ H Q (f vs S) → r xs H Q
def TmN (f : OpN) : Prop := ∀ b vs S, b ≤ S.length → Tm b S (f vs S)
def mCall (f : OpN) (ms : MA) : ME := bindM ms fun vs _ S => f vs S
theorem tCB_of {f : OpN} {r : List V → Hp → VK → Prop} {ms : MA} {W : WX} (hv : CalV T X f r) {σ : Sl} {H : Hp} {Q : VK} (h : tV T X W (mCall f ms) σ H Q) : tCB r (tA T X W ms) σ H Q := by
  obtain ⟨env, S, ρ, st, re, q⟩ := h
  refine tA_run st re ((RP.bind q).imp ?_)
  rintro xs H1 ⟨vs, S1, ρ1, e1, st1, rvs, h1⟩
  exact hv W σ ρ1 H1 S1 vs xs Q st1 rvs h1
theorem ve_callB {W : WX} {b : Nat} {f : OpN} {r : List V → Hp → VK → Prop} {id : String} {x : Str} {e : Expr} {es : List Expr} {ms : MA} {p pos : Pos} (hm : X.mg x = none) (hv : bootBuiltins x = some (.builtin id)) (hc : CallR X (.builtin id) r) (hf : CalV T X f r) (ht : TmN f)
    (ha : VA T X W b (e :: es) ms) (hg : Gl X x := by rfl) (hn : x ≠ "__name__" := by decide) (hdb : (x == ("__debug__" : Str)) = false := by decide) (he : starEach (e :: es) X.env = (false, eval e X.env) :: starEach es X.env := by rfl) (hpl : (backTo pos (starEach es X.env)).any (·.1) = false := by rfl) :
    VE T X W b (.Call (.Name x p) (e :: es) [] pos) (mCall f ms) :=
  ⟨(pe_callB hc hg hm hv ha.pe hn hdb he hpl).impR fun _ _ _ h => tCB_of hf h, ha.tm.bind fun vs env S hb => ht b vs S hb⟩
theorem ve_callTy {W : WX} {b : Nat} {f : OpN} {r : List V → Hp → VK → Prop} {id : String} {x : Str} {e : Expr} {es : List Expr} {ms : MA} {p pos : Pos} (hm : X.mg x = none) (hv : bootBuiltins x = some (.type id)) (hc : CallR X (.type id) r) (hf : CalV T X f r) (ht : TmN f)
    (ha : VA T X W b (e :: es) ms) (hg : Gl X x := by rfl) (hn : x ≠ "__name__" := by decide) (hdb : (x == ("__debug__" : Str)) = false := by decide) (he : starEach (e :: es) X.env = (false, eval e X.env) :: starEach es X.env := by rfl) (hpl : (backTo pos (starEach es X.env)).any (·.1) = false := by rfl) :
    VE T X W b (.Call (.Name x p) (e :: es) [] pos) (mCall f ms) :=
  ⟨(pe_callTy hc hg hm hv ha.pe hn hdb he hpl).impR fun _ _ _ h => tCB_of hf h, ha.tm.bind fun vs env S hb => ht b vs S hb⟩
end
end Ve

set_option Elab.async false
set_option linter.all false
set_option maxRecDepth 100000
set_option maxHeartbeats 2000000
/-! Ve, fourth part: statements, loops, defs and their calls. -/
namespace Ve
open PySem PySem.Spec PyProof.Rows L2

/-! ### targets -/
abbrev MG := AV → Ev → Store → SR
def nxE (Q : Sl → Hp → Prop) : Ends := { nx := Q, rt := fun _ _ => False, bk := fun _ _ => False, ct := fun _ _ => False }
def tG (T : Tb) (X : Cx) (W : WX) (g : MG) : TG := fun u σ H Q => ∃ v env S ρ, RSt T X.K ρ H S ∧ REnv T X.K ρ H env σ ∧ RV T X.K ρ H v u ∧ RPS T X.K W ρ H (nxE Q) (g v env S)
abbrev MGs := List AV → Ev → Store → SR
def tGs (T : Tb) (X : Cx) (W : WX) (g : MGs) : TGs := fun us σ H Q => ∃ vs env S ρ, RSt T X.K ρ H S ∧ REnv T X.K ρ H env σ ∧ RVs T X.K ρ H vs us ∧ RPS T X.K W ρ H (nxE Q) (g vs env S)
structure VG (T : Tb) (X : Cx) (W : WX) (b : Nat) (tg : Expr) (g : MG) : Prop where
  pg : PG X tg (tG T X W g)
  tm : ∀ v, TmX b (g v)
structure VGs (T : Tb) (X : Cx) (W : WX) (b : Nat) (tgs : List Expr) (g : MGs) : Prop where
  pg : PGs X tgs (tGs T X W g)
  tm : ∀ vs, TmX b (g vs)
theorem _root_.L2.PG.impR {X : Cx} {e : Expr} {t t' : TG} (p : PG X e t) (h : ∀ u σ H Q, t' u σ H Q → t u σ H Q) : PG X e t' := ⟨fun pins s σ H v u Q I r q => p.run pins s σ H v u Q I r (h _ _ _ _ q)⟩
theorem _root_.L2.PGs.impR {X : Cx} {e : List Expr} {t t' : TGs} (p : PGs X e t) (h : ∀ u σ H Q, t' u σ H Q → t u σ H Q) : PGs X e t' := ⟨fun pins s σ H v u Q I r q => p.run pins s σ H v u Q I r (h _ _ _ _ q)⟩
/-- one statement, then another -/
def SR.then (r : SR) (k : Ev → Store → SR) : SR :=
  match r with
  | .nx env S => k env S
  | r => r
theorem TmS.then {b : Nat} {S : Store} {k : Ev → Store → SR} : ∀ {r : SR}, b ≤ S.length → TmS b S r → (∀ env S1, b ≤ S1.length → TmS b S1 (k env S1)) → TmS b S (r.then k)
  | .nx env S1, hb, h, hk => TmS.after h (hk env S1 (Nat.le_trans hb h.1))
  | .rt _ _, _, h, _ => h
  | .bk _ _, _, h, _ => h
  | .ct _ _, _, h, _ => h
  | .rse _ _ _ _ _, _, h, _ => h
  | .bad, _, _, _ => trivial
section
variable {T : Tb} {K : PySem.W.Frag} {W : WX} {ρ : List Addr} {H : Hp}
theorem RPS.then {D : Ends} {k : Ev → Store → SR} : ∀ {r : SR}, RPS T K W ρ H D (r.then k) →
    RPS T K W ρ H { D with nx := fun σ1 H1 => ∃ env S ρ1, Ext ρ H ρ1 H1 ∧ RSt T K ρ1 H1 S ∧ REnv T K ρ1 H1 env σ1 ∧ RPS T K W ρ1 H1 D (k env S) } r
  | .nx env S, h => fun ρ' H' σ' e st re => ⟨env, S, ρ', e, st, re, RPS.mono e h⟩
  | .rt _ _, h => h
  | .bk _ _, h => h
  | .ct _ _, h => h
  | .rse _ _ _ _ _, h => h
  | .bad, h => h
theorem RPS.imp {D D' : Ends} (h1 : ∀ σ H, D.nx σ H → D'.nx σ H) (h2 : ∀ v H, D.rt v H → D'.rt v H) (h3 : ∀ σ H, D.bk σ H → D'.bk σ H) (h4 : ∀ σ H, D.ct σ H → D'.ct σ H) : ∀ {r : SR}, RPS T K W ρ H D r → RPS T K W ρ H D' r
  | .nx env S, h => fun ρ' H' σ' e st re => h1 _ _ (h ρ' H' σ' e st re)
  | .rt _ _, h => fun ρ' H' u e st re => h2 _ _ (h ρ' H' u e st re)
  | .bk _ _, h => fun ρ' H' σ' e st re => h3 _ _ (h ρ' H' σ' e st re)
  | .ct _ _, h => fun ρ' H' σ' e st re => h4 _ _ (h ρ' H' σ' e st re)
  | .rse _ _ _ _ _, h => h
  | .bad, h => h
end
section
variable {T : Tb} {X : Cx} {W : WX} {b : Nat}
def gNm (i : Nat) : MG := fun v env S => .nx (env.set i (some v)) S
theorem vg_name {i : Nat} {x : Str} {pos : Pos} (hN : X.N.Nodup) (hi : X.N[i]? = some x := by rfl) (hx : Loc X.env.scope x := by first | exact Or.inl rfl | exact Or.inr rfl) (hf : X.fn x = true ∨ X.env.scope.names.lookup x = some .local := by first | exact .inl rfl | exact .inr rfl | assumption) : VG T X W b (.Name x pos) (gNm i) := by
  refine ⟨(pg_name hN hi hx hf).impR ?_, fun v env S hb => TR.refl b S⟩
  rintro u σ H Q ⟨v, env, S, ρ, st, re, rv, h⟩
  exact h _ _ _ (Ext.refl _ _) st (re.set rv)
def gsNil : MGs := fun vs env S => match vs with
  | [] => .nx env S
  | _ => .bad
def gsCons (g : MG) (gs : MGs) : MGs := fun vs env S => match vs with
  | v :: r => (g v env S).then fun env1 S1 => gs r env1 S1
  | [] => .bad
theorem vgs_nil : VGs T X W b [] gsNil := by
  refine ⟨pgs_nil.impR ?_, fun v env S hb => by unfold gsNil; split <;> first | exact TR.refl b S | trivial⟩
  rintro u σ H Q ⟨v, env, S, ρ, st, re, rv, h⟩
  unfold gsNil at h
  split at h
  · cases rv
    exact ⟨rfl, h _ _ _ (Ext.refl _ _) st re⟩
  · exact h.elim
theorem tG_run {g : MG} {σ : Sl} {H : Hp} {Q : Sl → Hp → Prop} {env : Ev} {S : Store} {ρ : List Addr} {v : AV} {u : V} (st : RSt T X.K ρ H S) (re : REnv T X.K ρ H env σ) (rv : RV T X.K ρ H v u) (h : RPS T X.K W ρ H (nxE Q) (g v env S)) : tG T X W g u σ H Q := ⟨v, env, S, ρ, st, re, rv, h⟩
/-- of RPS: only going on is wished for -/
theorem RPS.nxOnly {K : PySem.W.Frag} {ρ : List Addr} {H : Hp} {D : Ends} {Q : Sl → Hp → Prop} (h1 : ∀ σ H, D.nx σ H → Q σ H) (h2 : ∀ v H, ¬ D.rt v H) (h3 : ∀ σ H, ¬ D.bk σ H) (h4 : ∀ σ H, ¬ D.ct σ H) {r : SR} (h : RPS T K W ρ H D r) : RPS T K W ρ H (nxE Q) r :=
  RPS.imp (D' := nxE Q) h1 (fun v H q => (h2 v H q).elim) (fun σ H q => (h3 σ H q).elim) (fun σ H q => (h4 σ H q).elim) h
theorem vgs_cons {e : Expr} {es : List Expr} {g : MG} {gs : MGs} (h : VG T X W b e g) (hs : VGs T X W b es gs) (hx : (assignEach (e :: es) X.env).map (·.2) = assign e X.env :: (assignEach es X.env).map (·.2) := by rfl) : VGs T X W b (e :: es) (gsCons g gs) := by
  refine ⟨(pgs_cons h.pg hs.pg hx).impR ?_, fun v env S hb => ?_⟩
  · rintro u σ H Q ⟨v, env, S, ρ, st, re, rv, q⟩
    unfold gsCons at q
    split at q
    · cases rv with
      | cons r1 r2 =>
        refine ⟨_, _, rfl, tG_run st re r1 (RPS.nxOnly ?_ (fun _ _ z => z) (fun _ _ z => z) (fun _ _ z => z) (RPS.then q))⟩
        rintro σ1 H1 ⟨env1, S1, ρ1, e1, st1, re1, h1⟩
        exact ⟨_, env1, S1, ρ1, st1, re1, r2.mono e1, h1⟩
    · exact q.elim
  · unfold gsCons
    split
    · exact TmS.then hb (h.tm _ env S hb) fun env1 S1 h1 => hs.tm _ env1 S1 h1
    · trivial
def gTp (n : Nat) (gs : MGs) : MG := fun v env S => match v with
  | .tup xs => if xs.length = n then gs xs env S else .bad
  | _ => .bad
theorem vg_tup {es : List Expr} {k : Nat} {gs : MGs} {n : Nat} {pos : Pos} (h : VGs T X W b es gs) (hn : (assignEach es X.env).length = n := by rfl) (hst : (assignEach es X.env).findIdx? (·.1) = none := by rfl) (hc : X.calm = true := by rfl) : VG T X W b (.Tuple es k pos) (gTp n gs) := by
  refine ⟨(pg_tup hc h.pg hn hst).impR ?_, fun v env S hb => ?_⟩
  · rintro u σ H Q ⟨v, env, S, ρ, st, re, rv, q⟩
    unfold gTp at q
    split at q
    · split at q
      · rename_i hl
        cases rv with
        | tup ha ra => exact ⟨_, _, rfl, ha, by rw [← ra.length]; exact hl, _, env, S, ρ, st, re, ra, q⟩
      · exact q.elim
    · exact q.elim
  · unfold gTp
    split
    · split
      · exact h.tm _ env S hb
      · trivial
    · trivial
/-- o[i] = v, o a list of the store; what is stored holds no place of the store, or o is of this def's own -/
def setL (b : Nat) (o i v : AV) (S : Store) : Option Store := match o, i with
  | .loc n, .int k => match S[n]? with
    | some (.lst xs) => match ixN xs.length k with
      | some j => if b ≤ n ∨ v.cl 0 = true then some (S.set n (.lst (xs.set j v))) else none
      | none => none
    | _ => none
  | _, _ => none
theorem clL_set {c : Nat} {v : AV} (hv : v.cl c = true) : ∀ {xs : List AV} (j : Nat), clL c xs = true → clL c (xs.set j v) = true
  | [], _, _ => rfl
  | x :: xs, 0, h => by
    simp only [clL, Bool.and_eq_true] at h
    simp only [List.set_cons_zero, clL, Bool.and_eq_true]
    exact ⟨hv, h.2⟩
  | x :: xs, j + 1, h => by
    simp only [clL, Bool.and_eq_true] at h
    simp only [List.set_cons_succ, clL, Bool.and_eq_true]
    exact ⟨h.1, clL_set hv j h.2⟩
theorem TR.set {b n : Nat} {S : Store} {o o' : Ob} (h : S[n]? = some o) (hc : n < b → ∀ c, o.cl c = true → o'.cl c = true) : TR b S (S.set n o') := by
  refine ⟨by simp, fun m a a' hb h1 h2 c q => ?_⟩
  by_cases e : n = m
  · subst e
    rw [List.getElem?_set_self (List.getElem?_eq_some_iff.mp h).1] at h2
    rw [h] at h1
    cases h1
    cases h2
    exact hc hb c q
  · rw [List.getElem?_set_ne e, h1] at h2
    cases h2
    exact q
theorem setL_tr {o i v : AV} {S S' : Store} (h : setL b o i v S = some S') : TR b S S' := by
  unfold setL at h
  split at h
  · split at h
    · rename_i n k _ xs hx
      split at h
      · split at h
        · rename_i hc
          cases h
          refine TR.set hx fun hb c q => ?_
          rcases hc with hc | hc
          · omega
          · exact clL_set (AV.cl_mono (Nat.zero_le c) v hc) _ q
        · cases h
      · cases h
    · cases h
  · cases h
theorem setL_rv {o i v : AV} {S S' : Store} {ρ : List Addr} {H : Hp} {x y u : V} {Q : Hp → Prop} (st : RSt T X.K ρ H S) (ro : RV T X.K ρ H o x) (ri : RV T X.K ρ H i y) (rv : RV T X.K ρ H v u) (h : setL b o i v S = some S')
    (hq : ∀ H', Ext ρ H ρ H' → RSt T X.K ρ H' S' → Q H') : rSetL x y u H Q := by
  unfold setL at h
  split at h
  · split at h
    · rename_i n k _ xs hx
      split at h
      · rename_i j hj
        split at h
        · cases h
          cases ro with
          | @loc _ a hn =>
            cases ri
            obtain ⟨a', e, vs, hv, rs⟩ := st.ob _ _ hx
            rw [hn] at e; cases e
            have hE : Ext ρ H ρ (upd H a (.lst (vs.set j u))) := Ext.wr hv True.intro (List.mem_of_getElem? hn)
            exact ⟨a, vs, k, j, rfl, rfl, hv, by rw [← rs.length]; exact hj, hq _ hE (st.wr hn hv True.intro ⟨_, upd_same, RVs.set (rv.mono hE) j (rs.mono hE)⟩)⟩
        · cases h
      · cases h
    · cases h
  · cases h
def gIx (b : Nat) (mo mi : ME) : MG := fun v env S => (mo env S).toS env fun o S1 => (mi env S1).toS env fun i S2 => match setL b o i v S2 with
  | some S3 => .nx env S3
  | none => .bad
theorem vg_ixL {o i : Expr} {mo mi : ME} {pos : Pos} (ho : VE T X W b o mo) (hi : VE T X W b i mi) (ha : ∀ v, assign (.Subscript o i pos) X.env v = (do
      let ov ← holding [v] (eval o X.env)
      let iv ← holding [v, ov] (eval i X.env)
      standAt pos
      holding [v, ov, iv] (setItem ov iv v)
      release [v, ov, iv] []) := by intro _; rfl) : VG T X W b (.Subscript o i pos) (gIx b mo mi) := by
  refine ⟨(pg_sub ho.pe hi.pe set_list ha).impR ?_, fun v env S hb => Tm.toS hb (ho.tm env S hb) fun o' S1 h1 => Tm.toS h1 (hi.tm env S1 h1) fun i' S2 h2 => ?_⟩
  · rintro u σ H Q ⟨v, env, S, ρ, st, re, rv, q⟩
    refine tV_run st re ((RP.toS re q).imp ?_)
    rintro x H1 ⟨o', S1, ρ1, e1, st1, ro, h1⟩
    refine tV_run st1 (re.mono e1) ((RP.toS (re.mono e1) h1).imp ?_)
    rintro y H2 ⟨i', S2, ρ2, e2, st2, ri, h2⟩
    split at h2
    · rename_i S3 hs
      exact setL_rv st2 (ro.mono e2) ri ((rv.mono e1).mono e2) hs fun H' hE hst => h2 _ _ _ hE hst (((re.mono e1).mono e2).mono hE)
    · exact h2.elim
  · split
    · rename_i S3 hs
      exact setL_tr hs
    · trivial

/-! ### statements -/
def mSkip : MS := fun env S => .nx env S
def mSq (s t : MS) : MS := fun env S => (s env S).then t
theorem vss_nil : VSs T X W b [] mSkip := ⟨pss_nil.impR fun D σ H h => by
  obtain ⟨env, S, ρ, st, re, q⟩ := h
  exact q _ _ _ (Ext.refl _ _) st re, fun env S hb => TR.refl b S⟩
theorem tSeq_of {m1 m2 : MS} {D : Ends} {σ : Sl} {H : Hp} (h : tS T X W (mSq m1 m2) D σ H) : tSeq (tS T X W m1) (tS T X W m2) D σ H := by
  obtain ⟨env, S, ρ, st, re, q⟩ := h
  have q2 := RPS.then q
  refine tS_run st re (RPS.imp ?_ ?_ ?_ ?_ q2)
  · rintro σ1 H1 ⟨env1, S1, ρ1, e1, st1, re1, h1⟩
    exact ⟨env1, S1, ρ1, st1, re1, h1⟩
  · exact fun _ _ q => q
  · exact fun _ _ q => q
  · exact fun _ _ q => q
theorem vss_cons {s : Stmt} {r : List Stmt} {m1 m2 : MS} (h1 : VS T X W b s m1) (h2 : VSs T X W b r m2) : VSs T X W b (s :: r) (mSq m1 m2) :=
  ⟨(pss_cons h1.pe h2.pe).impR fun _ _ _ h => tSeq_of h, fun env S hb => TmS.then hb (h1.tm env S hb) fun env1 S1 hb1 => h2.tm env1 S1 hb1⟩
theorem vss_one {s : Stmt} {m : MS} (h : VS T X W b s m) : VSs T X W b [s] m := ⟨pss_one h.pe, h.tm⟩
theorem vs_pass {pos : Pos} : VS T X W b (.Pass pos) mSkip := ⟨ps_pass.impR fun D σ H h => by
  obtain ⟨env, S, ρ, st, re, q⟩ := h
  exact q _ _ _ (Ext.refl _ _) st re, fun env S hb => TR.refl b S⟩
def mBrk : MS := fun env S => .bk env S
def mCnt : MS := fun env S => .ct env S
theorem vs_break {pos : Pos} : VS T X W b (.Break pos) mBrk := ⟨ps_break.impR fun D σ H h => by
  obtain ⟨env, S, ρ, st, re, q⟩ := h
  exact q _ _ _ (Ext.refl _ _) st re, fun env S hb => TR.refl b S⟩
theorem vs_cont {pos : Pos} : VS T X W b (.Continue pos) mCnt := ⟨ps_continue.impR fun D σ H h => by
  obtain ⟨env, S, ρ, st, re, q⟩ := h
  exact q _ _ _ (Ext.refl _ _) st re, fun env S hb => TR.refl b S⟩
theorem vs_doc {x : Str} {j : Nat} {pos pos' : Pos} : VS T X W b (.Expr (.Constant (.str x) j pos) pos') mSkip := ⟨ps_doc.impR fun D σ H h => by
  obtain ⟨env, S, ρ, st, re, q⟩ := h
  exact q _ _ _ (Ext.refl _ _) st re, fun env S hb => TR.refl b S⟩
def mEx (m : ME) : MS := fun env S => (m env S).toS env fun _ S1 => .nx env S1
theorem vs_expr {e : Expr} {m : ME} {pos : Pos} (h : VE T X W b e m) (hs : swapsWith e none pos.line X.env = pure false := by rfl) : VS T X W b (.Expr e pos) (mEx m) := by
  refine ⟨(ps_expr h.pe hs).impR ?_, fun env S hb => Tm.toS hb (h.tm env S hb) fun v S1 _ => TR.refl b S1⟩
  rintro D σ H ⟨env, S, ρ, st, re, q⟩
  refine tV_run st re ((RP.toS re q).imp ?_)
  rintro x H1 ⟨v, S1, ρ1, e1, st1, rv, h1⟩
  exact h1 _ _ _ (Ext.refl _ _) st1 (re.mono e1)
def mRet (m : ME) : MS := fun env S => (m env S).toS env fun v S1 => .rt v S1
theorem vs_ret {e : Expr} {m : ME} {pos : Pos} (h : VE T X W b e m) : VS T X W b (.Return (some e) pos) (mRet m) := by
  refine ⟨(ps_ret h.pe).impR ?_, fun env S hb => Tm.toS hb (h.tm env S hb) fun v S1 _ => TR.refl b S1⟩
  rintro D σ H ⟨env, S, ρ, st, re, q⟩
  refine tV_run st re ((RP.toS re q).imp ?_)
  rintro x H1 ⟨v, S1, ρ1, e1, st1, rv, h1⟩
  exact h1 _ _ _ (Ext.refl _ _) st1 rv
def mRetN : MS := fun _ S => .rt .non S
theorem vs_retN {pos : Pos} : VS T X W b (.Return none pos) mRetN := by
  refine ⟨ps_retN.impR ?_, fun env S hb => TR.refl b S⟩
  rintro D σ H ⟨env, S, ρ, st, re, q⟩
  exact q _ _ _ (Ext.refl _ _) st .non
def mIf (t : MT) (m1 m2 : MS) : MS := fun env S => (t env S).toS env fun k S1 => if k = true then m1 env S1 else m2 env S1
theorem vs_if {t : Expr} {a c : List Stmt} {mt : MT} {m1 m2 : MS} {pos : Pos} (ht : VT T X W b t mt) (ha : VSs T X W b a m1) (hc : VSs T X W b c m2) : VS T X W b (.If t a c pos) (mIf mt m1 m2) := by
  refine ⟨(ps_if ht.pe ha.pe hc.pe).impR ?_, fun env S hb => Tm.toS hb (ht.tm env S hb) fun k S1 h1 => ?_⟩
  · rintro D σ H ⟨env, S, ρ, st, re, q⟩
    refine tT_run st re ((RP.toS re q).imp ?_)
    rintro k H1 ⟨k', S1, ρ1, e1, st1, rk, h1⟩
    have rk : k' = k := rk
    subst rk
    cases k' with
    | true => exact ⟨env, S1, ρ1, st1, re.mono e1, h1⟩
    | false => exact ⟨env, S1, ρ1, st1, re.mono e1, h1⟩
  · split
    · exact ha.tm env S1 h1
    · exact hc.tm env S1 h1
def mAs (m : ME) (g : MG) : MS := fun env S => (m env S).toS env fun v S1 => g v env S1
theorem tAsg_of {m : ME} {g : MG} {D : Ends} {σ : Sl} {H : Hp} (hng : ∀ v env S, ∃ env' S', g v env S = .nx env' S' ∨ g v env S = .bad ∨ (∃ C ns fs, g v env S = .rse C ns fs env' S')) (h : tS T X W (mAs m g) D σ H) : tAsg (tV T X W m) (tG T X W g) D σ H := by
  obtain ⟨env, S, ρ, st, re, q⟩ := h
  refine tV_run st re ((RP.toS re q).imp ?_)
  rintro x H1 ⟨v, S1, ρ1, e1, st1, rv, h1⟩
  refine ⟨v, env, S1, ρ1, st1, re.mono e1, rv, ?_⟩
  obtain ⟨env', S', e | e | ⟨C, ns, fs, e⟩⟩ := hng v env S1
  · rw [e] at h1 ⊢
    exact h1
  · rw [e] at h1 ⊢
    exact h1
  · rw [e] at h1 ⊢
    exact h1
/-- a target's mirror goes on, or it stops -/
def Goes (g : MG) : Prop := ∀ v env S, ∃ env' S', g v env S = .nx env' S' ∨ g v env S = .bad ∨ (∃ C ns fs, g v env S = .rse C ns fs env' S')
theorem goes_nm {i : Nat} : Goes (gNm i) := fun v env S => ⟨_, _, .inl rfl⟩
theorem goes_ix {mo mi : ME} : Goes (gIx b mo mi) := fun v env S => by
  unfold gIx
  cases mo env S with
  | ok o S1 =>
    simp only [Res.toS]
    cases mi env S1 with
    | ok i S2 =>
      simp only
      split
      · exact ⟨_, _, .inl rfl⟩
      · exact ⟨env, S, .inr (.inl rfl)⟩
    | rse C ns fs S2 => exact ⟨env, S2, .inr (.inr ⟨C, ns, fs, rfl⟩)⟩
    | bad => exact ⟨env, S, .inr (.inl rfl)⟩
  | rse C ns fs S2 => exact ⟨env, S2, .inr (.inr ⟨C, ns, fs, rfl⟩)⟩
  | bad => exact ⟨env, S, .inr (.inl rfl)⟩
def GoesS (g : MGs) : Prop := ∀ v env S, ∃ env' S', g v env S = .nx env' S' ∨ g v env S = .bad ∨ (∃ C ns fs, g v env S = .rse C ns fs env' S')
theorem goes_nil : GoesS gsNil := fun v env S => by
  unfold gsNil
  split
  · exact ⟨_, _, .inl rfl⟩
  · exact ⟨env, S, .inr (.inl rfl)⟩
theorem goes_cons {g : MG} {gs : MGs} (h : Goes g) (hs : GoesS gs) : GoesS (gsCons g gs) := fun v env S => by
  unfold gsCons
  split
  · rename_i x r
    obtain ⟨env', S', e | e | ⟨C, ns, fs, e⟩⟩ := h x env S
    · rw [e]
      exact hs r env' S'
    · rw [e]
      exact ⟨env, S, .inr (.inl rfl)⟩
    · rw [e]
      exact ⟨env', S', .inr (.inr ⟨C, ns, fs, rfl⟩)⟩
  · exact ⟨env, S, .inr (.inl rfl)⟩
theorem goes_tp {n : Nat} {gs : MGs} (h : GoesS gs) : Goes (gTp n gs) := fun v env S => by
  unfold gTp
  split
  · split
    · exact h _ _ _
    · exact ⟨env, S, .inr (.inl rfl)⟩
  · exact ⟨env, S, .inr (.inl rfl)⟩
theorem vs_asg {tg e : Expr} {m : ME} {g : MG} {pos : Pos} (he : VE T X W b e m) (hg : VG T X W b tg g) (hng : Goes g) (hs : swapsWithSole [tg] e pos.line X.env = pure false := by rfl) (hw : swappedStores [tg] e X.env = pure none := by rfl)
    (h1 : (assignEach [tg] X.env).map (·.2) = [assign tg X.env] := by rfl) : VS T X W b (.Assign [tg] e pos) (mAs m g) :=
  ⟨(ps_asg he.pe hg.pg hs hw h1).impR fun _ _ _ h => tAsg_of hng h, fun env S hb => Tm.toS hb (he.tm env S hb) fun v S1 hb1 => hg.tm v env S1 hb1⟩
theorem vs_set {i : Nat} {x : Str} {e : Expr} {m : ME} {pos pos' : Pos} (hN : X.N.Nodup) (he : VE T X W b e m) (hi : X.N[i]? = some x := by rfl) (hx : Loc X.env.scope x := by first | exact Or.inl rfl | exact Or.inr rfl)
    (hs : swapsWith e (some (.Name x pos')) pos.line X.env = pure false := by rfl) (hf : X.fn x = true ∨ X.env.scope.names.lookup x = some .local := by first | exact .inl rfl | exact .inr rfl | assumption) :
    VS T X W b (.Assign [.Name x pos'] e pos) (mAs m (gNm i)) := by
  refine ⟨(ps_set hN hi hx he.pe hs hf).impR ?_, fun env S hb => Tm.toS hb (he.tm env S hb) fun v S1 _ => TR.refl b S1⟩
  rintro D σ H ⟨env, S, ρ, st, re, q⟩
  refine tV_run st re ((RP.toS re q).imp ?_)
  rintro y H1 ⟨v, S1, ρ1, e1, st1, rv, h1⟩
  exact h1 _ _ _ (Ext.refl _ _) st1 ((re.mono e1).set rv)
/-- x, y = a, b -/
def mPar (i j : Nat) (ms : MA) : MS := fun env S => (ms env S).toS env fun vs S1 => match vs with
  | [v, w] => .nx ((env.set i (some v)).set j (some w)) S1
  | _ => .bad
def mPar3 (i j k : Nat) (ms : MA) : MS := fun env S => (ms env S).toS env fun vs S1 => match vs with
  | [v, w, z] => .nx (((env.set i (some v)).set j (some w)).set k (some z)) S1
  | _ => .bad
theorem vs_par {i j : Nat} {x y : Str} {a c : Expr} {ms : MA} {px py pt pos : Pos} {kt k2 pt2} (hN : X.N.Nodup) (ha : VA T X W b [a, c] ms) (hi : X.N[i]? = some x := by rfl) (hj : X.N[j]? = some y := by rfl) (hij : i ≠ j := by decide)
    (hx : X.env.scope.names.lookup x = some .local := by rfl) (hy : X.env.scope.names.lookup y = some .local := by rfl)
    (hw : swappedStores [.Tuple [.Name x px, .Name y py] kt pt] (.Tuple [a, c] k2 pt2) X.env = pure (some [x, y]) := by rfl)
    (hs : swapsWithSole [.Tuple [.Name x px, .Name y py] kt pt] (.Tuple [a, c] k2 pt2) pos.line X.env = pure false := by rfl) (hc : X.calm = true := by rfl) :
    VS T X W b (.Assign [.Tuple [.Name x px, .Name y py] kt pt] (.Tuple [a, c] k2 pt2) pos) (mPar i j ms) := by
  refine ⟨(ps_par hc hN hi hj hij hx hy ha.pe hw hs).impR ?_, fun env S hb => Tm.toS hb (ha.tm env S hb) fun v S1 _ => by split <;> first | exact TR.refl b S1 | trivial⟩
  rintro D σ H ⟨env, S, ρ, st, re, q⟩
  refine tA_run st re ((RP.toS re q).imp ?_)
  rintro us H1 ⟨vs, S1, ρ1, e1, st1, rvs, h1⟩
  split at h1
  · cases rvs with
    | cons r1 r =>
      cases r with
      | cons r2 r =>
        cases r
        exact ⟨_, _, rfl, h1 _ _ _ (Ext.refl _ _) st1 (((re.mono e1).set r1).set r2)⟩
  · exact h1.elim
end
end Ve

set_option Elab.async false
set_option linter.all false
set_option maxRecDepth 100000
set_option maxHeartbeats 2000000
/-! Ve, fifth part: loops, defs, calls of defs. -/
namespace Ve
open PySem PySem.Spec PyProof.Rows L2

/-! ### what a loop walks -/
/-- the items, fixed ahead; a list of the store that must stand as it is while it is walked -/
structure Itm where
  xs : List AV
  ck : Option (Nat × List AV)
def Itm.ok (t : Itm) (S : Store) : Prop := ∀ n ys, t.ck = some (n, ys) → S[n]? = some (.lst ys)
theorem Itm.ok_none {xs : List AV} {S : Store} : (⟨xs, none⟩ : Itm).ok S ↔ True := ⟨fun _ => trivial, fun _ _ _ h => nomatch h⟩
theorem Itm.ok_some {xs ys : List AV} {n : Nat} {S : Store} : (⟨xs, some (n, ys)⟩ : Itm).ok S ↔ S[n]? = some (.lst ys) := ⟨fun h => h n ys rfl, fun h m zs e => by cases e; exact h⟩
abbrev MI := Ev → Store → Res Itm
def Serve : Rel Itm It := fun T K ρ H t J => ∀ ρ' H' S', Ext ρ H ρ' H' → RSt T K ρ' H' S' → t.ok S' → ∀ i : Nat,
  (∀ x, t.xs[i]? = some x → J.go i H' ∧ ∀ u H'', J.yld i H' u H'' → Ext ρ' H' ρ' H'' ∧ RSt T K ρ' H'' S' ∧ RV T K ρ' H'' x u) ∧ (t.xs.length ≤ i → J.stop i H')
def tI (T : Tb) (X : Cx) (W : WX) (m : MI) : TI := fun σ H R => ∃ env S ρ, RSt T X.K ρ H S ∧ REnv T X.K ρ H env σ ∧ RP Serve T X.K W σ ρ H R (m env S)
structure VI (T : Tb) (X : Cx) (W : WX) (b : Nat) (tg iter : Expr) (m : MI) : Prop where
  pi : PI X tg iter (tI T X W m)
  tm : TmE b m
theorem _root_.L2.PI.impR {X : Cx} {tg e : Expr} {t t' : TI} (p : PI X tg e t) (h : ∀ σ H R, t' σ H R → t σ H R) : PI X tg e t' := ⟨fun pins s σ H R I q => p.run pins s σ H R I (h _ _ _ q)⟩
section
variable {T : Tb} {X : Cx} {W : WX} {b : Nat}
theorem Serve.mono {K : PySem.W.Frag} {ρ ρ1 : List Addr} {H H1 : Hp} {t : Itm} {J : It} (e : Ext ρ H ρ1 H1) (h : Serve T K ρ H t J) : Serve T K ρ1 H1 t J := fun ρ' H' S' e' st ok i => h ρ' H' S' (e.trans e') st ok i
/-- a list, a tuple, as items -/
def itL (v : AV) (S : Store) : Res Itm := match v with
  | .loc n => match S[n]? with
    | some (.lst xs) => .ok ⟨xs, some (n, xs)⟩ S
    | _ => .bad
  | .lst xs => .ok ⟨xs, none⟩ S
  | .scr ns => .ok ⟨ns.map AV.int, none⟩ S
  | _ => .bad
def itT (v : AV) (S : Store) : Res Itm := match v with
  | .tup xs => .ok ⟨xs, none⟩ S
  | _ => .bad
def mItL (m : ME) : MI := bindM m fun v _ S => itL v S
def mItT (m : ME) : MI := bindM m fun v _ S => itT v S
theorem tm_itL {v : AV} {S : Store} : Tm b S (itL v S) := by
  unfold itL
  split
  · split
    · exact TR.refl b S
    · trivial
  · exact TR.refl b S
  · exact TR.refl b S
  · trivial
theorem tm_itT {v : AV} {S : Store} : Tm b S (itT v S) := by unfold itT; split <;> first | exact TR.refl b S | trivial
/-- what is read as a list at a, as long as t.ok says so, is served by the list's iterator -/
theorem serve_list {K : PySem.W.Frag} {ρ : List Addr} {H : Hp} {t : Itm} {a : Addr}
    (h : ∀ ρ' H' S', Ext ρ H ρ' H' → RSt T K ρ' H' S' → t.ok S' → ∃ vs, SqL K H' a vs ∧ RVs T K ρ' H' t.xs vs) : Serve T K ρ H t (Itl K a) := by
  intro ρ' H' S' e st ok i
  obtain ⟨vs, hs, rs⟩ := h ρ' H' S' e st ok
  refine ⟨fun x hx => ?_, fun hl => ⟨vs, hs, by rw [← rs.length]; exact hl⟩⟩
  obtain ⟨u, hu, ru⟩ := rs.get hx
  refine ⟨⟨vs, u, hs, hu⟩, fun u' H'' y => ?_⟩
  obtain ⟨rfl, y⟩ := y
  have := y vs hs
  rw [hu] at this
  cases this
  exact ⟨Ext.refl _ _, st, ru⟩
theorem serve_tup {K : PySem.W.Frag} {ρ : List Addr} {H : Hp} {xs : List AV} {vs : List V} {a : Addr} (h : SqT K H a vs) (r : RVs T K ρ H xs vs) : Serve T K ρ H ⟨xs, none⟩ (Itt K a) := by
  intro ρ' H' S' e st ok i
  have hs := e.sqT h
  have rs := r.mono e
  refine ⟨fun x hx => ?_, fun hl => ⟨vs, hs, by rw [← rs.length]; exact hl⟩⟩
  obtain ⟨u, hu, ru⟩ := rs.get hx
  refine ⟨⟨vs, u, hs, hu⟩, fun u' H'' y => ?_⟩
  obtain ⟨rfl, y⟩ := y
  have := y vs hs
  rw [hu] at this
  cases this
  exact ⟨Ext.refl _ _, st, ru⟩
theorem itL_rp {K : PySem.W.Frag} {σ : Sl} {ρ : List Addr} {H : Hp} {S : Store} {v : AV} {x : V} {R : It → Hp → Prop} (st : RSt T K ρ H S) (rv : RV T K ρ H v x) (h : RP Serve T K W σ ρ H R (itL v S)) :
    ∃ a, x = .ref a ∧ (∃ vs, SqL K H a vs) ∧ R (Itl K a) H := by
  unfold itL at h
  split at h
  · split at h
    · rename_i n _ xs hx
      cases rv with
      | @loc _ a hn =>
        obtain ⟨a', e, vs, hv, rs⟩ := st.ob _ _ hx
        rw [hn] at e; cases e
        refine ⟨a, rfl, ⟨vs, .inl (.inl hv)⟩, RP.okN (R := Serve) h st (serve_list fun ρ' H' S' e st' ok => ?_)⟩
        obtain ⟨a2, e2, ws, hw, rs2⟩ := st'.ob n _ (ok n xs rfl)
        rw [e.get hn] at e2; cases e2
        exact ⟨ws, .inl (.inl hw), rs2⟩
    · exact h.elim
  · cases rv with
    | @lst _ a vs hn hv rs => exact ⟨a, rfl, ⟨vs, .inl (.inl hv)⟩, RP.okN (R := Serve) h st (serve_list fun ρ' H' S' e st' ok => ⟨vs, .inl (.inl (e.keepL hn hv)), rs.mono e⟩)⟩
  · cases rv with
    | @scr ns a hs => exact ⟨a, rfl, ⟨_, hs.rd.sq⟩, RP.okN (R := Serve) h st (serve_list fun ρ' H' S' e st' ok => ⟨_, (e.scr hs).rd.sq, RVs.ints _⟩)⟩
  · exact h.elim
theorem vi_lst {tg e : Expr} {m : ME} (h : VE T X W b e m) : VI T X W b tg e (mItL m) := by
  refine ⟨(pi_list h.pe).impR fun σ H R q => ?_, h.tm.bind fun v env S hb => tm_itL⟩
  obtain ⟨env, S, ρ, st, re, q⟩ := q
  refine tV_run st re ((RP.bind q).imp ?_)
  rintro x H1 ⟨v, S1, ρ1, e1, st1, rv, h1⟩
  exact itL_rp st1 rv h1
theorem vi_tup {tg e : Expr} {m : ME} (h : VE T X W b e m) : VI T X W b tg e (mItT m) := by
  refine ⟨(pi_tup h.pe).impR fun σ H R q => ?_, h.tm.bind fun v env S hb => tm_itT⟩
  obtain ⟨env, S, ρ, st, re, q⟩ := q
  refine tV_run st re ((RP.bind q).imp ?_)
  rintro x H1 ⟨v, S1, ρ1, e1, st1, rv, h1⟩
  unfold itT at h1
  dsimp only at h1
  split at h1
  · cases rv with
    | @tup _ a vs ha ra => exact ⟨a, rfl, ⟨vs, ha⟩, RP.okN (R := Serve) h1 st1 (serve_tup ha ra)⟩
  · exact h1.elim
/-- range(n), range(a, b) -/
def rngL (lo : Int) (n : Nat) : List AV := (List.range n).map fun i : Nat => AV.int (lo + i)
theorem serve_rng {K : PySem.W.Frag} {ρ : List Addr} {H : Hp} {lo : Int} {n : Nat} : Serve T K ρ H ⟨rngL lo n, none⟩ (Itr lo n) := by
  intro ρ' H' S' e st ok i
  refine ⟨fun x hx => ?_, fun hl => show n ≤ i from by simpa [rngL] using hl⟩
  have hi : i < n := by
    have := (List.getElem?_eq_some_iff.mp hx).1
    simpa [rngL] using this
  refine ⟨hi, fun u H'' y => ?_⟩
  obtain ⟨rfl, rfl⟩ := y
  have : x = AV.int (lo + i) := by
    simp [rngL, hi] at hx
    exact hx.symm
  subst this
  exact ⟨Ext.refl _ _, st, .int _⟩
def itR1 (vs : List AV) (S : Store) : Res Itm := match vs with
  | [.int j] => if -(2 ^ 62) ≤ j ∧ j < 2 ^ 62 then .ok ⟨rngL 0 j.toNat, none⟩ S else .bad
  | _ => .bad
def itR2 (vs : List AV) (S : Store) : Res Itm := match vs with
  | [.int i, .int j] => if -(2 ^ 62) ≤ i ∧ i < 2 ^ 62 ∧ -(2 ^ 62) ≤ j ∧ j < 2 ^ 62 then .ok ⟨rngL i (j - i).toNat, none⟩ S else .bad
  | _ => .bad
def mItR1 (ms : MA) : MI := bindM ms fun vs _ S => itR1 vs S
def mItR2 (ms : MA) : MI := bindM ms fun vs _ S => itR2 vs S
theorem vi_rng1 {tg e : Expr} {ms : MA} {p pos : Pos} (hm : X.mg "range" = none) (h : VA T X W b [e] ms) (hg : Gl X "range" := by rfl) (hs : starEach [e] X.env = [(false, eval e X.env)] := by rfl) : VI T X W b tg (.Call (.Name "range" p) [e] [] pos) (mItR1 ms) := by
  refine ⟨(pi_range1 hg hm h.pe hs).impR fun σ H R q => ?_, h.tm.bind fun v env S hb => ?_⟩
  · obtain ⟨env, S, ρ, st, re, q⟩ := q
    refine tA_run st re ((RP.bind q).imp ?_)
    rintro us H1 ⟨vs, S1, ρ1, e1, st1, rvs, h1⟩
    unfold itR1 at h1
    dsimp only at h1
    split at h1
    · split at h1
      · rename_i hc
        cases rvs with
        | cons r1 r =>
          cases r
          cases r1
          exact ⟨_, rfl, hc.1, hc.2, RP.okN (R := Serve) h1 st1 serve_rng⟩
      · exact h1.elim
    · exact h1.elim
  · unfold itR1
    split
    · exact lenTm (TR.refl b S)
    · trivial
theorem vi_rng2 {tg e e2 : Expr} {ms : MA} {p pos : Pos} (hm : X.mg "range" = none) (h : VA T X W b [e, e2] ms) (hg : Gl X "range" := by rfl) (hs : starEach [e, e2] X.env = [(false, eval e X.env), (false, eval e2 X.env)] := by rfl)
    (hs2 : starEach [e2] X.env = [(false, eval e2 X.env)] := by rfl) : VI T X W b tg (.Call (.Name "range" p) [e, e2] [] pos) (mItR2 ms) := by
  refine ⟨(pi_range2 hg hm h.pe hs hs2).impR fun σ H R q => ?_, h.tm.bind fun v env S hb => ?_⟩
  · obtain ⟨env, S, ρ, st, re, q⟩ := q
    refine tA_run st re ((RP.bind q).imp ?_)
    rintro us H1 ⟨vs, S1, ρ1, e1, st1, rvs, h1⟩
    unfold itR2 at h1
    dsimp only at h1
    split at h1
    · split at h1
      · rename_i hc
        cases rvs with
        | cons r1 r =>
          cases r with
          | cons r2 r =>
            cases r
            cases r1
            cases r2
            exact ⟨_, _, rfl, hc, RP.okN (R := Serve) h1 st1 serve_rng⟩
      · exact h1.elim
    · exact h1.elim
  · unfold itR2
    split
    · exact lenTm (TR.refl b S)
    · trivial

/-! ### for, while -/
open Classical in
noncomputable def forL (t : Itm) (g : MG) (body : MS) : List AV → MS
  | [], env, S => if t.ok S then .nx env S else .bad
  | x :: xs, env, S => if t.ok S then match (g x env S).then body with
    | .nx env1 S1 => forL t g body xs env1 S1
    | .ct env1 S1 => forL t g body xs env1 S1
    | .bk env1 S1 => .nx env1 S1
    | r => r else .bad
noncomputable def mFor (mi : MI) (g : MG) (body : MS) : MS := fun env S => (mi env S).toS env fun t S1 => forL t g body t.xs env S1
theorem forL_tm {t : Itm} {g : MG} {body : MS} (hg : ∀ v, TmX b (g v)) (hb : TmX b body) : ∀ xs, TmX b (forL t g body xs)
  | [], env, S, h => by
    unfold forL
    split
    · exact TR.refl b S
    · trivial
  | x :: xs, env, S, h => by
    unfold forL
    split
    · have h1 : TmS b S ((g x env S).then body) := TmS.then h (hg x env S h) fun env1 S1 h1 => hb env1 S1 h1
      cases e : (g x env S).then body with
      | nx env1 S1 => rw [e] at h1; exact TmS.after h1 (forL_tm hg hb xs env1 S1 (Nat.le_trans h h1.1))
      | ct env1 S1 => rw [e] at h1; exact TmS.after h1 (forL_tm hg hb xs env1 S1 (Nat.le_trans h h1.1))
      | bk env1 S1 => rw [e] at h1; exact h1
      | rt v S1 => rw [e] at h1; exact h1
      | rse C ns fs env1 S1 => rw [e] at h1; exact h1
      | bad => trivial
    · trivial
/-- the loop's wish, carried by what is left of it -/
theorem tFor_of {mi : MI} {g : MG} {body : MS} (hgg : Goes g) {D : Ends} {σ : Sl} {H : Hp} (h : tS T X W (mFor mi g body) D σ H) : tFor (tI T X W mi) (tG T X W g) (tS T X W body) D σ H := by
  obtain ⟨env, S, ρ, st, re, q⟩ := h
  refine ⟨env, S, ρ, st, re, (RP.toS (R := Serve) re q).imp ?_⟩
  rintro J H1 ⟨t, S1, ρ1, e1, st1, sv, h1⟩
  refine ⟨fun i m σ2 H2 => m = t.xs.length - i ∧ i ≤ t.xs.length ∧ ∃ env2 S2 ρ2, Ext ρ1 H1 ρ2 H2 ∧ RSt T X.K ρ2 H2 S2 ∧ REnv T X.K ρ2 H2 env2 σ2 ∧ RPS T X.K W ρ2 H2 D (forL t g body (t.xs.drop i) env2 S2),
    ⟨_, rfl, Nat.zero_le _, env, S1, ρ1, Ext.refl _ _, st1, re.mono e1, h1⟩, ?_⟩
  rintro i m σ2 H2 ⟨rfl, hi, env2, S2, ρ2, e2, st2, re2, h2⟩
  by_cases hlt : i < t.xs.length
  · refine .inr ?_
    have hx : t.xs.drop i = t.xs[i] :: t.xs.drop (i + 1) := List.drop_eq_getElem_cons hlt
    rw [hx] at h2
    unfold forL at h2
    split at h2
    · rename_i ok
      obtain ⟨go, yl⟩ := (sv ρ2 H2 S2 e2 st2 ok i).1 t.xs[i] (List.getElem?_eq_getElem hlt)
      refine ⟨go, fun σ' H' => ∃ env' S' ρ', Ext ρ1 H1 ρ' H' ∧ RSt T X.K ρ' H' S' ∧ REnv T X.K ρ' H' env' σ' ∧ RPS T X.K W ρ' H' D (forL t g body (t.xs.drop (i + 1)) env' S'), fun σ' H' h' => ⟨t.xs.length - (i + 1), by omega, rfl, hlt, h'⟩, fun u H' y => ?_⟩
      obtain ⟨e3, st3, rv⟩ := yl u H' y
      have re3 := re2.mono e3
      have e13 := e2.trans e3
      refine ⟨t.xs[i], env2, S2, ρ2, st3, re3, rv, ?_⟩
      obtain ⟨env4, S4, e | e | ⟨C, ns, fs, e⟩⟩ := hgg t.xs[i] env2 S2
      · rw [e] at h2 ⊢
        intro ρ4 H4 σ4 e4 st4 re4
        refine ⟨env4, S4, ρ4, st4, re4, ?_⟩
        have h3 : RPS T X.K W ρ4 H4 D (match body env4 S4 with
          | .nx env1 S1 => forL t g body (t.xs.drop (i + 1)) env1 S1
          | .ct env1 S1 => forL t g body (t.xs.drop (i + 1)) env1 S1
          | .bk env1 S1 => .nx env1 S1
          | r => r) := RPS.mono (e3.trans e4) h2
        cases eb : body env4 S4 with
        | nx env1 S1 =>
          rw [eb] at h3
          exact fun ρ5 H5 σ5 e5 st5 re5 => ⟨env1, S1, ρ5, (e13.trans e4).trans e5, st5, re5, RPS.mono e5 h3⟩
        | ct env1 S1 =>
          rw [eb] at h3
          exact fun ρ5 H5 σ5 e5 st5 re5 => ⟨env1, S1, ρ5, (e13.trans e4).trans e5, st5, re5, RPS.mono e5 h3⟩
        | bk env1 S1 => rw [eb] at h3; exact h3
        | rt v S1 => rw [eb] at h3; exact h3
        | rse C ns fs env1 S1 => rw [eb] at h3; exact h3
        | bad => rw [eb] at h3; exact h3
      · rw [e] at h2
        exact h2.elim
      · rw [e] at h2 ⊢
        exact RPS.mono e3 h2
    · exact h2.elim
  · refine .inl ?_
    have hd : t.xs.drop i = [] := List.drop_eq_nil_of_le (by omega)
    rw [hd] at h2
    unfold forL at h2
    split at h2
    · rename_i ok
      exact ⟨(sv ρ2 H2 S2 e2 st2 ok i).2 (by omega), h2 _ _ _ (Ext.refl _ _) st2 re2⟩
    · exact h2.elim
theorem vs_for {tg iter : Expr} {body : List Stmt} {mi : MI} {g : MG} {mb : MS} {pos : Pos} (hp : PassesOwn (model X.prog X.w) X.A X.env X.xe) (hi : VI T X W b tg iter mi) (hg : VG T X W b tg g) (hgg : Goes g) (hb : VSs T X W b body mb)
    (hc : X.calm = true := by rfl) (hs : ∀ x, foldedSetIterable iter X.env x = pure x := by intro _; rfl) : VS T X W b (.For tg iter body [] pos) (mFor mi g mb) :=
  ⟨(ps_for hp hc hi.pi hg.pg hb.pe hs).impR fun _ _ _ h => tFor_of hgg h, fun env S h => Tm.toS h (hi.tm env S h) fun t S1 h1 => forL_tm hg.tm hb.tm _ env S1 h1⟩
/-- a while's turns, at most n -/
def whileN (t : MT) (body : MS) : Nat → MS
  | 0, _, _ => .bad
  | n + 1, env, S => (t env S).toS env fun k S1 => if k = true then match body env S1 with
    | .nx env2 S2 => whileN t body n env2 S2
    | .ct env2 S2 => whileN t body n env2 S2
    | .bk env2 S2 => .nx env2 S2
    | r => r else .nx env S1
/-- more turns than any loop here takes -/
def fuel : Nat := 10 ^ 30
def mWhile (t : MT) (body : MS) : MS := fun env S => whileN t body fuel env S
theorem whileN_tm {t : MT} {body : MS} (ht : TmE b t) (hb : TmX b body) : ∀ n, TmX b (whileN t body n)
  | 0, env, S, h => by unfold whileN; trivial
  | n + 1, env, S, h => by
    unfold whileN
    refine Tm.toS h (ht env S h) fun k S1 h1 => ?_
    split
    · have h2 := hb env S1 h1
      cases e : body env S1 with
      | nx env1 S2 => rw [e] at h2; exact TmS.after h2 (whileN_tm ht hb n env1 S2 (Nat.le_trans h1 h2.1))
      | ct env1 S2 => rw [e] at h2; exact TmS.after h2 (whileN_tm ht hb n env1 S2 (Nat.le_trans h1 h2.1))
      | bk env1 S2 => rw [e] at h2; exact h2
      | rt v S2 => rw [e] at h2; exact h2
      | rse C ns fs env1 S2 => rw [e] at h2; exact h2
      | bad => trivial
    · exact TR.refl b S1
theorem tWhile_of {t : MT} {body : MS} {D : Ends} {σ : Sl} {H : Hp} (h : tS T X W (mWhile t body) D σ H) : tWhile (tT T X W t) (tS T X W body) D σ H := by
  obtain ⟨env, S, ρ, st, re, q⟩ := h
  refine ⟨fun n σ2 H2 => ∃ env2 S2 ρ2, RSt T X.K ρ2 H2 S2 ∧ REnv T X.K ρ2 H2 env2 σ2 ∧ RPS T X.K W ρ2 H2 D (whileN t body n env2 S2), ⟨fuel, env, S, ρ, st, re, q⟩, ?_⟩
  rintro n σ2 H2 ⟨env2, S2, ρ2, st2, re2, h2⟩
  cases n with
  | zero => exact h2.elim
  | succ n =>
    unfold whileN at h2
    refine tT_run st2 re2 ((RP.toS re2 h2).imp ?_)
    rintro k H3 ⟨k', S3, ρ3, e3, st3, rk, h3⟩
    have rk : k' = k := rk
    subst rk
    cases k' with
    | true =>
      refine ⟨fun σ' H' => ∃ env' S' ρ', RSt T X.K ρ' H' S' ∧ REnv T X.K ρ' H' env' σ' ∧ RPS T X.K W ρ' H' D (whileN t body n env' S'), fun σ' H' h' => ⟨n, Nat.lt_succ_self n, h'⟩, env2, S3, ρ3, st3, re2.mono e3, ?_⟩
      rw [if_pos rfl] at h3
      cases eb : body env2 S3 with
      | nx env1 S1 =>
        rw [eb] at h3
        exact fun ρ5 H5 σ5 e5 st5 re5 => ⟨env1, S1, ρ5, st5, re5, RPS.mono e5 h3⟩
      | ct env1 S1 =>
        rw [eb] at h3
        exact fun ρ5 H5 σ5 e5 st5 re5 => ⟨env1, S1, ρ5, st5, re5, RPS.mono e5 h3⟩
      | bk env1 S1 => rw [eb] at h3; exact h3
      | rt v S1 => rw [eb] at h3; exact h3
      | rse C ns fs env1 S1 => rw [eb] at h3; exact h3
      | bad => rw [eb] at h3; exact h3
    | false =>
      rw [if_neg Bool.false_ne_true] at h3
      exact h3 _ _ _ (Ext.refl _ _) st3 (re2.mono e3)
theorem vs_while {c : Expr} {body : List Stmt} {t : MT} {mb : MS} {pos : Pos} (hp : PassesOwn (model X.prog X.w) X.A X.env X.xe) (ht : VT T X W b c t) (hb : VSs T X W b body mb) : VS T X W b (.While c body [] pos) (mWhile t mb) :=
  ⟨(ps_while hp ht.pe hb.pe).impR fun _ _ _ h => tWhile_of h, fun env S h => whileN_tm ht.tm hb.tm _ env S h⟩
end
end Ve

set_option Elab.async false
set_option linter.all false
set_option maxRecDepth 100000
set_option maxHeartbeats 2000000
/-! Ve, sixth part: defs and their calls, the law's own call. -/
namespace Ve
open PySem PySem.Spec PyProof.Rows L2

/-! ### what a def leaves behind -/
/-- lists of the store from b on become trees -/
def fz : Nat → Store → Nat → AV → AV
  | 0, _, _, v => v
  | k + 1, S, b, .tup xs => .tup (xs.map (fz k S b))
  | k + 1, S, b, .lst xs => .lst (xs.map (fz k S b))
  | k + 1, S, b, .exc C ns xs => .exc C ns (xs.map (fz k S b))
  | k + 1, S, b, .loc n => if n < b then .loc n else match S[n]? with
    | some (.lst xs) => .lst (xs.map (fz k S b))
    | some (.dK []) => .dc0
    | _ => .loc n
  | _, _, _, v => v
theorem map_id_of {f : AV → AV} : ∀ {xs : List AV}, (∀ x ∈ xs, f x = x) → xs.map f = xs
  | [], _ => rfl
  | x :: xs, h => by rw [List.map_cons, h x List.mem_cons_self, map_id_of fun y hy => h y (List.mem_cons_of_mem _ hy)]
theorem fz_cl {S : Store} {b : Nat} : ∀ (k : Nat) (v : AV), v.cl b = true → fz k S b v = v
  | 0, _, _ => by unfold fz; rfl
  | k + 1, .tup xs, h => by
    simp only [AV.cl] at h
    simp only [fz]
    rw [map_id_of fun x hx => fz_cl k x ((clL_iff b xs).mp h x hx)]
  | k + 1, .lst xs, h => by
    simp only [AV.cl] at h
    simp only [fz]
    rw [map_id_of fun x hx => fz_cl k x ((clL_iff b xs).mp h x hx)]
  | k + 1, .exc C ns xs, h => by
    simp only [AV.cl] at h
    simp only [fz]
    rw [map_id_of fun x hx => fz_cl k x ((clL_iff b xs).mp h x hx)]
  | k + 1, .loc n, h => by
    simp only [AV.cl, decide_eq_true_eq] at h
    simp only [fz]
    rw [if_pos h]
  | k + 1, .non, _ => by simp only [fz]
  | k + 1, .bl _, _ => by simp only [fz]
  | k + 1, .int _, _ => by simp only [fz]
  | k + 1, .str _, _ => by simp only [fz]
  | k + 1, .scr _, _ => by simp only [fz]
  | k + 1, .dc0, _ => by simp only [fz]
  | k + 1, .at _, _ => by simp only [fz]
  | k + 1, .ty _, _ => by simp only [fz]
section
variable {T : Tb} {K : PySem.W.Frag} {ρ : List Addr} {H : Hp} {S : Store} {b : Nat}
theorem take_get (n : Nat) (h : n < b) : (ρ.take b)[n]? = ρ[n]? := List.getElem?_take_of_lt h
theorem take_sub (p : Addr) (h : p ∈ ρ.take b) : p ∈ ρ := List.mem_of_mem_take h
theorem not_take (nd : ρ.Nodup) {n : Nat} {a : Addr} (hb : b ≤ n) (hn : ρ[n]? = some a) : a ∉ ρ.take b := fun hm => by
  obtain ⟨k, hk, e⟩ := List.getElem_of_mem hm
  have hk' : k < b := by
    have := hk
    rw [List.length_take] at this
    omega
  have e1 : ρ[k]? = some a := by
    rw [← take_get k hk', List.getElem?_eq_getElem hk, e]
  obtain ⟨h1, e1⟩ := List.getElem?_eq_some_iff.mp e1
  obtain ⟨h2, e2⟩ := List.getElem?_eq_some_iff.mp hn
  have := (List.getElem_inj nd).mp (e1.trans e2.symm)
  omega
theorem fz_rvs {k : Nat} (ih : ∀ (v : AV) (u : V), RV T K ρ H v u → (fz k S b v).cl b = true → RV T K (ρ.take b) H (fz k S b v) u) : ∀ {xs : List AV} {us : List V}, RVs T K ρ H xs us → clL b (xs.map (fz k S b)) = true → RVs T K (ρ.take b) H (xs.map (fz k S b)) us
  | _, _, .nil, _ => .nil
  | _, _, .cons h r, q => by
    simp only [List.map_cons, clL, Bool.and_eq_true] at q
    exact .cons (ih _ _ h q.1) (fz_rvs ih r q.2)
theorem fz_rv (st : RSt T K ρ H S) : ∀ (k : Nat) (v : AV) (u : V), RV T K ρ H v u → (fz k S b v).cl b = true → RV T K (ρ.take b) H (fz k S b v) u
  | 0, v, u, r, h => by
    unfold fz at h ⊢
    exact r.sub take_get take_sub h
  | k + 1, .tup xs, u, r, h => by
    simp only [fz, AV.cl] at h ⊢
    cases r with
    | tup ha ra => exact .tup ha (fz_rvs (fz_rv st k) ra h)
  | k + 1, .lst xs, u, r, h => by
    simp only [fz, AV.cl] at h ⊢
    cases r with
    | lst n ha ra => exact .lst (fun z => n (take_sub _ z)) ha (fz_rvs (fz_rv st k) ra h)
  | k + 1, .exc C ns xs, u, r, h => by
    simp only [fz, AV.cl] at h ⊢
    cases r with
    | exc n1 n2 h1 h2 ra => exact .exc (fun z => n1 (take_sub _ z)) (fun z => n2 (take_sub _ z)) h1 h2 (fz_rvs (fz_rv st k) ra h)
  | k + 1, .loc n, u, r, h => by
    cases r with
    | @loc _ a hn =>
      simp only [fz] at h ⊢
      split at h
      · rename_i hb
        rw [if_pos hb]
        exact .loc (by rw [take_get n hb]; exact hn)
      · rename_i hb
        rw [if_neg hb]
        have hna := not_take (b := b) st.nd (by omega) hn
        split at h
        · rename_i xs hx
          obtain ⟨a', e, vs, hv, rs⟩ := st.ob _ _ hx
          rw [hn] at e; cases e
          simp only [AV.cl] at h
          exact .lst hna hv (fz_rvs (fz_rv st k) rs h)
        · rename_i hx
          obtain ⟨a', e, vs, hv, rs⟩ := st.ob _ _ hx
          rw [hn] at e; cases e
          cases rs
          exact .dc0 hna hv
        · simp only [AV.cl, decide_eq_true_eq] at h
          omega
  | k + 1, .non, u, r, h => by simp only [fz] at h ⊢; exact r.sub take_get take_sub h
  | k + 1, .bl _, u, r, h => by simp only [fz] at h ⊢; exact r.sub take_get take_sub h
  | k + 1, .int _, u, r, h => by simp only [fz] at h ⊢; exact r.sub take_get take_sub h
  | k + 1, .str _, u, r, h => by simp only [fz] at h ⊢; exact r.sub take_get take_sub h
  | k + 1, .scr _, u, r, h => by simp only [fz] at h ⊢; exact r.sub take_get take_sub h
  | k + 1, .dc0, u, r, h => by simp only [fz] at h ⊢; exact r.sub take_get take_sub h
  | k + 1, .at _, u, r, h => by simp only [fz] at h ⊢; exact r.sub take_get take_sub h
  | k + 1, .ty _, u, r, h => by simp only [fz] at h ⊢; exact r.sub take_get take_sub h
/-- the store's first objects, whatever was made since forgotten -/
theorem RSt.cut (st : RSt T K ρ H S) (hb : b ≤ S.length) (hc : ∀ (n : Nat) (o : Ob), n < b → S[n]? = some o → o.cl b = true) : RSt T K (ρ.take b) H (S.take b) := by
  refine ⟨by rw [List.length_take, List.length_take, st.len], st.nd.sublist (List.take_sublist b ρ), fun n o q => ?_, st.tabs⟩
  have hn : n < b := by
    have := (List.getElem?_eq_some_iff.mp q).1
    rw [List.length_take] at this
    omega
  rw [List.getElem?_take_of_lt hn] at q
  obtain ⟨a, e, r⟩ := st.ob n o q
  exact ⟨a, by rw [take_get n hn]; exact e, r.sub take_get take_sub (hc n o hn q)⟩
/-- .. one of the later objects kept behind them -/
theorem RSt.cutK (st : RSt T K ρ H S) (hb : b ≤ S.length) (hc : ∀ (n : Nat) (o : Ob), n < b → S[n]? = some o → o.cl b = true) {m : Nat} {a : Addr} {o : Ob} (hm : b ≤ m) (ha : ρ[m]? = some a) (ho : S[m]? = some o) (hco : o.cl b = true) :
    RSt T K (ρ.take b ++ [a]) H (S.take b ++ [o]) := by
  have hl : (ρ.take b).length = b := by rw [List.length_take, st.len]; omega
  have hl2 : (S.take b).length = b := by rw [List.length_take]; omega
  have g1 : ∀ n, n < b → (ρ.take b ++ [a])[n]? = ρ[n]? := fun n h => by rw [List.getElem?_append_left (by rw [hl]; exact h)]; exact take_get n h
  have g2 : ∀ p, p ∈ ρ.take b ++ [a] → p ∈ ρ := fun p h => by
    rcases List.mem_append.mp h with z | z
    · exact take_sub p z
    · rw [List.mem_singleton] at z
      rw [z]; exact List.mem_of_getElem? ha
  refine ⟨by rw [List.length_append, List.length_append, hl, hl2]; rfl, ?_, fun n o' q => ?_, st.tabs⟩
  · rw [List.nodup_append]
    refine ⟨st.nd.sublist (List.take_sublist b ρ), by simp, fun x hx y hy z => ?_⟩
    rw [List.mem_singleton] at hy
    exact not_take st.nd hm ha (by rw [← hy, ← z]; exact hx)
  · by_cases hn : n < b
    · rw [List.getElem?_append_left (by rw [hl2]; exact hn), List.getElem?_take_of_lt hn] at q
      obtain ⟨a', e, r⟩ := st.ob n o' q
      exact ⟨a', by rw [g1 n hn]; exact e, r.sub g1 g2 (hc n o' hn q)⟩
    · rw [List.getElem?_append_right (by rw [hl2]; omega), hl2] at q
      have h0 : n - b = 0 := by
        have := (List.getElem?_eq_some_iff.mp q).1
        simp at this; omega
      rw [h0] at q
      have q' : o = o' := by simpa using q
      subst q'
      refine ⟨a, ?_, ?_⟩
      · rw [List.getElem?_append_right (by rw [hl]; omega), hl, h0]; rfl
      · obtain ⟨a2, e2, r2⟩ := st.ob m o ho
        rw [ha] at e2; cases e2
        exact r2.sub g1 g2 hco
end
/-- how a def's end is taken: 0: all that it made is forgotten, lists become trees; 1: a list or dict that it hands back stays in the store; 2: all stays -/
def collect (md : Nat) (b : Nat) (r : SR) : Res AV :=
  match r with
  | .nx _ S => if md = 2 then .ok .non S else .ok .non (S.take b)
  | .rt v S => if md = 2 then .ok v S else
    if (fz 24 S b v).cl b = true ∧ (md = 0 ∨ v.cl b = true) then .ok (fz 24 S b v) (S.take b) else match v with
      | .loc m => match S[m]? with
        | some o => if b ≤ m ∧ o.cl b = true then .ok (.loc b) (S.take b ++ [o]) else .bad
        | none => .bad
      | _ => .bad
  | .rse C ns fs _ S => if clL b (fs.map (fz 24 S b)) = true then .rse C ns (fs.map (fz 24 S b)) (S.take b) else .bad
  | _ => .bad
def runF (md n : Nat) (ms : Nat → MS) : Fn := fun args S => collect md S.length (ms S.length (args.map some ++ List.replicate (n - args.length) none) S)
section
variable {T : Tb} {K : PySem.W.Frag} {ρ : List Addr} {H : Hp} {S : Store}
theorem Ext.cut {ρ' : List Addr} {H' : Hp} (e : Ext ρ H ρ' H') : Ext ρ H ρ H' := ⟨⟨[], by simp⟩, fun p a b => absurd a b, e.keep, e.tups, e.frzs, e.tbls⟩
theorem Ext.take {ρ' : List Addr} {H' : Hp} (e : Ext ρ H ρ' H') : ρ'.take ρ.length = ρ := by
  obtain ⟨l, q⟩ := e.pre
  rw [q]; simp
theorem closed_of (st : RSt T K ρ H S) {S' : Store} (h : TR S.length S S') : ∀ (n : Nat) (o : Ob), n < S.length → S'[n]? = some o → o.cl S.length = true := fun n o hn q => by
  obtain ⟨a, e, r⟩ := st.ob n S[n] (List.getElem?_eq_getElem hn)
  have hc := r.cl
  rw [st.len] at hc
  exact h.2 n S[n] o hn (List.getElem?_eq_getElem hn) q _ hc
/-- a def's promise: its mirror -/
def spV (T : Tb) (K : PySem.W.Frag) (n : Nat) (g : Fn) : Sp := fun vs H Q E => vs.length = n ∧ ∃ args S ρ, RSt T K ρ H S ∧ RVs T K ρ H args vs ∧ RP RV T K (fun cls d _ H => E cls d H) [] ρ H Q (g args S)
theorem collect_of {md : Nat} {Q : VK} {E : XK} {r : SR} (st : RSt T K ρ H S) (tm : TmS S.length S r) (h : RP RV T K (fun cls d _ H => E cls d H) [] ρ H Q (collect md S.length r)) :
    RPS T K (fun cls d _ H => E cls d H) ρ H { nx := fun _ H' => Q .non H', rt := Q } r := by
  cases r with
  | nx env S' =>
    intro ρ' H' σ' e st' re
    unfold collect at h
    dsimp only at h
    split at h
    · exact h ρ' H' .non e st' .non
    · have c := st'.cut tm.1 (closed_of st tm)
      rw [← st.len, e.take] at c
      rw [← st.len] at h
      exact h ρ H' .non e.cut c .non
  | rt v S' =>
    intro ρ' H' u e st' rv
    unfold collect at h
    dsimp only at h
    split at h
    · exact h ρ' H' u e st' rv
    · split at h
      · rename_i hc
        have c := st'.cut tm.1 (closed_of st tm)
        have f := fz_rv (b := S.length) st' 24 v u rv hc.1
        rw [← st.len, e.take] at c f
        rw [← st.len] at h
        exact h ρ H' u e.cut c f
      · split at h
        · rename_i m _
          split at h
          · rename_i o ho
            split at h
            · rename_i hc
              cases rv with
              | @loc _ a hn =>
                have c := st'.cutK tm.1 (closed_of st tm) hc.1 hn ho hc.2
                have hl : ρ'.take S.length = ρ := by rw [← st.len]; exact e.take
                rw [hl] at c
                refine h (ρ ++ [a]) H' _ ⟨⟨[a], rfl⟩, fun p h1 h2 => ?_, e.keep, e.tups, e.frzs, e.tbls⟩ c (.loc ?_)
                · rcases List.mem_append.mp h1 with z | z
                  · exact absurd z h2
                  · rw [List.mem_singleton] at z
                    rw [z] at h2 ⊢
                    exact e.new a (List.mem_of_getElem? hn) h2
                · rw [← st.len]; simp
            · exact h.elim
          · exact h.elim
        · exact h.elim
  | bk env S' => exact h.elim
  | ct env S' => exact h.elim
  | bad => exact h.elim
  | rse C ns fs env S' =>
    intro ρ' H' σ' d e st' re rx
    unfold collect at h
    dsimp only at h
    split at h
    · rename_i hc
      have c := st'.cut tm.1 (closed_of st tm)
      obtain ⟨ws, h1, h2, h3⟩ := rx
      have f := fz_rvs (b := S.length) (fz_rv st' 24) h3 hc
      rw [← st.len, e.take] at c f
      rw [← st.len] at h
      exact h ρ H' d e.cut c ⟨ws, h1, fun z => h2 (e.mem z), f⟩
    · exact h.elim
theorem renv_start {args : List AV} {vs : List V} {N : List Str} (r : RVs T K ρ H args vs) : REnv T K ρ H (args.map some ++ List.replicate (N.length - args.length) none) (L2.start N vs) := by
  unfold L2.start
  refine ⟨by simp [r.length], fun i v q => ?_⟩
  by_cases hi : i < args.length
  · rw [List.getElem?_append_left (by simpa using hi), List.getElem?_map] at q
    cases e : args[i]? with
    | none => rw [e] at q; cases q
    | some x =>
      rw [e] at q
      obtain ⟨u, e2, ru⟩ := r.get e
      have q' : some x = some v := Option.some.inj q
      cases q'
      refine ⟨u, ?_, ru⟩
      rw [List.getElem?_append_left (by rw [List.length_map, ← r.length]; exact hi), List.getElem?_map, e2]; rfl
  · rw [List.getElem?_append_right (by simpa using hi)] at q
    rw [List.getElem?_replicate] at q
    split at q <;> cases q
end

/-! ### defs; gd: whether the repr of a list or tuple is asked within -/
structure FnG (gd : Bool) (P : Program) (w : World) (K : PySem.W.Frag) (mg : Str → Option Value) (base : Heap) (k : Nat) (f : Addr) (fd : FuncData) (ps : List Str) (sp : Sp) : Prop where
  len : ∀ vs H Q E, sp vs H Q E → vs.length = ps.length
  run : ∀ (A : Around) (outer : List Env) (s : Shared) (H : Hp) (args : Args) (us : List Value) (vs : List V) (Q : VK) (E : XK), Room k A → (gd = true → A.guards = some []) → Env0 P w K mg base A outer s H → BindsTo s fd args (ps.zip us) → Vals vs us → sp vs H Q E →
    codeAny (model P w) A (.call (.ref f) args) (CR (L2.CX P w) outer P w H s Q E) s
theorem FnG.of {P : Program} {w : World} {K : PySem.W.Frag} {mg : Str → Option Value} {base : Heap} {k : Nat} {f : Addr} {fd : FuncData} {ps : List Str} {sp : Sp} (F : FnOk P w K mg base (L2.CX P w) k f fd ps sp) {gd : Bool} : FnG gd P w K mg base k f fd ps sp :=
  ⟨F.len, fun A outer s H args us vs Q E hr _ e0 hb r h => F.run A outer s H args us vs Q E hr e0 hb r h⟩
theorem FnG.any {P : Program} {w : World} {K : PySem.W.Frag} {mg : Str → Option Value} {base : Heap} {k j : Nat} {f : Addr} {fd : FuncData} {ps : List Str} {sp : Sp} {gd : Bool} (F : FnG false P w K mg base k f fd ps sp) (h : k ≤ j) : FnG gd P w K mg base j f fd ps sp :=
  ⟨F.len, fun A outer s H args us vs Q E hr _ e0 hb r q => F.run A outer s H args us vs Q E (hr.mono h) (fun z => nomatch z) e0 hb r q⟩
theorem FnG.up {P : Program} {w : World} {K : PySem.W.Frag} {mg : Str → Option Value} {base : Heap} {k j : Nat} {f : Addr} {fd : FuncData} {ps : List Str} {sp : Sp} {gd : Bool} (F : FnG gd P w K mg base k f fd ps sp) (h : k ≤ j) : FnG gd P w K mg base j f fd ps sp :=
  ⟨F.len, fun A outer s H args us vs Q E hr hg e0 hb r q => F.run A outer s H args us vs Q E (hr.mono h) hg e0 hb r q⟩
theorem FnG.ok {P : Program} {w : World} {K : PySem.W.Frag} {mg : Str → Option Value} {base : Heap} {k : Nat} {f : Addr} {fd : FuncData} {ps : List Str} {sp : Sp} (F : FnG false P w K mg base k f fd ps sp) : FnOk P w K mg base (L2.CX P w) k f fd ps sp :=
  ⟨F.len, fun A outer s H args us vs Q E hr e0 hb r q => F.run A outer s H args us vs Q E hr (fun z => nomatch z) e0 hb r q⟩
section
variable {T : Tb} {P : Program} {w : World} {K : PySem.W.Frag} {mg : Str → Option Value} {base : Heap}
/-- a def by its body's mirror -/
theorem fn_ve {gd : Bool} {md : Nat} {x qual : Str} {st : Stmt} {f : Addr} {fd : FuncData} {N ps : List Str} {k : Nat} {ms : Nat → MS} (F : Fun K x qual st f fd) (Sc : FnScope N ps (defScope st))
    (hb : ∀ (cdv : Value) (A : Around) (outer : List Env) (s : Shared) (H : Hp) (E : XK) (b : Nat), Room k (A.deeper (envOfC qual (defScope st) s.heap.objs.size f cdv)) → (gd = true → A.guards = some []) →
      VSs T (cxOf (L2.CX P w) P w K mg base N qual (defScope st) f cdv A outer s H E) (fun cls d _ H => E cls d H) b (defBody st) (ms b)) :
    FnG gd P w K mg base (k + 1) f fd ps (spV T K ps.length (runF md N.length ms)) := by
  obtain ⟨oc, od, kV, doc, pm, an, cdv, ct, osl, rfl, lk, hcd⟩ := F.ex
  refine ⟨fun vs H Q E h => h.1, fun A outer s H args us vs Q E hr hg e0 hbd r hsp => ?_⟩
  have KX : K.In s.heap := e0.mod.kin.keeps fun b o e => (e0.bs b o e).1
  have lim : s.heap.NoLimit := e0.mod.nolimit.keeps fun b o e => (e0.bs b o e).1
  have kinds : ∀ y ∈ ps.zip us, (defScope st).names.lookup y.1 = some .local ∨ ((defScope st).names.lookup y.1 = some .cell ∧ ((cellsFrom (s.heap.objs.size + 1) (defScope st).names []).lookup y.1).isSome = true) := by
    rintro ⟨n, v⟩ hy
    exact (Sc.par n (List.of_mem_zip hy).1).imp id fun q => ⟨q, PySem.W.cellsFrom_some _ _ _ (.inl q)⟩
  refine codeAny_call_function hr.depth (KX _ _ lk) rfl Sc.co Sc.gen rfl (PySem.W.codeRec_of KX hcd) (hbd _ _ _ _ ?_)
  refine wpAny_newFunctionEnv_cells Sc.kind kinds fun env he s1 ic => ?_
  subst he
  refine ⟨lim.keeps ic.toInCall.keep, codeAny_func ?_⟩
  obtain ⟨hlen, as, S, ρ, hst, hrv, hq⟩ := hsp
  have B := hb cdv A outer s H E S.length (hr.deeper _) hg
  have I : Inv (cxOf (L2.CX P w) P w K mg base N qual (defScope st) f cdv A outer s H E) [] (L2.start N vs) H s1 := inv_start Sc hr.hd e0 hlen r ic
  have hread : tS T (cxOf (L2.CX P w) P w K mg base N qual (defScope st) f cdv A outer s H E) (fun cls d _ H => E cls d H) (ms S.length) { nx := fun _ H' => Q .non H', rt := Q } (L2.start N vs) H :=
    ⟨_, S, ρ, hst, renv_start hrv, collect_of hst (B.tm _ S (Nat.le_refl _)) hq⟩
  refine wpAny_mono (B.pe.run [] s1 (L2.start N vs) H _ I hread) (fun fl s' hs => ?_) fun e s' hs => hs
  have done : ∀ {σ' : Sl} {H' : Hp} {v : V} {u : Value}, Inv (cxOf (L2.CX P w) P w K mg base N qual (defScope st) f cdv A outer s H E) [] σ' H' s' → RelV v u → Q v H' → CE outer P w H s Q u s' :=
    fun {σ' H' v u} J rv q => ⟨v, H', J.os, J.bare, J.base, J.hok, rv, q⟩
  match fl, hs with
  | .ret u, ⟨v, σ', H', J, rv, q⟩ => exact done J rv q
  | .next, ⟨σ', H', J, q⟩ => exact done (v := V.non) (u := Value.none) J rfl q
  | .brk, ⟨_, _, _, q⟩ => exact False.elim q
  | .cont, ⟨_, _, _, q⟩ => exact False.elim q
end
section
variable {T : Tb} {X : Cx} {W : WX} {b : Nat}
/-- a def's mirror leaves what lies below b -/
def TmFn (g : Fn) : Prop := ∀ b args S, b ≤ S.length → Tm b S (g args S)
theorem TR.take {b c : Nat} {S S' : Store} (h : TR c S S') (hb : b ≤ c) (hc : c ≤ S.length) {l : Store} : TR b S (S'.take S.length ++ l) := by
  have hl : (S'.take S.length).length = S.length := by rw [List.length_take]; have := h.1; omega
  refine ⟨by rw [List.length_append, hl]; omega, fun n o o' hn h1 h2 k q => ?_⟩
  have hlt := (List.getElem?_eq_some_iff.mp h1).1
  rw [List.getElem?_append_left (by rw [hl]; exact hlt), List.getElem?_take_of_lt hlt] at h2
  exact h.2 n o o' (by omega) h1 h2 k q
theorem runF_tm {md n : Nat} {ms : Nat → MS} (h : ∀ c, TmX c (ms c)) : TmFn (runF md n ms) := by
  intro b args S hb
  have t := h S.length (args.map some ++ List.replicate (n - args.length) none) S (Nat.le_refl _)
  have cut : ∀ {S' : Store}, TR S.length S S' → TR b S (S'.take S.length) := fun {S'} q => by
    have := TR.take q hb (Nat.le_refl _) (l := [])
    rwa [List.append_nil] at this
  have all : ∀ {S' : Store}, TR S.length S S' → TR b S S' := fun {S'} q => ⟨q.1, fun k o o' hk h1 h2 c z => q.2 k o o' (by omega) h1 h2 c z⟩
  unfold runF
  cases e : ms S.length (args.map some ++ List.replicate (n - args.length) none) S with
  | nx env S' =>
    rw [e] at t
    unfold collect
    dsimp only
    split
    · exact all t
    · exact cut t
  | rt v S' =>
    rw [e] at t
    unfold collect
    dsimp only
    split
    · exact all t
    · split
      · exact cut t
      · split
        · split
          · split
            · exact TR.take t hb (Nat.le_refl _)
            · trivial
          · trivial
        · trivial
  | bk env S' => trivial
  | ct env S' => trivial
  | bad => trivial
  | rse C ns fs env S' =>
    rw [e] at t
    unfold collect
    dsimp only
    split
    · exact cut t
    · trivial
theorem run_fnG {k n : Nat} {f : Addr} {fd : FuncData} {ps : List Str} {g : Fn} {gd : Bool} {pins : List (Addr × Obj)} {σ : Sl} {H : Hp} {s : Shared} {Q : VK} {us : List Value} {vs : List V} {S : Store} {ρ : List Addr} {args : List AV} {ds : List Value} {dvs : List V} {das : List AV}
    (F : FnG gd X.prog X.w X.K X.mg X.base k f fd ps (spV T X.K n g)) (hr : Room k X.A) (hg : gd = true → X.A.guards = some []) (hb : Binds X.K fd ps ds) (hd : Vals dvs ds) (tk : Takes X W)
    (I : Inv X pins σ H s) (r : Vals vs us) (st : RSt T X.K ρ H S) (rv : RVs T X.K ρ H args vs) (rd : RVs T X.K ρ H das dvs) (hn : (vs ++ dvs).length = n) (h : RP RV T X.K W σ ρ H Q (g (args ++ das) S)) : wpAny (model X.prog X.w) X.A (call (.ref f) us) (EP X pins σ Q) X.xe s := by
  have r2 : Vals (vs ++ dvs) (us ++ ds) := r.append hd
  have hsp : spV T X.K n g (vs ++ dvs) H Q (WE W σ) := by
    refine ⟨hn, args ++ das, S, ρ, st, rv.append rd, ?_⟩
    cases e : g (args ++ das) S with
    | ok v S' => rw [e] at h; exact h
    | rse C ns fs S' => rw [e] at h; exact h
    | bad => rw [e] at h; exact h
  have hl : (us ++ ds).length = ps.length := by rw [← r2.length]; exact F.len _ _ _ _ hsp
  refine wpAny_call (codeAny_mono (F.run X.A X.stack s H ⟨us, []⟩ (us ++ ds) (vs ++ dvs) Q (WE W σ) hr hg I.env0 (hb s us I.kIn hl) r2 hsp) fun r s' hq => ?_)
  match r, hq with
  | .error e, hq => exact passAt tk σ pins H s e s' I hq
  | .ok (.ret u), hq => exact I.after hq
  | .ok .next, hq => exact False.elim hq
  | .ok .brk, hq => exact False.elim hq
  | .ok .cont, hq => exact False.elim hq
/-- f(e, ..) with all parameters given -/
def mFn (g : Fn) (n : Nat) (ms : MA) : ME := bindM ms fun vs _ S => if vs.length = n then g vs S else .bad
theorem ve_call {k n : Nat} {f : Addr} {fd : FuncData} {ps : List Str} {g : Fn} {gd : Bool} {x : Str} {e : Expr} {es : List Expr} {ms : MA} {p pos : Pos} (F : FnG gd X.prog X.w X.K X.mg X.base k f fd ps (spV T X.K n g)) (hr : Room k X.A) (hm : X.mg x = some (.ref f)) (hk : PySem.W.keepIn X.K (.ref f) = true)
    (hb : Binds X.K fd ps []) (ht : TmFn g) (tk : Takes X W) (ha : VA T X W b (e :: es) ms) (hgd : gd = true → X.A.guards = some [] := by first | exact fun z => nomatch z | assumption) (hg : Gl X x := by rfl) (hdb : (x == ("__debug__" : Str)) = false := by decide)
    (he : starEach (e :: es) X.env = (false, eval e X.env) :: starEach es X.env := by rfl) (hpl : (backTo pos (starEach es X.env)).any (·.1) = false := by rfl) : VE T X W b (.Call (.Name x p) (e :: es) [] pos) (mFn g n ms) := by
  refine ⟨⟨fun pins s σ H Q I h => ?_⟩, ha.tm.bind fun vs env S hb' => ?_⟩
  · obtain ⟨env, S, ρ, st, re, q⟩ := h
    refine wpAny_Call_Name_kw (ld_glob I hg hm ?_ hdb)
    refine PySem.W.callWith_K (h₀ := X.base) I.ok.mod.kin hk (thn (ha.pe.run pos pins s σ H _ I (tA_run st re (RP.bind q))) fun us s1 ⟨vs, H1, I1, r, as, S1, ρ1, e1, st1, rvs, h1⟩ => ⟨I1.kIn, ?_⟩) he hpl
    dsimp only at h1
    split at h1
    · rename_i hn
      exact run_fnG (dvs := []) (das := []) F hr hgd hb .nil tk I1 r st1 rvs .nil (by rw [List.append_nil, ← rvs.length]; exact hn) (by rw [List.append_nil]; exact h1)
    · exact h1.elim
  · split
    · exact ht b vs S hb'
    · trivial
theorem ve_call0 {k : Nat} {f : Addr} {fd : FuncData} {ps : List Str} {g : Fn} {gd : Bool} {x : Str} {p pos : Pos} (F : FnG gd X.prog X.w X.K X.mg X.base k f fd ps (spV T X.K 0 g)) (hr : Room k X.A) (hm : X.mg x = some (.ref f)) (hk : PySem.W.keepIn X.K (.ref f) = true)
    (hb : Binds X.K fd ps []) (ht : TmFn g) (tk : Takes X W) (hgd : gd = true → X.A.guards = some [] := by first | exact fun z => nomatch z | assumption) (hg : Gl X x := by rfl) (hdb : (x == ("__debug__" : Str)) = false := by decide) : VE T X W b (.Call (.Name x p) [] [] pos) (mFn g 0 mNil) := by
  refine ⟨⟨fun pins s σ H Q I h => ?_⟩, TmE.bind (TmE.pure _) fun vs env S hb' => ?_⟩
  · obtain ⟨env, S, ρ, st, re, q⟩ := h
    refine wpAny_Call_Name_kw (ld_glob I hg hm ?_ hdb)
    refine PySem.W.callWith_K0 I.kIn hk ?_
    have q' : RP RV T X.K W σ ρ H Q (g [] S) := q
    exact run_fnG (dvs := []) (das := []) (args := []) F hr hgd hb .nil tk I .nil st .nil .nil rfl q'
  · split
    · exact ht b vs S hb'
    · trivial
end
end Ve

set_option Elab.async false
set_option linter.all false
set_option maxRecDepth 100000
set_option maxHeartbeats 2000000
/-! Ve, the errors of the package: classes over ValueError or RuntimeError whose __init__ stores its arguments. -/
namespace Ve
open PySem PySem.Spec PyProof.Rows L2

/-- what the written part says of an error's class at C; its __init__ at fI -/
structure ClsE (K : PySem.W.Frag) (C fI : Addr) : Prop where
  cls : ∃ B newId initId bmB nm q N bs bm sn sub ab col dd k0 k1 k2 k3 k5, ExcBaseFacts B newId initId bmB ∧ StoreFacts B bmB "object.__setattr__" "object" ∧ PySem.W.excTail bmB bm = true ∧
    K.lookup C = some (excClassObj nm q C N bs bm true sn sub ab col dd k0 k1 k2 k3 k5 newId)
  sa : PySem.W.findIn K (.ref C) "__setattr__" = some (some (.builtin "object.__setattr__"))
  ga : PySem.W.findIn K (.ref C) "__getattribute__" = some (some (.builtin "BaseException.__getattribute__"))
  gg : PySem.W.findIn K (.ref C) "__getattr__" = some none
  exC : PySem.W.subIn K (.ref C) (.type "BaseException") = some true
  tyC : PySem.W.typeIn K (.ref C) = some (.type "type")
  kC : PySem.W.keepIn K (.ref C) = true
  hdC : PySem.W.hasDictIn K C = true
  iC : PySem.W.findIn K (.ref C) "__init__" = some (some (.ref fI))
  tI : PySem.W.typeIn K (.ref fI) = some (.type "function")

section
variable {prog : Program} {w : World} {A : Around} {R : Result → Shared → Prop} {hp : Heap} {g : Array GenState} {d : Drawn} {t : Nat} {os : OsState}
open Builtin.ObjectAttr in
/-- a store into an error: it has no dict yet | it has one -/
theorem exc_store {K : PySem.W.Frag} {C fI x : Addr} {name : Str} {tk : Tok} {v : Value} {ox : Obj} {od : Option Obj} {fv : Array Value} {dv : Option Addr} (Y : ClsE K C fI) (X : K.In hp) (hox : ox = { cls := .ref C, dict := dv, data := .fields fv })
    (I : PySem.W.InstAt hp x ox C od) (ha : PySem.W.findIn K (.ref C) name = some none)
    (h : ∀ cd b, PySem.W.clsIn K C = some cd → cd.hasDict = true → wpAny (model prog w) A.in1 (storeInOwnDict (.ref x) (.ref C) (.str name tk) name v b)
      (fun fin s' => match fin with | .done f => R (.ok f) s' | .again c' => c'.quiet = true ∧ codeAny (model prog w) A c' R s') (fun e s' => R (.error e) s') ⟨hp, g, d, t, os⟩) :
    codeAny (model prog w) A (.call (.builtin "object.__setattr__") ⟨[.ref x, .str name tk, v], []⟩) R ⟨hp, g, d, t, os⟩ := by
  obtain ⟨B, newId, initId, bmB, nm, q, N, bs, bm, sn, sub, ab, col, dd, k0, k1, k2, k3, k5, _, SF, tl, lk⟩ := Y.cls
  have hcl : PySem.W.clsIn K C = some { name := nm, bases := bs, mro := .ref C :: bm, ns := N, qualname := q, hasDict := true, slotNames := sn, subclasses := sub, abstract := ab, collection := col, hasDel := false } := by unfold PySem.W.clsIn; rw [lk] <;> rfl
  have ov : PySem.W.excOver K C bmB = true := by
    unfold PySem.W.excOver
    rw [hcl]
    simp [tl]
  have tn : PySem.W.takerIn K C name = some none := by
    unfold PySem.W.takerIn
    rw [ha]; rfl
  exact PySem.W.osa_openX (r := none) SF X I ov tn fun b => h _ b hcl rfl
end
section
variable {X : Cx} {pins : List (Addr × Obj)} {σ : Sl} {H : Hp} {s : Shared} {a C fI dx : Addr} {f : Str} {y : V} {u : Value} {fs : List (Str × V)} {Q : Unit → Shared → Prop} {E : Value → Shared → Prop} {A : Around}
open Builtin.ObjectAttr in
theorem est_new (Y : ClsE X.K C fI) (I : Inv X pins σ H s) (e : H a = some (exo a C none)) (hno : PySem.W.findIn X.K (.ref C) f = some none) (ry : RelV y u)
    (h : ∀ dx s', H dx = none → dx ≠ a → Inv X pins σ (upd (upd H dx (exd dx [(f, y)])) a (exo a C (some dx))) s' → Q () s') : wpAny (model X.prog X.w) A (setAttr (.ref a) f u) Q E s := by
  obtain ⟨t1, ho⟩ := exo_at I.hok e
  obtain ⟨hp, g, d, t, os⟩ := s
  refine PySem.W.set_plain I.kIn (ox := { cls := .ref C, dict := none, data := .fields #[.ref t1, .none, .none, .none, .bool false, .none] }) (od := none) ⟨ho, rfl, rfl, trivial⟩ Y.sa ?_
  refine exc_store (od := none) Y I.kIn rfl ⟨ho, rfl, rfl, trivial⟩ hno fun cd b hcd hh => ?_
  have hcls : PySem.W.Looks (model X.prog X.w) hp (classData C) cd := PySem.W.looks_clsIn I.kIn hcd
  have hne : a ≠ hp.objs.size := Nat.ne_of_lt (Heap.lt_size ho)
  have hnd : H hp.objs.size = none := I.hok.fresh (Nat.le_refl _)
  obtain ⟨nm, bs, mro, ns, qn, hd, sn, sb, ab, col, del⟩ := cd
  dsimp only at hh
  subst hh
  unfold storeInOwnDict ownDictForStores
  have fin : ∀ (h' : Heap) (tk' : Nat), h'.Ns1 hp.objs.size (fun z => if z = f then some u else none) →
      Heap.SameBut hp.objs.size ((hp.push { cls := .type "dict", data := .dict #[] }).update a fun o => { o with dict := some hp.objs.size }) h' →
      Q () ⟨h', g, d, tk', os⟩ := by
    intro h' tk' hn hs
    have hx1 : (hp.push { cls := .type "dict", data := .dict #[] }).get? a = some { cls := .ref C, dict := none, data := .fields #[.ref t1, .none, .none, .none, .bool false, .none] } := Heap.get?_push_of_some _ ho
    have hx : h'.get? a = some { cls := .ref C, dict := some hp.objs.size, data := .fields #[.ref t1, .none, .none, .none, .bool false, .none] } := (hs.2 a hne).trans (Heap.get?_update_self _ hx1 rfl)
    have k : ∀ b o, b ≠ a → hp.get? b = some o → h'.get? b = some o := fun b o hb q =>
      (hs.2 b (Nat.ne_of_lt (Heap.lt_size q))).trans ((Heap.get?_update_ne _ _ _ _ hb).trans (Heap.get?_push_of_some _ q))
    have nd : ∀ {b : Addr} {o : Obj}, hp.get? b = some o → b ≠ hp.objs.size := fun q => Nat.ne_of_lt (Heap.lt_size q)
    have na : ∀ {b : Addr}, H b = none → b ≠ a := fun {b} n z => by rw [z, e] at n; cases n
    have U : Un X.fs [] H (upd (upd H hp.objs.size (exd hp.objs.size [(f, y)])) a (exo a C (some hp.objs.size))) hp h' := {
      keep := fun b o q n _ _ => k b o (na n) q
      slot := fun b o q n _ _ => ⟨o.slots, k b o (na n) q⟩
      free := fun b o q n _ => by rw [upd_ne (na n), upd_ne (nd q)]; exact n
      there := fun b o q _ => by
        by_cases hb : b = a
        · exact ⟨_, by rw [hb]; exact hx⟩
        · exact ⟨o, k b o hb q⟩
      tups := fun b xs q => by rw [upd_ne (at_ne e q exo_tup), upd_ne (ne_of_none q hnd)]; exact q
      frzs := fun b o v q => by rw [upd_ne (at_ne e q exo_frz), upd_ne (ne_of_none q hnd)]; exact q
      tbls := fun b ps q => ⟨#[], by rw [upd_ne (at_ne e q exo_tbl), upd_ne (ne_of_none q hnd), q]; simp⟩ }
    refine h hp.objs.size _ hnd (Ne.symm hne) (I.un (t' := tk') U fun b o q => ?_)
    by_cases hb : b = a
    · subst hb
      rw [upd_same] at q
      cases q
      exact exo_ok hx
    · rw [upd_ne hb] at q
      by_cases hd : b = hp.objs.size
      · subst hd
        rw [upd_same] at q
        cases q
        exact exd_ok hn (relO_put (fs := []) ry fun g => True.intro)
      · rw [upd_ne hd] at q
        refine (I.hok b o q).stay (fun c v hc z => k c v ?_ z) (fun c hc => by rw [upd_ne (at_ne e hc exo_own), upd_ne (ne_of_none hc hnd)]; exact hc) (fun c xs hc => by rw [upd_ne (at_ne e hc exo_tup), upd_ne (ne_of_none hc hnd)]; exact hc)
        rcases hc with hc | hc
        · rw [hc]; exact hb
        · exact at_ne e hc exo_own
  repeat (first | with_reducible refine PySem.HandSPX.store_in_new ?_ ?_ | with_reducible refine wpAny_loadPart_at ho ?_ | with_reducible refine hcls.at ?_ | wp_step)
  · exact ⟨_, #[], _, (Heap.get?_update_ne _ _ _ _ hne.symm).trans (Heap.get?_push_at rfl rfl), rfl, fun e he => absurd he (by simp), fun _ => rfl⟩
  · intro h' tk' hn' hs
    exact fin h' tk' hn' hs
open Builtin.ObjectAttr in
theorem est_old (Y : ClsE X.K C fI) (I : Inv X pins σ H s) (e : H a = some (exo a C (some dx))) (ed : H dx = some (exd dx fs)) (hl : fs.length ≤ 900) (hno : PySem.W.findIn X.K (.ref C) f = some none) (ry : RelV y u)
    (h : ∀ s', Inv X pins σ (upd H dx (exd dx ((f, y) :: fs))) s' → Q () s') : wpAny (model X.prog X.w) A (setAttr (.ref a) f u) Q E s := by
  obtain ⟨t1, ho⟩ := exo_at I.hok e
  obtain ⟨mA, hns, rel⟩ := exd_at I.hok ed
  have hw := within_of rel
  obtain ⟨hp, g, d, t, os⟩ := s
  obtain ⟨oD, _, _, hoD, _, _⟩ := hns.count hw
  refine PySem.W.set_plain I.kIn (ox := { cls := .ref C, dict := some dx, data := .fields #[.ref t1, .none, .none, .none, .bool false, .none] }) (od := some oD) ⟨ho, rfl, rfl, hoD⟩ Y.sa ?_
  refine exc_store (od := some oD) Y I.kIn rfl ⟨ho, rfl, rfl, hoD⟩ hno fun cd b hcd hh => ?_
  have hcls : PySem.W.Looks (model X.prog X.w) hp (classData C) cd := PySem.W.looks_clsIn I.kIn hcd
  obtain ⟨nm, bs, mro, ns, qn, hd, sn, sb, ab, col, del⟩ := cd
  dsimp only at hh
  subst hh
  unfold storeInOwnDict ownDictForStores
  have hz : (fs.map (·.1)).length ≤ 1000 := by rw [List.length_map]; omega
  repeat (first | with_reducible refine PySem.OEX.store_in_old hns hw hz ?_ | with_reducible refine wpAny_loadPart_at ho ?_ | with_reducible refine hcls.at ?_ | wp_step)
  intro h' tk' hn' hs
  have hd : ∃ o, h'.get? dx = some o := by
    obtain ⟨o, _, _, e', _⟩ := hn'
    exact ⟨o, e'⟩
  exact h _ (I.write (t' := tk') (x := dx) (e := dx) (o := exd dx ((f, y) :: fs)) (by rw [ed]; exact True.intro) (.inl rfl) (fun b o hb q => (hs.2 b hb).trans q) hd (exd_ok hn' (relO_put ry rel)))
/-- self.f = e in such an __init__ -/
def tEst (K : PySem.W.Frag) (f : Str) (to te : TE) : TS := fun D σ H => te σ H fun y H1 => to σ H1 fun x H2 => ∃ a C fI : Addr, x = .ref a ∧ ClsE K C fI ∧ PySem.W.findIn K (.ref C) f = some none ∧
  ((H2 a = some (exo a C none) ∧ ∀ dx, H2 dx = none → dx ≠ a → D.nx σ (upd (upd H2 dx (exd dx [(f, y)])) a (exo a C (some dx)))) ∨
    ∃ (dx : Addr) (fs : List (Str × V)), H2 a = some (exo a C (some dx)) ∧ H2 dx = some (exd dx fs) ∧ fs.length ≤ 900 ∧ D.nx σ (upd H2 dx (exd dx ((f, y) :: fs))))
theorem ps_est {o e : Expr} {to te : TE} {p' pos : Pos} (ho : PE X o to) (he : PE X e te) (hs : swapsWith e (some (.Attribute o f p')) pos.line X.env = pure false := by rfl) : PS X (.Assign [.Attribute o f p'] e pos) (tEst X.K f to te) := by
  refine ⟨fun pins s σ H D I h => ?_⟩
  refine plainObj_wpAny_Assign_Attribute (thn (he.run pins s σ H _ I h) fun v s1 ⟨y, H1, I1, r1, q1⟩ => thn (ho.run pins s1 σ H1 _ I1 q1) fun u s2 ⟨x, H2, I2, r2, a, C, fI, ex, Y, hno, q⟩ => ?_) hs
  subst ex
  obtain rfl : u = Value.ref a := r2
  rcases q with ⟨ea, q⟩ | ⟨dx, fs, ea, ed, hl, q⟩
  · exact est_new Y I2 ea hno r1 fun dx s' n ne J => ⟨σ, _, J, q dx n ne⟩
  · exact est_old Y I2 ea ed hl hno r1 fun s' J => ⟨σ, _, J, q⟩
end
end Ve

set_option Elab.async false
set_option linter.all false
set_option maxRecDepth 100000
set_option maxHeartbeats 2000000
/-! Ve, errors: made, raised, kept, read, asked for their class. -/
namespace Ve
open PySem PySem.Spec PyProof.Rows L2

/-- what an error's __init__ promises: its fields, the last one first -/
def spI (K : PySem.W.Frag) (C : Addr) (ns : List Str) : Sp := fun vs H Q E => ∃ (a : Addr) (ws : List V) (H1 : Hp), vs = .ref a :: ws ∧ ws.length = ns.length ∧ H = upd H1 a (exo a C none) ∧ H1 a = none ∧
  ∀ d, H1 d = none → d ≠ a → Q .non (upd (upd H1 a (exo a C (some d))) d (exd d (ns.zip ws.reverse)))
/-- a class of errors, as it stands behind the top -/
structure ErrK (P : Program) (w : World) (K : PySem.W.Frag) (mg : Str → Option Value) (base : Heap) (k : Nat) (x : Str) (C : Addr) (ns : List Str) : Prop where
  mgC : mg x = some (.ref C)
  ex : ∃ (fI : Addr) (fd : FuncData) (ps : List Str), ClsE K C fI ∧ FnOk P w K mg base (L2.CX P w) k fI fd ps (spI K C ns) ∧ Binds K fd ps [] ∧ ps.length = ns.length + 1

section
variable {X : Cx} {pins : List (Addr × Obj)} {σ : Sl}
/-- what making an error leaves -/
def MadeE (X : Cx) (pins : List (Addr × Obj)) (σ : Sl) (C : Addr) (Q : Hp → Addr → Addr → Prop) (ns : List Str) (ws : List V) (H1 : Hp) (u : Value) (s' : Shared) : Prop :=
  ∃ (s1 : Shared) (hp2 : Heap) (a d : Addr), u = .ref a ∧ Inv X pins σ H1 s1 ∧ s1.heap.objs.size ≤ a ∧ (∀ b o, s1.heap.get? b = some o → hp2.get? b = some o) ∧
    Un (frs X.stack) [] (upd H1 a (exo a C none)) (upd (upd H1 a (exo a C (some d))) d (exd d (ns.zip ws))) hp2 s'.heap ∧ HOk X.prog X.w (upd (upd H1 a (exo a C (some d))) d (exd d (ns.zip ws))) s'.heap ∧
    s'.os = s1.os ∧ AllBare s'.gens ∧ H1 d = none ∧ d ≠ a
theorem mk_made {k : Nat} {x : Str} {C : Addr} {ns : List Str} {e : Expr} {es : List Expr} {ta : TA} {p pos : Pos} (R : ErrK X.prog X.w X.K X.mg X.base k x C ns) (hr : Room (k + 1) X.A) (hg : Gl X x) (ha : PA X (e :: es) ta)
    (hdb : (x == ("__debug__" : Str)) = false := by decide) (he : starEach (e :: es) X.env = (false, eval e X.env) :: starEach es X.env := by rfl) (hpl : (backTo pos (starEach es X.env)).any (·.1) = false := by rfl)
    {s : Shared} {H : Hp} {Q : List V → Hp → Prop} (I : Inv X pins σ H s) (h : ta σ H fun vs H1 => vs.length = ns.length ∧ ns.length ≤ 1000 ∧ Q vs H1) :
    wpAny (model X.prog X.w) X.A (eval (.Call (.Name x p) (e :: es) [] pos) X.env) (fun u s' => ∃ vs H1, Q vs H1 ∧ MadeE X pins σ C (fun _ _ _ => True) ns vs.reverse H1 u s') X.xe s := by
  obtain ⟨fI, fd, ps, Y, F1, hb, hps⟩ := R.ex
  obtain ⟨B, newId, initId, bmB, nm, q, N, bs, bm, sn, sub, ab, col, dd, k0, k1, k2, k3, k5, BF, SF, tl, hC⟩ := Y.cls
  refine wpAny_Call_Name_kw (ld_glob I hg R.mgC ?_ hdb)
  refine PySem.W.callWith_K (h₀ := X.base) I.ok.mod.kin Y.kC (thn (ha.run pos pins s σ H _ I h) fun us s1 ⟨vs, H1, I1, r1, hz, hz2, q1⟩ => ⟨I1.kIn, ?_⟩) he hpl
  show wpAny _ _ (call (.ref C) us) _ _ _
  obtain ⟨hp, g, dr, tk, os⟩ := s1
  have hsz : hp.objs.size ≤ hp.objs.size + 1 := Nat.le_succ _
  have hn : H1 (hp.objs.size + 1) = none := I1.hok.fresh hsz
  have kk : ∀ b o, hp.get? b = some o → ((hp.push (PySem.W.kdv_tup us)).push (PySem.HandSPX.excO C hp.objs.size)).get? b = some o := fun b o e => Heap.get?_push_of_some _ (Heap.get?_push_of_some _ e)
  have hget : ((hp.push (PySem.W.kdv_tup us)).push (PySem.HandSPX.excO C hp.objs.size)).get? (hp.objs.size + 1) = some (PySem.HandSPX.excO C hp.objs.size) := by heap_get
  have I2 : Inv X pins σ (upd H1 (hp.objs.size + 1) (exo (hp.objs.size + 1) C none)) ⟨(hp.push (PySem.W.kdv_tup us)).push (PySem.HandSPX.excO C hp.objs.size), g, dr, tk, os⟩ :=
    I1.laid (t' := tk) (a := hp.objs.size + 1) (o := exo (hp.objs.size + 1) C none) (h' := (hp.push (PySem.W.kdv_tup us)).push (PySem.HandSPX.excO C hp.objs.size)) kk hsz (exo_ok hget)
  have r2 : Vals (V.ref (hp.objs.size + 1) :: vs) (Value.ref (hp.objs.size + 1) :: us) := .cons rfl r1
  have hus : us.length = ns.length := by rw [← Paired.length r1]; exact hz
  have hl : (Value.ref (hp.objs.size + 1) :: us ++ []).length = ps.length := by simp [hps, hus]
  have hus' : us.length ≤ sizeLine := by rw [hus, sizeLine_eq]; omega
  have hq : spI X.K C ns (V.ref (hp.objs.size + 1) :: vs) (upd H1 (hp.objs.size + 1) (exo (hp.objs.size + 1) C none))
      (fun v H2 => v = .non ∧ ∃ d, H1 d = none ∧ d ≠ hp.objs.size + 1 ∧ H2 = upd (upd H1 (hp.objs.size + 1) (exo (hp.objs.size + 1) C (some d))) d (exd d (ns.zip vs.reverse))) (fun _ _ _ => False) :=
    ⟨_, vs, H1, rfl, hz, rfl, hn, fun d h1 h2 => ⟨rfl, d, h1, h2, rfl⟩⟩
  have over : ∀ T : String, bm.contains (.type T) = bmB.contains (.type T) := fun T => PySem.W.excTail_contains T bm tl
  refine wpAny_call (PySem.HandSPX.call_own BF over (I1.kIn _ _ hC) (PySem.W.looks_findIn I1.kIn Y.iC) (fun self => PySem.W.bind_fn I1.kIn self Y.tI) hus'
    (codeAny_mono (F1.run _ X.stack _ _ ⟨Value.ref (hp.objs.size + 1) :: us, []⟩ (Value.ref (hp.objs.size + 1) :: us) _ _ (fun _ _ _ => False) (hr.make C us []) (I2.env0.make C us []) (by simpa using hb _ (Value.ref (hp.objs.size + 1) :: us) I2.kIn hl) r2 hq) fun r s' hq' => ?_))
  match r, hq' with
  | .error er, hq' =>
    obtain ⟨_, _, _, _, _, _, _, _, _, _, _, _, z⟩ := hq'
    exact z.elim
  | .ok .next, hq' => exact False.elim hq'
  | .ok .brk, hq' => exact False.elim hq'
  | .ok .cont, hq' => exact False.elim hq'
  | .ok (.ret u), hq' =>
    obtain ⟨v, H2, os2, bare2, un2, hok2, rv, ev, d, hd, hda, e2⟩ := hq'
    subst e2
    subst ev
    exact ⟨rv, vs, H1, q1, ⟨hp, g, dr, tk, os⟩, _, _, d, rfl, I1, hsz, kk, un2, hok2, os2, bare2, hd, hda⟩

/-! ### kept as a value -/
theorem excO_ok {P : Program} {w : World} {H : Hp} {h : Heap} {e C d t1 : Addr} (he : h.get? e = some ({ cls := .ref C, dict := some d, data := .fields #[.ref t1, .none, .none, .none, .bool false, .none] } : Obj)) : ObjOk P w H h e (excO e C d) :=
  ⟨⟨_, _, he, rfl, rfl, rfl⟩, ⟨_, he⟩, fun h1 h2 z k => by
    obtain ⟨o, vs, q1, q2, q3, q4⟩ := z
    exact ⟨o, vs, k _ q1, q2, q3, q4⟩⟩
theorem made_val {C : Addr} {ns : List Str} {ws : List V} {H1 : Hp} {u : Value} {s' : Shared} {Q : VK} (h : MadeE X pins σ C (fun _ _ _ => True) ns ws H1 u s')
    (q : ∀ a d, H1 a = none → H1 d = none → d ≠ a → Q (.ref a) (upd (upd H1 a (excO a C d)) d (.xd (ns.zip ws)))) : EP X pins σ Q u s' := by
  obtain ⟨⟨hp, g1, d1, t1, os1⟩, hp2, a, d, rfl, I1, ha, k, un, hok, ho, hb, hd1, hda⟩ := h
  have ha : hp.objs.size ≤ a := ha
  have hn : H1 a = none := I1.hok.fresh ha
  have ea : (upd (upd H1 a (exo a C (some d))) d (exd d (ns.zip ws))) a = some (exo a C (some d)) := by rw [upd_ne (Ne.symm hda), upd_same]
  have ed : (upd (upd H1 a (exo a C (some d))) d (exd d (ns.zip ws))) d = some (exd d (ns.zip ws)) := upd_same
  obtain ⟨t0, hoe⟩ := exo_at hok ea
  obtain ⟨mA, hns, rel⟩ := exd_at hok ed
  have nha : ∀ {b : Addr} {o : Obj}, hp.get? b = some o → b ≠ a := fun {b o} z => Nat.ne_of_lt (Nat.lt_of_lt_of_le (Heap.lt_size z) ha)
  have up : ∀ {b : Addr}, b ≠ a → H1 b = none → upd H1 a (exo a C none) b = none := fun {b} hb n => by rw [upd_ne hb]; exact n
  have nd : ∀ {b : Addr} {o : Obj}, hp.get? b = some o → H1 b = none → b ≠ d := fun {b o} z n e => by
    have y := un.free b o (k b o z) (up (nha z) n) (by simp)
    rw [e, ed] at y
    cases y
  have U : Un (frs X.stack) [] H1 (upd (upd H1 a (excO a C d)) d (.xd (ns.zip ws))) hp s'.heap := {
    keep := fun b o z n hf hx => un.keep b o (k b o z) (up (nha z) n) hf hx
    slot := fun b o z n hf hx => un.slot b o (k b o z) (up (nha z) n) hf hx
    free := fun b o z n hx => by rw [upd_ne (nd z n), upd_ne (nha z)]; exact n
    there := fun b o z hx => un.there b o (k b o z) hx
    tups := fun b xs z => by rw [upd_ne (ne_of_none z hd1), upd_ne (ne_of_none z hn)]; exact z
    frzs := fun b o v z => by rw [upd_ne (ne_of_none z hd1), upd_ne (ne_of_none z hn)]; exact z
    tbls := fun b ps z => by
      obtain ⟨m, q⟩ := un.tbls b ps (by rw [upd_ne (ne_of_none z hn)]; exact z)
      rw [upd_ne (ne_of_none z hd1), upd_ne (ne_of_none z hn)] at q
      exact ⟨m, by rw [upd_ne (ne_of_none z hd1), upd_ne (ne_of_none z hn)]; exact q⟩ }
  have hok3 : HOk X.prog X.w (upd (upd H1 a (excO a C d)) d (.xd (ns.zip ws))) s'.heap := fun b o z => by
    by_cases hbd : b = d
    · subst hbd
      rw [upd_same] at z
      cases z
      exact ⟨mA, hns, rel⟩
    · rw [upd_ne hbd] at z
      by_cases hba : b = a
      · subst hba
        rw [upd_same] at z
        cases z
        exact excO_ok hoe
      · rw [upd_ne hba] at z
        have z2 : (upd (upd H1 a (exo a C (some d))) d (exd d (ns.zip ws))) b = some o := by rw [upd_ne hbd, upd_ne hba]; exact z
        refine (hok b o z2).stay (fun c v hc y => y) (fun c hc => ?_) fun c xs hc => ?_
        · have h1 : c ≠ d := at_ne ed hc exd_own
          have h2 : c ≠ a := at_ne ea hc exo_own
          rw [upd_ne h1, upd_ne h2] at hc ⊢
          exact hc
        · have h1 : c ≠ d := at_ne ed hc exd_tup
          have h2 : c ≠ a := at_ne ea hc exo_tup
          rw [upd_ne h1, upd_ne h2] at hc ⊢
          exact hc
  have J : Inv X pins σ (upd (upd H1 a (excO a C d)) d (.xd (ns.zip ws))) s' := I1.call' (ch := []) ho U hok3 hb (fun b z => absurd z (by simp))
  exact ⟨.ref a, _, J, rfl, q a d hn hd1 hda⟩
theorem made_mk {C : Addr} {ns : List Str} {ws : List V} {H1 : Hp} {u : Value} {s' : Shared} {Q : XK} (T : Raises X (.ref C)) (h : MadeE X pins σ C (fun _ _ _ => True) ns ws H1 u s')
    (q : ∀ d, H1 d = none → Q (.ref C) (some d) (upd H1 d (.xd (ns.zip ws)))) : MkP X pins σ Q u s' := by
  obtain ⟨⟨hp, g1, d1, t1, os1⟩, hp2, a, d, rfl, I1, ha, k, un, hok, ho, hb, hd1, hda⟩ := h
  have hn : H1 a = none := I1.hok.fresh ha
  have e : upd (del (upd (upd H1 a (exo a C (some d))) d (exd d (ns.zip ws))) a) d (.xd (ns.zip ws)) = upd H1 d (.xd (ns.zip ws)) := by
    funext b
    by_cases h1 : b = d
    · subst h1; rw [upd_same, upd_same]
    · rw [upd_ne h1, upd_ne h1]
      by_cases h2 : b = a
      · subst h2; rw [del_same, hn]
      · rw [del_ne h2, upd_ne h1, upd_ne h2]
  obtain ⟨h2, g2, d2, t2, os2⟩ := s'
  exact mk_end T I1 ha k un hok ho hb (by rw [upd_ne (Ne.symm hda), upd_same]) upd_same hd1 (by rw [e]; exact q d hd1)

/-! ### the rules -/
variable {T : Tb} {W : WX} {b : Nat}
/-- C(e, ..) as a value -/
def errV (C : Nat) (ns : List Str) : OpN := fun vs S => if vs.length = ns.length ∧ ns.length ≤ 1000 then .ok (.exc C ns vs.reverse) S else .bad
theorem tm_err {C : Nat} {ns : List Str} : TmN (errV C ns) := fun b vs S hb => by unfold errV; exact lenTm (TR.refl b S)
theorem errA {C : Nat} {ns : List Str} {m : MA} (ht : TmE b m) : TmE b (mCall (errV C ns) m) := ht.bind fun vs env S hb => tm_err b vs S hb
theorem ve_err {k : Nat} {x : Str} {C : Nat} {ns : List Str} {e : Expr} {es : List Expr} {ms : MA} {p pos : Pos} (R : ErrK X.prog X.w X.K X.mg X.base k x (T.cm C) ns) (hr : Room (k + 1) X.A) (ha : VA T X W b (e :: es) ms) (hg : Gl X x := by rfl)
    (hdb : (x == ("__debug__" : Str)) = false := by decide) (he : starEach (e :: es) X.env = (false, eval e X.env) :: starEach es X.env := by rfl) (hpl : (backTo pos (starEach es X.env)).any (·.1) = false := by rfl) :
    VE T X W b (.Call (.Name x p) (e :: es) [] pos) (mCall (errV C ns) ms) := by
  refine ⟨⟨fun pins s σ H Q I h => ?_⟩, errA ha.tm⟩
  obtain ⟨env, S, ρ, st, re, q⟩ := h
  refine wpAny_mono (mk_made R hr hg ha.pe hdb he hpl I (Q := fun us H1 => ∃ vs S1 ρ1, vs.length = ns.length ∧ RSt T X.K ρ1 H1 S1 ∧ RVs T X.K ρ1 H1 vs us ∧ RP RV T X.K W σ ρ1 H1 Q (.ok (.exc C ns vs.reverse) S1)) (tA_run st re ((RP.bind q).imp ?_))) (fun u s' hu => ?_) fun _ _ z => z
  · rintro us H1 ⟨vs, S1, ρ1, e1, st1, rvs, h1⟩
    unfold errV at h1
    dsimp only at h1
    split at h1
    · rename_i hc
      exact ⟨by rw [← rvs.length]; exact hc.1, hc.2, vs, S1, ρ1, hc.1, st1, rvs, h1⟩
    · exact h1.elim
  · obtain ⟨us, H1, ⟨vs, S1, ρ1, hl, st1, rvs, h1⟩, hm⟩ := hu
    refine made_val hm fun a d na nd hda => ?_
    have nd2 : upd H1 a (excO a (T.cm C) d) d = none := by rw [upd_ne hda]; exact nd
    have e1 : Ext ρ1 H1 ρ1 (upd H1 a (excO a (T.cm C) d)) := Ext.new1 na
    have e2 : Ext ρ1 (upd H1 a (excO a (T.cm C) d)) ρ1 (upd (upd H1 a (excO a (T.cm C) d)) d (.xd (ns.zip us.reverse))) := Ext.new1 nd2
    exact h1 _ _ _ (e1.trans e2) ((st1.new1 na).new1 nd2) (.exc (st1.out na) (st1.out nd) (by rw [upd_ne (Ne.symm hda), upd_same]) upd_same ((rvs.mono (e1.trans e2)).reverse))
/-- raise C(e, ..) -/
def mRaise (C : Nat) (ns : List Str) (ms : MA) : MS := fun env S => (ms env S).toS env fun vs S1 => if vs.length = ns.length ∧ ns.length ≤ 1000 then .rse C ns vs.reverse env S1 else .bad
theorem vs_raise {k : Nat} {x : Str} {C : Nat} {ns : List Str} {e : Expr} {es : List Expr} {ms : MA} {p pos pos' : Pos} (R : ErrK X.prog X.w X.K X.mg X.base k x (T.cm C) ns) (hr : Room (k + 1) X.A) (tk : Takes X W) (ha : VA T X W b (e :: es) ms) (hc : X.calm = true := by rfl) (hg : Gl X x := by rfl)
    (hdb : (x == ("__debug__" : Str)) = false := by decide) (he : starEach (e :: es) X.env = (false, eval e X.env) :: starEach es X.env := by rfl) (hpl : (backTo pos (starEach es X.env)).any (·.1) = false := by rfl) :
    VS T X W b (.Raise (some (.Call (.Name x p) (e :: es) [] pos)) none pos') (mRaise C ns ms) := by
  refine ⟨(ps_raise (t := fun σ H Q => tA T X W ms σ H fun us H1 => us.length = ns.length ∧ ns.length ≤ 1000 ∧ ∀ d, H1 d = none → Q (.ref (T.cm C)) (some d) (upd H1 d (.xd (ns.zip us.reverse)))) hc tk fun pins s σ H Q I h => ?_).impR ?_, fun env S hb => Tm.toS hb (ha.tm env S hb) fun v S1 _ => by split <;> first | exact TR.refl b S1 | trivial⟩
  · obtain ⟨fI, fd, ps, Y, _⟩ := R.ex
    refine wpAny_mono (mk_made R hr hg ha.pe hdb he hpl I (Q := fun us H1 => ∀ d, H1 d = none → Q (.ref (T.cm C)) (some d) (upd H1 d (.xd (ns.zip us.reverse)))) h) (fun u s' hu => ?_) fun _ _ z => z
    obtain ⟨us, H1, h1, hm⟩ := hu
    exact made_mk (raises_own Y.exC Y.tyC) hm h1
  · rintro D σ H ⟨env, S, ρ, st, re, q⟩
    refine tA_run st re ((RP.toS re q).imp ?_)
    rintro us H1 ⟨vs, S1, ρ1, e1, st1, rvs, h1⟩
    split at h1
    · rename_i hc
      refine ⟨by rw [← rvs.length]; exact hc.1, hc.2, fun d nd => ?_⟩
      have e2 : Ext ρ1 H1 ρ1 (upd H1 d (.xd (ns.zip us.reverse))) := Ext.new1 nd
      exact h1 _ _ _ _ e2 (st1.new1 nd) ((re.mono e1).mono e2) ⟨us.reverse, upd_same, st1.out nd, (rvs.mono e2).reverse⟩
    · exact h1.elim
end
end Ve

set_option Elab.async false
set_option linter.all false
set_option maxRecDepth 100000
set_option maxHeartbeats 2000000
/-! Ve: repr. -/
namespace Ve
open PySem PySem.Spec PyProof.Rows L2

/-! ### what a value is, all through the store -/
def shwL (f : AV → Option PyData) : List AV → Option (List PyData)
  | [] => some []
  | x :: xs => match f x with
    | some d => (shwL f xs).map (d :: ·)
    | none => none
def shw : Nat → Store → AV → Option PyData
  | 0, _, _ => none
  | k + 1, S, v => match v with
    | .non => some .none
    | .bl b => some (.bool b)
    | .int i => some (.int i)
    | .str x => some (.str x)
    | .tup xs => (shwL (shw k S) xs).map .tuple
    | .lst xs => (shwL (shw k S) xs).map .list
    | .scr ns => some (.list (ns.map .int))
    | .dc0 => some (.dict [])
    | .loc n => match S[n]? with
      | some (.lst xs) => (shwL (shw k S) xs).map .list
      | some (.dK []) => some (.dict [])
      | _ => none
    | _ => none
theorem shwL_cons {f : AV → Option PyData} {x : AV} {xs : List AV} {ds : List PyData} (h : shwL f (x :: xs) = some ds) : ∃ d r, ds = d :: r ∧ f x = some d ∧ shwL f xs = some r := by
  simp only [shwL] at h
  split at h
  · rename_i d hd
    obtain ⟨r, h1, h2⟩ := Option.map_eq_some_iff.mp h
    exact ⟨d, r, h2.symm, hd, h1⟩
  · cases h
theorem shw_depthL {k : Nat} {f : AV → Option PyData} (ih : ∀ v d, f v = some d → d.depth ≤ k) : ∀ {xs : List AV} {ds : List PyData}, shwL f xs = some ds → PyData.depthAll ds ≤ k
  | [], _, h => by cases h; simp [PyData.depthAll]
  | x :: xs, _, h => by
    obtain ⟨d, r, rfl, h1, h2⟩ := shwL_cons h
    simp only [PyData.depthAll]
    exact Nat.max_le.mpr ⟨ih _ _ h1, shw_depthL ih h2⟩
theorem depth_ints (ns : List Int) : PyData.depthAll (ns.map .int) = 0 := by
  induction ns with
  | nil => simp [PyData.depthAll]
  | cons n ns ih => simp [PyData.depthAll, PyData.depth, ih]
theorem shw_depth : ∀ (k : Nat) (S : Store) (v : AV) (d : PyData), shw k S v = some d → d.depth ≤ k
  | 0, _, _, _, h => by simp [shw] at h
  | k + 1, S, v, d, h => by
    have ih := shw_depth k S
    have hl : ∀ {xs : List AV}, (shwL (shw k S) xs).map PyData.list = some d → d.depth ≤ k + 1 := fun {xs} h => by
      obtain ⟨ds, h1, h2⟩ := Option.map_eq_some_iff.mp h
      subst h2
      have := shw_depthL ih h1
      simp only [PyData.depth]
      omega
    unfold shw at h
    split at h
    · cases h; simp [PyData.depth]
    · cases h; simp [PyData.depth]
    · cases h; simp [PyData.depth]
    · cases h; simp [PyData.depth]
    · obtain ⟨ds, h1, h2⟩ := Option.map_eq_some_iff.mp h
      subst h2
      have := shw_depthL ih h1
      simp only [PyData.depth]
      omega
    · exact hl h
    · cases h
      have := depth_ints ‹List Int›
      simp only [PyData.depth]
      omega
    · cases h; simp [PyData.depth, PyData.depthKv]
    · split at h
      · exact hl h
      · cases h; simp [PyData.depth, PyData.depthKv]
      · cases h
    · cases h

/-! ### .. in the heap -/
section
variable {prog : Program} {w : World} {h : Heap}
/-- the builtin's call -/
def RpC (prog : Program) (w : World) (h : Heap) (u : Value) (d : PyData) : Prop := ∀ (A : Around) (E : Value → Shared → Prop) (s : Shared) (Q : Value → Shared → Prop), (∀ b o, h.get? b = some o → s.heap.get? b = some o) → A.guards = some [] → A.units + (d.depth + 1) < cLine →
  (∀ h' t tk, (∀ b o, s.heap.get? b = some o → h'.get? b = some o) → Q (.str d.shown t) { s with heap := h', toks := tk }) → wpAny (model prog w) A (PySem.call (.builtin "repr") [u]) Q E s
/-- u reads as d, and its repr is known -/
structure Shw (prog : Program) (w : World) (h : Heap) (u : Value) (d : PyData) : Prop where
  rd : ∃ as, Reads h u d as
  sh : d.showable = true → d.shown.length ≤ sizeLine → ∃ bs, ReadAtMost h d.depth bs ∧ ReprK prog w bs h d.depth u d.shown
  cl : d.showable = true → d.shown.length ≤ sizeLine → RpC prog w h u d
structure ShwL (prog : Program) (w : World) (h : Heap) (us : List Value) (ds : List PyData) : Prop where
  rd : ∃ as, ReadsAll h us ds as
  sh : PyData.showableAll ds = true → (∀ t ∈ PyData.shownAll ds, t.length ≤ sizeLine) → ∃ bs, ReadAtMost h (PyData.depthAll ds) bs ∧ ReprAllK prog w bs h (PyData.depthAll ds) us (PyData.shownAll ds)
theorem Shw.flat {u : Value} {d : PyData} (r : Reads h u d []) (c : d.showable = true → d.shown.length ≤ sizeLine → RpC prog w h u d) : Shw prog w h u d :=
  ⟨⟨_, r⟩, fun h1 h2 => ReprK.of_reads r h1 (fun _ z => nomatch z) h2, c⟩
theorem Shw.non : Shw prog w h .none .none := .flat .none fun _ _ A E s Q _ _ _ q => PySem.P.repr_of_none (by simpa only [PyData.shown] using q s.heap _ _ fun _ _ z => z)
theorem Shw.bl (b : Bool) : Shw prog w h (.bool b) (.bool b) := .flat (.bool b) fun _ _ A E s Q _ _ _ q => PySem.P.repr_of_bool (by simpa only [PyData.shown] using q s.heap _ _ fun _ _ z => z)
theorem Shw.int (i : Int) (t : Tok) : Shw prog w h (.int i t) (.int i) := .flat (.int i t) fun hs _ A E s Q _ _ _ q => PySem.P.repr_of_int (by simpa [PyData.showable] using hs) (by simpa only [PyData.shown] using q s.heap _ _ fun _ _ z => z)
theorem Shw.str (x : Str) (t : Tok) : Shw prog w h (.str x t) (.str x) := .flat (.str x t) fun _ hz A E s Q _ _ _ q => PySem.P.repr_of_str (by simpa only [PyData.shown] using q s.heap _ _ fun _ _ z => z) (by simpa only [PyData.shown] using hz)
theorem ShwL.nil : ShwL prog w h [] [] := ⟨⟨_, .nil⟩, fun _ _ => ⟨[], fun _ z => (nomatch z), by simpa only [PyData.shownAll] using ReprAllK.nil⟩⟩
theorem ShwL.cons {u : Value} {d : PyData} {us : List Value} {ds : List PyData} (a : Shw prog w h u d) (r : ShwL prog w h us ds) : ShwL prog w h (u :: us) (d :: ds) := by
  refine ⟨?_, fun hs hz => ?_⟩
  · obtain ⟨x, hx⟩ := a.rd
    obtain ⟨y, hy⟩ := r.rd
    exact ⟨_, .cons hx hy⟩
  · simp only [PyData.showableAll, Bool.and_eq_true] at hs
    simp only [PyData.shownAll, List.mem_cons, forall_eq_or_imp] at hz
    obtain ⟨b1, p1, k1⟩ := a.sh hs.1 hz.1
    obtain ⟨b2, p2, k2⟩ := r.sh hs.2 hz.2
    have l1 : d.depth ≤ PyData.depthAll (d :: ds) := by simp only [PyData.depthAll]; exact Nat.le_max_left _ _
    have l2 : PyData.depthAll ds ≤ PyData.depthAll (d :: ds) := by simp only [PyData.depthAll]; exact Nat.le_max_right _ _
    refine ⟨b1 ++ b2, (p1.mono l1).append (p2.mono l2), ?_⟩
    rw [show PyData.shownAll (d :: ds) = d.shown :: PyData.shownAll ds by simp only [PyData.shownAll]]
    exact ReprAllK.cons (ReprK.level_le (k1.more fun _ z => List.mem_append_left b2 z) l1) (k2.more_le (fun _ z => List.mem_append_right b1 z) l2)
/-- a list, a tuple of such -/
theorem ShwL.parts {a : Addr} {us : List Value} {ds : List PyData} (r : ShwL prog w h us ds) (hs : PyData.showableAll ds = true) (hz : ∀ t ∈ PyData.shownAll ds, t.length ≤ sizeLine) {d : PyData} {as : List Addr} (rd : Reads h (.ref a) d as) (hd : d.depth = PyData.depthAll ds + 1) :
    ∃ bs, a ∉ bs ∧ ReadAtMost h d.depth (a :: bs) ∧ ReprAllK prog w bs h (PyData.depthAll ds) us (PyData.shownAll ds) := by
  obtain ⟨bs, p, k⟩ := r.sh hs hz
  exact ⟨bs, not_mem_of_deeper rd (by omega) p, ReadAtMost.cons rd (by omega) p, k⟩
theorem lstFit {ds : List PyData} (h : (PyData.list ds).shown.length ≤ sizeLine) : ∀ t ∈ PyData.shownAll ds, t.length ≤ sizeLine := fun t q => Nat.le_trans (listText_mem_le q) (by simpa only [PyData.shown] using h)
theorem tupFit {ds : List PyData} (h : (PyData.tuple ds).shown.length ≤ sizeLine) : ∀ t ∈ PyData.shownAll ds, t.length ≤ sizeLine := fun t q => Nat.le_trans (tupleText_mem_le q) (by simpa only [PyData.shown] using h)
theorem Shw.lst {a : Addr} {o : Obj} {us : List Value} {n : Nat} {ds : List PyData} (e : h.get? a = some o) (ec : o.cls = .type "list") (ed : o.data = .seq us.toArray n) (r : ShwL prog w h us ds) : Shw prog w h (.ref a) (.list ds) := by
  obtain ⟨as, q⟩ := r.rd
  have rd : Reads h (.ref a) (.list ds) (a :: as) := .list e ec ed (by simpa using q)
  refine ⟨⟨_, rd⟩, fun hs hz => ?_, fun hs hz A E s Q hk hg hu hQ => ?_⟩
  rotate_left
  · obtain ⟨bs, n1, p, k⟩ := r.parts (by simpa only [PyData.showable] using hs) (lstFit hz) rd (by simp only [PyData.depth])
    have ty : s.TypeIs (.ref a) "list" := ⟨o, hk _ _ e, ec⟩
    simp only [PyData.depth] at hu
    simp only [PyData.shown] at hQ hz
    refine call_repr_slot (by omega) ty F.slot_list_repr.toG ?_
    cases us with
    | nil =>
      have k0 := k.length_eq
      have e0 : PyData.shownAll ds = [] := List.length_eq_zero_iff.mp k0
      rw [e0, listText_nil] at hQ
      exact call_list_repr_empty ty (hk _ _ e) ed ⟨_, _, rfl, hQ s.heap _ _ fun _ _ z => z⟩
    | cons u us => exact call_list_reprK e ec ed n1 (by simpa using k.length_eq) (fun i y z => k.item i y (by simpa using z)) hg (fun b _ => Clear.nil b) (by show A.units + 1 + (PyData.depthAll ds + 1) < cLine; omega) hk (fun h' t tk q => ⟨_, _, rfl, hQ h' t tk q⟩) hz
  obtain ⟨bs, n1, p, k⟩ := r.parts (by simpa only [PyData.showable] using hs) (lstFit hz) rd (by simp only [PyData.depth])
  refine ⟨a :: bs, p, ?_⟩
  simp only [PyData.depth, PyData.shown]
  cases us with
  | nil =>
    have k0 := k.length_eq
    have e0 : PyData.shownAll ds = [] := List.length_eq_zero_iff.mp k0
    rw [e0, listText_nil]
    exact ReprK.listEmpty e ec ed
  | cons u us => exact ReprK.list e ec ed n1 (by simpa using k.length_eq) fun i y z => k.item i y (by simpa using z)
theorem Shw.tup {a : Addr} {o : Obj} {us : List Value} {n : Nat} {ds : List PyData} (e : h.get? a = some o) (ec : o.cls = .type "tuple") (ed : o.data = .seq us.toArray n) (r : ShwL prog w h us ds) : Shw prog w h (.ref a) (.tuple ds) := by
  obtain ⟨as, q⟩ := r.rd
  have rd : Reads h (.ref a) (.tuple ds) as := .tuple e ec ed (by simpa using q)
  refine ⟨⟨_, rd⟩, fun hs hz => ?_, fun hs hz A E s Q hk hg hu hQ => ?_⟩
  rotate_left
  · obtain ⟨bs, n1, p, k⟩ := r.parts (by simpa only [PyData.showable] using hs) (tupFit hz) rd (by simp only [PyData.depth])
    have ty : s.TypeIs (.ref a) "tuple" := ⟨o, hk _ _ e, ec⟩
    simp only [PyData.depth] at hu
    simp only [PyData.shown] at hQ hz
    refine call_repr_slot (by omega) ty F.slot_tuple_repr ?_
    exact call_tuple_reprK e ec ed n1 (by simpa using k) hg (fun b _ => Clear.nil b) (by show A.units + 1 + (PyData.depthAll ds + 1) < cLine; omega) hk (fun h' t tk q => ⟨_, _, rfl, hQ h' t tk q⟩) hz
  obtain ⟨bs, n1, p, k⟩ := r.parts (by simpa only [PyData.showable] using hs) (tupFit hz) rd (by simp only [PyData.depth])
  refine ⟨a :: bs, p, ?_⟩
  simp only [PyData.depth, PyData.shown]
  exact ReprK.tuple e ec ed n1 (by simpa using k)
theorem Shw.dc {a : Addr} {o : Obj} {n : Nat} {es : Array DictEntry} (e : h.get? a = some o) (ec : o.cls = .type "dict") (ed : o.data = .dict es n) (e0 : es.toList = []) (hn : (a == sysModules) = false) : Shw prog w h (.ref a) (.dict []) := by
  have rd : Reads h (.ref a) (.dict []) (a :: [] ++ []) := .dict e ec ed (by rw [e0]; exact .nil) (by rw [e0]; exact .nil)
  refine ⟨⟨_, rd⟩, fun hs hz => ⟨[a], ReadAtMost.cons rd (Nat.zero_le _) fun _ z => (nomatch z), ?_⟩, fun hs hz A E s Q hk hg hu hQ => ?_⟩
  rotate_left
  · have ty : s.TypeIs (.ref a) "dict" := ⟨o, hk _ _ e, ec⟩
    simp only [PyData.depth, PyData.depthKv] at hu
    simp only [PyData.shown, PyData.shownKv] at hQ hz
    refine call_repr_slot (by omega) ty F.slot_dict_repr ?_
    exact call_dict_reprK (as := []) (d := 0) e ec ed hn (fun z => nomatch z) (by rw [e0]; exact .nil) hg (fun b _ => Clear.nil b) (by show A.units + 1 + (0 + 1) < cLine; omega) hk (fun h' t tk q => ⟨_, _, rfl, hQ h' t tk q⟩) hz
  simp only [PyData.depth, PyData.shown, PyData.depthKv, PyData.shownKv]
  exact ReprK.dict e ec ed hn (fun z => nomatch z) (by rw [e0]; exact .nil)
end
section
variable {T : Tb} {X : Cx} {W : WX} {b : Nat} {pins : List (Addr × Obj)} {σ : Sl} {ρ : List Addr} {H : Hp} {s : Shared} {S : Store}
theorem shw_ints (ns : List Int) : ∀ {us : List Value}, Vals (ns.map V.int) us → ShwL X.prog X.w s.heap us (ns.map .int) := by
  induction ns with
  | nil => intro us r; cases r; exact .nil
  | cons n ns ih =>
    intro us r
    cases r with
    | cons r1 r2 =>
      obtain ⟨t, rfl⟩ := r1
      exact .cons (.int n t) (ih r2)
theorem shw_rvs (I : Inv X pins σ H s) {k : Nat} (ih : ∀ (v : AV) (x : V) (u : Value) (d : PyData), RV T X.K ρ H v x → RelV x u → shw k S v = some d → Shw X.prog X.w s.heap u d) :
    ∀ {vs : List AV} {xs : List V} {us : List Value} {ds : List PyData}, RVs T X.K ρ H vs xs → Vals xs us → shwL (shw k S) vs = some ds → ShwL X.prog X.w s.heap us ds
  | _, _, _, _, .nil, r, h => by
    cases r
    cases h
    exact .nil
  | _, _, _, _, .cons r1 r2, r, h => by
    cases r with
    | cons q1 q2 =>
      obtain ⟨d, ds, rfl, h1, h2⟩ := shwL_cons h
      exact .cons (ih _ _ _ _ r1 q1 h1) (shw_rvs I ih r2 q2 h2)
theorem shw_sq (I : Inv X pins σ H s) {k : Nat} (ih : ∀ (v : AV) (x : V) (u : Value) (d : PyData), RV T X.K ρ H v x → RelV x u → shw k S v = some d → Shw X.prog X.w s.heap u d) {a : Addr} {vs : List AV} {xs : List V} {d : PyData}
    (hs : SqL X.K H a xs) (r : RVs T X.K ρ H vs xs) (h : (shwL (shw k S) vs).map PyData.list = some d) : Shw X.prog X.w s.heap (.ref a) d := by
  obtain ⟨ds, h1, rfl⟩ := Option.map_eq_some_iff.mp h
  obtain ⟨its, rv, ⟨o, n, ho, hc, _, hd⟩, _⟩ := I.list hs
  exact .lst ho hc hd (shw_rvs I ih r rv h1)
theorem shw_rv (I : Inv X pins σ H s) (st : RSt T X.K ρ H S) : ∀ (k : Nat) (v : AV) (x : V) (u : Value) (d : PyData), RV T X.K ρ H v x → RelV x u → shw k S v = some d → Shw X.prog X.w s.heap u d
  | 0, _, _, _, _, _, _, h => by simp [shw] at h
  | k + 1, v, x, u, d, r, q, h => by
    have ih := shw_rv I st k
    have dict0 : ∀ {a : Addr}, H a = some (.dK []) → Shw X.prog X.w s.heap (.ref a) (.dict []) := fun {a} e => by
      obtain ⟨_, hn, vs, rk, dd⟩ := dk_of I.hok e
      cases rk
      obtain ⟨o, es, ep, e1, e2, e3, _, pr, _⟩ := dd
      refine .dc e1 e2.1 e3 ?_ hn
      cases h' : es.toList with
      | nil => rfl
      | cons x l => rw [h'] at pr; cases pr
    unfold shw at h
    cases r with
    | non => cases h; cases q; exact .non
    | bl b => cases h; cases q; exact .bl b
    | int i => cases h; obtain ⟨t, rfl⟩ := q; exact .int i t
    | str y => cases h; obtain ⟨t, rfl⟩ := q; exact .str y t
    | tup ha ra =>
      obtain ⟨ds, h1, rfl⟩ := Option.map_eq_some_iff.mp h
      cases q
      obtain ⟨its, rv, ⟨o, ho, hc, n, hd⟩, _⟩ := I.tuple ha
      exact .tup ho hc hd (shw_rvs I ih ra rv h1)
    | lst hn ha ra => cases q; exact shw_sq I ih (.inl (.inl ha)) ra h
    | scr hs =>
      cases h
      cases q
      obtain ⟨its, rv, ⟨o, n, ho, hc, _, hd⟩, _⟩ := I.list hs.rd.sq
      exact .lst ho hc hd (shw_ints _ rv)
    | dc0 hn ha => cases h; cases q; exact dict0 ha
    | @loc n a hn =>
      cases q
      dsimp only at h
      split at h
      · rename_i xs hx
        obtain ⟨a', e, vs, hv, rs⟩ := st.ob _ _ hx
        rw [hn] at e; cases e
        exact shw_sq I ih (.inl (.inl hv)) rs h
      · rename_i hx
        obtain ⟨a', e, vs, hv, rs⟩ := st.ob _ _ hx
        rw [hn] at e; cases e
        cases rs
        cases h
        exact dict0 hv
      · cases h
    | _ => cases h
/-- repr(v) -/
def reprV : OpN := fun vs S => match vs with
  | [v] => match shw 24 S v with
    | some d => if d.showable = true ∧ d.shown.length ≤ sizeLine then .ok (.str d.shown) S else .bad
    | none => .bad
  | _ => .bad
theorem tm_repr : TmN reprV := fun b vs S hb => by
  unfold reprV
  split
  · split
    · exact lenTm (TR.refl b S)
    · trivial
  · trivial
def rRepr (T : Tb) (X : Cx) : List V → Hp → VK → Prop := fun xs H Q => ∃ (ρ : List Addr) (S : Store) (v : AV) (x : V) (d : PyData), xs = [x] ∧ RSt T X.K ρ H S ∧ RV T X.K ρ H v x ∧ shw 24 S v = some d ∧ d.showable = true ∧ d.shown.length ≤ sizeLine ∧ Q (.str d.shown) H
theorem call_repr (hg : X.A.guards = some []) (hu : X.A.units + 30 < cLine) : CallR X (.builtin "repr") (rRepr T X) := by
  intro pins s σ H xs us Q I r h
  obtain ⟨ρ, S, v, x, d, rfl, st, rv, hd, hs, hz, q⟩ := h
  obtain ⟨u, rfl, ru⟩ := vals1 r
  have hdep := shw_depth _ _ _ _ hd
  exact (shw_rv I st _ _ _ _ _ rv ru hd).cl hs hz X.A X.xe s _ (fun _ _ z => z) hg (by omega) fun h' t tk k => ⟨.str d.shown, H, I.kept (t' := tk) k, ⟨t, rfl⟩, q⟩
theorem repr_v : CalV T X reprV (rRepr T X) := by
  intro W σ ρ H S vs xs Q st rvs h
  unfold reprV at h
  split at h
  · split at h
    · rename_i d hd
      split at h
      · rename_i hc
        cases rvs with
        | cons r1 r2 =>
          cases r2
          exact ⟨ρ, S, _, _, d, rfl, st, r1, hd, hc.1, hc.2, RP.okN h st (.str _)⟩
      · exact h.elim
    · exact h.elim
  · exact h.elim
end
end Ve

set_option Elab.async false
set_option linter.all false
set_option maxRecDepth 100000
set_option maxHeartbeats 2000000
/-! Ve: dicts, lists' methods, len, isinstance, attributes of errors. -/
namespace Ve
open PySem PySem.Spec PyProof.Rows L2
section
variable {T : Tb} {X : Cx} {W : WX} {b : Nat}

/-! ### len -/
def lenV : OpN := fun vs S => match vs with
  | [.str x] => if x.length ≤ sizeLine then .ok (.int x.length) S else .bad
  | [v] => match asSq S v with
    | some xs => .ok (.int xs.length) S
    | none => .bad
  | _ => .bad
theorem tm_len : TmN lenV := fun b vs S hb => by
  unfold lenV
  split
  · exact lenTm (TR.refl b S)
  · split
    · exact TR.refl b S
    · trivial
  · trivial
theorem len_v : CalV T X lenV (fun xs H Q => ∃ x n, xs = [x] ∧ LenV X.K x H n ∧ Q (.int n) H) := by
  intro W σ ρ H S vs xs Q st rvs h
  unfold lenV at h
  split at h
  · split at h
    · rename_i hz
      cases rvs with
      | cons r1 r2 =>
        cases r2; cases r1
        exact ⟨_, _, rfl, ⟨hz, rfl⟩, RP.okN h st (.int _)⟩
    · exact h.elim
  · split at h
    · rename_i hx
      cases rvs with
      | cons r1 r2 =>
        cases r2
        obtain ⟨a, us, rfl, ha, ra⟩ := asSq_rd st r1 hx
        refine ⟨_, _, rfl, ?_, RP.okN h st (.int _)⟩
        exact ha.imp (fun q => ⟨us, q, ra.length⟩) fun q => ⟨us, q, ra.length⟩
    · exact h.elim
  · exact h.elim

/-! ### dicts with keys ints and texts -/
def keyA : AV → Option Key
  | .int i => some (.inl i)
  | .str x => some (.inr x)
  | _ => none
section
variable {κ : Type} [DecidableEq κ]
def valA (kvs : List (κ × AV)) (k : κ) : Option AV := (kvs.find? fun kv => decide (kv.1 = k)).map (·.2)
def putA (kvs : List (κ × AV)) (k : κ) (v : AV) : List (κ × AV) :=
  if (kvs.any fun kv => decide (kv.1 = k)) = true then kvs.map (fun kv => if kv.1 = k then (kv.1, v) else kv) else kvs ++ [(k, v)]
variable {K : PySem.W.Frag} {ρ : List Addr} {H : Hp}
theorem val_rkv {kvs : List (κ × AV)} {ws : List (κ × V)} (r : RKV T K ρ H kvs ws) (k : κ) {y : AV} (h : valA kvs k = some y) : ∃ u, valV ws k = some u ∧ RV T K ρ H y u := by
  induction r with
  | nil => simp [valA] at h
  | @cons p q ps qs hp _ ih =>
    obtain ⟨h1, h2⟩ := hp
    by_cases e : p.1 = k
    · have e' : q.1 = k := by rw [← h1]; exact e
      have : p.2 = y := by simpa [valA, List.find?_cons, e] using h
      exact ⟨q.2, valV_pos e', this ▸ h2⟩
    · have e' : ¬ q.1 = k := by rw [← h1]; exact e
      have : valA ps k = some y := by simpa [valA, List.find?_cons, e] using h
      obtain ⟨u, a, c⟩ := ih this
      exact ⟨u, by rw [valV_neg e']; exact a, c⟩
theorem any_rkv {kvs : List (κ × AV)} {ws : List (κ × V)} (r : RKV T K ρ H kvs ws) (k : κ) : (kvs.any fun kv => decide (kv.1 = k)) = ws.any fun kv => decide (kv.1 = k) := by
  induction r with
  | nil => rfl
  | cons hp _ ih => rw [List.any_cons, List.any_cons, hp.1, ih]
theorem map_rkv {kvs : List (κ × AV)} {ws : List (κ × V)} (r : RKV T K ρ H kvs ws) (k : κ) {y : AV} {u : V} (ry : RV T K ρ H y u) : RKV T K ρ H (kvs.map fun kv => if kv.1 = k then (kv.1, y) else kv) (ws.map fun kv => if kv.1 = k then (kv.1, u) else kv) := by
  induction r with
  | nil => exact .nil
  | @cons p q ps qs hp _ ih =>
    refine .cons ?_ ih
    dsimp only
    by_cases hk : p.1 = k
    · rw [if_pos hk, if_pos (by rw [← hp.1]; exact hk)]
      exact ⟨hp.1, ry⟩
    · rw [if_neg hk, if_neg (by rw [← hp.1]; exact hk)]
      exact hp
theorem app_rkv {kvs ks2 : List (κ × AV)} {ws ws2 : List (κ × V)} (r : RKV T K ρ H kvs ws) (r2 : RKV T K ρ H ks2 ws2) : RKV T K ρ H (kvs ++ ks2) (ws ++ ws2) := by
  induction r with
  | nil => exact r2
  | cons hp _ ih => exact .cons hp ih
theorem put_rkv {kvs : List (κ × AV)} {ws : List (κ × V)} (r : RKV T K ρ H kvs ws) (k : κ) {y : AV} {u : V} (ry : RV T K ρ H y u) : RKV T K ρ H (putA kvs k y) (putK ws k u) := by
  have e := any_rkv r k
  unfold putA putK
  rw [← e]
  split
  · exact map_rkv r k ry
  · exact app_rkv r (.cons ⟨rfl, ry⟩ .nil)
theorem rkv_length {kvs : List (κ × AV)} {ws : List (κ × V)} (r : RKV T K ρ H kvs ws) : kvs.length = ws.length := Paired.length r
theorem clL_put {c : Nat} {k : κ} {v : AV} (hv : v.cl c = true) {kvs : List (κ × AV)} (h : clL c (kvs.map (·.2)) = true) : clL c ((putA kvs k v).map (·.2)) = true := by
  rw [clL_iff] at h ⊢
  intro x hx
  obtain ⟨p, hp, rfl⟩ := List.mem_map.mp hx
  unfold putA at hp
  split at hp
  · obtain ⟨q, hq, e⟩ := List.mem_map.mp hp
    split at e
    · rw [← e]; exact hv
    · rw [← e]; exact h _ (List.mem_map_of_mem hq)
  · rcases List.mem_append.mp hp with z | z
    · exact h _ (List.mem_map_of_mem z)
    · rw [List.mem_singleton] at z
      rw [z]; exact hv
end
theorem key_rv {K : PySem.W.Frag} {ρ : List Addr} {H : Hp} {v : AV} {x : V} {k : Key} (r : RV T K ρ H v x) (h : keyA v = some k) : x = kV k := by
  cases r with
  | int i => cases h; rfl
  | str y => cases h; rfl
  | _ => cases h
def dgV : Op2 := fun v w S => match v with
  | .loc n => match S[n]? with
    | some (.dK kvs) => match keyA w with
      | some k => match valA kvs k with
        | some y => .ok y S
        | none => .bad
      | none => .bad
    | _ => .bad
  | _ => .bad
theorem tm_dg : TmO dgV := fun b v w S hb => by
  unfold dgV
  split
  · split
    · split
      · split
        · exact TR.refl b S
        · trivial
      · trivial
    · trivial
  · trivial
theorem ve_dget {o i : Expr} {mo mi : ME} {pos : Pos} (hu : X.A.units + 1 < cLine) (ho : VE T X W b o mo) (hi : VE T X W b i mi) (hs : NoSl i := by intro _ _; rfl) : VE T X W b (.Subscript o i pos) (mBin dgV mo mi) := by
  refine ⟨(pe_dget hu ho.pe hi.pe hs).impR fun σ H Q q => ?_, mBin_tm tm_dg ho.tm hi.tm⟩
  obtain ⟨env, S, ρ, st, re, q⟩ := q
  refine tV_run st re ((RP.bind q).imp ?_)
  rintro x H1 ⟨v, S1, ρ1, e1, st1, rv, h1⟩
  refine tV_run st1 (re.mono e1) ((RP.bind h1).imp ?_)
  rintro y H2 ⟨w, S2, ρ2, e2, st2, rw', h2⟩
  have rv := rv.mono e2
  unfold dgV at h2
  dsimp only at h2
  split at h2
  · split at h2
    · rename_i kvs hx
      split at h2
      · rename_i k hk
        split at h2
        · rename_i z hz
          cases rv with
          | @loc n a hn =>
            obtain ⟨a', e, ws, hv, rs⟩ := st2.ob _ _ hx
            rw [hn] at e; cases e
            obtain ⟨u, hu1, hu2⟩ := val_rkv rs k hz
            refine ⟨a, u, rfl, ?_, RP.okN h2 st2 hu2⟩
            have := DGet.k (k := k) hv
            rw [hu1, ← key_rv rw' hk] at this
            exact this
        · exact h2.elim
      · exact h2.elim
    · exact h2.elim
  · exact h2.elim
/-- o[k] = v -/
def dputS (b : Nat) (o k v : AV) (S : Store) : Option Store := match o with
  | .loc n => match S[n]? with
    | some (.dK kvs) => match keyA k with
      | some j => if kvs.length < sizeLine ∧ (b ≤ n ∨ v.cl 0 = true) then some (S.set n (.dK (putA kvs j v))) else none
      | none => none
    | _ => none
  | _ => none
def mDPut (b : Nat) (mo mi mv : ME) : MS := fun env S => (mv env S).toS env fun v S1 => (mo env S1).toS env fun o S2 => (mi env S2).toS env fun k S3 => match dputS b o k v S3 with
  | some S4 => .nx env S4
  | none => .bad
theorem dput_tr {o k v : AV} {S S' : Store} (h : dputS b o k v S = some S') : TR b S S' := by
  unfold dputS at h
  split at h
  · split at h
    · rename_i hx
      split at h
      · split at h
        · rename_i hc
          cases h
          refine TR.set hx fun hb c q => ?_
          rcases hc.2 with hc | hc
          · omega
          · exact clL_put (AV.cl_mono (Nat.zero_le c) v hc) q
        · cases h
      · cases h
    · cases h
  · cases h
theorem vs_dput {o i e : Expr} {mo mi mv : ME} {pos pos' : Pos} (hu : X.A.units + 1 < cLine) (ho : VE T X W b o mo) (hi : VE T X W b i mi) (hv : VE T X W b e mv) (hs : swapsWith e (some (.Subscript o i pos')) pos.line X.env = pure false := by rfl) :
    VS T X W b (.Assign [.Subscript o i pos'] e pos) (mDPut b mo mi mv) := by
  refine ⟨(ps_dput hu ho.pe hi.pe hv.pe hs).impR ?_, fun env S hb => Tm.toS hb (hv.tm env S hb) fun v S1 h1 => Tm.toS h1 (ho.tm env S1 h1) fun o' S2 h2 => Tm.toS h2 (hi.tm env S2 h2) fun k S3 h3 => ?_⟩
  · rintro D σ H ⟨env, S, ρ, st, re, q⟩
    refine tV_run st re ((RP.toS re q).imp ?_)
    rintro u H1 ⟨v, S1, ρ1, e1, st1, rv, h1⟩
    have re1 := re.mono e1
    refine tV_run st1 re1 ((RP.toS re1 h1).imp ?_)
    rintro x H2 ⟨o', S2, ρ2, e2, st2, ro, h2⟩
    have re2 := re1.mono e2
    refine tV_run st2 re2 ((RP.toS re2 h2).imp ?_)
    rintro y H3 ⟨k, S3, ρ3, e3, st3, rk, h3⟩
    have re3 := re2.mono e3
    have rv := (rv.mono e2).mono e3
    have ro := ro.mono e3
    split at h3
    · rename_i S4 hS
      unfold dputS at hS
      split at hS
      · split at hS
        · rename_i kvs hx
          split at hS
          · rename_i j hj
            split at hS
            · rename_i hc
              cases hS
              cases ro with
              | @loc n a hn =>
                obtain ⟨a', e, ws, hv', rs⟩ := st3.ob _ _ hx
                rw [hn] at e; cases e
                have hE : Ext ρ3 H3 ρ3 (upd H3 a (.dK (putK ws j u))) := Ext.wr hv' True.intro (List.mem_of_getElem? hn)
                refine ⟨a, upd H3 a (.dK (putK ws j u)), rfl, ?_, h3 _ _ _ hE (st3.wr hn hv' True.intro ⟨_, upd_same, put_rkv (rs.mono hE) j (rv.mono hE)⟩) (re3.mono hE)⟩
                rw [key_rv rk hj]
                exact DPut.k hv' (by rw [← rkv_length rs]; exact hc.1)
            · cases hS
          · cases hS
        · cases hS
      · cases hS
    · exact h3.elim
  · split
    · rename_i S4 hS
      exact dput_tr hS
    · trivial
/-- {k: v, ..} with written keys, in the store -/
structure VP (T : Tb) (X : Cx) (W : WX) (b : Nat) (pos : Pos) (keys : List (Option Expr)) (values : List Expr) (ks : List Key) (ms : MA) : Prop where
  ex : ∃ trs, PPs X pos keys values trs ∧ ∀ σ H Q, (tA T X W ms σ H fun us H' => Q ((ks.map kV).zip us) H') → tPairs trs σ H Q
  tm : TmE b ms
theorem vp_nil {pos : Pos} : VP T X W b pos [] [] [] mNil := ⟨⟨[], pps_nil, fun σ H Q h => by
  obtain ⟨env, S, ρ, st, re, h⟩ := h
  exact RP.okN (R := RVs) h st .nil⟩, TmE.pure _⟩
theorem vp_str {x : Str} {j : Nat} {p1 pos : Pos} {e : Expr} {ks : List (Option Expr)} {es : List Expr} {m : ME} {kl : List Key} {ms : MA} (h : VE T X W b e m) (r : VP T X W b pos ks es kl ms) :
    VP T X W b pos (some (.Constant (.str x) j p1) :: ks) (e :: es) (.inr x :: kl) (mCons m ms) := by
  obtain ⟨trs, hp, ht⟩ := r.ex
  refine ⟨⟨_, pps_cons pe_str h.pe hp, fun σ H Q q => ?_⟩, h.tm.bind fun v => r.tm.bind fun vs => TmE.pure _⟩
  obtain ⟨env, S, ρ, st, re, q⟩ := q
  refine tV_run st re ((RP.bind q).imp ?_)
  rintro u H1 ⟨v, S1, ρ1, e1, st1, rv, h1⟩
  refine ht _ _ _ (tA_run st1 (re.mono e1) ((RP.bind h1).imp ?_))
  rintro us H2 ⟨vs, S2, ρ2, e2, st2, rvs, h2⟩
  exact RP.okN (R := RVs) h2 st2 (.cons (rv.mono e2) rvs)
def mergeA (kvs more : List (Key × AV)) : List (Key × AV) := more.foldl (fun acc kv => putA acc kv.1 kv.2) kvs
def mDisp (ks : List Key) (ms : MA) : ME := fun env S => (ms env (S ++ [.dK []])).bind fun vs S1 => match S1[S.length]? with
  | some (.dK []) => if vs.length = ks.length ∧ ks.length ≤ 15 then .ok (.loc S.length) (S1.set S.length (.dK (mergeA [] (ks.zip vs)))) else .bad
  | _ => .bad
theorem merge_rkv {K : PySem.W.Frag} {ρ : List Addr} {H : Hp} : ∀ {more : List (Key × AV)} {ws : List (Key × V)} {kvs : List (Key × AV)} {us : List (Key × V)}, RKV T K ρ H more ws → RKV T K ρ H kvs us → RKV T K ρ H (mergeA kvs more) (mergeK us ws)
  | [], _, _, _, r, q => by cases r; exact q
  | p :: more, _, kvs, us, .cons (b := w) hp r, q => by
    have := put_rkv q p.1 hp.2
    rw [show putK us p.1 w.2 = putK us w.1 w.2 by rw [hp.1]] at this
    show RKV T K ρ H (mergeA (putA kvs p.1 p.2) more) (mergeK (putK us w.1 w.2) _)
    exact merge_rkv r this
theorem zip_rkv {K : PySem.W.Frag} {ρ : List Addr} {H : Hp} : ∀ (ks : List Key) {vs : List AV} {us : List V}, RVs T K ρ H vs us → RKV T K ρ H (ks.zip vs) (ks.zip us)
  | [], _, _, _ => .nil
  | _ :: _, _, _, .nil => .nil
  | k :: ks, _, _, .cons r rs => .cons ⟨rfl, r⟩ (zip_rkv ks rs)
theorem zip_kV : ∀ (ks : List Key) (us : List V), (ks.map kV).zip us = (ks.zip us).map fun kv => (kV kv.1, kv.2)
  | [], us => by simp
  | k :: ks, [] => by simp
  | k :: ks, u :: us => by simp [zip_kV ks us]
theorem ve_disp {pos : Pos} {keys : List (Option Expr)} {values : List Expr} {ks : List Key} {ms : MA} (h : VP T X W b pos keys values ks ms) (hall : keys.all (·.isSome) = true := by rfl) (hl : keys.length = values.length := by rfl) (h0 : keys ≠ [] := by intro z; cases z)
    (h15 : keys.length ≤ 15 := by decide) : VE T X W b (.Dict keys values pos) (mDisp ks ms) := by
  obtain ⟨trs, hp, ht⟩ := h.ex
  refine ⟨(pe_disp hp hall hl h0 h15).impR fun σ H Q q p hn => ?_, fun env S hb => ?_⟩
  · obtain ⟨env, S, ρ, st, re, q⟩ := q
    have e0 : Ext ρ H (ρ ++ [p]) (upd H p (.dK [])) := Ext.newL hn
    have st0 : RSt T X.K (ρ ++ [p]) (upd H p (.dK [])) (S ++ [.dK []]) := st.newL hn ⟨[], upd_same, .nil⟩
    have q0 : RP RV T X.K W σ (ρ ++ [p]) (upd H p (.dK [])) Q ((ms env (S ++ [.dK []])).bind fun vs S1 => match S1[S.length]? with
      | some (.dK []) => if vs.length = ks.length ∧ ks.length ≤ 15 then .ok (.loc S.length) (S1.set S.length (.dK (mergeA [] (ks.zip vs)))) else .bad
      | _ => .bad) := RP.mono e0 q
    refine ht _ _ _ (tA_run st0 (re.mono e0) ((RP.bind q0).imp ?_))
    rintro us H1 ⟨vs, S1, ρ1, e1, st1, rvs, h1⟩
    split at h1
    · rename_i hx
      split at h1
      · rename_i hc
        obtain ⟨a, ea, ws, hv, rs⟩ := st1.ob _ _ hx
        cases rs
        have ep : ρ1[S.length]? = some p := e1.get (by rw [← st.len]; simp)
        rw [ep] at ea; cases ea
        refine ⟨hv, ks.zip us, zip_kV ks us, ?_, ?_⟩
        · rw [List.length_zip]; omega
        · have hE : Ext ρ1 H1 ρ1 (upd H1 p (.dK (mergeK [] (ks.zip us)))) := Ext.wr hv True.intro (List.mem_of_getElem? ep)
          exact h1 _ _ _ hE (st1.wr ep hv True.intro ⟨_, upd_same, merge_rkv ((zip_rkv ks rvs).mono hE) .nil⟩) (.loc ep)
      · exact h1.elim
    · exact h1.elim
  · show Tm b S ((ms env (S ++ [.dK []])).bind _)
    have t0 : TR b S (S ++ [.dK []]) := TR.app b S _
    have t1 := h.tm env (S ++ [.dK []]) (by simp; omega)
    cases e : ms env (S ++ [.dK []]) with
    | ok vs S1 =>
      rw [e] at t1
      simp only [Res.bind]
      split
      · rename_i hx
        split
        · exact (t0.trans t1).trans (TR.set hx fun z => absurd z (by omega))
        · trivial
      · trivial
    | rse C ns fs S1 => rw [e] at t1; exact t0.trans t1
    | bad => trivial
/-- {} that nobody changes; {} in the store -/
theorem ve_dc0 {pos : Pos} : VE T X W b (.Dict [] [] pos) (mC .dc0) := ⟨pe_dnewK.impR fun σ H Q q p hn => by
  obtain ⟨env, S, ρ, st, re, q⟩ := q
  exact q _ _ _ (Ext.new1 hn) (st.new1 hn) (.dc0 (st.out hn) upd_same), TmE.pure _⟩
def mDNew : ME := fun _ S => .ok (.loc S.length) (S ++ [.dK []])
theorem ve_dnew {pos : Pos} : VE T X W b (.Dict [] [] pos) mDNew := ⟨pe_dnewK.impR fun σ H Q q p hn => by
  obtain ⟨env, S, ρ, st, re, q⟩ := q
  exact q _ _ _ (Ext.newL hn) (st.newL hn ⟨[], upd_same, .nil⟩) (.loc (by rw [← st.len]; simp)), fun env S hb => TR.app b S _⟩
end
end Ve

set_option Elab.async false
set_option linter.all false
set_option maxRecDepth 100000
set_option maxHeartbeats 2000000
/-! Ve: lists' methods, isinstance, attributes of errors, unpacking of lists. -/
namespace Ve
open PySem PySem.Spec PyProof.Rows L2
section
variable {T : Tb} {X : Cx} {W : WX} {b : Nat}

/-! ### methods of lists -/
abbrev OpM := AV → List AV → Store → Res AV
def MetV (T : Tb) (X : Cx) (f : OpM) (r : V → List V → Hp → VK → Prop) : Prop := ∀ (W : WX) (σ : Sl) (ρ : List Addr) (H : Hp) (S : Store) (v : AV) (x : V) (vs : List AV) (xs : List V) (Q : VK), RSt T X.K ρ H S → RV T X.K ρ H v x → RVs T X.K ρ H vs xs → RP RV T X.K W σ ρ H Q (f v vs S) → r x xs H Q
def TmM (b : Nat) (f : OpM) : Prop := ∀ v vs S, b ≤ S.length → Tm b S (f v vs S)
/-- the object is a list, else nothing is told -/
def lstOnly (v : AV) (S : Store) : Res AV := match asL S v with
  | some _ => .ok v S
  | none => .bad
def mMeth (f : OpM) (m : ME) (ms : MA) : ME := bindM (bindM m fun v _ S => lstOnly v S) fun v => bindM ms fun vs => fun _ S => f v vs S
theorem lstOnly_tm {v : AV} {S : Store} : Tm b S (lstOnly v S) := by unfold lstOnly; split <;> first | exact TR.refl b S | trivial
theorem ve_meth {f : OpM} {r : V → List V → Hp → VK → Prop} {o e : Expr} {es : List Expr} {m : ME} {ms : MA} {name : Str} {id : String} {apos cpos : Pos} (slot : Slot "list" name id) (hty : typeOf (.builtin id) = pure (.type "method_descriptor")) (hm : MtR X id r) (hf : MetV T X f r) (ht : TmM b f)
    (ho : VE T X W b o m) (ha : VA T X W b (e :: es) ms) (hbase : attributeBase o name X.env (eval o X.env) = eval o X.env := by rfl)
    (hfew : ((backTo cpos (starEach (e :: es) X.env)).all (fun x => !x.1) && (backToKw cpos (keywordEach [] X.env)).all (fun x => x.1.isSome)
      && decide ((e :: es).length + ([] : List Keyword).length + (if ([] : List Keyword).isEmpty then 0 else 1) < 30)) = true := by rfl)
    (hline : (apos.endLine == cpos.line) = true := by rfl) (hs : starEach (e :: es) X.env = (false, eval e X.env) :: starEach es X.env := by rfl) (hplain : (backTo cpos (starEach es X.env)).any (·.1) = false := by rfl) :
    VE T X W b (.Call (.Attribute o name apos) (e :: es) [] cpos) (mMeth f m ms) := by
  refine ⟨(pe_bm PySem.F.plainAttrs_list slot hty hm ho.pe ha.pe hbase hfew hline hs hplain).impR fun σ H Q q => ?_, (ho.tm.bind fun v env S hb => lstOnly_tm).bind fun v => ha.tm.bind fun vs env S hb => ht v vs S hb⟩
  obtain ⟨env, S, ρ, st, re, q⟩ := q
  have q1 := RP.bind (R := RV) (R' := RV) q
  have q2 := RP.bind (R := RV) (R' := RV) q1
  refine tV_run st re (q2.imp ?_)
  rintro x H1 ⟨v, S1, ρ1, e1, st1, rv, h1⟩
  unfold lstOnly at h1
  dsimp only at h1
  split at h1
  · rename_i ys hy
    obtain ⟨a, us, rfl, ha', ra⟩ := asL_rd st1 rv hy
    refine ⟨.inl ⟨rfl, us, ha'.sq⟩, ?_⟩
    obtain ⟨w, S2, ρ2, e2, st2, rw2, h2⟩ := RP.okN h1 st1 rv
    refine tA_run st2 (re.mono e2) ((RP.bind h2).imp ?_)
    rintro xs H3 ⟨vs, S3, ρ3, e3, st3, rvs, h3⟩
    exact hf W σ ρ3 H3 S3 _ _ vs xs Q st3 (rw2.mono e3) rvs h3
  · exact h1.elim
/-- l.append(v) -/
def appV (b : Nat) : OpM := fun o vs S => match o, vs with
  | .loc n, [v] => match S[n]? with
    | some (.lst xs) => if xs.length < sizeLine ∧ (b ≤ n ∨ v.cl 0 = true) then .ok .non (S.set n (.lst (xs ++ [v]))) else .bad
    | _ => .bad
  | _, _ => .bad
theorem tm_app : TmM b (appV b) := fun o vs S hb => by
  unfold appV
  split
  · split
    · rename_i hx
      refine lenTm' fun hc => ?_
      refine TR.set hx fun hb c q => ?_
      rcases hc.2 with hc | hc
      · omega
      · show clL c _ = true
        rw [clL_append, Bool.and_eq_true]
        exact ⟨q, by simp only [clL, AV.cl_mono (Nat.zero_le c) _ hc, Bool.and_self]⟩
    · trivial
  · trivial
where
  lenTm' {α : Type} {c : Prop} [Decidable c] {S S' : Store} {v : α} (h : c → TR b S S') : Tm b S (if c then Res.ok v S' else .bad) := by
    split
    · exact h ‹_›
    · trivial
theorem app_v : MetV T X (appV b) rAppend := by
  intro W σ ρ H S v x vs xs Q st rv rvs h
  unfold appV at h
  split at h
  · split at h
    · rename_i ys hx
      split at h
      · rename_i hc
        cases rv with
        | @loc n a hn =>
          cases rvs with
          | @cons _ u _ us r1 r2 =>
            cases r2
            obtain ⟨a', e, ws, hv, rs⟩ := st.ob _ _ hx
            rw [hn] at e; cases e
            have hE : Ext ρ H ρ (upd H a (.lst (ws ++ [u]))) := Ext.wr hv True.intro (List.mem_of_getElem? hn)
            exact ⟨a, ws, u, rfl, rfl, hv, by rw [← rs.length]; exact hc.1, h _ _ _ hE (st.wr hn hv True.intro ⟨_, upd_same, (rs.mono hE).append (.cons (r1.mono hE) .nil)⟩) .non⟩
      · exact h.elim
    · exact h.elim
  · exact h.elim
theorem ve_append {o e : Expr} {m me : ME} {apos cpos : Pos} (ho : VE T X W b o m) (he : VE T X W b e me) (hbase : attributeBase o "append" X.env (eval o X.env) = eval o X.env := by rfl)
    (hs : starEach [e] X.env = (false, eval e X.env) :: starEach [] X.env := by rfl)
    (hfew : ((backTo cpos (starEach [e] X.env)).all (fun x => !x.1) && (backToKw cpos (keywordEach [] X.env)).all (fun x => x.1.isSome)
      && decide (([e] : List Expr).length + ([] : List Keyword).length + (if ([] : List Keyword).isEmpty then 0 else 1) < 30)) = true := by rfl)
    (hline : (apos.endLine == cpos.line) = true := by rfl) : VE T X W b (.Call (.Attribute o "append" apos) [e] [] cpos) (mMeth (appV b) m (mCons me mNil)) :=
  ve_meth PySem.F.slot_list_append PySem.F.type_list_append mt_append app_v tm_app ho (va_cons he va_nil hs) hbase hfew hline hs
/-- l.count(v) of flat things -/
def cntV : OpM := fun o vs S => match asL S o, vs with
  | some xs, [v] => if flA v = true ∧ xs.all flA = true then .ok (.int (xs.countP fun y => eqA y v)) S else .bad
  | _, _ => .bad
theorem tm_cnt : TmM b cntV := fun o vs S hb => by
  unfold cntV
  split
  · exact lenTm (TR.refl b S)
  · trivial
def rCnt (K : PySem.W.Frag) : V → List V → Hp → VK → Prop := fun x vs H Q => ∃ (p : Addr) (xs : List V) (y : V), x = .ref p ∧ vs = [y] ∧ SqL K H p xs ∧ flatV y = true ∧ xs.all flatV = true ∧ Q (.int (xs.countP fun z => L2.eqV z y : Nat)) H
theorem countP_eqU {y : V} : ∀ {xs : List V} {us : List Value}, Vals xs us → xs.all flatV = true → us.countP (eqU y) = xs.countP fun z => L2.eqV z y
  | _, _, .nil, _ => rfl
  | x :: xs, u :: us, .cons r t, h => by
    simp only [List.all_cons, Bool.and_eq_true] at h
    have e1 := any_eqU (x := y) (Paired.cons r .nil : Vals [x] [u]) (by simp [h.1])
    simp only [List.any_cons, List.any_nil, Bool.or_false, inV] at e1
    rw [List.countP_cons, List.countP_cons, countP_eqU t h.2, e1]
theorem mt_cnt : MtR X "list.count" (rCnt X.K) := by
  intro pins s σ H x xs v us Q I rx rxs h
  obtain ⟨p, ys, y, rfl, rfl, hs, fy, fs, q⟩ := h
  cases rx
  obtain ⟨u, rfl, ru⟩ := rxs.one
  obtain ⟨its, rv, ⟨⟨cls, dd, data, sl⟩, n, ho, hc, hdn, hd⟩, hlen⟩ := I.list hs
  simp only at hc hd
  subst hc hd
  refine call_meets PySem.F.slot_list_count ⟨_, ho, rfl⟩ PySem.F.entry_list_count (PySem.F.args_list_count_2 _ _)
    (SeqAt.list_countAt p its.toArray n dd sl u (eqU y)) ⟨ho, fun w hw => mem_eqAt ru fy rv fs w (by simpa using hw), ?_⟩
  refine ⟨.int (ys.countP fun z => L2.eqV z y : Nat), H, I.tok _, ⟨s.toks, ?_⟩, q⟩
  rw [← countP_eqU rv fs]
theorem count_of {K : PySem.W.Frag} {ρ : List Addr} {H : Hp} {v : AV} {x : V} (r : RV T K ρ H v x) (hv : flA v = true) : ∀ {xs : List AV} {vs : List V}, RVs T K ρ H xs vs → xs.all flA = true → (vs.countP fun z => L2.eqV z x) = xs.countP fun z => eqA z v
  | _, _, .nil, _ => rfl
  | _, _, .cons q t, h => by
    simp only [List.all_cons, Bool.and_eq_true] at h
    rw [List.countP_cons, List.countP_cons, count_of r hv t h.2, eqV_of q r h.1 hv]
theorem cnt_v : MetV T X cntV (rCnt X.K) := by
  intro W σ ρ H S v x vs xs Q st rv rvs h
  unfold cntV at h
  split at h
  · rename_i ys w hy
    split at h
    · rename_i hc
      cases rvs with
      | cons r1 r2 =>
        cases r2
        obtain ⟨a, us, rfl, ha, ra⟩ := asL_rd st rv hy
        exact ⟨a, us, _, rfl, rfl, ha.sq, flat_of r1 hc.1, flL_of ra hc.2, RP.okN h st (by rw [count_of r1 hc.1 ra hc.2]; exact .int _)⟩
    · exact h.elim
  · exact h.elim
theorem ve_count {o e : Expr} {m me : ME} {apos cpos : Pos} (ho : VE T X W b o m) (he : VE T X W b e me) (hbase : attributeBase o "count" X.env (eval o X.env) = eval o X.env := by rfl)
    (hs : starEach [e] X.env = (false, eval e X.env) :: starEach [] X.env := by rfl)
    (hfew : ((backTo cpos (starEach [e] X.env)).all (fun x => !x.1) && (backToKw cpos (keywordEach [] X.env)).all (fun x => x.1.isSome)
      && decide (([e] : List Expr).length + ([] : List Keyword).length + (if ([] : List Keyword).isEmpty then 0 else 1) < 30)) = true := by rfl)
    (hline : (apos.endLine == cpos.line) = true := by rfl) : VE T X W b (.Call (.Attribute o "count" apos) [e] [] cpos) (mMeth cntV m (mCons me mNil)) :=
  ve_meth PySem.F.slot_list_count PySem.F.type_list_count mt_cnt cnt_v tm_cnt ho (va_cons he va_nil hs) hbase hfew hline hs

/-! ### isinstance -/
def tyN (S : Store) : AV → Option String
  | .non => some "NoneType"
  | .bl _ => some "bool"
  | .int _ => some "int"
  | .str _ => some "str"
  | .tup _ => some "tuple"
  | .lst _ => some "list"
  | .scr _ => some "list"
  | .dc0 => some "dict"
  | .loc n => match S[n]? with
    | some (.lst _) => some "list"
    | some (.dK _) => some "dict"
    | some (.dT _) => some "dict"
    | none => none
  | _ => none
/-- what the classes of errors must say -/
structure IsE (K : PySem.W.Frag) (C : Addr) : Prop where
  cl : (PySem.W.clsIn K C).isSome = true
  ga : PySem.W.findIn K (.ref C) "__getattribute__" = some (some (.builtin "BaseException.__getattribute__"))
  gg : PySem.W.findIn K (.ref C) "__getattr__" = some none
  su : PySem.W.subIn K (.ref C) (.type "BaseException") = some true
  cc : PySem.W.findIn K (.ref C) "__class__" = some (some (.builtin "object.__class__"))
  sp : PySem.W.specialIn K (.builtin "object.__class__") "__get__" = some (some (.builtin "getset_descriptor.__get__"))
  tk : PySem.W.takesIn K (.builtin "object.__class__") = some true
  mo : PySem.W.mroIn K C (.type "object") = some true
def opt (r : Option Bool) (S : Store) : Res AV := match r with
  | some b => .ok (.bl b) S
  | none => .bad
/-- cs: the classes of errors that are known; tt: the built-in classes they are under; tc: the own ones -/
def isiV (cs : List Nat) (tt : Nat → String → Option Bool) (tc : Nat → Nat → Option Bool) : OpN := fun vs S => match vs with
  | [.exc C _ _, .ty n] => if C ∈ cs then opt (tt C n) S else .bad
  | [.exc C _ _, .at j] => if C ∈ cs then opt (tc C j) S else .bad
  | [v, .ty n] => match tyN S v with
    | some t => opt (kitB t n) S
    | none => .bad
  | _ => .bad
theorem opt_tm {r : Option Bool} {S : Store} : Tm b S (opt r S) := by unfold opt; split <;> first | exact TR.refl b S | trivial
theorem tm_isi {cs : List Nat} {tt : Nat → String → Option Bool} {tc : Nat → Nat → Option Bool} : TmN (isiV cs tt tc) := fun b vs S hb => by
  unfold isiV
  split
  · split
    · exact opt_tm
    · trivial
  · split
    · exact opt_tm
    · trivial
  · split
    · exact opt_tm
    · trivial
  · trivial
/-- an error that is kept, as isinstance sees it -/
def rIsX (K : PySem.W.Frag) : List V → Hp → VK → Prop := fun xs H Q => ∃ (a C d : Addr) (fs : List (Str × V)) (c : V) (u : Value) (r : Bool), xs = [.ref a, c] ∧ ClsV c u ∧ H a = some (excO a C d) ∧ H d = some (.xd fs) ∧ IsE K C ∧ PySem.W.kitOne K (.ref C) u = some r ∧ Q (.bl r) H
theorem exc_at {pins : List (Addr × Obj)} {σ : Sl} {H : Hp} {s : Shared} {a C d : Addr} {fs : List (Str × V)} (I : Inv X pins σ H s) (ha : H a = some (excO a C d)) (hd : H d = some (.xd fs)) :
    ∃ (oe od : Obj) (mA : Str → Option Value), PySem.W.InstAt s.heap a oe C (some od) ∧ s.heap.Ns1 d mA ∧ s.heap.get? d = some od ∧ ∀ f, RelO (fs.lookup f) (mA f) := by
  have x : ObjOk X.prog X.w H s.heap a (.ext fun h => ∃ (oe : Obj) (vs : Array Value), h.get? a = some oe ∧ oe.cls = .ref C ∧ oe.dict = some d ∧ oe.data = .fields vs) := I.hok a _ ha
  obtain ⟨oe, vs, h1, h2, h3, h4⟩ := x.1
  obtain ⟨mA, hn, hr⟩ : ObjOk X.prog X.w H s.heap d (.xd fs) := I.hok d _ hd
  obtain ⟨od, ho, _⟩ := lookIn_ns hn
  exact ⟨oe, od, mA, ⟨h1, h2, by unfold PySem.W.notCls; rw [h4] <;> rfl, by rw [h3]; exact ho⟩, hn, ho, hr⟩
theorem call_isX : CallR X (.builtin "isinstance") (rIsX X.K) := by
  intro pins s σ H xs us Q I r h
  obtain ⟨a, C, d, fs, c, u, rr, rfl, k, ha, hd, Y, e, q⟩ := h
  obtain ⟨u1, u2, rfl, r1, r2⟩ := vals2 r
  have e2 := k.eq r2
  subst e2
  cases r1
  obtain ⟨oe, od, mA, J, _⟩ := exc_at I ha hd
  exact PySem.W.kia_one (PySem.W.kitx_exc Y.cl Y.ga Y.gg Y.su Y.cc Y.sp Y.tk Y.mo) I.kIn J e (fun z => nomatch z) fun tk => ⟨.bl rr, H, I.tok tk, rfl, q⟩
theorem tyN_of {K : PySem.W.Frag} {ρ : List Addr} {H : Hp} {S : Store} (st : RSt T K ρ H S) {v : AV} {x : V} (r : RV T K ρ H v x) {t : String} (h : tyN S v = some t) : TyX K H x (.type t) := by
  cases r with
  | non => cases h; exact .base .non
  | bl b => cases h; exact .base (.bl b)
  | int i => cases h; exact .base (.int i)
  | str y => cases h; exact .base (.str y)
  | tup ha ra =>
    cases h
    rcases ha with (ha | ⟨o, ha⟩) | ⟨o, its, n, ha, hc, _⟩
    · exact .base (.tup ha)
    · exact .fTuple ha
    · exact .kTuple ha hc
  | lst hn ha ra => cases h; exact .base (.lst ha)
  | scr hs =>
    cases h
    rcases hs with ⟨o, q⟩ | ⟨its, n, q, _⟩
    · exact .base (.frz q)
    · exact .kList q rfl
  | dc0 hn ha => cases h; exact .base (.dK ha)
  | @loc n a hn =>
    unfold tyN at h
    dsimp only at h
    split at h
    · rename_i hx
      obtain ⟨a', e, vs, hv, _⟩ := st.ob _ _ hx
      rw [hn] at e; cases e
      cases h; exact .base (.lst hv)
    · rename_i hx
      obtain ⟨a', e, vs, hv, _⟩ := st.ob _ _ hx
      rw [hn] at e; cases e
      cases h; exact .base (.dK hv)
    · rename_i hx
      obtain ⟨a', e, vs, hv, _⟩ := st.ob _ _ hx
      rw [hn] at e; cases e
      cases h; exact .base (.dT hv)
    · cases h
  | _ => cases h
theorem opt_ok {σ : Sl} {ρ : List Addr} {H : Hp} {S : Store} {Q : VK} {o : Option Bool} (st : RSt T X.K ρ H S) (h : RP RV T X.K W σ ρ H Q (opt o S)) : ∃ r, o = some r ∧ Q (.bl r) H := by
  unfold opt at h
  split at h
  · exact ⟨_, rfl, RP.okN h st (.bl _)⟩
  · exact h.elim
theorem isi_v {cs : List Nat} {tt : Nat → String → Option Bool} {tc : Nat → Nat → Option Bool} (hE : ∀ C ∈ cs, IsE X.K (T.cm C)) (h1 : ∀ C ∈ cs, ∀ n r, tt C n = some r → PySem.W.kitOne X.K (.ref (T.cm C)) (.type n) = some r)
    (h2 : ∀ C ∈ cs, ∀ j r, tc C j = some r → PySem.W.kitOne X.K (.ref (T.cm C)) (.ref (T.cm j)) = some r) : CalV T X (isiV cs tt tc) (fun xs H Q => rIsi X.K xs H Q ∨ rIsX X.K xs H Q) := by
  intro W σ ρ H S vs xs Q st rvs h
  unfold isiV at h
  split at h
  · split at h
    · rename_i hC
      obtain ⟨r, hr, q⟩ := opt_ok st h
      cases rvs with
      | cons r1 r2 =>
        cases r2 with
        | cons r2 r3 =>
          cases r3
          cases r2
          cases r1 with
          | exc n1 n2 q1 q2 _ => exact .inr ⟨_, _, _, _, _, _, r, rfl, .ty _, q1, q2, hE _ hC, h1 _ hC _ _ hr, q⟩
    · exact h.elim
  · split at h
    · rename_i hC
      obtain ⟨r, hr, q⟩ := opt_ok st h
      cases rvs with
      | cons r1 r2 =>
        cases r2 with
        | cons r2 r3 =>
          cases r3
          cases r2
          cases r1 with
          | exc n1 n2 q1 q2 _ => exact .inr ⟨_, _, _, _, _, _, r, rfl, .own _, q1, q2, hE _ hC, h2 _ hC _ _ hr, q⟩
    · exact h.elim
  · split at h
    · rename_i t ht
      obtain ⟨r, hr, q⟩ := opt_ok st h
      cases rvs with
      | cons r1 r2 =>
        cases r2 with
        | cons r2 r3 =>
          cases r3
          cases r2
          exact .inl ⟨_, _, _, _, r, rfl, .ty _, tyN_of st r1 ht, kit_ty hr, q⟩
    · exact h.elim
  · exact h.elim

/-! ### attributes of errors -/
def attV (cs : List Nat) (f : Str) (v : AV) (S : Store) : Res AV := match v with
  | .exc C ns vs => if C ∈ cs then match (ns.zip vs).lookup f with
    | some w => .ok w S
    | none => .bad else .bad
  | _ => .bad
def mAtt (cs : List Nat) (f : Str) (m : ME) : ME := bindM m fun v _ S => attV cs f v S
theorem lookup_rv {K : PySem.W.Frag} {ρ : List Addr} {H : Hp} {f : Str} : ∀ {ns : List Str} {vs : List AV} {ws : List V} {w : AV}, RVs T K ρ H vs ws → (ns.zip vs).lookup f = some w → ∃ u, (ns.zip ws).lookup f = some u ∧ RV T K ρ H w u
  | [], _, _, _, _, h => by simp at h
  | n :: ns, _, _, _, .nil, h => by simp at h
  | n :: ns, _ :: _, _ :: _, w, .cons r rs, h => by
    simp only [List.zip_cons_cons, List.lookup] at h ⊢
    split at h
    · cases h; exact ⟨_, rfl, r⟩
    · exact lookup_rv rs h
/-- what the classes must say -/
structure AttE (K : PySem.W.Frag) (C : Addr) (f : Str) : Prop where
  ga : PySem.W.findIn K (.ref C) "__getattribute__" = some (some (.builtin "BaseException.__getattribute__"))
  gg : PySem.W.findIn K (.ref C) "__getattr__" = some none
  su : PySem.W.subIn K (.ref C) (.type "BaseException") = some true
  hd : PySem.W.hasDictIn K C = true
  no : PySem.W.findIn K (.ref C) f = some none
theorem ve_att {cs : List Nat} {f : Str} {e : Expr} {m : ME} {pos : Pos} (hE : ∀ C ∈ cs, AttE X.K (T.cm C) f) (h : VE T X W b e m) (hb : attributeBase e f X.env (eval e X.env) = eval e X.env := by rfl) : VE T X W b (.Attribute e f pos) (mAtt cs f m) := by
  refine ⟨⟨fun pins s σ H Q I q => ?_⟩, h.tm.bind fun v env S hb => ?_⟩
  · obtain ⟨env, S, ρ, st, re, q⟩ := q
    refine attr_of hb (thn (h.pe.run pins s σ H _ I (tV_run st re (RP.bind q))) fun u s1 hh => ?_)
    obtain ⟨x, H1, I1, rx, v, S1, ρ1, e1, st1, rv, h1⟩ := hh
    unfold attV at h1
    dsimp only at h1
    split at h1
    · split at h1
      · rename_i hC
        split at h1
        · rename_i w hw
          have Y := hE _ hC
          cases rv with
          | exc n1 n2 q1 q2 rs =>
            cases rx
            obtain ⟨z, hz, rz⟩ := lookup_rv rs hw
            obtain ⟨oe, od, mA, J, hn, ho, hr⟩ := exc_at I1 q1 q2
            obtain ⟨od', ho', hl⟩ := lookIn_ns hn
            rw [ho] at ho'; cases ho'
            obtain ⟨u, hu, ru⟩ := RelO.some_of (v := z) (o := mA f) (by rw [← hz]; exact hr f)
            exact PySem.HandSPX.exc_get I1.kIn J Y.ga Y.gg Y.su (PySem.W.findObj_own Y.hd Y.no rfl (by rw [hl, hu])) (handed_of ru) ⟨z, H1, I1.tok _, ru, RP.okN h1 st1 rz⟩
        · exact h1.elim
      · exact h1.elim
    · exact h1.elim
  · unfold attV
    split
    · split
      · split
        · exact TR.refl b S
        · trivial
      · trivial
    · trivial

/-! ### a, b = l, l a list -/
def gLs (n : Nat) (gs : MGs) : MG := fun v env S => match asL S v with
  | some xs => if xs.length = n then gs xs env S else .bad
  | _ => .bad
theorem vg_lst {es : List Expr} {k : Nat} {gs : MGs} {n : Nat} {pos : Pos} (h : VGs T X W b es gs) (hn : (assignEach es X.env).length = n := by rfl) (hst : (assignEach es X.env).findIdx? (·.1) = none := by rfl) (hc : X.calm = true := by rfl) : VG T X W b (.Tuple es k pos) (gLs n gs) := by
  refine ⟨(pg_lst hc h.pg hn hst).impR ?_, fun v env S hb => ?_⟩
  · rintro u σ H Q ⟨v, env, S, ρ, st, re, rv, q⟩
    unfold gLs at q
    split at q
    · rename_i xs hx
      split at q
      · rename_i hl
        obtain ⟨a, us, rfl, ha, ra⟩ := asL_rd st rv hx
        exact ⟨a, us, rfl, ha.sq, by rw [← ra.length]; exact hl, xs, env, S, ρ, st, re, ra, q⟩
      · exact q.elim
    · exact q.elim
  · unfold gLs
    split
    · split
      · exact h.tm _ env S hb
      · trivial
    · trivial
theorem goes_ls {n : Nat} {gs : MGs} (h : GoesS gs) : Goes (gLs n gs) := fun v env S => by
  unfold gLs
  split
  · split
    · exact h _ _ _
    · exact ⟨env, S, .inr (.inl rfl)⟩
  · exact ⟨env, S, .inr (.inl rfl)⟩
end
end Ve

set_option Elab.async false
set_option linter.all false
set_option maxRecDepth 100000
set_option maxHeartbeats 2000000
/-! Ve: what the classes of errors must say, by one look at the written part; their __init__ walked. -/
namespace Ve
open PySem PySem.Spec PyProof.Rows L2

/-- the address of a name of the module -/
def glA (K : PySem.W.Frag) (x : Str) : Addr := match PySem.W.nsIn K mainGlobals x with
  | some (some (.ref a)) => a
  | _ => 0
def glB (K : PySem.W.Frag) (x : Str) : Bool := match PySem.W.nsIn K mainGlobals x with
  | some (some (.ref _)) => true
  | _ => false
theorem gl_of {K : PySem.W.Frag} {x : Str} (h : glB K x = true) : PySem.W.nsIn K mainGlobals x = some (some (.ref (glA K x))) := by
  unfold glB at h
  unfold glA
  split at h
  · rename_i a e
    rw [e]
  · cases h
/-- names by number -/
def cmN (K : PySem.W.Frag) (names : List Str) (j : Nat) : Addr := glA K (names.getD j "")
def mroVE : List Value := [.type "ValueError", .type "Exception", .type "BaseException", .type "object"]
def mroRE : List Value := [.type "RuntimeError", .type "Exception", .type "BaseException", .type "object"]
def shapeB (K : PySem.W.Frag) (C : Addr) : Bool := match K.lookup C with
  | some ⟨.type ty, dd, .cls ⟨nm, bs, .ref C' :: bm, N, q, true, sn, sub, ab, col, false⟩, ⟨[k0, k1, k2, k3, some (.builtin nw), k5]⟩⟩ =>
    ty == "type" && C' == C && ((PySem.W.excTail mroVE bm && nw == "ValueError.__new__") || (PySem.W.excTail mroRE bm && nw == "RuntimeError.__new__"))
  | _ => false
theorem shape_of {K : PySem.W.Frag} {C : Addr} (h : shapeB K C = true) : ∃ B newId initId bmB nm q N bs bm sn sub ab col dd k0 k1 k2 k3 k5, ExcBaseFacts B newId initId bmB ∧ StoreFacts B bmB "object.__setattr__" "object" ∧ PySem.W.excTail bmB bm = true ∧
    K.lookup C = some (excClassObj nm q C N bs bm true sn sub ab col dd k0 k1 k2 k3 k5 newId) := by
  unfold shapeB at h
  split at h
  · rename_i ty dd nm bs C' bm N q sn sub ab col k0 k1 k2 k3 nw k5 e
    simp only [Bool.and_eq_true, Bool.or_eq_true, beq_iff_eq] at h
    obtain ⟨⟨rfl, rfl⟩, h⟩ := h
    rcases h with ⟨h1, rfl⟩ | ⟨h1, rfl⟩
    · exact ⟨_, _, _, _, nm, q, N, bs, bm, sn, sub, ab, col, dd, k0, k1, k2, k3, k5, F.excBase_ValueError, F.store_ValueError, h1, e⟩
    · exact ⟨_, _, _, _, nm, q, N, bs, bm, sn, sub, ab, col, dd, k0, k1, k2, k3, k5, F.excBase_RuntimeError, F.store_RuntimeError, h1, e⟩
  · cases h
def initA (K : PySem.W.Frag) (C : Addr) : Addr := match PySem.W.findIn K (.ref C) "__init__" with
  | some (some (.ref f)) => f
  | _ => 0
/-- all that the rules ask of an error's class -/
def errB (K : PySem.W.Frag) (C : Addr) (fs : List Str) : Bool :=
  shapeB K C && (PySem.W.findIn K (.ref C) "__setattr__" == some (some (.builtin "object.__setattr__"))) && (PySem.W.findIn K (.ref C) "__getattribute__" == some (some (.builtin "BaseException.__getattribute__")))
  && (PySem.W.findIn K (.ref C) "__getattr__" == some none) && (PySem.W.subIn K (.ref C) (.type "BaseException") == some true) && (PySem.W.typeIn K (.ref C) == some (.type "type")) && PySem.W.keepIn K (.ref C) && PySem.W.hasDictIn K C
  && (PySem.W.findIn K (.ref C) "__init__" == some (some (.ref (initA K C)))) && (PySem.W.typeIn K (.ref (initA K C)) == some (.type "function"))
  && (PySem.W.clsIn K C).isSome && (PySem.W.findIn K (.ref C) "__class__" == some (some (.builtin "object.__class__"))) && (PySem.W.specialIn K (.builtin "object.__class__") "__get__" == some (some (.builtin "getset_descriptor.__get__")))
  && (PySem.W.takesIn K (.builtin "object.__class__") == some true) && (PySem.W.mroIn K C (.type "object") == some true) && fs.all fun f => PySem.W.findIn K (.ref C) f == some none
structure ErrF (K : PySem.W.Frag) (C : Addr) (fs : List Str) : Prop where
  cl : ClsE K C (initA K C)
  is : IsE K C
  no : ∀ f ∈ fs, PySem.W.findIn K (.ref C) f = some none
theorem err_of {K : PySem.W.Frag} {C : Addr} {fs : List Str} (h : errB K C fs = true) : ErrF K C fs := by
  unfold errB at h
  simp only [Bool.and_eq_true, beq_iff_eq, List.all_eq_true] at h
  obtain ⟨⟨⟨⟨⟨⟨⟨⟨⟨⟨⟨⟨⟨⟨⟨h1, h2⟩, h3⟩, h4⟩, h5⟩, h6⟩, h7⟩, h8⟩, h9⟩, h10⟩, h11⟩, h12⟩, h13⟩, h14⟩, h15⟩, h16⟩ := h
  exact ⟨⟨shape_of h1, h2, h3, h4, h5, h6, h7, h8, h9, h10⟩, ⟨h11, h3, h4, h5, h12, h13, h14, h15⟩, h16⟩
theorem ErrF.att {K : PySem.W.Frag} {C : Addr} {fs : List Str} (E : ErrF K C fs) {f : Str} (hf : f ∈ fs) : AttE K C f := ⟨E.is.ga, E.is.gg, E.is.su, E.cl.hdC, E.no f hf⟩
/-- the classes as isinstance answers them -/
def tabB (K : PySem.W.Frag) (cm : Nat → Addr) (cs js : List Nat) (ns : List String) (tt : Nat → String → Option Bool) (tc : Nat → Nat → Option Bool) : Bool :=
  cs.all fun C => (js.all fun j => (tc C j == none) || (PySem.W.kitOne K (.ref (cm C)) (.ref (cm j)) == tc C j)) && ns.all fun n => (tt C n == none) || (PySem.W.kitOne K (.ref (cm C)) (.type n) == tt C n)

/-! ### __init__ -/
section
variable {X : Cx} {D : Ends} {σ : Sl}
theorem init_step1 {K : PySem.W.Frag} {C fI : Addr} {f : Str} {i : Nat} {a : Addr} {y : V} {H1 : Hp} (Y : ClsE K C fI) (hf : PySem.W.findIn K (.ref C) f = some none) (h0 : σ[0]? = some (some (.ref a))) (hi : σ[i]? = some (some y)) (hn : H1 a = none)
    (q : ∀ d, H1 d = none → d ≠ a → D.nx σ (upd (upd H1 a (exo a C (some d))) d (exd d [(f, y)]))) : tEst K f (tVar 0) (tVar i) D σ (upd H1 a (exo a C none)) := by
  refine ⟨y, hi, .ref a, h0, a, C, fI, rfl, Y, hf, .inl ⟨upd_same, fun d hd hda => ?_⟩⟩
  have hd1 : H1 d = none := by rw [upd_ne hda] at hd; exact hd
  have e : upd (upd (upd H1 a (exo a C none)) d (exd d [(f, y)])) a (exo a C (some d)) = upd (upd H1 a (exo a C (some d))) d (exd d [(f, y)]) := by
    funext b
    by_cases h1 : b = a
    · subst h1; rw [upd_same, upd_ne (Ne.symm hda), upd_same]
    · rw [upd_ne h1]
      by_cases h2 : b = d
      · subst h2; rw [upd_same, upd_same]
      · rw [upd_ne h2, upd_ne h1, upd_ne h2, upd_ne h1]
  rw [e]
  exact q d hd1 hda
theorem init_step2 {K : PySem.W.Frag} {C fI d : Addr} {f : Str} {i : Nat} {a : Addr} {y : V} {H1 : Hp} {fs : List (Str × V)} (Y : ClsE K C fI) (hf : PySem.W.findIn K (.ref C) f = some none) (h0 : σ[0]? = some (some (.ref a))) (hi : σ[i]? = some (some y)) (hda : d ≠ a) (hl : fs.length ≤ 900)
    (q : D.nx σ (upd (upd H1 a (exo a C (some d))) d (exd d ((f, y) :: fs)))) : tEst K f (tVar 0) (tVar i) D σ (upd (upd H1 a (exo a C (some d))) d (exd d fs)) := by
  refine ⟨y, hi, .ref a, h0, a, C, fI, rfl, Y, hf, .inr ⟨d, fs, by rw [upd_ne (Ne.symm hda), upd_same], upd_same, hl, ?_⟩⟩
  rw [upd_upd]
  exact q
end
section
variable {P : Program} {w : World} {K : PySem.W.Frag} {mg : Str → Option Value} {base : Heap}
/-- def __init__(self, v): self.f = v -/
theorem init1 {x qual : Str} {st : Stmt} {f : Addr} {fd : FuncData} {N ps : List Str} {C : Addr} {fn : Str} (F : Fun K x qual st f fd) (Sc : FnScope N ps (defScope st)) (hN : N.length = 2) (hps : ps.length = 2) {fI : Addr} (Y : ClsE K C fI) (hf : PySem.W.findIn K (.ref C) fn = some none)
    (hb : ∀ (cdv : Value) (A : Around) (outer : List Env) (s : Shared) (H : Hp) (E : XK), PSs (cxOf (L2.CX P w) P w K mg base N qual (defScope st) f cdv A outer s H E) (defBody st) (tEst K fn (tVar 0) (tVar 1))) :
    FnOk P w K mg base (L2.CX P w) 1 f fd ps (spI K C [fn]) := by
  obtain ⟨oc, od, kV, doc, pm, an, cdv, ct, osl, rfl, lk, hcd⟩ := F.ex
  refine fn_of lk hcd Sc (fun vs H Q E h => ?_) fun A outer s H vs Q E hr hsp => ⟨_, hb cdv A outer s H E, ?_⟩
  · obtain ⟨a, ws, H1, rfl, hl, _⟩ := h
    rw [hps, List.length_cons, hl]; rfl
  · obtain ⟨a, ws, H1, rfl, hl, rfl, hn, q⟩ := hsp
    match ws, hl with
    | [y], _ =>
      have e : L2.start N [.ref a, y] = [some (.ref a), some y] := by
        unfold L2.start
        rw [hN]; rfl
      rw [e]
      exact init_step1 Y hf rfl rfl hn fun d h1 h2 => q d h1 h2
/-- def __init__(self, v, w): self.f = v; self.g = w -/
theorem init2 {x qual : Str} {st : Stmt} {f : Addr} {fd : FuncData} {N ps : List Str} {C : Addr} {fn gn : Str} (F : Fun K x qual st f fd) (Sc : FnScope N ps (defScope st)) (hN : N.length = 3) (hps : ps.length = 3) {fI : Addr} (Y : ClsE K C fI) (hf : PySem.W.findIn K (.ref C) fn = some none)
    (hg : PySem.W.findIn K (.ref C) gn = some none)
    (hb : ∀ (cdv : Value) (A : Around) (outer : List Env) (s : Shared) (H : Hp) (E : XK), PSs (cxOf (L2.CX P w) P w K mg base N qual (defScope st) f cdv A outer s H E) (defBody st) (tSeq (tEst K fn (tVar 0) (tVar 1)) (tEst K gn (tVar 0) (tVar 2)))) :
    FnOk P w K mg base (L2.CX P w) 1 f fd ps (spI K C [gn, fn]) := by
  obtain ⟨oc, od, kV, doc, pm, an, cdv, ct, osl, rfl, lk, hcd⟩ := F.ex
  refine fn_of lk hcd Sc (fun vs H Q E h => ?_) fun A outer s H vs Q E hr hsp => ⟨_, hb cdv A outer s H E, ?_⟩
  · obtain ⟨a, ws, H1, rfl, hl, _⟩ := h
    rw [hps, List.length_cons, hl]; rfl
  · obtain ⟨a, ws, H1, rfl, hl, rfl, hn, q⟩ := hsp
    match ws, hl with
    | [y, z], _ =>
      have e : L2.start N [.ref a, y, z] = [some (.ref a), some y, some z] := by
        unfold L2.start
        rw [hN]; rfl
      rw [e]
      exact init_step1 Y hf rfl rfl hn fun d h1 h2 => init_step2 Y hg rfl rfl h2 (by simp) (q d h1 h2)
end
end Ve

set_option Elab.async false
set_option linter.all false
set_option maxRecDepth 100000
set_option maxHeartbeats 2000000
/-! Ve: short words for printed derivations. -/
namespace Ve
open PySem PySem.Spec PyProof.Rows L2
section
variable {T : Tb} {X : Cx} {W : WX} {b k : Nat} {a c : Expr} {m1 m2 : ME} {pos : Pos}
theorem w_add (ha : VE T X W b a m1) (hc : VE T X W b c m2) : VE T X W b (.BinOp a .Add c pos) (mBin addV m1 m2) := ve_op op_addA add_v tm_add ha hc
theorem w_sub (ha : VE T X W b a m1) (hc : VE T X W b c m2) : VE T X W b (.BinOp a .Sub c pos) (mBin subV m1 m2) := ve_op op_sub sub_v tm_sub ha hc
theorem w_mul (ha : VE T X W b a m1) (hc : VE T X W b c m2) : VE T X W b (.BinOp a .Mult c pos) (mBin mulV m1 m2) := ve_op (op_mulW.or (op_repT.or op_rep)) mul_v tm_mul ha hc
theorem w_fdiv (ha : VE T X W b a m1) (hc : VE T X W b c m2) : VE T X W b (.BinOp a .FloorDiv c pos) (mBin fdivV m1 m2) := ve_op op_fdivW fdiv_v tm_fdiv ha hc
theorem w_mod (ha : VE T X W b a m1) (hc : VE T X W b c m2) : VE T X W b (.BinOp a .Mod c pos) (mBin modV m1 m2) := ve_op op_mod mod_v tm_mod ha hc
theorem w_pow (ha : VE T X W b a m1) (hc : VE T X W b c m2) : VE T X W b (.BinOp a .Pow c pos) (mBin powV m1 m2) := ve_op op_pow pow_v tm_pow ha hc
/-- a comparison's rule -/
structure Cm (T : Tb) (X : Cx) (op : CmpOp) (f : Op2) : Prop where
  ex : ∃ r, OpR X (compareOp op) r ∧ OpV T X f r
  tm : TmO f
theorem ve_cm {op : CmpOp} {f : Op2} (C : Cm T X op f) (ha : VE T X W b a m1) (hc : VE T X W b c m2) (hm : behindInMarks op c = false := by first | exact nomark _ | rfl) : VE T X W b (.Compare a [op] [c] pos) (mBin f m1 m2) := by
  obtain ⟨r, h1, h2⟩ := C.ex
  exact ve_cmp h1 h2 C.tm ha hc hm
theorem vt_cm {op : CmpOp} {f : Op2} (C : Cm T X op f) (ha : VE T X W b a m1) (hc : VE T X W b c m2) (hm : behindInMarks op c = false := by first | exact nomark _ | rfl) : VT T X W b (.Compare a [op] [c] pos) (mTst (mBin f m1 m2)) := by
  obtain ⟨r, h1, h2⟩ := C.ex
  exact vt_cmp h1 h2 C.tm ha hc hm
theorem ve_ch {d : Expr} {m3 : ME} {op op' : CmpOp} {f g : Op2} (C : Cm T X op f) (C' : Cm T X op' g) (ha : VE T X W b a m1) (hc : VE T X W b c m2) (hd : VE T X W b d m3) (hm : lastMarks [op, op'] [c, d] = false := by rfl) :
    VE T X W b (.Compare a [op, op'] [c, d] pos) (mChain f g m1 m2 m3) := by
  obtain ⟨r, h1, h2⟩ := C.ex
  obtain ⟨r', h3, h4⟩ := C'.ex
  exact ve_chain h1 h3 h2 h4 C.tm C'.tm ha hc hd hm
theorem vt_ch {d : Expr} {m3 : ME} {op op' : CmpOp} {f g : Op2} (C : Cm T X op f) (C' : Cm T X op' g) (ha : VE T X W b a m1) (hc : VE T X W b c m2) (hd : VE T X W b d m3) (hm : lastMarks [op, op'] [c, d] = false := by rfl) :
    VT T X W b (.Compare a [op, op'] [c, d] pos) (mTst (mChain f g m1 m2 m3)) := by
  obtain ⟨r, h1, h2⟩ := C.ex
  obtain ⟨r', h3, h4⟩ := C'.ex
  exact vt_chain h1 h3 h2 h4 C.tm C'.tm ha hc hd hm
theorem unA {A : Around} (hr : Room k A) : A.units + 64 < cLine := by
  have := hr.un
  omega
theorem c_lt : Cm T X .Lt ltV := ⟨⟨_, op_lt, lt_v⟩, tm_lt⟩
theorem c_gt : Cm T X .Gt gtV := ⟨⟨_, op_gt, gt_v⟩, tm_gt⟩
theorem c_le (hr : Room k X.A) : Cm T X .LtE leV := ⟨⟨_, op_le.or (op_leT (by have := unA hr; omega)), le_v⟩, tm_cmp⟩
theorem c_ge (hr : Room k X.A) : Cm T X .GtE geV := ⟨⟨_, op_ge.or (op_geT (by have := unA hr; omega)), ge_v⟩, tm_cmp⟩
theorem c_eq (hr : Room k X.A) : Cm T X .Eq eqV := ⟨⟨_, op_eq.or (op_eqD (unA hr)), eq_v⟩, tm_eq⟩
theorem c_ne (hr : Room k X.A) : Cm T X .NotEq neV := ⟨⟨_, op_ne.or (op_neD (unA hr)), ne_v⟩, tm_ne⟩
theorem c_isN : Cm T X .Is isNV := ⟨⟨_, op_isN, isN_v⟩, tm_isN⟩
theorem c_notN : Cm T X .IsNot notNV := ⟨⟨_, op_notN, notN_v⟩, tm_notN⟩
theorem c_isB : Cm T X .Is isBV := ⟨⟨_, op_isBl, isB_v⟩, tm_isB⟩
theorem c_notB : Cm T X .IsNot notBV := ⟨⟨_, op_notBl, notB_v⟩, tm_notB⟩
theorem c_in : Cm T X .In (inV0 false) := ⟨⟨_, op_in_seq, in_v false⟩, tm_in⟩
theorem c_notIn : Cm T X .NotIn (inV0 true) := ⟨⟨_, op_notIn_seq, in_v true⟩, tm_in⟩
/-- the name of a built-in type -/
theorem w_ty {x : Str} {n : String} (hm : X.mg x = none) (hv : bootBuiltins x = some (.type n)) (hg : Gl X x := by rfl) (hn : x ≠ "__name__" := by decide) (hd : (x == ("__debug__" : Str)) = false := by decide) : VE T X W b (.Name x pos) (mC (.ty n)) :=
  ⟨(pe_bltn (v := .ty n) hg hm hv rfl hn hd).impR fun _ _ _ h => tC_of (fun _ _ _ _ => .ty n) h, TmE.pure _⟩
variable {e : Expr} {es : List Expr} {ms : MA} {p : Pos}
theorem w_len (hm : X.mg "len" = none) (ha : VA T X W b (e :: es) ms) (hg : Gl X "len" := by rfl) (he : starEach (e :: es) X.env = (false, eval e X.env) :: starEach es X.env := by rfl) (hpl : (backTo pos (starEach es X.env)).any (·.1) = false := by rfl) :
    VE T X W b (.Call (.Name "len" p) (e :: es) [] pos) (mCall lenV ms) := ve_callB hm (by decide +kernel) call_len len_v tm_len ha hg (by decide) (by decide) he hpl
theorem w_repr (hr : Room k X.A) (hgd : X.A.guards = some []) (hm : X.mg "repr" = none) (ha : VA T X W b (e :: es) ms) (hg : Gl X "repr" := by rfl) (he : starEach (e :: es) X.env = (false, eval e X.env) :: starEach es X.env := by rfl) (hpl : (backTo pos (starEach es X.env)).any (·.1) = false := by rfl) :
    VE T X W b (.Call (.Name "repr" p) (e :: es) [] pos) (mCall reprV ms) := ve_callB hm (by decide +kernel) (call_repr hgd (by have := unA hr; omega)) repr_v tm_repr ha hg (by decide) (by decide) he hpl
/-- the errors' classes as isinstance answers them -/
structure IsT (T : Tb) (K : PySem.W.Frag) (cs : List Nat) (tt : Nat → String → Option Bool) (tc : Nat → Nat → Option Bool) : Prop where
  e : ∀ C ∈ cs, IsE K (T.cm C)
  t : ∀ C ∈ cs, ∀ n r, tt C n = some r → PySem.W.kitOne K (.ref (T.cm C)) (.type n) = some r
  c : ∀ C ∈ cs, ∀ j r, tc C j = some r → PySem.W.kitOne K (.ref (T.cm C)) (.ref (T.cm j)) = some r
theorem w_isi {cs : List Nat} {tt : Nat → String → Option Bool} {tc : Nat → Nat → Option Bool} (I : IsT T X.K cs tt tc) (hm : X.mg "isinstance" = none) (ha : VA T X W b (e :: es) ms) (hg : Gl X "isinstance" := by rfl)
    (he : starEach (e :: es) X.env = (false, eval e X.env) :: starEach es X.env := by rfl) (hpl : (backTo pos (starEach es X.env)).any (·.1) = false := by rfl) :
    VE T X W b (.Call (.Name "isinstance" p) (e :: es) [] pos) (mCall (isiV cs tt tc) ms) := ve_callB hm (by decide +kernel) (call_isi.or call_isX) (isi_v I.e I.t I.c) tm_isi ha hg (by decide) (by decide) he hpl

/-! ### a list or a tuple, as items, as a target -/
def itS (v : AV) (S : Store) : Res Itm := match v with
  | .tup xs => .ok ⟨xs, none⟩ S
  | v => itL v S
def mItS (m : ME) : MI := bindM m fun v _ S => itS v S
theorem vi_seq {tg : Expr} {m : ME} (h : VE T X W b e m) : VI T X W b tg e (mItS m) := by
  refine ⟨⟨fun pins s σ H R I q => ?_⟩, h.tm.bind fun v env S hb => ?_⟩
  · obtain ⟨env, S, ρ, st, re, q⟩ := q
    by_cases hc : ∃ xs S1, m env S = .ok (.tup xs) S1
    · obtain ⟨xs, S1, e1⟩ := hc
      refine (vi_tup h).pi.run pins s σ H R I ⟨env, S, ρ, st, re, ?_⟩
      unfold mItT bindM
      unfold mItS bindM at q
      rw [e1] at q ⊢
      exact q
    · refine (vi_lst h).pi.run pins s σ H R I ⟨env, S, ρ, st, re, ?_⟩
      unfold mItL bindM
      unfold mItS bindM at q
      cases e1 : m env S with
      | ok v S1 =>
        rw [e1] at q hc
        simp only [Res.bind] at q ⊢
        have : itS v S1 = itL v S1 := by
          unfold itS
          split
          · exact absurd ⟨_, _, rfl⟩ hc
          · rfl
        rw [this] at q
        exact q
      | rse C ns fs S1 => rw [e1] at q; exact q
      | bad => rw [e1] at q; exact q
  · unfold itS
    split
    · exact TR.refl b S
    · exact tm_itL
def gSq (n : Nat) (gs : MGs) : MG := fun v env S => match v with
  | .tup xs => if xs.length = n then gs xs env S else .bad
  | v => gLs n gs v env S
theorem vg_seq {es : List Expr} {k : Nat} {gs : MGs} {n : Nat} (h : VGs T X W b es gs) (hn : (assignEach es X.env).length = n := by rfl) (hst : (assignEach es X.env).findIdx? (·.1) = none := by rfl) (hc : X.calm = true := by rfl) : VG T X W b (.Tuple es k pos) (gSq n gs) := by
  refine ⟨⟨fun pins s σ H v u Q I r q => ?_⟩, fun v env S hb => ?_⟩
  · obtain ⟨w, env, S, ρ, st, re, rv, q⟩ := q
    by_cases hw : ∃ xs, w = .tup xs
    · obtain ⟨xs, rfl⟩ := hw
      exact (vg_tup h hn hst hc).pg.run pins s σ H v u Q I r ⟨_, env, S, ρ, st, re, rv, q⟩
    · refine (vg_lst h hn hst hc).pg.run pins s σ H v u Q I r ⟨w, env, S, ρ, st, re, rv, ?_⟩
      unfold gSq at q
      split at q
      · exact absurd ⟨_, rfl⟩ hw
      · exact q
  · unfold gSq
    split
    · split
      · exact h.tm _ env S hb
      · trivial
    · exact (vg_lst (k := k) (pos := pos) h hn hst hc).tm v env S hb
theorem goes_sq {n : Nat} {gs : MGs} (h : GoesS gs) : Goes (gSq n gs) := fun v env S => by
  unfold gSq
  split
  · split
    · exact h _ _ _
    · exact ⟨env, S, .inr (.inl rfl)⟩
  · exact goes_ls h v env S
end

/-! ### defs -/
/-- a def of the text, known by its name -/
structure DefK (K : PySem.W.Frag) (mg : Str → Option Value) (x : Str) (st : Stmt) (ps : List Str) : Prop where
  ex : ∃ (f : Addr) (fd : FuncData), Fun K x x st f fd ∧ mg x = some (.ref f) ∧ Binds K fd ps []
/-- .. and walked -/
structure DefG (T : Tb) (P : Program) (w : World) (K : PySem.W.Frag) (mg : Str → Option Value) (base : Heap) (k : Nat) (x : Str) (ps : List Str) (g : Fn) : Prop where
  ex : ∃ (f : Addr) (fd : FuncData), FnG true P w K mg base k f fd ps (spV T K ps.length g) ∧ mg x = some (.ref f) ∧ PySem.W.keepIn K (.ref f) = true ∧ Binds K fd ps [] ∧ ∃ (oc : Value) (od : Option Addr) (osl : Array (Option Value)), K.lookup f = some ⟨oc, od, .func fd, osl⟩
  tm : TmFn g
theorem def_ve {T : Tb} {P : Program} {w : World} {K : PySem.W.Frag} {mg : Str → Option Value} {base : Heap} {x : Str} {st : Stmt} {N ps : List Str} {k : Nat} {md : Nat} {ms : Nat → MS} (F : DefK K mg x st ps) (Sc : FnScope N ps (defScope st)) (hc : Room (k + 1) callerA)
    (hb : ∀ (f : Addr) (cdv : Value) (A : Around) (outer : List Env) (s : Shared) (H : Hp) (E : XK) (b : Nat), Room k (cxOf (L2.CX P w) P w K mg base N x (defScope st) f cdv A outer s H E).A → (cxOf (L2.CX P w) P w K mg base N x (defScope st) f cdv A outer s H E).A.guards = some [] →
      Takes (cxOf (L2.CX P w) P w K mg base N x (defScope st) f cdv A outer s H E) (fun cls d _ H => E cls d H) → PassesOwn (model P w) (cxOf (L2.CX P w) P w K mg base N x (defScope st) f cdv A outer s H E).A (cxOf (L2.CX P w) P w K mg base N x (defScope st) f cdv A outer s H E).env (cxOf (L2.CX P w) P w K mg base N x (defScope st) f cdv A outer s H E).xe →
      VSs T (cxOf (L2.CX P w) P w K mg base N x (defScope st) f cdv A outer s H E) (fun cls d _ H => E cls d H) b (defBody st) (ms b)) :
    DefG T P w K mg base (k + 1) x ps (runF md N.length ms) := by
  obtain ⟨f, fd, F1, hm, hbd⟩ := F.ex
  refine ⟨⟨f, fd, fn_ve F1 Sc fun cdv A outer s H E b hr hg => hb f cdv A outer s H E b hr (hg rfl) (takes_of rfl rfl rfl rfl) (passes_of rfl), hm, F1.kp, hbd, ?_⟩, runF_tm fun c => ?_⟩
  · obtain ⟨oc, od, kV, doc, pm, an, cdv, ct, osl, _, lk, _⟩ := F1.ex
    exact ⟨oc, od, osl, lk⟩
  · exact (hb f .none callerA [] {} (fun _ => none) (fun _ _ _ => False) c (hc.deeper _) rfl (takes_of rfl rfl rfl rfl) (passes_of rfl)).tm
section
variable {T : Tb} {X : Cx} {W : WX} {b k kc : Nat} {x : Str} {ps : List Str} {g : Fn} {e : Expr} {es : List Expr} {ms : MA} {p pos : Pos}
theorem w_call (D : DefG T X.prog X.w X.K X.mg X.base kc x ps g) (hr : Room k X.A) (hgd : X.A.guards = some []) (tk : Takes X W) (ha : VA T X W b (e :: es) ms) (hle : kc ≤ k := by decide) (hg : Gl X x := by rfl) (hdb : (x == ("__debug__" : Str)) = false := by decide)
    (he : starEach (e :: es) X.env = (false, eval e X.env) :: starEach es X.env := by rfl) (hpl : (backTo pos (starEach es X.env)).any (·.1) = false := by rfl) : VE T X W b (.Call (.Name x p) (e :: es) [] pos) (mFn g ps.length ms) := by
  obtain ⟨f, fd, F, hm, hk, hb, _⟩ := D.ex
  exact ve_call F (hr.mono hle) hm hk hb D.tm tk ha (fun _ => hgd) hg hdb he hpl
theorem w_call0 (D : DefG T X.prog X.w X.K X.mg X.base kc x [] g) (hr : Room k X.A) (hgd : X.A.guards = some []) (tk : Takes X W) (hle : kc ≤ k := by decide) (hg : Gl X x := by rfl) (hdb : (x == ("__debug__" : Str)) = false := by decide) : VE T X W b (.Call (.Name x p) [] [] pos) (mFn g 0 mNil) := by
  obtain ⟨f, fd, F, hm, hk, hb, _⟩ := D.ex
  exact ve_call0 F (hr.mono hle) hm hk hb D.tm tk (fun _ => hgd) hg hdb
end
theorem getD_out {α : Type} {l : List α} {j : Nat} {d : α} (h : l.length ≤ j) : l.getD j d = d := by simp [List.getD, List.getElem?_eq_none h]
end Ve

set_option Elab.async false
set_option linter.all false
set_option maxRecDepth 100000
set_option maxHeartbeats 2000000
/-! Ve, seventh part: the law's own call. -/
namespace Ve
open PySem PySem.Spec PyProof.Rows L2
section
variable {P : Program} {w : World} {K : PySem.W.Frag} {mg mb : Str → Option Value} {cm : Nat → Addr} {k : Nat} {fa a : Addr} {fd : FuncData} {x : Str} {g : Fn} {s₁ : Shared} {vs : List Value} {ns : List Int}
/-- the law at a heap behind the top, from an abstract heap that tracks the script at most -/
theorem law_from {H : Hp} {S' : Store} (hH : (∀ b, H b = none) ∨ (K.lookup a = none ∧ ∀ b, H b = if b = a then some (.frz { cls := .type "list", data := .seq vs.toArray } (.lst (ns.map V.int))) else none))
    (hS : IsScr K H a ns) (KX : K.In s₁.heap) (hns : s₁.heap.Ns mainGlobals mg) (hb : s₁.heap.Ns builtinsNs mb) (hbb : ∀ x : Str, x ≠ "__name__" → mb x = bootBuiltins x) (hlim : s₁.heap.NoLimit) (hg : s₁.gens = #[])
    (ha : s₁.heap.get? a = some { cls := .type "list", data := .seq vs.toArray }) (hi : Vals (ns.map V.int) vs) (hl : ns.length ≤ sizeLine) (hr : Room k callerA)
    (F : ∀ base : Heap, K.In base → base.Ns mainGlobals mg → FnG true P w K mg base k fa fd [x] (spV ⟨[], cm⟩ K 1 g)) (hbind : Binds K fd [x] []) (hlaw : g [.scr ns] [] = .ok (.bl true) S') :
    codeAny (model P w) callerA (.call (.ref fa) ⟨[.ref a], []⟩) (fun r s' => r = .ok (.ret (.bool true)) ∧ OldK s₁.heap s'.heap ∧ s'.os = s₁.os ∧ AllBare s'.gens) s₁ := by
  have only : ∀ b u, H b = some u → b = a ∧ u = .frz { cls := .type "list", data := .seq vs.toArray } (.lst (ns.map V.int)) := fun b u e => by
    rcases hH with h | ⟨_, h⟩
    · rw [h b] at e; cases e
    · rw [h b] at e
      split at e
      · rename_i hb
        exact ⟨hb, (Option.some.inj e).symm⟩
      · cases e
  have hok : HOk P w H s₁.heap := fun b u e => by
    obtain ⟨rfl, rfl⟩ := only b u e
    exact ⟨ha, by rw [List.length_map]; exact hl, vs, _, hi, ha⟩
  have hidden : ∀ {b : Addr} {m : Str → Option Value}, s₁.heap.Ns b m → (hidT s₁.heap H).Ns b m := fun {b m} ⟨o, es, ep, e, d, r⟩ => by
    refine ⟨o, es, ep, hidT_get e ?_, d, r⟩
    cases q : H b with
    | none => rfl
    | some u =>
      obtain ⟨rfl, _⟩ := only b u q
      rw [ha] at e
      cases e
      have d' : Data.seq vs.toArray _ = Data.dict es ep := d
      cases d'
  have hK : K.In (hidT s₁.heap H) := fun b o e => hidT_get (KX b o e) (by
    cases q : H b with
    | none => rfl
    | some u =>
      obtain ⟨rfl, _⟩ := only b u q
      rcases hH with h | ⟨hk, _⟩
      · rw [h] at q; cases q
      · rw [hk] at e; cases e)
  have M : Mod K mg (hidT s₁.heap H) := ⟨hK, hidden hns, ⟨mb, hidden hb, hbb⟩, let ⟨mc, h1, h2⟩ := hlim; ⟨mc, hidden h1, h2⟩⟩
  have e0 : Env0 P w K mg (hidT s₁.heap H) callerA [] s₁ H := ⟨rfl, M, fun b o e => of_hidT e, Nat.le_of_eq (hidT_size _ _), trivial, fun b hb => absurd (show b ∈ ([] : List Addr) from hb) (by simp), hok, .of_eq hg⟩
  have sp : spV ⟨[], cm⟩ K 1 g [.ref a] H (fun v _ => v = .bl true) (fun _ _ _ => False) := by
    refine ⟨rfl, [.scr ns], [], [], ⟨rfl, .nil, fun n o q => by simp at q, fun p hp => absurd hp (by simp)⟩, .cons (.scr hS) .nil, ?_⟩
    rw [hlaw]
    intro ρ' H' u _ _ rv
    cases rv
    rfl
  refine codeAny_mono ((F _ hK (hidden hns)).run callerA [] s₁ H ⟨[.ref a], []⟩ [.ref a] [.ref a] _ _ hr (fun _ => rfl) e0 (hbind s₁ [.ref a] KX rfl) (.cons rfl .nil) sp) fun r s' h => ?_
  match r, h with
  | .error e, h =>
    obtain ⟨_, _, _, _, _, _, _, _, _, _, _, _, z⟩ := h
    exact z.elim
  | .ok .next, h => exact False.elim h
  | .ok .brk, h => exact False.elim h
  | .ok .cont, h => exact False.elim h
  | .ok (.ret u), h =>
    obtain ⟨v, H', os, bare, un, hok', r', q⟩ := h
    have q' : v = .bl true := q
    subst q'
    obtain rfl : u = Value.bool true := r'
    refine ⟨rfl, OldK.of_keep fun b o e => ?_, os, bare⟩
    cases q : H b with
    | none => exact un.keep b o e q (fun z => absurd (show b ∈ ([] : List Addr) from z) (by simp)) (by simp)
    | some u =>
      obtain ⟨rfl, rfl⟩ := only b u q
      obtain ⟨e2, _⟩ := hok' b _ (un.frzs b _ _ q)
      rw [ha] at e
      cases e
      exact e2
theorem law_any {S' : Store} (KX : K.In s₁.heap) (hns : s₁.heap.Ns mainGlobals mg) (hb : s₁.heap.Ns builtinsNs mb) (hbb : ∀ x : Str, x ≠ "__name__" → mb x = bootBuiltins x) (hlim : s₁.heap.NoLimit) (hg : s₁.gens = #[])
    (ha : s₁.heap.get? a = some { cls := .type "list", data := .seq vs.toArray }) (hi : IntsAre vs ns) (hl : ns.length ≤ sizeLine) (hr : Room k callerA)
    (F : ∀ base : Heap, K.In base → base.Ns mainGlobals mg → FnG true P w K mg base k fa fd [x] (spV ⟨[], cm⟩ K 1 g)) (hbind : Binds K fd [x] []) (hlaw : g [.scr ns] [] = .ok (.bl true) S') :
    codeAny (model P w) callerA (.call (.ref fa) ⟨[.ref a], []⟩) (fun r s' => r = .ok (.ret (.bool true)) ∧ OldK s₁.heap s'.heap ∧ s'.os = s₁.os ∧ AllBare s'.gens) s₁ := by
  have rv := vals_ints hi
  cases hk : K.lookup a with
  | some o =>
    have e := KX a o hk
    rw [ha] at e
    cases e
    exact law_from (H := fun _ => none) (.inl fun _ => rfl) (.inr ⟨vs, _, hk, rv, by rw [List.length_map]; exact hl⟩) KX hns hb hbb hlim hg ha rv hl hr F hbind hlaw
  | none => exact law_from (H := fun b => if b = a then some (.frz { cls := .type "list", data := .seq vs.toArray } (.lst (ns.map V.int))) else none) (.inr ⟨hk, fun _ => rfl⟩) (.inl ⟨_, if_pos rfl⟩) KX hns hb hbb hlim hg ha rv hl hr F hbind hlaw
end
/-- what k_head leaves of a law, from its mirror -/
theorem walk_ve {l : PySem.W.OpenLaw} {n k : Nat} {q : Program} {loose : List Str} {XP : (Str → Option Value) → Heap → Prop} {YP : World → Heap → Prop} {d : DefRec} {K : Params → PySem.W.Frag} {x : Str}
    (hn : l.most = some n) (hn2 : n ≤ sizeLine) (hdf : d.params.defaults = []) (hr : Room k callerA)
    (hY : ∀ (w : World) (h : Heap), YP w h → (K w.params).In h)
    (F : ∀ (w : World) (mg : Str → Option Value) (fa : Addr) (h : Heap), (K w.params).In h → h.Ns mainGlobals mg → mg d.name = some (.ref fa) →
      ∃ fd : FuncData, Binds (K w.params) fd [x] [] ∧ ∃ (cm : Nat → Addr) (g : Fn), (∀ ns : List Int, ns.length ≤ n → ∃ S', g [.scr ns] [] = .ok (.bl true) S') ∧
        ∀ base : Heap, (K w.params).In base → base.Ns mainGlobals mg → FnG true l.prog w (K w.params) mg base k fa fd [x] (spV ⟨[], cm⟩ (K w.params) 1 g)) :
    PySem.W.WalkO q loose XP YP l.row.toRowW d [] (fun f vs => PySem.call f vs) := by
  refine Att.attach_call hn hdf fun w s₀ s₁ mg mb fa o pm cd doc a vs ns G Y ho hd hcd hmg hobj hints hlen hg => ?_
  have KX := hY w _ Y
  obtain ⟨fd, hb, cm, g, hlaw, hF⟩ := F w mg fa _ KX G.T.g hmg
  obtain ⟨S', e⟩ := hlaw ns hlen
  exact law_any KX G.T.g G.T.b G.T.builtins G.T.nolimit hg hobj hints (Nat.le_trans hlen hn2) hr hF hb e
/-- the law's def, as walk_ve asks for it -/
theorem end_ve {P : Program} {w : World} {K : PySem.W.Frag} {mg : Str → Option Value} {cm : Nat → Addr} {k n : Nat} {lname x : Str} {st : Stmt} {fa : Addr} {g : Fn} (F : DefK K mg lname st [x]) (D : ∀ base, DefG ⟨[], cm⟩ P w K mg base k lname [x] g) (hm : mg lname = some (.ref fa))
    (law : ∀ ns : List Int, ns.length ≤ n → ∃ S', g [.scr ns] [] = .ok (.bl true) S') :
    ∃ fd : FuncData, Binds K fd [x] [] ∧ ∃ (cm : Nat → Addr) (g : Fn), (∀ ns : List Int, ns.length ≤ n → ∃ S', g [.scr ns] [] = .ok (.bl true) S') ∧
      ∀ base : Heap, K.In base → base.Ns mainGlobals mg → FnG true P w K mg base k fa fd [x] (spV ⟨[], cm⟩ K 1 g) := by
  obtain ⟨f, fd, F1, hmf, hbd⟩ := F.ex
  rw [hm] at hmf
  cases hmf
  refine ⟨fd, hbd, cm, g, law, fun base _ _ => ?_⟩
  obtain ⟨f2, fd2, FG, hm2, _, _, oc2, od2, sl2, lk2⟩ := (D base).ex
  rw [hm] at hm2
  cases hm2
  obtain ⟨oc, od, kV, doc, pm, an, cdv, ct, osl, _, lk, _⟩ := F1.ex
  rw [lk2] at lk
  cases lk
  exact FG
end Ve

set_option Elab.async false
set_option linter.all false
set_option maxRecDepth 100000
set_option maxHeartbeats 2000000
/-! Ve: plain facts for the laws: how mirrors run. -/
namespace Ve
open PySem PySem.Spec PyProof.Rows L2

/-! ### the drawn numbers' source -/
def srcO (cs : List Int) (nx rest ct : Int) : Ob := .dK [(.inr "cells", .lst (cs.map .int)), (.inr "next", .int nx), (.inr "rest", .int rest), (.inr "count", .int ct)]
section
variable {S : Store} {n b : Nat} {cs : List Int} {nx rest ct r : Int}
theorem dg_cells (h : n < S.length) : dgV (.loc n) (.str "cells") (S.set n (srcO cs nx rest ct)) = .ok (.lst (cs.map .int)) (S.set n (srcO cs nx rest ct)) := by
  unfold dgV; simp only [List.getElem?_set_self h]; rfl
theorem dg_next (h : n < S.length) : dgV (.loc n) (.str "next") (S.set n (srcO cs nx rest ct)) = .ok (.int nx) (S.set n (srcO cs nx rest ct)) := by
  unfold dgV; simp only [List.getElem?_set_self h]; rfl
theorem dg_rest (h : n < S.length) : dgV (.loc n) (.str "rest") (S.set n (srcO cs nx rest ct)) = .ok (.int rest) (S.set n (srcO cs nx rest ct)) := by
  unfold dgV; simp only [List.getElem?_set_self h]; rfl
theorem dg_count (h : n < S.length) : dgV (.loc n) (.str "count") (S.set n (srcO cs nx rest ct)) = .ok (.int ct) (S.set n (srcO cs nx rest ct)) := by
  unfold dgV; simp only [List.getElem?_set_self h]; rfl
theorem four_size : (4 : Nat) < sizeLine := by rw [sizeLine_eq]; decide
theorem dp_next (h : n < S.length) : dputS b (.loc n) (.str "next") (.int r) (S.set n (srcO cs nx rest ct)) = some (S.set n (srcO cs r rest ct)) := by
  unfold dputS; simp only [List.getElem?_set_self h]; unfold srcO
  simp only [keyA]
  rw [if_pos ⟨four_size, .inr rfl⟩, List.set_set]; rfl
theorem dp_rest (h : n < S.length) : dputS b (.loc n) (.str "rest") (.int r) (S.set n (srcO cs nx rest ct)) = some (S.set n (srcO cs nx r ct)) := by
  unfold dputS; simp only [List.getElem?_set_self h]; unfold srcO
  simp only [keyA]
  rw [if_pos ⟨four_size, .inr rfl⟩, List.set_set]; rfl
theorem dp_count (h : n < S.length) : dputS b (.loc n) (.str "count") (.int r) (S.set n (srcO cs nx rest ct)) = some (S.set n (srcO cs nx rest r)) := by
  unfold dputS; simp only [List.getElem?_set_self h]; unfold srcO
  simp only [keyA]
  rw [if_pos ⟨four_size, .inr rfl⟩, List.set_set]; rfl
end
theorem log2_lt {n k : Nat} (h : n < 2 ^ k) (hk : 0 < k) : n.log2 < k := by
  by_cases h0 : n = 0
  · subst h0; simpa using hk
  · exact (Nat.log2_lt h0).mpr h
theorem mulOk {i j : Int} (hi : i.natAbs < 2 ^ 64) (hj : j.natAbs < 2 ^ 64) : CMulW i j := by
  have h1 := log2_lt hi (by decide)
  have h2 := log2_lt hj (by decide)
  unfold CMulW
  omega
theorem addI {i j : Int} {S : Store} : addV (.int i) (.int j) S = .ok (.int (i + j)) S := rfl
theorem subI {i j : Int} {S : Store} : subV (.int i) (.int j) S = .ok (.int (i - j)) S := rfl
theorem mulI {i j : Int} {S : Store} (hi : i.natAbs < 2 ^ 64) (hj : j.natAbs < 2 ^ 64) : mulV (.int i) (.int j) S = .ok (.int (i * j)) S := by
  unfold mulV; simp only; rw [if_pos (mulOk hi hj)]
theorem modI {i j : Int} {S : Store} (h : 0 < j) : modV (.int i) (.int j) S = .ok (.int (i % j)) S := by unfold modV; simp only; rw [if_pos h]
theorem fdivI {i j : Int} {S : Store} (h : 0 < j) (h2 : j.natAbs < 2 ^ 8000) : fdivV (.int i) (.int j) S = .ok (.int (i / j)) S := by
  unfold fdivV; simp only
  rw [if_pos ⟨h, Nat.lt_trans (log2_lt h2 (by decide)) (by decide)⟩]
theorem eqI {i j : Int} {S : Store} : eqV (.int i) (.int j) S = .ok (.bl (decide (i = j))) S := rfl
theorem geI {i j : Int} {S : Store} : geV (.int i) (.int j) S = .ok (.bl (decide (j ≤ i))) S := rfl
theorem leI {i j : Int} {S : Store} : leV (.int i) (.int j) S = .ok (.bl (decide (i ≤ j))) S := rfl
theorem lenL {xs : List AV} {S : Store} : lenV [.lst xs] S = .ok (.int xs.length) S := rfl
theorem ixL {xs : List AV} {i : Int} {S : Store} {y : AV} (h : atI xs i = some y) : ixV (.lst xs) (.int i) S = .ok y S := by unfold ixV asSq asL; simp only [h]
/-- what a def hands back, none of its own lists in it -/
theorem collect_cl {md b : Nat} {S : Store} {v : AV} (hv : v.cl b = true) (hl : S.length = b) : collect md b (.rt v S) = .ok v S := by
  unfold collect
  dsimp only
  split
  · rfl
  · rw [fz_cl 24 v hv, if_pos ⟨hv, .inr hv⟩, ← hl, List.take_length]
theorem collect_non {md b : Nat} {S : Store} {env : Ev} (hl : S.length = b) : collect md b (.nx env S) = .ok .non S := by
  unfold collect
  dsimp only
  split
  · rfl
  · rw [← hl, List.take_length]

/-! ### a number is drawn -/
/-- a source at place n, c numbers drawn at most -/
def SrcAt (S : Store) (n : Nat) (c : Int) : Prop := n < S.length ∧ ∃ (cs : List Int) (nx rest ct : Int), S = S.set n (srcO cs nx rest ct) ∧ cs ≠ [] ∧ 0 ≤ nx ∧ 0 ≤ rest ∧ 0 ≤ ct ∧ ct ≤ c

/-! ### mirrors, run -/
theorem small_size {n : Nat} (h : n ≤ 100000) : n ≤ sizeLine := by rw [sizeLine_eq]; omega
def mkT (vs : List AV) (S : Store) : Res AV := if vs.length ≤ sizeLine then .ok (.tup vs) S else .bad
def mkL (vs : List AV) (S : Store) : Res AV := if vs.length ≤ sizeLine then .ok (.lst vs) S else .bad
def mkM (vs : List AV) (S : Store) : Res AV := if vs.length ≤ sizeLine then .ok (.loc S.length) (S ++ [.lst vs]) else .bad
theorem mkT_ok {vs : List AV} {S : Store} (h : vs.length ≤ 100000) : mkT vs S = .ok (.tup vs) S := if_pos (small_size h)
theorem mkL_ok {vs : List AV} {S : Store} (h : vs.length ≤ 100000) : mkL vs S = .ok (.lst vs) S := if_pos (small_size h)
theorem mkM_ok {vs : List AV} {S : Store} (h : vs.length ≤ 100000) : mkM vs S = .ok (.loc S.length) (S ++ [.lst vs]) := if_pos (small_size h)

section
variable {α β : Type} {env e1 : Ev} {S S1 : Store} {v w : AV} {m m1 m2 m3 : ME} {t t1 t2 : MT} {ms : MA} {s s1 s2 : MS} {f g : Op2} {k : Ev → Store → SR}
theorem x_bind {v : α} {k : α → Store → Res β} : (Res.ok v S).bind k = k v S := rfl
theorem x_toS {v : α} {k : α → Store → SR} : (Res.ok v S).toS env k = k v S := rfl
theorem x_bindR {C : Nat} {ns : List Str} {fs : List AV} {k : α → Store → Res β} : (Res.rse C ns fs S).bind k = .rse C ns fs S := rfl
theorem x_toSR {C : Nat} {ns : List Str} {fs : List AV} {k : α → Store → SR} : (Res.rse C ns fs S).toS env k = .rse C ns fs env S := rfl
theorem x_nx : (SR.nx e1 S).then k = k e1 S := rfl
theorem x_rt : (SR.rt v S).then k = .rt v S := rfl
theorem x_bk : (SR.bk e1 S).then k = .bk e1 S := rfl
theorem x_ct : (SR.ct e1 S).then k = .ct e1 S := rfl
theorem x_rse {C : Nat} {ns : List Str} {fs : List AV} : (SR.rse C ns fs e1 S).then k = .rse C ns fs e1 S := rfl
theorem x_sq : mSq s1 s2 env S = (s1 env S).then s2 := rfl
theorem x_skip : mSkip env S = .nx env S := rfl
theorem x_if : mIf t s1 s2 env S = (t env S).toS env fun k S1 => if k = true then s1 env S1 else s2 env S1 := rfl
theorem x_as {g : MG} : mAs m g env S = (m env S).toS env fun v S1 => g v env S1 := rfl
theorem x_ret : mRet m env S = (m env S).toS env fun v S1 => .rt v S1 := rfl
theorem x_ex : mEx m env S = (m env S).toS env fun _ S1 => .nx env S1 := rfl
theorem x_nm {i : Nat} : gNm i v env S = .nx (env.set i (some v)) S := rfl
theorem x_set0 {o p : Option AV} {e : Ev} : List.set (o :: e) 0 p = p :: e := rfl
theorem x_var {i : Nat} (h : env[i]? = some (some v)) : mVar i env S = .ok v S := by unfold mVar; rw [h]
theorem x_v0 {e : Ev} : mVar 0 (some v :: e) S = .ok v S := rfl
theorem x_v1 {a : Option AV} {e : Ev} : mVar 1 (a :: some v :: e) S = .ok v S := rfl
theorem x_v2 {a b : Option AV} {e : Ev} : mVar 2 (a :: b :: some v :: e) S = .ok v S := rfl
theorem x_v3 {a b c : Option AV} {e : Ev} : mVar 3 (a :: b :: c :: some v :: e) S = .ok v S := rfl
theorem x_v4 {a b c d : Option AV} {e : Ev} : mVar 4 (a :: b :: c :: d :: some v :: e) S = .ok v S := rfl
theorem x_v5 {a b c d f : Option AV} {e : Ev} : mVar 5 (a :: b :: c :: d :: f :: some v :: e) S = .ok v S := rfl
theorem x_v6 {a b c d f g : Option AV} {e : Ev} : mVar 6 (a :: b :: c :: d :: f :: g :: some v :: e) S = .ok v S := rfl
theorem x_v7 {a b c d f g h : Option AV} {e : Ev} : mVar 7 (a :: b :: c :: d :: f :: g :: h :: some v :: e) S = .ok v S := rfl
theorem x_v8 {a b c d f g h i : Option AV} {e : Ev} : mVar 8 (a :: b :: c :: d :: f :: g :: h :: i :: some v :: e) S = .ok v S := rfl
theorem x_s1 {a p o : Option AV} {e : Ev} : List.set (a :: o :: e) 1 p = a :: p :: e := rfl
theorem x_s2 {a b p o : Option AV} {e : Ev} : List.set (a :: b :: o :: e) 2 p = a :: b :: p :: e := rfl
theorem x_s3 {a b c p o : Option AV} {e : Ev} : List.set (a :: b :: c :: o :: e) 3 p = a :: b :: c :: p :: e := rfl
theorem x_s4 {a b c d p o : Option AV} {e : Ev} : List.set (a :: b :: c :: d :: o :: e) 4 p = a :: b :: c :: d :: p :: e := rfl
theorem x_s5 {a b c d f p o : Option AV} {e : Ev} : List.set (a :: b :: c :: d :: f :: o :: e) 5 p = a :: b :: c :: d :: f :: p :: e := rfl
theorem x_s6 {a b c d f g p o : Option AV} {e : Ev} : List.set (a :: b :: c :: d :: f :: g :: o :: e) 6 p = a :: b :: c :: d :: f :: g :: p :: e := rfl
theorem x_s7 {a b c d f g h p o : Option AV} {e : Ev} : List.set (a :: b :: c :: d :: f :: g :: h :: o :: e) 7 p = a :: b :: c :: d :: f :: g :: h :: p :: e := rfl
theorem x_s8 {a b c d f g h i p o : Option AV} {e : Ev} : List.set (a :: b :: c :: d :: f :: g :: h :: i :: o :: e) 8 p = a :: b :: c :: d :: f :: g :: h :: i :: p :: e := rfl
theorem x_c : mC v env S = .ok v S := rfl
theorem x_bin : mBin f m1 m2 env S = (m1 env S).bind fun v S1 => (m2 env S1).bind fun w S2 => f v w S2 := rfl
theorem x_tst : mTst m env S = (m env S).bind fun v S1 => tst v S1 := rfl
theorem x_tstb {b : Bool} : tst (.bl b) S = .ok b S := rfl
theorem x_and : mAnd t1 t2 env S = (t1 env S).bind fun k S1 => (if k = true then t2 else pureM false) env S1 := rfl
theorem x_or : mOr t1 t2 env S = (t1 env S).bind fun k S1 => (if k = true then pureM true else t2) env S1 := rfl
theorem x_not : mNot t env S = (t env S).bind fun k S1 => .ok (!k) S1 := rfl
theorem x_andV : mAndV m1 m2 env S = (mTst m1 env S).bind fun k S1 => (if k = true then m2 else mC (.bl false)) env S1 := rfl
theorem x_orV : mOrV m1 m2 env S = (mTst m1 env S).bind fun k S1 => (if k = true then mC (.bl true) else m2) env S1 := rfl
theorem x_notV : mNotV m env S = (mTst m env S).bind fun k S1 => .ok (.bl (!k)) S1 := rfl
theorem x_ife : mIfE t m1 m2 env S = (t env S).bind fun k S1 => (if k = true then m1 else m2) env S1 := rfl
theorem x_pure {v : α} : (pureM v : Ev → Store → Res α) env S = .ok v S := rfl
theorem x_nil : mNil env S = .ok [] S := rfl
theorem x_cons : mCons m ms env S = (m env S).bind fun v S1 => (ms env S1).bind fun vs S2 => .ok (v :: vs) S2 := rfl
theorem x_call {h : OpN} : mCall h ms env S = (ms env S).bind fun vs S1 => h vs S1 := rfl
theorem x_fn {h : Fn} {n : Nat} : mFn h n ms env S = (ms env S).bind fun vs S1 => if vs.length = n then h vs S1 else .bad := rfl
theorem x_tup : mTup ms env S = (ms env S).bind fun vs S1 => mkT vs S1 := rfl
theorem x_lst : mLst ms env S = (ms env S).bind fun vs S1 => mkL vs S1 := rfl
theorem x_lstM : mLstM ms env S = (ms env S).bind fun vs S1 => mkM vs S1 := rfl
theorem x_neg : mNeg m env S = (m env S).bind fun v S1 => negV v S1 := rfl
theorem x_negI {i : Int} : negV (.int i) S = .ok (.int (-i)) S := rfl
theorem x_chain : mChain f g m1 m2 m3 env S = (m1 env S).bind fun v S1 => (m2 env S1).bind fun w S2 => (f v w S2).bind fun z S3 => (tst z S3).bind fun k S4 => (if k = true then Ve.bindM m3 fun u => fun _ S => g w u S else mC (.bl false)) env S4 := rfl
theorem x_bindM {m : Ev → Store → Res α} {k : α → Ev → Store → Res β} : Ve.bindM m k env S = (m env S).bind fun v S1 => k v env S1 := rfl
theorem x_dput {b : Nat} : mDPut b m1 m2 m3 env S = (m3 env S).toS env fun v S1 => (m1 env S1).toS env fun o S2 => (m2 env S2).toS env fun k S3 => match dputS b o k v S3 with
  | some S4 => .nx env S4
  | none => .bad := rfl
theorem x_att {cs : List Nat} {f : Str} : mAtt cs f m env S = (m env S).bind fun v S1 => attV cs f v S1 := rfl
theorem x_run {md n : Nat} {ms : Nat → MS} {args : List AV} : runF md n ms args S = collect md S.length (ms S.length (args.map some ++ List.replicate (n - args.length) none) S) := rfl
theorem x_ifT {α : Type} {a b : α} : (if true = true then a else b) = a := rfl
theorem x_ifF {α : Type} {a b : α} : (if false = true then a else b) = b := rfl
end
end Ve

set_option Elab.async false
set_option linter.all false
set_option maxRecDepth 100000
set_option maxHeartbeats 4000000
/-! printed by gen.py -/
namespace K05
open PySem PySem.Spec PyProof.Rows L2 Ve
noncomputable section
def top (i : Nat) : Stmt := PySem.Challenge.pw_carrynet_k05_errors_by_hand.main.body.getD i (.Pass ⟨0, 0, 0, 0⟩)
/-- the classes of errors, by number -/
def names : List Str := ["InvalidNet", "InvalidPhases", "InvalidTicks", "InvalidWalk", "InvalidCounter", "InvalidTimes", "InvalidReading", "InvalidAnswer", "TooLarge", "InvalidPrices", "InvalidDrive", "InvalidText", "NotPositive", "NotAnInput", "NothingToUndo", "CarryError", "CarryStateError"]
def fields : List (List Str) := [["index", "part"], ["index"], ["index"], ["index"], ["counter"], ["times"], ["number"], ["part"], ["limit"], ["index"], ["part"], ["word"], ["index"], ["counter"], ["action"]]
def builtins : List Str := ["len", "repr", "isinstance", "range", "list", "ValueError", "RuntimeError"]
def isiCs : List Nat := List.range 15
def isiTt (C : Nat) (n : String) : Option Bool := if n = "ValueError" then some (decide (C < 13)) else if n = "RuntimeError" then some (decide (13 ≤ C)) else none
def isiTc (C j : Nat) : Option Bool := if j < 15 then some (decide (C = j)) else if j = 15 then some (decide (C < 13)) else if j = 16 then some (decide (13 ≤ C)) else none
/-- what the derivations lean on -/
structure Cx0 (T : Tb) (P : Program) (w : World) (K : PySem.W.Frag) (mg : Str → Option Value) (base : Heap) : Prop where
  g : ∀ j, j < names.length → mg (names.getD j "") = some (.ref (T.cm j))
  n : ∀ x, x ∈ builtins → mg x = none
  r : ∀ j, j < fields.length → ErrK P w K mg base 1 (names.getD j "") (T.cm j) (fields.getD j [])
  att : ∀ {j} {f : Str} {cs : List Nat}, j ∈ cs → (∀ j ∈ cs, f ∈ fields.getD j []) → AttE K (T.cm j) f
  i : IsT T K isiCs isiTt isiTc
  d_law_source : DefK K mg "_law_source" (top 19) ["script"]
  d_law_draw : DefK K mg "_law_draw" (top 20) ["source", "limit"]
  d_law_pick : DefK K mg "_law_pick" (top 21) ["source", "items"]
  d_law_arguments : DefK K mg "_law_arguments" (top 22) ["field"]
  d_law_kinds : DefK K mg "_law_kinds" (top 23) ["error"]
  d_law_all_right : DefK K mg "_law_all_right" (top 24) ["errors", "stored", "is_state_error", "field"]
  dlaw : DefK K mg "law" (top 25) ["script"]
abbrev isiF : OpN := isiV isiCs isiTt isiTc
/-! ### _law_source -/
theorem sc_law_source : FnScope ["script"] ["script"] (defScope (top 19)) := ⟨rfl, rfl, rfl, by decide +kernel, rfl, by decide +kernel, by decide +kernel⟩
def m_law_source (b : Nat) : MS := mSq (mRet (mDisp [.inr "cells", .inr "next", .inr "rest", .inr "count"] (mCons (mBin addV (mVar 0) (mLst (mCons (mCall lenV (mCons (mVar 0) (mNil))) (mNil)))) (mCons (mC (.int 0)) (mCons (mC (.int 0)) (mCons (mC (.int 0)) (mNil))))))) (mSkip)
def f_law_source : Fn := runF 1 1 m_law_source
theorem d_law_source {T : Tb} {P : Program} {w : World} {K : PySem.W.Frag} {mg : Str → Option Value} {base : Heap} (C : Cx0 T P w K mg base) : DefG T P w K mg base 1 "_law_source" ["script"] f_law_source := by
  have sc := sc_law_source
  refine def_ve (N := ["script"]) (md := 1) (ms := m_law_source) C.d_law_source sc ⟨rfl, by decide, by decide⟩ fun f cdv A outer s H E b hr hgd tk hp => ?_
  have hu := hu_of hr
  exact vss_cons (vs_ret (ve_disp (vp_str (w_add (ve_var) (ve_lst (va_cons (w_len (C.n "len" (by decide)) (va_cons (ve_var) (va_nil))) (va_nil)))) (vp_str (ve_int) (vp_str (ve_int) (vp_str (ve_int) (vp_nil))))))) (vss_nil)
/-! ### _law_draw -/
theorem sc_law_draw : FnScope ["source", "limit", "drawn", "cell", "count", "mixed"] ["source", "limit"] (defScope (top 20)) := ⟨rfl, rfl, rfl, by decide +kernel, rfl, by decide +kernel, by decide +kernel⟩
def m_law_draw (b : Nat) : MS := mSq (mIf (mTst (mBin eqV (mBin dgV (mVar 0) (mC (.str "rest"))) (mC (.int 0)))) (mSq (mAs (mBin ixV (mBin dgV (mVar 0) (mC (.str "cells"))) (mBin modV (mBin dgV (mVar 0) (mC (.str "next"))) (mCall lenV (mCons (mBin dgV (mVar 0) (mC (.str "cells"))) (mNil))))) (gNm 3)) (mSq (mDPut b (mVar 0) (mC (.str "next")) (mBin addV (mBin dgV (mVar 0) (mC (.str "next"))) (mC (.int 1)))) (mSq (mIf (mAnd (mTst (mBin geV (mVar 3) (mBin powV (mC (.int 10)) (mC (.int 18))))) (mTst (mBin leV (mBin dgV (mVar 0) (mC (.str "next"))) (mCall lenV (mCons (mBin dgV (mVar 0) (mC (.str "cells"))) (mNil)))))) (mSq (mDPut b (mVar 0) (mC (.str "rest")) (mVar 3)) (mSkip)) (mSq (mAs (mBin addV (mBin dgV (mVar 0) (mC (.str "count"))) (mC (.int 1))) (gNm 4)) (mSq (mDPut b (mVar 0) (mC (.str "count")) (mVar 4)) (mSq (mAs (mBin modV (mBin mulV (mBin addV (mBin modV (mVar 3) (mC (.int 2147483629))) (mBin mulV (mC (.int 7919)) (mVar 4))) (mBin addV (mBin mulV (mVar 4) (mVar 4)) (mC (.int 48271)))) (mC (.int 2147483647))) (gNm 5)) (mSq (mDPut b (mVar 0) (mC (.str "rest")) (mBin mulV (mBin modV (mBin mulV (mVar 5) (mC (.int 16777619))) (mC (.int 2147483563))) (mC (.int 2147483647)))) (mSq (mDPut b (mVar 0) (mC (.str "rest")) (mBin addV (mBin addV (mBin dgV (mVar 0) (mC (.str "rest"))) (mBin modV (mBin mulV (mVar 5) (mVar 5)) (mC (.int 2147483587)))) (mC (.int 1)))) (mSkip))))))) (mSkip)))) (mSkip)) (mSq (mAs (mBin modV (mBin dgV (mVar 0) (mC (.str "rest"))) (mVar 1)) (gNm 2)) (mSq (mDPut b (mVar 0) (mC (.str "rest")) (mBin fdivV (mBin dgV (mVar 0) (mC (.str "rest"))) (mVar 1))) (mSq (mRet (mVar 2)) (mSkip))))
def f_law_draw : Fn := runF 0 6 m_law_draw
theorem d_law_draw {T : Tb} {P : Program} {w : World} {K : PySem.W.Frag} {mg : Str → Option Value} {base : Heap} (C : Cx0 T P w K mg base) : DefG T P w K mg base 1 "_law_draw" ["source", "limit"] f_law_draw := by
  have sc := sc_law_draw
  refine def_ve (N := ["source", "limit", "drawn", "cell", "count", "mixed"]) (md := 0) (ms := m_law_draw) C.d_law_draw sc ⟨rfl, by decide, by decide⟩ fun f cdv A outer s H E b hr hgd tk hp => ?_
  have hu := hu_of hr
  exact vss_cons (vs_if (vt_cm (c_eq hr) (ve_dget hu (ve_var) (ve_str)) (ve_int)) (vss_cons (vs_set sc.nd (ve_ix (ve_dget hu (ve_var) (ve_str)) (w_mod (ve_dget hu (ve_var) (ve_str)) (w_len (C.n "len" (by decide)) (va_cons (ve_dget hu (ve_var) (ve_str)) (va_nil)))))) (vss_cons (vs_dput hu (ve_var) (ve_str) (w_add (ve_dget hu (ve_var) (ve_str)) (ve_int))) (vss_cons (vs_if (VW.vt (vw_and (vt_cm (c_ge hr) (ve_var) (w_pow (ve_int) (ve_int))) (vw_and1 (vt_cm (c_le hr) (ve_dget hu (ve_var) (ve_str)) (w_len (C.n "len" (by decide)) (va_cons (ve_dget hu (ve_var) (ve_str)) (va_nil))))))) (vss_cons (vs_dput hu (ve_var) (ve_str) (ve_var)) (vss_nil)) (vss_cons (vs_set sc.nd (w_add (ve_dget hu (ve_var) (ve_str)) (ve_int))) (vss_cons (vs_dput hu (ve_var) (ve_str) (ve_var)) (vss_cons (vs_set sc.nd (w_mod (w_mul (w_add (w_mod (ve_var) (ve_int)) (w_mul (ve_int) (ve_var))) (w_add (w_mul (ve_var) (ve_var)) (ve_int))) (ve_int))) (vss_cons (vs_dput hu (ve_var) (ve_str) (w_mul (w_mod (w_mul (ve_var) (ve_int)) (ve_int)) (ve_int))) (vss_cons (vs_dput hu (ve_var) (ve_str) (w_add (w_add (ve_dget hu (ve_var) (ve_str)) (w_mod (w_mul (ve_var) (ve_var)) (ve_int))) (ve_int))) (vss_nil))))))) (vss_nil)))) (vss_nil)) (vss_cons (vs_set sc.nd (w_mod (ve_dget hu (ve_var) (ve_str)) (ve_var))) (vss_cons (vs_dput hu (ve_var) (ve_str) (w_fdiv (ve_dget hu (ve_var) (ve_str)) (ve_var))) (vss_cons (vs_ret (ve_var)) (vss_nil))))
/-! ### _law_pick -/
theorem sc_law_pick : FnScope ["source", "items"] ["source", "items"] (defScope (top 21)) := ⟨rfl, rfl, rfl, by decide +kernel, rfl, by decide +kernel, by decide +kernel⟩
def m_law_pick (b : Nat) : MS := mSq (mRet (mBin ixV (mVar 1) (mFn f_law_draw 2 (mCons (mVar 0) (mCons (mCall lenV (mCons (mVar 1) (mNil))) (mNil)))))) (mSkip)
def f_law_pick : Fn := runF 0 2 m_law_pick
theorem d_law_pick {T : Tb} {P : Program} {w : World} {K : PySem.W.Frag} {mg : Str → Option Value} {base : Heap} (C : Cx0 T P w K mg base) : DefG T P w K mg base 2 "_law_pick" ["source", "items"] f_law_pick := by
  have d_law_draw := d_law_draw C
  have sc := sc_law_pick
  refine def_ve (N := ["source", "items"]) (md := 0) (ms := m_law_pick) C.d_law_pick sc ⟨rfl, by decide, by decide⟩ fun f cdv A outer s H E b hr hgd tk hp => ?_
  have hu := hu_of hr
  exact vss_cons (vs_ret (ve_ix (ve_var) (w_call d_law_draw hr hgd tk (va_cons (ve_var) (va_cons (w_len (C.n "len" (by decide)) (va_cons (ve_var) (va_nil))) (va_nil)))))) (vss_nil)
/-! ### _law_arguments -/
theorem sc_law_arguments : FnScope ["field", "found", "stored"] ["field"] (defScope (top 22)) := ⟨rfl, rfl, rfl, by decide +kernel, rfl, by decide +kernel, by decide +kernel⟩
def m_law_arguments (b : Nat) : MS := mSq (mAs (mLst (mCons (mCall (errV 0 ["index", "part"]) (mCons (mVar 0) (mCons (mVar 0) (mNil)))) (mCons (mCall (errV 1 ["index"]) (mCons (mVar 0) (mNil))) (mCons (mCall (errV 2 ["index"]) (mCons (mVar 0) (mNil))) (mCons (mCall (errV 3 ["index"]) (mCons (mVar 0) (mNil))) (mNil)))))) (gNm 1)) (mSq (mAs (mBin addV (mVar 1) (mLst (mCons (mCall (errV 4 ["counter"]) (mCons (mVar 0) (mNil))) (mCons (mCall (errV 5 ["times"]) (mCons (mVar 0) (mNil))) (mCons (mCall (errV 6 ["number"]) (mCons (mVar 0) (mNil))) (mCons (mCall (errV 7 ["part"]) (mCons (mVar 0) (mNil))) (mNil))))))) (gNm 1)) (mSq (mAs (mBin addV (mVar 1) (mLst (mCons (mCall (errV 8 ["limit"]) (mCons (mVar 0) (mNil))) (mCons (mCall (errV 9 ["index"]) (mCons (mVar 0) (mNil))) (mCons (mCall (errV 10 ["part"]) (mCons (mVar 0) (mNil))) (mCons (mCall (errV 11 ["word"]) (mCons (mVar 0) (mNil))) (mCons (mCall (errV 12 ["index"]) (mCons (mVar 0) (mNil))) (mNil)))))))) (gNm 1)) (mSq (mAs (mLst (mCons (mAtt [0, 1, 2, 3, 9, 12] "index" (mBin ixV (mVar 1) (mC (.int 0)))) (mCons (mAtt [0, 1, 2, 3, 9, 12] "index" (mBin ixV (mVar 1) (mC (.int 1)))) (mCons (mAtt [0, 1, 2, 3, 9, 12] "index" (mBin ixV (mVar 1) (mC (.int 2)))) (mCons (mAtt [0, 1, 2, 3, 9, 12] "index" (mBin ixV (mVar 1) (mC (.int 3)))) (mCons (mAtt [4, 13] "counter" (mBin ixV (mVar 1) (mC (.int 4)))) (mCons (mAtt [5] "times" (mBin ixV (mVar 1) (mC (.int 5)))) (mNil)))))))) (gNm 2)) (mSq (mAs (mBin addV (mVar 2) (mLst (mCons (mAtt [6] "number" (mBin ixV (mVar 1) (mC (.int 6)))) (mCons (mAtt [0, 7, 10] "part" (mBin ixV (mVar 1) (mC (.int 7)))) (mCons (mAtt [8] "limit" (mBin ixV (mVar 1) (mC (.int 8)))) (mCons (mAtt [0, 1, 2, 3, 9, 12] "index" (mBin ixV (mVar 1) (mC (.int 9)))) (mCons (mAtt [0, 7, 10] "part" (mBin ixV (mVar 1) (mC (.int 10)))) (mNil)))))))) (gNm 2)) (mSq (mRet (mLst (mCons (mVar 1) (mCons (mBin addV (mVar 2) (mLst (mCons (mAtt [11] "word" (mBin ixV (mVar 1) (mC (.int 11)))) (mCons (mAtt [0, 1, 2, 3, 9, 12] "index" (mBin ixV (mVar 1) (mC (.int 12)))) (mNil))))) (mNil))))) (mSkip))))))
def f_law_arguments : Fn := runF 0 3 m_law_arguments
theorem d_law_arguments {T : Tb} {P : Program} {w : World} {K : PySem.W.Frag} {mg : Str → Option Value} {base : Heap} (C : Cx0 T P w K mg base) : DefG T P w K mg base 3 "_law_arguments" ["field"] f_law_arguments := by
  have sc := sc_law_arguments
  refine def_ve (N := ["field", "found", "stored"]) (md := 0) (ms := m_law_arguments) C.d_law_arguments sc ⟨rfl, by decide, by decide⟩ fun f cdv A outer s H E b hr hgd tk hp => ?_
  have hu := hu_of hr
  exact vss_cons (vs_set sc.nd (ve_lst (va_cons (ve_err (C.r 0 (by decide)) (hr.mono (by decide)) (va_cons (ve_var) (va_cons (ve_var) (va_nil)))) (va_cons (ve_err (C.r 1 (by decide)) (hr.mono (by decide)) (va_cons (ve_var) (va_nil))) (va_cons (ve_err (C.r 2 (by decide)) (hr.mono (by decide)) (va_cons (ve_var) (va_nil))) (va_cons (ve_err (C.r 3 (by decide)) (hr.mono (by decide)) (va_cons (ve_var) (va_nil))) (va_nil))))))) (vss_cons (vs_set sc.nd (w_add (ve_var) (ve_lst (va_cons (ve_err (C.r 4 (by decide)) (hr.mono (by decide)) (va_cons (ve_var) (va_nil))) (va_cons (ve_err (C.r 5 (by decide)) (hr.mono (by decide)) (va_cons (ve_var) (va_nil))) (va_cons (ve_err (C.r 6 (by decide)) (hr.mono (by decide)) (va_cons (ve_var) (va_nil))) (va_cons (ve_err (C.r 7 (by decide)) (hr.mono (by decide)) (va_cons (ve_var) (va_nil))) (va_nil)))))))) (vss_cons (vs_set sc.nd (w_add (ve_var) (ve_lst (va_cons (ve_err (C.r 8 (by decide)) (hr.mono (by decide)) (va_cons (ve_var) (va_nil))) (va_cons (ve_err (C.r 9 (by decide)) (hr.mono (by decide)) (va_cons (ve_var) (va_nil))) (va_cons (ve_err (C.r 10 (by decide)) (hr.mono (by decide)) (va_cons (ve_var) (va_nil))) (va_cons (ve_err (C.r 11 (by decide)) (hr.mono (by decide)) (va_cons (ve_var) (va_nil))) (va_cons (ve_err (C.r 12 (by decide)) (hr.mono (by decide)) (va_cons (ve_var) (va_nil))) (va_nil))))))))) (vss_cons (vs_set sc.nd (ve_lst (va_cons (ve_att (fun _ h => C.att h (by decide)) (ve_ix (ve_var) (ve_int))) (va_cons (ve_att (fun _ h => C.att h (by decide)) (ve_ix (ve_var) (ve_int))) (va_cons (ve_att (fun _ h => C.att h (by decide)) (ve_ix (ve_var) (ve_int))) (va_cons (ve_att (fun _ h => C.att h (by decide)) (ve_ix (ve_var) (ve_int))) (va_cons (ve_att (fun _ h => C.att h (by decide)) (ve_ix (ve_var) (ve_int))) (va_cons (ve_att (fun _ h => C.att h (by decide)) (ve_ix (ve_var) (ve_int))) (va_nil))))))))) (vss_cons (vs_set sc.nd (w_add (ve_var) (ve_lst (va_cons (ve_att (fun _ h => C.att h (by decide)) (ve_ix (ve_var) (ve_int))) (va_cons (ve_att (fun _ h => C.att h (by decide)) (ve_ix (ve_var) (ve_int))) (va_cons (ve_att (fun _ h => C.att h (by decide)) (ve_ix (ve_var) (ve_int))) (va_cons (ve_att (fun _ h => C.att h (by decide)) (ve_ix (ve_var) (ve_int))) (va_cons (ve_att (fun _ h => C.att h (by decide)) (ve_ix (ve_var) (ve_int))) (va_nil))))))))) (vss_cons (vs_ret (ve_lst (va_cons (ve_var) (va_cons (w_add (ve_var) (ve_lst (va_cons (ve_att (fun _ h => C.att h (by decide)) (ve_ix (ve_var) (ve_int))) (va_cons (ve_att (fun _ h => C.att h (by decide)) (ve_ix (ve_var) (ve_int))) (va_nil))))) (va_nil))))) (vss_nil))))))
/-! ### _law_kinds -/
theorem sc_law_kinds : FnScope ["error", "found"] ["error"] (defScope (top 23)) := ⟨rfl, rfl, rfl, by decide +kernel, rfl, by decide +kernel, by decide +kernel⟩
def m_law_kinds (b : Nat) : MS := mSq (mAs (mLst (mCons (mCall isiF (mCons (mVar 0) (mCons (mC (.at 0)) (mNil)))) (mCons (mCall isiF (mCons (mVar 0) (mCons (mC (.at 1)) (mNil)))) (mCons (mCall isiF (mCons (mVar 0) (mCons (mC (.at 2)) (mNil)))) (mNil))))) (gNm 1)) (mSq (mAs (mBin addV (mVar 1) (mLst (mCons (mCall isiF (mCons (mVar 0) (mCons (mC (.at 3)) (mNil)))) (mCons (mCall isiF (mCons (mVar 0) (mCons (mC (.at 4)) (mNil)))) (mCons (mCall isiF (mCons (mVar 0) (mCons (mC (.at 5)) (mNil)))) (mNil)))))) (gNm 1)) (mSq (mAs (mBin addV (mVar 1) (mLst (mCons (mCall isiF (mCons (mVar 0) (mCons (mC (.at 6)) (mNil)))) (mCons (mCall isiF (mCons (mVar 0) (mCons (mC (.at 7)) (mNil)))) (mCons (mCall isiF (mCons (mVar 0) (mCons (mC (.at 8)) (mNil)))) (mNil)))))) (gNm 1)) (mSq (mAs (mBin addV (mVar 1) (mLst (mCons (mCall isiF (mCons (mVar 0) (mCons (mC (.at 9)) (mNil)))) (mCons (mCall isiF (mCons (mVar 0) (mCons (mC (.at 10)) (mNil)))) (mCons (mCall isiF (mCons (mVar 0) (mCons (mC (.at 11)) (mNil)))) (mNil)))))) (gNm 1)) (mSq (mAs (mBin addV (mVar 1) (mLst (mCons (mCall isiF (mCons (mVar 0) (mCons (mC (.at 12)) (mNil)))) (mCons (mCall isiF (mCons (mVar 0) (mCons (mC (.at 13)) (mNil)))) (mCons (mCall isiF (mCons (mVar 0) (mCons (mC (.at 14)) (mNil)))) (mNil)))))) (gNm 1)) (mSq (mRet (mMeth cntV (mVar 1) (mCons (mC (.bl true)) mNil))) (mSkip))))))
def f_law_kinds : Fn := runF 0 2 m_law_kinds
theorem d_law_kinds {T : Tb} {P : Program} {w : World} {K : PySem.W.Frag} {mg : Str → Option Value} {base : Heap} (C : Cx0 T P w K mg base) : DefG T P w K mg base 1 "_law_kinds" ["error"] f_law_kinds := by
  have sc := sc_law_kinds
  refine def_ve (N := ["error", "found"]) (md := 0) (ms := m_law_kinds) C.d_law_kinds sc ⟨rfl, by decide, by decide⟩ fun f cdv A outer s H E b hr hgd tk hp => ?_
  have hu := hu_of hr
  exact vss_cons (vs_set sc.nd (ve_lst (va_cons (w_isi C.i (C.n "isinstance" (by decide)) (va_cons (ve_var) (va_cons (ve_glob (C.g 0 (by decide))) (va_nil)))) (va_cons (w_isi C.i (C.n "isinstance" (by decide)) (va_cons (ve_var) (va_cons (ve_glob (C.g 1 (by decide))) (va_nil)))) (va_cons (w_isi C.i (C.n "isinstance" (by decide)) (va_cons (ve_var) (va_cons (ve_glob (C.g 2 (by decide))) (va_nil)))) (va_nil)))))) (vss_cons (vs_set sc.nd (w_add (ve_var) (ve_lst (va_cons (w_isi C.i (C.n "isinstance" (by decide)) (va_cons (ve_var) (va_cons (ve_glob (C.g 3 (by decide))) (va_nil)))) (va_cons (w_isi C.i (C.n "isinstance" (by decide)) (va_cons (ve_var) (va_cons (ve_glob (C.g 4 (by decide))) (va_nil)))) (va_cons (w_isi C.i (C.n "isinstance" (by decide)) (va_cons (ve_var) (va_cons (ve_glob (C.g 5 (by decide))) (va_nil)))) (va_nil))))))) (vss_cons (vs_set sc.nd (w_add (ve_var) (ve_lst (va_cons (w_isi C.i (C.n "isinstance" (by decide)) (va_cons (ve_var) (va_cons (ve_glob (C.g 6 (by decide))) (va_nil)))) (va_cons (w_isi C.i (C.n "isinstance" (by decide)) (va_cons (ve_var) (va_cons (ve_glob (C.g 7 (by decide))) (va_nil)))) (va_cons (w_isi C.i (C.n "isinstance" (by decide)) (va_cons (ve_var) (va_cons (ve_glob (C.g 8 (by decide))) (va_nil)))) (va_nil))))))) (vss_cons (vs_set sc.nd (w_add (ve_var) (ve_lst (va_cons (w_isi C.i (C.n "isinstance" (by decide)) (va_cons (ve_var) (va_cons (ve_glob (C.g 9 (by decide))) (va_nil)))) (va_cons (w_isi C.i (C.n "isinstance" (by decide)) (va_cons (ve_var) (va_cons (ve_glob (C.g 10 (by decide))) (va_nil)))) (va_cons (w_isi C.i (C.n "isinstance" (by decide)) (va_cons (ve_var) (va_cons (ve_glob (C.g 11 (by decide))) (va_nil)))) (va_nil))))))) (vss_cons (vs_set sc.nd (w_add (ve_var) (ve_lst (va_cons (w_isi C.i (C.n "isinstance" (by decide)) (va_cons (ve_var) (va_cons (ve_glob (C.g 12 (by decide))) (va_nil)))) (va_cons (w_isi C.i (C.n "isinstance" (by decide)) (va_cons (ve_var) (va_cons (ve_glob (C.g 13 (by decide))) (va_nil)))) (va_cons (w_isi C.i (C.n "isinstance" (by decide)) (va_cons (ve_var) (va_cons (ve_glob (C.g 14 (by decide))) (va_nil)))) (va_nil))))))) (vss_cons (vs_ret (ve_count (ve_var) (ve_bl))) (vss_nil))))))
/-! ### _law_all_right -/
theorem sc_law_all_right : FnScope ["errors", "stored", "is_state_error", "field", "error", "bases"] ["errors", "stored", "is_state_error", "field"] (defScope (top 24)) := ⟨rfl, rfl, rfl, by decide +kernel, rfl, by decide +kernel, by decide +kernel⟩
def m_law_all_right_L1 (b : Nat) : MS := mSq (mAs (mLst (mCons (mCall isiF (mCons (mVar 4) (mCons (mC (.at 15)) (mNil)))) (mCons (mCall isiF (mCons (mVar 4) (mCons (mC (.ty "ValueError")) (mNil)))) (mNil)))) (gNm 5)) (mSq (mAs (mBin addV (mVar 5) (mLst (mCons (mCall isiF (mCons (mVar 4) (mCons (mC (.at 16)) (mNil)))) (mCons (mCall isiF (mCons (mVar 4) (mCons (mC (.ty "RuntimeError")) (mNil)))) (mNil))))) (gNm 5)) (mSq (mIf (mOr (mTst (mBin neV (mVar 5) (mBin addV (mBin mulV (mLst (mCons (mNotV (mVar 2)) (mNil))) (mC (.int 2))) (mBin mulV (mLst (mCons (mVar 2) (mNil))) (mC (.int 2)))))) (mTst (mBin neV (mFn f_law_kinds 1 (mCons (mVar 4) (mNil))) (mC (.int 1))))) (mSq (mRet (mC (.bl false))) (mSkip)) (mSkip)) (mSkip)))
def m_law_all_right (b : Nat) : MS := mSq (mIf (mTst (mCall isiF (mCons (mVar 3) (mCons (mC (.ty "list")) (mNil))))) (mSq (mEx (mMeth (appV b) (mVar 3) (mCons (mCall lenV (mCons (mVar 3) (mNil))) mNil))) (mSkip)) (mSkip)) (mSq (mIf (mTst (mBin neV (mCall reprV (mCons (mVar 1) (mNil))) (mCall reprV (mCons (mBin mulV (mLst (mCons (mVar 3) (mNil))) (mCall lenV (mCons (mVar 0) (mNil)))) (mNil))))) (mSq (mRet (mC (.bl false))) (mSkip)) (mSkip)) (mSq (mFor (mItS (mVar 0)) (gNm 4) (m_law_all_right_L1 b)) (mSq (mRet (mC (.bl true))) (mSkip))))
def f_law_all_right : Fn := runF 0 6 m_law_all_right
theorem d_law_all_right {T : Tb} {P : Program} {w : World} {K : PySem.W.Frag} {mg : Str → Option Value} {base : Heap} (C : Cx0 T P w K mg base) : DefG T P w K mg base 2 "_law_all_right" ["errors", "stored", "is_state_error", "field"] f_law_all_right := by
  have d_law_kinds := d_law_kinds C
  have sc := sc_law_all_right
  refine def_ve (N := ["errors", "stored", "is_state_error", "field", "error", "bases"]) (md := 0) (ms := m_law_all_right) C.d_law_all_right sc ⟨rfl, by decide, by decide⟩ fun f cdv A outer s H E b hr hgd tk hp => ?_
  have hu := hu_of hr
  exact vss_cons (vs_if (vt_val (w_isi C.i (C.n "isinstance" (by decide)) (va_cons (ve_var) (va_cons (w_ty (C.n "list" (by decide)) (by decide +kernel)) (va_nil))))) (vss_cons (vs_expr (ve_append (ve_var) (w_len (C.n "len" (by decide)) (va_cons (ve_var) (va_nil))))) (vss_nil)) (vss_nil)) (vss_cons (vs_if (vt_cm (c_ne hr) (w_repr hr hgd (C.n "repr" (by decide)) (va_cons (ve_var) (va_nil))) (w_repr hr hgd (C.n "repr" (by decide)) (va_cons (w_mul (ve_lst (va_cons (ve_var) (va_nil))) (w_len (C.n "len" (by decide)) (va_cons (ve_var) (va_nil)))) (va_nil)))) (vss_cons (vs_ret (ve_bl)) (vss_nil)) (vss_nil)) (vss_cons (vs_for hp (vi_seq (ve_var)) (vg_name sc.nd) (goes_nm) (vss_cons (vs_set sc.nd (ve_lst (va_cons (w_isi C.i (C.n "isinstance" (by decide)) (va_cons (ve_var) (va_cons (ve_glob (C.g 15 (by decide))) (va_nil)))) (va_cons (w_isi C.i (C.n "isinstance" (by decide)) (va_cons (ve_var) (va_cons (w_ty (C.n "ValueError" (by decide)) (by decide +kernel)) (va_nil)))) (va_nil))))) (vss_cons (vs_set sc.nd (w_add (ve_var) (ve_lst (va_cons (w_isi C.i (C.n "isinstance" (by decide)) (va_cons (ve_var) (va_cons (ve_glob (C.g 16 (by decide))) (va_nil)))) (va_cons (w_isi C.i (C.n "isinstance" (by decide)) (va_cons (ve_var) (va_cons (w_ty (C.n "RuntimeError" (by decide)) (by decide +kernel)) (va_nil)))) (va_nil)))))) (vss_cons (vs_if (VW.vt (vw_or (vt_cm (c_ne hr) (ve_var) (w_add (w_mul (ve_lst (va_cons (ve_not (ve_var)) (va_nil))) (ve_int)) (w_mul (ve_lst (va_cons (ve_var) (va_nil))) (ve_int)))) (vw_or1 (vt_cm (c_ne hr) (w_call d_law_kinds hr hgd tk (va_cons (ve_var) (va_nil))) (ve_int))))) (vss_cons (vs_ret (ve_bl)) (vss_nil)) (vss_nil)) (vss_nil))))) (vss_cons (vs_ret (ve_bl)) (vss_nil))))
/-! ### law -/
theorem sclaw : FnScope ["script", "source", "turn", "field", "errors", "two", "stored"] ["script"] (defScope (top 25)) := ⟨rfl, rfl, rfl, by decide +kernel, rfl, by decide +kernel, by decide +kernel⟩
def mlaw_s1 (b : Nat) : MS := mRet (mC (.bl false))
def mlaw_s2 (b : Nat) : MS := mRet (mC (.bl false))
def mlaw_s3 (b : Nat) : MS := mRet (mC (.bl false))
def mlaw_s4 (b : Nat) : MS := mAs (mFn f_law_pick 2 (mCons (mVar 1) (mCons (mLst (mCons (mC (.int 0)) (mCons (mC (.int 7)) (mCons (mNeg (mC (.int 1))) (mCons (mBin powV (mC (.int 10)) (mC (.int 30))) (mCons (mC .non) (mCons (mC (.str "")) (mCons (mC (.str "wires")) (mCons (mTup (mNil)) (mCons (mTup (mCons (mC (.int 1)) (mCons (mC (.int 2)) (mNil)))) (mCons (mLstM (mCons (mC (.int 3)) (mNil))) (mCons (mC .dc0) (mCons (mC (.bl true)) (mNil)))))))))))))) (mNil)))) (gNm 3)
def mlaw_s5 (b : Nat) : MS := mAs (mFn f_law_arguments 1 (mCons (mVar 3) (mNil))) (gSq 2 (gsCons (gNm 4) (gsCons (gNm 6) (gsNil))))
def mlaw_s6 (b : Nat) : MS := mIf (mOr (mNot (mTst (mFn f_law_all_right 4 (mCons (mVar 4) (mCons (mVar 6) (mCons (mC (.bl false)) (mCons (mVar 3) (mNil)))))))) (mTst (mBin neV (mCall reprV (mCons (mAtt [0, 7, 10] "part" (mBin ixV (mVar 4) (mC (.int 0)))) (mNil))) (mCall reprV (mCons (mVar 3) (mNil)))))) (mSq (mlaw_s1 b) (mSkip)) (mSkip)
def mlaw_s7 (b : Nat) : MS := mAs (mLst (mCons (mCall (errV 13 ["counter"]) (mCons (mVar 3) (mNil))) (mCons (mCall (errV 14 ["action"]) (mCons (mVar 3) (mNil))) (mNil)))) (gNm 4)
def mlaw_s8 (b : Nat) : MS := mIf (mNot (mTst (mFn f_law_all_right 4 (mCons (mVar 4) (mCons (mLst (mCons (mAtt [4, 13] "counter" (mBin ixV (mVar 4) (mC (.int 0)))) (mCons (mAtt [14] "action" (mBin ixV (mVar 4) (mC (.int 1)))) (mNil)))) (mCons (mC (.bl true)) (mCons (mVar 3) (mNil)))))))) (mSq (mlaw_s2 b) (mSkip)) (mSkip)
def mlaw_s9 (b : Nat) : MS := mAs (mCall (errV 0 ["index", "part"]) (mCons (mC (.str "wires")) (mCons (mVar 3) (mNil)))) (gNm 5)
def mlaw_s10 (b : Nat) : MS := mIf (mOr (mTst (mBin neV (mAtt [0, 7, 10] "part" (mVar 5)) (mC (.str "wires")))) (mTst (mBin neV (mCall reprV (mCons (mAtt [0, 1, 2, 3, 9, 12] "index" (mVar 5)) (mNil))) (mCall reprV (mCons (mVar 3) (mNil)))))) (mSq (mlaw_s3 b) (mSkip)) (mSkip)
def mlaw_L1 (b : Nat) : MS := mSq (mlaw_s4 b) (mSq (mlaw_s5 b) (mSq (mlaw_s6 b) (mSq (mlaw_s7 b) (mSq (mlaw_s8 b) (mSq (mlaw_s9 b) (mSq (mlaw_s10 b) (mSkip)))))))
def mlaw_s11 (b : Nat) : MS := mAs (mFn f_law_source 1 (mCons (mVar 0) (mNil))) (gNm 1)
def mlaw_s12 (b : Nat) : MS := mFor (mItR1 (mCons (mC (.int 3)) (mNil))) (gNm 2) (mlaw_L1 b)
def mlaw_s13 (b : Nat) : MS := mRet (mC (.bl true))
def mlaw (b : Nat) : MS := mSq (mlaw_s11 b) (mSq (mlaw_s12 b) (mSq (mlaw_s13 b) (mSkip)))
def flaw : Fn := runF 0 7 mlaw
theorem dlaw {T : Tb} {P : Program} {w : World} {K : PySem.W.Frag} {mg : Str → Option Value} {base : Heap} (C : Cx0 T P w K mg base) : DefG T P w K mg base 4 "law" ["script"] flaw := by
  have d_law_all_right := d_law_all_right C
  have d_law_arguments := d_law_arguments C
  have d_law_pick := d_law_pick C
  have d_law_source := d_law_source C
  have sc := sclaw
  refine def_ve (N := ["script", "source", "turn", "field", "errors", "two", "stored"]) (md := 0) (ms := mlaw) C.dlaw sc ⟨rfl, by decide, by decide⟩ fun f cdv A outer s H E b hr hgd tk hp => ?_
  have hu := hu_of hr
  exact vss_cons (vs_set sc.nd (w_call d_law_source hr hgd tk (va_cons (ve_var) (va_nil)))) (vss_cons (vs_for hp (vi_rng1 (C.n "range" (by decide)) (va_cons (ve_int) (va_nil))) (vg_name sc.nd) (goes_nm) (vss_cons (vs_set sc.nd (w_call d_law_pick hr hgd tk (va_cons (ve_var) (va_cons (ve_lst (va_cons (ve_int) (va_cons (ve_int) (va_cons (ve_neg (ve_int)) (va_cons (w_pow (ve_int) (ve_int)) (va_cons (ve_non) (va_cons (ve_str) (va_cons (ve_str) (va_cons (ve_tup (va_nil)) (va_cons (ve_tup (va_cons (ve_int) (va_cons (ve_int) (va_nil)))) (va_cons (ve_lstM (va_cons (ve_int) (va_nil))) (va_cons (ve_dc0) (va_cons (ve_bl) (va_nil)))))))))))))) (va_nil))))) (vss_cons (vs_asg (w_call d_law_arguments hr hgd tk (va_cons (ve_var) (va_nil))) (vg_seq (vgs_cons (vg_name sc.nd) (vgs_cons (vg_name sc.nd) (vgs_nil)))) (goes_sq (goes_cons (goes_nm) (goes_cons (goes_nm) (goes_nil))))) (vss_cons (vs_if (VW.vt (vw_or (vt_not (vt_val (w_call d_law_all_right hr hgd tk (va_cons (ve_var) (va_cons (ve_var) (va_cons (ve_bl) (va_cons (ve_var) (va_nil)))))))) (vw_or1 (vt_cm (c_ne hr) (w_repr hr hgd (C.n "repr" (by decide)) (va_cons (ve_att (fun _ h => C.att h (by decide)) (ve_ix (ve_var) (ve_int))) (va_nil))) (w_repr hr hgd (C.n "repr" (by decide)) (va_cons (ve_var) (va_nil))))))) (vss_cons (vs_ret (ve_bl)) (vss_nil)) (vss_nil)) (vss_cons (vs_set sc.nd (ve_lst (va_cons (ve_err (C.r 13 (by decide)) (hr.mono (by decide)) (va_cons (ve_var) (va_nil))) (va_cons (ve_err (C.r 14 (by decide)) (hr.mono (by decide)) (va_cons (ve_var) (va_nil))) (va_nil))))) (vss_cons (vs_if (vt_not (vt_val (w_call d_law_all_right hr hgd tk (va_cons (ve_var) (va_cons (ve_lst (va_cons (ve_att (fun _ h => C.att h (by decide)) (ve_ix (ve_var) (ve_int))) (va_cons (ve_att (fun _ h => C.att h (by decide)) (ve_ix (ve_var) (ve_int))) (va_nil)))) (va_cons (ve_bl) (va_cons (ve_var) (va_nil)))))))) (vss_cons (vs_ret (ve_bl)) (vss_nil)) (vss_nil)) (vss_cons (vs_set sc.nd (ve_err (C.r 0 (by decide)) (hr.mono (by decide)) (va_cons (ve_str) (va_cons (ve_var) (va_nil))))) (vss_cons (vs_if (VW.vt (vw_or (vt_cm (c_ne hr) (ve_att (fun _ h => C.att h (by decide)) (ve_var)) (ve_str)) (vw_or1 (vt_cm (c_ne hr) (w_repr hr hgd (C.n "repr" (by decide)) (va_cons (ve_att (fun _ h => C.att h (by decide)) (ve_var)) (va_nil))) (w_repr hr hgd (C.n "repr" (by decide)) (va_cons (ve_var) (va_nil))))))) (vss_cons (vs_ret (ve_bl)) (vss_nil)) (vss_nil)) (vss_nil))))))))) (vss_cons (vs_ret (ve_bl)) (vss_nil)))
end
end K05

set_option Elab.async false
set_option linter.all false
set_option maxRecDepth 100000
set_option maxHeartbeats 4000000
namespace K05
open PySem PySem.Spec PyProof.Rows L2 Ve
theorem sE0 : FnScope ["self", "part", "index"] ["self", "part", "index"] (defScope (inClass (top 2) 0)) := ⟨rfl, rfl, rfl, by decide +kernel, rfl, by decide +kernel, by decide +kernel⟩
theorem rE0 {P : Program} {w : World} {K : PySem.W.Frag} {mg : Str → Option Value} {base : Heap} {f C : Addr} {fd : FuncData} (F : Fun K "__init__" "InvalidNet.__init__" (inClass (top 2) 0) f fd) (hm : mg "InvalidNet" = some (.ref C)) (E : ErrF K C ["index", "part"]) (hi : initA K C = f) : ErrK P w K mg base 1 "InvalidNet" C ["index", "part"] := by
  have Y : ClsE K C f := hi ▸ E.cl
  exact ⟨hm, f, fd, ["self", "part", "index"], Y, init2 F sE0 rfl rfl Y (E.no _ (by decide)) (E.no _ (by decide)) fun cdv A outer s H E => pss_cons (ps_est (pe_var (i := 0) rfl (.inl rfl) (by decide) (by decide)) (pe_var (i := 1) rfl (.inl rfl) (by decide) (by decide))) (pss_one (ps_est (pe_var (i := 0) rfl (.inl rfl) (by decide) (by decide)) (pe_var (i := 2) rfl (.inl rfl) (by decide) (by decide)))), F.binds fun _ _ _ _ _ _ us hl => match us, hl with | [_, _, _], _ => rfl, rfl⟩
theorem sE1 : FnScope ["self", "index"] ["self", "index"] (defScope (inClass (top 3) 0)) := ⟨rfl, rfl, rfl, by decide +kernel, rfl, by decide +kernel, by decide +kernel⟩
theorem rE1 {P : Program} {w : World} {K : PySem.W.Frag} {mg : Str → Option Value} {base : Heap} {f C : Addr} {fd : FuncData} (F : Fun K "__init__" "InvalidPhases.__init__" (inClass (top 3) 0) f fd) (hm : mg "InvalidPhases" = some (.ref C)) (E : ErrF K C ["index"]) (hi : initA K C = f) : ErrK P w K mg base 1 "InvalidPhases" C ["index"] := by
  have Y : ClsE K C f := hi ▸ E.cl
  exact ⟨hm, f, fd, ["self", "index"], Y, init1 F sE1 rfl rfl Y (E.no _ (by decide)) fun cdv A outer s H E => pss_one (ps_est (pe_var (i := 0) rfl (.inl rfl) (by decide) (by decide)) (pe_var (i := 1) rfl (.inl rfl) (by decide) (by decide))), F.binds fun _ _ _ _ _ _ us hl => match us, hl with | [_, _], _ => rfl, rfl⟩
theorem sE2 : FnScope ["self", "index"] ["self", "index"] (defScope (inClass (top 4) 0)) := ⟨rfl, rfl, rfl, by decide +kernel, rfl, by decide +kernel, by decide +kernel⟩
theorem rE2 {P : Program} {w : World} {K : PySem.W.Frag} {mg : Str → Option Value} {base : Heap} {f C : Addr} {fd : FuncData} (F : Fun K "__init__" "InvalidTicks.__init__" (inClass (top 4) 0) f fd) (hm : mg "InvalidTicks" = some (.ref C)) (E : ErrF K C ["index"]) (hi : initA K C = f) : ErrK P w K mg base 1 "InvalidTicks" C ["index"] := by
  have Y : ClsE K C f := hi ▸ E.cl
  exact ⟨hm, f, fd, ["self", "index"], Y, init1 F sE2 rfl rfl Y (E.no _ (by decide)) fun cdv A outer s H E => pss_one (ps_est (pe_var (i := 0) rfl (.inl rfl) (by decide) (by decide)) (pe_var (i := 1) rfl (.inl rfl) (by decide) (by decide))), F.binds fun _ _ _ _ _ _ us hl => match us, hl with | [_, _], _ => rfl, rfl⟩
theorem sE3 : FnScope ["self", "index"] ["self", "index"] (defScope (inClass (top 5) 0)) := ⟨rfl, rfl, rfl, by decide +kernel, rfl, by decide +kernel, by decide +kernel⟩
theorem rE3 {P : Program} {w : World} {K : PySem.W.Frag} {mg : Str → Option Value} {base : Heap} {f C : Addr} {fd : FuncData} (F : Fun K "__init__" "InvalidWalk.__init__" (inClass (top 5) 0) f fd) (hm : mg "InvalidWalk" = some (.ref C)) (E : ErrF K C ["index"]) (hi : initA K C = f) : ErrK P w K mg base 1 "InvalidWalk" C ["index"] := by
  have Y : ClsE K C f := hi ▸ E.cl
  exact ⟨hm, f, fd, ["self", "index"], Y, init1 F sE3 rfl rfl Y (E.no _ (by decide)) fun cdv A outer s H E => pss_one (ps_est (pe_var (i := 0) rfl (.inl rfl) (by decide) (by decide)) (pe_var (i := 1) rfl (.inl rfl) (by decide) (by decide))), F.binds fun _ _ _ _ _ _ us hl => match us, hl with | [_, _], _ => rfl, rfl⟩
theorem sE4 : FnScope ["self", "counter"] ["self", "counter"] (defScope (inClass (top 6) 0)) := ⟨rfl, rfl, rfl, by decide +kernel, rfl, by decide +kernel, by decide +kernel⟩
theorem rE4 {P : Program} {w : World} {K : PySem.W.Frag} {mg : Str → Option Value} {base : Heap} {f C : Addr} {fd : FuncData} (F : Fun K "__init__" "InvalidCounter.__init__" (inClass (top 6) 0) f fd) (hm : mg "InvalidCounter" = some (.ref C)) (E : ErrF K C ["counter"]) (hi : initA K C = f) : ErrK P w K mg base 1 "InvalidCounter" C ["counter"] := by
  have Y : ClsE K C f := hi ▸ E.cl
  exact ⟨hm, f, fd, ["self", "counter"], Y, init1 F sE4 rfl rfl Y (E.no _ (by decide)) fun cdv A outer s H E => pss_one (ps_est (pe_var (i := 0) rfl (.inl rfl) (by decide) (by decide)) (pe_var (i := 1) rfl (.inl rfl) (by decide) (by decide))), F.binds fun _ _ _ _ _ _ us hl => match us, hl with | [_, _], _ => rfl, rfl⟩
theorem sE5 : FnScope ["self", "times"] ["self", "times"] (defScope (inClass (top 7) 0)) := ⟨rfl, rfl, rfl, by decide +kernel, rfl, by decide +kernel, by decide +kernel⟩
theorem rE5 {P : Program} {w : World} {K : PySem.W.Frag} {mg : Str → Option Value} {base : Heap} {f C : Addr} {fd : FuncData} (F : Fun K "__init__" "InvalidTimes.__init__" (inClass (top 7) 0) f fd) (hm : mg "InvalidTimes" = some (.ref C)) (E : ErrF K C ["times"]) (hi : initA K C = f) : ErrK P w K mg base 1 "InvalidTimes" C ["times"] := by
  have Y : ClsE K C f := hi ▸ E.cl
  exact ⟨hm, f, fd, ["self", "times"], Y, init1 F sE5 rfl rfl Y (E.no _ (by decide)) fun cdv A outer s H E => pss_one (ps_est (pe_var (i := 0) rfl (.inl rfl) (by decide) (by decide)) (pe_var (i := 1) rfl (.inl rfl) (by decide) (by decide))), F.binds fun _ _ _ _ _ _ us hl => match us, hl with | [_, _], _ => rfl, rfl⟩
theorem sE6 : FnScope ["self", "number"] ["self", "number"] (defScope (inClass (top 8) 0)) := ⟨rfl, rfl, rfl, by decide +kernel, rfl, by decide +kernel, by decide +kernel⟩
theorem rE6 {P : Program} {w : World} {K : PySem.W.Frag} {mg : Str → Option Value} {base : Heap} {f C : Addr} {fd : FuncData} (F : Fun K "__init__" "InvalidReading.__init__" (inClass (top 8) 0) f fd) (hm : mg "InvalidReading" = some (.ref C)) (E : ErrF K C ["number"]) (hi : initA K C = f) : ErrK P w K mg base 1 "InvalidReading" C ["number"] := by
  have Y : ClsE K C f := hi ▸ E.cl
  exact ⟨hm, f, fd, ["self", "number"], Y, init1 F sE6 rfl rfl Y (E.no _ (by decide)) fun cdv A outer s H E => pss_one (ps_est (pe_var (i := 0) rfl (.inl rfl) (by decide) (by decide)) (pe_var (i := 1) rfl (.inl rfl) (by decide) (by decide))), F.binds fun _ _ _ _ _ _ us hl => match us, hl with | [_, _], _ => rfl, rfl⟩
theorem sE7 : FnScope ["self", "part"] ["self", "part"] (defScope (inClass (top 9) 0)) := ⟨rfl, rfl, rfl, by decide +kernel, rfl, by decide +kernel, by decide +kernel⟩
theorem rE7 {P : Program} {w : World} {K : PySem.W.Frag} {mg : Str → Option Value} {base : Heap} {f C : Addr} {fd : FuncData} (F : Fun K "__init__" "InvalidAnswer.__init__" (inClass (top 9) 0) f fd) (hm : mg "InvalidAnswer" = some (.ref C)) (E : ErrF K C ["part"]) (hi : initA K C = f) : ErrK P w K mg base 1 "InvalidAnswer" C ["part"] := by
  have Y : ClsE K C f := hi ▸ E.cl
  exact ⟨hm, f, fd, ["self", "part"], Y, init1 F sE7 rfl rfl Y (E.no _ (by decide)) fun cdv A outer s H E => pss_one (ps_est (pe_var (i := 0) rfl (.inl rfl) (by decide) (by decide)) (pe_var (i := 1) rfl (.inl rfl) (by decide) (by decide))), F.binds fun _ _ _ _ _ _ us hl => match us, hl with | [_, _], _ => rfl, rfl⟩
theorem sE8 : FnScope ["self", "limit"] ["self", "limit"] (defScope (inClass (top 10) 0)) := ⟨rfl, rfl, rfl, by decide +kernel, rfl, by decide +kernel, by decide +kernel⟩
theorem rE8 {P : Program} {w : World} {K : PySem.W.Frag} {mg : Str → Option Value} {base : Heap} {f C : Addr} {fd : FuncData} (F : Fun K "__init__" "TooLarge.__init__" (inClass (top 10) 0) f fd) (hm : mg "TooLarge" = some (.ref C)) (E : ErrF K C ["limit"]) (hi : initA K C = f) : ErrK P w K mg base 1 "TooLarge" C ["limit"] := by
  have Y : ClsE K C f := hi ▸ E.cl
  exact ⟨hm, f, fd, ["self", "limit"], Y, init1 F sE8 rfl rfl Y (E.no _ (by decide)) fun cdv A outer s H E => pss_one (ps_est (pe_var (i := 0) rfl (.inl rfl) (by decide) (by decide)) (pe_var (i := 1) rfl (.inl rfl) (by decide) (by decide))), F.binds fun _ _ _ _ _ _ us hl => match us, hl with | [_, _], _ => rfl, rfl⟩
theorem sE9 : FnScope ["self", "index"] ["self", "index"] (defScope (inClass (top 11) 0)) := ⟨rfl, rfl, rfl, by decide +kernel, rfl, by decide +kernel, by decide +kernel⟩
theorem rE9 {P : Program} {w : World} {K : PySem.W.Frag} {mg : Str → Option Value} {base : Heap} {f C : Addr} {fd : FuncData} (F : Fun K "__init__" "InvalidPrices.__init__" (inClass (top 11) 0) f fd) (hm : mg "InvalidPrices" = some (.ref C)) (E : ErrF K C ["index"]) (hi : initA K C = f) : ErrK P w K mg base 1 "InvalidPrices" C ["index"] := by
  have Y : ClsE K C f := hi ▸ E.cl
  exact ⟨hm, f, fd, ["self", "index"], Y, init1 F sE9 rfl rfl Y (E.no _ (by decide)) fun cdv A outer s H E => pss_one (ps_est (pe_var (i := 0) rfl (.inl rfl) (by decide) (by decide)) (pe_var (i := 1) rfl (.inl rfl) (by decide) (by decide))), F.binds fun _ _ _ _ _ _ us hl => match us, hl with | [_, _], _ => rfl, rfl⟩
theorem sE10 : FnScope ["self", "part"] ["self", "part"] (defScope (inClass (top 12) 0)) := ⟨rfl, rfl, rfl, by decide +kernel, rfl, by decide +kernel, by decide +kernel⟩
theorem rE10 {P : Program} {w : World} {K : PySem.W.Frag} {mg : Str → Option Value} {base : Heap} {f C : Addr} {fd : FuncData} (F : Fun K "__init__" "InvalidDrive.__init__" (inClass (top 12) 0) f fd) (hm : mg "InvalidDrive" = some (.ref C)) (E : ErrF K C ["part"]) (hi : initA K C = f) : ErrK P w K mg base 1 "InvalidDrive" C ["part"] := by
  have Y : ClsE K C f := hi ▸ E.cl
  exact ⟨hm, f, fd, ["self", "part"], Y, init1 F sE10 rfl rfl Y (E.no _ (by decide)) fun cdv A outer s H E => pss_one (ps_est (pe_var (i := 0) rfl (.inl rfl) (by decide) (by decide)) (pe_var (i := 1) rfl (.inl rfl) (by decide) (by decide))), F.binds fun _ _ _ _ _ _ us hl => match us, hl with | [_, _], _ => rfl, rfl⟩
theorem sE11 : FnScope ["self", "word"] ["self", "word"] (defScope (inClass (top 13) 0)) := ⟨rfl, rfl, rfl, by decide +kernel, rfl, by decide +kernel, by decide +kernel⟩
theorem rE11 {P : Program} {w : World} {K : PySem.W.Frag} {mg : Str → Option Value} {base : Heap} {f C : Addr} {fd : FuncData} (F : Fun K "__init__" "InvalidText.__init__" (inClass (top 13) 0) f fd) (hm : mg "InvalidText" = some (.ref C)) (E : ErrF K C ["word"]) (hi : initA K C = f) : ErrK P w K mg base 1 "InvalidText" C ["word"] := by
  have Y : ClsE K C f := hi ▸ E.cl
  exact ⟨hm, f, fd, ["self", "word"], Y, init1 F sE11 rfl rfl Y (E.no _ (by decide)) fun cdv A outer s H E => pss_one (ps_est (pe_var (i := 0) rfl (.inl rfl) (by decide) (by decide)) (pe_var (i := 1) rfl (.inl rfl) (by decide) (by decide))), F.binds fun _ _ _ _ _ _ us hl => match us, hl with | [_, _], _ => rfl, rfl⟩
theorem sE12 : FnScope ["self", "index"] ["self", "index"] (defScope (inClass (top 14) 0)) := ⟨rfl, rfl, rfl, by decide +kernel, rfl, by decide +kernel, by decide +kernel⟩
theorem rE12 {P : Program} {w : World} {K : PySem.W.Frag} {mg : Str → Option Value} {base : Heap} {f C : Addr} {fd : FuncData} (F : Fun K "__init__" "NotPositive.__init__" (inClass (top 14) 0) f fd) (hm : mg "NotPositive" = some (.ref C)) (E : ErrF K C ["index"]) (hi : initA K C = f) : ErrK P w K mg base 1 "NotPositive" C ["index"] := by
  have Y : ClsE K C f := hi ▸ E.cl
  exact ⟨hm, f, fd, ["self", "index"], Y, init1 F sE12 rfl rfl Y (E.no _ (by decide)) fun cdv A outer s H E => pss_one (ps_est (pe_var (i := 0) rfl (.inl rfl) (by decide) (by decide)) (pe_var (i := 1) rfl (.inl rfl) (by decide) (by decide))), F.binds fun _ _ _ _ _ _ us hl => match us, hl with | [_, _], _ => rfl, rfl⟩
theorem sE13 : FnScope ["self", "counter"] ["self", "counter"] (defScope (inClass (top 16) 0)) := ⟨rfl, rfl, rfl, by decide +kernel, rfl, by decide +kernel, by decide +kernel⟩
theorem rE13 {P : Program} {w : World} {K : PySem.W.Frag} {mg : Str → Option Value} {base : Heap} {f C : Addr} {fd : FuncData} (F : Fun K "__init__" "NotAnInput.__init__" (inClass (top 16) 0) f fd) (hm : mg "NotAnInput" = some (.ref C)) (E : ErrF K C ["counter"]) (hi : initA K C = f) : ErrK P w K mg base 1 "NotAnInput" C ["counter"] := by
  have Y : ClsE K C f := hi ▸ E.cl
  exact ⟨hm, f, fd, ["self", "counter"], Y, init1 F sE13 rfl rfl Y (E.no _ (by decide)) fun cdv A outer s H E => pss_one (ps_est (pe_var (i := 0) rfl (.inl rfl) (by decide) (by decide)) (pe_var (i := 1) rfl (.inl rfl) (by decide) (by decide))), F.binds fun _ _ _ _ _ _ us hl => match us, hl with | [_, _], _ => rfl, rfl⟩
theorem sE14 : FnScope ["self", "action"] ["self", "action"] (defScope (inClass (top 17) 0)) := ⟨rfl, rfl, rfl, by decide +kernel, rfl, by decide +kernel, by decide +kernel⟩
theorem rE14 {P : Program} {w : World} {K : PySem.W.Frag} {mg : Str → Option Value} {base : Heap} {f C : Addr} {fd : FuncData} (F : Fun K "__init__" "NothingToUndo.__init__" (inClass (top 17) 0) f fd) (hm : mg "NothingToUndo" = some (.ref C)) (E : ErrF K C ["action"]) (hi : initA K C = f) : ErrK P w K mg base 1 "NothingToUndo" C ["action"] := by
  have Y : ClsE K C f := hi ▸ E.cl
  exact ⟨hm, f, fd, ["self", "action"], Y, init1 F sE14 rfl rfl Y (E.no _ (by decide)) fun cdv A outer s H E => pss_one (ps_est (pe_var (i := 0) rfl (.inl rfl) (by decide) (by decide)) (pe_var (i := 1) rfl (.inl rfl) (by decide) (by decide))), F.binds fun _ _ _ _ _ _ us hl => match us, hl with | [_, _], _ => rfl, rfl⟩
/-- one look at the written part -/
def chkB (K : PySem.W.Frag) : Bool :=
  (List.range names.length).all (fun j => glB K (names.getD j "")) && (List.range fields.length).all (fun j => errB K (cmN K names j) (fields.getD j [])) && tabB K (cmN K names) isiCs (List.range names.length) ["ValueError", "RuntimeError"] isiTt isiTc
  && builtins.all fun x => PySem.W.nsIn K mainGlobals x == some none
theorem ctx {P : Program} {w : World} {K : PySem.W.Frag} {mg : Str → Option Value} {h : Heap} (X : K.In h) (G : h.Ns mainGlobals mg) (chk : chkB K = true)
    {C0 i0 : Addr} {oc0 kV0 dc0 pm0 cd0 ct0 : Value} {od0 an0 : Option Addr} {sl0 : Array (Option Value)} (e0 : PySem.W.nsIn K mainGlobals "InvalidNet" = some (some (.ref C0))) (a0 : PySem.W.findIn K (.ref C0) "__init__" = some (some (.ref i0))) (l0 : K.lookup i0 = some ⟨oc0, od0, .func (PySem.W.fnOf "__init__" "InvalidNet.__init__" (defArgs (inClass (top 2) 0)) (defBody (inClass (top 2) 0)) (defScope (inClass (top 2) 0)) .none kV0 dc0 pm0 an0 cd0 ct0), sl0⟩) (c0 : PySem.W.codeIn K cd0 "InvalidNet.__init__" = true) (k0 : PySem.W.keepIn K (.ref i0) = true)
    {C1 i1 : Addr} {oc1 kV1 dc1 pm1 cd1 ct1 : Value} {od1 an1 : Option Addr} {sl1 : Array (Option Value)} (e1 : PySem.W.nsIn K mainGlobals "InvalidPhases" = some (some (.ref C1))) (a1 : PySem.W.findIn K (.ref C1) "__init__" = some (some (.ref i1))) (l1 : K.lookup i1 = some ⟨oc1, od1, .func (PySem.W.fnOf "__init__" "InvalidPhases.__init__" (defArgs (inClass (top 3) 0)) (defBody (inClass (top 3) 0)) (defScope (inClass (top 3) 0)) .none kV1 dc1 pm1 an1 cd1 ct1), sl1⟩) (c1 : PySem.W.codeIn K cd1 "InvalidPhases.__init__" = true) (k1 : PySem.W.keepIn K (.ref i1) = true)
    {C2 i2 : Addr} {oc2 kV2 dc2 pm2 cd2 ct2 : Value} {od2 an2 : Option Addr} {sl2 : Array (Option Value)} (e2 : PySem.W.nsIn K mainGlobals "InvalidTicks" = some (some (.ref C2))) (a2 : PySem.W.findIn K (.ref C2) "__init__" = some (some (.ref i2))) (l2 : K.lookup i2 = some ⟨oc2, od2, .func (PySem.W.fnOf "__init__" "InvalidTicks.__init__" (defArgs (inClass (top 4) 0)) (defBody (inClass (top 4) 0)) (defScope (inClass (top 4) 0)) .none kV2 dc2 pm2 an2 cd2 ct2), sl2⟩) (c2 : PySem.W.codeIn K cd2 "InvalidTicks.__init__" = true) (k2 : PySem.W.keepIn K (.ref i2) = true)
    {C3 i3 : Addr} {oc3 kV3 dc3 pm3 cd3 ct3 : Value} {od3 an3 : Option Addr} {sl3 : Array (Option Value)} (e3 : PySem.W.nsIn K mainGlobals "InvalidWalk" = some (some (.ref C3))) (a3 : PySem.W.findIn K (.ref C3) "__init__" = some (some (.ref i3))) (l3 : K.lookup i3 = some ⟨oc3, od3, .func (PySem.W.fnOf "__init__" "InvalidWalk.__init__" (defArgs (inClass (top 5) 0)) (defBody (inClass (top 5) 0)) (defScope (inClass (top 5) 0)) .none kV3 dc3 pm3 an3 cd3 ct3), sl3⟩) (c3 : PySem.W.codeIn K cd3 "InvalidWalk.__init__" = true) (k3 : PySem.W.keepIn K (.ref i3) = true)
    {C4 i4 : Addr} {oc4 kV4 dc4 pm4 cd4 ct4 : Value} {od4 an4 : Option Addr} {sl4 : Array (Option Value)} (e4 : PySem.W.nsIn K mainGlobals "InvalidCounter" = some (some (.ref C4))) (a4 : PySem.W.findIn K (.ref C4) "__init__" = some (some (.ref i4))) (l4 : K.lookup i4 = some ⟨oc4, od4, .func (PySem.W.fnOf "__init__" "InvalidCounter.__init__" (defArgs (inClass (top 6) 0)) (defBody (inClass (top 6) 0)) (defScope (inClass (top 6) 0)) .none kV4 dc4 pm4 an4 cd4 ct4), sl4⟩) (c4 : PySem.W.codeIn K cd4 "InvalidCounter.__init__" = true) (k4 : PySem.W.keepIn K (.ref i4) = true)
    {C5 i5 : Addr} {oc5 kV5 dc5 pm5 cd5 ct5 : Value} {od5 an5 : Option Addr} {sl5 : Array (Option Value)} (e5 : PySem.W.nsIn K mainGlobals "InvalidTimes" = some (some (.ref C5))) (a5 : PySem.W.findIn K (.ref C5) "__init__" = some (some (.ref i5))) (l5 : K.lookup i5 = some ⟨oc5, od5, .func (PySem.W.fnOf "__init__" "InvalidTimes.__init__" (defArgs (inClass (top 7) 0)) (defBody (inClass (top 7) 0)) (defScope (inClass (top 7) 0)) .none kV5 dc5 pm5 an5 cd5 ct5), sl5⟩) (c5 : PySem.W.codeIn K cd5 "InvalidTimes.__init__" = true) (k5 : PySem.W.keepIn K (.ref i5) = true)
    {C6 i6 : Addr} {oc6 kV6 dc6 pm6 cd6 ct6 : Value} {od6 an6 : Option Addr} {sl6 : Array (Option Value)} (e6 : PySem.W.nsIn K mainGlobals "InvalidReading" = some (some (.ref C6))) (a6 : PySem.W.findIn K (.ref C6) "__init__" = some (some (.ref i6))) (l6 : K.lookup i6 = some ⟨oc6, od6, .func (PySem.W.fnOf "__init__" "InvalidReading.__init__" (defArgs (inClass (top 8) 0)) (defBody (inClass (top 8) 0)) (defScope (inClass (top 8) 0)) .none kV6 dc6 pm6 an6 cd6 ct6), sl6⟩) (c6 : PySem.W.codeIn K cd6 "InvalidReading.__init__" = true) (k6 : PySem.W.keepIn K (.ref i6) = true)
    {C7 i7 : Addr} {oc7 kV7 dc7 pm7 cd7 ct7 : Value} {od7 an7 : Option Addr} {sl7 : Array (Option Value)} (e7 : PySem.W.nsIn K mainGlobals "InvalidAnswer" = some (some (.ref C7))) (a7 : PySem.W.findIn K (.ref C7) "__init__" = some (some (.ref i7))) (l7 : K.lookup i7 = some ⟨oc7, od7, .func (PySem.W.fnOf "__init__" "InvalidAnswer.__init__" (defArgs (inClass (top 9) 0)) (defBody (inClass (top 9) 0)) (defScope (inClass (top 9) 0)) .none kV7 dc7 pm7 an7 cd7 ct7), sl7⟩) (c7 : PySem.W.codeIn K cd7 "InvalidAnswer.__init__" = true) (k7 : PySem.W.keepIn K (.ref i7) = true)
    {C8 i8 : Addr} {oc8 kV8 dc8 pm8 cd8 ct8 : Value} {od8 an8 : Option Addr} {sl8 : Array (Option Value)} (e8 : PySem.W.nsIn K mainGlobals "TooLarge" = some (some (.ref C8))) (a8 : PySem.W.findIn K (.ref C8) "__init__" = some (some (.ref i8))) (l8 : K.lookup i8 = some ⟨oc8, od8, .func (PySem.W.fnOf "__init__" "TooLarge.__init__" (defArgs (inClass (top 10) 0)) (defBody (inClass (top 10) 0)) (defScope (inClass (top 10) 0)) .none kV8 dc8 pm8 an8 cd8 ct8), sl8⟩) (c8 : PySem.W.codeIn K cd8 "TooLarge.__init__" = true) (k8 : PySem.W.keepIn K (.ref i8) = true)
    {C9 i9 : Addr} {oc9 kV9 dc9 pm9 cd9 ct9 : Value} {od9 an9 : Option Addr} {sl9 : Array (Option Value)} (e9 : PySem.W.nsIn K mainGlobals "InvalidPrices" = some (some (.ref C9))) (a9 : PySem.W.findIn K (.ref C9) "__init__" = some (some (.ref i9))) (l9 : K.lookup i9 = some ⟨oc9, od9, .func (PySem.W.fnOf "__init__" "InvalidPrices.__init__" (defArgs (inClass (top 11) 0)) (defBody (inClass (top 11) 0)) (defScope (inClass (top 11) 0)) .none kV9 dc9 pm9 an9 cd9 ct9), sl9⟩) (c9 : PySem.W.codeIn K cd9 "InvalidPrices.__init__" = true) (k9 : PySem.W.keepIn K (.ref i9) = true)
    {C10 i10 : Addr} {oc10 kV10 dc10 pm10 cd10 ct10 : Value} {od10 an10 : Option Addr} {sl10 : Array (Option Value)} (e10 : PySem.W.nsIn K mainGlobals "InvalidDrive" = some (some (.ref C10))) (a10 : PySem.W.findIn K (.ref C10) "__init__" = some (some (.ref i10))) (l10 : K.lookup i10 = some ⟨oc10, od10, .func (PySem.W.fnOf "__init__" "InvalidDrive.__init__" (defArgs (inClass (top 12) 0)) (defBody (inClass (top 12) 0)) (defScope (inClass (top 12) 0)) .none kV10 dc10 pm10 an10 cd10 ct10), sl10⟩) (c10 : PySem.W.codeIn K cd10 "InvalidDrive.__init__" = true) (k10 : PySem.W.keepIn K (.ref i10) = true)
    {C11 i11 : Addr} {oc11 kV11 dc11 pm11 cd11 ct11 : Value} {od11 an11 : Option Addr} {sl11 : Array (Option Value)} (e11 : PySem.W.nsIn K mainGlobals "InvalidText" = some (some (.ref C11))) (a11 : PySem.W.findIn K (.ref C11) "__init__" = some (some (.ref i11))) (l11 : K.lookup i11 = some ⟨oc11, od11, .func (PySem.W.fnOf "__init__" "InvalidText.__init__" (defArgs (inClass (top 13) 0)) (defBody (inClass (top 13) 0)) (defScope (inClass (top 13) 0)) .none kV11 dc11 pm11 an11 cd11 ct11), sl11⟩) (c11 : PySem.W.codeIn K cd11 "InvalidText.__init__" = true) (k11 : PySem.W.keepIn K (.ref i11) = true)
    {C12 i12 : Addr} {oc12 kV12 dc12 pm12 cd12 ct12 : Value} {od12 an12 : Option Addr} {sl12 : Array (Option Value)} (e12 : PySem.W.nsIn K mainGlobals "NotPositive" = some (some (.ref C12))) (a12 : PySem.W.findIn K (.ref C12) "__init__" = some (some (.ref i12))) (l12 : K.lookup i12 = some ⟨oc12, od12, .func (PySem.W.fnOf "__init__" "NotPositive.__init__" (defArgs (inClass (top 14) 0)) (defBody (inClass (top 14) 0)) (defScope (inClass (top 14) 0)) .none kV12 dc12 pm12 an12 cd12 ct12), sl12⟩) (c12 : PySem.W.codeIn K cd12 "NotPositive.__init__" = true) (k12 : PySem.W.keepIn K (.ref i12) = true)
    {C13 i13 : Addr} {oc13 kV13 dc13 pm13 cd13 ct13 : Value} {od13 an13 : Option Addr} {sl13 : Array (Option Value)} (e13 : PySem.W.nsIn K mainGlobals "NotAnInput" = some (some (.ref C13))) (a13 : PySem.W.findIn K (.ref C13) "__init__" = some (some (.ref i13))) (l13 : K.lookup i13 = some ⟨oc13, od13, .func (PySem.W.fnOf "__init__" "NotAnInput.__init__" (defArgs (inClass (top 16) 0)) (defBody (inClass (top 16) 0)) (defScope (inClass (top 16) 0)) .none kV13 dc13 pm13 an13 cd13 ct13), sl13⟩) (c13 : PySem.W.codeIn K cd13 "NotAnInput.__init__" = true) (k13 : PySem.W.keepIn K (.ref i13) = true)
    {C14 i14 : Addr} {oc14 kV14 dc14 pm14 cd14 ct14 : Value} {od14 an14 : Option Addr} {sl14 : Array (Option Value)} (e14 : PySem.W.nsIn K mainGlobals "NothingToUndo" = some (some (.ref C14))) (a14 : PySem.W.findIn K (.ref C14) "__init__" = some (some (.ref i14))) (l14 : K.lookup i14 = some ⟨oc14, od14, .func (PySem.W.fnOf "__init__" "NothingToUndo.__init__" (defArgs (inClass (top 17) 0)) (defBody (inClass (top 17) 0)) (defScope (inClass (top 17) 0)) .none kV14 dc14 pm14 an14 cd14 ct14), sl14⟩) (c14 : PySem.W.codeIn K cd14 "NothingToUndo.__init__" = true) (k14 : PySem.W.keepIn K (.ref i14) = true)
    {f_law_source : Addr} {oc_law_source kV_law_source dc_law_source pm_law_source cd_law_source ct_law_source : Value} {od_law_source an_law_source : Option Addr} {sl_law_source : Array (Option Value)} (e_law_source : PySem.W.nsIn K mainGlobals "_law_source" = some (some (.ref f_law_source))) (l_law_source : K.lookup f_law_source = some ⟨oc_law_source, od_law_source, .func (PySem.W.fnOf "_law_source" "_law_source" (defArgs (top 19)) (defBody (top 19)) (defScope (top 19)) .none kV_law_source dc_law_source pm_law_source an_law_source cd_law_source ct_law_source), sl_law_source⟩) (c_law_source : PySem.W.codeIn K cd_law_source "_law_source" = true) (k_law_source : PySem.W.keepIn K (.ref f_law_source) = true)
    {f_law_draw : Addr} {oc_law_draw kV_law_draw dc_law_draw pm_law_draw cd_law_draw ct_law_draw : Value} {od_law_draw an_law_draw : Option Addr} {sl_law_draw : Array (Option Value)} (e_law_draw : PySem.W.nsIn K mainGlobals "_law_draw" = some (some (.ref f_law_draw))) (l_law_draw : K.lookup f_law_draw = some ⟨oc_law_draw, od_law_draw, .func (PySem.W.fnOf "_law_draw" "_law_draw" (defArgs (top 20)) (defBody (top 20)) (defScope (top 20)) .none kV_law_draw dc_law_draw pm_law_draw an_law_draw cd_law_draw ct_law_draw), sl_law_draw⟩) (c_law_draw : PySem.W.codeIn K cd_law_draw "_law_draw" = true) (k_law_draw : PySem.W.keepIn K (.ref f_law_draw) = true)
    {f_law_pick : Addr} {oc_law_pick kV_law_pick dc_law_pick pm_law_pick cd_law_pick ct_law_pick : Value} {od_law_pick an_law_pick : Option Addr} {sl_law_pick : Array (Option Value)} (e_law_pick : PySem.W.nsIn K mainGlobals "_law_pick" = some (some (.ref f_law_pick))) (l_law_pick : K.lookup f_law_pick = some ⟨oc_law_pick, od_law_pick, .func (PySem.W.fnOf "_law_pick" "_law_pick" (defArgs (top 21)) (defBody (top 21)) (defScope (top 21)) .none kV_law_pick dc_law_pick pm_law_pick an_law_pick cd_law_pick ct_law_pick), sl_law_pick⟩) (c_law_pick : PySem.W.codeIn K cd_law_pick "_law_pick" = true) (k_law_pick : PySem.W.keepIn K (.ref f_law_pick) = true)
    {f_law_arguments : Addr} {oc_law_arguments kV_law_arguments dc_law_arguments pm_law_arguments cd_law_arguments ct_law_arguments : Value} {od_law_arguments an_law_arguments : Option Addr} {sl_law_arguments : Array (Option Value)} (e_law_arguments : PySem.W.nsIn K mainGlobals "_law_arguments" = some (some (.ref f_law_arguments))) (l_law_arguments : K.lookup f_law_arguments = some ⟨oc_law_arguments, od_law_arguments, .func (PySem.W.fnOf "_law_arguments" "_law_arguments" (defArgs (top 22)) (defBody (top 22)) (defScope (top 22)) .none kV_law_arguments dc_law_arguments pm_law_arguments an_law_arguments cd_law_arguments ct_law_arguments), sl_law_arguments⟩) (c_law_arguments : PySem.W.codeIn K cd_law_arguments "_law_arguments" = true) (k_law_arguments : PySem.W.keepIn K (.ref f_law_arguments) = true)
    {f_law_kinds : Addr} {oc_law_kinds kV_law_kinds dc_law_kinds pm_law_kinds cd_law_kinds ct_law_kinds : Value} {od_law_kinds an_law_kinds : Option Addr} {sl_law_kinds : Array (Option Value)} (e_law_kinds : PySem.W.nsIn K mainGlobals "_law_kinds" = some (some (.ref f_law_kinds))) (l_law_kinds : K.lookup f_law_kinds = some ⟨oc_law_kinds, od_law_kinds, .func (PySem.W.fnOf "_law_kinds" "_law_kinds" (defArgs (top 23)) (defBody (top 23)) (defScope (top 23)) .none kV_law_kinds dc_law_kinds pm_law_kinds an_law_kinds cd_law_kinds ct_law_kinds), sl_law_kinds⟩) (c_law_kinds : PySem.W.codeIn K cd_law_kinds "_law_kinds" = true) (k_law_kinds : PySem.W.keepIn K (.ref f_law_kinds) = true)
    {f_law_all_right : Addr} {oc_law_all_right kV_law_all_right dc_law_all_right pm_law_all_right cd_law_all_right ct_law_all_right : Value} {od_law_all_right an_law_all_right : Option Addr} {sl_law_all_right : Array (Option Value)} (e_law_all_right : PySem.W.nsIn K mainGlobals "_law_all_right" = some (some (.ref f_law_all_right))) (l_law_all_right : K.lookup f_law_all_right = some ⟨oc_law_all_right, od_law_all_right, .func (PySem.W.fnOf "_law_all_right" "_law_all_right" (defArgs (top 24)) (defBody (top 24)) (defScope (top 24)) .none kV_law_all_right dc_law_all_right pm_law_all_right an_law_all_right cd_law_all_right ct_law_all_right), sl_law_all_right⟩) (c_law_all_right : PySem.W.codeIn K cd_law_all_right "_law_all_right" = true) (k_law_all_right : PySem.W.keepIn K (.ref f_law_all_right) = true)
    {flaw : Addr} {oclaw kVlaw dclaw pmlaw cdlaw ctlaw : Value} {odlaw anlaw : Option Addr} {sllaw : Array (Option Value)} (elaw : PySem.W.nsIn K mainGlobals "law" = some (some (.ref flaw))) (llaw : K.lookup flaw = some ⟨oclaw, odlaw, .func (PySem.W.fnOf "law" "law" (defArgs (top 25)) (defBody (top 25)) (defScope (top 25)) .none kVlaw dclaw pmlaw anlaw cdlaw ctlaw), sllaw⟩) (claw : PySem.W.codeIn K cdlaw "law" = true) (klaw : PySem.W.keepIn K (.ref flaw) = true) :
    ∀ base, Cx0 ⟨[], cmN K names⟩ P w K mg base := by
  intro base
  unfold chkB at chk
  simp only [Bool.and_eq_true, List.all_eq_true, List.mem_range, beq_iff_eq] at chk
  obtain ⟨⟨⟨h1, h2⟩, h3⟩, h4⟩ := chk
  have hg : ∀ j, j < names.length → mg (names.getD j "") = some (.ref (cmN K names j)) := fun j hj => PySem.W.mg_of X G (gl_of (h1 j hj))
  have hE : ∀ j, j < fields.length → ErrF K (cmN K names j) (fields.getD j []) := fun j hj => err_of (h2 j hj)
  have hcs : ∀ C ∈ isiCs, C < fields.length := by decide
  simp only [tabB, Bool.and_eq_true, List.all_eq_true, Bool.or_eq_true, beq_iff_eq] at h3
  refine {
    g := hg
    n := fun x hx => PySem.W.mg_none_of X G (h4 x hx)
    r := ?r
    att := fun {j f cs} hj hf => (hE j (Nat.lt_of_not_le fun hle => by
      have := hf j hj
      rw [getD_out hle] at this
      cases this)).att (hf j hj)
    i := ⟨fun C hC => (hE C (hcs C hC)).is, fun C hC n r hr => ?t, fun C hC j r hr => ?c⟩
    d_law_source := ⟨_, _, fun_mk l_law_source c_law_source k_law_source, PySem.W.mg_of X G e_law_source, (fun_mk (st := top 19) l_law_source c_law_source k_law_source).binds fun _ _ _ _ _ _ us hl => match us, hl with | [_], _ => rfl⟩
    d_law_draw := ⟨_, _, fun_mk l_law_draw c_law_draw k_law_draw, PySem.W.mg_of X G e_law_draw, (fun_mk (st := top 20) l_law_draw c_law_draw k_law_draw).binds fun _ _ _ _ _ _ us hl => match us, hl with | [_, _], _ => rfl⟩
    d_law_pick := ⟨_, _, fun_mk l_law_pick c_law_pick k_law_pick, PySem.W.mg_of X G e_law_pick, (fun_mk (st := top 21) l_law_pick c_law_pick k_law_pick).binds fun _ _ _ _ _ _ us hl => match us, hl with | [_, _], _ => rfl⟩
    d_law_arguments := ⟨_, _, fun_mk l_law_arguments c_law_arguments k_law_arguments, PySem.W.mg_of X G e_law_arguments, (fun_mk (st := top 22) l_law_arguments c_law_arguments k_law_arguments).binds fun _ _ _ _ _ _ us hl => match us, hl with | [_], _ => rfl⟩
    d_law_kinds := ⟨_, _, fun_mk l_law_kinds c_law_kinds k_law_kinds, PySem.W.mg_of X G e_law_kinds, (fun_mk (st := top 23) l_law_kinds c_law_kinds k_law_kinds).binds fun _ _ _ _ _ _ us hl => match us, hl with | [_], _ => rfl⟩
    d_law_all_right := ⟨_, _, fun_mk l_law_all_right c_law_all_right k_law_all_right, PySem.W.mg_of X G e_law_all_right, (fun_mk (st := top 24) l_law_all_right c_law_all_right k_law_all_right).binds fun _ _ _ _ _ _ us hl => match us, hl with | [_, _, _, _], _ => rfl⟩
    dlaw := ⟨_, _, fun_mk llaw claw klaw, PySem.W.mg_of X G elaw, (fun_mk (st := top 25) llaw claw klaw).binds fun _ _ _ _ _ _ us hl => match us, hl with | [_], _ => rfl⟩
  }
  case t =>
    have hn : n ∈ (["ValueError", "RuntimeError"] : List String) := by
      have q := hr
      unfold isiTt at q
      split at q
      · simp_all
      · split at q
        · simp_all
        · cases q
    rcases (h3 C hC).2 n hn with z | z
    · rw [z] at hr; cases hr
    · rw [z, hr]
  case c =>
    have hj : j < names.length := by
      have q := hr
      unfold isiTc at q
      refine Nat.lt_of_not_le fun hle => ?_
      have h17 : names.length = 17 := rfl
      split at q
      · omega
      · split at q
        · omega
        · split at q
          · omega
          · cases q
    rcases (h3 C hC).1 j (List.mem_range.mpr hj) with z | z
    · rw [z] at hr; cases hr
    · rw [z, hr]
  case r =>
    intro j hj
    have q0 : cmN K names 0 = C0 := by show glA K "InvalidNet" = C0; unfold glA; rw [e0]
    have q1 : cmN K names 1 = C1 := by show glA K "InvalidPhases" = C1; unfold glA; rw [e1]
    have q2 : cmN K names 2 = C2 := by show glA K "InvalidTicks" = C2; unfold glA; rw [e2]
    have q3 : cmN K names 3 = C3 := by show glA K "InvalidWalk" = C3; unfold glA; rw [e3]
    have q4 : cmN K names 4 = C4 := by show glA K "InvalidCounter" = C4; unfold glA; rw [e4]
    have q5 : cmN K names 5 = C5 := by show glA K "InvalidTimes" = C5; unfold glA; rw [e5]
    have q6 : cmN K names 6 = C6 := by show glA K "InvalidReading" = C6; unfold glA; rw [e6]
    have q7 : cmN K names 7 = C7 := by show glA K "InvalidAnswer" = C7; unfold glA; rw [e7]
    have q8 : cmN K names 8 = C8 := by show glA K "TooLarge" = C8; unfold glA; rw [e8]
    have q9 : cmN K names 9 = C9 := by show glA K "InvalidPrices" = C9; unfold glA; rw [e9]
    have q10 : cmN K names 10 = C10 := by show glA K "InvalidDrive" = C10; unfold glA; rw [e10]
    have q11 : cmN K names 11 = C11 := by show glA K "InvalidText" = C11; unfold glA; rw [e11]
    have q12 : cmN K names 12 = C12 := by show glA K "NotPositive" = C12; unfold glA; rw [e12]
    have q13 : cmN K names 13 = C13 := by show glA K "NotAnInput" = C13; unfold glA; rw [e13]
    have q14 : cmN K names 14 = C14 := by show glA K "NothingToUndo" = C14; unfold glA; rw [e14]
    have hlen : fields.length = 15 := rfl
    rw [hlen] at hj
    match j, hj with
    | 0, _ => exact rE0 (fun_mk l0 c0 k0) (hg 0 (by decide)) (hE 0 (by decide)) (by show initA K (cmN K names 0) = i0; rw [q0]; unfold initA; rw [a0])
    | 1, _ => exact rE1 (fun_mk l1 c1 k1) (hg 1 (by decide)) (hE 1 (by decide)) (by show initA K (cmN K names 1) = i1; rw [q1]; unfold initA; rw [a1])
    | 2, _ => exact rE2 (fun_mk l2 c2 k2) (hg 2 (by decide)) (hE 2 (by decide)) (by show initA K (cmN K names 2) = i2; rw [q2]; unfold initA; rw [a2])
    | 3, _ => exact rE3 (fun_mk l3 c3 k3) (hg 3 (by decide)) (hE 3 (by decide)) (by show initA K (cmN K names 3) = i3; rw [q3]; unfold initA; rw [a3])
    | 4, _ => exact rE4 (fun_mk l4 c4 k4) (hg 4 (by decide)) (hE 4 (by decide)) (by show initA K (cmN K names 4) = i4; rw [q4]; unfold initA; rw [a4])
    | 5, _ => exact rE5 (fun_mk l5 c5 k5) (hg 5 (by decide)) (hE 5 (by decide)) (by show initA K (cmN K names 5) = i5; rw [q5]; unfold initA; rw [a5])
    | 6, _ => exact rE6 (fun_mk l6 c6 k6) (hg 6 (by decide)) (hE 6 (by decide)) (by show initA K (cmN K names 6) = i6; rw [q6]; unfold initA; rw [a6])
    | 7, _ => exact rE7 (fun_mk l7 c7 k7) (hg 7 (by decide)) (hE 7 (by decide)) (by show initA K (cmN K names 7) = i7; rw [q7]; unfold initA; rw [a7])
    | 8, _ => exact rE8 (fun_mk l8 c8 k8) (hg 8 (by decide)) (hE 8 (by decide)) (by show initA K (cmN K names 8) = i8; rw [q8]; unfold initA; rw [a8])
    | 9, _ => exact rE9 (fun_mk l9 c9 k9) (hg 9 (by decide)) (hE 9 (by decide)) (by show initA K (cmN K names 9) = i9; rw [q9]; unfold initA; rw [a9])
    | 10, _ => exact rE10 (fun_mk l10 c10 k10) (hg 10 (by decide)) (hE 10 (by decide)) (by show initA K (cmN K names 10) = i10; rw [q10]; unfold initA; rw [a10])
    | 11, _ => exact rE11 (fun_mk l11 c11 k11) (hg 11 (by decide)) (hE 11 (by decide)) (by show initA K (cmN K names 11) = i11; rw [q11]; unfold initA; rw [a11])
    | 12, _ => exact rE12 (fun_mk l12 c12 k12) (hg 12 (by decide)) (hE 12 (by decide)) (by show initA K (cmN K names 12) = i12; rw [q12]; unfold initA; rw [a12])
    | 13, _ => exact rE13 (fun_mk l13 c13 k13) (hg 13 (by decide)) (hE 13 (by decide)) (by show initA K (cmN K names 13) = i13; rw [q13]; unfold initA; rw [a13])
    | 14, _ => exact rE14 (fun_mk l14 c14 k14) (hg 14 (by decide)) (hE 14 (by decide)) (by show initA K (cmN K names 14) = i14; rw [q14]; unfold initA; rw [a14])
    | n + 15, h => exact absurd h (by omega)
/-- from the plain law to the law's def -/
theorem fin {P : Program} {w : World} {K : PySem.W.Frag} {mg : Str → Option Value} {cm : Nat → Addr} {fa : Addr} (C : ∀ base, Cx0 ⟨[], cm⟩ P w K mg base) (hm : mg "law" = some (.ref fa)) (law : ∀ ns : List Int, ns.length ≤ 63 → ∃ S', flaw [.scr ns] [] = .ok (.bl true) S') :
    ∃ fd : FuncData, Binds K fd ["script"] [] ∧ ∃ (cm : Nat → Addr) (g : Fn), (∀ ns : List Int, ns.length ≤ 63 → ∃ S', g [.scr ns] [] = .ok (.bl true) S') ∧
      ∀ base : Heap, K.In base → base.Ns mainGlobals mg → FnG true P w K mg base 4 fa fd ["script"] (spV ⟨[], cm⟩ K 1 g) := end_ve (C {}).dlaw (fun base => dlaw (C base)) hm law
end K05

set_option Elab.async false
set_option linter.all false
set_option maxRecDepth 100000
set_option maxHeartbeats 2000000
namespace K05
open PySem PySem.Spec PyProof.Rows L2 Ve
theorem atI_int {cs : List Int} {i : Int} (h0 : 0 ≤ i) (h1 : i < cs.length) : atI (cs.map AV.int) i = some (.int (cs.getD i.toNat 0)) := by
  have hl : i.toNat < cs.length := by omega
  unfold atI ixN
  rw [List.length_map, if_pos h0, if_pos h1]
  simp [List.getD, hl]
theorem draw_ok {S : Store} {n : Nat} {c lim : Int} (h : SrcAt S n c) (hc : c < 1048575) (h1 : 0 < lim) (h2 : lim.natAbs < 2 ^ 8000) :
    ∃ d S', f_law_draw [.loc n, .int lim] S = .ok (.int d) S' ∧ 0 ≤ d ∧ d < lim ∧ SrcAt S' n (c + 1) ∧ ∃ o, S' = S.set n o := by
  obtain ⟨hn, cs, nx, rest, ct, hS, hcs, hnx, hrest, hct, hcc⟩ := h
  have fin : ∀ (nx rest ct : Int), 0 ≤ nx → 0 ≤ rest → 0 ≤ ct → ct ≤ c + 1 → 0 ≤ rest % lim ∧ rest % lim < lim ∧ SrcAt (S.set n (srcO cs nx (rest / lim) ct)) n (c + 1) ∧ ∃ o, S.set n (srcO cs nx (rest / lim) ct) = S.set n o :=
    fun nx rest ct a1 a2 a3 a4 => ⟨Int.emod_nonneg _ (by omega), Int.emod_lt_of_pos _ h1, ⟨by simpa using hn, cs, nx, rest / lim, ct, by rw [List.set_set], hcs, a1, Int.ediv_nonneg a2 (by omega), a3, a4⟩, _, rfl⟩
  have hf : ∀ S0, S0 = S.set n (srcO cs nx rest ct) → ∃ d S', f_law_draw [.loc n, .int lim] S0 = .ok (.int d) S' ∧ 0 ≤ d ∧ d < lim ∧ SrcAt S' n (c + 1) ∧ ∃ o, S' = S.set n o := by
    rintro S0 rfl
    have hcl : 0 < (cs.length : Int) := by
      cases cs with
      | nil => exact absurd rfl hcs
      | cons a l => simp only [List.length_cons]; omega
    unfold f_law_draw
    rw [x_run]
    simp only [List.map, List.length_cons, List.length_nil, List.cons_append, List.nil_append, List.replicate]
    unfold m_law_draw
    simp only [x_sq, x_if, x_tst, x_bin, x_c, x_v0, x_v1, x_v2, x_v3, x_v4, x_v5, x_bind, dg_rest hn, eqI, x_tstb, x_toS, x_as]
    by_cases h0 : rest = 0
    · rw [decide_eq_true h0]
      simp only [if_true]
      have hx := atI_int (cs := cs) (Int.emod_nonneg nx (by omega)) (Int.emod_lt_of_pos nx hcl)
      generalize cs.getD (nx % (cs.length : Int)).toNat 0 = cell at hx
      have hlen : ((cs.map AV.int).length : Int) = cs.length := by rw [List.length_map]
      simp only [dg_cells hn, x_bind, dg_next hn, x_call, x_cons, x_nil, x_bin, x_v0, x_c, lenL, hlen, modI hcl, ixL hx, x_toS, x_nm, x_s3, x_nx, x_sq, x_dput, addI, dp_next hn, x_if, x_and, x_tst, x_v3, x_tstb]
      have hpow : ∀ S, powV (.int 10) (.int 18) S = .ok (.int (10 ^ 18)) S := fun S => rfl
      simp only [hpow, x_bind, geI, x_tstb]
      by_cases hb : (10 ^ 18 : Int) ≤ cell ∧ nx + 1 ≤ cs.length
      · rw [decide_eq_true hb.1]
        simp only [if_true, x_tst, x_bin, x_v0, x_c, x_bind, x_call, x_cons, x_nil, dg_next hn, dg_cells hn, lenL, hlen, leI, x_tstb, decide_eq_true hb.2, x_toS, x_sq, x_dput, x_v3, dp_rest hn, x_nx, x_skip, x_as, dg_rest hn, x_v1, modI h1, x_nm, x_s2, fdivI h1 h2, x_ret, x_v2, x_rt]
        rw [collect_cl rfl (by simp)]
        have : 0 ≤ cell := Int.le_trans (by decide) hb.1
        exact ⟨_, _, rfl, fin (nx + 1) cell ct (by omega) this hct (by omega)⟩
      · have hk : ∀ (e : Ev), ((if decide ((10 ^ 18 : Int) ≤ cell) = true then mTst (mBin leV (mBin dgV (mVar 0) (mC (AV.str "next"))) (mCall lenV (mCons (mBin dgV (mVar 0) (mC (AV.str "cells"))) mNil))) else pureM false) (some (AV.loc n) :: e) (S.set n (srcO cs (nx + 1) rest ct))) = .ok false (S.set n (srcO cs (nx + 1) rest ct)) := by
          intro e
          by_cases h3 : (10 ^ 18 : Int) ≤ cell
          · rw [decide_eq_true h3]
            simp only [if_true, x_tst, x_bin, x_v0, x_c, x_bind, x_call, x_cons, x_nil, dg_next hn, dg_cells hn, lenL, hlen, leI, x_tstb]
            rw [decide_eq_false fun z => hb ⟨h3, z⟩]
          · rw [decide_eq_false h3]
            rfl
        have hk2 := hk
        simp only [hk2, x_toS, Bool.false_eq_true, if_false, x_sq, x_as, x_bin, x_v0, x_c, x_bind, dg_count hn, addI, x_nm, x_s4, x_nx, x_dput, x_v4, dp_count hn, x_v3]
        have c1 : 0 ≤ ct + 1 ∧ ct + 1 ≤ 1048576 ∧ ct + 1 ≤ c + 1 := by omega
        generalize ct + 1 = k at c1 ⊢
        have kk : 0 ≤ k * k ∧ k * k ≤ 1048576 * 1048576 := ⟨Int.mul_nonneg c1.1 c1.1, Int.mul_le_mul c1.2.1 c1.2.1 c1.1 (by decide)⟩
        have m1 := fun S => modI (S := S) (i := cell) (j := 2147483629) (by decide)
        have r1 := Int.emod_nonneg cell (show (2147483629 : Int) ≠ 0 by decide)
        have r1' := Int.emod_lt_of_pos cell (show (0 : Int) < 2147483629 by decide)
        generalize cell % 2147483629 = z1 at m1 r1 r1'
        have m2 := fun S => mulI (S := S) (i := 7919) (j := k) (by decide) (by omega)
        have m3 := fun S => mulI (S := S) (i := k) (j := k) (by omega) (by omega)
        generalize k * k = z2 at m3 kk
        have m4 := fun S => mulI (S := S) (i := z1 + 7919 * k) (j := z2 + 48271) (by omega) (by omega)
        generalize (z1 + 7919 * k) * (z2 + 48271) = z3 at m4
        have m5 := fun S => modI (S := S) (i := z3) (j := 2147483647) (by decide)
        have r5 := Int.emod_nonneg z3 (show (2147483647 : Int) ≠ 0 by decide)
        have r5' := Int.emod_lt_of_pos z3 (show (0 : Int) < 2147483647 by decide)
        generalize z3 % 2147483647 = z4 at m5 r5 r5'
        have m6 := fun S => mulI (S := S) (i := z4) (j := 16777619) (by omega) (by decide)
        generalize z4 * 16777619 = z5 at m6
        have m7 := fun S => modI (S := S) (i := z5) (j := 2147483563) (by decide)
        have r7 := Int.emod_nonneg z5 (show (2147483563 : Int) ≠ 0 by decide)
        have r7' := Int.emod_lt_of_pos z5 (show (0 : Int) < 2147483563 by decide)
        generalize z5 % 2147483563 = z6 at m7 r7 r7'
        have m8 := fun S => mulI (S := S) (i := z6) (j := 2147483647) (by omega) (by decide)
        have r8 : 0 ≤ z6 * 2147483647 := Int.mul_nonneg r7 (by decide)
        generalize z6 * 2147483647 = z7 at m8 r8
        have m9 := fun S => mulI (S := S) (i := z4) (j := z4) (by omega) (by omega)
        generalize z4 * z4 = z8 at m9
        have m10 := fun S => modI (S := S) (i := z8) (j := 2147483587) (by decide)
        have r10 := Int.emod_nonneg z8 (show (2147483587 : Int) ≠ 0 by decide)
        generalize z8 % 2147483587 = z9 at m10 r10
        simp only [m1, m2, m3, m4, m5, m6, m7, m8, m9, m10, addI, x_bind, x_toS, x_nm, x_s5, x_nx, x_sq, x_dput, x_bin, x_v0, x_v5, x_c, dp_rest hn, dg_rest hn, x_skip, x_as, x_v1, modI h1, x_s2, fdivI h1 h2, x_ret, x_v2, x_rt]
        rw [collect_cl rfl (by simp)]
        exact ⟨_, _, rfl, fin (nx + 1) (z7 + z9 + 1) k (by omega) (by omega) c1.1 c1.2.2⟩
    · rw [decide_eq_false h0]
      simp only [x_ifF, x_skip, x_nx, x_sq, x_v0, x_v1, x_v2, x_v3, x_bind, x_bin, x_toS, x_as, x_c, dg_rest hn, modI h1, fdivI h1 h2, x_nm, x_s2, x_dput, dp_rest hn, x_ret, x_rt]
      rw [collect_cl rfl (by simp)]
      exact ⟨_, _, rfl, fin nx rest ct hnx hrest hct (by omega)⟩
  exact hf S hS
end K05

set_option Elab.async false
set_option linter.all false
set_option maxRecDepth 100000
set_option maxHeartbeats 2000000
namespace K05
noncomputable section
open PySem PySem.Spec PyProof.Rows L2 Ve
theorem kinds_body (C : Nat) (hC : C < 15) (ns : List Str) (vs : List AV) (b : Nat) (S : Store) : m_law_kinds b [some (.exc C ns vs), none] S = .rt (.int 1) S := by
  match C, hC with
  | 0, _ => kernel_rfl
  | 1, _ => kernel_rfl
  | 2, _ => kernel_rfl
  | 3, _ => kernel_rfl
  | 4, _ => kernel_rfl
  | 5, _ => kernel_rfl
  | 6, _ => kernel_rfl
  | 7, _ => kernel_rfl
  | 8, _ => kernel_rfl
  | 9, _ => kernel_rfl
  | 10, _ => kernel_rfl
  | 11, _ => kernel_rfl
  | 12, _ => kernel_rfl
  | 13, _ => kernel_rfl
  | 14, _ => kernel_rfl
  | n + 15, h => omega
theorem kinds_ok {C : Nat} (hC : C < 15) {ns : List Str} {vs : List AV} {S : Store} : f_law_kinds [.exc C ns vs] S = .ok (.int 1) S := by
  unfold f_law_kinds
  rw [x_run]
  show collect 0 S.length (m_law_kinds S.length [some (.exc C ns vs), none] S) = _
  rw [kinds_body C hC, collect_cl rfl rfl]
def found (v : AV) : List AV := [.exc 0 ["index", "part"] [v, v], .exc 1 ["index"] [v], .exc 2 ["index"] [v], .exc 3 ["index"] [v], .exc 4 ["counter"] [v], .exc 5 ["times"] [v], .exc 6 ["number"] [v], .exc 7 ["part"] [v], .exc 8 ["limit"] [v], .exc 9 ["index"] [v], .exc 10 ["part"] [v], .exc 11 ["word"] [v], .exc 12 ["index"] [v]]
theorem args_body (v : AV) (b : Nat) (S : Store) : m_law_arguments b [some v, none, none] S = .rt (.lst [.lst (found v), .lst (List.replicate 13 v)]) S := by kernel_rfl
theorem args_ok {v : AV} {S : Store} (hv : v.cl S.length = true) : f_law_arguments [v] S = .ok (.lst [.lst (found v), .lst (List.replicate 13 v)]) S := by
  unfold f_law_arguments
  rw [x_run]
  show collect 0 S.length (m_law_arguments S.length [some v, none, none] S) = _
  rw [args_body, collect_cl (by simp [AV.cl, clL, found, hv]) rfl]

section
variable {C : Nat} {ns : List Str} {vs : List AV} {S : Store}
theorem isi15 (hC : C < 15) : isiF [.exc C ns vs, .at 15] S = .ok (.bl (decide (C < 13))) S := by
  show (if C ∈ isiCs then opt (isiTc C 15) S else .bad) = _
  rw [if_pos (show C ∈ isiCs from List.mem_range.mpr hC)]; rfl
theorem isi16 (hC : C < 15) : isiF [.exc C ns vs, .at 16] S = .ok (.bl (decide (13 ≤ C))) S := by
  show (if C ∈ isiCs then opt (isiTc C 16) S else .bad) = _
  rw [if_pos (show C ∈ isiCs from List.mem_range.mpr hC)]; rfl
theorem isiVE (hC : C < 15) : isiF [.exc C ns vs, .ty "ValueError"] S = .ok (.bl (decide (C < 13))) S := by
  show (if C ∈ isiCs then opt (isiTt C "ValueError") S else .bad) = _
  rw [if_pos (show C ∈ isiCs from List.mem_range.mpr hC)]; rfl
theorem isiRE (hC : C < 15) : isiF [.exc C ns vs, .ty "RuntimeError"] S = .ok (.bl (decide (13 ≤ C))) S := by
  show (if C ∈ isiCs then opt (isiTt C "RuntimeError") S else .bad) = _
  rw [if_pos (show C ∈ isiCs from List.mem_range.mpr hC)]; rfl
theorem add_lists {xs ys : List AV} (h : xs.length + ys.length ≤ 1000) : addV (.lst xs) (.lst ys) S = .ok (.lst (xs ++ ys)) S := by
  have e : addV (.lst xs) (.lst ys) S = if xs.length + ys.length ≤ sizeLine then Res.ok (AV.lst (xs ++ ys)) S else .bad := rfl
  rw [e, if_pos (small_size (by omega))]
theorem rep_one {x : AV} (k : Nat) : (List.replicate k [x]).flatten = List.replicate k x := by
  induction k with
  | zero => rfl
  | succ k ih => rw [List.replicate_succ, List.flatten_cons, ih]; rfl
theorem mul_list {x : AV} {k : Nat} (h : k ≤ 1000) : mulV (.lst [x]) (.int k) S = .ok (.lst (List.replicate k x)) S := by
  unfold mulV
  dsimp only
  have hz : k ≤ sizeLine := small_size (by omega)
  rw [if_pos ⟨by omega, by omega, by simp; exact hz⟩, Int.toNat_natCast, rep_one]
theorem neBools (p q : Bool) (h : p = !q) : neV (.lst ([.bl p, .bl p] ++ [.bl q, .bl q])) (.lst (List.replicate 2 (.bl (!q)) ++ List.replicate 2 (.bl q))) S = .ok (.bl false) S := by
  subst h
  cases q <;> kernel_rfl
theorem neInt {i j : Int} : neV (.int i) (.int j) S = .ok (.bl (!decide (i = j))) S := rfl
theorem neStr {x y : Str} : neV (.str x) (.str y) S = .ok (.bl (!decide (x = y))) S := rfl
theorem ar_body {a0 a1 a3 : Option AV} {o5 : Option AV} {b : Nat} (hC : C < 15) :
    ∃ o, m_law_all_right_L1 b [a0, a1, some (.bl (decide (13 ≤ C))), a3, some (.exc C ns vs), o5] S = .nx [a0, a1, some (.bl (decide (13 ≤ C))), a3, some (.exc C ns vs), o] S := by
  have h2 := fun (x : AV) => mul_list (x := x) (S := S) (k := 2) (by decide)
  have h2' : ∀ x : AV, mulV (.lst [x]) (.int 2) S = .ok (.lst (List.replicate 2 x)) S := h2
  have hr2 : ∀ x y : AV, addV (.lst (List.replicate 2 x)) (.lst (List.replicate 2 y)) S = .ok (.lst (List.replicate 2 x ++ List.replicate 2 y)) S := fun x y => add_lists (by simp)
  have hp : decide (C < 13) = !decide (13 ≤ C) := by
    by_cases h : C < 13
    · rw [decide_eq_true h, decide_eq_false (by omega)]; rfl
    · rw [decide_eq_false h, decide_eq_true (by omega)]; rfl
  unfold m_law_all_right_L1
  simp only [x_sq, x_as, x_lst, x_cons, x_nil, x_call, x_v4, x_c, x_bind, isi15 hC, isiVE hC, mkL_ok (vs := [_, _]) (by simp), mkL_ok (vs := [_]) (by simp), List.length_cons, List.length_nil, x_toS, x_nm, x_s5, x_nx, x_bin, x_v5, isi16 hC, isiRE hC,
    add_lists (xs := [AV.bl (decide (C < 13)), AV.bl (decide (C < 13))]) (ys := [AV.bl (decide (13 ≤ C)), AV.bl (decide (13 ≤ C))]) (by simp), x_if, x_or, x_tst, x_notV, x_v2, x_tstb, h2', hr2, neBools _ _ hp,
    Bool.false_eq_true, if_false, x_fn, if_true, kinds_ok hC, neInt, decide_true, Bool.not_true, x_skip]
  exact ⟨_, rfl⟩
/-- the errors that are looked at: known classes, all of the one base -/
def ErrAll (st : Bool) (es : List AV) : Prop := ∀ e ∈ es, ∃ C ns vs, e = .exc C ns vs ∧ C < 15 ∧ decide (13 ≤ C) = st
theorem ar_loop {xs : List AV} {a0 a1 a3 : Option AV} {st : Bool} {b : Nat} : ∀ (es : List AV) (o4 o5 : Option AV), ErrAll st es →
    ∃ p q, forL ⟨xs, none⟩ (gNm 4) (m_law_all_right_L1 b) es [a0, a1, some (.bl st), a3, o4, o5] S = .nx [a0, a1, some (.bl st), a3, p, q] S
  | [], o4, o5, _ => ⟨o4, o5, by unfold forL; rw [if_pos (Itm.ok_none.mpr trivial)]⟩
  | e :: es, o4, o5, h => by
    obtain ⟨C, ns, vs, rfl, hC, hst⟩ := h e List.mem_cons_self
    subst hst
    obtain ⟨o, hb⟩ := ar_body (ns := ns) (vs := vs) (S := S) (a0 := a0) (a1 := a1) (a3 := a3) (o5 := o5) (b := b) hC
    obtain ⟨p, q, hr⟩ := ar_loop es (some (.exc C ns vs)) o fun e he => h e (List.mem_cons_of_mem _ he)
    refine ⟨p, q, ?_⟩
    unfold forL
    rw [if_pos (Itm.ok_none.mpr trivial)]
    simp only [x_nm, x_s4, x_nx, hb]
    exact hr
/-- the field is read, perhaps a number is put behind it -/
def arA (b : Nat) : MS := mIf (mTst (mCall isiF (mCons (mVar 3) (mCons (mC (.ty "list")) (mNil))))) (mSq (mEx (mMeth (appV b) (mVar 3) (mCons (mCall lenV (mCons (mVar 3) (mNil))) mNil))) (mSkip)) (mSkip)
def arB (b : Nat) : MS := (mSq (mIf (mTst (mBin neV (mCall reprV (mCons (mVar 1) (mNil))) (mCall reprV (mCons (mBin mulV (mLst (mCons (mVar 3) (mNil))) (mCall lenV (mCons (mVar 0) (mNil)))) (mNil))))) (mSq (mRet (mC (.bl false))) (mSkip)) (mSkip)) (mSq (mFor (mItS (mVar 0)) (gNm 4) (m_law_all_right_L1 b)) (mSq (mRet (mC (.bl true))) (mSkip))))
theorem x_for {mi : MI} {g : MG} {body : MS} {env : Ev} : mFor mi g body env S = (mi env S).toS env fun t S1 => forL t g body t.xs env S1 := rfl
theorem x_its {m : ME} {env : Ev} : mItS m env S = (m env S).bind fun v S1 => itS v S1 := rfl
theorem itS_lst {xs : List AV} : itS (.lst xs) S = .ok ⟨xs, none⟩ S := rfl
theorem shw_rep {k : Nat} {v : AV} {d : PyData} (h : shw k S v = some d) (n : Nat) : shwL (shw k S) (List.replicate n v) = some (List.replicate n d) := by
  induction n with
  | zero => rfl
  | succ n ih => rw [List.replicate_succ, List.replicate_succ]; simp only [shwL, h, ih]; rfl
theorem showable_rep {d : PyData} (h : d.showable = true) (n : Nat) : PyData.showableAll (List.replicate n d) = true := by
  induction n with
  | zero => rfl
  | succ n ih => rw [List.replicate_succ]; simp only [PyData.showableAll, h, ih, Bool.and_self]
theorem repr_rep {v : AV} {d : PyData} {n : Nat} (h : shw 23 S v = some d) (hs : d.showable = true) (hz : (PyData.list (List.replicate n d)).shown.length ≤ sizeLine) : reprV [.lst (List.replicate n v)] S = .ok (.str (PyData.list (List.replicate n d)).shown) S := by
  have e : shw 24 S (.lst (List.replicate n v)) = some (.list (List.replicate n d)) := by
    show (shwL (shw 23 S) (List.replicate n v)).map PyData.list = _
    rw [shw_rep h]; rfl
  unfold reprV
  simp only [e]
  rw [if_pos ⟨by simp only [PyData.showable]; exact showable_rep hs n, hz⟩]
end
end
end K05

set_option Elab.async false
set_option linter.all false
set_option maxRecDepth 100000
set_option maxHeartbeats 2000000
namespace K05
open PySem PySem.Spec PyProof.Rows L2 Ve
section
variable {S : Store}
theorem q3 {v : AV} {ws : List AV} {n : Int} {env : Ev} {m m1 : ME} {tx : Str} (hr : reprV [.lst ws] S = .ok (.str tx) S) (h1 : m1 env S = .ok (.lst [v]) S) (h2 : m env S = .ok (.int n) S) (hm : mulV (.lst [v]) (.int n) S = .ok (.lst ws) S) :
    mCall reprV (mCons (mBin mulV m1 m) (mNil)) env S = .ok (.str tx) S := by
  simp only [x_call, x_cons, x_nil, x_bin, x_bind, h1, h2, hm, hr]
theorem q4 {env : Ev} {m1 m2 : ME} {tx : Str} {s1 s2 : MS} (h1 : m1 env S = .ok (.str tx) S) (h2 : m2 env S = .ok (.str tx) S) : mIf (mTst (mBin neV m1 m2)) s1 s2 env S = s2 env S := by
  simp only [x_if, x_tst, x_bin, h1, h2, x_bind, neStr, decide_true, Bool.not_true, x_tstb, x_toS, Bool.false_eq_true, if_false]
theorem ar_B {es : List AV} {st : Bool} {v : AV} {ws : List AV} {tx : Str} {b : Nat} (hes : ErrAll st es) (hn : es.length ≤ 100) (hr : reprV [.lst ws] S = .ok (.str tx) S) (hm : mulV (.lst [v]) (.int es.length) S = .ok (.lst ws) S) :
    arB b [some (.lst es), some (.lst ws), some (.bl st), some v, none, none] S = .rt (.bl true) S := by
  obtain ⟨p, q, hloop⟩ := ar_loop (S := S) (xs := es) (a0 := some (.lst es)) (a1 := some (.lst ws)) (a3 := some v) (b := b) es none none hes
  unfold arB
  have h1 : mLst (mCons (mVar 3) (mNil)) [some (.lst es), some (.lst ws), some (.bl st), some v, none, none] S = .ok (.lst [v]) S := by
    simp only [x_lst, x_cons, x_nil, x_v3, x_bind]
    exact mkL_ok (vs := [v]) (by simp)
  have h2 : mCall lenV (mCons (mVar 0) (mNil)) [some (.lst es), some (.lst ws), some (.bl st), some v, none, none] S = .ok (.int es.length) S := rfl
  have h3 : mCall reprV (mCons (mVar 1) (mNil)) [some (.lst es), some (.lst ws), some (.bl st), some v, none, none] S = .ok (.str tx) S := by
    simp only [x_call, x_cons, x_nil, x_v1, x_bind]
    exact hr
  rw [x_sq, q4 h3 (q3 hr h1 h2 hm), x_skip, x_nx, x_sq]
  have h4 : mFor (mItS (mVar 0)) (gNm 4) (m_law_all_right_L1 b) [some (.lst es), some (.lst ws), some (.bl st), some v, none, none] S = .nx [some (.lst es), some (.lst ws), some (.bl st), some v, p, q] S := by
    rw [x_for, x_its, x_v0, x_bind, itS_lst, x_toS]
    exact hloop
  rw [h4, x_nx, x_sq, x_ret, x_c, x_toS, x_rt]
theorem ar_ok {es : List AV} {st : Bool} {v : AV} {d : PyData} {S0 : Store} (hes : ErrAll st es) (hn : es.length ≤ 100) (hA : arA S0.length [some (.lst es), some (.lst (List.replicate es.length v)), some (.bl st), some v, none, none] S0 = .nx [some (.lst es), some (.lst (List.replicate es.length v)), some (.bl st), some v, none, none] S)
    (hl : S.length = S0.length) (hd : shw 23 S v = some d) (hs : d.showable = true) (hz : (PyData.list (List.replicate es.length d)).shown.length ≤ sizeLine) : f_law_all_right [.lst es, .lst (List.replicate es.length v), .bl st, v] S0 = .ok (.bl true) S := by
  have hrun : ∀ b, m_law_all_right b [some (.lst es), some (.lst (List.replicate es.length v)), some (.bl st), some v, none, none] S0 = (arA b [some (.lst es), some (.lst (List.replicate es.length v)), some (.bl st), some v, none, none] S0).then (arB b) := fun b => rfl
  unfold f_law_all_right
  rw [x_run]
  show collect 0 S0.length (m_law_all_right S0.length [some (.lst es), some (.lst (List.replicate es.length v)), some (.bl st), some v, none, none] S0) = _
  rw [hrun, hA, x_nx, ar_B hes hn (repr_rep hd hs hz) (mul_list (by omega)), collect_cl rfl hl]
end
end K05

set_option Elab.async false
set_option linter.all false
set_option maxRecDepth 100000
set_option maxHeartbeats 2000000
namespace K05
open PySem PySem.Spec PyProof.Rows L2 Ve
section
variable {S S2 : Store} {v : AV} {b : Nat} {t : Str} {a0 a1 o2 o3 o4 o5 o6 : Option AV}
theorem s5_ok (hv : v.cl S.length = true) : mlaw_s5 b [a0, a1, o2, some v, o4, o5, o6] S = .nx [a0, a1, o2, some v, some (.lst (found v)), o5, some (.lst (List.replicate 13 v))] S := by
  have h1 : mFn f_law_arguments 1 (mCons (mVar 3) (mNil)) [a0, a1, o2, some v, o4, o5, o6] S = .ok (.lst [.lst (found v), .lst (List.replicate 13 v)]) S := by
    rw [x_fn, x_cons, x_v3, x_bind, x_nil, x_bind]
    exact args_ok hv
  unfold mlaw_s5
  rw [x_as, h1, x_toS]
  kernel_rfl
theorem fn4 {h : Fn} {env : Ev} {m1 m2 m3 m4 : ME} {v1 v2 v3 v4 : AV} {r : Res AV} (h1 : m1 env S = .ok v1 S) (h2 : m2 env S = .ok v2 S) (h3 : m3 env S = .ok v3 S) (h4 : m4 env S = .ok v4 S) (hr : h [v1, v2, v3, v4] S = r) :
    mFn h 4 (mCons m1 (mCons m2 (mCons m3 (mCons m4 mNil)))) env S = r := by
  rw [x_fn, x_cons, h1, x_bind, x_cons, h2, x_bind, x_cons, h3, x_bind, x_cons, h4, x_bind, x_nil, x_bind, x_bind, x_bind, x_bind]
  exact hr
theorem rp1 {env : Ev} {m : ME} {w : AV} (h1 : m env S = .ok w S) (hr : reprV [w] S = .ok (.str t) S) : mCall reprV (mCons m mNil) env S = .ok (.str t) S := by
  rw [x_call, x_cons, h1, x_bind, x_nil, x_bind, x_bind]
  exact hr
theorem neSame {env : Ev} {m1 m2 : ME} (h1 : m1 env S = .ok (.str t) S) (h2 : m2 env S = .ok (.str t) S) : mTst (mBin neV m1 m2) env S = .ok false S := by
  rw [x_tst, x_bin, h1, x_bind, h2, x_bind, neStr, x_bind, decide_eq_true rfl]
  rfl
theorem s6_ok (hf : f_law_all_right [.lst (found v), .lst (List.replicate 13 v), .bl false, v] S = .ok (.bl true) S2) (hr : reprV [v] S2 = .ok (.str t) S2) :
    mlaw_s6 b [a0, a1, o2, some v, some (.lst (found v)), o5, some (.lst (List.replicate 13 v))] S = .nx [a0, a1, o2, some v, some (.lst (found v)), o5, some (.lst (List.replicate 13 v))] S2 := by
  have h1 := fn4 (h := f_law_all_right) (env := [a0, a1, o2, some v, some (.lst (found v)), o5, some (.lst (List.replicate 13 v))]) (m1 := mVar 4) (m2 := mVar 6) (m3 := mC (.bl false)) (m4 := mVar 3) rfl rfl rfl rfl hf
  have h2 := neSame (env := [a0, a1, o2, some v, some (.lst (found v)), o5, some (.lst (List.replicate 13 v))]) (rp1 (m := mAtt [0, 7, 10] "part" (mBin ixV (mVar 4) (mC (.int 0)))) (w := v) (by kernel_rfl) hr) (rp1 (m := mVar 3) (w := v) rfl hr)
  unfold mlaw_s6
  rw [x_if, x_or, x_not, x_tst, h1, x_bind, x_tstb, x_bind, x_bind]
  show Res.toS (mTst _ _ _) _ _ = _
  rw [h2, x_toS]
  rfl
theorem s7_ok : mlaw_s7 b [a0, a1, o2, some v, o4, o5, o6] S = .nx [a0, a1, o2, some v, some (.lst [.exc 13 ["counter"] [v], .exc 14 ["action"] [v]]), o5, o6] S := by kernel_rfl
theorem s8_ok (hf : f_law_all_right [.lst [.exc 13 ["counter"] [v], .exc 14 ["action"] [v]], .lst (List.replicate 2 v), .bl true, v] S = .ok (.bl true) S2) :
    mlaw_s8 b [a0, a1, o2, some v, some (.lst [.exc 13 ["counter"] [v], .exc 14 ["action"] [v]]), o5, o6] S = .nx [a0, a1, o2, some v, some (.lst [.exc 13 ["counter"] [v], .exc 14 ["action"] [v]]), o5, o6] S2 := by
  have h1 := fn4 (h := f_law_all_right) (env := [a0, a1, o2, some v, some (.lst [.exc 13 ["counter"] [v], .exc 14 ["action"] [v]]), o5, o6]) (m1 := mVar 4) (m2 := mLst (mCons (mAtt [4, 13] "counter" (mBin ixV (mVar 4) (mC (.int 0)))) (mCons (mAtt [14] "action" (mBin ixV (mVar 4) (mC (.int 1)))) (mNil)))) (m3 := mC (.bl true)) (m4 := mVar 3) rfl (v2 := .lst (List.replicate 2 v)) (by kernel_rfl) rfl rfl hf
  unfold mlaw_s8
  rw [x_if, x_not, x_tst, h1, x_bind, x_tstb, x_bind, x_toS]
  rfl
theorem s9_ok : mlaw_s9 b [a0, a1, o2, some v, o4, o5, o6] S = .nx [a0, a1, o2, some v, o4, some (.exc 0 ["index", "part"] [v, .str "wires"]), o6] S := by kernel_rfl
theorem s10_ok (hr : reprV [v] S = .ok (.str t) S) : mlaw_s10 b [a0, a1, o2, some v, o4, some (.exc 0 ["index", "part"] [v, .str "wires"]), o6] S = .nx [a0, a1, o2, some v, o4, some (.exc 0 ["index", "part"] [v, .str "wires"]), o6] S := by
  have h1 := neSame (S := S) (env := [a0, a1, o2, some v, o4, some (.exc 0 ["index", "part"] [v, .str "wires"]), o6]) (m1 := mAtt [0, 7, 10] "part" (mVar 5)) (m2 := mC (.str "wires")) (t := "wires") (by kernel_rfl) rfl
  have h2 := neSame (S := S) (env := [a0, a1, o2, some v, o4, some (.exc 0 ["index", "part"] [v, .str "wires"]), o6]) (rp1 (m := mAtt [0, 1, 2, 3, 9, 12] "index" (mVar 5)) (w := v) (by kernel_rfl) hr) (rp1 (m := mVar 3) (w := v) rfl hr)
  unfold mlaw_s10
  rw [x_if, x_or, h1, x_bind]
  show Res.toS (mTst _ _ _) _ _ = _
  rw [h2, x_toS]
  rfl
end
end K05

set_option Elab.async false
set_option linter.all false
set_option maxRecDepth 100000
set_option maxHeartbeats 2000000
namespace K05
open PySem PySem.Spec PyProof.Rows L2 Ve
/-- a field as it stands in the store -/
structure Fld (v : AV) (S : Store) (d : PyData) : Prop where
  cl : v.cl S.length = true
  s1 : shw 23 S v = some d
  s2 : shw 24 S v = some d
  sh : d.showable = true
  z1 : d.shown.length ≤ sizeLine
  z2 : (PyData.list (List.replicate 2 d)).shown.length ≤ sizeLine
  z13 : (PyData.list (List.replicate 13 d)).shown.length ≤ sizeLine
def ArA (v : AV) (S S2 : Store) : Prop := ∀ (b : Nat) (a0 a1 a2 o4 o5 : Option AV), arA b [a0, a1, a2, some v, o4, o5] S = .nx [a0, a1, a2, some v, o4, o5] S2
def items (m : Nat) : List AV := [.int 0, .int 7, .int (-1), .int (10 ^ 30), .non, .str "", .str "wires", .tup [], .tup [.int 1, .int 2], .loc m, .dc0, .bl true]
theorem fld_list {S : Store} {m : Nat} {xs : List Int} (h : S[m]? = some (.lst (xs.map .int))) (hs : (PyData.list (xs.map .int)).showable = true) (h1 : (PyData.list (xs.map .int)).shown.length ≤ sizeLine) (h2 : (PyData.list (List.replicate 2 (PyData.list (xs.map .int)))).shown.length ≤ sizeLine)
    (h3 : (PyData.list (List.replicate 13 (PyData.list (xs.map .int)))).shown.length ≤ sizeLine) : Fld (.loc m) S (.list (xs.map .int)) := by
  have hi : ∀ k, shwL (shw (k + 1) S) (xs.map AV.int) = some (xs.map PyData.int) := fun k => by
    induction xs with
    | nil => rfl
    | cons x xs ih =>
      clear h h1 h2 h3 hs
      have ih2 : shwL (shw (k + 1) S) (xs.map AV.int) = some (xs.map PyData.int) := by
        clear ih
        induction xs with
        | nil => rfl
        | cons y ys ih3 => rw [List.map_cons, List.map_cons]; simp only [shwL, ih3]; rfl
      rw [List.map_cons, List.map_cons]; simp only [shwL, ih2]; rfl
  refine ⟨decide_eq_true (List.getElem?_eq_some_iff.mp h).1, ?_, ?_, hs, h1, h2, h3⟩
  · unfold shw; simp only [h, hi]; rfl
  · unfold shw; simp only [h, hi]; rfl
theorem ara_list {S : Store} {m : Nat} {xs : List AV} (h : S[m]? = some (.lst xs)) (hz : xs.length < 1000) : ArA (.loc m) S (S.set m (.lst (xs ++ [.int xs.length]))) := by
  intro b a0 a1 a2 o4 o5
  have h1 : mCall isiF (mCons (mVar 3) (mCons (mC (.ty "list")) (mNil))) [a0, a1, a2, some (.loc m), o4, o5] S = .ok (.bl true) S := by
    rw [x_call, x_cons, x_v3, x_bind, x_cons, x_c, x_bind, x_nil, x_bind, x_bind, x_bind]
    show (match tyN S (.loc m) with
      | some t => opt (kitB t "list") S
      | none => .bad) = _
    have : tyN S (.loc m) = some "list" := by unfold tyN; simp only [h]
    rw [this]
    kernel_rfl
  have h2 : mCall lenV (mCons (mVar 3) mNil) [a0, a1, a2, some (.loc m), o4, o5] S = .ok (.int xs.length) S := by
    rw [x_call, x_cons, x_v3, x_bind, x_nil, x_bind, x_bind]
    show (match asSq S (.loc m) with
      | some xs => Res.ok (AV.int xs.length) S
      | none => .bad) = _
    have : asSq S (.loc m) = some xs := by unfold asSq asL; simp only [h]
    rw [this]
  have h3 : mMeth (appV b) (mVar 3) (mCons (mCall lenV (mCons (mVar 3) (mNil))) mNil) [a0, a1, a2, some (.loc m), o4, o5] S = .ok .non (S.set m (.lst (xs ++ [.int xs.length]))) := by
    have ha : lstOnly (.loc m) S = .ok (.loc m) S := by unfold lstOnly asL; simp only [h]
    unfold mMeth
    rw [x_bindM, x_bindM, x_v3, x_bind, ha, x_bind, x_bindM, x_cons, h2, x_bind, x_nil, x_bind, x_bind]
    unfold appV
    simp only [h]
    have hz2 : xs.length < sizeLine := by have := small_size (n := xs.length + 1) (by omega); omega
    rw [if_pos ⟨hz2, .inr rfl⟩]
  unfold arA
  rw [x_if, x_tst, h1, x_bind, x_tstb, x_toS, x_sq, x_ex, h3, x_toS, x_nx]
  rfl
/-- every field, twice looked at -/
theorem fld_all {S : Store} {m : Nat} {v : AV} (hv : v ∈ items m) (h : S[m]? = some (.lst [.int 3])) : ∃ S2 S3 d2 d3, ArA v S S2 ∧ ArA v S2 S3 ∧ Fld v S2 d2 ∧ Fld v S3 d3 ∧ S2.length = S.length ∧ S3.length = S.length ∧ ∀ n, n ≠ m → S3[n]? = S[n]? := by
  have hm := (List.getElem?_eq_some_iff.mp h).1
  have flat : ∀ d, ArA v S S → Fld v S d → ∃ S2 S3 d2 d3, ArA v S S2 ∧ ArA v S2 S3 ∧ Fld v S2 d2 ∧ Fld v S3 d3 ∧ S2.length = S.length ∧ S3.length = S.length ∧ ∀ n, n ≠ m → S3[n]? = S[n]? :=
    fun d a f => ⟨S, S, d, d, a, a, f, f, rfl, rfl, fun _ _ => rfl⟩
  simp only [items, List.mem_cons, List.not_mem_nil, or_false] at hv
  rcases hv with rfl | rfl | rfl | rfl | rfl | rfl | rfl | rfl | rfl | rfl | rfl | rfl
  · exact flat (.int 0) (fun _ _ _ _ _ _ => by kernel_rfl) ⟨rfl, rfl, rfl, by decide +kernel, by decide +kernel, by decide +kernel, by decide +kernel⟩
  · exact flat (.int 7) (fun _ _ _ _ _ _ => by kernel_rfl) ⟨rfl, rfl, rfl, by decide +kernel, by decide +kernel, by decide +kernel, by decide +kernel⟩
  · exact flat (.int (-1)) (fun _ _ _ _ _ _ => by kernel_rfl) ⟨rfl, rfl, rfl, by decide +kernel, by decide +kernel, by decide +kernel, by decide +kernel⟩
  · exact flat (.int (10 ^ 30)) (fun _ _ _ _ _ _ => by kernel_rfl) ⟨rfl, rfl, rfl, by decide +kernel, by decide +kernel, by decide +kernel, by decide +kernel⟩
  · exact flat .none (fun _ _ _ _ _ _ => by kernel_rfl) ⟨rfl, rfl, rfl, by decide +kernel, by decide +kernel, by decide +kernel, by decide +kernel⟩
  · exact flat (.str "") (fun _ _ _ _ _ _ => by kernel_rfl) ⟨rfl, rfl, rfl, by decide +kernel, by decide +kernel, by decide +kernel, by decide +kernel⟩
  · exact flat (.str "wires") (fun _ _ _ _ _ _ => by kernel_rfl) ⟨rfl, rfl, rfl, by decide +kernel, by decide +kernel, by decide +kernel, by decide +kernel⟩
  · exact flat (.tuple []) (fun _ _ _ _ _ _ => by kernel_rfl) ⟨rfl, rfl, rfl, by decide +kernel, by decide +kernel, by decide +kernel, by decide +kernel⟩
  · exact flat (.tuple [.int 1, .int 2]) (fun _ _ _ _ _ _ => by kernel_rfl) ⟨rfl, rfl, rfl, by decide +kernel, by decide +kernel, by decide +kernel, by decide +kernel⟩
  · have e2 : (S.set m (.lst ([.int 3] ++ [.int ([AV.int 3].length : Nat)])))[m]? = some (.lst (([3, 1] : List Int).map .int)) := by rw [List.getElem?_set_self hm]; rfl
    have e3 : ((S.set m (.lst ([.int 3] ++ [.int ([AV.int 3].length : Nat)]))).set m (.lst ((([3, 1] : List Int).map .int) ++ [.int ((([3, 1] : List Int).map AV.int).length : Nat)])))[m]? = some (.lst (([3, 1, 2] : List Int).map .int)) := by
      rw [List.getElem?_set_self (by simpa using hm)]; rfl
    refine ⟨_, _, .list (([3, 1] : List Int).map .int), .list (([3, 1, 2] : List Int).map .int), ara_list h (by decide), ara_list e2 (by decide), fld_list e2 (by decide +kernel) (by decide +kernel) (by decide +kernel) (by decide +kernel), fld_list e3 (by decide +kernel) (by decide +kernel) (by decide +kernel) (by decide +kernel), by simp, by simp, fun n hn => ?_⟩
    rw [List.getElem?_set_ne (Ne.symm hn), List.getElem?_set_ne (Ne.symm hn)]
  · exact flat (.dict []) (fun _ _ _ _ _ _ => by kernel_rfl) ⟨rfl, rfl, rfl, by decide +kernel, by decide +kernel, by decide +kernel, by decide +kernel⟩
  · exact flat (.bool true) (fun _ _ _ _ _ _ => by kernel_rfl) ⟨rfl, rfl, rfl, by decide +kernel, by decide +kernel, by decide +kernel, by decide +kernel⟩
end K05

set_option Elab.async false
set_option linter.all false
set_option maxRecDepth 100000
set_option maxHeartbeats 2000000
namespace K05
open PySem PySem.Spec PyProof.Rows L2 Ve
theorem pick_ok {S : Store} {n : Nat} {c : Int} {xs : List AV} (h : SrcAt S n c) (hc : c < 1048575) (h0 : xs ≠ []) (h1 : xs.length ≤ 100000) (hcl : clL S.length xs = true) :
    ∃ y S', f_law_pick [.loc n, .lst xs] S = .ok y S' ∧ y ∈ xs ∧ SrcAt S' n (c + 1) ∧ ∃ o, S' = S.set n o := by
  have hl : 0 < xs.length := List.length_pos_iff.mpr h0
  have hbig : ((xs.length : Nat) : Int).natAbs < 2 ^ 8000 := by
    rw [Int.natAbs_natCast]
    exact Nat.lt_of_le_of_lt h1 (by decide)
  obtain ⟨d, S', hd, d0, d1, hs, o, ho⟩ := draw_ok (lim := xs.length) h hc (by omega) hbig
  have hlt : d.toNat < xs.length := by omega
  have hat : atI xs d = some xs[d.toNat] := by
    unfold atI ixN
    rw [if_pos d0, if_pos (by omega)]
    simp [hlt]
  have hlen : S'.length = S.length := by rw [ho]; simp
  refine ⟨xs[d.toNat], S', ?_, List.getElem_mem hlt, hs, o, ho⟩
  have hb : m_law_pick S.length [some (.loc n), some (.lst xs)] S = .rt xs[d.toNat] S' := by
    have h2 : mFn f_law_draw 2 (mCons (mVar 0) (mCons (mCall lenV (mCons (mVar 1) (mNil))) (mNil))) [some (.loc n), some (.lst xs)] S = .ok (.int d) S' := by
      rw [x_fn, x_cons, x_v0, x_bind, x_cons, x_call, x_cons, x_v1, x_bind, x_nil, x_bind, x_bind, lenL, x_bind, x_nil, x_bind, x_bind, x_bind]
      exact hd
    unfold m_law_pick
    rw [x_sq, x_ret, x_bin, x_v1, x_bind, h2, x_bind, ixL hat, x_toS, x_rt]
  unfold f_law_pick
  rw [x_run]
  show collect 0 S.length (m_law_pick S.length [some (.loc n), some (.lst xs)] S) = _
  rw [hb, collect_cl ((clL_iff _ _).mp hcl _ (List.getElem_mem hlt)) hlen]
theorem src_len {S : Store} {n : Nat} {c : Int} (h : SrcAt S n c) : n < S.length := h.1
/-- the source's place alone matters -/
theorem src_of {S S' : Store} {n : Nat} {c : Int} (h : SrcAt S n c) (e : S'[n]? = S[n]?) : SrcAt S' n c := by
  obtain ⟨hn, cs, nx, rest, ct, hS, r⟩ := h
  have e1 : S[n]? = some (srcO cs nx rest ct) := by rw [hS, List.getElem?_set_self hn]
  rw [e1] at e
  have hn' := (List.getElem?_eq_some_iff.mp e).1
  refine ⟨hn', cs, nx, rest, ct, ?_, r⟩
  refine List.ext_getElem? fun i => ?_
  by_cases hi : n = i
  · subst hi
    rw [e, List.getElem?_set_self hn']
  · rw [List.getElem?_set_ne hi]
section
variable {a0 o2 o3 o4 o5 o6 : Option AV} {b : Nat}
theorem fn2 {h : Fn} {env : Ev} {m1 m2 : ME} {v1 v2 : AV} {S S1 S2 : Store} {r : Res AV} (h1 : m1 env S = .ok v1 S1) (h2 : m2 env S1 = .ok v2 S2) (hr : h [v1, v2] S2 = r) : mFn h 2 (mCons m1 (mCons m2 mNil)) env S = r := by
  rw [x_fn, x_cons, h1, x_bind, x_cons, h2, x_bind, x_nil, x_bind, x_bind, x_bind]
  exact hr
theorem s4_ok {S : Store} {c : Int} (h : SrcAt S 0 c) (hc : c < 1048575) : ∃ v S', mlaw_s4 b [a0, some (.loc 0), o2, o3, o4, o5, o6] S = .nx [a0, some (.loc 0), o2, some v, o4, o5, o6] S' ∧ v ∈ items S.length ∧ S'[S.length]? = some (.lst [.int 3]) ∧ SrcAt S' 0 (c + 1) ∧ S'.length = S.length + 1 := by
  have hS := src_len h
  have h1 : SrcAt (S ++ [.lst [.int 3]]) 0 c := src_of h (List.getElem?_append_left hS)
  obtain ⟨y, S', hp, hy, hs, o, ho⟩ := pick_ok (xs := items S.length) h1 hc (by intro z; cases z) (by simp [items]) (by simp [items, clL, AV.cl])
  have h2 : mLst (mCons (mC (.int 0)) (mCons (mC (.int 7)) (mCons (mNeg (mC (.int 1))) (mCons (mBin powV (mC (.int 10)) (mC (.int 30))) (mCons (mC .non) (mCons (mC (.str "")) (mCons (mC (.str "wires")) (mCons (mTup (mNil)) (mCons (mTup (mCons (mC (.int 1)) (mCons (mC (.int 2)) (mNil)))) (mCons (mLstM (mCons (mC (.int 3)) (mNil))) (mCons (mC .dc0) (mCons (mC (.bl true)) (mNil)))))))))))))
      [a0, some (.loc 0), o2, o3, o4, o5, o6] S = .ok (.lst (items S.length)) (S ++ [.lst [.int 3]]) := by kernel_rfl
  refine ⟨y, S', ?_, hy, ?_, hs, by rw [ho]; simp⟩
  · have h3 := fn2 (m1 := mVar 1) (env := [a0, some (.loc 0), o2, o3, o4, o5, o6]) x_v1 h2 hp
    unfold mlaw_s4
    rw [x_as, h3, x_toS]
    rfl
  · rw [ho, List.getElem?_set_ne (by omega), List.getElem?_append_right (Nat.le_refl _)]
    simp
theorem rp_fld {v : AV} {S : Store} {d : PyData} (f : Fld v S d) : reprV [v] S = .ok (.str d.shown) S := by
  unfold reprV
  simp only [f.s2]
  rw [if_pos ⟨f.sh, f.z1⟩]
theorem found_all (v : AV) : ErrAll false (found v) := by
  intro e he
  simp only [found, List.mem_cons, List.not_mem_nil, or_false] at he
  rcases he with rfl | rfl | rfl | rfl | rfl | rfl | rfl | rfl | rfl | rfl | rfl | rfl | rfl <;> exact ⟨_, _, _, rfl, by decide, by decide⟩
theorem two_all (v : AV) : ErrAll true [.exc 13 ["counter"] [v], .exc 14 ["action"] [v]] := by
  intro e he
  simp only [List.mem_cons, List.not_mem_nil, or_false] at he
  rcases he with rfl | rfl <;> exact ⟨_, _, _, rfl, by decide, by decide⟩
/-- one turn -/
theorem turn_ok {S : Store} {c : Int} (h : SrcAt S 0 c) (hc : c < 1048575) : ∃ p3 p4 p5 p6 S', mlaw_L1 b [a0, some (.loc 0), o2, o3, o4, o5, o6] S = .nx [a0, some (.loc 0), o2, p3, p4, p5, p6] S' ∧ SrcAt S' 0 (c + 1) := by
  obtain ⟨v, S1, h4, hv, hm, hs, hl⟩ := s4_ok (b := b) (a0 := a0) (o2 := o2) (o3 := o3) (o4 := o4) (o5 := o5) (o6 := o6) h hc
  have hS := src_len h
  obtain ⟨S2, S3, d2, d3, ha, hb, f2, f3, l2, l3, hk⟩ := fld_all hv hm
  have hcl : v.cl S1.length = true := by rw [← l2]; exact f2.cl
  have h6 := ar_ok (es := found v) (st := false) (v := v) (d := d2) (S0 := S1) (S := S2) (found_all v) (by simp [found]) (ha _ _ _ _ _ _) l2 f2.s1 f2.sh f2.z13
  have h8 := ar_ok (es := [.exc 13 ["counter"] [v], .exc 14 ["action"] [v]]) (st := true) (v := v) (d := d3) (S0 := S2) (S := S3) (two_all v) (by simp) (hb _ _ _ _ _ _) (by rw [l2, l3]) f3.s1 f3.sh f3.z2
  refine ⟨some v, some (.lst [.exc 13 ["counter"] [v], .exc 14 ["action"] [v]]), some (.exc 0 ["index", "part"] [v, .str "wires"]), some (.lst (List.replicate 13 v)), S3, ?_, src_of hs (hk 0 (by omega))⟩
  unfold mlaw_L1
  rw [x_sq, h4, x_nx, x_sq, s5_ok hcl, x_nx, x_sq, s6_ok h6 (rp_fld f2), x_nx, x_sq, s7_ok, x_nx, x_sq, s8_ok h8, x_nx, x_sq, s9_ok, x_nx, x_sq, s10_ok (rp_fld f3), x_nx, x_skip]
theorem turns_ok {S : Store} : ∀ (xs : List AV) (ys : List AV) (o2 o3 o4 o5 o6 : Option AV) (c : Int) (S : Store), SrcAt S 0 c → c + xs.length < 1048575 →
    ∃ p2 p3 p4 p5 p6 S', forL ⟨ys, none⟩ (gNm 2) (mlaw_L1 b) xs [a0, some (.loc 0), o2, o3, o4, o5, o6] S = .nx [a0, some (.loc 0), p2, p3, p4, p5, p6] S'
  | [], ys, o2, o3, o4, o5, o6, c, S, h, hc => ⟨o2, o3, o4, o5, o6, S, by unfold forL; rw [if_pos (Itm.ok_none.mpr trivial)]⟩
  | x :: xs, ys, o2, o3, o4, o5, o6, c, S, h, hc => by
    rw [List.length_cons] at hc
    obtain ⟨p3, p4, p5, p6, S1, h1, h2⟩ := turn_ok (b := b) (a0 := a0) (o2 := some x) (o3 := o3) (o4 := o4) (o5 := o5) (o6 := o6) h (by omega)
    obtain ⟨q2, q3, q4, q5, q6, S2, h3⟩ := turns_ok (S := S) xs ys (some x) p3 p4 p5 p6 (c + 1) S1 h2 (by omega)
    refine ⟨q2, q3, q4, q5, q6, S2, ?_⟩
    unfold forL
    rw [if_pos (Itm.ok_none.mpr trivial)]
    rw [x_nm, x_s2, x_nx, h1]
    exact h3
end
theorem source_ok {ns : List Int} (h : ns.length ≤ 63) : ∃ S, f_law_source [.scr ns] [] = .ok (.loc 0) S ∧ SrcAt S 0 0 := by
  have hcells : mBin addV (mVar 0) (mLst (mCons (mCall lenV (mCons (mVar 0) (mNil))) (mNil))) [some (.scr ns)] [.dK []] = .ok (.lst ((ns ++ [(ns.length : Int)]).map .int)) [.dK []] := by
    have h1 : mCall lenV (mCons (mVar 0) (mNil)) [some (.scr ns)] [.dK []] = .ok (.int (ns.map AV.int).length) [.dK []] := rfl
    rw [x_bin, x_v0, x_bind, x_lst, x_cons, h1, x_bind, x_nil, x_bind, x_bind, mkL_ok (by simp), x_bind]
    have e : addV (.scr ns) (.lst [.int ((ns.map AV.int).length : Nat)]) [.dK []] = if (ns.map AV.int).length + [AV.int ((ns.map AV.int).length : Nat)].length ≤ sizeLine then Res.ok (AV.lst (ns.map AV.int ++ [.int ((ns.map AV.int).length : Nat)])) [.dK []] else .bad := rfl
    rw [e, if_pos (small_size (by simp; omega))]
    simp
  have hb : m_law_source 0 [some (.scr ns)] [] = .rt (.loc 0) [srcO (ns ++ [(ns.length : Int)]) 0 0 0] := by
    have h2 : mDisp [.inr "cells", .inr "next", .inr "rest", .inr "count"] (mCons (mBin addV (mVar 0) (mLst (mCons (mCall lenV (mCons (mVar 0) (mNil))) (mNil)))) (mCons (mC (.int 0)) (mCons (mC (.int 0)) (mCons (mC (.int 0)) (mNil))))) [some (.scr ns)] [] = .ok (.loc 0) [srcO (ns ++ [(ns.length : Int)]) 0 0 0] := by
      unfold mDisp
      show Res.bind (mCons _ _ [some (.scr ns)] [.dK []]) _ = _
      rw [x_cons, hcells, x_bind]
      rfl
    unfold m_law_source
    rw [x_sq, x_ret, h2, x_toS, x_rt]
  refine ⟨[srcO (ns ++ [(ns.length : Int)]) 0 0 0], ?_, by simp, ns ++ [(ns.length : Int)], 0, 0, 0, by simp, by simp, by decide, by decide, by decide, by decide⟩
  unfold f_law_source
  rw [x_run]
  show collect 1 0 (m_law_source 0 [some (.scr ns)] []) = _
  rw [hb]
  have hfz : fz 24 [srcO (ns ++ [(ns.length : Int)]) 0 0 0] 0 (.loc 0) = .loc 0 := rfl
  have hcl : (srcO (ns ++ [(ns.length : Int)]) 0 0 0).cl 0 = true := by
    simp only [srcO, Ob.cl, List.map_cons, List.map_nil, clL, AV.cl, clL_map_int, Bool.and_self]
  unfold Ve.collect
  dsimp only
  rw [hfz]
  simp only [AV.cl, Nat.not_lt_zero, decide_false, Bool.false_eq_true, false_and, if_false, List.getElem?_cons_zero, hcl, Nat.le_refl, true_and, if_true]
  rfl
theorem law_plain : ∀ ns : List Int, ns.length ≤ 63 → ∃ S', flaw [.scr ns] [] = .ok (.bl true) S' := by
  intro ns h
  obtain ⟨S, hs, hS⟩ := source_ok h
  have h1 : mlaw_s11 0 [some (.scr ns), none, none, none, none, none, none] [] = .nx [some (.scr ns), some (.loc 0), none, none, none, none, none] S := by
    unfold mlaw_s11
    rw [x_as, x_fn, x_cons, x_v0, x_bind, x_nil, x_bind, x_bind]
    show Res.toS (f_law_source [.scr ns] []) _ _ = _
    rw [hs, x_toS]
    rfl
  obtain ⟨p2, p3, p4, p5, p6, S', ht⟩ := turns_ok (S := S) (b := 0) (a0 := some (.scr ns)) (rngL 0 3) (rngL 0 3) none none none none none 0 S hS (by decide)
  have h2 : mlaw_s12 0 [some (.scr ns), some (.loc 0), none, none, none, none, none] S = .nx [some (.scr ns), some (.loc 0), p2, p3, p4, p5, p6] S' := ht
  refine ⟨S'.take 0, ?_⟩
  have h3 : mlaw 0 [some (.scr ns), none, none, none, none, none, none] [] = .rt (.bl true) S' := by
    unfold mlaw
    rw [x_sq, h1, x_nx, x_sq, h2, x_nx, x_sq]
    rfl
  unfold flaw
  rw [x_run]
  show collect 0 0 (mlaw 0 [some (.scr ns), none, none, none, none, none, none] []) = _
  rw [h3]
  rfl
end K05

open PySem PySem.W PyProof.Rows
set_option maxHeartbeats 0 in
theorem PySem.Challenge.cw_carrynet_k05_errors_by_hand_holds : PySem.Challenge.rw_carrynet_k05_errors_by_hand.Holds := by
  w_on; o_law; k_head; (case hw => w_witness2)
  k_fill
  refine Ve.walk_ve (l := PySem.Challenge.rw_carrynet_k05_errors_by_hand) (n := 63) (k := 4) (x := "script") rfl (by decide) rfl ⟨rfl, by decide, by decide⟩ (fun w h Y => PySem.W.kIn_of Y) ?F
  case F =>
    intro w mg fa h KX G hmg
    refine' K05.fin (K05.ctx KX G ?chk ?e0 ?a0 ?l0 ?c0 ?k0 ?e1 ?a1 ?l1 ?c1 ?k1 ?e2 ?a2 ?l2 ?c2 ?k2 ?e3 ?a3 ?l3 ?c3 ?k3 ?e4 ?a4 ?l4 ?c4 ?k4 ?e5 ?a5 ?l5 ?c5 ?k5 ?e6 ?a6 ?l6 ?c6 ?k6 ?e7 ?a7 ?l7 ?c7 ?k7 ?e8 ?a8 ?l8 ?c8 ?k8 ?e9 ?a9 ?l9 ?c9 ?k9 ?e10 ?a10 ?l10 ?c10 ?k10 ?e11 ?a11 ?l11 ?c11 ?k11 ?e12 ?a12 ?l12 ?c12 ?k12 ?e13 ?a13 ?l13 ?c13 ?k13 ?e14 ?a14 ?l14 ?c14 ?k14 ?e_law_source ?l_law_source ?c_law_source ?k_law_source ?e_law_draw ?l_law_draw ?c_law_draw ?k_law_draw ?e_law_pick ?l_law_pick ?c_law_pick ?k_law_pick ?e_law_arguments ?l_law_arguments ?c_law_arguments ?k_law_arguments ?e_law_kinds ?l_law_kinds ?c_law_kinds ?k_law_kinds ?e_law_all_right ?l_law_all_right ?c_law_all_right ?k_law_all_right ?elaw ?llaw ?claw ?klaw) hmg K05.law_plain
    (case e0 => k_is); (case a0 => k_is); (case l0 => k_is); (case c0 => k_is); (case k0 => k_is); (case e1 => k_is); (case a1 => k_is); (case l1 => k_is); (case c1 => k_is); (case k1 => k_is); (case e2 => k_is); (case a2 => k_is); (case l2 => k_is); (case c2 => k_is); (case k2 => k_is); (case e3 => k_is); (case a3 => k_is); (case l3 => k_is); (case c3 => k_is); (case k3 => k_is); (case e4 => k_is); (case a4 => k_is); (case l4 => k_is); (case c4 => k_is); (case k4 => k_is); (case e5 => k_is); (case a5 => k_is); (case l5 => k_is); (case c5 => k_is); (case k5 => k_is); (case e6 => k_is); (case a6 => k_is); (case l6 => k_is); (case c6 => k_is); (case k6 => k_is); (case e7 => k_is); (case a7 => k_is); (case l7 => k_is); (case c7 => k_is); (case k7 => k_is); (case e8 => k_is); (case a8 => k_is); (case l8 => k_is); (case c8 => k_is); (case k8 => k_is); (case e9 => k_is); (case a9 => k_is); (case l9 => k_is); (case c9 => k_is); (case k9 => k_is); (case e10 => k_is); (case a10 => k_is); (case l10 => k_is); (case c10 => k_is); (case k10 => k_is); (case e11 => k_is); (case a11 => k_is); (case l11 => k_is); (case c11 => k_is); (case k11 => k_is); (case e12 => k_is); (case a12 => k_is); (case l12 => k_is); (case c12 => k_is); (case k12 => k_is); (case e13 => k_is); (case a13 => k_is); (case l13 => k_is); (case c13 => k_is); (case k13 => k_is); (case e14 => k_is); (case a14 => k_is); (case l14 => k_is); (case c14 => k_is); (case k14 => k_is); (case e_law_source => k_is); (case l_law_source => k_is); (case c_law_source => k_is); (case k_law_source => k_is); (case e_law_draw => k_is); (case l_law_draw => k_is); (case c_law_draw => k_is); (case k_law_draw => k_is); (case e_law_pick => k_is); (case l_law_pick => k_is); (case c_law_pick => k_is); (case k_law_pick => k_is); (case e_law_arguments => k_is); (case l_law_arguments => k_is); (case c_law_arguments => k_is); (case k_law_arguments => k_is); (case e_law_kinds => k_is); (case l_law_kinds => k_is); (case c_law_kinds => k_is); (case k_law_kinds => k_is); (case e_law_all_right => k_is); (case l_law_all_right => k_is); (case c_law_all_right => k_is); (case k_law_all_right => k_is); (case elaw => k_is); (case llaw => k_is); (case claw => k_is); (case klaw => k_is)
    (case chk => kernel_rfl)

