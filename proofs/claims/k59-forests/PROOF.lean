import PyProof.Rows.All
import Wide.All
import OpenK.AllK
import Wide.FinOn
import HandS.Base
import HandS.Call
import HandS.List
import HandS.Exc
import HandS.TupAny
import HandS.TupMul
import HandS.Wide
import HandS.Deep
import HandS.Style
import HandS.Text
import HandS.Iter
import HandS.Comp
import HandS.Zip
import HandS.Conv
import PyProof.Draws
import PyProof.EnumMake
import KE.GoesMore
import HandS.Words
import HandS.More
import HandS.SetFor
import HandS.ExcOwn
import HandS.WordsExc
import HandS.Defaults
import HandS.Ends
import HandS.HeadEnd
import HandS.IsInst
import HandS.SortInts
import HandS.RaiseMore
import KE.DatumOrd
import KE.OsSort
import PyProof.ReprRoads
import PyProof.Rows.SetFrom
import PyProof.Rows.RegFStrParts
import KE.KStateDown
import Lean
import HandS.Head0
import HandS.Head1
import HandS.Head2
import HandS.HeadHook1
import HandS.HeadHook2
import PySem.Challenge.RW_takenjoined_k59_whole_forests_need_so_ma
section T_IL0
set_option Elab.async false
set_option linter.all false
set_option maxRecDepth 100000
/-! An abstract, executable semantics over the hand layer: pure values, slots, a small heap of changing objects. -/
namespace IL
open PySem PySem.Spec L2
open PyProof.Rows hiding St

/-! ### values -/
inductive U where
  | non | bl (b : Bool) | int (i : Int) | str (x : Str)
  | tup (us : List U) | lst (us : List U) | scr (us : List U) | dct (ks us : List U)
  | adr (n : Nat) | fn (x : Str) | ins (C : Str) (ns : List Str) (us : List U)
  deriving Inhabited

/-- a slot: nothing, a value, a list of its own -/
inductive Sl where
  | non | val (u : U) | own (us : List U)
/-- a changing object -/
inductive Ob where
  | lst (us : List U) | dct (ks us : List U) | ins (C : Str) (ns : List Str) (us : List U)
structure ASt where
  sl : List Sl
  G : List Ob
/-- what an expression gives: a value, the list of a slot, a new list, a new dict -/
inductive R where
  | val (u : U) | slot (i : Nat) | own (us : List U) | dic (ks us : List U)
inductive Out (α : Type) where
  | ok (x : α) (a : ASt) | exc (e : U) (a : ASt) | bad
inductive OutS where
  | nx (a : ASt) | rt (r : R) (G : List Ob) | bk (a : ASt) | ct (a : ASt) | exc (e : U) (a : ASt) | bad
def Out.bind {α β : Type} (o : Out α) (f : α → ASt → Out β) : Out β := match o with
  | .ok x a => f x a
  | .exc e a => .exc e a
  | .bad => .bad
def Out.bindS {α : Type} (o : Out α) (f : α → ASt → OutS) : OutS := match o with
  | .ok x a => f x a
  | .exc e a => .exc e a
  | .bad => .bad
abbrev ES := ASt → Out R
abbrev SS := ASt → OutS
/-- a changing list, a changing dict as it is now -/
def U.now (a : ASt) : U → U
  | .adr n => match a.G[n]? with
    | some (.lst us) => .lst us
    | some (.dct ks us) => .dct ks us
    | _ => .adr n
  | u => u
def R.view (a : ASt) : R → U
  | .val u => u.now a
  | .own us => .lst us
  | .dic ks us => .dct ks us
  | .slot i => match a.sl[i]? with
    | some (.own us) => .lst us
    | some (.val u) => u.now a
    | _ => .non

/-! ### what stands for what -/
structure Kc where
  K : PySem.W.Frag
  mg : Str → Option Value
/-- a list that is known, or written -/
def SqF (K : PySem.W.Frag) (H : Hp) (p : Addr) (xs : List V) : Prop :=
  (∃ o, H p = some (.frz o (.lst xs))) ∨ ∃ (o : Obj) (its : Array Value) (n : Nat), K.lookup p = some o ∧ o.cls = .type "list" ∧ o.dict = none ∧ o.data = .seq its n ∧ its.size ≤ sizeLine ∧ Vals xs its.toList
theorem SqF.sq {K : PySem.W.Frag} {H : Hp} {p : Addr} {xs : List V} (h : SqF K H p xs) : SqL K H p xs := by
  rcases h with h | h
  · exact .inl (.inr h)
  · exact .inr h
theorem sqL_cases {K : PySem.W.Frag} {H : Hp} {p : Addr} {xs : List V} (h : SqL K H p xs) : H p = some (.lst xs) ∨ SqF K H p xs := by
  rcases h with (h | h) | h
  · exact .inl h
  · exact .inr (.inl h)
  · exact .inr (.inr h)
/-- a dict with keys of ints, texts, or tuples of these -/
def DOk (H : Hp) (p : Addr) (kvs : List (V × V)) : Prop :=
  ∃ ks : List (Key × V), H p = some (.dK ks) ∧ kvs = ks.map fun q => (kV q.1, q.2)
mutual
inductive Rep (c : Kc) (ρ : List Addr) (H : Hp) (B : Addr → Prop) : U → V → Prop
  | non : Rep c ρ H B .non .non
  | bl (b : Bool) : Rep c ρ H B (.bl b) (.bl b)
  | int (i : Int) : Rep c ρ H B (.int i) (.int i)
  | str (x : Str) : Rep c ρ H B (.str x) (.str x)
  | tup {us : List U} {vs : List V} {p : Addr} : SqT c.K H p vs → RepL c ρ H B us vs → Rep c ρ H B (.tup us) (.ref p)
  | lst {us : List U} {vs : List V} {p : Addr} : H p = some (.lst vs) → ¬ B p → RepL c ρ H B us vs → Rep c ρ H B (.lst us) (.ref p)
  | lsf {us : List U} {vs : List V} {p : Addr} : SqF c.K H p vs → RepL c ρ H B us vs → Rep c ρ H B (.scr us) (.ref p)
  | dct {ks us : List U} {kvs : List (V × V)} {p : Addr} : DOk H p kvs → ¬ B p → RepL c ρ H B ks (kvs.map (·.1)) → RepL c ρ H B us (kvs.map (·.2)) → Rep c ρ H B (.dct ks us) (.ref p)
  | adr {n : Nat} {p : Addr} : ρ[n]? = some p → Rep c ρ H B (.adr n) (.ref p)
  | fn {x : Str} {f : Addr} : c.mg x = some (.ref f) → Rep c ρ H B (.fn x) (.ref f)
  | ins {C : Str} {C0 dx p : Addr} {fs : List (Str × V)} {us : List U} : c.mg C = some (.ref C0) → H p = some (.ins C0 dx fs) → ¬ B p → RepL c ρ H B us (fs.map (·.2)) → Rep c ρ H B (.ins C (fs.map (·.1)) us) (.ref p)
inductive RepL (c : Kc) (ρ : List Addr) (H : Hp) (B : Addr → Prop) : List U → List V → Prop
  | nil : RepL c ρ H B [] []
  | cons {u : U} {us : List U} {v : V} {vs : List V} : Rep c ρ H B u v → RepL c ρ H B us vs → RepL c ρ H B (u :: us) (v :: vs)
end

/-- what B does not name is kept -/
structure Kp (B : Addr → Prop) (H H' : Hp) : Prop where
  keep : ∀ a o, H a = some o → ¬ B a → H' a = some o
  tup : ∀ a xs, H a = some (.tup xs) → H' a = some (.tup xs)
  frz : ∀ a o u, H a = some (.frz o u) → H' a = some (.frz o u)
theorem Kp.sqT {B : Addr → Prop} {H H' : Hp} (k : Kp B H H') {K : PySem.W.Frag} {p : Addr} {xs : List V} (h : SqT K H p xs) : SqT K H' p xs := by
  rcases h with (h | ⟨o, h⟩) | h
  · exact .inl (.inl (k.tup _ _ h))
  · exact .inl (.inr ⟨o, k.frz _ _ _ h⟩)
  · exact .inr h
theorem Kp.sqF {B : Addr → Prop} {H H' : Hp} (k : Kp B H H') {K : PySem.W.Frag} {p : Addr} {xs : List V} (h : SqF K H p xs) : SqF K H' p xs := by
  rcases h with ⟨o, h⟩ | h
  · exact .inl ⟨o, k.frz _ _ _ h⟩
  · exact .inr h
theorem Kp.dok {B : Addr → Prop} {H H' : Hp} (k : Kp B H H') {p : Addr} {kvs : List (V × V)} (h : DOk H p kvs) (n : ¬ B p) : DOk H' p kvs := by
  obtain ⟨ks, h, e⟩ := h
  exact ⟨ks, k.keep _ _ h n, e⟩
theorem DOk.has {H : Hp} {p : Addr} {kvs : List (V × V)} (h : DOk H p kvs) : ∃ o, H p = some o := by
  obtain ⟨ks, h, e⟩ := h
  exact ⟨_, h⟩
section
variable {c : Kc} {ρ ρ' : List Addr} {H H' : Hp} {B B' : Addr → Prop}
theorem pre_get {α : Type} {l l' : List α} (h : l <+: l') {n : Nat} {x : α} (e : l[n]? = some x) : l'[n]? = some x := by
  obtain ⟨t, rfl⟩ := h
  have hl : n < l.length := by
    rcases Nat.lt_or_ge n l.length with h | h
    · exact h
    · rw [List.getElem?_eq_none h] at e
      cases e
  rw [List.getElem?_append_left hl]
  exact e
mutual
theorem Rep.frame (hp : ρ <+: ρ') (k : Kp B H H') (hb : ∀ a o, H a = some o → B' a → B a) : ∀ {u : U} {v : V}, Rep c ρ H B u v → Rep c ρ' H' B' u v
  | _, _, .non => .non
  | _, _, .bl b => .bl b
  | _, _, .int i => .int i
  | _, _, .str x => .str x
  | _, _, .tup h r => .tup (k.sqT h) (RepL.frame hp k hb r)
  | _, _, .lst h n r => .lst (k.keep _ _ h n) (fun z => n (hb _ _ h z)) (RepL.frame hp k hb r)
  | _, _, .lsf h r => .lsf (k.sqF h) (RepL.frame hp k hb r)
  | _, _, .dct h n r1 r2 => .dct (k.dok h n) (fun z => let ⟨_, e⟩ := h.has; n (hb _ _ e z)) (RepL.frame hp k hb r1) (RepL.frame hp k hb r2)
  | _, _, .adr h => .adr (pre_get hp h)
  | _, _, .fn h => .fn h
  | _, _, .ins g h n r => .ins g (k.keep _ _ h n) (fun z => n (hb _ _ h z)) (RepL.frame hp k hb r)
theorem RepL.frame (hp : ρ <+: ρ') (k : Kp B H H') (hb : ∀ a o, H a = some o → B' a → B a) : ∀ {us : List U} {vs : List V}, RepL c ρ H B us vs → RepL c ρ' H' B' us vs
  | _, _, .nil => .nil
  | _, _, .cons h t => .cons (Rep.frame hp k hb h) (RepL.frame hp k hb t)
end
theorem Kp.refl : Kp B H H := ⟨fun _ _ h _ => h, fun _ _ h => h, fun _ _ _ h => h⟩
theorem Rep.bad (h : Rep c ρ H B u v) (hb : ∀ a o, H a = some o → B' a → B a) : Rep c ρ H B' u v := h.frame (List.prefix_refl _) Kp.refl hb
theorem RepL.bad (h : RepL c ρ H B us vs) (hb : ∀ a o, H a = some o → B' a → B a) : RepL c ρ H B' us vs := h.frame (List.prefix_refl _) Kp.refl hb
theorem RepL.length : ∀ {us : List U} {vs : List V}, RepL c ρ H B us vs → us.length = vs.length
  | _, _, .nil => rfl
  | _, _, .cons _ t => by simp only [List.length_cons, RepL.length t]
theorem RepL.get : ∀ {us : List U} {vs : List V} {i : Nat} {v : V}, RepL c ρ H B us vs → vs[i]? = some v → ∃ u, us[i]? = some u ∧ Rep c ρ H B u v
  | _, _, _, _, .nil, e => by simp at e
  | _, _, 0, _, .cons h _, e => by simp at e; subst e; exact ⟨_, rfl, h⟩
  | _, _, i + 1, _, .cons _ t, e => by
    obtain ⟨u, e1, h1⟩ := RepL.get (i := i) t (by simpa using e)
    exact ⟨u, by simpa using e1, h1⟩
theorem RepL.get' : ∀ {us : List U} {vs : List V} {i : Nat} {u : U}, RepL c ρ H B us vs → us[i]? = some u → ∃ v, vs[i]? = some v ∧ Rep c ρ H B u v
  | _, _, _, _, .nil, e => by simp at e
  | _, _, 0, _, .cons h _, e => by simp at e; subst e; exact ⟨_, rfl, h⟩
  | _, _, i + 1, _, .cons _ t, e => by
    obtain ⟨u, e1, h1⟩ := RepL.get' (i := i) t (by simpa using e)
    exact ⟨u, by simpa using e1, h1⟩
theorem RepL.append : ∀ {us ws : List U} {vs xs : List V}, RepL c ρ H B us vs → RepL c ρ H B ws xs → RepL c ρ H B (us ++ ws) (vs ++ xs)
  | _, _, _, _, .nil, h => h
  | _, _, _, _, .cons h t, h2 => .cons h (RepL.append t h2)
theorem RepL.take : ∀ {us : List U} {vs : List V} (n : Nat), RepL c ρ H B us vs → RepL c ρ H B (us.take n) (vs.take n)
  | _, _, 0, _ => .nil
  | _, _, _ + 1, .nil => .nil
  | _, _, n + 1, .cons h t => .cons h (RepL.take n t)
theorem RepL.drop : ∀ {us : List U} {vs : List V} (n : Nat), RepL c ρ H B us vs → RepL c ρ H B (us.drop n) (vs.drop n)
  | _, _, 0, h => h
  | _, _, _ + 1, .nil => .nil
  | _, _, n + 1, .cons _ t => RepL.drop n t
theorem RepL.set : ∀ {us : List U} {vs : List V} {u : U} {v : V} (n : Nat), RepL c ρ H B us vs → Rep c ρ H B u v → RepL c ρ H B (us.set n u) (vs.set n v)
  | _, _, _, _, _, .nil, _ => .nil
  | _, _, _, _, 0, .cons _ t, r => .cons r t
  | _, _, _, _, n + 1, .cons h t, r => .cons h (RepL.set n t r)
theorem RepL.reverse : ∀ {us : List U} {vs : List V}, RepL c ρ H B us vs → RepL c ρ H B us.reverse vs.reverse
  | _, _, .nil => .nil
  | _, _, .cons h t => by
    rw [List.reverse_cons, List.reverse_cons]
    exact (RepL.reverse t).append (.cons h .nil)
end

/-! ### states -/
def OwnA (a : ASt) (σ : St) (p : Addr) : Prop := ∃ (i : Nat) (us : List U), a.sl[i]? = some (.own us) ∧ σ[i]? = some (some (.ref p))
def Bad (S : Addr → Prop) (ρ : List Addr) (a : ASt) (σ : St) (p : Addr) : Prop := S p ∨ p ∈ ρ ∨ OwnA a σ p
def ObRep (c : Kc) (ρ : List Addr) (H : Hp) (B : Addr → Prop) (p : Addr) : Ob → Prop
  | .lst us => ∃ vs, H p = some (.lst vs) ∧ RepL c ρ H B us vs
  | .dct ks us => ∃ kvs, DOk H p kvs ∧ RepL c ρ H B ks (kvs.map (·.1)) ∧ RepL c ρ H B us (kvs.map (·.2))
  | .ins C ns us => ∃ C0 dx fs, c.mg C = some (.ref C0) ∧ H p = some (.ins C0 dx fs) ∧ ns = fs.map (·.1) ∧ RepL c ρ H B us (fs.map (·.2))
structure Rel (c : Kc) (S : Addr → Prop) (ρ : List Addr) (a : ASt) (σ : St) (H : Hp) : Prop where
  val : ∀ (i : Nat) (u : U), a.sl[i]? = some (.val u) → ∃ v, σ[i]? = some (some v) ∧ Rep c ρ H (Bad S ρ a σ) u v
  own : ∀ (i : Nat) (us : List U), a.sl[i]? = some (.own us) → ∃ p vs, σ[i]? = some (some (.ref p)) ∧ H p = some (.lst vs) ∧ RepL c ρ H (Bad S ρ a σ) us vs ∧ p ∉ ρ ∧ ¬ S p
  inj : ∀ (i j : Nat) (us ws : List U) (p : Addr), a.sl[i]? = some (.own us) → a.sl[j]? = some (.own ws) → σ[i]? = some (some (.ref p)) → σ[j]? = some (some (.ref p)) → i = j
  glen : ρ.length = a.G.length
  obj : ∀ (n : Nat) (ob : Ob) (p : Addr), a.G[n]? = some ob → ρ[n]? = some p → ObRep c ρ H (Bad S ρ a σ) p ob
  nd : ρ.Nodup
  rs : ∀ p ∈ ρ, ¬ S p
  sall : ∀ p, S p → ∃ o, H p = some o
  slen : a.sl.length = σ.length
/-- from one state to a later one -/
structure Ext (m : Bool) (ρ : List Addr) (a : ASt) (σ : St) (H : Hp) (ρ' : List Addr) (a' : ASt) (σ' : St) (H' : Hp) : Prop where
  pre : ρ <+: ρ'
  keep : ∀ q o, H q = some o → q ∉ ρ → (m = true → ¬ OwnA a σ q) → H' q = some o
  there : ∀ q o, H q = some o → ∃ o', H' q = some o'
  tup : ∀ q xs, H q = some (.tup xs) → H' q = some (.tup xs)
  frz : ∀ q o u, H q = some (.frz o u) → H' q = some (.frz o u)
  fr : ∀ q ∈ ρ', q ∈ ρ ∨ H q = none
  frO : ∀ q, OwnA a' σ' q → OwnA a σ q ∨ H q = none
section
variable {m : Bool} {c : Kc} {S T : Addr → Prop} {ρ ρ1 ρ2 : List Addr} {a a1 a2 : ASt} {σ σ1 σ2 : St} {H H1 H2 : Hp}
theorem Ext.refl : Ext m ρ a σ H ρ a σ H := ⟨List.prefix_refl _, fun _ _ h _ _ => h, fun _ o h => ⟨o, h⟩, fun _ _ h => h, fun _ _ _ h => h, fun _ h => .inl h, fun _ h => .inl h⟩
theorem Ext.was (e : Ext m ρ a σ H ρ1 a1 σ1 H1) {q : Addr} (h : H1 q = none) : H q = none := by
  cases z : H q with
  | none => rfl
  | some o =>
    obtain ⟨o', h'⟩ := e.there q o z
    rw [h] at h'
    cases h'
theorem Ext.trans (e : Ext m ρ a σ H ρ1 a1 σ1 H1) (f : Ext m ρ1 a1 σ1 H1 ρ2 a2 σ2 H2) : Ext m ρ a σ H ρ2 a2 σ2 H2 where
  pre := e.pre.trans f.pre
  keep := fun q o h n1 n2 => f.keep q o (e.keep q o h n1 n2)
    (fun z => (e.fr q z).elim n1 fun z => by rw [h] at z; cases z)
    (fun hm z => (e.frO q z).elim (n2 hm) fun z => by rw [h] at z; cases z)
  there := fun q o h => let ⟨o1, h1⟩ := e.there q o h; f.there q o1 h1
  tup := fun q xs h => f.tup q xs (e.tup q xs h)
  frz := fun q o u h => f.frz q o u (e.frz q o u h)
  fr := fun q z => (f.fr q z).elim (fun z => e.fr q z) fun z => .inr (e.was z)
  frO := fun q z => (f.frO q z).elim (fun z => e.frO q z) fun z => .inr (e.was z)
theorem Ext.kp (e : Ext m ρ a σ H ρ1 a1 σ1 H1) : Kp (Bad S ρ a σ) H H1 :=
  ⟨fun q o h n => e.keep q o h (fun z => n (.inr (.inl z))) fun _ z => n (.inr (.inr z)), e.tup, e.frz⟩
theorem Ext.bad (e : Ext m ρ a σ H ρ1 a1 σ1 H1) (hS : ∀ p, T p → S p) : ∀ q o, H q = some o → Bad T ρ1 a1 σ1 q → Bad S ρ a σ q := fun q o h z => by
  rcases z with z | z | z
  · exact .inl (hS q z)
  · exact (e.fr q z).elim (fun z => .inr (.inl z)) fun z => by rw [h] at z; cases z
  · exact (e.frO q z).elim (fun z => .inr (.inr z)) fun z => by rw [h] at z; cases z
/-- what stood for a value ahead stands for it still -/
theorem Ext.rep (e : Ext m ρ a σ H ρ1 a1 σ1 H1) (hS : ∀ p, T p → S p) {u : U} {v : V} (h : Rep c ρ H (Bad S ρ a σ) u v) : Rep c ρ1 H1 (Bad T ρ1 a1 σ1) u v :=
  h.frame e.pre e.kp (e.bad hS)
theorem Ext.repL (e : Ext m ρ a σ H ρ1 a1 σ1 H1) (hS : ∀ p, T p → S p) {us : List U} {vs : List V} (h : RepL c ρ H (Bad S ρ a σ) us vs) : RepL c ρ1 H1 (Bad T ρ1 a1 σ1) us vs :=
  h.frame e.pre e.kp (e.bad hS)
theorem bad_sub (hS : ∀ p, T p → S p) : ∀ q o, H q = some o → Bad T ρ a σ q → Bad S ρ a σ q := fun q _ _ z => by
  rcases z with z | z | z
  · exact .inl (hS q z)
  · exact .inr (.inl z)
  · exact .inr (.inr z)
theorem ObRep.frame {B B' : Addr → Prop} (hp : ρ <+: ρ1) (k : Kp B H H1) (hb : ∀ a o, H a = some o → B' a → B a) {p : Addr} {ob : Ob} (hk : H1 p = H p) (h : ObRep c ρ H B p ob) : ObRep c ρ1 H1 B' p ob := by
  cases ob with
  | lst us =>
    obtain ⟨vs, e, r⟩ := h
    exact ⟨vs, hk.trans e, r.frame hp k hb⟩
  | dct ks us =>
    obtain ⟨kvs, ⟨xs, e, e2⟩, r1, r2⟩ := h
    exact ⟨kvs, ⟨xs, hk.trans e, e2⟩, r1.frame hp k hb, r2.frame hp k hb⟩
  | ins C ns us =>
    obtain ⟨C0, dx, fs, g, e, en, r⟩ := h
    exact ⟨C0, dx, fs, g, hk.trans e, en, r.frame hp k hb⟩
theorem ObRep.has {B : Addr → Prop} {p : Addr} {ob : Ob} (h : ObRep c ρ H B p ob) : ∃ o, H p = some o := by
  cases ob with
  | lst us => obtain ⟨vs, e, _⟩ := h; exact ⟨_, e⟩
  | dct ks us => obtain ⟨kvs, e, _⟩ := h; exact e.has
  | ins C ns us => obtain ⟨C0, dx, fs, g, e, _⟩ := h; exact ⟨_, e⟩
/-- fewer addresses to shun -/
theorem Rel.sub (h : Rel c S ρ a σ H) (hS : ∀ p, T p → S p) : Rel c T ρ a σ H where
  val := fun i u e => let ⟨v, e1, r⟩ := h.val i u e; ⟨v, e1, r.bad (bad_sub hS)⟩
  own := fun i us e => let ⟨p, vs, e1, e2, r, n1, n2⟩ := h.own i us e; ⟨p, vs, e1, e2, r.bad (bad_sub hS), n1, fun z => n2 (hS p z)⟩
  inj := h.inj
  glen := h.glen
  obj := fun n ob p e1 e2 => (h.obj n ob p e1 e2).frame (List.prefix_refl _) Kp.refl (bad_sub hS) rfl
  nd := h.nd
  rs := fun p hp z => h.rs p hp (hS p z)
  sall := fun p z => h.sall p (hS p z)
  slen := h.slen
theorem Rel.bad_some (h : Rel c S ρ a σ H) {p : Addr} (b : Bad S ρ a σ p) : ∃ o, H p = some o := by
  rcases b with b | b | ⟨i, us, e1, e2⟩
  · exact h.sall p b
  · obtain ⟨n, hn, e⟩ := List.getElem_of_mem b
    have hg : n < a.G.length := by rw [← h.glen]; exact hn
    exact (h.obj n _ p (List.getElem?_eq_getElem hg) (by rw [List.getElem?_eq_getElem hn, e])).has
  · obtain ⟨q, vs, e3, e4, _⟩ := h.own i us e1
    rw [e2] at e3
    cases e3
    exact ⟨_, e4⟩
theorem Rel.fresh (h : Rel c S ρ a σ H) {p : Addr} (n : H p = none) : ¬ Bad S ρ a σ p := fun b => by
  obtain ⟨o, e⟩ := h.bad_some b
  rw [n] at e
  cases e
end

def orS (S T : Addr → Prop) : Addr → Prop := fun p => S p ∨ T p
theorem bad_wide {mm : Bool} {c : Kc} {S S2 : Addr → Prop} {ρ ρ2 : List Addr} {a a2 : ASt} {σ σ2 : St} {H H2 : Hp} (e : Ext mm ρ a σ H ρ2 a2 σ2 H2) (hS : ∀ p, S2 p → S p ∨ H p = none) : ∀ q o, H q = some o → Bad S2 ρ2 a2 σ2 q → Bad S ρ a σ q := fun q o h z => by
  rcases z with z | z | z
  · exact (hS q z).elim .inl fun z => by rw [h] at z; cases z
  · exact (e.fr q z).elim (fun z => .inr (.inl z)) fun z => by rw [h] at z; cases z
  · exact (e.frO q z).elim (fun z => .inr (.inr z)) fun z => by rw [h] at z; cases z
theorem Ext.repLS {mm : Bool} {c : Kc} {S S2 : Addr → Prop} {ρ ρ2 : List Addr} {a a2 : ASt} {σ σ2 : St} {H H2 : Hp} (e : Ext mm ρ a σ H ρ2 a2 σ2 H2) (hS : ∀ p, S2 p → S p ∨ H p = none) {us : List U} {vs : List V} (h : RepL c ρ H (Bad S ρ a σ) us vs) : RepL c ρ2 H2 (Bad S2 ρ2 a2 σ2) us vs :=
  h.frame e.pre e.kp (bad_wide (c := c) e hS)
theorem orP_fresh {S : Addr → Prop} {H : Hp} {p : Addr} (n : H p = none) : ∀ q, orS S (fun q => q = p) q → S q ∨ H q = none := fun q z => z.elim .inl fun z => .inr (by rw [z]; exact n)
/-! ### results -/
/-- the address of a new list (dict) -/
def fp : R → V → Addr → Prop
  | .own _, .ref p => fun q => q = p
  | .dic _ _, .ref p => fun q => q = p
  | _, _ => fun _ => False
def RepR (c : Kc) (S : Addr → Prop) (ρ : List Addr) (a : ASt) (σ : St) (H : Hp) : R → V → Prop
  | .val u, v => Rep c ρ H (Bad S ρ a σ) u v
  | .slot i, v => σ[i]? = some (some v)
  | .own us, v => ∃ p vs, v = .ref p ∧ H p = some (.lst vs) ∧ RepL c ρ H (Bad (orS S fun q => q = p) ρ a σ) us vs ∧ ¬ Bad S ρ a σ p
  | .dic ks us, v => ∃ p kvs, v = .ref p ∧ DOk H p kvs ∧ RepL c ρ H (Bad (orS S fun q => q = p) ρ a σ) ks (kvs.map (·.1)) ∧ RepL c ρ H (Bad (orS S fun q => q = p) ρ a σ) us (kvs.map (·.2)) ∧ ¬ Bad S ρ a σ p
/-- an exception: an own class by its name, its fields; a built-in class by its name alone -/
def XRep (c : Kc) (ρ : List Addr) (H : Hp) (B : Addr → Prop) : U → Value → Option Addr → Prop
  | .ins C ns us, cls, d => ∃ C0, c.mg C = some (.ref C0) ∧ cls = .ref C0 ∧ (us = [] ∧ ns = [] ∨ ∃ dx fs, d = some dx ∧ H dx = some (.xd fs) ∧ ns = fs.map (·.1) ∧ RepL c ρ H B us (fs.map (·.2)))
  | .str x, cls, _ => cls = .type x.toString
  | _, _, _ => False
/-- what is left to be shown of an outcome -/
def DoneE (c : Kc) (m : Bool) (S : Addr → Prop) (ρ : List Addr) (a : ASt) (σ : St) (H : Hp) (o : Out R) (Q : VK) (W : WX) : Prop := match o with
  | .bad => False
  | .ok r a' => ∀ v ρ' H', Ext m ρ a σ H ρ' a' σ H' → Rel c (orS S (fp r v)) ρ' a' σ H' → RepR c S ρ' a' σ H' r v → (∀ q, fp r v q → H q = none) → Q v H'
  | .exc e a' => ∀ cls d ρ' H', Ext m ρ a σ H ρ' a' σ H' → Rel c S ρ' a' σ H' → XRep c ρ' H' (Bad S ρ' a' σ) e cls d → W cls d σ H'
def tI (c : Kc) (m : Bool) (W : WX) (I : ES) : TE := fun σ H Q => ∃ S ρ a, Rel c S ρ a σ H ∧ DoneE c m S ρ a σ H (I a) Q W
abbrev kc (X : Cx) : Kc := ⟨X.K, X.mg⟩
/-- an expression and its meaning -/
abbrev PEI (X : Cx) (m : Bool) (W : WX) (e : Expr) (I : ES) : Prop := PE X e (tI (kc X) m W I)
theorem _root_.L2.PE.weak {X : Cx} {e : Expr} {t t' : TE} (h : PE X e t) (w : ∀ σ H Q, t' σ H Q → t σ H Q) : PE X e t' := ⟨fun pins s σ H Q I q => h.run pins s σ H Q I (w σ H Q q)⟩
/-- nothing is said of it: where it is come to, nothing is known -/
theorem pei_stop {X : Cx} {m : Bool} {W : WX} {e : Expr} : PEI X m W e (fun _ => .bad) := ⟨fun _ _ _ _ _ _ ⟨_, _, _, _, h⟩ => h.elim⟩
section
variable {m : Bool} {c : Kc} {S T : Addr → Prop} {ρ ρ1 : List Addr} {a a1 : ASt} {σ : St} {H H1 : Hp} {W : WX}
theorem RepR.sub {r : R} {v : V} (h : RepR c S ρ a σ H r v) (hS : ∀ p, T p → S p) : RepR c T ρ a σ H r v := by
  cases r with
  | val u => exact Rep.bad h (bad_sub hS)
  | slot i => exact h
  | own us =>
    obtain ⟨p, vs, e, e1, r, n⟩ := h
    exact ⟨p, vs, e, e1, r.bad (bad_sub fun q z => z.imp (hS q) id), fun z => n (bad_sub hS p _ e1 z)⟩
  | dic ks us =>
    obtain ⟨p, kvs, e, e1, r1, r2, n⟩ := h
    obtain ⟨o, eo⟩ := e1.has
    exact ⟨p, kvs, e, e1, r1.bad (bad_sub fun q z => z.imp (hS q) id), r2.bad (bad_sub fun q z => z.imp (hS q) id), fun z => n (bad_sub hS p _ eo z)⟩
/-- seen from a later state, with more to shun -/
theorem DoneE.after {o : Out R} {Q : VK} (e : Ext m ρ a σ H ρ1 a1 σ H1) (hS : ∀ p, S p → T p) (h : DoneE c m S ρ a σ H o Q W) : DoneE c m T ρ1 a1 σ H1 o Q W := by
  cases o with
  | bad => exact h
  | ok r a' => exact fun v ρ' H' x rel rr hn => h v ρ' H' (e.trans x) (rel.sub fun p z => z.elim (fun z => .inl (hS p z)) .inr) (rr.sub hS) fun q z => e.was (hn q z)
  | exc ex a' => exact fun cls d ρ' H' x rel rr => h cls d ρ' H' (e.trans x) (rel.sub hS) (by
      cases ex with
      | ins C ns us =>
        obtain ⟨C0, g, ec, w⟩ := rr
        refine ⟨C0, g, ec, w.imp id ?_⟩
        rintro ⟨dx, fs, ed, eh, en, r⟩
        exact ⟨dx, fs, ed, eh, en, r.bad (bad_sub hS)⟩
      | _ => exact rr)
/-- a first operand, then the rest -/
theorem DoneE.bind {o : Out R} {f : R → ASt → Out R} {Q : VK} (h : DoneE c m S ρ a σ H (o.bind f) Q W) :
    DoneE c m S ρ a σ H o (fun x H1 => ∃ ρ1 a1 r1, Rel c (orS S (fp r1 x)) ρ1 a1 σ H1 ∧ RepR c S ρ1 a1 σ H1 r1 x ∧ Ext m ρ a σ H ρ1 a1 σ H1 ∧ DoneE c m (orS S (fp r1 x)) ρ1 a1 σ H1 (f r1 a1) Q W) W := by
  cases o with
  | bad => exact h
  | ok r a1 => exact fun v ρ' H' x rel rr hn => ⟨ρ', a1, r, rel, rr, x, DoneE.after x (fun p z => .inl z) h⟩
  | exc e a1 => exact h
theorem DoneE.mono {o : Out R} {Q Q' : VK} (h : DoneE c m S ρ a σ H o Q W) (hq : ∀ v H', Q v H' → Q' v H') : DoneE c m S ρ a σ H o Q' W := by
  cases o with
  | bad => exact h
  | ok r a1 => exact fun v ρ' H' x rel rr hn => hq _ _ (h v ρ' H' x rel rr hn)
  | exc e a1 => exact h
/-- a result that changes nothing -/
theorem DoneE.here {r : R} {v : V} {Q : VK} (rel : Rel c S ρ a σ H) (h : DoneE c m S ρ a σ H (.ok (.val u) a) Q W) (rr : Rep c ρ H (Bad S ρ a σ) u v) : Q v H :=
  h v ρ H Ext.refl (rel.sub fun p z => z.elim id fun z => z.elim) rr fun _ z => z.elim
/-- a value as it is read (of a list its place does not matter) -/
def RepW (c : Kc) (ρ : List Addr) (H : Hp) (B : Addr → Prop) (u : U) (v : V) : Prop :=
  Rep c ρ H B u v ∨ (∃ us p vs, u = .lst us ∧ v = .ref p ∧ H p = some (.lst vs) ∧ RepL c ρ H B us vs) ∨ (∃ ks us p kvs, u = .dct ks us ∧ v = .ref p ∧ DOk H p kvs ∧ RepL c ρ H B ks (kvs.map (·.1)) ∧ RepL c ρ H B us (kvs.map (·.2)))
theorem RepW.now {u : U} {v : V} (rel : Rel c S ρ a σ H) (h : Rep c ρ H (Bad S ρ a σ) u v) : RepW c ρ H (Bad S ρ a σ) (u.now a) v := by
  cases u with
  | adr n =>
    cases h with
    | adr e =>
      show RepW c ρ H (Bad S ρ a σ) (match a.G[n]? with | some (.lst us) => .lst us | some (.dct ks us) => .dct ks us | _ => .adr n) _
      split
      · rename_i us e0
        obtain ⟨vs, e1, r⟩ := rel.obj n _ _ e0 e
        exact .inr (.inl ⟨us, _, vs, rfl, rfl, e1, r⟩)
      · rename_i ks us e0
        obtain ⟨kvs, e1, r1, r2⟩ := rel.obj n _ _ e0 e
        exact .inr (.inr ⟨ks, us, _, kvs, rfl, rfl, e1, r1, r2⟩)
      · exact .inl (.adr e)
  | _ => exact .inl h
theorem RepR.view {r : R} {v : V} (rel : Rel c S ρ a σ H) (h : RepR c S ρ a σ H r v) (n : ∀ i, r = .slot i → ∃ s, a.sl[i]? = some s ∧ s ≠ .non) : RepW c ρ H (Bad S ρ a σ) (r.view a) v := by
  cases r with
  | val u => exact RepW.now rel h
  | own us =>
    obtain ⟨p, vs, e, e1, r, _⟩ := h
    exact .inr (.inl ⟨us, p, vs, rfl, e, e1, r.bad (bad_sub fun _ z => .inl z)⟩)
  | dic ks us =>
    obtain ⟨p, kvs, e, e1, r1, r2, _⟩ := h
    exact .inr (.inr ⟨ks, us, p, kvs, rfl, e, e1, r1.bad (bad_sub fun _ z => .inl z), r2.bad (bad_sub fun _ z => .inl z)⟩)
  | slot i =>
    obtain ⟨s, e, ne⟩ := n i rfl
    cases s with
    | non => exact absurd rfl ne
    | val u =>
      obtain ⟨w, e1, r⟩ := rel.val i u e
      have h' : σ[i]? = some (some v) := h
      rw [h'] at e1
      cases e1
      unfold R.view
      simp only [e]
      exact RepW.now rel r
    | own us =>
      obtain ⟨p, vs, e1, e2, r, _⟩ := rel.own i us e
      have h' : σ[i]? = some (some v) := h
      rw [h'] at e1
      cases e1
      unfold R.view
      simp only [e]
      exact .inr (.inl ⟨us, p, vs, rfl, rfl, e2, r⟩)
end
end IL
end T_IL0
section T_IL1
set_option Elab.async false
set_option linter.all false
set_option maxRecDepth 100000
namespace IL
open PySem PySem.Spec L2
open PyProof.Rows hiding St

/-! ### several results -/
def fpL : List R → List V → Addr → Prop
  | r :: rs, v :: vs => orS (fp r v) (fpL rs vs)
  | _, _ => fun _ => False
def RepRL (c : Kc) (ρ : List Addr) (a : ASt) (σ : St) (H : Hp) : (Addr → Prop) → List R → List V → Prop
  | _, [], [] => True
  | S, r :: rs, v :: vs => RepR c (orS S (fpL rs vs)) ρ a σ H r v ∧ RepRL c ρ a σ H (orS S (fp r v)) rs vs
  | _, _, _ => False
def DoneA (c : Kc) (m : Bool) (S : Addr → Prop) (ρ : List Addr) (a : ASt) (σ : St) (H : Hp) (o : Out (List R)) (Q : List V → Hp → Prop) (W : WX) : Prop := match o with
  | .bad => False
  | .ok rs a' => ∀ vs ρ' H', Ext m ρ a σ H ρ' a' σ H' → Rel c (orS S (fpL rs vs)) ρ' a' σ H' → RepRL c ρ' a' σ H' S rs vs → (∀ q, fpL rs vs q → H q = none) → Q vs H'
  | .exc e a' => ∀ cls d ρ' H', Ext m ρ a σ H ρ' a' σ H' → Rel c S ρ' a' σ H' → XRep c ρ' H' (Bad S ρ' a' σ) e cls d → W cls d σ H'
def iArgs : List ES → ASt → Out (List R)
  | [], a => .ok [] a
  | I :: Is, a => (I a).bind fun r a1 => (iArgs Is a1).bind fun rs a2 => .ok (r :: rs) a2
def tAll (c : Kc) (m : Bool) (W : WX) : List ES → TA
  | [] => tNil
  | I :: Is => tCons (tI c m W I) (tAll c m W Is)
abbrev PAI (X : Cx) (m : Bool) (W : WX) (es : List Expr) (Is : List ES) : Prop := PA X es (tAll (kc X) m W Is)
section
variable {m : Bool} {c : Kc} {S T : Addr → Prop} {ρ ρ1 : List Addr} {a a1 : ASt} {σ : St} {H H1 : Hp} {W : WX}
theorem XRep.sub {e : U} {cls : Value} {d : Option Addr} {B B' : Addr → Prop} (h : XRep c ρ H B e cls d) (hb : ∀ a o, H a = some o → B' a → B a) : XRep c ρ H B' e cls d := by
  cases e with
  | ins C ns us =>
    obtain ⟨C0, g, ec, w⟩ := h
    refine ⟨C0, g, ec, w.imp id ?_⟩
    rintro ⟨dx, fs, ed, eh, en, r⟩
    exact ⟨dx, fs, ed, eh, en, r.bad hb⟩
  | _ => exact h
/-- a result seen from a later state -/
theorem RepR.later {r : R} {v : V} (h : RepR c S ρ a σ H r v) (rel : Rel c (orS T (fp r v)) ρ1 a1 σ H1) (e : Ext m ρ a σ H ρ1 a1 σ H1) (hT : ∀ p, T p → S p) : RepR c T ρ1 a1 σ H1 r v := by
  cases r with
  | val u => exact e.rep hT h
  | slot i => exact h
  | own us =>
    obtain ⟨p, vs, rfl, e1, r, n⟩ := h
    refine ⟨p, vs, rfl, e.keep _ _ e1 (fun z => n (.inr (.inl z))) (fun _ z => n (.inr (.inr z))), e.repL (fun q z => z.imp (hT q) id) r, fun z => n (e.bad hT p _ e1 z)⟩
  | dic ks us =>
    obtain ⟨p, kvs, rfl, ⟨xs, e1, e2⟩, r1, r2, n⟩ := h
    refine ⟨p, kvs, rfl, ⟨xs, e.keep _ _ e1 (fun z => n (.inr (.inl z))) (fun _ z => n (.inr (.inr z))), e2⟩, e.repL (fun q z => z.imp (hT q) id) r1, e.repL (fun q z => z.imp (hT q) id) r2, fun z => n (e.bad hT p _ e1 z)⟩
theorem RepR.laterW {r : R} {v : V} (h : RepR c S ρ a σ H r v) (e : Ext m ρ a σ H ρ1 a1 σ H1) (hT : ∀ p, T p → S p ∨ H p = none) : RepR c T ρ1 a1 σ H1 r v := by
  have hT2 : ∀ p q, orS T (fun q => q = p) q → orS S (fun q => q = p) q ∨ H q = none := fun p q z => z.elim (fun z => (hT q z).imp .inl id) fun z => .inl (.inr z)
  cases r with
  | val u => exact h.frame e.pre e.kp (bad_wide (c := c) e hT)
  | slot i => exact h
  | own us =>
    obtain ⟨p, vs, rfl, e1, r, n⟩ := h
    exact ⟨p, vs, rfl, e.keep _ _ e1 (fun z => n (.inr (.inl z))) (fun _ z => n (.inr (.inr z))), e.repLS (hT2 p) r, fun z => n (bad_wide (c := c) e hT p _ e1 z)⟩
  | dic ks us =>
    obtain ⟨p, kvs, rfl, ⟨xs, e1, e2⟩, r1, r2, n⟩ := h
    exact ⟨p, kvs, rfl, ⟨xs, e.keep _ _ e1 (fun z => n (.inr (.inl z))) (fun _ z => n (.inr (.inr z))), e2⟩, e.repLS (hT2 p) r1, e.repLS (hT2 p) r2, fun z => n (bad_wide (c := c) e hT p _ e1 z)⟩
theorem RepRL.sub : ∀ {rs : List R} {vs : List V} {S T : Addr → Prop}, RepRL c ρ a σ H S rs vs → (∀ p, T p → S p) → RepRL c ρ a σ H T rs vs
  | [], [], _, _, _, _ => True.intro
  | r :: rs, v :: vs, S, T, h, hS => ⟨h.1.sub fun p z => z.imp (hS p) id, RepRL.sub h.2 fun p z => z.imp (hS p) id⟩
  | [], _ :: _, _, _, h, _ => h.elim
  | _ :: _, [], _, _, h, _ => h.elim
theorem orS_assoc {A B C : Addr → Prop} (p : Addr) : orS A (orS B C) p ↔ orS (orS A B) C p := by
  unfold orS
  exact or_assoc.symm
theorem tAll_of : ∀ (Is : List ES) {S : Addr → Prop} {ρ : List Addr} {a : ASt} {H : Hp} {Q : List V → Hp → Prop}, Rel c S ρ a σ H → DoneA c m S ρ a σ H (iArgs Is a) Q W → tAll c m W Is σ H Q
  | [], S, ρ, a, H, Q, rel, h => h [] ρ H Ext.refl (rel.sub fun p z => z.elim id fun z => z.elim) True.intro fun _ z => z.elim
  | I :: Is, S, ρ, a, H, Q, rel, h => by
    refine ⟨S, ρ, a, rel, ?_⟩
    have h' : DoneA c m S ρ a σ H ((I a).bind fun r a1 => (iArgs Is a1).bind fun rs a2 => .ok (r :: rs) a2) Q W := h
    cases hI : I a with
    | bad => rw [hI] at h'; exact h'
    | exc e a1 => rw [hI] at h'; exact h'
    | ok r a1 =>
      rw [hI] at h'
      intro v ρ1 H1 e1 rel1 rr1 hn1
      refine tAll_of Is rel1 ?_
      have h2 : DoneA c m S ρ a σ H ((iArgs Is a1).bind fun rs a2 => .ok (r :: rs) a2) Q W := h'
      cases hA : iArgs Is a1 with
      | bad => rw [hA] at h2; exact h2
      | exc e a2 =>
        rw [hA] at h2
        exact fun cls d ρ2 H2 e2 rel2 x2 => h2 cls d ρ2 H2 (e1.trans e2) (rel2.sub fun p z => .inl z) (x2.sub (bad_sub fun p z => .inl z))
      | ok rs a2 =>
        rw [hA] at h2
        intro vs ρ2 H2 e2 rel2 rr2 hn2
        refine h2 (v :: vs) ρ2 H2 (e1.trans e2) (rel2.sub fun p z => (orS_assoc p).mp z) ⟨?_, rr2⟩ fun q z => z.elim (hn1 q) fun z => e1.was (hn2 q z)
        exact rr1.laterW e2 fun p z => z.imp id (hn2 p)
end

/-! ### operations by values -/
def RepWL (c : Kc) (ρ : List Addr) (H : Hp) (B : Addr → Prop) : List U → List V → Prop
  | [], [] => True
  | u :: us, v :: vs => RepW c ρ H B u v ∧ RepWL c ρ H B us vs
  | _, _ => False
/-- what is asked of a result at H', from H on -/
def Gives (c : Kc) (m : Bool) (S : Addr → Prop) (ρ : List Addr) (a : ASt) (σ : St) (H : Hp) (res : R) (Q : VK) : Prop :=
  ∀ v H', Ext m ρ a σ H ρ a σ H' → Rel c (orS S (fp res v)) ρ a σ H' → RepR c S ρ a σ H' res v → (∀ q, fp res v q → H q = none) → Q v H'
/-- t does what g tells -/
def OpS (c : Kc) (t : List V → Hp → VK → Prop) (g : List U → Option R) : Prop :=
  ∀ (m : Bool) (S : Addr → Prop) (ρ : List Addr) (a : ASt) (σ : St) (H : Hp) (us : List U) (vs : List V) (res : R) (Q : VK), Rel c S ρ a σ H → RepWL c ρ H (Bad S ρ a σ) us vs → g us = some res → Gives c m S ρ a σ H res Q → t vs H Q
/-- every slot that is meant is there -/
def R.okIn (a : ASt) : R → Bool
  | .slot i => match a.sl[i]? with
    | some (.own _) => true
    | some (.val _) => true
    | _ => false
  | _ => true
def iOp (g : List U → Option R) (Is : List ES) : ES := fun a => (iArgs Is a).bind fun rs a1 =>
  if rs.all (R.okIn a1) then (match g (rs.map (R.view a1)) with
    | some r => .ok r a1
    | none => .bad) else .bad
section
variable {m : Bool} {c : Kc} {S T : Addr → Prop} {ρ ρ1 : List Addr} {a a1 : ASt} {σ : St} {H H1 : Hp} {W : WX}
theorem okIn_slot {r : R} (h : r.okIn a = true) (i : Nat) (e : r = .slot i) : ∃ s, a.sl[i]? = some s ∧ s ≠ .non := by
  subst e
  have h' : (match a.sl[i]? with | some (.own _) => true | some (.val _) => true | _ => false) = true := h
  split at h'
  · rename_i us e; exact ⟨_, e, fun z => by cases z⟩
  · rename_i us e; exact ⟨_, e, fun z => by cases z⟩
  · cases h'
theorem RepW.bad {B B' : Addr → Prop} {u : U} {v : V} (h : RepW c ρ H B u v) (hb : ∀ a o, H a = some o → B' a → B a) : RepW c ρ H B' u v := by
  rcases h with h | ⟨us, p, vs, e1, e2, e3, r⟩ | ⟨ks, us, p, kvs, e1, e2, e3, r1, r2⟩
  · exact .inl (h.bad hb)
  · exact .inr (.inl ⟨us, p, vs, e1, e2, e3, r.bad hb⟩)
  · exact .inr (.inr ⟨ks, us, p, kvs, e1, e2, e3, r1.bad hb, r2.bad hb⟩)
theorem RepRL.views : ∀ {rs : List R} {vs : List V} {S T : Addr → Prop}, Rel c T ρ a σ H → (∀ p, T p → S p) → RepRL c ρ a σ H S rs vs → rs.all (R.okIn a) = true → RepWL c ρ H (Bad T ρ a σ) (rs.map (R.view a)) vs
  | [], [], _, _, _, _, _, _ => True.intro
  | r :: rs, v :: vs, S, T, rel, hS, h, ok => by
    rw [List.all_cons, Bool.and_eq_true] at ok
    refine ⟨(h.1.sub fun p z => .inl (hS p z)).view rel (okIn_slot ok.1), RepRL.views rel (fun p z => .inl (hS p z)) h.2 ok.2⟩
  | [], _ :: _, _, _, _, _, h, _ => h.elim
  | _ :: _, [], _, _, _, _, h, _ => h.elim
/-- the operands, then the operation -/
theorem op_args {g : List U → Option R} {t : List V → Hp → VK → Prop} (hs : OpS c t g) {Is : List ES} {Q : VK} (h : tI c m W (iOp g Is) σ H Q) : tAll c m W Is σ H (fun vs H1 => t vs H1 Q) := by
  obtain ⟨S, ρ, a, rel, h⟩ := h
  refine tAll_of Is rel ?_
  have h' : DoneE c m S ρ a σ H ((iArgs Is a).bind fun rs a1 => if rs.all (R.okIn a1) then (match g (rs.map (R.view a1)) with | some r => .ok r a1 | none => .bad) else .bad) Q W := h
  cases hA : iArgs Is a with
  | bad => rw [hA] at h'; exact h'
  | exc e a1 => rw [hA] at h'; exact h'
  | ok rs a1 =>
    rw [hA] at h'
    have h2 : DoneE c m S ρ a σ H (if rs.all (R.okIn a1) then (match g (rs.map (R.view a1)) with | some r => .ok r a1 | none => .bad) else .bad) Q W := h'
    cases ok : rs.all (R.okIn a1) with
    | false => rw [ok] at h2; exact h2.elim
    | true =>
      rw [ok] at h2
      cases hg : g (rs.map (R.view a1)) with
      | none => rw [hg] at h2; exact h2.elim
      | some res =>
        rw [hg] at h2
        intro vs ρ1 H1 e1 rel1 rr1 hn1
        refine hs m S ρ1 a1 σ H1 _ vs res Q (rel1.sub fun p z => .inl z) (rr1.views (rel1.sub fun p z => .inl z) (fun p z => z) ok) hg fun v H' e2 rel2 rr2 hn2 => ?_
        exact h2 v ρ1 H' (e1.trans e2) rel2 rr2 fun q z => e1.was (hn2 q z)
end

/-! ### rules -/
section
variable {X : Cx} {m : Bool} {W : WX} {e e1 e2 : Expr} {es : List Expr} {I J : ES} {Is : List ES} {pos : Pos}
theorem pai_nil : PAI X m W [] [] := pa_nil
theorem pai_cons (h : PEI X m W e I) (hs : PAI X m W es Is) (hst : starEach (e :: es) X.env = (false, eval e X.env) :: starEach es X.env := by rfl) : PAI X m W (e :: es) (I :: Is) := pa_cons h hs hst
def iC (u : U) : ES := fun a => .ok (.val u) a
theorem tI_C {c : Kc} {m : Bool} {W : WX} {u : U} {v : V} {σ : St} {H : Hp} {Q : VK} (hr : ∀ ρ B, Rep c ρ H B u v) (h : tI c m W (iC u) σ H Q) : Q v H := by
  obtain ⟨S, ρ, a, rel, h⟩ := h
  exact DoneE.here (r := .val u) (v := v) rel h (hr _ _)
theorem pei_int {i : Int} {j : Nat} : PEI X m W (.Constant (.int i) j pos) (iC (.int i)) := pe_int.weak fun _ _ _ h => tI_C (fun _ _ => .int i) h
theorem pei_bl {b : Bool} {j : Nat} : PEI X m W (.Constant (.bool b) j pos) (iC (.bl b)) := pe_bl.weak fun _ _ _ h => tI_C (fun _ _ => .bl b) h
theorem pei_non {j : Nat} : PEI X m W (.Constant .none j pos) (iC .non) := pe_non.weak fun _ _ _ h => tI_C (fun _ _ => .non) h
theorem pei_str {x : Str} {j : Nat} : PEI X m W (.Constant (.str x) j pos) (iC (.str x)) := pe_str.weak fun _ _ _ h => tI_C (fun _ _ => .str x) h
def iVar (i : Nat) : ES := fun a => match a.sl[i]? with
  | some (.val u) => .ok (.val u) a
  | some (.own _) => .ok (.slot i) a
  | _ => .bad
theorem pei_var (i : Nat) {x : Str} (hN : X.N[i]? = some x := by rfl) (hv : Vis X.env.scope x := by first | exact Or.inl rfl | exact Or.inr (Or.inl rfl) | exact Or.inr (Or.inr rfl)) (hd : (x == ("__debug__" : Str)) = false := by decide)
    (hcd : (x == ("__classdict__" : Str)) = false := by decide) : PEI X m W (.Name x pos) (iVar i) := (pe_var (pos := pos) hN hv hd hcd).weak fun σ H Q h => by
  obtain ⟨S, ρ, a, rel, h⟩ := h
  unfold iVar at h
  split at h
  · rename_i u e
    obtain ⟨v, e1, r⟩ := rel.val i u e
    exact ⟨v, e1, DoneE.here (r := .val u) rel h r⟩
  · rename_i us e
    obtain ⟨p, vs, e1, e2, r, n1, n2⟩ := rel.own i us e
    exact ⟨_, e1, h _ ρ H Ext.refl (rel.sub fun p z => z.elim id fun z => z.elim) e1 fun _ z => z.elim⟩
  · exact h.elim
/-- a module's number or text -/
theorem pei_gint {x : Str} {i : Int} (hg : Gl X x) (hm : ∃ t, X.mg x = some (.int i t)) (hd : (x == ("__debug__" : Str)) = false := by decide) : PEI X m W (.Name x pos) (iC (.int i)) := by
  obtain ⟨t, hm⟩ := hm
  exact (pe_glob (v := .int i) hg hm ⟨t, rfl⟩ hd).weak fun _ _ _ h => tI_C (fun _ _ => .int i) h
theorem pei_gstr {x z : Str} (hg : Gl X x) (hm : ∃ t, X.mg x = some (.str z t)) (hd : (x == ("__debug__" : Str)) = false := by decide) : PEI X m W (.Name x pos) (iC (.str z)) := by
  obtain ⟨t, hm⟩ := hm
  exact (pe_glob (v := .str z) hg hm ⟨t, rfl⟩ hd).weak fun _ _ _ h => tI_C (fun _ _ => .str z) h
theorem pei_gfn {x : Str} {f : Addr} (hg : Gl X x) (hm : X.mg x = some (.ref f)) (hd : (x == ("__debug__" : Str)) = false := by decide) : PEI X m W (.Name x pos) (iC (.fn x)) :=
  (pe_glob (v := .ref f) hg hm rfl hd).weak fun _ _ _ h => tI_C (fun _ _ => .fn hm) h
/-- an operator of two -/
theorem pei_op2 {op : Operator} {r : V → V → Hp → VK → Prop} {g : List U → Option R} (ho : OpR X (binaryOp op) r) (hs : OpS (kc X) (fun vs H Q => ∃ x y, vs = [x, y] ∧ r x y H Q) g) (h1 : PEI X m W e1 I) (h2 : PEI X m W e2 J) :
    PEI X m W (.BinOp e1 op e2 pos) (iOp g [I, J]) := (pe_op (pos := pos) ho h1 h2).weak fun σ H Q h => by
  have q := op_args hs h
  refine (show tAll (kc X) m W [I, J] σ H (fun vs H2 => ∃ x y, vs = [x, y] ∧ r x y H2 Q) → _ from fun q => ?_) q
  obtain ⟨S, ρ, a, rel, q⟩ := q
  refine ⟨S, ρ, a, rel, q.mono fun v H1 q => ?_⟩
  obtain ⟨S, ρ, a, rel, q⟩ := q
  refine ⟨S, ρ, a, rel, q.mono fun v H1 q => ?_⟩
  obtain ⟨x, y, e, q⟩ := q
  cases e
  exact q
theorem pei_cmp {op : CmpOp} {r : V → V → Hp → VK → Prop} {g : List U → Option R} (ho : OpR X (compareOp op) r) (hs : OpS (kc X) (fun vs H Q => ∃ x y, vs = [x, y] ∧ r x y H Q) g) (h1 : PEI X m W e1 I) (h2 : PEI X m W e2 J) (hm : behindInMarks op e2 = false := by rfl) :
    PEI X m W (.Compare e1 [op] [e2] pos) (iOp g [I, J]) := (pe_cmpR (pos := pos) ho h1 h2 hm).weak fun σ H Q h => by
  have q := op_args hs h
  refine (show tAll (kc X) m W [I, J] σ H (fun vs H2 => ∃ x y, vs = [x, y] ∧ r x y H2 Q) → _ from fun q => ?_) q
  obtain ⟨S, ρ, a, rel, q⟩ := q
  refine ⟨S, ρ, a, rel, q.mono fun v H1 q => ?_⟩
  obtain ⟨S, ρ, a, rel, q⟩ := q
  refine ⟨S, ρ, a, rel, q.mono fun v H1 q => ?_⟩
  obtain ⟨x, y, e, q⟩ := q
  cases e
  exact q
/-- a built-in function, a built-in class -/
theorem pei_callB {x : Str} {p : Pos} {id : String} {r : List V → Hp → VK → Prop} {g : List U → Option R} (hc : CallR X (.builtin id) r) (hg : Gl X x) (hm : X.mg x = none) (hv : bootBuiltins x = some (.builtin id)) (hs : OpS (kc X) r g) (ha : PAI X m W (e :: es) Is)
    (hn : x ≠ "__name__" := by decide) (hd : (x == ("__debug__" : Str)) = false := by decide) (he : starEach (e :: es) X.env = (false, eval e X.env) :: starEach es X.env := by rfl) (hpl : (backTo pos (starEach es X.env)).any (·.1) = false := by rfl) :
    PEI X m W (.Call (.Name x p) (e :: es) [] pos) (iOp g Is) := (pe_callB (p := p) (pos := pos) hc hg hm hv ha hn hd he hpl).weak fun σ H Q h => op_args hs h
theorem pei_callTy {x : Str} {p : Pos} {T : String} {r : List V → Hp → VK → Prop} {g : List U → Option R} (hc : CallR X (.type T) r) (hg : Gl X x) (hm : X.mg x = none) (hv : bootBuiltins x = some (.type T)) (hs : OpS (kc X) r g) (ha : PAI X m W (e :: es) Is) (hn : x ≠ "__name__" := by decide) (hd : (x == ("__debug__" : Str)) = false := by decide)
    (he : starEach (e :: es) X.env = (false, eval e X.env) :: starEach es X.env := by rfl) (hpl : (backTo pos (starEach es X.env)).any (·.1) = false := by rfl) :
    PEI X m W (.Call (.Name x p) (e :: es) [] pos) (iOp g Is) := (pe_callTy (p := p) (pos := pos) hc hg hm hv ha hn hd he hpl).weak fun σ H Q h => op_args hs h
end
end IL
end T_IL1
section T_IL2
set_option Elab.async false
set_option linter.all false
set_option maxRecDepth 100000
namespace IL
open PySem PySem.Spec L2
open PyProof.Rows hiding St

/-! ### data -/
mutual
def U.toD : U → Option PyData
  | .non => some .none
  | .bl b => some (.bool b)
  | .int i => some (.int i)
  | .str x => some (.str x)
  | .tup us => (toDL us).map .tuple
  | .lst us => (toDL us).map .list
  | .scr us => (toDL us).map .list
  | _ => none
def toDL : List U → Option (List PyData)
  | [] => some []
  | u :: us => match u.toD, toDL us with
    | some d, some ds => some (d :: ds)
    | _, _ => none
end
section
variable {c : Kc} {ρ : List Addr} {H : Hp} {B : Addr → Prop}
mutual
theorem Rep.dp : ∀ {u : U} {v : V} {d : PyData}, Rep c ρ H B u v → u.toD = some d → Dp c.K H v d
  | _, _, _, .non, e => by cases e; exact .non
  | _, _, _, .bl b, e => by cases e; exact .bl b
  | _, _, _, .int i, e => by cases e; exact .int i
  | _, _, _, .str x, e => by cases e; exact .str x
  | .tup us, _, d, .tup h r, e => by
    have e' : (toDL us).map PyData.tuple = some d := by rw [← e]; rfl
    obtain ⟨ds, e1, rfl⟩ := Option.map_eq_some_iff.mp e'
    exact .tup h (RepL.dp r e1)
  | .lst us, _, d, .lst h _ r, e => by
    have e' : (toDL us).map PyData.list = some d := by rw [← e]; rfl
    obtain ⟨ds, e1, rfl⟩ := Option.map_eq_some_iff.mp e'
    exact .lst (SqL.of h) (RepL.dp r e1)
  | .scr us, _, d, .lsf h r, e => by
    have e' : (toDL us).map PyData.list = some d := by rw [← e]; rfl
    obtain ⟨ds, e1, rfl⟩ := Option.map_eq_some_iff.mp e'
    exact .lst h.sq (RepL.dp r e1)
  | _, _, _, .dct _ _ _ _, e => by cases e
  | _, _, _, .adr _, e => by cases e
  | _, _, _, .fn _, e => by cases e
  | _, _, _, .ins _ _ _ _, e => by cases e
theorem RepL.dp : ∀ {us : List U} {vs : List V} {ds : List PyData}, RepL c ρ H B us vs → toDL us = some ds → DpAll c.K H vs ds
  | _, _, _, .nil, e => by cases e; exact .nil
  | u :: us, _, _, .cons h t, e => by
    unfold toDL at e
    cases e1 : u.toD with
    | none => rw [e1] at e; cases e
    | some d =>
      cases e2 : toDL us with
      | none => rw [e1, e2] at e; cases e
      | some ds =>
        rw [e1, e2] at e
        cases e
        exact .cons (Rep.dp h e1) (RepL.dp t e2)
end
theorem RepW.dp {u : U} {v : V} {d : PyData} (h : RepW c ρ H B u v) (e : u.toD = some d) : Dp c.K H v d := by
  rcases h with h | ⟨us, p, vs, rfl, rfl, e3, r⟩ | ⟨ks, us, p, kvs, rfl, rfl, e3, r1, r2⟩
  · exact h.dp e
  · have e' : (toDL us).map PyData.list = some d := by rw [← e]; rfl
    obtain ⟨ds, e1, rfl⟩ := Option.map_eq_some_iff.mp e'
    exact .lst (SqL.of e3) (RepL.dp r e1)
  · cases e
/-- the forms of what is read -/
theorem RepW.int_inv {i : Int} {v : V} (h : RepW c ρ H B (.int i) v) : v = .int i := by
  rcases h with h | ⟨us, p, vs, e, _⟩ | ⟨ks, us, p, kvs, e, _⟩
  · cases h; rfl
  · cases e
  · cases e
theorem RepW.bl_inv {b : Bool} {v : V} (h : RepW c ρ H B (.bl b) v) : v = .bl b := by
  rcases h with h | ⟨us, p, vs, e, _⟩ | ⟨ks, us, p, kvs, e, _⟩
  · cases h; rfl
  · cases e
  · cases e
theorem RepW.str_inv {x : Str} {v : V} (h : RepW c ρ H B (.str x) v) : v = .str x := by
  rcases h with h | ⟨us, p, vs, e, _⟩ | ⟨ks, us, p, kvs, e, _⟩
  · cases h; rfl
  · cases e
  · cases e
theorem RepW.tup_inv {us : List U} {v : V} (h : RepW c ρ H B (.tup us) v) : ∃ p vs, v = .ref p ∧ SqT c.K H p vs ∧ RepL c ρ H B us vs := by
  rcases h with h | ⟨us, p, vs, e, _⟩ | ⟨ks, us, p, kvs, e, _⟩
  · cases h with
    | tup h r => exact ⟨_, _, rfl, h, r⟩
  · cases e
  · cases e
theorem RepW.lst_inv {us : List U} {v : V} (h : RepW c ρ H B (.lst us) v) : ∃ p vs, v = .ref p ∧ H p = some (.lst vs) ∧ RepL c ρ H B us vs := by
  rcases h with h | ⟨us, p, vs, e, e2, e3, r⟩ | ⟨ks, us, p, kvs, e, _⟩
  · cases h with
    | lst h _ r => exact ⟨_, _, rfl, h, r⟩
  · cases e
    exact ⟨p, vs, e2, e3, r⟩
  · cases e
theorem RepW.scr_inv {us : List U} {v : V} (h : RepW c ρ H B (.scr us) v) : ∃ p vs, v = .ref p ∧ SqF c.K H p vs ∧ RepL c ρ H B us vs := by
  rcases h with h | ⟨us, p, vs, e, _⟩ | ⟨ks, us, p, kvs, e, _⟩
  · cases h with
    | lsf h r => exact ⟨_, _, rfl, h, r⟩
  · cases e
  · cases e
end
/-! ### results of operations -/
section
variable {m : Bool} {c : Kc} {S T : Addr → Prop} {ρ ρ1 : List Addr} {a a1 : ASt} {σ : St} {H H1 : Hp} {W : WX}
/-- a value at the same heap -/
theorem Gives.flat {u : U} {v : V} {Q : VK} (rel : Rel c S ρ a σ H) (h : Gives c m S ρ a σ H (.val u) Q) (r : Rep c ρ H (Bad S ρ a σ) u v) : Q v H :=
  h v H Ext.refl (rel.sub fun p z => z.elim id fun z => z.elim) r fun _ z => z.elim
theorem upd_some {H : Hp} {q p : Addr} {o o' : HO} (h : H q = some o) (n : H p = none) : upd H p o' q = some o := by
  rw [upd_ne (ne_of_none h n)]
  exact h
/-- something new at p -/
theorem Ext.new {p : Addr} {o : HO} (n : H p = none) : Ext m ρ a σ H ρ a σ (upd H p o) :=
  ⟨List.prefix_refl _, fun q o h _ _ => upd_some h n, fun q o h => ⟨o, upd_some h n⟩, fun q xs h => upd_some h n, fun q o u h => upd_some h n, fun q z => .inl z, fun q z => .inl z⟩
theorem Rel.new (rel : Rel c S ρ a σ H) {p : Addr} {o : HO} (n : H p = none) : Rel c (orS S (fun q => q = p)) ρ a σ (upd H p o) := by
  have e : Ext true ρ a σ H ρ a σ (upd H p o) := Ext.new n
  have k : Kp (Bad S ρ a σ) H (upd H p o) := e.kp
  have hb : ∀ q u, H q = some u → Bad (orS S fun q => q = p) ρ a σ q → Bad S ρ a σ q := fun q u h z => by
    rcases z with (z | z) | z | z
    · exact .inl z
    · rw [z, n] at h; cases h
    · exact .inr (.inl z)
    · exact .inr (.inr z)
  refine ⟨fun i u e => ?_, fun i us e => ?_, rel.inj, rel.glen, fun m ob q e1 e2 => ?_, rel.nd, fun q hq z => ?_, fun q z => ?_, rel.slen⟩
  · obtain ⟨v, e1, r⟩ := rel.val i u e
    exact ⟨v, e1, r.frame (List.prefix_refl _) k hb⟩
  · obtain ⟨q, vs, e1, e2, r, n1, n2⟩ := rel.own i us e
    refine ⟨q, vs, e1, upd_some e2 n, r.frame (List.prefix_refl _) k hb, n1, fun z => z.elim n2 fun z => ?_⟩
    rw [z, n] at e2
    cases e2
  · have q0 := rel.obj m ob q e1 e2
    obtain ⟨o', ho⟩ := q0.has
    exact q0.frame (List.prefix_refl _) k hb (by rw [upd_some ho n, ho])
  · rcases z with z | z
    · exact rel.rs q hq z
    · obtain ⟨o', ho⟩ := rel.bad_some (.inr (.inl hq))
      rw [z, n] at ho
      cases ho
  · rcases z with z | z
    · obtain ⟨o', ho⟩ := rel.sall q z
      exact ⟨o', upd_some ho n⟩
    · exact ⟨o, by rw [z, upd_same]⟩
/-- a new list -/
theorem Gives.newL {us : List U} {vs : List V} {p : Addr} {Q : VK} (rel : Rel c S ρ a σ H) (h : Gives c m S ρ a σ H (.own us) Q) (n : H p = none) (r : RepL c ρ H (Bad S ρ a σ) us vs) : Q (.ref p) (upd H p (.lst vs)) :=
  h (.ref p) _ (Ext.new n) (rel.new n) ⟨p, vs, rfl, upd_same, (Ext.new (m := true) n).repLS (orP_fresh n) r, rel.fresh n⟩ fun q z => by cases z; exact n
/-- a new tuple -/
theorem Gives.newT {us : List U} {vs : List V} {p : Addr} {Q : VK} (rel : Rel c S ρ a σ H) (h : Gives c m S ρ a σ H (.val (.tup us)) Q) (n : H p = none) (r : RepL c ρ H (Bad S ρ a σ) us vs) : Q (.ref p) (upd H p (.tup vs)) := by
  refine h (.ref p) _ (Ext.new n) ((rel.new n).sub fun p z => z.elim .inl fun z => z.elim) ?_ fun _ z => z.elim
  exact Rep.tup (SqT.of upd_same) ((Ext.new (m := true) n).repL (fun _ z => z) r)
end
/-! ### arithmetic -/
def mulOk (i j : Int) : Bool := decide ((i.natAbs < 2 ^ 64 ∨ j.natAbs < 2 ^ 64) ∨ i.natAbs.log2 + j.natAbs.log2 < 1000000)
def gAdd : List U → Option R
  | [.int i, .int j] => some (.val (.int (i + j)))
  | [.str x, .str y] => if x.length + y.length ≤ sizeLine then some (.val (.str (x ++ y))) else none
  | [.lst us, .lst ws] => if us.length + ws.length ≤ sizeLine then some (.own (us ++ ws)) else none
  | [.tup us, .tup ws] => if us.length + ws.length ≤ sizeLine then some (.val (.tup (us ++ ws))) else none
  | _ => none
def gSub : List U → Option R
  | [.int i, .int j] => some (.val (.int (i - j)))
  | _ => none
def gMul : List U → Option R
  | [.int i, .int j] => if mulOk i j then some (.val (.int (i * j))) else none
  | [.lst us, .int k] => if 0 ≤ k ∧ k ≤ 1000 ∧ us.length ≤ 1000 then some (.own (List.replicate k.toNat us).flatten) else none
  | [.tup us, .int k] => if us.length = 1 ∧ 2 ≤ k ∧ k ≤ 1000 then some (.val (.tup (List.replicate k.toNat us).flatten)) else none
  | _ => none
def gMod : List U → Option R
  | [.int i, .int j] => if 0 < j then some (.val (.int (i % j))) else none
  | _ => none
def gDiv : List U → Option R
  | [.int i, .int j] => if 0 < j ∧ j.natAbs.log2 < 9000 then some (.val (.int (i / j))) else none
  | _ => none
def gPow : List U → Option R
  | [.int i, .int j] => if 0 ≤ j ∧ j ≤ 1000000 ∧ i.natAbs < 2 ^ 64 then some (.val (.int (i ^ j.toNat))) else none
  | _ => none
abbrev two (r : V → V → Hp → VK → Prop) : List V → Hp → VK → Prop := fun vs H Q => ∃ x y, vs = [x, y] ∧ r x y H Q
theorem RepWL.two {c : Kc} {ρ : List Addr} {H : Hp} {B : Addr → Prop} {u w : U} {vs : List V} (h : RepWL c ρ H B [u, w] vs) : ∃ x y, vs = [x, y] ∧ RepW c ρ H B u x ∧ RepW c ρ H B w y := by
  match vs, h with
  | [x, y], ⟨h1, h2, _⟩ => exact ⟨x, y, rfl, h1, h2⟩
theorem RepWL.one {c : Kc} {ρ : List Addr} {H : Hp} {B : Addr → Prop} {u : U} {vs : List V} (h : RepWL c ρ H B [u] vs) : ∃ x, vs = [x] ∧ RepW c ρ H B u x := by
  match vs, h with
  | [x], ⟨h1, _⟩ => exact ⟨x, rfl, h1⟩
theorem RepL.replicate {c : Kc} {ρ : List Addr} {H : Hp} {B : Addr → Prop} {us : List U} {vs : List V} (h : RepL c ρ H B us vs) : ∀ n : Nat, RepL c ρ H B (List.replicate n us).flatten (List.replicate n vs).flatten
  | 0 => .nil
  | n + 1 => by
    rw [List.replicate_succ, List.replicate_succ, List.flatten_cons, List.flatten_cons]
    exact h.append (RepL.replicate h n)
theorem CMulW_of {i j : Int} (h : mulOk i j = true) : IntMulOk i j := by
  rcases of_decide_eq_true h with (h | h) | h
  · exact CMul.ok (.inl ⟨by omega, by omega⟩)
  · exact CMul.ok (.inr ⟨by omega, by omega⟩)
  · exact CMulW.ok h
section
variable {X : Cx} {m : Bool} {W : WX}
theorem or_add : OpR X (binaryOp .Add) (fun x y H Q => (rI0 (fun i j => .int (i + j)) x y H Q ∨ (∃ i j, x = .str i ∧ y = .str j ∧ i.length + j.length ≤ sizeLine ∧ Q (.str (i ++ j)) H)) ∨ (rCat x y H Q ∨ rCatA X.K x y H Q)) :=
  OpR.or (OpR.or op_add op_add_str) (OpR.or op_cat op_catA)
theorem os_add : OpS (kc X) (two fun x y H Q => (rI0 (fun i j => .int (i + j)) x y H Q ∨ (∃ i j, x = .str i ∧ y = .str j ∧ i.length + j.length ≤ sizeLine ∧ Q (.str (i ++ j)) H)) ∨ (rCat x y H Q ∨ rCatA X.K x y H Q)) gAdd := by
  intro m S ρ a σ H us vs res Q rel h hg gv
  unfold gAdd at hg
  split at hg
  · obtain ⟨x, y, rfl, h1, h2⟩ := h.two
    cases h1.int_inv
    cases h2.int_inv
    cases hg
    exact ⟨_, _, rfl, .inl (.inl ⟨_, _, rfl, rfl, gv.flat rel (.int _)⟩)⟩
  · obtain ⟨x, y, rfl, h1, h2⟩ := h.two
    cases h1.str_inv
    cases h2.str_inv
    split at hg
    · rename_i hz
      cases hg
      exact ⟨_, _, rfl, .inl (.inr ⟨_, _, rfl, rfl, hz, gv.flat rel (.str _)⟩)⟩
    · cases hg
  · obtain ⟨x, y, rfl, h1, h2⟩ := h.two
    obtain ⟨p, ps, rfl, e1, r1⟩ := h1.lst_inv
    obtain ⟨q, qs, rfl, e2, r2⟩ := h2.lst_inv
    split at hg
    · rename_i hz
      cases hg
      refine ⟨_, _, rfl, .inr (.inl ⟨p, q, ps, qs, rfl, rfl, e1, e2, by rw [← r1.length, ← r2.length]; exact hz, fun t nt => gv.newL rel nt (r1.append r2)⟩)⟩
    · cases hg
  · obtain ⟨x, y, rfl, h1, h2⟩ := h.two
    obtain ⟨p, ps, rfl, e1, r1⟩ := h1.tup_inv
    obtain ⟨q, qs, rfl, e2, r2⟩ := h2.tup_inv
    split at hg
    · rename_i hz
      cases hg
      refine ⟨_, _, rfl, .inr (.inr ⟨p, q, ps, qs, rfl, rfl, e1, e2, by rw [← r1.length, ← r2.length]; exact hz, fun z => ?_, fun z1 z2 => ?_, fun z1 z2 t nt => gv.newT rel nt (r1.append r2)⟩)⟩
      · subst z
        cases r1
        exact gv.flat rel (.tup e2 r2)
      · subst z2
        cases r2
        rw [List.append_nil] at gv
        exact gv.flat rel (.tup e1 r1)
    · cases hg
  · cases hg
theorem os_sub : OpS (kc X) (two (rI0 fun i j => .int (i - j))) gSub := by
  intro m S ρ a σ H us vs res Q rel h hg gv
  unfold gSub at hg
  split at hg
  · obtain ⟨x, y, rfl, h1, h2⟩ := h.two
    cases h1.int_inv
    cases h2.int_inv
    cases hg
    exact ⟨_, _, rfl, _, _, rfl, rfl, gv.flat rel (.int _)⟩
  · cases hg
theorem op_mulI : OpR X (binaryOp .Mult) (rI IntMulOk fun i j => .int (i * j)) := opI fun _ _ _ _ _ _ _ hc q => mul_int q hc
theorem or_mul : OpR X (binaryOp .Mult) (fun x y H Q => rI IntMulOk (fun i j => .int (i * j)) x y H Q ∨ (rRep x y H Q ∨ rRepT X.K x y H Q)) := OpR.or op_mulI (OpR.or op_rep op_repT)
theorem os_mul : OpS (kc X) (two fun x y H Q => rI IntMulOk (fun i j => .int (i * j)) x y H Q ∨ (rRep x y H Q ∨ rRepT X.K x y H Q)) gMul := by
  intro m S ρ a σ H us vs res Q rel h hg gv
  unfold gMul at hg
  split at hg
  · obtain ⟨x, y, rfl, h1, h2⟩ := h.two
    cases h1.int_inv
    cases h2.int_inv
    split at hg
    · rename_i hz
      cases hg
      exact ⟨_, _, rfl, .inl ⟨_, _, rfl, rfl, CMulW_of hz, gv.flat rel (.int _)⟩⟩
    · cases hg
  · obtain ⟨x, y, rfl, h1, h2⟩ := h.two
    obtain ⟨p, ps, rfl, e1, r1⟩ := h1.lst_inv
    cases h2.int_inv
    split at hg
    · rename_i hz
      obtain ⟨z1, z2, z3⟩ := hz
      cases hg
      refine ⟨_, _, rfl, .inr (.inl ⟨p, _, ps, rfl, rfl, e1, by omega, by omega, ?_, fun t nt => gv.newL rel nt (r1.replicate _)⟩)⟩
      have hl := r1.length
      have h3 : ps.length ≤ 1000 := by omega
      refine Nat.le_trans (Nat.mul_le_mul h3 (?_ : _ ≤ 1000)) (by decide)
      omega
    · cases hg
  · obtain ⟨x, y, rfl, h1, h2⟩ := h.two
    obtain ⟨p, ps, rfl, e1, r1⟩ := h1.tup_inv
    cases h2.int_inv
    split at hg
    · rename_i hz
      obtain ⟨z1, z2, z3⟩ := hz
      cases hg
      have hl := r1.length
      refine ⟨_, _, rfl, .inr (.inr ⟨p, _, ps, rfl, rfl, e1, fun z => ?_, z2, z3, by omega, fun t nt => gv.newT rel nt (r1.replicate _)⟩)⟩
      subst z
      simp only [List.length_nil] at hl
      omega
    · cases hg
  · cases hg
theorem os_mod : OpS (kc X) (two (rI (fun _ j => 0 < j) fun i j => .int (i % j))) gMod := by
  intro m S ρ a σ H us vs res Q rel h hg gv
  unfold gMod at hg
  split at hg
  · obtain ⟨x, y, rfl, h1, h2⟩ := h.two
    cases h1.int_inv
    cases h2.int_inv
    split at hg
    · rename_i hz
      cases hg
      exact ⟨_, _, rfl, _, _, rfl, rfl, hz, gv.flat rel (.int _)⟩
    · cases hg
  · cases hg
theorem os_div : OpS (kc X) (two (rI CDivW fun i j => .int (i / j))) gDiv := by
  intro m S ρ a σ H us vs res Q rel h hg gv
  unfold gDiv at hg
  split at hg
  · obtain ⟨x, y, rfl, h1, h2⟩ := h.two
    cases h1.int_inv
    cases h2.int_inv
    split at hg
    · rename_i hz
      cases hg
      exact ⟨_, _, rfl, _, _, rfl, rfl, hz, gv.flat rel (.int _)⟩
    · cases hg
  · cases hg
theorem os_pow : OpS (kc X) (two (rI CPow fun i j => .int (i ^ j.toNat))) gPow := by
  intro m S ρ a σ H us vs res Q rel h hg gv
  unfold gPow at hg
  split at hg
  · obtain ⟨x, y, rfl, h1, h2⟩ := h.two
    cases h1.int_inv
    cases h2.int_inv
    split at hg
    · rename_i hz
      cases hg
      exact ⟨_, _, rfl, _, _, rfl, rfl, hz, gv.flat rel (.int _)⟩
    · cases hg
  · cases hg
variable {e1 e2 : Expr} {I J : ES} {pos : Pos}
theorem pei_add (h1 : PEI X m W e1 I) (h2 : PEI X m W e2 J) : PEI X m W (.BinOp e1 .Add e2 pos) (iOp gAdd [I, J]) := pei_op2 or_add os_add h1 h2
theorem pei_sub (h1 : PEI X m W e1 I) (h2 : PEI X m W e2 J) : PEI X m W (.BinOp e1 .Sub e2 pos) (iOp gSub [I, J]) := pei_op2 op_sub os_sub h1 h2
theorem pei_mul (h1 : PEI X m W e1 I) (h2 : PEI X m W e2 J) : PEI X m W (.BinOp e1 .Mult e2 pos) (iOp gMul [I, J]) := pei_op2 or_mul os_mul h1 h2
theorem pei_mod (h1 : PEI X m W e1 I) (h2 : PEI X m W e2 J) : PEI X m W (.BinOp e1 .Mod e2 pos) (iOp gMod [I, J]) := pei_op2 op_mod os_mod h1 h2
theorem pei_div (h1 : PEI X m W e1 I) (h2 : PEI X m W e2 J) : PEI X m W (.BinOp e1 .FloorDiv e2 pos) (iOp gDiv [I, J]) := pei_op2 op_fdivW os_div h1 h2
theorem pei_pow (h1 : PEI X m W e1 I) (h2 : PEI X m W e2 J) : PEI X m W (.BinOp e1 .Pow e2 pos) (iOp gPow [I, J]) := pei_op2 op_pow os_pow h1 h2
end
end IL
end T_IL2
section T_IL3
set_option Elab.async false
set_option linter.all false
set_option maxRecDepth 100000
namespace IL
open PySem PySem.Spec L2
open PyProof.Rows hiding St

/-! ### comparisons -/
def gCmpI (p : Int → Int → Bool) : List U → Option R
  | [.int i, .int j] => some (.val (.bl (p i j)))
  | _ => none
def eqU (u w : U) : Option Bool := match u, w with
  | .int i, .int j => some (decide (i = j))
  | u, w => match u.toD, w.toD with
    | some d, some e => if SeqAt.shaped d && SeqAt.shaped e then some (PyData.eqv d e) else none
    | _, _ => none
def gEq : List U → Option R
  | [.str x, .str y] => some (.val (.bl (decide (x = y))))
  | [u, w] => (eqU u w).map fun b => .val (.bl b)
  | _ => none
def gNe : List U → Option R
  | [.str x, .str y] => some (.val (.bl (!decide (x = y))))
  | [u, w] => (eqU u w).map fun b => .val (.bl (!b))
  | _ => none
def U.isNon : U → Bool
  | .non => true
  | _ => false
def gIsN : List U → Option R
  | [u, .non] => some (.val (.bl u.isNon))
  | _ => none
def gNotN : List U → Option R
  | [u, .non] => some (.val (.bl (!u.isNon)))
  | _ => none
def gIsB : List U → Option R
  | [.bl a, .bl b] => some (.val (.bl (decide (a = b))))
  | _ => none
def gNotB : List U → Option R
  | [.bl a, .bl b] => some (.val (.bl (!decide (a = b))))
  | _ => none
/-- the things of a list, a tuple -/
def U.seq : U → Option (List U)
  | .tup us => some us
  | .lst us => some us
  | .scr us => some us
  | _ => none
def inU (u w : U) : Option Bool := match w.seq with
  | some ws => match u.toD, toDL ws with
    | some d, some ds => if SeqAt.shaped d && SeqAt.shaped (.list ds) then some (ds.any fun z => PyData.eqv z d) else none
    | _, _ => none
  | none => match u, w with
    | .str x, .str z => if x.cps.size = 1 then some (decide (x.cps.getD 0 0 ∈ z.cps.toList)) else none
    | _, _ => none
def gIn : List U → Option R
  | [u, w] => (inU u w).map fun b => .val (.bl b)
  | _ => none
def gNotIn : List U → Option R
  | [u, w] => (inU u w).map fun b => .val (.bl (!b))
  | _ => none
section
variable {c : Kc} {ρ : List Addr} {H : Hp} {B : Addr → Prop}
theorem eqU_dp {u w : U} {x y : V} {b : Bool} (h1 : RepW c ρ H B u x) (h2 : RepW c ρ H B w y) (e : eqU u w = some b) : ∃ d f, Dp c.K H x d ∧ Dp c.K H y f ∧ SeqAt.shaped d = true ∧ SeqAt.shaped f = true ∧ PyData.eqv d f = b := by
  unfold eqU at e
  split at e
  · cases e
    cases h1.int_inv
    cases h2.int_inv
    exact ⟨_, _, .int _, .int _, rfl, rfl, rfl⟩
  · split at e
    · rename_i d f e1 e2
      split at e
      · rename_i z
        rw [Bool.and_eq_true] at z
        exact ⟨d, f, h1.dp e1, h2.dp e2, z.1, z.2, Option.some.inj e⟩
      · cases e
    · cases e
theorem RepW.non_iff {u : U} {x : V} (h : RepW c ρ H B u x) : decide (x = .non) = u.isNon := by
  rcases h with h | ⟨us, p, vs, rfl, rfl, e3, r⟩ | ⟨ks, us, p, kvs, rfl, rfl, e3, r1, r2⟩
  · cases h <;> rfl
  · rfl
  · rfl
theorem RepW.non_inv {x : V} (h : RepW c ρ H B .non x) : x = .non := by
  rcases h with h | ⟨us, p, vs, e, _⟩ | ⟨ks, us, p, kvs, e, _⟩
  · cases h; rfl
  · cases e
  · cases e
end
section
variable {X : Cx} {m : Bool} {W : WX}
def rInT (K : PySem.W.Frag) (ng : Bool) : R2 := fun x y H Q => ∃ d ds, Dp K H x d ∧ Dp K H y (.tuple ds) ∧ SeqAt.shaped d = true ∧ SeqAt.shaped (.list ds) = true ∧ Q (.bl (if ng then !ds.any fun z => PyData.eqv z d else ds.any fun z => PyData.eqv z d)) H
theorem op_inT (hu : X.A.units + 65 < cLine) : OpR X (compareOp .In) (rInT X.K false) := by
  intro pins s σ H x y v u Q I rx ry h
  obtain ⟨d, ds, hd, he, sd, se, q⟩ := h
  obtain ⟨as, r1⟩ := Dp.reads I d x v hd rx
  obtain ⟨bs, r2⟩ := Dp.reads I (.tuple ds) y u he ry
  exact SeqAt.in_tuple_reads r2 r1 (SeqAt.canLay_of_shaped se) (SeqAt.canLay_of_shaped sd) (room_in_shaped sd hu) ⟨.bl _, H, I, rfl, q⟩
theorem op_notInT (hu : X.A.units + 65 < cLine) : OpR X (compareOp .NotIn) (rInT X.K true) := by
  intro pins s σ H x y v u Q I rx ry h
  obtain ⟨d, ds, hd, he, sd, se, q⟩ := h
  obtain ⟨as, r1⟩ := Dp.reads I d x v hd rx
  obtain ⟨bs, r2⟩ := Dp.reads I (.tuple ds) y u he ry
  exact SeqAt.notIn_tuple_reads r2 r1 (SeqAt.canLay_of_shaped se) (SeqAt.canLay_of_shaped sd) (room_in_shaped sd hu) ⟨.bl _, H, I, rfl, q⟩
abbrev rIn3 (K : PySem.W.Frag) : R2 := fun x y H Q => rInD K x y H Q ∨ (rInT K false x y H Q ∨ (∃ (c : Nat) (z : Str), x = .str ⟨#[c]⟩ ∧ y = .str z ∧ Q (.bl (decide (c ∈ z.cps.toList))) H))
abbrev rNotIn3 (K : PySem.W.Frag) : R2 := fun x y H Q => rNotInD K x y H Q ∨ (rInT K true x y H Q ∨ (∃ (c : Nat) (z : Str), x = .str ⟨#[c]⟩ ∧ y = .str z ∧ Q (.bl (!decide (c ∈ z.cps.toList))) H))
theorem or_in (hu : X.A.units + 65 < cLine) : OpR X (compareOp .In) (rIn3 X.K) := OpR.or (op_inD hu) (OpR.or (op_inT hu) op_in_sign)
theorem or_notIn (hu : X.A.units + 65 < cLine) : OpR X (compareOp .NotIn) (rNotIn3 X.K) := OpR.or (op_notInD hu) (OpR.or (op_notInT hu) op_notIn_sign)
theorem seq_dp {c : Kc} {ρ : List Addr} {H : Hp} {B : Addr → Prop} {w : U} {ws : List U} {y : V} {ds : List PyData} (h : RepW c ρ H B w y) (e : w.seq = some ws) (e2 : toDL ws = some ds) : Dp c.K H y (.list ds) ∨ Dp c.K H y (.tuple ds) := by
  cases w with
  | tup us =>
    cases e
    exact .inr (h.dp (by unfold U.toD; rw [e2]; rfl))
  | lst us =>
    cases e
    exact .inl (h.dp (by unfold U.toD; rw [e2]; rfl))
  | scr us =>
    cases e
    exact .inl (h.dp (by unfold U.toD; rw [e2]; rfl))
  | _ => cases e
theorem in_cases {c : Kc} {ρ : List Addr} {H : Hp} {B : Addr → Prop} {u w : U} {x y : V} {b : Bool} (h1 : RepW c ρ H B u x) (h2 : RepW c ρ H B w y) (e : inU u w = some b) :
    (∃ d ds, Dp c.K H x d ∧ (Dp c.K H y (.list ds) ∨ Dp c.K H y (.tuple ds)) ∧ SeqAt.shaped d = true ∧ SeqAt.shaped (.list ds) = true ∧ (ds.any fun z => PyData.eqv z d) = b) ∨ ∃ (k : Nat) (z : Str), x = .str ⟨#[k]⟩ ∧ y = .str z ∧ decide (k ∈ z.cps.toList) = b := by
  unfold inU at e
  split at e
  · rename_i ws e0
    split at e
    · rename_i d ds e1 e2
      split at e
      · rename_i z
        rw [Bool.and_eq_true] at z
        exact .inl ⟨d, ds, h1.dp e1, seq_dp h2 e0 e2, z.1, z.2, Option.some.inj e⟩
      · cases e
    · cases e
  · split at e
    · rename_i x0 z0 _
      split at e
      · rename_i hz
        cases h1.str_inv
        cases h2.str_inv
        refine .inr ⟨x0.cps.getD 0 0, z0, ?_, rfl, Option.some.inj e⟩
        obtain ⟨⟨l⟩⟩ := x0
        match l, hz with
        | [k], _ => rfl
      · cases e
    · cases e
theorem os_in : OpS (kc X) (two (rIn3 X.K)) gIn := by
  intro m S ρ a σ H us vs res Q rel h hg gv
  unfold gIn at hg
  split at hg
  · obtain ⟨x, y, rfl, h1, h2⟩ := h.two
    obtain ⟨b, e, rfl⟩ := Option.map_eq_some_iff.mp hg
    refine ⟨_, _, rfl, ?_⟩
    rcases in_cases h1 h2 e with ⟨d, ds, p1, p2 | p2, s1, s2, rfl⟩ | ⟨k, z, rfl, rfl, rfl⟩
    · exact .inl ⟨d, ds, p1, p2, s1, s2, gv.flat rel (.bl _)⟩
    · exact .inr (.inl ⟨d, ds, p1, p2, s1, s2, gv.flat rel (.bl _)⟩)
    · exact .inr (.inr ⟨k, z, rfl, rfl, gv.flat rel (.bl _)⟩)
  · cases hg
theorem os_notIn : OpS (kc X) (two (rNotIn3 X.K)) gNotIn := by
  intro m S ρ a σ H us vs res Q rel h hg gv
  unfold gNotIn at hg
  split at hg
  · obtain ⟨x, y, rfl, h1, h2⟩ := h.two
    obtain ⟨b, e, rfl⟩ := Option.map_eq_some_iff.mp hg
    refine ⟨_, _, rfl, ?_⟩
    rcases in_cases h1 h2 e with ⟨d, ds, p1, p2 | p2, s1, s2, rfl⟩ | ⟨k, z, rfl, rfl, rfl⟩
    · exact .inl ⟨d, ds, p1, p2, s1, s2, gv.flat rel (.bl _)⟩
    · exact .inr (.inl ⟨d, ds, p1, p2, s1, s2, gv.flat rel (.bl _)⟩)
    · exact .inr (.inr ⟨k, z, rfl, rfl, gv.flat rel (.bl _)⟩)
  · cases hg
theorem os_eq : OpS (kc X) (two fun x y H Q => rEqD X.K x y H Q ∨ rEq x y H Q) gEq := by
  intro m S ρ a σ H us vs res Q rel h hg gv
  unfold gEq at hg
  split at hg
  · rename_i z1 z2
    obtain ⟨x, y, rfl, h1, h2⟩ := h.two
    cases h1.str_inv
    cases h2.str_inv
    cases hg
    have e : decide (V.str z1 = V.str z2) = decide (z1 = z2) := by simp
    refine ⟨_, _, rfl, .inr ⟨rfl, ?_⟩⟩
    rw [e]
    exact gv.flat rel (.bl _)
  · obtain ⟨x, y, rfl, h1, h2⟩ := h.two
    obtain ⟨b, e, rfl⟩ := Option.map_eq_some_iff.mp hg
    obtain ⟨d, f, p1, p2, s1, s2, rfl⟩ := eqU_dp h1 h2 e
    exact ⟨_, _, rfl, .inl ⟨d, f, p1, p2, s1, s2, gv.flat rel (.bl _)⟩⟩
  · cases hg
theorem os_ne : OpS (kc X) (two fun x y H Q => rNeD X.K x y H Q ∨ rNe x y H Q) gNe := by
  intro m S ρ a σ H us vs res Q rel h hg gv
  unfold gNe at hg
  split at hg
  · rename_i z1 z2
    obtain ⟨x, y, rfl, h1, h2⟩ := h.two
    cases h1.str_inv
    cases h2.str_inv
    cases hg
    have e : decide (V.str z1 = V.str z2) = decide (z1 = z2) := by simp
    refine ⟨_, _, rfl, .inr ⟨rfl, ?_⟩⟩
    rw [e]
    exact gv.flat rel (.bl _)
  · obtain ⟨x, y, rfl, h1, h2⟩ := h.two
    obtain ⟨b, e, rfl⟩ := Option.map_eq_some_iff.mp hg
    obtain ⟨d, f, p1, p2, s1, s2, rfl⟩ := eqU_dp h1 h2 e
    exact ⟨_, _, rfl, .inl ⟨d, f, p1, p2, s1, s2, gv.flat rel (.bl _)⟩⟩
  · cases hg
theorem os_cmpI {p : Int → Int → Bool} : OpS (kc X) (two (rI0 fun i j => .bl (p i j))) (gCmpI p) := by
  intro m S ρ a σ H us vs res Q rel h hg gv
  unfold gCmpI at hg
  split at hg
  · obtain ⟨x, y, rfl, h1, h2⟩ := h.two
    cases h1.int_inv
    cases h2.int_inv
    cases hg
    exact ⟨_, _, rfl, _, _, rfl, rfl, gv.flat rel (.bl _)⟩
  · cases hg
theorem os_isN : OpS (kc X) (two fun x y H Q => y = .non ∧ Q (.bl (decide (x = .non))) H) gIsN := by
  intro m S ρ a σ H us vs res Q rel h hg gv
  unfold gIsN at hg
  split at hg
  · obtain ⟨x, y, rfl, h1, h2⟩ := h.two
    cases hg
    refine ⟨_, _, rfl, h2.non_inv, ?_⟩
    rw [h1.non_iff]
    exact gv.flat rel (.bl _)
  · cases hg
theorem os_notN : OpS (kc X) (two fun x y H Q => y = .non ∧ Q (.bl (!decide (x = .non))) H) gNotN := by
  intro m S ρ a σ H us vs res Q rel h hg gv
  unfold gNotN at hg
  split at hg
  · obtain ⟨x, y, rfl, h1, h2⟩ := h.two
    cases hg
    refine ⟨_, _, rfl, h2.non_inv, ?_⟩
    rw [h1.non_iff]
    exact gv.flat rel (.bl _)
  · cases hg
theorem os_isB : OpS (kc X) (two rIsB) gIsB := by
  intro m S ρ a σ H us vs res Q rel h hg gv
  unfold gIsB at hg
  split at hg
  · obtain ⟨x, y, rfl, h1, h2⟩ := h.two
    cases hg
    exact ⟨_, _, rfl, _, _, h1.bl_inv, h2.bl_inv, gv.flat rel (.bl _)⟩
  · cases hg
theorem os_notB : OpS (kc X) (two rNotB) gNotB := by
  intro m S ρ a σ H us vs res Q rel h hg gv
  unfold gNotB at hg
  split at hg
  · obtain ⟨x, y, rfl, h1, h2⟩ := h.two
    cases hg
    exact ⟨_, _, rfl, _, _, h1.bl_inv, h2.bl_inv, gv.flat rel (.bl _)⟩
  · cases hg
/-- room for a comparison -/
def Rm (X : Cx) : Prop := X.A.units + 66 < cLine
variable {e1 e2 e3 : Expr} {I J L : ES} {pos : Pos}
/-- a comparison: as a value, as a test -/
structure PCI (X : Cx) (m : Bool) (W : WX) (op : CmpOp) (e1 e2 : Expr) (I : ES) : Prop where
  v : ∀ pos, PEI X m W (.Compare e1 [op] [e2] pos) I
  t : ∀ pos, PT X (.Compare e1 [op] [e2] pos) (fun σ H Q => tI (kc X) m W I σ H fun x H1 => ∃ k, x = .bl k ∧ Q k H1)
theorem pci {op : CmpOp} {r : V → V → Hp → VK → Prop} {g : List U → Option R} (ho : OpR X (compareOp op) r) (hs : OpS (kc X) (two r) g) (h1 : PEI X m W e1 I) (h2 : PEI X m W e2 J) (hm : behindInMarks op e2 = false := by rfl) : PCI X m W op e1 e2 (iOp g [I, J]) := by
  refine ⟨fun pos => pei_cmp ho hs h1 h2 hm, fun pos => ⟨fun pins s σ H Q IV h => (pt_cmpR (pos := pos) ho h1 h2 hm).run pins s σ H Q IV ?_⟩⟩
  have q := op_args hs h
  refine (show tAll (kc X) m W [I, J] σ H (fun vs H2 => ∃ x y, vs = [x, y] ∧ r x y H2 fun x H1 => ∃ k, x = .bl k ∧ Q k H1) → _ from fun q => ?_) q
  obtain ⟨S, ρ, a, rel, q⟩ := q
  refine ⟨S, ρ, a, rel, q.mono fun v H1 q => ?_⟩
  obtain ⟨S, ρ, a, rel, q⟩ := q
  refine ⟨S, ρ, a, rel, q.mono fun v H1 q => ?_⟩
  obtain ⟨x, y, e, q⟩ := q
  cases e
  exact q
theorem pci_lt (h1 : PEI X m W e1 I) (h2 : PEI X m W e2 J) : PCI X m W .Lt e1 e2 (iOp (gCmpI fun i j => decide (i < j)) [I, J]) := pci op_lt os_cmpI h1 h2 (nobehind _ (by decide) (by decide))
theorem pci_le (h1 : PEI X m W e1 I) (h2 : PEI X m W e2 J) : PCI X m W .LtE e1 e2 (iOp (gCmpI fun i j => decide (i ≤ j)) [I, J]) := pci op_le os_cmpI h1 h2 (nobehind _ (by decide) (by decide))
theorem pci_gt (h1 : PEI X m W e1 I) (h2 : PEI X m W e2 J) : PCI X m W .Gt e1 e2 (iOp (gCmpI fun i j => decide (j < i)) [I, J]) := pci op_gt os_cmpI h1 h2 (nobehind _ (by decide) (by decide))
theorem pci_ge (h1 : PEI X m W e1 I) (h2 : PEI X m W e2 J) : PCI X m W .GtE e1 e2 (iOp (gCmpI fun i j => decide (j ≤ i)) [I, J]) := pci op_ge os_cmpI h1 h2 (nobehind _ (by decide) (by decide))
theorem pci_eq (hr : Rm X) (h1 : PEI X m W e1 I) (h2 : PEI X m W e2 J) : PCI X m W .Eq e1 e2 (iOp gEq [I, J]) := pci (OpR.or (op_eqD (Nat.lt_of_succ_lt (Nat.lt_of_succ_lt hr))) op_eq) os_eq h1 h2 (nobehind _ (by decide) (by decide))
theorem pci_ne (hr : Rm X) (h1 : PEI X m W e1 I) (h2 : PEI X m W e2 J) : PCI X m W .NotEq e1 e2 (iOp gNe [I, J]) := pci (OpR.or (op_neD (Nat.lt_of_succ_lt (Nat.lt_of_succ_lt hr))) op_ne) os_ne h1 h2 (nobehind _ (by decide) (by decide))
theorem pci_in (hr : Rm X) (h1 : PEI X m W e1 I) (h2 : PEI X m W e2 J) (hm : behindInMarks .In e2 = false := by rfl) : PCI X m W .In e1 e2 (iOp gIn [I, J]) := pci (or_in (Nat.lt_of_succ_lt hr)) os_in h1 h2 hm
theorem pci_notIn (hr : Rm X) (h1 : PEI X m W e1 I) (h2 : PEI X m W e2 J) (hm : behindInMarks .NotIn e2 = false := by rfl) : PCI X m W .NotIn e1 e2 (iOp gNotIn [I, J]) := pci (or_notIn (Nat.lt_of_succ_lt hr)) os_notIn h1 h2 hm
theorem pci_isN (h1 : PEI X m W e1 I) (h2 : PEI X m W e2 J) : PCI X m W .Is e1 e2 (iOp gIsN [I, J]) := pci op_isN os_isN h1 h2 (nobehind _ (by decide) (by decide))
theorem pci_notN (h1 : PEI X m W e1 I) (h2 : PEI X m W e2 J) : PCI X m W .IsNot e1 e2 (iOp gNotN [I, J]) := pci op_notN os_notN h1 h2 (nobehind _ (by decide) (by decide))
theorem pci_isB (h1 : PEI X m W e1 I) (h2 : PEI X m W e2 J) : PCI X m W .Is e1 e2 (iOp gIsB [I, J]) := pci op_isBl os_isB h1 h2 (nobehind _ (by decide) (by decide))
theorem pci_notB (h1 : PEI X m W e1 I) (h2 : PEI X m W e2 J) : PCI X m W .IsNot e1 e2 (iOp gNotB [I, J]) := pci op_notBl os_notB h1 h2 (nobehind _ (by decide) (by decide))

/-! ### tests -/
abbrev PTI (X : Cx) (m : Bool) (W : WX) (e : Expr) (I : ES) : Prop := PT X e (fun σ H Q => tI (kc X) m W I σ H fun x H1 => ∃ k, x = .bl k ∧ Q k H1)
abbrev PWI (X : Cx) (m : Bool) (W : WX) (e : Expr) (I : ES) : Prop := PW X e (fun σ H Q => tI (kc X) m W I σ H fun x H1 => ∃ k, x = .bl k ∧ Q k H1)
theorem pti_val (h : PEI X m W e1 I) (he : ∀ whole, isTrue e1 X.env whole = (do let v ← whole; standAt e1.pos; holding [v] (truthy v)) := by intro _; rfl) : PTI X m W e1 I := pt_val h he
def R.bl? : R → Option Bool
  | .val (.bl b) => some b
  | _ => none
def iNot (I : ES) : ES := fun a => (I a).bind fun r a1 => match r.bl? with
  | some b => .ok (.val (.bl (!b))) a1
  | none => .bad
def iAnd (I J : ES) : ES := fun a => (I a).bind fun r a1 => match r.bl? with
  | some true => J a1
  | some false => .ok (.val (.bl false)) a1
  | none => .bad
def iOr (I J : ES) : ES := fun a => (I a).bind fun r a1 => match r.bl? with
  | some true => .ok (.val (.bl true)) a1
  | some false => J a1
  | none => .bad
def iIf (I J L : ES) : ES := fun a => (I a).bind fun r a1 => match r.bl? with
  | some true => J a1
  | some false => L a1
  | none => .bad
end
section
variable {m : Bool} {c : Kc} {S T : Addr → Prop} {ρ ρ1 : List Addr} {a a1 : ASt} {σ : St} {H H1 : Hp} {W : WX}
theorem bl_of {r : R} {v : V} {b : Bool} (h : RepR c S ρ a σ H r v) (e : r.bl? = some b) : r = .val (.bl b) ∧ v = .bl b := by
  cases r with
  | val u =>
    cases u with
    | bl k =>
      cases e
      have h' : Rep c ρ H (Bad S ρ a σ) (.bl b) v := h
      cases h'
      exact ⟨rfl, rfl⟩
    | _ => cases e
  | _ => cases e
/-- a first operand that is a flag, then what it tells -/
theorem tI_bl {I : ES} {f : Bool → ES} {Q : VK} (h : tI c m W (fun a => (I a).bind fun r a1 => match r.bl? with | some b => f b a1 | none => .bad) σ H Q) : tI c m W I σ H (fun x H1 => ∃ b, x = .bl b ∧ tI c m W (f b) σ H1 Q) := by
  obtain ⟨S, ρ, a, rel, h⟩ := h
  refine ⟨S, ρ, a, rel, ?_⟩
  have h' : DoneE c m S ρ a σ H ((I a).bind fun r a1 => match r.bl? with | some b => f b a1 | none => .bad) Q W := h
  cases hI : I a with
  | bad => rw [hI] at h'; exact h'
  | exc e a1 => rw [hI] at h'; exact h'
  | ok r a1 =>
    rw [hI] at h'
    have h2 : DoneE c m S ρ a σ H (match r.bl? with | some b => f b a1 | none => .bad) Q W := h'
    intro v ρ1 H1 e1 rel1 rr1 hn1
    cases hb : r.bl? with
    | none => rw [hb] at h2; exact h2.elim
    | some b =>
      rw [hb] at h2
      obtain ⟨rfl, rfl⟩ := bl_of rr1 hb
      exact ⟨b, rfl, S, ρ1, a1, rel1.sub fun p z => .inl z, h2.after e1 fun p z => z⟩
end
section
variable {X : Cx} {m : Bool} {W : WX} {e1 e2 e3 : Expr} {rest : List Expr} {I J L : ES} {pos : Pos}
theorem iNot_eq (I : ES) : iNot I = fun a => (I a).bind fun r a1 => match r.bl? with | some b => (fun b => iC (.bl (!b))) b a1 | none => .bad := rfl
theorem iAnd_eq (I J : ES) : iAnd I J = fun a => (I a).bind fun r a1 => match r.bl? with | some b => (fun b => if b = true then J else iC (.bl false)) b a1 | none => .bad := by
  funext a
  unfold iAnd
  congr 1
  funext r a1
  rcases r.bl? with _ | _ | _ <;> rfl
theorem iOr_eq (I J : ES) : iOr I J = fun a => (I a).bind fun r a1 => match r.bl? with | some b => (fun b => if b = true then iC (.bl true) else J) b a1 | none => .bad := by
  funext a
  unfold iOr
  congr 1
  funext r a1
  rcases r.bl? with _ | _ | _ <;> rfl
theorem iIf_eq (I J L : ES) : iIf I J L = fun a => (I a).bind fun r a1 => match r.bl? with | some b => (fun b => if b = true then J else L) b a1 | none => .bad := by
  funext a
  unfold iIf
  congr 1
  funext r a1
  rcases r.bl? with _ | _ | _ <;> rfl
theorem pti_not (h : PTI X m W e1 I) : PTI X m W (.UnaryOp .Not e1 pos) (iNot I) := ⟨fun pins s σ H Q IV q => (pt_not (pos := pos) h).run pins s σ H Q IV (by
  rw [iNot_eq] at q
  obtain ⟨S, ρ, a, rel, q⟩ := tI_bl q
  refine ⟨S, ρ, a, rel, q.mono fun v H1 => ?_⟩
  rintro ⟨b, rfl, q⟩
  obtain ⟨k, e, q⟩ := tI_C (fun _ _ => .bl (!b)) q
  cases e
  exact ⟨b, rfl, q⟩)⟩
theorem pei_not (h : PTI X m W e1 I) (he : eval (.UnaryOp .Not e1 pos) X.env = eval (.UnaryOp .Not e1 pos) X.env := rfl) (hv : PEI X m W e1 I) : PEI X m W (.UnaryOp .Not e1 pos) (iNot I) := (pe_not (pos := pos) hv).weak fun σ H Q q => by
  rw [iNot_eq] at q
  obtain ⟨S, ρ, a, rel, q⟩ := tI_bl q
  refine ⟨S, ρ, a, rel, q.mono fun v H1 => ?_⟩
  rintro ⟨b, rfl, q⟩
  exact ⟨b, rfl, tI_C (fun _ _ => .bl (!b)) q⟩
theorem pwi_and1 (h : PTI X m W e1 I) : PWI X m W (.BoolOp .And [e1] pos) I := pw_and1 h
theorem pwi_or1 (h : PTI X m W e1 I) : PWI X m W (.BoolOp .Or [e1] pos) I := pw_or1 h
theorem pwi_and (h : PTI X m W e1 I) (h2 : PWI X m W (.BoolOp .And (e2 :: rest) pos) J) : PWI X m W (.BoolOp .And (e1 :: e2 :: rest) pos) (iAnd I J) := ⟨fun wh pins s σ H Q IV q => (pw_and h h2).run wh pins s σ H Q IV (by
  rw [iAnd_eq] at q
  obtain ⟨S, ρ, a, rel, q⟩ := tI_bl q
  refine ⟨S, ρ, a, rel, q.mono fun v H1 => ?_⟩
  rintro ⟨b, rfl, q⟩
  refine ⟨b, rfl, ?_⟩
  cases b with
  | true => exact q
  | false =>
    obtain ⟨k, e, q⟩ := tI_C (fun _ _ => .bl false) q
    cases e
    exact q)⟩
theorem pwi_or (h : PTI X m W e1 I) (h2 : PWI X m W (.BoolOp .Or (e2 :: rest) pos) J) : PWI X m W (.BoolOp .Or (e1 :: e2 :: rest) pos) (iOr I J) := ⟨fun wh pins s σ H Q IV q => (pw_or h h2).run wh pins s σ H Q IV (by
  rw [iOr_eq] at q
  obtain ⟨S, ρ, a, rel, q⟩ := tI_bl q
  refine ⟨S, ρ, a, rel, q.mono fun v H1 => ?_⟩
  rintro ⟨b, rfl, q⟩
  refine ⟨b, rfl, ?_⟩
  cases b with
  | false => exact q
  | true =>
    obtain ⟨k, e, q⟩ := tI_C (fun _ _ => .bl true) q
    cases e
    exact q)⟩
theorem pwi_pti (h : PWI X m W e1 I) : PTI X m W e1 I := h.pt
theorem pei_one {op} (h : PEI X m W e1 I) : PEI X m W (.BoolOp op [e1] pos) I := pe_one h
theorem pei_and (h : PEI X m W e1 I) (h2 : PEI X m W (.BoolOp .And (e2 :: rest) pos) J) : PEI X m W (.BoolOp .And (e1 :: e2 :: rest) pos) (iAnd I J) := (pe_and h h2).weak fun σ H Q q => by
  rw [iAnd_eq] at q
  obtain ⟨S, ρ, a, rel, q⟩ := tI_bl q
  refine ⟨S, ρ, a, rel, q.mono fun v H1 => ?_⟩
  rintro ⟨b, rfl, q⟩
  refine ⟨b, rfl, ?_⟩
  cases b with
  | true => exact q
  | false => exact tI_C (fun _ _ => .bl false) q
theorem pei_or (h : PEI X m W e1 I) (h2 : PEI X m W (.BoolOp .Or (e2 :: rest) pos) J) : PEI X m W (.BoolOp .Or (e1 :: e2 :: rest) pos) (iOr I J) := (pe_or h h2).weak fun σ H Q q => by
  rw [iOr_eq] at q
  obtain ⟨S, ρ, a, rel, q⟩ := tI_bl q
  refine ⟨S, ρ, a, rel, q.mono fun v H1 => ?_⟩
  rintro ⟨b, rfl, q⟩
  refine ⟨b, rfl, ?_⟩
  cases b with
  | false => exact q
  | true => exact tI_C (fun _ _ => .bl true) q
theorem pei_ifExp (h : PTI X m W e1 I) (h2 : PEI X m W e2 J) (h3 : PEI X m W e3 L) : PEI X m W (.IfExp e1 e2 e3 pos) (iIf I J L) := (pe_ifExp (pos := pos) h h2 h3).weak fun σ H Q q => by
  rw [iIf_eq] at q
  obtain ⟨S, ρ, a, rel, q⟩ := tI_bl q
  refine ⟨S, ρ, a, rel, q.mono fun v H1 => ?_⟩
  rintro ⟨b, rfl, q⟩
  refine ⟨b, rfl, ?_⟩
  cases b with
  | true => exact q
  | false => exact q
/-- a chain of two comparisons, the middle one a number -/
def iChain (g g' : List U → Option R) (I J L : ES) : ES := fun a => (iArgs [I, J] a).bind fun rs a1 => match rs with
  | [r1, .val (.int j)] => if r1.okIn a1 then (match g [r1.view a1, .int j] with
    | some r => (match r.bl? with
      | some true => iOp g' [iC (.int j), L] a1
      | some false => .ok (.val (.bl false)) a1
      | none => .bad)
    | none => .bad) else .bad
  | _ => .bad
theorem chain_of {op op' : CmpOp} {r r' : R2} {g g' : List U → Option R} (hs : OpS (kc X) (two r) g) (hs' : OpS (kc X) (two r') g') {σ : St} {H : Hp} {Q : VK} (h : tI (kc X) m W (iChain g g' I J L) σ H Q) :
    tChain r r' (tI (kc X) m W I) (tI (kc X) m W J) (tI (kc X) m W L) σ H Q := by
  obtain ⟨S, ρ, a, rel, h⟩ := h
  have key : tAll (kc X) m W [I, J] σ H (fun vs H2 => ∃ x y, vs = [x, y] ∧ r x y H2 fun z H3 => ∃ k, z = .bl k ∧ (if k = true then tI (kc X) m W L σ H3 fun w' H4 => r' y w' H4 Q else Q (.bl false) H3)) := by
    refine tAll_of [I, J] rel ?_
    unfold iChain at h
    cases hA : iArgs [I, J] a with
    | bad => rw [hA] at h; exact h
    | exc e a1 => rw [hA] at h; exact h
    | ok rs a1 =>
      rw [hA] at h
      intro vs ρ1 H1 e1 rel1 rr1 hn1
      simp only [Out.bind] at h
      split at h
      · rename_i r1 j
        split at h
        · rename_i ok
          split at h
          · rename_i res hg
            match vs, rr1 with
            | [x, y], ⟨k1, k2, _⟩ =>
              have ey : y = .int j := by
                have k2' : Rep (kc X) ρ1 H1 _ (.int j) y := k2
                cases k2'
                rfl
              subst ey
              have relS : Rel (kc X) S ρ1 a1 σ H1 := rel1.sub fun p z => .inl z
              have vw : RepWL (kc X) ρ1 H1 (Bad S ρ1 a1 σ) [r1.view a1, .int j] [x, .int j] := ⟨(k1.sub fun p z => .inl z).view relS (okIn_slot ok), .inl (.int j), True.intro⟩
              obtain ⟨x', y', e, q⟩ := hs m S ρ1 a1 σ H1 _ _ res (fun z H3 => ∃ k, z = .bl k ∧ (if k = true then tI (kc X) m W L σ H3 fun w' H4 => r' (.int j) w' H4 Q else Q (.bl false) H3)) relS vw hg (fun v H' e2 rel2 rr2 hn2 => by
                cases hb : res.bl? with
                | none => rw [hb] at h; exact h.elim
                | some b =>
                  obtain ⟨rfl, rfl⟩ := bl_of rr2 hb
                  refine ⟨b, rfl, ?_⟩
                  have rel3 : Rel (kc X) S ρ1 a1 σ H' := rel2.sub fun p z => .inl z
                  cases b with
                  | false =>
                    rw [hb] at h
                    exact DoneE.here (r := .val (.bl false)) (u := .bl false) rel3 (DoneE.after (e1.trans e2) (fun p z => z) h) (.bl false)
                  | true =>
                    rw [hb] at h
                    have q := op_args hs' (Q := Q) ⟨S, ρ1, a1, rel3, DoneE.after (e1.trans e2) (fun p z => z) h⟩
                    have q2 := tI_C (u := .int j) (v := .int j) (fun _ _ => .int j) q
                    obtain ⟨S3, ρ3, a3, rel3, q2⟩ := q2
                    refine ⟨S3, ρ3, a3, rel3, q2.mono fun v H5 q => ?_⟩
                    obtain ⟨x5, y5, e5, q⟩ := q
                    cases e5
                    exact q)
              cases e
              exact ⟨_, _, rfl, q⟩
          · exact h.elim
        · exact h.elim
      · exact h.elim
  obtain ⟨S, ρ, a, rel, q⟩ := key
  refine ⟨S, ρ, a, rel, q.mono fun v H1 q => ?_⟩
  obtain ⟨S, ρ, a, rel, q⟩ := q
  refine ⟨S, ρ, a, rel, q.mono fun v H1 q => ?_⟩
  obtain ⟨x, y, e, q⟩ := q
  cases e
  exact q
theorem pei_chain {op op' : CmpOp} {r r' : R2} {g g' : List U → Option R} (ho : OpR X (compareOp op) r) (ho' : OpR X (compareOp op') r') (hs : OpS (kc X) (two r) g) (hs' : OpS (kc X) (two r') g') (h1 : PEI X m W e1 I) (h2 : PEI X m W e2 J) (h3 : PEI X m W e3 L)
    (hm : lastMarks [op, op'] [e2, e3] = false := by with_unfolding_all rfl) : PEI X m W (.Compare e1 [op, op'] [e2, e3] pos) (iChain g g' I J L) :=
  (pe_chain (pos := pos) ho ho' h1 h2 h3 hm).weak fun σ H Q h => chain_of (op := op) (op' := op') hs hs' h
theorem pti_chain {op op' : CmpOp} {r r' : R2} {g g' : List U → Option R} (ho : OpR X (compareOp op) r) (ho' : OpR X (compareOp op') r') (hs : OpS (kc X) (two r) g) (hs' : OpS (kc X) (two r') g') (h1 : PEI X m W e1 I) (h2 : PEI X m W e2 J) (h3 : PEI X m W e3 L)
    (hm : lastMarks [op, op'] [e2, e3] = false := by with_unfolding_all rfl) : PTI X m W (.Compare e1 [op, op'] [e2, e3] pos) (iChain g g' I J L) :=
  ⟨fun pins s σ H Q IV h => (pt_chain (pos := pos) ho ho' h1 h2 h3 hm).run pins s σ H Q IV (chain_of (op := op) (op' := op') hs hs' h)⟩
end
end IL
end T_IL3
section T_IL4
set_option Elab.async false
set_option linter.all false
set_option maxRecDepth 100000
namespace IL
open PySem PySem.Spec L2
open PyProof.Rows hiding St

/-! ### values that are kept: they are shared from then on -/
def ASt.set (a : ASt) (i : Nat) (s : Sl) : ASt := { a with sl := a.sl.set i s }
def R.settle (a : ASt) : R → Option (U × ASt)
  | .val u => some (u, a)
  | .own us => some (.lst us, a)
  | .dic ks us => some (.dct ks us, a)
  | .slot i => match a.sl[i]? with
    | some (.own us) => some (.lst us, a.set i (.val (.lst us)))
    | some (.val u) => some (u, a)
    | _ => none
def iKeep (I : ES) : ES := fun a => (I a).bind fun r a1 => match r.settle a1 with
  | some (u, a2) => .ok (.val u) a2
  | none => .bad
/-- of a new thing, of a value -/
def R.frz : R → Option U
  | .val u => some u
  | .own us => some (.lst us)
  | .dic ks us => some (.dct ks us)
  | .slot _ => none
def frzL : List R → Option (List U)
  | [] => some []
  | r :: rs => match r.frz, frzL rs with
    | some u, some us => some (u :: us)
    | _, _ => none
section
variable {m : Bool} {c : Kc} {S T : Addr → Prop} {ρ ρ1 : List Addr} {a a1 : ASt} {σ : St} {H H1 : Hp} {W : WX}
theorem set_get {l : List Sl} {i j : Nat} {s : Sl} {x : Sl} (h : (l.set i s)[j]? = some x) : (j = i ∧ x = s ∧ i < l.length) ∨ (j ≠ i ∧ l[j]? = some x) := by
  by_cases e : i = j
  · subst e
    by_cases hl : i < l.length
    · rw [List.getElem?_set_self hl] at h
      exact .inl ⟨rfl, (Option.some.inj h).symm, hl⟩
    · rw [List.getElem?_eq_none (by rw [List.length_set]; omega)] at h
      cases h
  · rw [List.getElem?_set_ne e] at h
    exact .inr ⟨fun z => e z.symm, h⟩
/-- a slot's own list is shared from now on -/
theorem Rel.freeze (rel : Rel c S ρ a σ H) {i : Nat} {us : List U} (e : a.sl[i]? = some (.own us)) : Rel c S ρ (a.set i (.val (.lst us))) σ H ∧ Ext m ρ a σ H ρ (a.set i (.val (.lst us))) σ H := by
  have ow : ∀ q, OwnA (a.set i (.val (.lst us))) σ q → OwnA a σ q ∧ σ[i]? ≠ some (some (.ref q)) := fun q ⟨j, ws, e1, e2⟩ => by
    rcases set_get e1 with ⟨_, z, _⟩ | ⟨ne, z⟩
    · cases z
    · exact ⟨⟨j, ws, z, e2⟩, fun z2 => ne (rel.inj j i ws us q z e e2 z2)⟩
  have hb : ∀ q o, H q = some o → Bad S ρ (a.set i (.val (.lst us))) σ q → Bad S ρ a σ q := fun q o h z => by
    rcases z with z | z | z
    · exact .inl z
    · exact .inr (.inl z)
    · exact .inr (.inr (ow q z).1)
  refine ⟨⟨fun j u e1 => ?_, fun j ws e1 => ?_, fun j k us1 us2 p e1 e2 e3 e4 => ?_, rel.glen, fun n ob p e1 e2 => (rel.obj n ob p e1 e2).frame (List.prefix_refl _) Kp.refl hb rfl, rel.nd, rel.rs, rel.sall, by rw [show (a.set i (.val (.lst us))).sl = a.sl.set i (.val (.lst us)) from rfl, List.length_set]; exact rel.slen⟩, ?_⟩
  · rcases set_get e1 with ⟨rfl, z, _⟩ | ⟨ne, z⟩
    · cases z
      obtain ⟨p, vs, e2, e3, r, n1, n2⟩ := rel.own j us e
      refine ⟨_, e2, .lst e3 (fun z => ?_) (r.bad hb)⟩
      rcases z with z | z | z
      · exact n2 z
      · exact n1 z
      · exact (ow p z).2 e2
    · obtain ⟨v, e2, r⟩ := rel.val j u z
      exact ⟨v, e2, r.bad hb⟩
  · rcases set_get e1 with ⟨_, z, _⟩ | ⟨ne, z⟩
    · cases z
    · obtain ⟨p, vs, e2, e3, r, n1, n2⟩ := rel.own j ws z
      exact ⟨p, vs, e2, e3, r.bad hb, n1, n2⟩
  · rcases set_get e1 with ⟨_, z, _⟩ | ⟨ne, z⟩
    · cases z
    · rcases set_get e2 with ⟨_, z2, _⟩ | ⟨ne2, z2⟩
      · cases z2
      · exact rel.inj j k us1 us2 p z z2 e3 e4
  · exact ⟨List.prefix_refl _, fun q o h _ _ => h, fun q o h => ⟨o, h⟩, fun q xs h => h, fun q o u h => h, fun q z => .inl z, fun q z => .inl (ow q z).1⟩
theorem frz_rep {r : R} {v : V} {u : U} (rel : Rel c (orS S (fp r v)) ρ a σ H) (h : RepR c S ρ a σ H r v) (e : r.frz = some u) : Rep c ρ H (Bad S ρ a σ) u v := by
  cases r with
  | val w => cases e; exact h
  | slot i => cases e
  | own us =>
    cases e
    obtain ⟨p, vs, rfl, e1, r, n⟩ := h
    exact .lst e1 n (r.bad (bad_sub fun _ z => .inl z))
  | dic ks us =>
    cases e
    obtain ⟨p, kvs, rfl, e1, r1, r2, n⟩ := h
    exact .dct e1 n (r1.bad (bad_sub fun _ z => .inl z)) (r2.bad (bad_sub fun _ z => .inl z))
theorem settle_rep {r : R} {v : V} {u : U} (rel : Rel c (orS S (fp r v)) ρ a σ H) (h : RepR c S ρ a σ H r v) (e : r.settle a = some (u, a1)) : Rel c S ρ a1 σ H ∧ Rep c ρ H (Bad S ρ a1 σ) u v ∧ Ext m ρ a σ H ρ a1 σ H := by
  have relS : Rel c S ρ a σ H := rel.sub fun p z => .inl z
  cases r with
  | val w => cases e; exact ⟨relS, h, Ext.refl⟩
  | own us => cases e; exact ⟨relS, frz_rep rel h rfl, Ext.refl⟩
  | dic ks us => cases e; exact ⟨relS, frz_rep rel h rfl, Ext.refl⟩
  | slot i =>
    have e' : (match a.sl[i]? with | some (.own us) => some (U.lst us, a.set i (.val (.lst us))) | some (.val u) => some (u, a) | _ => none) = some (u, a1) := e
    have h' : σ[i]? = some (some v) := h
    split at e'
    · rename_i us e0
      cases e'
      obtain ⟨r1, x1⟩ := relS.freeze (m := m) e0
      refine ⟨r1, ?_, x1⟩
      have hl : i < a.sl.length := by
        rcases Nat.lt_or_ge i a.sl.length with z | z
        · exact z
        · rw [List.getElem?_eq_none z] at e0; cases e0
      obtain ⟨w, e2, r⟩ := r1.val i (.lst us) (List.getElem?_set_self hl)
      rw [h'] at e2
      cases e2
      exact r
    · rename_i w e0
      cases e'
      obtain ⟨w2, e2, r⟩ := relS.val i _ e0
      rw [h'] at e2
      cases e2
      exact ⟨relS, r, Ext.refl⟩
    · cases e'
theorem frzL_rep : ∀ {rs : List R} {vs : List V} {us : List U} {S : Addr → Prop}, Rel c (orS S (fpL rs vs)) ρ a σ H → RepRL c ρ a σ H S rs vs → frzL rs = some us → RepL c ρ H (Bad S ρ a σ) us vs
  | [], [], us, S, rel, h, e => by cases e; exact .nil
  | r :: rs, v :: vs, us, S, rel, h, e => by
    unfold frzL at e
    cases e1 : r.frz with
    | none => rw [e1] at e; cases e
    | some u =>
      cases e2 : frzL rs with
      | none => rw [e1, e2] at e; cases e
      | some ws =>
        rw [e1, e2] at e
        cases e
        refine .cons (frz_rep (rel.sub fun p z => z.elim .inl fun z => .inr (.inl z)) (h.1.sub fun p z => .inl z) e1) ?_
        exact (frzL_rep (S := orS S (fp r v)) (rel.sub fun p z => (orS_assoc p).mpr z) h.2 e2).bad (bad_sub fun p z => .inl z)
  | [], _ :: _, _, _, _, h, _ => h.elim
  | _ :: _, [], _, _, _, h, _ => h.elim
theorem tI_keep {I : ES} {Q : VK} (h : tI c m W (iKeep I) σ H Q) : tI c m W I σ H Q := by
  obtain ⟨S, ρ, a, rel, h⟩ := h
  refine ⟨S, ρ, a, rel, ?_⟩
  unfold iKeep at h
  cases hI : I a with
  | bad => rw [hI] at h; exact h
  | exc e a1 => rw [hI] at h; exact h
  | ok r a1 =>
    rw [hI] at h
    intro v ρ1 H1 e1 rel1 rr1 hn1
    simp only [Out.bind] at h
    cases hs : r.settle a1 with
    | none => rw [hs] at h; exact h.elim
    | some q =>
      obtain ⟨u, a2⟩ := q
      rw [hs] at h
      obtain ⟨rel2, r2, x2⟩ := settle_rep (m := m) rel1 rr1 hs
      exact h v ρ1 H1 (e1.trans x2) (rel2.sub fun p z => z.elim id fun z => z.elim) r2 fun _ z => z.elim
end
/-- a tuple, a list of written items -/
def iTup (Is : List ES) : ES := fun a => (iArgs Is a).bind fun rs a1 => match frzL rs with
  | some us => .ok (.val (.tup us)) a1
  | none => .bad
def iLst (Is : List ES) : ES := fun a => (iArgs Is a).bind fun rs a1 => match frzL rs with
  | some us => .ok (.own us) a1
  | none => .bad
section
variable {m : Bool} {c : Kc} {S T : Addr → Prop} {ρ ρ1 : List Addr} {a a1 : ASt} {σ : St} {H H1 : Hp} {W : WX}
theorem RepRL.length : ∀ {rs : List R} {vs : List V} {S : Addr → Prop}, RepRL c ρ a σ H S rs vs → rs.length = vs.length
  | [], [], _, _ => rfl
  | r :: rs, v :: vs, _, h => by rw [List.length_cons, List.length_cons, RepRL.length h.2]
  | [], _ :: _, _, h => h.elim
  | _ :: _, [], _, h => h.elim
theorem iArgs_length : ∀ {Is : List ES} {a a1 : ASt} {rs : List R}, iArgs Is a = .ok rs a1 → rs.length = Is.length
  | [], a, a1, rs, e => by cases e; rfl
  | I :: Is, a, a1, rs, e => by
    unfold iArgs at e
    cases hI : I a with
    | bad => rw [hI] at e; cases e
    | exc x y => rw [hI] at e; cases e
    | ok r a2 =>
      rw [hI] at e
      simp only [Out.bind] at e
      cases hA : iArgs Is a2 with
      | bad => rw [hA] at e; cases e
      | exc x y => rw [hA] at e; cases e
      | ok rs' a3 =>
        rw [hA] at e
        cases e
        rw [List.length_cons, List.length_cons, iArgs_length hA]
end
section
variable {X : Cx} {m : Bool} {W : WX} {e e1 e2 e3 : Expr} {es : List Expr} {I J L : ES} {Is : List ES} {pos : Pos}
theorem pei_keep (h : PEI X m W e I) : PEI X m W e (iKeep I) := h.weak fun _ _ _ q => tI_keep q
theorem pei_tup {x1} (h : PAI X m W es Is) (hl : Is.length ≤ sizeLine := by decide) : PEI X m W (.Tuple es x1 pos) (iTup Is) := (pe_tup (pos := pos) h).weak fun σ H Q q => by
  obtain ⟨S, ρ, a, rel, q⟩ := q
  refine tAll_of Is rel ?_
  unfold iTup at q
  cases hA : iArgs Is a with
  | bad => rw [hA] at q; exact q
  | exc e a1 => rw [hA] at q; exact q
  | ok rs a1 =>
    rw [hA] at q
    intro vs ρ1 H1 e1 rel1 rr1 hn1
    simp only [Out.bind] at q
    refine ⟨by rw [← rr1.length, iArgs_length hA]; exact hl, fun p np => ?_⟩
    cases hf : frzL rs with
    | none => rw [hf] at q; exact q.elim
    | some us =>
      rw [hf] at q
      have rl := frzL_rep rel1 rr1 hf
      have relS : Rel (kc X) S ρ1 a1 σ H1 := rel1.sub fun p z => .inl z
      exact Gives.newT (m := m) relS (fun v H' e2 rel2 rr2 hn2 => q v ρ1 H' (e1.trans e2) rel2 rr2 fun q z => e1.was (hn2 q z)) np rl
theorem pei_lst (h : PAI X m W es Is) (hl : Is.length ≤ sizeLine := by decide) : PEI X m W (.List es pos) (iLst Is) := (pe_lst (pos := pos) h).weak fun σ H Q q => by
  obtain ⟨S, ρ, a, rel, q⟩ := q
  refine tAll_of Is rel ?_
  unfold iLst at q
  cases hA : iArgs Is a with
  | bad => rw [hA] at q; exact q
  | exc e a1 => rw [hA] at q; exact q
  | ok rs a1 =>
    rw [hA] at q
    intro vs ρ1 H1 e1 rel1 rr1 hn1
    simp only [Out.bind] at q
    refine ⟨by rw [← rr1.length, iArgs_length hA]; exact hl, fun p np => ?_⟩
    cases hf : frzL rs with
    | none => rw [hf] at q; exact q.elim
    | some us =>
      rw [hf] at q
      have rl := frzL_rep rel1 rr1 hf
      have relS : Rel (kc X) S ρ1 a1 σ H1 := rel1.sub fun p z => .inl z
      exact Gives.newL (m := m) relS (fun v H' e2 rel2 rr2 hn2 => q v ρ1 H' (e1.trans e2) rel2 rr2 fun q z => e1.was (hn2 q z)) np rl
end

/-! ### items and slices -/
def gIx : List U → Option R
  | [.tup us, .int i] => (atI us i).map .val
  | [.lst us, .int i] => (atI us i).map .val
  | [.scr us, .int i] => (atI us i).map .val
  | [.str z, .int i] => if z.length ≤ sizeLine then (atI z.cps.toList i).map fun k => .val (.str ⟨#[k]⟩) else none
  | _ => none
def cutL {α : Type} (xs : List α) (lo hi : Option Int) : List α := (xs.drop (HT.sIx xs.length 0 lo)).take (HT.sIx xs.length xs.length hi - HT.sIx xs.length 0 lo)
def cutU (lo hi : Option Int) : U → Option R
  | .tup us => some (.val (.tup (cutL us lo hi)))
  | .lst us => some (.own (cutL us lo hi))
  | .scr us => some (.own (cutL us lo hi))
  | .str z => if z.length ≤ sizeLine then some (.val (.str (cutS z lo hi))) else none
  | _ => none
def gCut0 : List U → Option R
  | [u] => cutU none none u
  | _ => none
def gCut1 : List U → Option R
  | [u, .int i] => cutU (some i) none u
  | _ => none
def gCut2 : List U → Option R
  | [u, .int j] => cutU none (some j) u
  | _ => none
section
variable {c : Kc} {ρ : List Addr} {H : Hp} {B : Addr → Prop}
theorem RepL.atI {us : List U} {vs : List V} {i : Int} {u : U} (h : RepL c ρ H B us vs) (e : L2.atI us i = some u) : ∃ v, L2.atI vs i = some v ∧ Rep c ρ H B u v := by
  unfold L2.atI at e ⊢
  rw [← h.length]
  cases hj : ixN us.length i with
  | none => rw [hj] at e; cases e
  | some j =>
    rw [hj] at e
    obtain ⟨v, e1, r⟩ := h.get' (show us[j]? = some u from e)
    exact ⟨v, e1, r⟩
theorem RepL.cut {us : List U} {vs : List V} {lo hi : Option Int} (h : RepL c ρ H B us vs) : RepL c ρ H B (cutL us lo hi) (cutV vs lo hi) := by
  unfold cutL cutV
  rw [← h.length]
  exact (h.drop _).take _
end
section
variable {X : Cx} {m : Bool} {W : WX} {e e1 e2 e3 : Expr} {es : List Expr} {I J L : ES} {Is : List ES} {pos p2 : Pos}
theorem os_ix : OpS (kc X) (two (rIx X.K)) gIx := by
  intro m S ρ a σ H us vs res Q rel h hg gv
  unfold gIx at hg
  split at hg
  · obtain ⟨x, y, rfl, h1, h2⟩ := h.two
    cases h2.int_inv
    obtain ⟨p, ps, rfl, e1, r1⟩ := h1.tup_inv
    obtain ⟨u, e, rfl⟩ := Option.map_eq_some_iff.mp hg
    obtain ⟨v, e2, r2⟩ := r1.atI e
    exact ⟨_, _, rfl, .inr (.inl ⟨p, ps, _, v, rfl, rfl, e1, e2, gv.flat rel r2⟩)⟩
  · obtain ⟨x, y, rfl, h1, h2⟩ := h.two
    cases h2.int_inv
    obtain ⟨p, ps, rfl, e1, r1⟩ := h1.lst_inv
    obtain ⟨u, e, rfl⟩ := Option.map_eq_some_iff.mp hg
    obtain ⟨v, e2, r2⟩ := r1.atI e
    exact ⟨_, _, rfl, .inl ⟨p, ps, _, v, rfl, rfl, SqL.of e1, e2, gv.flat rel r2⟩⟩
  · obtain ⟨x, y, rfl, h1, h2⟩ := h.two
    cases h2.int_inv
    obtain ⟨p, ps, rfl, e1, r1⟩ := h1.scr_inv
    obtain ⟨u, e, rfl⟩ := Option.map_eq_some_iff.mp hg
    obtain ⟨v, e2, r2⟩ := r1.atI e
    exact ⟨_, _, rfl, .inl ⟨p, ps, _, v, rfl, rfl, e1.sq, e2, gv.flat rel r2⟩⟩
  · obtain ⟨x, y, rfl, h1, h2⟩ := h.two
    cases h1.str_inv
    cases h2.int_inv
    split at hg
    · rename_i hz
      obtain ⟨k, e, rfl⟩ := Option.map_eq_some_iff.mp hg
      exact ⟨_, _, rfl, .inr (.inr ⟨_, _, k, rfl, rfl, hz, e, gv.flat rel (.str _)⟩)⟩
    · cases hg
  · cases hg
theorem pei_ix (h1 : PEI X m W e1 I) (h2 : PEI X m W e2 J) (hs : PlainIx e2 := by exact fun _ _ => rfl) : PEI X m W (.Subscript e1 e2 pos) (iOp gIx [I, J]) := (pe_ix (pos := pos) ix_seq h1 h2 hs).weak fun σ H Q h => by
  have q := op_args os_ix h
  refine (show tAll (kc X) m W [I, J] σ H (fun vs H2 => ∃ x y, vs = [x, y] ∧ rIx X.K x y H2 Q) → _ from fun q => ?_) q
  obtain ⟨S, ρ, a, rel, q⟩ := q
  refine ⟨S, ρ, a, rel, q.mono fun v H1 q => ?_⟩
  obtain ⟨S, ρ, a, rel, q⟩ := q
  refine ⟨S, ρ, a, rel, q.mono fun v H1 q => ?_⟩
  obtain ⟨x, y, e, q⟩ := q
  cases e
  exact q
abbrev rSl3 (K : PySem.W.Frag) : V → Option Int → Option Int → Hp → VK → Prop := fun x lo hi H Q => rSlL K x lo hi H Q ∨ (rSlA K x lo hi H Q ∨ rSlS x lo hi H Q)
theorem sl_3 : SlR X (rSl3 X.K) := SlR.or sl_list (SlR.or sl_tupA sl_str)
theorem cut_ok {S : Addr → Prop} {ρ : List Addr} {a : ASt} {σ : St} {H : Hp} {u : U} {x : V} {lo hi : Option Int} {res : R} {Q : VK} (rel : Rel (kc X) S ρ a σ H) (h1 : RepW (kc X) ρ H (Bad S ρ a σ) u x) (hg : cutU lo hi u = some res) (gv : Gives (kc X) m S ρ a σ H res Q) :
    rSl3 X.K x lo hi H Q := by
  unfold cutU at hg
  split at hg
  · cases hg
    obtain ⟨p, ps, rfl, e1, r1⟩ := h1.tup_inv
    refine .inr (.inl ⟨p, ps, rfl, e1, fun z => ?_, fun _ t nt => gv.newT rel nt r1.cut⟩)
    have e : cutL ‹List U› lo hi = ‹List U› := by
      unfold cutL
      rw [r1.length, z.1, z.2, List.drop_zero, Nat.sub_zero, ← r1.length, List.take_length]
    rw [e] at gv
    exact gv.flat rel (.tup e1 r1)
  · cases hg
    obtain ⟨p, ps, rfl, e1, r1⟩ := h1.lst_inv
    exact .inl ⟨p, ps, rfl, SqL.of e1, fun t nt => gv.newL rel nt r1.cut⟩
  · cases hg
    obtain ⟨p, ps, rfl, e1, r1⟩ := h1.scr_inv
    exact .inl ⟨p, ps, rfl, e1.sq, fun t nt => gv.newL rel nt r1.cut⟩
  · split at hg
    · rename_i hz
      cases hg
      cases h1.str_inv
      exact .inr (.inr ⟨_, rfl, hz, gv.flat rel (.str _)⟩)
    · cases hg
  · cases hg
theorem os_cut0 : OpS (kc X) (fun vs H Q => ∃ x, vs = [x] ∧ rSl3 X.K x none none H Q) gCut0 := by
  intro m S ρ a σ H us vs res Q rel h hg gv
  unfold gCut0 at hg
  split at hg
  · obtain ⟨x, rfl, h1⟩ := h.one
    exact ⟨x, rfl, cut_ok rel h1 hg gv⟩
  · cases hg
theorem pei_cut0 (h1 : PEI X m W e1 I) : PEI X m W (.Subscript e1 (.Slice none none none p2) pos) (iOp gCut0 [I]) := (pe_slice (pos := pos) (p2 := p2) sl_3 h1 po_none po_none).weak fun σ H Q h => by
  have q := op_args os_cut0 h
  obtain ⟨S, ρ, a, rel, q⟩ := q
  refine ⟨S, ρ, a, rel, q.mono fun v H1 q => ?_⟩
  obtain ⟨x, e, q⟩ := q
  cases e
  exact q
theorem os_cut1 : OpS (kc X) (two fun x y H Q => ∃ i, y = .int i ∧ rSl3 X.K x (some i) none H Q) gCut1 := by
  intro m S ρ a σ H us vs res Q rel h hg gv
  unfold gCut1 at hg
  split at hg
  · obtain ⟨x, y, rfl, h1, h2⟩ := h.two
    exact ⟨x, y, rfl, _, h2.int_inv, cut_ok rel h1 hg gv⟩
  · cases hg
theorem pei_cut1 (h1 : PEI X m W e1 I) (h2 : PEI X m W e2 J) : PEI X m W (.Subscript e1 (.Slice (some e2) none none p2) pos) (iOp gCut1 [I, J]) := (pe_slice (pos := pos) (p2 := p2) sl_3 h1 (po_some h2) po_none).weak fun σ H Q h => by
  have q := op_args os_cut1 h
  obtain ⟨S, ρ, a, rel, q⟩ := q
  refine ⟨S, ρ, a, rel, q.mono fun v H1 q => ?_⟩
  obtain ⟨S, ρ, a, rel, q⟩ := q
  refine ⟨S, ρ, a, rel, q.mono fun v H1 q => ?_⟩
  obtain ⟨x, y, e, i, ey, q⟩ := q
  cases e
  exact ⟨i, ey, q⟩
theorem os_cut2 : OpS (kc X) (two fun x y H Q => ∃ i, y = .int i ∧ rSl3 X.K x none (some i) H Q) gCut2 := by
  intro m S ρ a σ H us vs res Q rel h hg gv
  unfold gCut2 at hg
  split at hg
  · obtain ⟨x, y, rfl, h1, h2⟩ := h.two
    exact ⟨x, y, rfl, _, h2.int_inv, cut_ok rel h1 hg gv⟩
  · cases hg
theorem pei_cut2 (h1 : PEI X m W e1 I) (h2 : PEI X m W e2 J) : PEI X m W (.Subscript e1 (.Slice none (some e2) none p2) pos) (iOp gCut2 [I, J]) := (pe_slice (pos := pos) (p2 := p2) sl_3 h1 po_none (po_some h2)).weak fun σ H Q h => by
  have q := op_args os_cut2 h
  obtain ⟨S, ρ, a, rel, q⟩ := q
  refine ⟨S, ρ, a, rel, q.mono fun v H1 q => ?_⟩
  obtain ⟨S, ρ, a, rel, q⟩ := q
  refine ⟨S, ρ, a, rel, q.mono fun v H1 q => ?_⟩
  obtain ⟨x, y, e, i, ey, q⟩ := q
  cases e
  exact ⟨i, ey, q⟩
def gCut3 (i : Int) : List U → Option R
  | [u, .int j] => cutU (some i) (some j) u
  | _ => none
theorem os_cut3 {i : Int} : OpS (kc X) (two fun x y H Q => ∃ j, y = .int j ∧ rSl3 X.K x (some i) (some j) H Q) (gCut3 i) := by
  intro m S ρ a σ H us vs res Q rel h hg gv
  unfold gCut3 at hg
  split at hg
  · obtain ⟨x, y, rfl, h1, h2⟩ := h.two
    exact ⟨x, y, rfl, _, h2.int_inv, cut_ok rel h1 hg gv⟩
  · cases hg
theorem pei_cut3 {i : Int} {j : Nat} {p3 : Pos} (h1 : PEI X m W e1 I) (h2 : PEI X m W e2 J) : PEI X m W (.Subscript e1 (.Slice (some (.Constant (.int i) j p3)) (some e2) none p2) pos) (iOp (gCut3 i) [I, J]) := (pe_slice (pos := pos) (p2 := p2) sl_3 h1 (po_some pe_int) (po_some h2)).weak fun σ H Q h => by
  have q := op_args os_cut3 h
  obtain ⟨S, ρ, a, rel, q⟩ := q
  refine ⟨S, ρ, a, rel, q.mono fun v H1 q => ?_⟩
  obtain ⟨S, ρ, a, rel, q⟩ := q
  refine ⟨i, rfl, S, ρ, a, rel, q.mono fun v H1 q => ?_⟩
  obtain ⟨x, y, e, i, ey, q⟩ := q
  cases e
  exact ⟨i, ey, q⟩
end
/-! ### attributes -/
def lookU : List Str → List U → Str → Option U
  | n :: ns, u :: us, f => if f = n then some u else lookU ns us f
  | _, _, _ => none
def fldU (a : ASt) (cl : List Str) (f : Str) : U → Option U
  | .ins C ns us => if C ∈ cl then lookU ns us f else none
  | .adr n => match a.G[n]? with
    | some (.ins C ns us) => if C ∈ cl then lookU ns us f else none
    | _ => none
  | _ => none
def iFld (cl : List Str) (f : Str) (I : ES) : ES := fun a => (I a).bind fun r a1 => match r with
  | .val u => (match fldU a1 cl f u with
    | some w => .ok (.val w) a1
    | none => .bad)
  | _ => .bad
/-- what an own class must have that its instances' attribute f is read -/
def HasF (X : Cx) (cl : List Str) (f : Str) : Prop := ∀ C ∈ cl, ∀ C0, X.mg C = some (.ref C0) → Cls X.K C0 ∧ NoAttr X.K C0 f
section
variable {c : Kc} {ρ : List Addr} {H : Hp} {B : Addr → Prop}
theorem look_rep {f : Str} {u : U} : ∀ {fs : List (Str × V)} {us : List U}, RepL c ρ H B us (fs.map (·.2)) → lookU (fs.map (·.1)) us f = some u → ∃ v, fs.lookup f = some v ∧ Rep c ρ H B u v
  | [], _, _, e => by cases e
  | (n, v) :: fs, _, .cons h t, e => by
    have e' : (if f = n then some _ else lookU (fs.map (·.1)) _ f) = some u := e
    by_cases z : f = n
    · rw [if_pos z] at e'
      cases e'
      refine ⟨v, ?_, h⟩
      rw [List.lookup_cons, show (f == n) = true from beq_iff_eq.mpr z]
    · rw [if_neg z] at e'
      obtain ⟨w, e1, r⟩ := look_rep t e'
      refine ⟨w, ?_, r⟩
      rw [List.lookup_cons, show (f == n) = false from beq_eq_false_iff_ne.mpr z]
      exact e1
end
section
variable {X : Cx} {m : Bool} {W : WX} {e e1 e2 e3 : Expr} {es : List Expr} {I J L : ES} {Is : List ES} {pos p2 : Pos}
theorem fld_rep {S : Addr → Prop} {ρ : List Addr} {a : ASt} {σ : St} {H : Hp} {cl : List Str} {f : Str} {u w : U} {v : V} (rel : Rel (kc X) S ρ a σ H) (h : Rep (kc X) ρ H (Bad S ρ a σ) u v) (hc : HasF X cl f) (e : fldU a cl f u = some w) :
    ∃ p C dx fs x, v = .ref p ∧ H p = some (.ins C dx fs) ∧ Cls X.K C ∧ NoAttr X.K C f ∧ fs.lookup f = some x ∧ Rep (kc X) ρ H (Bad S ρ a σ) w x := by
  unfold fldU at e
  split at e
  · split at e
    · rename_i hC
      generalize hu : U.ins _ _ _ = u0 at h
      cases h with
      | ins g e1 n r =>
        cases hu
        obtain ⟨x, e2, r2⟩ := look_rep r e
        obtain ⟨c1, c2⟩ := hc _ hC _ g
        exact ⟨_, _, _, _, x, rfl, e1, c1, c2, e2, r2⟩
      | _ => cases hu
    · cases e
  · cases h with
    | adr e0 =>
      split at e
      · rename_i C ns us eg
        split at e
        · rename_i hC
          obtain ⟨C0, dx, fs, g, e1, rfl, r⟩ := rel.obj _ _ _ eg e0
          obtain ⟨x, e2, r2⟩ := look_rep r e
          obtain ⟨c1, c2⟩ := hc _ hC _ g
          exact ⟨_, _, _, _, x, rfl, e1, c1, c2, e2, r2⟩
        · cases e
      · cases e
  · cases e
theorem pei_fld {cl : List Str} {f : Str} (h : PEI X m W e I) (hc : HasF X cl f) (hb : attributeBase e f X.env (eval e X.env) = eval e X.env := by rfl) : PEI X m W (.Attribute e f pos) (iFld cl f I) := (pe_fld (pos := pos) h hb).weak fun σ H Q q => by
  obtain ⟨S, ρ, a, rel, q⟩ := q
  refine ⟨S, ρ, a, rel, ?_⟩
  unfold iFld at q
  cases hI : I a with
  | bad => rw [hI] at q; exact q
  | exc e a1 => rw [hI] at q; exact q
  | ok r a1 =>
    rw [hI] at q
    intro v ρ1 H1 e1 rel1 rr1 hn1
    simp only [Out.bind] at q
    cases r with
    | val u =>
      simp only at q
      cases hf : fldU a1 cl f u with
      | none => rw [hf] at q; exact q.elim
      | some w =>
        rw [hf] at q
        have relS : Rel (kc X) S ρ1 a1 σ H1 := rel1.sub fun p z => .inl z
        obtain ⟨p, C, dx, fs, x, ev, eH, c1, c2, el, rx⟩ := fld_rep relS rr1 hc hf
        exact ⟨p, C, dx, fs, x, ev, eH, c1, c2, el, DoneE.here (r := .val w) relS (DoneE.after e1 (fun p z => z) q) rx⟩
    | _ => exact q.elim
end
end IL
end T_IL4
section T_IL5
set_option Elab.async false
set_option linter.all false
set_option maxRecDepth 100000
namespace IL
open PySem PySem.Spec L2
open PyProof.Rows hiding St

/-! ### what is walked -/
abbrev IT := ASt → Out (List U)
/-- the walk J gives us, wherever the state has gone on to -/
def ItOk (c : Kc) (mm : Bool) (S : Addr → Prop) (ρ : List Addr) (a : ASt) (σ : St) (H : Hp) (J : It) (us : List U) : Prop :=
  ∀ (S2 : Addr → Prop) (ρ2 : List Addr) (a2 : ASt) (σ2 : St) (H2 : Hp), Ext mm ρ a σ H ρ2 a2 σ2 H2 → (∀ p, S2 p → S p ∨ H p = none) → Rel c S2 ρ2 a2 σ2 H2 →
    J.stop us.length H2 ∧ ∀ (i : Nat) (u : U), us[i]? = some u → J.go i H2 ∧ ∀ x H3, J.yld i H2 x H3 → Ext mm ρ2 a2 σ2 H2 ρ2 a2 σ2 H3 ∧ Rel c S2 ρ2 a2 σ2 H3 ∧ Rep c ρ2 H3 (Bad S2 ρ2 a2 σ2) u x ∧ (∀ p o, H2 p = some o → H3 p = some o)
def tIt (c : Kc) (m mm : Bool) (W : WX) (it : IT) : TI := fun σ H Rr => ∃ S ρ a, Rel c S ρ a σ H ∧ match it a with
  | .bad => False
  | .ok us a' => ∀ J ρ' H', Ext m ρ a σ H ρ' a' σ H' → Rel c S ρ' a' σ H' → ItOk c mm S ρ' a' σ H' J us → us.length ≤ sizeLine → Rr J H'
  | .exc e a' => ∀ cls d ρ' H', Ext m ρ a σ H ρ' a' σ H' → Rel c S ρ' a' σ H' → XRep c ρ' H' (Bad S ρ' a' σ) e cls d → W cls d σ H'
abbrev PII (X : Cx) (m mm : Bool) (W : WX) (tg e : Expr) (it : IT) : Prop := PI X tg e (tIt (kc X) m mm W it)
theorem _root_.L2.PI.weak {X : Cx} {tg e : Expr} {t t' : TI} (h : PI X tg e t) (w : ∀ σ H Q, t' σ H Q → t σ H Q) : PI X tg e t' := ⟨fun pins s σ H Q I q => h.run pins s σ H Q I (w σ H Q q)⟩
/-- a list, a tuple, a text -/
def iSeq (K : PySem.W.Frag) (te : TE) : TI := fun σ H Rr => te σ H fun x H1 => ∃ a, x = .ref a ∧ ((∃ xs, SqL K H1 a xs ∧ (xs.length ≤ sizeLine → Rr (Itl K a) H1)) ∨ ∃ xs, SqT K H1 a xs ∧ (xs.length ≤ sizeLine → Rr (Itt K a) H1))
theorem pi_seq {X : Cx} {tg e : Expr} {te : TE} (he : PE X e te) : PI X tg e (iSeq X.K te) := by
  refine ⟨fun pins st σ H Rr IV hw => thn (he.run pins st σ H _ IV hw) fun v s1 ⟨x, H1, I1, rv, a, ex, q⟩ => ?_⟩
  subst ex
  cases rv
  rcases q with ⟨xs, hq, k⟩ | ⟨xs, hq, k⟩
  · obtain ⟨its, r2, pl, z⟩ := I1.list hq
    exact wpAny_pyIter_list pl.isList (pi_one (tk := s1.toks) I1 _ (turn_list a _) ⟨_, Heap.get?_push_size _ rfl, rfl, rfl⟩ (k z))
  · obtain ⟨its, r2, pl, z⟩ := I1.tuple hq
    exact wpAny_pyIter_tuple pl (pi_one (tk := s1.toks) I1 _ (turn_tuple a _) ⟨_, Heap.get?_push_size _ rfl, rfl, rfl⟩ (k z))
def iSeqE (mm : Bool) (I : ES) : IT := fun a => (I a).bind fun r a1 => match r with
  | .slot i => (match a1.sl[i]? with
    | some (.own us) => if mm then .ok us (a1.set i (.val (.lst us))) else .ok us a1
    | some (.val u) => (match u.seq with
      | some us => .ok us a1
      | none => .bad)
    | _ => .bad)
  | .own us => .ok us a1
  | .val u => (match u.seq with
    | some us => .ok us a1
    | none => .bad)
  | .dic _ _ => .bad
section
variable {m mm : Bool} {c : Kc} {S T : Addr → Prop} {ρ ρ1 : List Addr} {a a1 : ASt} {σ : St} {H H1 : Hp} {W : WX}
theorem Ext.repS {S2 : Addr → Prop} {ρ2 : List Addr} {a2 : ASt} {σ2 : St} {H2 : Hp} (e : Ext mm ρ a σ H ρ2 a2 σ2 H2) (hS : ∀ p, S2 p → S p ∨ H p = none) {u : U} {v : V} (h : Rep c ρ H (Bad S ρ a σ) u v) : Rep c ρ2 H2 (Bad S2 ρ2 a2 σ2) u v :=
  h.frame e.pre e.kp (bad_wide (c := c) e hS)
/-- a list that stays -/
theorem itok_list {p : Addr} {us : List U} {vs : List V} {K : PySem.W.Frag} (r : RepL c ρ H (Bad S ρ a σ) us vs) (hs : ∀ (ρ2 : List Addr) (a2 : ASt) (σ2 : St) (H2 : Hp), Ext mm ρ a σ H ρ2 a2 σ2 H2 → SqL K H2 p vs) : ItOk c mm S ρ a σ H (Itl K p) us := by
  intro S2 ρ2 a2 σ2 H2 e hS rel2
  have hq := hs ρ2 a2 σ2 H2 e
  refine ⟨⟨vs, hq, by rw [r.length]; exact Nat.le_refl _⟩, fun i u hu => ?_⟩
  obtain ⟨v, hv, rv⟩ := r.get' hu
  refine ⟨⟨vs, v, hq, hv⟩, fun x H3 y => ?_⟩
  obtain ⟨e3, ex⟩ := y
  have e4 : x = v := Option.some.inj ((ex _ hq).symm.trans hv)
  subst e4
  subst e3
  exact ⟨Ext.refl, rel2, e.repS hS rv, fun p o h => h⟩
theorem itok_tup {p : Addr} {us : List U} {vs : List V} {K : PySem.W.Frag} (r : RepL c ρ H (Bad S ρ a σ) us vs) (hs : SqT K H p vs) : ItOk c mm S ρ a σ H (Itt K p) us := by
  intro S2 ρ2 a2 σ2 H2 e hS rel2
  have hq : SqT K H2 p vs := (e.kp (S := S)).sqT hs
  refine ⟨⟨vs, hq, by rw [r.length]; exact Nat.le_refl _⟩, fun i u hu => ?_⟩
  obtain ⟨v, hv, rv⟩ := r.get' hu
  refine ⟨⟨vs, v, hq, hv⟩, fun x H3 y => ?_⟩
  obtain ⟨e3, ex⟩ := y
  have e4 : x = v := Option.some.inj ((ex _ hq).symm.trans hv)
  subst e4
  subst e3
  exact ⟨Ext.refl, rel2, e.repS hS rv, fun p o h => h⟩
theorem seq_val {u : U} {us : List U} {v : V} (rel : Rel c S ρ a σ H) (h : Rep c ρ H (Bad S ρ a σ) u v) (e : u.seq = some us) : ∃ p vs, v = .ref p ∧ us.length = vs.length ∧
    ((SqL c.K H p vs ∧ ItOk c mm S ρ a σ H (Itl c.K p) us) ∨ (SqT c.K H p vs ∧ ItOk c mm S ρ a σ H (Itt c.K p) us)) := by
  cases h with
  | tup hs r => cases e; exact ⟨_, _, rfl, r.length, .inr ⟨hs, itok_tup r hs⟩⟩
  | lst hs n r => cases e; exact ⟨_, _, rfl, r.length, .inl ⟨SqL.of hs, itok_list r fun ρ2 a2 σ2 H2 x => SqL.of (x.keep _ _ hs (fun z => n (.inr (.inl z))) fun _ z => n (.inr (.inr z)))⟩⟩
  | lsf hs r => cases e; exact ⟨_, _, rfl, r.length, .inl ⟨hs.sq, itok_list r fun ρ2 a2 σ2 H2 x => ((x.kp (S := S)).sqF hs).sq⟩⟩
  | _ => cases e
end
section
variable {X : Cx} {m mm : Bool} {W : WX} {e e1 e2 tg : Expr} {I J : ES} {pos : Pos}
theorem pii_seq (h : PEI X m W e I) : PII X m mm W tg e (iSeqE mm I) := (pi_seq h).weak fun σ H Rr q => by
  obtain ⟨S, ρ, a, rel, q⟩ := q
  refine ⟨S, ρ, a, rel, ?_⟩
  unfold iSeqE at q
  cases hI : I a with
  | bad => rw [hI] at q; exact q
  | exc e a1 => rw [hI] at q; exact q
  | ok r a1 =>
    rw [hI] at q
    intro v ρ1 H1 e1 rel1 rr1 hn1
    simp only [Out.bind] at q
    have relS : Rel (kc X) S ρ1 a1 σ H1 := rel1.sub fun p z => .inl z
    have fin : ∀ (u : U) (us : List U), u.seq = some us → Rep (kc X) ρ1 H1 (Bad S ρ1 a1 σ) u v → (∀ J ρ' H', Ext m ρ a σ H ρ' a1 σ H' → Rel (kc X) S ρ' a1 σ H' → ItOk (kc X) mm S ρ' a1 σ H' J us → us.length ≤ sizeLine → Rr J H') →
        ∃ p, v = .ref p ∧ ((∃ xs, SqL X.K H1 p xs ∧ (xs.length ≤ sizeLine → Rr (Itl X.K p) H1)) ∨ ∃ xs, SqT X.K H1 p xs ∧ (xs.length ≤ sizeLine → Rr (Itt X.K p) H1)) := fun u us hu ru k => by
      obtain ⟨p, vs, ev, el, w⟩ := seq_val (mm := mm) relS ru hu
      refine ⟨p, ev, ?_⟩
      rcases w with ⟨w1, w2⟩ | ⟨w1, w2⟩
      · exact .inl ⟨vs, w1, fun z => k _ ρ1 H1 e1 relS w2 (by rw [el]; exact z)⟩
      · exact .inr ⟨vs, w1, fun z => k _ ρ1 H1 e1 relS w2 (by rw [el]; exact z)⟩
    cases r with
    | dic ks us => exact q.elim
    | own us =>
      obtain ⟨p, vs, rfl, e2, r2', n2⟩ := rr1
      have r2 := r2'.bad (B' := Bad S ρ1 a1 σ) (bad_sub fun _ z => .inl z)
      exact ⟨p, rfl, .inl ⟨vs, SqL.of e2, fun z => q _ ρ1 H1 e1 relS (itok_list r2 fun ρ2 a2 σ2 H2 x => SqL.of (x.keep _ _ e2 (fun z => n2 (.inr (.inl z))) fun _ z => n2 (.inr (.inr z)))) (by rw [r2.length]; exact z)⟩⟩
    | val u =>
      simp only at q
      cases hu : u.seq with
      | none => rw [hu] at q; exact q.elim
      | some us =>
        rw [hu] at q
        exact fin u us hu rr1 q
    | slot i =>
      simp only at q
      have rr1' : σ[i]? = some (some v) := rr1
      cases hs : a1.sl[i]? with
      | none => rw [hs] at q; exact q.elim
      | some s =>
        rw [hs] at q
        cases s with
        | non => exact q.elim
        | val u =>
          simp only at q
          obtain ⟨w, ew, rw_⟩ := relS.val i u hs
          rw [rr1'] at ew
          cases ew
          cases hu : u.seq with
          | none => rw [hu] at q; exact q.elim
          | some us =>
            rw [hu] at q
            exact fin u us hu rw_ q
        | own us =>
          simp only at q
          obtain ⟨p, vs, ew, e2, r2, n1, n2⟩ := relS.own i us hs
          rw [rr1'] at ew
          cases ew
          cases mm with
          | false =>
            exact ⟨p, rfl, .inl ⟨vs, SqL.of e2, fun z => q _ ρ1 H1 e1 relS (itok_list r2 fun ρ2 a2 σ2 H2 x => SqL.of (x.keep _ _ e2 n1 fun z => by cases z)) (by rw [r2.length]; exact z)⟩⟩
          | true =>
            obtain ⟨rel3, x3⟩ := relS.freeze (m := m) hs
            have hl : i < a1.sl.length := by
              rcases Nat.lt_or_ge i a1.sl.length with z | z
              · exact z
              · rw [List.getElem?_eq_none z] at hs; cases hs
            obtain ⟨w, ew, rw_⟩ := rel3.val i (.lst us) (List.getElem?_set_self hl)
            rw [rr1'] at ew
            cases ew
            obtain ⟨p', vs', ev, el, w⟩ := seq_val (mm := true) rel3 rw_ rfl
            cases ev
            refine ⟨_, rfl, ?_⟩
            rcases w with ⟨w1, w2⟩ | ⟨w1, w2⟩
            · exact .inl ⟨vs', w1, fun z => q _ ρ1 H1 (e1.trans x3) rel3 w2 (by rw [el]; exact z)⟩
            · exact .inr ⟨vs', w1, fun z => q _ ρ1 H1 (e1.trans x3) rel3 w2 (by rw [el]; exact z)⟩
/-! ### ranges -/
def rngU (i j : Int) : List U := (List.range (j - i).toNat).map fun (k : Nat) => U.int (i + (k : Int))
def itOf (g : List U → Option (List U)) (Is : List ES) : IT := fun a => (iArgs Is a).bind fun rs a1 =>
  if rs.all (R.okIn a1) then (match g (rs.map (R.view a1)) with
    | some us => .ok us a1
    | none => .bad) else .bad
def gRng1 : List U → Option (List U)
  | [.int j] => if j ≤ 1000000 ∧ -(2 ^ 62) ≤ j then some (rngU 0 j) else none
  | _ => none
def gRng2 : List U → Option (List U)
  | [.int i, .int j] => if j - i ≤ 1000000 ∧ -(2 ^ 62) ≤ i ∧ i < 2 ^ 62 ∧ -(2 ^ 62) ≤ j ∧ j < 2 ^ 62 then some (rngU i j) else none
  | _ => none
theorem rngU_get {i j : Int} {k : Nat} {u : U} (h : (rngU i j)[k]? = some u) : k < (j - i).toNat ∧ u = .int (i + k) := by
  unfold rngU at h
  rw [List.getElem?_map] at h
  by_cases hk : k < (j - i).toNat
  · rw [List.getElem?_range hk] at h
    cases h
    exact ⟨hk, rfl⟩
  · rw [List.getElem?_eq_none (by rw [List.length_range]; omega)] at h
    cases h
theorem rngU_length (i j : Int) : (rngU i j).length = (j - i).toNat := by
  unfold rngU
  rw [List.length_map, List.length_range]
theorem itok_range {c : Kc} {S : Addr → Prop} {ρ : List Addr} {a : ASt} {σ : St} {H : Hp} {i j : Int} : ItOk c mm S ρ a σ H (Itr i (j - i).toNat) (rngU i j) := by
  intro S2 ρ2 a2 σ2 H2 e hS rel2
  refine ⟨by rw [rngU_length]; exact Nat.le_refl _, fun k u hu => ?_⟩
  obtain ⟨hk, rfl⟩ := rngU_get hu
  refine ⟨hk, fun x H3 y => ?_⟩
  obtain ⟨e3, ex⟩ := y
  subst e3
  subst ex
  exact ⟨Ext.refl, rel2, .int _, fun p o h => h⟩
/-- the operands of what is walked, then the walk -/
theorem it_args {c : Kc} {g : List U → Option (List U)} {t : List V → Hp → (It → Hp → Prop) → Prop} {Is : List ES} {σ : St} {H : Hp} {Rr : It → Hp → Prop}
    (hs : ∀ (S : Addr → Prop) (ρ : List Addr) (a : ASt) (H : Hp) (ws : List U) (rs : List R) (vs : List V) (us : List U), Rel c S ρ a σ H → RepWL c ρ H (Bad S ρ a σ) ws vs → RepRL c ρ a σ H S rs vs → ws = rs.map (R.view a) → g ws = some us →
      (∀ J, ItOk c mm S ρ a σ H J us → us.length ≤ sizeLine → Rr J H) → t vs H Rr)
    (h : tIt c m mm W (itOf g Is) σ H Rr) : tAll c m W Is σ H (fun vs H1 => t vs H1 Rr) := by
  obtain ⟨S, ρ, a, rel, h⟩ := h
  refine tAll_of Is rel ?_
  unfold itOf at h
  cases hA : iArgs Is a with
  | bad => rw [hA] at h; exact h
  | exc e a1 => rw [hA] at h; exact h
  | ok rs a1 =>
    rw [hA] at h
    simp only [Out.bind] at h
    cases ok : rs.all (R.okIn a1) with
    | false => rw [ok] at h; exact h.elim
    | true =>
      rw [ok] at h
      cases hg : g (rs.map (R.view a1)) with
      | none => rw [hg] at h; exact h.elim
      | some us =>
        rw [hg] at h
        intro vs ρ1 H1 e1 rel1 rr1 hn1
        have relS : Rel c S ρ1 a1 σ H1 := rel1.sub fun p z => .inl z
        exact hs S ρ1 a1 H1 _ rs vs us relS (rr1.views relS (fun p z => z) ok) rr1 rfl hg fun J hj hz => h J ρ1 H1 e1 relS hj hz
theorem pii_range1 {p : Pos} (hg : Gl X "range") (hm : X.mg "range" = none) (h1 : PAI X m W [e1] [I]) (hs : starEach [e1] X.env = [(false, eval e1 X.env)] := by rfl) : PII X m mm W tg (.Call (.Name "range" p) [e1] [] pos) (itOf gRng1 [I]) := (pi_range1 hg hm h1 hs).weak fun σ H Rr q => it_args (t := fun vs H1 Rr => ∃ j : Int, vs = [.int j] ∧ -(2 ^ 62) ≤ j ∧ j < 2 ^ 62 ∧ Rr (Itr 0 j.toNat) H1) (fun S ρ a H ws rs vs us rel hw _ _ hg k => by
  unfold gRng1 at hg
  split at hg
  · split at hg
    · rename_i hz
      cases hg
      obtain ⟨x, rfl, h1⟩ := hw.one
      cases h1.int_inv
      refine ⟨_, rfl, hz.2, by omega, ?_⟩
      have q := k _ (itok_range (mm := mm)) (by rw [rngU_length]; exact Nat.le_trans (show _ ≤ 1000000 by omega) (by decide))
      rw [Int.sub_zero] at q
      exact q
    · cases hg
  · cases hg) q
theorem pii_range2 {p : Pos} (hg : Gl X "range") (hm : X.mg "range" = none) (h1 : PAI X m W [e1, e2] [I, J]) (hs : starEach [e1, e2] X.env = [(false, eval e1 X.env), (false, eval e2 X.env)] := by rfl) (hs2 : starEach [e2] X.env = [(false, eval e2 X.env)] := by rfl) : PII X m mm W tg (.Call (.Name "range" p) [e1, e2] [] pos) (itOf gRng2 [I, J]) := (pi_range2 hg hm h1 hs hs2).weak fun σ H Rr q => it_args (t := fun vs H1 Rr => ∃ i j : Int, vs = [.int i, .int j] ∧ (-(2 ^ 62) ≤ i ∧ i < 2 ^ 62 ∧ -(2 ^ 62) ≤ j ∧ j < 2 ^ 62) ∧ Rr (Itr i (j - i).toNat) H1) (fun S ρ a H ws rs vs us rel hw _ _ hg k => by
  unfold gRng2 at hg
  split at hg
  · split at hg
    · rename_i hz
      cases hg
      obtain ⟨x, y, rfl, h1, h2⟩ := hw.two
      cases h1.int_inv
      cases h2.int_inv
      exact ⟨_, _, rfl, hz.2, k _ (itok_range (mm := mm)) (by rw [rngU_length]; exact Nat.le_trans (show _ ≤ 1000000 by omega) (by decide))⟩
    · cases hg
  · cases hg) q
end
end IL
end T_IL5
section T_IL5b
set_option Elab.async false
set_option linter.all false
set_option maxRecDepth 100000
/-! enumerate of a tuple -/
namespace IL
open PySem PySem.Spec L2
open PyProof.Rows hiding St
open AutoSeq1 (wpAny_loadPart')
theorem new_enumT (tp : Addr) (items : Array Value) (n : Nat) (dct : Option Addr) (sl : Array (Option Value)) :
    Meets (Builtin.«enumerate.__new__» ⟨[.type "enumerate", .ref tp], []⟩) (fun _ Rr s => s.heap.get? tp = some { cls := .type "tuple", dict := dct, data := .seq items n, slots := sl } ∧
      Rr (.ok (.ret (.ref (s.heap.push { cls := .type "tuple_iterator", data := .fields #[.ref tp, .int 0 0] }).objs.size)))
        { s with heap := (s.heap.push { cls := .type "tuple_iterator", data := .fields #[.ref tp, .int 0 0] }).push { cls := .type "enumerate", data := .fields #[.none, .bool false, .ref s.heap.objs.size, rawInt 0, .none, .none] } }) :=
  .of_wp fun prog w A Rr s h => by
    obtain ⟨hp, gs, dr, tk, os⟩ := s
    obtain ⟨hl, h⟩ := h
    have hsub := sub_enumerate
    have hT : Heap.IsTuple (Shared.heap ⟨hp, gs, dr, tk, os⟩) tp items := ⟨_, hl, rfl, n, rfl⟩
    wp_walk using wpAny_loadPart' hl
    refine wpAny_stack_any fun st => wpAny_pure ?_
    split
    · rename_i c _ _ _ _ _
      cases (c == Value.type "enumerate")
      · wp_walk using wpAny_loadPart' hl, wpAny_pyIter_tuple hT
        exact ⟨_, rfl, h⟩
      · wp_walk using wpAny_loadPart' hl, wpAny_pyIter_tuple hT
        exact ⟨_, rfl, h⟩
    · wp_walk using wpAny_loadPart' hl, wpAny_pyIter_tuple hT
      exact ⟨_, rfl, h⟩
section
variable {prog : Program} {w : World} {A : Around} {E : Value → Shared → Prop} {s : Shared}
theorem call_enumT {tp : Addr} {items : Array Value} {Q : Value → Shared → Prop} (ht : s.heap.IsTuple tp items)
    (h : ∀ h', IsEnum h' (s.heap.objs.size + 1) s.heap.objs.size 0 .none → h'.IsTupleIter s.heap.objs.size tp 0 → (∀ b o, s.heap.get? b = some o → h'.get? b = some o) → Q (.ref (s.heap.objs.size + 1)) { s with heap := h' }) :
    wpAny (model prog w) A (call (.type "enumerate") [.ref tp]) Q E s := by
  obtain ⟨⟨oc, od, dt, sl⟩, hl, hc, n, hd⟩ := ht
  have hc' : oc = .type "tuple" := hc
  have hd' : dt = .seq items n := hd
  subst hc' hd'
  refine callType_new F.called_enumerate (by decide) (F.typeCall_enumerate_1 _) (F.newCall_enumerate_1 _) (fun obj => F.args_object_init_2 obj _) F.entry_enumerate_new
    (new_enumT tp items n od sl) ⟨hl, ?_⟩
  have hz : (s.heap.push { cls := .type "tuple_iterator", data := .fields #[.ref tp, .int 0 0] }).objs.size = s.heap.objs.size + 1 := Heap.size_push ..
  show _ ∧ _
  rw [hz]
  have he : IsEnum ((s.heap.push { cls := .type "tuple_iterator", data := .fields #[.ref tp, .int 0 0] }).push
      { cls := .type "enumerate", data := .fields #[.none, .bool false, .ref s.heap.objs.size, rawInt 0, .none, .none] }) (s.heap.objs.size + 1) s.heap.objs.size 0 .none := by
    have q := Heap.get?_push_size (s.heap.push { cls := .type "tuple_iterator", data := .fields #[.ref tp, .int 0 0] })
      (o := { cls := .type "enumerate", data := .fields #[.none, .bool false, .ref s.heap.objs.size, rawInt 0, .none, .none] }) rfl
    rw [hz] at q
    exact q
  exact ⟨⟨_, he, rfl⟩, h _ he ⟨_, Heap.get?_push_of_some _ (Heap.get?_push_size _ rfl), rfl, rfl⟩ fun b o x => Heap.get?_push_of_some _ (Heap.get?_push_of_some _ x)⟩
end
/-- the tuple at a, each item in a new pair -/
def ItEt (K : PySem.W.Frag) (a : Addr) : It :=
  ⟨fun i H => ∃ (xs : List V) (x : V), SqT K H a xs ∧ xs[i]? = some x, fun i H v H' => ∃ T x, v = .ref T ∧ H T = none ∧ H' = upd H T (.tup [.int (i : Nat), x]) ∧ ∀ xs, SqT K H a xs → xs[i]? = some x, fun i H => ∃ xs : List V, SqT K H a xs ∧ xs.length ≤ i⟩
theorem turn_enumT {P : Program} {w : World} {K : PySem.W.Frag} {elts : List Expr} {kk : Nat} {tpos : Pos} (a e it : Addr) :
    Turn P w K (.Tuple elts kk tpos) (ItEt K a) [e, it] e (fun i h => (∃ old, IsEnum h e it ((i : Nat) : Int) old) ∧ h.IsTupleIter it a i ∧ e ≠ it) where
  mem := by simp
  obj := by
    rintro i h ⟨⟨old, he⟩, ⟨o, ho, hc, hd⟩, _⟩ b hb
    rcases (show b = e ∨ b = it by simpa using hb) with rfl | rfl
    · exact ⟨_, he, fun v q => nomatch q⟩
    · exact ⟨o, ho, fun v q => by rw [hd] at q; cases q⟩
  keep := by
    rintro i h h' ⟨⟨old, he⟩, hi, hne⟩ k
    exact ⟨⟨old, k e (by simp) _ he⟩, hi.at fun o q => k it (by simp) o q, hne⟩
  item := by
    rintro X rfl rfl rfl hc i pins s σ H E IV hf ⟨⟨old, he⟩, hit, hne⟩ ⟨xs, x, hq, hx⟩
    obtain ⟨its, rv, pl, hz⟩ := IV.tuple hq
    obtain ⟨u, hu, ru⟩ := rv.get hx
    have hel : e < s.heap.objs.size := Heap.lt_size he
    have hil : it < s.heap.objs.size := by obtain ⟨_, q, _⟩ := hit; exact Heap.lt_size q
    have nit : a ≠ it := fun z => by
      subst z
      obtain ⟨o1, q1, c1, _⟩ := hit
      obtain ⟨o2, q2, c2, _⟩ := pl
      rw [q1] at q2
      cases q2
      rw [c1] at c2
      simp at c2
    have ne_ : e ≠ a := fun z => by
      subst z
      obtain ⟨o2, q2, c2, _⟩ := pl
      have he' : s.heap.get? e = some _ := he
      rw [he'] at q2
      cases q2
      simp at c2
    have hD := Draws.tuple (prog := X.prog) (w := X.w) (A := X.A.in1) (show X.A.in1.handled = none from IV.ok.hd hc) it a nit its.toArray
    refine wpAny_pyNext_enum_itemD hD he ⟨hit, pl⟩ (by rw [List.size_toArray, ← rv.length]; exact (List.getElem?_eq_some_iff.mp hx).1) hne (by simp [hne, ne_]) fun y h' tk hy ho hst hT hsz hk => ?_
    have ey : y = u := by
      have hy' : its.toArray[i]? = some y := hy
      rw [List.getElem?_toArray, hu] at hy'
      exact (Option.some.inj hy').symm
    subst ey
    refine ⟨_, rfl, wpAny_letOwnedTupleGo_enum (s := { s with heap := h', toks := tk + 1 }) ho fun h'' he' sb => ?_⟩
    have hT2 : h''.get? s.heap.objs.size = some { cls := .type "tuple", data := .seq #[.int i tk, y] } := (sb.2 _ (Nat.ne_of_gt hel)).trans hT
    have new : ObjOk X.prog X.w (upd H s.heap.objs.size (.tup [.int (i : Nat), x])) h'' s.heap.objs.size (.tup [.int (i : Nat), x]) :=
      ⟨by show 2 ≤ sizeLine; decide, [.int i tk, y], .cons ⟨_, rfl⟩ (.cons ru .nil), ⟨_, hT2, rfl, _, rfl⟩⟩
    have I1 : Inv X pins σ (upd H s.heap.objs.size (.tup [.int (i : Nat), x])) { s with heap := h'', toks := tk + 1 } :=
      IV.turnedNew (ch := [e, it]) (fun b ob hb q => (sb.2 b (fun z => hb (by simp [z]))).trans (hk b ob (fun z => hb (by simp [z])) (fun z => hb (by simp [z])) q)) hf (Nat.le_refl _) new
    refine ⟨.ref s.heap.objs.size, _, I1, rfl, ⟨_, x, rfl, IV.hok.fresh (Nat.le_refl _), rfl, fun ys hy => by rw [IV.tuple_inj hy hq]; exact hx⟩, ⟨⟨y, ?_⟩, hst.1.at fun o q => (sb.2 it (Ne.symm hne)).trans q, hne⟩, fun b hb => ?_⟩
    · rw [show ((i + 1 : Nat) : Int) = (i : Int) + 1 by omega]
      exact he'
    · have hb' : b < s.heap.objs.size := by
        rcases (show b = e ∨ b = it by simpa using hb) with rfl | rfl
        · exact hel
        · exact hil
      rw [upd_ne (Nat.ne_of_lt hb')]
      exact (hf b hb).1
  done := by
    rintro X rfl rfl rfl hc i pins s σ H E IV hf ⟨⟨old, he⟩, hit, hne⟩ ⟨xs, hq, hx⟩
    obtain ⟨its, rv, pl, hz⟩ := IV.tuple hq
    obtain ⟨f0, f1, f2, f3, f4, f5⟩ := hf it (by simp)
    have hl := rv.length
    have hz2 : its.toArray[i]? = none := by
      rw [List.getElem?_toArray]
      exact List.getElem?_eq_none (by omega)
    have nit : a ≠ it := fun z => by
      subst z
      obtain ⟨o1, q1, c1, _⟩ := hit
      obtain ⟨o2, q2, c2, _⟩ := pl
      rw [q1] at q2
      cases q2
      rw [c1] at c2
      simp at c2
    have hD : Draws X.prog X.w X.A.in1 it [it, a] i (fun j v => False) (fun j h => (j < i → False) ∧ h.IsTupleIter it a j ∧ h.IsTuple a its.toArray) :=
      { live := fun _ _ st => let ⟨o, ho, _⟩ := st.2.1; ⟨o, ho⟩
        frame := fun _ _ _ st hk => ⟨st.1, st.2.1.at fun o e => hk it (by simp) o e, st.2.2.at fun o e => hk a (by simp) o e⟩
        item := fun j s Q E hi st hQ => (st.1 hi).elim
        done := fun s Q E st hE => wpAny_nextOf_tuple_end (IV.ok.hd hc) st.2.1 st.2.2 hz2 hE }
    exact wpAny_pyNext_enum_endD hD he ⟨fun z => Nat.lt_irrefl _ z, hit, pl⟩ fun h' eb => ⟨rfl, IV.turned (t' := s.toks) (fun b o hb q => eb b o hb q) f0 f1 f3 f4 f5⟩
  self := fun A i s Q E st h => let ⟨⟨_, he⟩, _⟩ := st; wpAny_pyIter_enum he h
def iEnT (K : PySem.W.Frag) (ta : TA) : TI := fun σ H Rr => ta σ H fun vs H1 => ∃ a xs, vs = [.ref a] ∧ SqT K H1 a xs ∧ Rr (ItEt K a) H1
def iEn2 (K : PySem.W.Frag) (ta : TA) : TI := fun σ H Rr => ta σ H fun vs H1 => ∃ a xs, vs = [.ref a] ∧ ((SqL K H1 a xs ∧ Rr (Ite K a) H1) ∨ (SqT K H1 a xs ∧ Rr (ItEt K a) H1))
theorem pi_enum2 {X : Cx} {e : Expr} {ta : TA} {p pos tpos : Pos} {elts : List Expr} {kk : Nat} (hg : Gl X "enumerate") (hm : X.mg "enumerate" = none) (ha : PA X [e] ta) (hs : starEach [e] X.env = [(false, eval e X.env)] := by rfl) :
    PI X (.Tuple elts kk tpos) (.Call (.Name "enumerate" p) [e] [] pos) (iEn2 X.K ta) := by
  refine ⟨fun pins st σ H Rr IV h => Call_ (ld_blt IV hg hm boot_enumerate (PyProof.Rows.callWith_type1 (thn (ha.run pos pins st σ H _ IV h) fun us s1 q1 => ?_) hs rfl))⟩
  obtain ⟨vs, H1, I1, r1, a, xs, rfl, q⟩ := q1
  cases r1 with
  | cons r rr =>
    cases rr
    cases r
    have last : ∀ b, b ∈ [s1.heap.objs.size + 1, s1.heap.objs.size] → s1.heap.objs.size ≤ b := fun b hb => by
      rcases (show b = s1.heap.objs.size + 1 ∨ b = s1.heap.objs.size by simpa using hb) with z | z <;> omega
    rcases q with ⟨hq, q⟩ | ⟨hq, q⟩
    · obtain ⟨its, rv, pl, hz⟩ := I1.list hq
      refine call_enumerate_list pl.isList fun h' he hit hsz hk => wpAny_pyIter_enum he ?_
      exact ⟨s1.heap.objs.size + 1, [s1.heap.objs.size + 1, s1.heap.objs.size], _, _, H1, rfl, I1.kept (t' := s1.toks) hk, turn_enum a (s1.heap.objs.size + 1) s1.heap.objs.size, ⟨⟨.none, he⟩, hit, Nat.succ_ne_self _⟩,
        fun b hb => I1.fpOk (last b hb) (I1.hok.fresh (last b hb)), q⟩
    · obtain ⟨its, rv, pl, hz⟩ := I1.tuple hq
      refine call_enumT pl fun h' he hit hk => wpAny_pyIter_enum he ?_
      exact ⟨s1.heap.objs.size + 1, [s1.heap.objs.size + 1, s1.heap.objs.size], _, _, H1, rfl, I1.kept (t' := s1.toks) hk, turn_enumT a (s1.heap.objs.size + 1) s1.heap.objs.size, ⟨⟨.none, he⟩, hit, Nat.succ_ne_self _⟩,
        fun b hb => I1.fpOk (last b hb) (I1.hok.fresh (last b hb)), q⟩
end IL
end T_IL5b
section T_IL6
set_option Elab.async false
set_option linter.all false
set_option maxRecDepth 100000
namespace IL
open PySem PySem.Spec L2
open PyProof.Rows hiding St

/-! ### enumerate and zip -/
/-- the things of what is walked (its list does not change meanwhile) -/
def R.walk (mm : Bool) (a : ASt) : R → Option (List U)
  | .own us => some us
  | .val u => u.seq
  | .slot i => match a.sl[i]? with
    | some (.own us) => if mm then none else some us
    | some (.val u) => u.seq
    | _ => none
  | .dic _ _ => none
def U.isT : U → Bool
  | .tup _ => true
  | _ => false
/-- is it a tuple? -/
def R.isT (a : ASt) : R → Bool
  | .val u => u.isT
  | .slot i => match a.sl[i]? with
    | some (.val u) => u.isT
    | _ => false
  | _ => false
def walkL (mm : Bool) (a : ASt) : List R → Option (List (Bool × List U))
  | [] => some []
  | r :: rs => match r.walk mm a, walkL mm a rs with
    | some us, some uss => some ((r.isT a, us) :: uss)
    | _, _ => none
def itW (mm : Bool) (g : List (Bool × List U) → Option (List U)) (Is : List ES) : IT := fun a => (iArgs Is a).bind fun rs a1 => match walkL mm a1 rs with
  | some uss => (match g uss with
    | some us => .ok us a1
    | none => .bad)
  | none => .bad
def enumU : Nat → List U → List U
  | _, [] => []
  | k, u :: us => .tup [.int (k : Int), u] :: enumU (k + 1) us
def zipU : List U → List U → List U
  | u :: us, w :: ws => .tup [u, w] :: zipU us ws
  | _, _ => []
theorem enumU_get : ∀ {k : Nat} {us : List U} {i : Nat} {u : U}, (enumU k us)[i]? = some u → ∃ w, us[i]? = some w ∧ u = .tup [.int ((k + i : Nat) : Int), w]
  | k, [], i, u, h => by simp [enumU] at h
  | k, w :: us, 0, u, h => by
    simp [enumU] at h
    exact ⟨w, rfl, by rw [← h]; rfl⟩
  | k, w :: us, i + 1, u, h => by
    obtain ⟨x, h1, h2⟩ := enumU_get (k := k + 1) (us := us) (i := i) (by simpa [enumU] using h)
    exact ⟨x, by simpa using h1, by rw [h2, show k + 1 + i = k + (i + 1) by omega]⟩
theorem enumU_length : ∀ (k : Nat) (us : List U), (enumU k us).length = us.length
  | _, [] => rfl
  | k, _ :: us => by rw [enumU, List.length_cons, List.length_cons, enumU_length]
theorem zipU_get : ∀ {us ws : List U} {i : Nat} {u : U}, (zipU us ws)[i]? = some u → ∃ x y, us[i]? = some x ∧ ws[i]? = some y ∧ u = .tup [x, y]
  | [], ws, i, u, h => by simp [zipU] at h
  | x :: us, [], i, u, h => by simp [zipU] at h
  | x :: us, y :: ws, 0, u, h => by
    simp [zipU] at h
    exact ⟨x, y, rfl, rfl, h.symm⟩
  | x :: us, y :: ws, i + 1, u, h => by
    obtain ⟨p, q, h1, h2, h3⟩ := zipU_get (us := us) (ws := ws) (i := i) (by simpa [zipU] using h)
    exact ⟨p, q, by simpa using h1, by simpa using h2, h3⟩
theorem zipU_length : ∀ (us ws : List U), (zipU us ws).length = min us.length ws.length
  | [], ws => by simp [zipU]
  | _ :: _, [] => by simp [zipU]
  | _ :: us, _ :: ws => by
    rw [zipU, List.length_cons, List.length_cons, List.length_cons, zipU_length]
    omega
/-- a list that stays, a tuple -/
def Wk (c : Kc) (mm : Bool) (S : Addr → Prop) (ρ : List Addr) (a : ASt) (σ : St) (H : Hp) (k : Bool) (us : List U) (v : V) : Prop :=
  ∃ p vs, v = .ref p ∧ RepL c ρ H (Bad S ρ a σ) us vs ∧ ((k = false ∧ SqL c.K H p vs ∧ ∀ (ρ2 : List Addr) (a2 : ASt) (σ2 : St) (H2 : Hp), Ext mm ρ a σ H ρ2 a2 σ2 H2 → SqL c.K H2 p vs) ∨ (k = true ∧ SqT c.K H p vs))
section
variable {m mm : Bool} {c : Kc} {S T : Addr → Prop} {ρ ρ1 : List Addr} {a a1 : ASt} {σ : St} {H H1 : Hp} {W : WX}
theorem wk_val {u : U} {us : List U} {v : V} (h : Rep c ρ H (Bad S ρ a σ) u v) (e : u.seq = some us) : Wk c mm S ρ a σ H u.isT us v := by
  cases h with
  | tup hs r => cases e; exact ⟨_, _, rfl, r, .inr ⟨rfl, hs⟩⟩
  | lst hs n r => cases e; exact ⟨_, _, rfl, r, .inl ⟨rfl, SqL.of hs, fun ρ2 a2 σ2 H2 x => SqL.of (x.keep _ _ hs (fun z => n (.inr (.inl z))) fun _ z => n (.inr (.inr z)))⟩⟩
  | lsf hs r => cases e; exact ⟨_, _, rfl, r, .inl ⟨rfl, hs.sq, fun ρ2 a2 σ2 H2 x => ((x.kp (S := S)).sqF hs).sq⟩⟩
  | _ => cases e
theorem wk_of {r : R} {us : List U} {v : V} (rel : Rel c S ρ a σ H) (h : RepR c S ρ a σ H r v) (e : r.walk mm a = some us) : Wk c mm S ρ a σ H (r.isT a) us v := by
  cases r with
  | dic ks ws => cases e
  | own ws =>
    cases e
    obtain ⟨p, vs, rfl, e2, r2', n2⟩ := h
    have r2 := r2'.bad (B' := Bad S ρ a σ) (bad_sub fun _ z => .inl z)
    exact ⟨p, vs, rfl, r2, .inl ⟨rfl, SqL.of e2, fun ρ2 a2 σ2 H2 x => SqL.of (x.keep _ _ e2 (fun z => n2 (.inr (.inl z))) fun _ z => n2 (.inr (.inr z)))⟩⟩
  | val u => exact wk_val h e
  | slot i =>
    have h' : σ[i]? = some (some v) := h
    have e' : (match a.sl[i]? with | some (.own us) => if mm then none else some us | some (.val u) => u.seq | _ => none) = some us := e
    cases hs : a.sl[i]? with
    | none => rw [hs] at e'; cases e'
    | some s =>
      rw [hs] at e'
      cases s with
      | non => cases e'
      | val u =>
        obtain ⟨w, ew, rw_⟩ := rel.val i u hs
        rw [h'] at ew
        cases ew
        have et : R.isT a (.slot i) = u.isT := by
          show (match a.sl[i]? with | some (.val u) => u.isT | _ => false) = u.isT
          rw [hs]
        rw [et]
        exact wk_val rw_ e'
      | own ws =>
        obtain ⟨p, vs, ew, e2, r2, n1, n2⟩ := rel.own i ws hs
        rw [h'] at ew
        cases ew
        cases mm with
        | true => cases e'
        | false =>
          cases e'
          have et : R.isT a (.slot i) = false := by
            show (match a.sl[i]? with | some (.val u) => u.isT | _ => false) = false
            rw [hs]
          rw [et]
          exact ⟨p, vs, rfl, r2, .inl ⟨rfl, SqL.of e2, fun ρ2 a2 σ2 H2 x => SqL.of (x.keep _ _ e2 n1 fun z => by cases z)⟩⟩
/-- the operands of what is walked -/
theorem itw_args {g : List (Bool × List U) → Option (List U)} {t : List V → Hp → (It → Hp → Prop) → Prop} {Is : List ES} {Rr : It → Hp → Prop}
    (hs : ∀ (S : Addr → Prop) (ρ : List Addr) (a : ASt) (H : Hp) (uss : List (Bool × List U)) (vs : List V) (us : List U), Rel c S ρ a σ H → uss.length = vs.length → (∀ (i : Nat) (ws : Bool × List U) (v : V), uss[i]? = some ws → vs[i]? = some v → Wk c mm S ρ a σ H ws.1 ws.2 v) → g uss = some us →
      (∀ J, ItOk c mm S ρ a σ H J us → us.length ≤ sizeLine → Rr J H) → t vs H Rr)
    (h : tIt c m mm W (itW mm g Is) σ H Rr) : tAll c m W Is σ H (fun vs H1 => t vs H1 Rr) := by
  obtain ⟨S, ρ, a, rel, h⟩ := h
  refine tAll_of Is rel ?_
  unfold itW at h
  cases hA : iArgs Is a with
  | bad => rw [hA] at h; exact h
  | exc e a1 => rw [hA] at h; exact h
  | ok rs a1 =>
    rw [hA] at h
    simp only [Out.bind] at h
    cases hw : walkL mm a1 rs with
    | none => simp only [hw] at h
    | some uss =>
      simp only [hw] at h
      cases hg : g uss with
      | none => simp only [hg] at h
      | some us =>
        simp only [hg] at h
        intro vs ρ1 H1 e1 rel1 rr1 hn1
        have relS : Rel c S ρ1 a1 σ H1 := rel1.sub fun p z => .inl z
        have key : ∀ (rs : List R) (vs : List V) (uss : List (Bool × List U)) (S' : Addr → Prop), (∀ p, S p → S' p) → RepRL c ρ1 a1 σ H1 S' rs vs → walkL mm a1 rs = some uss → uss.length = vs.length ∧ ∀ (i : Nat) (ws : Bool × List U) (v : V), uss[i]? = some ws → vs[i]? = some v → Wk c mm S ρ1 a1 σ H1 ws.1 ws.2 v := by
          intro rs
          induction rs with
          | nil =>
            intro vs uss S' hS hr he
            match vs, hr with
            | [], _ => cases he; exact ⟨rfl, fun i ws v z => by simp at z⟩
          | cons r rs ih =>
            intro vs uss S' hS hr he
            match vs, hr with
            | v :: vs, ⟨h1, h2⟩ =>
              unfold walkL at he
              cases q1 : r.walk mm a1 with
              | none => rw [q1] at he; cases he
              | some ws =>
                cases q2 : walkL mm a1 rs with
                | none => rw [q1, q2] at he; cases he
                | some uss2 =>
                  rw [q1, q2] at he
                  cases he
                  obtain ⟨i1, i2⟩ := ih vs uss2 _ (fun p z => .inl (hS p z)) h2 q2
                  refine ⟨by rw [List.length_cons, List.length_cons, i1], fun i ws' v' z1 z2 => ?_⟩
                  cases i with
                  | zero =>
                    simp at z1 z2
                    subst z1 z2
                    exact wk_of relS (h1.sub fun p z => .inl (hS p z)) q1
                  | succ i => exact i2 i ws' v' (by simpa using z1) (by simpa using z2)
        obtain ⟨k1, k2⟩ := key rs vs uss S (fun p z => z) rr1 hw
        exact hs S ρ1 a1 H1 uss vs us relS k1 k2 hg fun J hj hz => h J ρ1 H1 e1 relS hj hz
theorem itok_enum {p : Addr} {us : List U} {vs : List V} (r : RepL c ρ H (Bad S ρ a σ) us vs) (hs : ∀ (ρ2 : List Addr) (a2 : ASt) (σ2 : St) (H2 : Hp), Ext mm ρ a σ H ρ2 a2 σ2 H2 → SqL c.K H2 p vs) : ItOk c mm S ρ a σ H (Ite c.K p) (enumU 0 us) := by
  intro S2 ρ2 a2 σ2 H2 e hS rel2
  have hq := hs ρ2 a2 σ2 H2 e
  refine ⟨⟨vs, hq, by rw [enumU_length, r.length]; exact Nat.le_refl _⟩, fun i u hu => ?_⟩
  obtain ⟨w, hw, rfl⟩ := enumU_get hu
  obtain ⟨v, hv, rv⟩ := r.get' hw
  refine ⟨⟨vs, v, hq, hv⟩, fun x H3 y => ?_⟩
  obtain ⟨T, x', rfl, nT, rfl, ex⟩ := y
  have e4 : x' = v := Option.some.inj ((ex _ hq).symm.trans hv)
  subst e4
  have x1 : Ext mm ρ2 a2 σ2 H2 ρ2 a2 σ2 (upd H2 T (.tup [.int (i : Nat), x'])) := Ext.new nT
  refine ⟨x1, (rel2.new nT).sub fun p z => .inl z, .tup (SqT.of upd_same) (.cons ?_ (.cons ((e.trans x1).repS hS rv) .nil)), fun q o h => upd_some h nT⟩
  rw [Nat.zero_add]
  exact .int _
theorem itok_enumT {p : Addr} {us : List U} {vs : List V} (r : RepL c ρ H (Bad S ρ a σ) us vs) (hs : SqT c.K H p vs) : ItOk c mm S ρ a σ H (ItEt c.K p) (enumU 0 us) := by
  intro S2 ρ2 a2 σ2 H2 e hS rel2
  have hq : SqT c.K H2 p vs := (e.kp (S := S)).sqT hs
  refine ⟨⟨vs, hq, by rw [enumU_length, r.length]; exact Nat.le_refl _⟩, fun i u hu => ?_⟩
  obtain ⟨w, hw, rfl⟩ := enumU_get hu
  obtain ⟨v, hv, rv⟩ := r.get' hw
  refine ⟨⟨vs, v, hq, hv⟩, fun x H3 y => ?_⟩
  obtain ⟨T, x', rfl, nT, rfl, ex⟩ := y
  have e4 : x' = v := Option.some.inj ((ex _ hq).symm.trans hv)
  subst e4
  have x1 : Ext mm ρ2 a2 σ2 H2 ρ2 a2 σ2 (upd H2 T (.tup [.int (i : Nat), x'])) := Ext.new nT
  refine ⟨x1, (rel2.new nT).sub fun p z => .inl z, .tup (SqT.of upd_same) (.cons ?_ (.cons ((e.trans x1).repS hS rv) .nil)), fun q o h => upd_some h nT⟩
  rw [Nat.zero_add]
  exact .int _
theorem itok_zip {p q : Addr} {us ws : List U} {vs xs : List V} (r1 : RepL c ρ H (Bad S ρ a σ) us vs) (r2 : RepL c ρ H (Bad S ρ a σ) ws xs) (h1 : ∀ (ρ2 : List Addr) (a2 : ASt) (σ2 : St) (H2 : Hp), Ext mm ρ a σ H ρ2 a2 σ2 H2 → SqL c.K H2 p vs)
    (h2 : ∀ (ρ2 : List Addr) (a2 : ASt) (σ2 : St) (H2 : Hp), Ext mm ρ a σ H ρ2 a2 σ2 H2 → SqL c.K H2 q xs) : ItOk c mm S ρ a σ H (Itz c.K p q) (zipU us ws) := by
  intro S2 ρ2 a2 σ2 H2 e hS rel2
  have hq1 := h1 ρ2 a2 σ2 H2 e
  have hq2 := h2 ρ2 a2 σ2 H2 e
  refine ⟨⟨vs, xs, hq1, hq2, by rw [zipU_length, r1.length, r2.length]; omega⟩, fun i u hu => ?_⟩
  obtain ⟨x0, y0, hx0, hy0, rfl⟩ := zipU_get hu
  obtain ⟨v1, hv1, rv1⟩ := r1.get' hx0
  obtain ⟨v2, hv2, rv2⟩ := r2.get' hy0
  refine ⟨⟨vs, xs, v1, v2, hq1, hq2, hv1, hv2⟩, fun x H3 y => ?_⟩
  obtain ⟨T, x', y', rfl, nT, rfl, ex, ey⟩ := y
  have e4 : x' = v1 := Option.some.inj ((ex _ hq1).symm.trans hv1)
  have e5 : y' = v2 := Option.some.inj ((ey _ hq2).symm.trans hv2)
  subst e4 e5
  have x1 : Ext mm ρ2 a2 σ2 H2 ρ2 a2 σ2 (upd H2 T (.tup [x', y'])) := Ext.new nT
  exact ⟨x1, (rel2.new nT).sub fun p z => .inl z, .tup (SqT.of upd_same) (.cons ((e.trans x1).repS hS rv1) (.cons ((e.trans x1).repS hS rv2) .nil)), fun q o h => upd_some h nT⟩
theorem itok_zipT {p q : Addr} {us ws : List U} {vs xs : List V} (r1 : RepL c ρ H (Bad S ρ a σ) us vs) (r2 : RepL c ρ H (Bad S ρ a σ) ws xs) (h1 : SqT c.K H p vs) (h2 : SqT c.K H q xs) : ItOk c mm S ρ a σ H (RZ.ItzT c.K p q) (zipU us ws) := by
  intro S2 ρ2 a2 σ2 H2 e hS rel2
  have hq1 : SqT c.K H2 p vs := (e.kp (S := S)).sqT h1
  have hq2 : SqT c.K H2 q xs := (e.kp (S := S)).sqT h2
  refine ⟨⟨vs, xs, hq1, hq2, by rw [zipU_length, r1.length, r2.length]; omega⟩, fun i u hu => ?_⟩
  obtain ⟨x0, y0, hx0, hy0, rfl⟩ := zipU_get hu
  obtain ⟨v1, hv1, rv1⟩ := r1.get' hx0
  obtain ⟨v2, hv2, rv2⟩ := r2.get' hy0
  refine ⟨⟨vs, xs, v1, v2, hq1, hq2, hv1, hv2⟩, fun x H3 y => ?_⟩
  obtain ⟨T, x', y', rfl, nT, rfl, ex, ey⟩ := y
  have e4 : x' = v1 := Option.some.inj ((ex _ hq1).symm.trans hv1)
  have e5 : y' = v2 := Option.some.inj ((ey _ hq2).symm.trans hv2)
  subst e4 e5
  have x1 : Ext mm ρ2 a2 σ2 H2 ρ2 a2 σ2 (upd H2 T (.tup [x', y'])) := Ext.new nT
  exact ⟨x1, (rel2.new nT).sub fun p z => .inl z, .tup (SqT.of upd_same) (.cons ((e.trans x1).repS hS rv1) (.cons ((e.trans x1).repS hS rv2) .nil)), fun q o h => upd_some h nT⟩
end
def gEnum : List (Bool × List U) → Option (List U)
  | [(_, us)] => if us.length ≤ sizeLine then some (enumU 0 us) else none
  | _ => none
def gZip : List (Bool × List U) → Option (List U)
  | [(k, us), (k', ws)] => if k = k' ∧ us.length ≤ sizeLine then some (zipU us ws) else none
  | _ => none
section
variable {X : Cx} {m mm : Bool} {W : WX} {e e1 e2 tg : Expr} {I J : ES} {pos : Pos}
theorem pii_enum {p tpos : Pos} {elts : List Expr} {kk : Nat} (hg : Gl X "enumerate") (hm : X.mg "enumerate" = none) (h1 : PAI X m W [e1] [I]) (hs : starEach [e1] X.env = [(false, eval e1 X.env)] := by rfl) :
    PII X m mm W (.Tuple elts kk tpos) (.Call (.Name "enumerate" p) [e1] [] pos) (itW mm gEnum [I]) := (pi_enum2 hg hm h1 hs).weak fun σ H Rr q => itw_args (t := fun vs H1 Rr => ∃ a xs, vs = [.ref a] ∧ ((SqL X.K H1 a xs ∧ Rr (Ite X.K a) H1) ∨ (SqT X.K H1 a xs ∧ Rr (ItEt X.K a) H1))) (fun S ρ a H uss vs us rel hl hw hg k => by
  unfold gEnum at hg
  split at hg
  · split at hg
    · rename_i hz
      cases hg
      match vs, hl with
      | [v], _ =>
        obtain ⟨p, xs, rfl, r, w⟩ := hw 0 _ _ rfl rfl
        refine ⟨p, xs, rfl, ?_⟩
        rcases w with ⟨_, w1, w2⟩ | ⟨_, w1⟩
        · exact .inl ⟨w1, k _ (itok_enum r w2) (by rw [enumU_length]; exact hz)⟩
        · exact .inr ⟨w1, k _ (itok_enumT r w1) (by rw [enumU_length]; exact hz)⟩
    · cases hg
  · cases hg) q
theorem pii_zip {p tpos : Pos} {elts : List Expr} {kk : Nat} (hg : Gl X "zip") (hm : X.mg "zip" = none) (h1 : PAI X m W [e1, e2] [I, J])
    (hs : starEach [e1, e2] X.env = (false, eval e1 X.env) :: starEach [e2] X.env := by rfl) (hpl : (backTo pos (starEach [e2] X.env)).any (·.1) = false := by rfl) :
    PII X m mm W (.Tuple elts kk tpos) (.Call (.Name "zip" p) [e1, e2] [] pos) (itW mm gZip [I, J]) := (RZ.pi_zipA hg hm h1 hs hpl).weak fun σ H Rr q => itw_args (t := fun vs H1 Rr => ∃ a b xs ys, vs = [.ref a, .ref b] ∧ ((SqL X.K H1 a xs ∧ SqL X.K H1 b ys ∧ Rr (Itz X.K a b) H1) ∨ (SqT X.K H1 a xs ∧ SqT X.K H1 b ys ∧ Rr (RZ.ItzT X.K a b) H1))) (fun S ρ a H uss vs us rel hl hw hg k => by
  unfold gZip at hg
  split at hg
  · rename_i b1 us1 b2 us2
    split at hg
    · rename_i hz
      obtain ⟨hz1, hz2⟩ := hz
      subst hz1
      cases hg
      match vs, hl with
      | [v, v'], _ =>
        obtain ⟨p, xs, rfl, r, w⟩ := hw 0 _ _ rfl rfl
        obtain ⟨p', xs', rfl, r', w'⟩ := hw 1 _ _ rfl rfl
        have hl2 : (zipU us1 us2).length ≤ sizeLine := by
          rw [zipU_length]
          exact Nat.le_trans (Nat.min_le_left _ _) hz2
        refine ⟨p, p', xs, xs', rfl, ?_⟩
        rcases w with ⟨k1, w1, w2⟩ | ⟨k1, w1⟩
        · rcases w' with ⟨k2, w3, w4⟩ | ⟨k2, w3⟩
          · exact .inl ⟨w1, w3, k _ (itok_zip r r' w2 w4) hl2⟩
          · exact absurd (k1.symm.trans k2) (by decide)
        · rcases w' with ⟨k2, w3, w4⟩ | ⟨k2, w3⟩
          · exact absurd (k1.symm.trans k2) (by decide)
          · exact .inr ⟨w1, w3, k _ (itok_zipT r r' w1 w3) hl2⟩
    · cases hg
  · cases hg) q
end
end IL
end T_IL6
section T_IL7
set_option Elab.async false
set_option linter.all false
set_option maxRecDepth 100000
namespace IL
open PySem PySem.Spec L2
open PyProof.Rows hiding St

/-! ### slots are set -/
section
variable {m mm : Bool} {c : Kc} {S T : Addr → Prop} {ρ ρ1 : List Addr} {a a1 : ASt} {σ : St} {H H1 : Hp} {W : WX}
theorem setσ_get {l : St} {i j : Nat} {v x : V} (h : (l.set i (some v))[j]? = some (some x)) : (j = i ∧ x = v) ∨ (j ≠ i ∧ l[j]? = some (some x)) := by
  by_cases e : i = j
  · subst e
    by_cases hl : i < l.length
    · rw [List.getElem?_set_self hl] at h
      exact .inl ⟨rfl, by cases h; rfl⟩
    · rw [List.getElem?_eq_none (by rw [List.length_set]; omega)] at h
      cases h
  · rw [List.getElem?_set_ne e] at h
    exact .inr ⟨fun z => e z.symm, h⟩
theorem ownA_setV {i : Nat} {u : U} {v : V} {q : Addr} (h : OwnA (a.set i (.val u)) (σ.set i (some v)) q) : OwnA a σ q := by
  obtain ⟨j, ws, e1, e2⟩ := h
  rcases set_get e1 with ⟨_, z, _⟩ | ⟨ne, z⟩
  · cases z
  · rcases setσ_get e2 with ⟨z2, _⟩ | ⟨_, z2⟩
    · exact absurd z2 ne
    · exact ⟨j, ws, z, z2⟩
theorem Ext.setV {i : Nat} {u : U} {v : V} : Ext m ρ a σ H ρ (a.set i (.val u)) (σ.set i (some v)) H :=
  ⟨List.prefix_refl _, fun q o h _ _ => h, fun q o h => ⟨o, h⟩, fun q xs h => h, fun q o u h => h, fun q z => .inl z, fun q z => .inl (ownA_setV z)⟩
/-- a slot gets a value -/
theorem Rel.setV (rel : Rel c S ρ a σ H) {i : Nat} {u : U} {v : V} (r : Rep c ρ H (Bad S ρ a σ) u v) : Rel c S ρ (a.set i (.val u)) (σ.set i (some v)) H := by
  have hb : ∀ q o, H q = some o → Bad S ρ (a.set i (.val u)) (σ.set i (some v)) q → Bad S ρ a σ q := fun q o h z => by
    rcases z with z | z | z
    · exact .inl z
    · exact .inr (.inl z)
    · exact .inr (.inr (ownA_setV z))
  refine ⟨fun j w e1 => ?_, fun j ws e1 => ?_, fun j k us1 us2 p e1 e2 e3 e4 => ?_, rel.glen, fun n ob p e1 e2 => (rel.obj n ob p e1 e2).frame (List.prefix_refl _) Kp.refl hb rfl, rel.nd, rel.rs, rel.sall, ?_⟩
  · rcases set_get e1 with ⟨rfl, z, hl⟩ | ⟨ne, z⟩
    · cases z
      exact ⟨v, List.getElem?_set_self (by rw [← rel.slen]; exact hl), r.bad hb⟩
    · obtain ⟨x, e2, r2⟩ := rel.val j w z
      exact ⟨x, by rw [List.getElem?_set_ne (Ne.symm ne)]; exact e2, r2.bad hb⟩
  · rcases set_get e1 with ⟨_, z, _⟩ | ⟨ne, z⟩
    · cases z
    · obtain ⟨p, vs, e2, e3, r2, n1, n2⟩ := rel.own j ws z
      exact ⟨p, vs, by rw [List.getElem?_set_ne (Ne.symm ne)]; exact e2, e3, r2.bad hb, n1, n2⟩
  · rcases set_get e1 with ⟨_, z, _⟩ | ⟨ne, z⟩
    · cases z
    · rcases set_get e2 with ⟨_, z2, _⟩ | ⟨ne2, z2⟩
      · cases z2
      · rw [List.getElem?_set_ne (Ne.symm ne)] at e3
        rw [List.getElem?_set_ne (Ne.symm ne2)] at e4
        exact rel.inj j k us1 us2 p z z2 e3 e4
  · rw [show (a.set i (.val u)).sl = a.sl.set i (.val u) from rfl, List.length_set, List.length_set]
    exact rel.slen
end

/-! ### targets -/
inductive Tg where
  | nm (i : Nat) | tp (ts : List Tg)
mutual
def bindT : Tg → U → ASt → Option ASt
  | .nm i, u, a => some (a.set i (.val u))
  | .tp ts, u, a => match u with
    | .tup us => bindTs ts us a
    | _ => none
def bindTs : List Tg → List U → ASt → Option ASt
  | [], us, a => match us with
    | [] => some a
    | _ :: _ => none
  | t :: ts, us, a => match us with
    | [] => none
    | u :: us => match bindT t u a with
      | some a1 => bindTs ts us a1
      | none => none
end
mutual
def gOf (K : PySem.W.Frag) : Tg → TG
  | .nm i => gName i
  | .tp ts => gTup K ts.length (gOfs K ts)
def gOfs (K : PySem.W.Frag) : List Tg → TGs
  | [] => gNil
  | t :: ts => gCons (gOf K t) (gOfs K ts)
end
mutual
def Tg.slots : Tg → List Nat
  | .nm i => [i]
  | .tp ts => slotsL ts
def slotsL : List Tg → List Nat
  | [] => []
  | t :: ts => t.slots ++ slotsL ts
end
theorem wipe_get : ∀ (vs : List Nat) (σ : St) (j : Nat), (wipe σ vs)[j]? = if j ∈ vs then σ[j]?.map fun _ => none else σ[j]?
  | [], σ, j => by simp [wipe]
  | v :: vs, σ, j => by
    unfold wipe
    by_cases e : v = j
    · subst e
      rw [if_pos (by simp)]
      by_cases hl : v < σ.length
      · rw [List.getElem?_set_self (by rw [wipe_length]; exact hl), List.getElem?_eq_getElem hl]
        rfl
      · rw [List.getElem?_eq_none (by rw [List.length_set, wipe_length]; omega), List.getElem?_eq_none (by omega)]
        rfl
    · rw [List.getElem?_set_ne e, wipe_get vs σ j]
      have : (j ∈ v :: vs) = (j ∈ vs) := by
        simp only [List.mem_cons, eq_iff_iff]
        exact ⟨fun z => z.elim (fun z => absurd z.symm e) id, .inr⟩
      simp only [this]
theorem wipe_set {σ : St} {i : Nat} {x : Option V} {vs : List Nat} (h : i ∈ vs) : wipe (σ.set i x) vs = wipe σ vs := by
  apply List.ext_getElem?
  intro j
  rw [wipe_get, wipe_get]
  by_cases hj : j ∈ vs
  · rw [if_pos hj, if_pos hj]
    by_cases e : i = j
    · subst e
      by_cases hl : i < σ.length
      · rw [List.getElem?_set_self hl, List.getElem?_eq_getElem hl]
        rfl
      · rw [List.getElem?_eq_none (by rw [List.length_set]; omega), List.getElem?_eq_none (by omega)]
    · rw [List.getElem?_set_ne e]
  · rw [if_neg hj, if_neg hj, List.getElem?_set_ne (fun z : i = j => hj (by rw [← z]; exact h))]
section
variable {m mm : Bool} {c : Kc} {S T : Addr → Prop} {ρ : List Addr} {H : Hp} {W : WX}
mutual
theorem bind_ok : ∀ (t : Tg) {u : U} {a a2 : ASt} {x : V} {σ : St} {Q : St → Hp → Prop}, Rel c S ρ a σ H → Rep c ρ H (Bad S ρ a σ) u x → bindT t u a = some a2 →
    (∀ σ2, Rel c S ρ a2 σ2 H → (∀ vs : List Nat, (∀ i ∈ t.slots, i ∈ vs) → wipe σ2 vs = wipe σ vs) → Ext m ρ a σ H ρ a2 σ2 H → Q σ2 H) → gOf c.K t x σ H Q
  | .nm i, u, a, a2, x, σ, Q, rel, r, e, k => by
    have e' : some (a.set i (.val u)) = some a2 := e
    cases e'
    refine k _ (rel.setV r) (fun vs h => wipe_set (h i ?_)) Ext.setV
    show i ∈ [i]
    simp
  | .tp ts, u, a, a2, x, σ, Q, rel, r, e, k => by
    cases r with
    | tup hs rl =>
      have e' : bindTs ts _ a = some a2 := e
      have hl : ∀ {us : List U} {a : ASt}, bindTs ts us a = some a2 → us.length = ts.length := by
        clear e e' rel k
        induction ts with
        | nil =>
          intro us a e
          cases us with
          | nil => rfl
          | cons u us => cases e
        | cons t ts ih =>
          intro us a e
          cases us with
          | nil => cases e
          | cons u us =>
            unfold bindTs at e
            cases hb : bindT t u a with
            | none => simp only [hb] at e; cases e
            | some a1 =>
              simp only [hb] at e
              rw [List.length_cons, List.length_cons, ih e]
      exact ⟨_, _, rfl, hs, by rw [← rl.length]; exact hl e', bind_oks ts rel rl e' k⟩
    | _ => cases e
theorem bind_oks : ∀ (ts : List Tg) {us : List U} {a a2 : ASt} {xs : List V} {σ : St} {Q : St → Hp → Prop}, Rel c S ρ a σ H → RepL c ρ H (Bad S ρ a σ) us xs → bindTs ts us a = some a2 →
    (∀ σ2, Rel c S ρ a2 σ2 H → (∀ vs : List Nat, (∀ i ∈ slotsL ts, i ∈ vs) → wipe σ2 vs = wipe σ vs) → Ext m ρ a σ H ρ a2 σ2 H → Q σ2 H) → gOfs c.K ts xs σ H Q
  | [], us, a, a2, xs, σ, Q, rel, r, e, k => by
    cases r with
    | nil =>
      cases e
      exact ⟨rfl, k σ rel (fun _ _ => rfl) Ext.refl⟩
    | cons _ _ => cases e
  | t :: ts, us, a, a2, xs, σ, Q, rel, r, e, k => by
    cases r with
    | nil => cases e
    | cons r1 r2 =>
      unfold bindTs at e
      simp only at e
      split at e
      · rename_i a1 hb
        refine ⟨_, _, rfl, bind_ok t rel r1 hb fun σ1 rel1 w1 x1 => ?_⟩
        refine bind_oks ts rel1 (r2.bad (x1.bad fun p z => z)) e fun σ2 rel2 w2 x2 => ?_
        refine k σ2 rel2 (fun vs h => ?_) (x1.trans x2)
        rw [w2 vs fun i z => h i (List.mem_append_right _ z), w1 vs fun i z => h i (List.mem_append_left _ z)]
      · cases e
end
end

/-! ### comprehensions -/
def wipeA (l : List Sl) : List Nat → List Sl
  | [] => l
  | v :: vs => (wipeA l vs).set v .non
def ASt.wipe (a : ASt) (vs : List Nat) : ASt := { a with sl := wipeA a.sl vs }
def restA (l0 : List Sl) (l : List Sl) : List Nat → List Sl
  | [] => l
  | v :: vs => (restA l0 l vs).set v (l0.getD v .non)
/-- the slots vs as they were in a0 -/
def ASt.rest (a a0 : ASt) (vs : List Nat) : ASt := { a with sl := restA a0.sl a.sl vs }
def Sl.plain : Sl → Bool
  | .own _ => false
  | _ => true
def compGo (t : Tg) (vs : List Nat) (ct el : ES) : List U → ASt → List U → Option (List U × ASt)
  | [], a, acc => some (acc, a)
  | u :: us, a, acc => match bindT t u a with
    | none => none
    | some a2 => match ct a2 with
      | .ok r a3 => (match r.bl? with
        | some true => (match el a3 with
          | .ok r4 a4 => (match r4.settle a4 with
            | some (w, a5) => compGo t vs ct el us (a5.wipe vs) (acc ++ [w])
            | none => none)
          | _ => none)
        | some false => compGo t vs ct el us (a3.wipe vs) acc
        | none => none)
      | _ => none
def iComp (t : Tg) (vs : List Nat) (it : IT) (ct el : ES) : ES := fun a => match it a with
  | .ok us a1 => if vs.all (fun v => (a1.sl.getD v .non).plain) then (match compGo t vs ct el us (a1.wipe vs) [] with
    | some (acc, a2) => .ok (.own acc) (a2.rest a1 vs)
    | none => .bad) else .bad
  | .exc e a1 => .exc e a1
  | .bad => .bad
theorem wipeA_length (l : List Sl) : ∀ vs, (wipeA l vs).length = l.length
  | [] => rfl
  | v :: vs => by rw [wipeA, List.length_set, wipeA_length]
theorem restA_length (l0 l : List Sl) : ∀ vs, (restA l0 l vs).length = l.length
  | [] => rfl
  | v :: vs => by rw [restA, List.length_set, restA_length]
theorem wipeA_get : ∀ (vs : List Nat) (l : List Sl) (j : Nat), (wipeA l vs)[j]? = if j ∈ vs then l[j]?.map fun _ => .non else l[j]?
  | [], l, j => by simp [wipeA]
  | v :: vs, l, j => by
    unfold wipeA
    by_cases e : v = j
    · subst e
      rw [if_pos (by simp)]
      by_cases hl : v < l.length
      · rw [List.getElem?_set_self (by rw [wipeA_length]; exact hl), List.getElem?_eq_getElem hl]
        rfl
      · rw [List.getElem?_eq_none (by rw [List.length_set, wipeA_length]; omega), List.getElem?_eq_none (by omega)]
        rfl
    · rw [List.getElem?_set_ne e, wipeA_get vs l j]
      have : (j ∈ v :: vs) = (j ∈ vs) := by
        simp only [List.mem_cons, eq_iff_iff]
        exact ⟨fun z => z.elim (fun z => absurd z.symm e) id, .inr⟩
      simp only [this]
theorem restA_get : ∀ (vs : List Nat) (l0 l : List Sl) (j : Nat), (restA l0 l vs)[j]? = if j ∈ vs then l[j]?.map fun _ => l0.getD j .non else l[j]?
  | [], l0, l, j => by simp [restA]
  | v :: vs, l0, l, j => by
    unfold restA
    by_cases e : v = j
    · subst e
      rw [if_pos (by simp)]
      by_cases hl : v < l.length
      · rw [List.getElem?_set_self (by rw [restA_length]; exact hl), List.getElem?_eq_getElem hl]
        rfl
      · rw [List.getElem?_eq_none (by rw [List.length_set, restA_length]; omega), List.getElem?_eq_none (by omega)]
        rfl
    · rw [List.getElem?_set_ne e, restA_get vs l0 l j]
      have : (j ∈ v :: vs) = (j ∈ vs) := by
        simp only [List.mem_cons, eq_iff_iff]
        exact ⟨fun z => z.elim (fun z => absurd z.symm e) id, .inr⟩
      simp only [this]
section
variable {m mm : Bool} {c : Kc} {S T : Addr → Prop} {ρ ρ1 : List Addr} {a a1 : ASt} {σ : St} {H H1 : Hp} {W : WX}
theorem wipe_inv {vs : List Nat} {j : Nat} {s : Sl} (h : (a.wipe vs).sl[j]? = some s) (n : s ≠ .non) : j ∉ vs ∧ a.sl[j]? = some s := by
  have h' : (wipeA a.sl vs)[j]? = some s := h
  rw [wipeA_get] at h'
  by_cases hj : j ∈ vs
  · rw [if_pos hj] at h'
    cases q : a.sl[j]? with
    | none => rw [q] at h'; cases h'
    | some x => rw [q] at h'; cases h'; exact absurd rfl n
  · rw [if_neg hj] at h'
    exact ⟨hj, h'⟩
theorem ownA_wipe {vs : List Nat} {q : Addr} (h : OwnA (a.wipe vs) (wipe σ vs) q) : OwnA a σ q := by
  obtain ⟨j, ws, e1, e2⟩ := h
  obtain ⟨n1, e3⟩ := wipe_inv e1 (fun z => by cases z)
  rw [wipe_get, if_neg n1] at e2
  exact ⟨j, ws, e3, e2⟩
theorem Ext.wipe {vs : List Nat} : Ext m ρ a σ H ρ (a.wipe vs) (wipe σ vs) H :=
  ⟨List.prefix_refl _, fun q o h _ _ => h, fun q o h => ⟨o, h⟩, fun q xs h => h, fun q o u h => h, fun q z => .inl z, fun q z => .inl (ownA_wipe z)⟩
/-- slots are forgotten -/
theorem Rel.wipe (rel : Rel c S ρ a σ H) (vs : List Nat) : Rel c S ρ (a.wipe vs) (L2.wipe σ vs) H := by
  have hb : ∀ q o, H q = some o → Bad S ρ (a.wipe vs) (L2.wipe σ vs) q → Bad S ρ a σ q := (Ext.wipe (m := true) (ρ := ρ)).bad fun p z => z
  refine ⟨fun j w e1 => ?_, fun j ws e1 => ?_, fun j k us1 us2 p e1 e2 e3 e4 => ?_, rel.glen, fun n ob p e1 e2 => (rel.obj n ob p e1 e2).frame (List.prefix_refl _) Kp.refl hb rfl, rel.nd, rel.rs, rel.sall, ?_⟩
  · obtain ⟨n1, z⟩ := wipe_inv e1 (fun z => by cases z)
    obtain ⟨x, e2, r2⟩ := rel.val j w z
    exact ⟨x, by rw [wipe_get, if_neg n1]; exact e2, r2.bad hb⟩
  · obtain ⟨n1, z⟩ := wipe_inv e1 (fun z => by cases z)
    obtain ⟨p, xs, e2, e3, r2, n2, n3⟩ := rel.own j ws z
    exact ⟨p, xs, by rw [wipe_get, if_neg n1]; exact e2, e3, r2.bad hb, n2, n3⟩
  · obtain ⟨n1, z1⟩ := wipe_inv e1 (fun z => by cases z)
    obtain ⟨n2, z2⟩ := wipe_inv e2 (fun z => by cases z)
    rw [wipe_get, if_neg n1] at e3
    rw [wipe_get, if_neg n2] at e4
    exact rel.inj j k us1 us2 p z1 z2 e3 e4
  · show (wipeA a.sl vs).length = _
    rw [wipeA_length, wipe_length]
    exact rel.slen
/-- .. and had again -/
theorem Rel.rest {a0 : ASt} {ρ0 : List Addr} {H0 : Hp} {S0 : Addr → Prop} {vs : List Nat} (rel : Rel c S ρ a (L2.wipe σ vs) H) (rel0 : Rel c S0 ρ0 a0 σ H0) (x : Ext m ρ0 a0 σ H0 ρ a (L2.wipe σ vs) H) (hS : ∀ p, S p → S0 p ∨ H0 p = none)
    (pl : vs.all (fun v => (a0.sl.getD v .non).plain) = true) : Rel c S ρ (a.rest a0 vs) σ H ∧ ∀ q, OwnA (a.rest a0 vs) σ q → OwnA a (L2.wipe σ vs) q := by
  have sl : ∀ {j : Nat} {s : Sl}, (a.rest a0 vs).sl[j]? = some s → s ≠ .non → (j ∈ vs ∧ a0.sl[j]? = some s) ∨ (j ∉ vs ∧ a.sl[j]? = some s) := fun {j s} h n => by
    have h' : (restA a0.sl a.sl vs)[j]? = some s := h
    rw [restA_get] at h'
    by_cases hj : j ∈ vs
    · rw [if_pos hj] at h'
      cases q : a.sl[j]? with
      | none => rw [q] at h'; cases h'
      | some y =>
        rw [q] at h'
        have h2 : a0.sl.getD j .non = s := Option.some.inj h'
        refine .inl ⟨hj, ?_⟩
        rw [List.getD_eq_getElem?_getD] at h2
        cases q2 : a0.sl[j]? with
        | none => rw [q2] at h2; exact absurd h2.symm n
        | some z => rw [q2] at h2; exact congrArg some h2
    · rw [if_neg hj] at h'
      exact .inr ⟨hj, h'⟩
  have np : ∀ {j : Nat} {us : List U}, j ∈ vs → a0.sl[j]? = some (.own us) → False := fun {j us} hj e => by
    have h2 := List.all_eq_true.mp pl j hj
    rw [List.getD_eq_getElem?_getD, e] at h2
    cases h2
  have ow : ∀ q, OwnA (a.rest a0 vs) σ q → OwnA a (L2.wipe σ vs) q := fun q ⟨j, ws, e1, e2⟩ => by
    rcases sl e1 (fun z => by cases z) with ⟨hj, z⟩ | ⟨hj, z⟩
    · exact (np hj z).elim
    · exact ⟨j, ws, z, by rw [wipe_get, if_neg hj]; exact e2⟩
  have hb : ∀ q o, H q = some o → Bad S ρ (a.rest a0 vs) σ q → Bad S ρ a (L2.wipe σ vs) q := fun q o h z => by
    rcases z with z | z | z
    · exact .inl z
    · exact .inr (.inl z)
    · exact .inr (.inr (ow q z))
  refine ⟨⟨fun j w e1 => ?_, fun j ws e1 => ?_, fun j k us1 us2 p e1 e2 e3 e4 => ?_, rel.glen, fun n ob p e1 e2 => (rel.obj n ob p e1 e2).frame (List.prefix_refl _) Kp.refl hb rfl, rel.nd, rel.rs, rel.sall, ?_⟩, ow⟩
  · rcases sl e1 (fun z => by cases z) with ⟨hj, z⟩ | ⟨hj, z⟩
    · obtain ⟨y, e2, r2⟩ := rel0.val j w z
      exact ⟨y, e2, (x.repS hS r2).bad hb⟩
    · obtain ⟨y, e2, r2⟩ := rel.val j w z
      rw [wipe_get, if_neg hj] at e2
      exact ⟨y, e2, r2.bad hb⟩
  · rcases sl e1 (fun z => by cases z) with ⟨hj, z⟩ | ⟨hj, z⟩
    · exact (np hj z).elim
    · obtain ⟨p, xs, e2, e3, r2, n2, n3⟩ := rel.own j ws z
      rw [wipe_get, if_neg hj] at e2
      exact ⟨p, xs, e2, e3, r2.bad hb, n2, n3⟩
  · rcases sl e1 (fun z => by cases z) with ⟨hj, z1⟩ | ⟨hj, z1⟩
    · exact (np hj z1).elim
    · rcases sl e2 (fun z => by cases z) with ⟨hk, z2⟩ | ⟨hk, z2⟩
      · exact (np hk z2).elim
      · exact rel.inj j k us1 us2 p z1 z2 (by rw [wipe_get, if_neg hj]; exact e3) (by rw [wipe_get, if_neg hk]; exact e4)
  · show (restA a0.sl a.sl vs).length = _
    rw [restA_length, rel.slen, wipe_length]
end
end IL
end T_IL7
section T_IL8
set_option Elab.async false
set_option linter.all false
set_option maxRecDepth 100000
namespace IL
open PySem PySem.Spec L2
open PyProof.Rows hiding St
abbrev WF : WX := fun _ _ _ _ => False
section
variable {m mm : Bool} {c : Kc} {S T : Addr → Prop} {ρ ρ1 : List Addr} {a a1 : ASt} {σ : St} {H H1 : Hp} {W : WX}
theorem kp_updS {D : Addr} {xs ys : List V} (hD : S D) (h : H D = some (.lst xs)) : Kp (Bad S ρ a σ) H (upd H D (.lst ys)) :=
  ⟨fun q o e n => by rw [upd_ne (fun z => n (.inl (by rw [z]; exact hD)))]; exact e, fun q zs e => by rw [upd_ne (fun z => by rw [z, h] at e; cases e)]; exact e, fun q o u e => by rw [upd_ne (fun z => by rw [z, h] at e; cases e)]; exact e⟩
/-- a list that nobody looks at is changed -/
theorem Rel.updS (rel : Rel c S ρ a σ H) {D : Addr} {xs ys : List V} (hD : S D) (h : H D = some (.lst xs)) : Rel c S ρ a σ (upd H D (.lst ys)) := by
  have k : Kp (Bad S ρ a σ) H (upd H D (.lst ys)) := kp_updS hD h
  refine ⟨fun i u e => ?_, fun i us e => ?_, rel.inj, rel.glen, fun n ob p e1 e2 => ?_, rel.nd, rel.rs, fun p z => ?_, rel.slen⟩
  · obtain ⟨v, e1, r⟩ := rel.val i u e
    exact ⟨v, e1, r.frame (List.prefix_refl _) k fun _ _ _ z => z⟩
  · obtain ⟨p, vs, e1, e2, r, n1, n2⟩ := rel.own i us e
    exact ⟨p, vs, e1, by rw [upd_ne (fun z => n2 (by rw [z]; exact hD))]; exact e2, r.frame (List.prefix_refl _) k fun _ _ _ z => z, n1, n2⟩
  · have npD : p ≠ D := fun z => by
      have hp : p ∈ ρ := List.mem_of_getElem? e2
      exact rel.rs p hp (by rw [z]; exact hD)
    exact (rel.obj n ob p e1 e2).frame (List.prefix_refl _) k (fun _ _ _ z => z) (upd_ne npD)
  · by_cases e : p = D
    · exact ⟨_, by rw [e, upd_same]⟩
    · obtain ⟨o, ho⟩ := rel.sall p z
      exact ⟨o, by rw [upd_ne e]; exact ho⟩
theorem wipe_wipe (σ : St) (vs : List Nat) : L2.wipe (L2.wipe σ vs) vs = L2.wipe σ vs := by
  apply List.ext_getElem?
  intro j
  rw [wipe_get, wipe_get]
  by_cases hj : j ∈ vs
  · rw [if_pos hj, if_pos hj]
    cases σ[j]? <;> rfl
  · rw [if_neg hj, if_neg hj]
theorem tLc_of {t : Tg} {vs : List Nat} {it : IT} {ct el : ES} {Q : VK} (hv : ∀ i ∈ t.slots, i ∈ vs) (h : tI c false W (iComp t vs it ct el) σ H Q) :
    tLc (tIt c false false W it) (gOf c.K t) (fun σ H Q => tI c false WF ct σ H fun x H1 => ∃ k, x = .bl k ∧ Q k H1) (tI c false WF el) vs σ H Q := by
  obtain ⟨S, ρ, a, rel, h⟩ := h
  refine ⟨S, ρ, a, rel, ?_⟩
  unfold iComp at h
  cases hI : it a with
  | bad => rw [hI] at h; exact h
  | exc e a1 => rw [hI] at h; exact h
  | ok us a1 =>
    rw [hI] at h
    simp only at h
    intro J ρ1 H1 e1 rel1 hit hlen D nD
    cases hp : vs.all (fun v => (a1.sl.getD v .non).plain) with
    | false => rw [hp] at h; exact h.elim
    | true =>
    rw [hp] at h
    simp only [if_true] at h
    cases hgo : compGo t vs ct el us (a1.wipe vs) [] with
    | none => rw [hgo] at h; exact h.elim
    | some q =>
    obtain ⟨accF, aF⟩ := q
    rw [hgo] at h
    simp only at h
    have nSD : ¬ S D := fun z => by
      obtain ⟨o, ho⟩ := rel1.sall D z
      rw [nD] at ho
      cases ho
    refine ⟨fun i k H2 => k = us.length - i ∧ i ≤ us.length ∧ ∃ (ρ2 : List Addr) (aw : ASt) (acc : List U) (accV : List V), Ext false ρ1 a1 σ H1 ρ2 aw (L2.wipe σ vs) H2 ∧ Rel c (orS S fun q => q = D) ρ2 aw (L2.wipe σ vs) H2 ∧ H2 D = some (.lst accV) ∧
      RepL c ρ2 H2 (Bad (orS S fun q => q = D) ρ2 aw (L2.wipe σ vs)) acc accV ∧ accV.length ≤ i ∧ compGo t vs ct el (us.drop i) aw acc = some (accF, aF), ⟨us.length, by omega, Nat.zero_le _, ρ1, a1.wipe vs, [], [], (Ext.new nD).trans Ext.wipe, (rel1.new nD).wipe vs, upd_same, .nil, Nat.le_refl _, hgo⟩, ?_⟩
    rintro i k H2 ⟨rfl, hi, ρ2, aw, acc, accV, x2, rel2, hD, rl, hal, hc⟩
    have hS2 : ∀ p, orS S (fun q => q = D) p → S p ∨ H1 p = none := fun p z => z.elim .inl fun z => .inr (by rw [z]; exact nD)
    have q2 := hit _ ρ2 aw (L2.wipe σ vs) H2 x2 hS2 rel2
    have nρD : D ∉ ρ2 := fun z => rel2.rs D z (.inr rfl)
    by_cases hlt : i < us.length
    · have hu : us[i]? = some us[i] := List.getElem?_eq_getElem hlt
      obtain ⟨hgo2, hy⟩ := q2.2 i us[i] hu
      refine .inr ⟨hgo2, fun H' => us.length - (i + 1) = us.length - (i + 1) ∧ i + 1 ≤ us.length ∧ ∃ (ρ2 : List Addr) (aw : ASt) (acc : List U) (accV : List V), Ext false ρ1 a1 σ H1 ρ2 aw (L2.wipe σ vs) H' ∧ Rel c (orS S fun q => q = D) ρ2 aw (L2.wipe σ vs) H' ∧ H' D = some (.lst accV) ∧
        RepL c ρ2 H' (Bad (orS S fun q => q = D) ρ2 aw (L2.wipe σ vs)) acc accV ∧ accV.length ≤ i + 1 ∧ compGo t vs ct el (us.drop (i + 1)) aw acc = some (accF, aF), fun H' w => ⟨us.length - (i + 1), by omega, w⟩, fun x H3 y => ?_⟩
      obtain ⟨x3, rel3, r3, hk3⟩ := hy x H3 y
      rw [List.drop_eq_getElem_cons hlt] at hc
      unfold compGo at hc
      split at hc
      · cases hc
      · rename_i a2 hb
        refine bind_ok (m := false) t rel3 r3 hb fun σ2 rel4 w4 x4 => ?_
        have ew : L2.wipe σ2 vs = L2.wipe σ vs := (w4 vs hv).trans (wipe_wipe σ vs)
        refine ⟨ew, _, ρ2, a2, rel4, ?_⟩
        split at hc
        · rename_i r a3 hct
          rw [hct]
          intro v ρ5 H5 e5 rel5 rr5 hn5
          have rel5' : Rel c (orS S fun q => q = D) ρ5 a3 σ2 H5 := rel5.sub fun p z => .inl z
          have x5 : Ext false ρ2 aw (L2.wipe σ vs) H2 ρ5 a3 σ2 H5 := (x3.trans x4).trans e5
          split at hc
          · rename_i hbl
            obtain ⟨_, rfl⟩ := bl_of rr5 hbl
            refine ⟨true, rfl, ?_⟩
            show (if true = true then _ else _)
            rw [if_pos rfl]
            refine ⟨_, ρ5, a3, rel5', ?_⟩
            split at hc
            · rename_i r4 a4 hel
              rw [hel]
              intro yv ρ6 H6 e6 rel6 rr6 hn6
              split at hc
              · rename_i w a5 hst
                obtain ⟨rel7, r7, x7⟩ := settle_rep (m := false) rel6 rr6 hst
                have x6 : Ext false ρ2 aw (L2.wipe σ vs) H2 ρ6 a5 σ2 H6 := (x5.trans e6).trans x7
                have hD6 : H6 D = some (.lst accV) := x6.keep D _ hD nρD fun z => by cases z
                have sD : orS S (fun q => q = D) D := .inr rfl
                have k8 : Kp (Bad (orS S fun q => q = D) ρ6 a5 σ2) H6 (upd H6 D (.lst (accV ++ [yv]))) := kp_updS sD hD6
                refine ⟨accV, hD6, by omega, rfl, hlt, ρ6, a5.wipe vs, acc ++ [w], accV ++ [yv], ?_, ?_, upd_same, ?_, by rw [List.length_append]; simp; omega, hc⟩
                · have x9 : Ext false ρ1 a1 σ H1 ρ6 (a5.wipe vs) (L2.wipe σ2 vs) H6 := (x2.trans x6).trans Ext.wipe
                  rw [ew] at x9
                  have nq : ∀ q o, H1 q = some o → q ≠ D := fun q o e => ne_of_none e nD
                  refine ⟨x9.pre, fun q o e n1 n2 => by rw [upd_ne (nq q o e)]; exact x9.keep q o e n1 n2, fun q o e => ?_, fun q zs e => by rw [upd_ne (nq q _ e)]; exact x9.tup q zs e, fun q o u e => by rw [upd_ne (nq q _ e)]; exact x9.frz q o u e, x9.fr, x9.frO⟩
                  obtain ⟨o', ho'⟩ := x9.there q o e
                  exact ⟨o', by rw [upd_ne (nq q o e)]; exact ho'⟩
                · have q := (rel7.updS (ys := accV ++ [yv]) sD hD6).wipe vs
                  rw [ew] at q
                  exact q
                · have b9 : ∀ q o, H6 q = some o → Bad (orS S fun q => q = D) ρ6 (a5.wipe vs) (L2.wipe σ vs) q → Bad (orS S fun q => q = D) ρ6 a5 σ2 q := by
                    rw [← ew]
                    exact (Ext.wipe (m := true) (ρ := ρ6)).bad fun p z => z
                  refine RepL.append ?_ (.cons (r7.frame (List.prefix_refl _) k8 b9) .nil)
                  exact (x6.repL (fun p z => z) rl).frame (List.prefix_refl _) k8 b9
              · cases hc
            · cases hc
          · rename_i hbl
            obtain ⟨_, rfl⟩ := bl_of rr5 hbl
            refine ⟨false, rfl, ?_⟩
            show (if false = true then _ else _)
            rw [if_neg Bool.false_ne_true]
            have hD5 : H5 D = some (.lst accV) := x5.keep D _ hD nρD fun z => by cases z
            have x9 : Ext false ρ1 a1 σ H1 ρ5 (a3.wipe vs) (L2.wipe σ2 vs) H5 := (x2.trans x5).trans Ext.wipe
            have q := rel5'.wipe vs
            have b9 : ∀ q o, H5 q = some o → Bad (orS S fun q => q = D) ρ5 (a3.wipe vs) (L2.wipe σ2 vs) q → Bad (orS S fun q => q = D) ρ5 a3 σ2 q := (Ext.wipe (m := true) (ρ := ρ5)).bad fun p z => z
            rw [ew] at x9 q b9
            exact ⟨rfl, hlt, ρ5, a3.wipe vs, acc, accV, x9, q, hD5, (x5.repL (fun p z => z) rl).bad b9, by omega, hc⟩
          · cases hc
        · cases hc
    · have ei : i = us.length := by omega
      subst ei
      rw [List.drop_length] at hc
      cases hc
      refine .inl ⟨q2.1, ?_⟩
      obtain ⟨relR, ow⟩ := rel2.rest rel1 x2 hS2 hp
      have xR : Ext false ρ1 a1 σ H1 ρ2 (aF.rest a1 vs) σ H2 := ⟨x2.pre, x2.keep, x2.there, x2.tup, x2.frz, x2.fr, fun q z => x2.frO q (ow q z)⟩
      have hb : ∀ q o, H2 q = some o → Bad (orS S fun q => q = D) ρ2 (aF.rest a1 vs) σ q → Bad (orS S fun q => q = D) ρ2 aF (L2.wipe σ vs) q := fun q o e z => by
        rcases z with z | z | z
        · exact .inl z
        · exact .inr (.inl z)
        · exact .inr (.inr (ow q z))
      refine h (.ref D) ρ2 H2 (e1.trans xR) relR ⟨D, accV, rfl, hD, rl.bad hb, fun z => ?_⟩ fun q z => ?_
      · rcases z with z | z | z
        · exact nSD z
        · exact nρD z
        · obtain ⟨j, ws, e3, e4⟩ := ow D z
          obtain ⟨p, xs, e5, _, _, _, n⟩ := rel2.own j ws e3
          rw [e4] at e5
          cases e5
          exact n (.inr rfl)
      · cases z
        exact e1.was nD
end
section
variable {X : Cx} {W : WX} {elt tg iter tst : Expr} {scope : Scope} {own : List (Str × Nat)} {pos : Pos} {t : Tg} {it : IT} {ct el : ES}
theorem pts_none {X : Cx} : PTs X [] (fun σ H Q => tI (kc X) false WF (iC (.bl true)) σ H fun x H1 => ∃ k, x = .bl k ∧ Q k H1) := ⟨fun pins s σ H Q IV q => pts_nil.run pins s σ H Q IV (by
  obtain ⟨k, e, q⟩ := tI_C (fun _ _ => .bl true) q
  cases e
  exact q)⟩
/-- [e for t in it] -/
theorem pei_lc (hc : X.calm = true) (hN : X.N.Nodup) (hi : PII X false false W tg iter it) (ok : BlkOk X.N X.env.scope scope own)
    (hg : ∀ (s : Shared) (H : Hp) (C : Addr) (cl : List (Str × Addr)) (fp : List Addr), PG (X.blk s H scope (compEnvC scope cl C X.env) fp) tg (gOf X.K t))
    (he : ∀ (s : Shared) (H : Hp) (C : Addr) (cl : List (Str × Addr)) (fp : List Addr), PEI (X.blk s H scope (compEnvC scope cl C X.env) fp) false WF elt el)
    (hv : ∀ i ∈ t.slots, i ∈ own.map (·.2) := by decide) (hs : ∀ x, foldedSetIterable iter X.env x = pure x := by intro _; rfl) :
    PEI X false W (.ListComp elt [⟨tg, iter, [], 0⟩] scope pos) (iComp t (own.map (·.2)) it (iC (.bl true)) el) :=
  (pe_lc (pos := pos) hc hN hi ok hg (fun _ _ _ _ _ => pts_none) he hs).weak fun σ H Q q => tLc_of hv q
/-- [e for t in it if c] -/
theorem pei_lci (hc : X.calm = true) (hN : X.N.Nodup) (hi : PII X false false W tg iter it) (ok : BlkOk X.N X.env.scope scope own)
    (hg : ∀ (s : Shared) (H : Hp) (C : Addr) (cl : List (Str × Addr)) (fp : List Addr), PG (X.blk s H scope (compEnvC scope cl C X.env) fp) tg (gOf X.K t))
    (ht : ∀ (s : Shared) (H : Hp) (C : Addr) (cl : List (Str × Addr)) (fp : List Addr), PTI (X.blk s H scope (compEnvC scope cl C X.env) fp) false WF tst ct)
    (he : ∀ (s : Shared) (H : Hp) (C : Addr) (cl : List (Str × Addr)) (fp : List Addr), PEI (X.blk s H scope (compEnvC scope cl C X.env) fp) false WF elt el)
    (hv : ∀ i ∈ t.slots, i ∈ own.map (·.2) := by decide) (hs : ∀ x, foldedSetIterable iter X.env x = pure x := by intro _; rfl) :
    PEI X false W (.ListComp elt [⟨tg, iter, [tst], 0⟩] scope pos) (iComp t (own.map (·.2)) it ct el) :=
  (pe_lc (pos := pos) hc hN hi ok hg (fun s H C cl fp => pts_one (ht s H C cl fp)) he hs).weak fun σ H Q q => tLc_of hv q
/-- what holds of an expression that stores nothing holds in the wider mode -/
theorem Ext.up {m : Bool} {ρ ρ' : List Addr} {a a' : ASt} {σ σ' : St} {H H' : Hp} (x : Ext false ρ a σ H ρ' a' σ' H') : Ext m ρ a σ H ρ' a' σ' H' :=
  ⟨x.pre, fun q o e n _ => x.keep q o e n (fun z => by cases z), x.there, x.tup, x.frz, x.fr, x.frO⟩
theorem pei_up {m : Bool} {e : Expr} {I : ES} (h : PEI X false W e I) : PEI X m W e I := h.weak fun σ H Q q => by
  obtain ⟨S, ρ, a, rel, q⟩ := q
  refine ⟨S, ρ, a, rel, ?_⟩
  cases hI : I a with
  | bad => rw [hI] at q; exact q
  | exc e a1 => rw [hI] at q; exact fun cls d ρ' H' x => q cls d ρ' H' x.up
  | ok r a1 => rw [hI] at q; exact fun v ρ' H' x => q v ρ' H' x.up
end
end IL
end T_IL8
section T_IL9
set_option Elab.async false
set_option linter.all false
set_option maxRecDepth 100000
namespace IL
open PySem PySem.Spec L2
open PyProof.Rows hiding St

/-! ### more changes of a state -/
section
variable {m mm : Bool} {c : Kc} {S T : Addr → Prop} {ρ ρ1 : List Addr} {a a1 : ASt} {σ : St} {H H1 : Hp} {W : WX}
theorem ownA_setO {i : Nat} {us : List U} {p q : Addr} (h : OwnA (a.set i (.own us)) (σ.set i (some (.ref p))) q) : q = p ∨ OwnA a σ q := by
  obtain ⟨j, ws, e1, e2⟩ := h
  rcases set_get e1 with ⟨z, _, _⟩ | ⟨ne, z⟩
  · rcases setσ_get e2 with ⟨_, z2⟩ | ⟨z2, _⟩
    · cases z2; exact .inl rfl
    · exact absurd z z2
  · rcases setσ_get e2 with ⟨z2, _⟩ | ⟨_, z2⟩
    · exact absurd z2 ne
    · exact .inr ⟨j, ws, z, z2⟩
/-- a slot gets a new list of its own -/
theorem Rel.setO {p : Addr} {vs : List V} {us : List U} (rel : Rel c (orS S fun q => q = p) ρ a σ H) {i : Nat} (hp : H p = some (.lst vs)) (r : RepL c ρ H (Bad (orS S fun q => q = p) ρ a σ) us vs) (n : ¬ Bad S ρ a σ p) : Rel c S ρ (a.set i (.own us)) (σ.set i (some (.ref p))) H := by
  have hb : ∀ q o, H q = some o → Bad S ρ (a.set i (.own us)) (σ.set i (some (.ref p))) q → Bad (orS S fun q => q = p) ρ a σ q := fun q o h z => by
    rcases z with z | z | z
    · exact .inl (.inl z)
    · exact .inr (.inl z)
    · rcases ownA_setO z with z | z
      · exact .inl (.inr z)
      · exact .inr (.inr z)
  refine ⟨fun j w e1 => ?_, fun j ws e1 => ?_, fun j k us1 us2 q e1 e2 e3 e4 => ?_, rel.glen, fun n ob q e1 e2 => (rel.obj n ob q e1 e2).frame (List.prefix_refl _) Kp.refl hb rfl, rel.nd, fun q hq z => rel.rs q hq (.inl z), fun q z => rel.sall q (.inl z), ?_⟩
  · rcases set_get e1 with ⟨_, z, _⟩ | ⟨ne, z⟩
    · cases z
    · obtain ⟨x, e2, r2⟩ := rel.val j w z
      exact ⟨x, by rw [List.getElem?_set_ne (Ne.symm ne)]; exact e2, r2.bad hb⟩
  · rcases set_get e1 with ⟨rfl, z, hl⟩ | ⟨ne, z⟩
    · cases z
      exact ⟨p, vs, List.getElem?_set_self (by rw [← rel.slen]; exact hl), hp, r.bad hb, fun z => n (.inr (.inl z)), fun z => n (.inl z)⟩
    · obtain ⟨q, xs, e2, e3, r2, n1, n2⟩ := rel.own j ws z
      exact ⟨q, xs, by rw [List.getElem?_set_ne (Ne.symm ne)]; exact e2, e3, r2.bad hb, n1, fun z => n2 (.inl z)⟩
  · rcases set_get e1 with ⟨rfl, _, _⟩ | ⟨ne, z⟩
    · rcases set_get e2 with ⟨z2, _, _⟩ | ⟨ne2, z2⟩
      · exact z2.symm
      · rcases setσ_get e3 with ⟨_, z3⟩ | ⟨z3, _⟩
        · cases z3
          rw [List.getElem?_set_ne (Ne.symm ne2)] at e4
          exact (n (.inr (.inr ⟨k, us2, z2, e4⟩))).elim
        · exact absurd rfl z3
    · rcases set_get e2 with ⟨rfl, _, _⟩ | ⟨ne2, z2⟩
      · rcases setσ_get e4 with ⟨_, z3⟩ | ⟨z3, _⟩
        · cases z3
          rw [List.getElem?_set_ne (Ne.symm ne)] at e3
          exact (n (.inr (.inr ⟨j, us1, z, e3⟩))).elim
        · exact absurd rfl z3
      · rw [List.getElem?_set_ne (Ne.symm ne)] at e3
        rw [List.getElem?_set_ne (Ne.symm ne2)] at e4
        exact rel.inj j k us1 us2 q z z2 e3 e4
  · rw [show (a.set i (.own us)).sl = a.sl.set i (.own us) from rfl, List.length_set, List.length_set]
    exact rel.slen
end
end IL
end T_IL9
section T_IL10
set_option Elab.async false
set_option linter.all false
set_option maxRecDepth 100000
namespace IL
open PySem PySem.Spec L2
open PyProof.Rows hiding St

/-! ### outcomes of statements -/
def g0 (G : List Ob) : ASt := ⟨[], G⟩
def DoneS (c : Kc) (S : Addr → Prop) (ρ : List Addr) (a : ASt) (σ : St) (H : Hp) (o : OutS) (D : Ends) (W : WX) : Prop := match o with
  | .bad => False
  | .nx a' => ∀ σ' ρ' H', Ext true ρ a σ H ρ' a' σ' H' → Rel c S ρ' a' σ' H' → D.nx σ' H'
  | .bk a' => ∀ σ' ρ' H', Ext true ρ a σ H ρ' a' σ' H' → Rel c S ρ' a' σ' H' → D.bk σ' H'
  | .ct a' => ∀ σ' ρ' H', Ext true ρ a σ H ρ' a' σ' H' → Rel c S ρ' a' σ' H' → D.ct σ' H'
  | .rt r G => ∀ v ρ' H', Ext true ρ a σ H ρ' (g0 G) [] H' → Rel c (orS S (fp r v)) ρ' (g0 G) [] H' → RepR c S ρ' (g0 G) [] H' r v → (∀ q, fp r v q → H q = none ∨ OwnA a σ q) → D.rt v H'
  | .exc e a' => ∀ cls d σ' ρ' H', Ext true ρ a σ H ρ' a' σ' H' → Rel c S ρ' a' σ' H' → XRep c ρ' H' (Bad S ρ' a' σ') e cls d → W cls d σ' H'
def tSI (c : Kc) (W : WX) (I : SS) : TS := fun D σ H => ∃ S ρ a, Rel c S ρ a σ H ∧ DoneS c S ρ a σ H (I a) D W
abbrev PSI (X : Cx) (W : WX) (st : Stmt) (I : SS) : Prop := PS X st (tSI (kc X) W I)
abbrev PSSI (X : Cx) (W : WX) (st : List Stmt) (I : SS) : Prop := PSs X st (tSI (kc X) W I)
theorem _root_.L2.PS.weak {X : Cx} {e : Stmt} {t t' : TS} (h : PS X e t) (w : ∀ D σ H, t' D σ H → t D σ H) : PS X e t' := ⟨fun pins s σ H D I q => h.run pins s σ H D I (w D σ H q)⟩
theorem _root_.L2.PSs.weak {X : Cx} {e : List Stmt} {t t' : TS} (h : PSs X e t) (w : ∀ D σ H, t' D σ H → t D σ H) : PSs X e t' := ⟨fun pins s σ H D I q => h.run pins s σ H D I (w D σ H q)⟩
section
variable {m mm : Bool} {c : Kc} {S T : Addr → Prop} {ρ ρ1 : List Addr} {a a1 : ASt} {σ σ1 : St} {H H1 : Hp} {W : WX}
/-- seen from a later state -/
theorem DoneS.after {o : OutS} {D : Ends} (e : Ext true ρ a σ H ρ1 a1 σ1 H1) (h : DoneS c S ρ a σ H o D W) : DoneS c S ρ1 a1 σ1 H1 o D W := by
  cases o with
  | bad => exact h
  | nx a' => exact fun σ' ρ' H' x => h σ' ρ' H' (e.trans x)
  | bk a' => exact fun σ' ρ' H' x => h σ' ρ' H' (e.trans x)
  | ct a' => exact fun σ' ρ' H' x => h σ' ρ' H' (e.trans x)
  | rt r G => exact fun v ρ' H' x rel rr hn => h v ρ' H' (e.trans x) rel rr fun q z => (hn q z).elim (fun z => .inl (e.was z)) fun z => (e.frO q z).elim .inr .inl
  | exc ex a' => exact fun cls d σ' ρ' H' x => h cls d σ' ρ' H' (e.trans x)
theorem DoneS.mono {o : OutS} {D D' : Ends} (h : DoneS c S ρ a σ H o D W) (h1 : ∀ σ H, D.nx σ H → D'.nx σ H) (h2 : ∀ v H, D.rt v H → D'.rt v H) (h3 : ∀ σ H, D.bk σ H → D'.bk σ H) (h4 : ∀ σ H, D.ct σ H → D'.ct σ H) : DoneS c S ρ a σ H o D' W := by
  cases o with
  | bad => exact h
  | nx a' => exact fun σ' ρ' H' x r => h1 _ _ (h σ' ρ' H' x r)
  | bk a' => exact fun σ' ρ' H' x r => h3 _ _ (h σ' ρ' H' x r)
  | ct a' => exact fun σ' ρ' H' x r => h4 _ _ (h σ' ρ' H' x r)
  | rt r G => exact fun v ρ' H' x rel rr hn => h2 _ _ (h v ρ' H' x rel rr hn)
  | exc ex a' => exact h
/-- an expression, then what is done with its result -/
theorem tI_bindS {I : ES} {f : R → ASt → OutS} {D : Ends} (h : tSI c W (fun a => (I a).bindS f) D σ H) :
    tI c true W I σ H (fun v H1 => ∃ S ρ1 a1 r, Rel c (orS S (fp r v)) ρ1 a1 σ H1 ∧ RepR c S ρ1 a1 σ H1 r v ∧ DoneS c S ρ1 a1 σ H1 (f r a1) D W ∧ ∃ ρ a H, Ext true ρ a σ H ρ1 a1 σ H1 ∧ (∀ q, fp r v q → H q = none) ∧ DoneS c S ρ a σ H (f r a1) D W) := by
  obtain ⟨S, ρ, a, rel, h⟩ := h
  refine ⟨S, ρ, a, rel, ?_⟩
  have h : DoneS c S ρ a σ H ((I a).bindS f) D W := h
  cases hI : I a with
  | bad => rw [hI] at h; exact h
  | exc e a1 => rw [hI] at h; exact fun cls d ρ' H' x r xr => h cls d σ ρ' H' x r xr
  | ok r a1 =>
    rw [hI] at h
    exact fun v ρ' H' x rel rr hn => ⟨S, ρ', a1, r, rel, rr, DoneS.after x h, ρ, a, H, x, hn, h⟩
end
/-! ### blocks -/
def iNil : SS := fun a => .nx a
def iSq (I J : SS) : SS := fun a => match I a with
  | .nx a1 => J a1
  | o => o
def iDrop (I : ES) : SS := fun a => (I a).bindS fun _ a1 => .nx a1
def R.ret (a : ASt) : R → Option R
  | .slot i => match a.sl[i]? with
    | some (.own us) => some (.own us)
    | some (.val u) => some (.val u)
    | _ => none
  | r => some r
def iRet (I : ES) : SS := fun a => (I a).bindS fun r a1 => match r.ret a1 with
  | some r' => .rt r' a1.G
  | none => .bad
def iIfS (I : ES) (J L : SS) : SS := fun a => (I a).bindS fun r a1 => match r.bl? with
  | some true => J a1
  | some false => L a1
  | none => .bad
section
variable {m mm : Bool} {c : Kc} {S T : Addr → Prop} {ρ ρ1 : List Addr} {a a1 : ASt} {σ σ1 : St} {H H1 : Hp} {W : WX}
/-- the frame's slots are left -/
theorem Rel.leave (rel : Rel c S ρ a σ H) : Rel c S ρ (g0 a.G) [] H ∧ Ext true ρ a σ H ρ (g0 a.G) [] H := by
  have ow : ∀ q, ¬ OwnA (g0 a.G) [] q := fun q ⟨i, us, e, _⟩ => by
    have e' : ([] : List Sl)[i]? = some (.own us) := e
    simp at e'
  have hb : ∀ q o, H q = some o → Bad S ρ (g0 a.G) [] q → Bad S ρ a σ q := fun q o h z => by
    rcases z with z | z | z
    · exact .inl z
    · exact .inr (.inl z)
    · exact (ow q z).elim
  refine ⟨⟨fun i u e => ?_, fun i us e => ?_, fun i j us ws p e => ?_, rel.glen, fun n ob p e1 e2 => (rel.obj n ob p e1 e2).frame (List.prefix_refl _) Kp.refl hb rfl, rel.nd, rel.rs, rel.sall, rfl⟩, ⟨List.prefix_refl _, fun q o h _ _ => h, fun q o h => ⟨o, h⟩, fun q xs h => h, fun q o u h => h, fun q z => .inl z, fun q z => (ow q z).elim⟩⟩
  · have e' : ([] : List Sl)[i]? = some (.val u) := e
    simp at e'
  · have e' : ([] : List Sl)[i]? = some (.own us) := e
    simp at e'
  · have e' : ([] : List Sl)[i]? = some (.own us) := e
    simp at e'
/-- a slot's own list is handed back -/
theorem Rel.leaveO (rel : Rel c S ρ a σ H) {i : Nat} {us : List U} {p : Addr} (e : a.sl[i]? = some (.own us)) (ep : σ[i]? = some (some (.ref p))) : Rel c (orS S fun q => q = p) ρ (g0 a.G) [] H ∧ RepR c S ρ (g0 a.G) [] H (.own us) (.ref p) := by
  obtain ⟨p', vs, e1, e2, r, n1, n2⟩ := rel.own i us e
  rw [ep] at e1
  cases e1
  have ow : ∀ q, ¬ OwnA (g0 a.G) [] q := fun q ⟨i, us, e, _⟩ => by
    have e' : ([] : List Sl)[i]? = some (.own us) := e
    simp at e'
  have hb : ∀ q o, H q = some o → Bad (orS S fun q => q = p) ρ (g0 a.G) [] q → Bad S ρ a σ q := fun q o h z => by
    rcases z with (z | z) | z | z
    · exact .inl z
    · exact .inr (.inr ⟨i, us, e, by rw [z]; exact ep⟩)
    · exact .inr (.inl z)
    · exact (ow q z).elim
  refine ⟨⟨fun i u e => ?_, fun i us e => ?_, fun i j us ws p e => ?_, rel.glen, fun n ob p e1 e2 => (rel.obj n ob p e1 e2).frame (List.prefix_refl _) Kp.refl hb rfl, rel.nd, fun q hq z => z.elim (rel.rs q hq) (fun z => n1 (by rw [← show q = p from z]; exact hq)), fun q z => z.elim (rel.sall q) (fun z => ⟨.lst vs, by rw [show q = p from z]; exact e2⟩), rfl⟩, ⟨p, vs, rfl, e2, r.bad hb, fun z => ?_⟩⟩
  · have e' : ([] : List Sl)[i]? = some (.val u) := e
    simp at e'
  · have e' : ([] : List Sl)[i]? = some (.own us) := e
    simp at e'
  · have e' : ([] : List Sl)[i]? = some (.own us) := e
    simp at e'
  · rcases z with z | z | z
    · exact n2 z
    · exact n1 z
    · exact ow p z
end
section
variable {X : Cx} {W : WX} {e e1 e2 tg iter c : Expr} {st : Stmt} {sts body a b : List Stmt} {I J L : ES} {K M N : SS} {pos : Pos}
theorem pssi_nil : PSSI X W [] iNil := pss_nil.weak fun D σ H q => by
  obtain ⟨S, ρ, a, rel, q⟩ := q
  exact q σ ρ H Ext.refl rel
theorem pssi_cons (h : PSI X W st K) (h2 : PSSI X W sts M) : PSSI X W (st :: sts) (iSq K M) := (pss_cons h h2).weak fun D σ H q => by
  obtain ⟨S, ρ, a, rel, q⟩ := q
  refine ⟨S, ρ, a, rel, ?_⟩
  unfold iSq at q
  cases hK : K a with
  | nx a1 => rw [hK] at q; exact fun σ' ρ' H' x rel' => ⟨S, ρ', a1, rel', DoneS.after x q⟩
  | bad => rw [hK] at q; exact q
  | rt r G => rw [hK] at q; exact q
  | bk a1 => rw [hK] at q; exact q
  | ct a1 => rw [hK] at q; exact q
  | exc e a1 => rw [hK] at q; exact q
theorem pssi_one (h : PSI X W st K) : PSSI X W [st] K := pss_one h
theorem psi_stop : PSI X W st (fun _ => .bad) := ⟨fun _ _ _ _ _ _ ⟨_, _, _, _, h⟩ => h.elim⟩
theorem psi_pass : PSI X W (.Pass pos) iNil := ps_pass.weak fun D σ H q => by
  obtain ⟨S, ρ, a, rel, q⟩ := q
  exact q σ ρ H Ext.refl rel
theorem psi_brk : PSI X W (.Break pos) (fun a => .bk a) := ps_break.weak fun D σ H q => by
  obtain ⟨S, ρ, a, rel, q⟩ := q
  exact q σ ρ H Ext.refl rel
theorem psi_cont : PSI X W (.Continue pos) (fun a => .ct a) := ps_continue.weak fun D σ H q => by
  obtain ⟨S, ρ, a, rel, q⟩ := q
  exact q σ ρ H Ext.refl rel
theorem psi_expr (h : PEI X true W e I) (hs : swapsWith e none pos.line X.env = pure false := by rfl) : PSI X W (.Expr e pos) (iDrop I) := (ps_expr h hs).weak fun D σ H q => by
  obtain ⟨S, ρ, a, rel, q⟩ := tI_bindS q
  refine ⟨S, ρ, a, rel, q.mono fun v H1 => ?_⟩
  rintro ⟨S, ρ1, a1, r, rel1, rr, k, _⟩
  exact k σ ρ1 H1 Ext.refl (rel1.sub fun p z => .inl z)
theorem ret_fp {S : Addr → Prop} {ρ : List Addr} {σ : St} {H : Hp} {c : Kc} {a : ASt} {r r' : R} {v : V} (rel : Rel c (orS S (fp r v)) ρ a σ H) (rr : RepR c S ρ a σ H r v) (e : r.ret a = some r') :
    Rel c (orS S (fp r' v)) ρ (g0 a.G) [] H ∧ RepR c S ρ (g0 a.G) [] H r' v ∧ ∀ q, fp r' v q → fp r v q ∨ OwnA a σ q := by
  have relS : Rel c S ρ a σ H := rel.sub fun p z => .inl z
  have gen : ∀ (r : R), Rel c (orS S (fp r v)) ρ a σ H → RepR c S ρ a σ H r v → (∀ i, r ≠ .slot i) → Rel c (orS S (fp r v)) ρ (g0 a.G) [] H ∧ RepR c S ρ (g0 a.G) [] H r v := fun r rel rr ns => by
    obtain ⟨l1, x1⟩ := rel.leave
    refine ⟨l1, ?_⟩
    cases r with
    | slot i => exact absurd rfl (ns i)
    | val u =>
      have rr' : Rep c ρ H (Bad S ρ a σ) u v := rr
      exact rr'.frame (B' := Bad S ρ (g0 a.G) []) (List.prefix_refl _) Kp.refl fun q o h z => by
        rcases z with z | z | ⟨i, us, z, _⟩
        · exact .inl z
        · exact .inr (.inl z)
        · have z' : ([] : List Sl)[i]? = some (.own us) := z
          simp at z'
    | own us =>
      obtain ⟨p, vs, rfl, e1, r, n⟩ := rr
      have hb : ∀ (T : Addr → Prop) q o, H q = some o → Bad T ρ (g0 a.G) [] q → Bad T ρ a σ q := fun T q o h z => by
        rcases z with z | z | ⟨i, us, z, _⟩
        · exact .inl z
        · exact .inr (.inl z)
        · have z' : ([] : List Sl)[i]? = some (.own us) := z
          simp at z'
      exact ⟨p, vs, rfl, e1, r.bad (hb _), fun z => n (hb _ p _ e1 z)⟩
    | dic ks us =>
      obtain ⟨p, kvs, rfl, e1, r1, r2, n⟩ := rr
      obtain ⟨o, eo⟩ := e1.has
      have hb : ∀ (T : Addr → Prop) q o, H q = some o → Bad T ρ (g0 a.G) [] q → Bad T ρ a σ q := fun T q o h z => by
        rcases z with z | z | ⟨i, us, z, _⟩
        · exact .inl z
        · exact .inr (.inl z)
        · have z' : ([] : List Sl)[i]? = some (.own us) := z
          simp at z'
      exact ⟨p, kvs, rfl, e1, r1.bad (hb _), r2.bad (hb _), fun z => n (hb _ p _ eo z)⟩
  cases r with
  | val u => cases e; exact ⟨(gen _ rel rr fun i z => by cases z).1, (gen _ rel rr fun i z => by cases z).2, fun q z => .inl z⟩
  | own us => cases e; exact ⟨(gen _ rel rr fun i z => by cases z).1, (gen _ rel rr fun i z => by cases z).2, fun q z => .inl z⟩
  | dic ks us => cases e; exact ⟨(gen _ rel rr fun i z => by cases z).1, (gen _ rel rr fun i z => by cases z).2, fun q z => .inl z⟩
  | slot i =>
    have e' : (match a.sl[i]? with | some (.own us) => some (R.own us) | some (.val u) => some (.val u) | _ => none) = some r' := e
    have rr' : σ[i]? = some (some v) := rr
    split at e'
    · rename_i us hs
      cases e'
      obtain ⟨p, vs, e1, e2, r, n1, n2⟩ := relS.own i us hs
      rw [rr'] at e1
      cases e1
      obtain ⟨l1, l2⟩ := relS.leaveO hs rr'
      exact ⟨l1, l2, fun q z => .inr ⟨i, us, hs, by rw [show q = p from z]; exact rr'⟩⟩
    · rename_i u hs
      cases e'
      obtain ⟨w, e1, r⟩ := relS.val i u hs
      rw [rr'] at e1
      cases e1
      have q := gen (.val u) (relS.sub fun p z => z.elim id fun z => z.elim) r fun i z => by cases z
      exact ⟨q.1, q.2, fun q z => z.elim⟩
    · cases e'
theorem psi_ret (h : PEI X true W e I) : PSI X W (.Return (some e) pos) (iRet I) := (ps_ret h).weak fun D σ H q => by
  obtain ⟨S, ρ, a, rel, q⟩ := tI_bindS q
  refine ⟨S, ρ, a, rel, q.mono fun v H1 => ?_⟩
  rintro ⟨S, ρ1, a1, r, rel1, rr, k, ρ0, a0, H0, x, hn, k0⟩
  cases hr : r.ret a1 with
  | none => rw [hr] at k0; exact k0.elim
  | some r' =>
    rw [hr] at k0
    obtain ⟨l1, l2, l3⟩ := ret_fp rel1 rr hr
    have x2 : Ext true ρ1 a1 σ H1 ρ1 (g0 a1.G) [] H1 := (Rel.leave (rel1.sub fun p z => .inl z)).2
    exact k0 v ρ1 H1 (x.trans x2) l1 l2 fun q z => (l3 q z).elim (fun z => .inl (hn q z)) fun z => (x.frO q z).elim .inr .inl
theorem psi_retN : PSI X W (.Return none pos) (fun a => .rt (.val .non) a.G) := ps_retN.weak fun D σ H q => by
  obtain ⟨S, ρ, a, rel, q⟩ := q
  obtain ⟨l1, x1⟩ := rel.leave
  exact q .non ρ H x1 (l1.sub fun p z => z.elim id fun z => z.elim) .non fun q z => z.elim
theorem psi_if (h : PTI X true W c I) (h1 : PSSI X W a K) (h2 : PSSI X W b M) : PSI X W (.If c a b pos) (iIfS I K M) := (ps_if h h1 h2).weak fun D σ H q => by
  obtain ⟨S, ρ, a, rel, q⟩ := tI_bindS q
  refine ⟨S, ρ, a, rel, q.mono fun v H1 => ?_⟩
  rintro ⟨S, ρ1, a1, r, rel1, rr, k, _⟩
  cases hb : r.bl? with
  | none => rw [hb] at k; exact k.elim
  | some b =>
    rw [hb] at k
    obtain ⟨rfl, rfl⟩ := bl_of rr hb
    refine ⟨b, rfl, ?_⟩
    have relS : Rel (kc X) S ρ1 a1 σ H1 := rel1.sub fun p z => .inl z
    cases b with
    | true =>
      show (if true = true then _ else _)
      rw [if_pos rfl]
      exact ⟨S, ρ1, a1, relS, k⟩
    | false =>
      show (if false = true then _ else _)
      rw [if_neg Bool.false_ne_true]
      exact ⟨S, ρ1, a1, relS, k⟩
end

/-! ### loops -/
def iForGo (t : Tg) (B : SS) : List U → ASt → OutS
  | [], a => .nx a
  | u :: us, a => match bindT t u a with
    | none => .bad
    | some a1 => match B a1 with
      | .nx a2 => iForGo t B us a2
      | .ct a2 => iForGo t B us a2
      | .bk a2 => .nx a2
      | .rt r G => .rt r G
      | .exc e a2 => .exc e a2
      | .bad => .bad
def iFor (t : Tg) (it : IT) (B : SS) : SS := fun a => match it a with
  | .ok us a1 => iForGo t B us a1
  | .exc e a1 => .exc e a1
  | .bad => .bad
def iWhile (I : ES) (B : SS) : Nat → SS
  | 0, _ => .bad
  | n + 1, a => (I a).bindS fun r a1 => match r.bl? with
    | some true => (match B a1 with
      | .nx a2 => iWhile I B n a2
      | .ct a2 => iWhile I B n a2
      | .bk a2 => .nx a2
      | .rt r G => .rt r G
      | .exc e a2 => .exc e a2
      | .bad => .bad)
    | some false => .nx a1
    | none => .bad
section
variable {X : Cx} {W : WX} {e e1 e2 tg iter c : Expr} {st : Stmt} {sts body a b : List Stmt} {I J L : ES} {K M N : SS} {pos : Pos} {t : Tg} {it : IT}
theorem psi_for (hp : PassesOwn (model X.prog X.w) X.A X.env X.xe) (hc : X.calm = true) (hi : PII X true true W tg iter it) (hg : PG X tg (gOf X.K t)) (hb : PSSI X W body K) (hs : ∀ x, foldedSetIterable iter X.env x = pure x := by intro _; rfl) :
    PSI X W (.For tg iter body [] pos) (iFor t it K) := (ps_for hp hc hi hg hb hs).weak fun D σ H q => by
  obtain ⟨S, ρ, a, rel, q⟩ := q
  refine ⟨S, ρ, a, rel, ?_⟩
  unfold iFor at q
  cases hI : it a with
  | bad => rw [hI] at q; exact q
  | exc e a1 => rw [hI] at q; exact fun cls d ρ' H' x r xr => q cls d σ ρ' H' x r xr
  | ok us a1 =>
    rw [hI] at q
    simp only at q
    intro J ρ1 H1 e1 rel1 hit hlen
    refine ⟨fun i k σ2 H2 => k = us.length - i ∧ i ≤ us.length ∧ ∃ (ρ2 : List Addr) (a2 : ASt), Ext true ρ1 a1 σ H1 ρ2 a2 σ2 H2 ∧ Rel (kc X) S ρ2 a2 σ2 H2 ∧ DoneS (kc X) S ρ2 a2 σ2 H2 (iForGo t K (us.drop i) a2) D W, ⟨us.length, by omega, Nat.zero_le _, ρ1, a1, Ext.refl, rel1, DoneS.after e1 q⟩, ?_⟩
    rintro i k σ2 H2 ⟨rfl, hi, ρ2, a2, x2, rel2, q2⟩
    have w2 := hit S ρ2 a2 σ2 H2 x2 (fun p z => .inl z) rel2
    by_cases hlt : i < us.length
    · obtain ⟨hgo2, hy⟩ := w2.2 i us[i] (List.getElem?_eq_getElem hlt)
      refine .inr ⟨hgo2, fun σ' H' => ∃ (ρ2 : List Addr) (a2 : ASt), Ext true ρ1 a1 σ H1 ρ2 a2 σ' H' ∧ Rel (kc X) S ρ2 a2 σ' H' ∧ DoneS (kc X) S ρ2 a2 σ' H' (iForGo t K (us.drop (i + 1)) a2) D W, fun σ' H' w => ⟨us.length - (i + 1), by omega, rfl, hlt, w⟩, fun x H3 y => ?_⟩
      obtain ⟨x3, rel3, r3, _⟩ := hy x H3 y
      rw [List.drop_eq_getElem_cons hlt] at q2
      unfold iForGo at q2
      cases hbd : bindT t us[i] a2 with
      | none => rw [hbd] at q2; exact q2.elim
      | some a4 =>
        rw [hbd] at q2
        simp only at q2
        refine bind_ok (m := true) t rel3 r3 hbd fun σ4 rel4 _ x4 => ⟨S, ρ2, a4, rel4, ?_⟩
        have x5 : Ext true ρ2 a2 σ2 H2 ρ2 a4 σ4 H3 := x3.trans x4
        have q3 := DoneS.after x5 q2
        cases hK : K a4 with
        | bad => rw [hK] at q3; exact q3
        | nx a6 => rw [hK] at q3; exact fun σ' ρ' H' x6 rel6 => ⟨ρ', a6, (x2.trans x5).trans x6, rel6, DoneS.after x6 q3⟩
        | ct a6 => rw [hK] at q3; exact fun σ' ρ' H' x6 rel6 => ⟨ρ', a6, (x2.trans x5).trans x6, rel6, DoneS.after x6 q3⟩
        | bk a6 => rw [hK] at q3; exact q3
        | rt r G => rw [hK] at q3; exact q3
        | exc e a6 => rw [hK] at q3; exact q3
    · have ei : i = us.length := by omega
      subst ei
      rw [List.drop_length] at q2
      exact .inl ⟨w2.1, q2 σ2 ρ2 H2 Ext.refl rel2⟩
theorem psi_while (n : Nat) (hp : PassesOwn (model X.prog X.w) X.A X.env X.xe) (hc : PTI X true W c I) (hb : PSSI X W body K) : PSI X W (.While c body [] pos) (iWhile I K n) := (ps_while hp hc hb).weak fun D σ H q => by
  refine ⟨fun k σ2 H2 => tSI (kc X) W (iWhile I K k) D σ2 H2, ⟨n, q⟩, ?_⟩
  intro k σ2 H2 q
  cases k with
  | zero =>
    obtain ⟨S, ρ, a, rel, q⟩ := q
    exact q.elim
  | succ k =>
    obtain ⟨S, ρ, a, rel, q⟩ := tI_bindS (D := D) (f := fun r a1 => match r.bl? with
      | some true => (match K a1 with
        | .nx a2 => iWhile I K k a2
        | .ct a2 => iWhile I K k a2
        | .bk a2 => .nx a2
        | .rt r G => .rt r G
        | .exc e a2 => .exc e a2
        | .bad => .bad)
      | some false => .nx a1
      | none => .bad) (I := I) (c := kc X) (W := W) q
    refine ⟨S, ρ, a, rel, q.mono fun v H1 => ?_⟩
    rintro ⟨S, ρ1, a1, r, rel1, rr, q, _⟩
    have relS : Rel (kc X) S ρ1 a1 σ2 H1 := rel1.sub fun p z => .inl z
    cases hb : r.bl? with
    | none => rw [hb] at q; exact q.elim
    | some b =>
      rw [hb] at q
      obtain ⟨rfl, rfl⟩ := bl_of rr hb
      refine ⟨b, rfl, ?_⟩
      cases b with
      | false =>
        show (if false = true then _ else _)
        rw [if_neg Bool.false_ne_true]
        exact q σ2 ρ1 H1 Ext.refl relS
      | true =>
        show (if true = true then _ else _)
        rw [if_pos rfl]
        refine ⟨fun σ' H' => tSI (kc X) W (iWhile I K k) D σ' H', fun σ' H' w => ⟨k, Nat.lt_succ_self k, w⟩, S, ρ1, a1, relS, ?_⟩
        simp only at q
        cases hK : K a1 with
        | bad => rw [hK] at q; exact q
        | nx a6 => rw [hK] at q; exact fun σ' ρ' H' x6 rel6 => ⟨S, ρ', a6, rel6, DoneS.after x6 q⟩
        | ct a6 => rw [hK] at q; exact fun σ' ρ' H' x6 rel6 => ⟨S, ρ', a6, rel6, DoneS.after x6 q⟩
        | bk a6 => rw [hK] at q; exact q
        | rt r G => rw [hK] at q; exact q
        | exc e a6 => rw [hK] at q; exact q
end
end IL
end T_IL10
section T_IL11
set_option Elab.async false
set_option linter.all false
set_option maxRecDepth 100000
namespace IL
open PySem PySem.Spec L2
open PyProof.Rows hiding St

/-! ### a list is changed where it stands -/
def recvL (a : ASt) : R → Option (List U)
  | .slot i => match a.sl[i]? with
    | some (.own us) => some us
    | _ => none
  | .val u => match u with
    | .adr n => match a.G[n]? with
      | some (.lst us) => some us
      | _ => none
    | _ => none
  | _ => none
def setL (a : ASt) (us : List U) : R → ASt
  | .slot i => a.set i (.own us)
  | .val u => match u with
    | .adr n => { a with G := a.G.set n (.lst us) }
    | _ => a
  | _ => a
section
variable {m mm : Bool} {c : Kc} {S T : Addr → Prop} {ρ ρ1 : List Addr} {a a1 : ASt} {σ σ1 : St} {H H1 : Hp} {W : WX}
theorem kp_updB {B : Addr → Prop} {p : Addr} {xs ys : List V} (hp : B p) (h : H p = some (.lst xs)) : Kp B H (upd H p (.lst ys)) :=
  ⟨fun q o e n => by rw [upd_ne (fun z => n (by rw [z]; exact hp))]; exact e, fun q zs e => by rw [upd_ne (fun z => by rw [z, h] at e; cases e)]; exact e, fun q o u e => by rw [upd_ne (fun z => by rw [z, h] at e; cases e)]; exact e⟩
theorem upd_there {p : Addr} {xs : List V} {o' : HO} (h : H p = some (.lst xs)) : ∀ q o, H q = some o → ∃ o2, upd H p o' q = some o2 := fun q o e => by
  by_cases z : q = p
  · exact ⟨o', by rw [z, upd_same]⟩
  · exact ⟨o, by rw [upd_ne z]; exact e⟩
theorem Rel.mut {r : R} {v : V} {us : List U} (rel : Rel c S ρ a σ H) (rr : RepR c S ρ a σ H r v) (e : recvL a r = some us) : ∃ p vs, v = .ref p ∧ H p = some (.lst vs) ∧ RepL c ρ H (Bad S ρ a σ) us vs ∧
    ∀ us' vs', RepL c ρ H (Bad S ρ a σ) us' vs' → Rel c S ρ (setL a us' r) σ (upd H p (.lst vs')) ∧ Ext true ρ a σ H ρ (setL a us' r) σ (upd H p (.lst vs')) := by
  cases r with
  | own ws => cases e
  | dic ks ws => cases e
  | slot i =>
    have e' : (match a.sl[i]? with | some (.own us) => some us | _ => none) = some us := e
    have rr' : σ[i]? = some (some v) := rr
    split at e'
    · rename_i ws hs
      cases e'
      obtain ⟨p, vs, e1, e2, r, n1, n2⟩ := rel.own i us hs
      rw [rr'] at e1
      cases e1
      refine ⟨p, vs, rfl, e2, r, fun us' vs' r' => ?_⟩
      have own : OwnA a σ p := ⟨i, us, hs, rr'⟩
      have k : Kp (Bad S ρ a σ) H (upd H p (.lst vs')) := kp_updB (.inr (.inr own)) e2
      have hl : i < a.sl.length := by
        rcases Nat.lt_or_ge i a.sl.length with z | z
        · exact z
        · rw [List.getElem?_eq_none z] at hs; cases hs
      have ow : ∀ q, OwnA (a.set i (.own us')) σ q → OwnA a σ q := fun q ⟨j, ws, z1, z2⟩ => by
        rcases set_get z1 with ⟨rfl, _, _⟩ | ⟨ne, z⟩
        · exact ⟨j, us, hs, z2⟩
        · exact ⟨j, ws, z, z2⟩
      have hb : ∀ q o, H q = some o → Bad S ρ (a.set i (.own us')) σ q → Bad S ρ a σ q := fun q o h z => by
        rcases z with z | z | z
        · exact .inl z
        · exact .inr (.inl z)
        · exact .inr (.inr (ow q z))
      refine ⟨⟨fun j w z1 => ?_, fun j ws z1 => ?_, fun j k us1 us2 q z1 z2 z3 z4 => ?_, rel.glen, fun n ob q z1 z2 => ?_, rel.nd, rel.rs, fun q z => ?_, ?_⟩, ⟨List.prefix_refl _, fun q o h _ n => ?_, upd_there e2, fun q xs h => ?_, fun q o u h => ?_, fun q z => .inl z, fun q z => .inl (ow q z)⟩⟩
      · rcases set_get z1 with ⟨_, z, _⟩ | ⟨ne, z⟩
        · cases z
        · obtain ⟨x, y1, y2⟩ := rel.val j w z
          exact ⟨x, y1, y2.frame (List.prefix_refl _) k hb⟩
      · rcases set_get z1 with ⟨rfl, z, _⟩ | ⟨ne, z⟩
        · cases z
          exact ⟨p, vs', rr', upd_same, r'.frame (List.prefix_refl _) k hb, n1, n2⟩
        · obtain ⟨q, xs, y1, y2, y3, y4, y5⟩ := rel.own j ws z
          have nq : q ≠ p := fun w => ne (rel.inj j i ws us q z hs y1 (by rw [w]; exact rr'))
          exact ⟨q, xs, y1, by rw [upd_ne nq]; exact y2, y3.frame (List.prefix_refl _) k hb, y4, y5⟩
      · have f : ∀ {j : Nat} {ws : List U}, (a.set i (.own us')).sl[j]? = some (.own ws) → ∃ ws', a.sl[j]? = some (.own ws') := fun {j ws} z1 => by
          rcases set_get z1 with ⟨rfl, _, _⟩ | ⟨ne, z⟩
          · exact ⟨us, hs⟩
          · exact ⟨ws, z⟩
        obtain ⟨w1, y1⟩ := f z1
        obtain ⟨w2, y2⟩ := f z2
        exact rel.inj j k w1 w2 q y1 y2 z3 z4
      · have nq : q ≠ p := fun w => n1 (by rw [← w]; exact List.mem_of_getElem? z2)
        exact (rel.obj n ob q z1 z2).frame (List.prefix_refl _) k hb (upd_ne nq)
      · obtain ⟨o, ho⟩ := rel.sall q z
        exact ⟨o, by rw [upd_ne (fun w => n2 (by rw [← w]; exact z))]; exact ho⟩
      · rw [show (setL a us' (.slot i)).sl = a.sl.set i (.own us') from rfl, List.length_set]
        exact rel.slen
      · rw [upd_ne (fun w => n rfl (by rw [w]; exact own))]
        exact h
      · rw [upd_ne (fun w => by rw [w, e2] at h; cases h)]
        exact h
      · rw [upd_ne (fun w => by rw [w, e2] at h; cases h)]
        exact h
    · cases e'
  | val u =>
    cases u with
    | adr n =>
      have e' : (match a.G[n]? with | some (.lst us) => some us | _ => none) = some us := e
      split at e'
      · rename_i ws hs
        cases e'
        cases rr with
        | adr hρ =>
          rename_i p
          obtain ⟨vs, e2, r⟩ := rel.obj n _ p hs hρ
          refine ⟨p, vs, rfl, e2, r, fun us' vs' r' => ?_⟩
          have hp : p ∈ ρ := List.mem_of_getElem? hρ
          have k : Kp (Bad S ρ a σ) H (upd H p (.lst vs')) := kp_updB (.inr (.inl hp)) e2
          have hn : n < a.G.length := by
            rcases Nat.lt_or_ge n a.G.length with z | z
            · exact z
            · rw [List.getElem?_eq_none z] at hs; cases hs
          refine ⟨⟨fun j w z1 => ?_, fun j ws z1 => ?_, rel.inj, ?_, fun n2 ob q z1 z2 => ?_, rel.nd, rel.rs, fun q z => ?_, rel.slen⟩, ⟨List.prefix_refl _, fun q o h nq _ => ?_, upd_there e2, fun q xs h => ?_, fun q o u h => ?_, fun q z => .inl z, fun q z => .inl z⟩⟩
          · obtain ⟨x, y1, y2⟩ := rel.val j w z1
            exact ⟨x, y1, y2.frame (List.prefix_refl _) k fun _ _ _ z => z⟩
          · obtain ⟨q, xs, y1, y2, y3, y4, y5⟩ := rel.own j ws z1
            exact ⟨q, xs, y1, by rw [upd_ne (fun w => y4 (by rw [w]; exact hp))]; exact y2, y3.frame (List.prefix_refl _) k fun _ _ _ z => z, y4, y5⟩
          · show ρ.length = (a.G.set n (.lst us')).length
            rw [List.length_set]
            exact rel.glen
          · have z1' : (a.G.set n (.lst us'))[n2]? = some ob := z1
            by_cases w : n = n2
            · subst w
              rw [List.getElem?_set_self hn] at z1'
              cases z1'
              rw [hρ] at z2
              cases z2
              exact ⟨vs', upd_same, r'.frame (List.prefix_refl _) k fun _ _ _ z => z⟩
            · rw [List.getElem?_set_ne w] at z1'
              have nq : q ≠ p := fun w2 => w (by
                rw [w2] at z2
                have l1 : n < ρ.length := by rw [rel.glen]; exact hn
                exact (List.getElem?_inj l1 rel.nd).mp (by rw [hρ, z2]))
              exact (rel.obj n2 ob q z1' z2).frame (List.prefix_refl _) k (fun _ _ _ z => z) (upd_ne nq)
          · obtain ⟨o, ho⟩ := rel.sall q z
            exact ⟨o, by rw [upd_ne (fun w => rel.rs p hp (by rw [← w]; exact z))]; exact ho⟩
          · rw [upd_ne (fun w => nq (by rw [w]; exact hp))]
            exact h
          · rw [upd_ne (fun w => by rw [w, e2] at h; cases h)]
            exact h
          · rw [upd_ne (fun w => by rw [w, e2] at h; cases h)]
            exact h
      · cases e'
    | _ => cases e
end
/-- a method that changes its list: g tells the result and the new list from the list and the arguments -/
def MutS (c : Kc) (t : V → List V → Hp → VK → Prop) (g : List U → List U → Option (U × List U)) : Prop :=
  ∀ (ρ : List Addr) (H : Hp) (B : Addr → Prop) (p : Addr) (us : List U) (vs : List V) (ws : List U) (xs : List V) (u : U) (us' : List U) (Q : VK), H p = some (.lst vs) → RepL c ρ H B us vs → RepL c ρ H B ws xs → g us ws = some (u, us') →
    (∀ v vs', RepL c ρ H B us' vs' → Rep c ρ H B u v → Q v (upd H p (.lst vs'))) → t (.ref p) xs H Q
def iMut (g : List U → List U → Option (U × List U)) (Ir : ES) (Is : List ES) : ES := fun a => (Ir a).bind fun r a1 => match recvL a1 r with
  | some _ => (iArgs Is a1).bind fun rs a2 => (match frzL rs, recvL a2 r with
    | some ws, some us => (match g us ws with
      | some (u, us') => .ok (.val u) (setL a2 us' r)
      | none => .bad)
    | _, _ => .bad)
  | none => .bad
section
variable {c : Kc} {S T : Addr → Prop} {ρ ρ1 : List Addr} {a a1 : ASt} {σ σ1 : St} {H H1 : Hp} {W : WX}
theorem recv_fp {r : R} {v : V} {us : List U} (e : recvL a r = some us) : ∀ q, ¬ fp r v q := fun q z => by
  cases r with
  | own ws => cases e
  | dic ks ws => cases e
  | slot i => exact z
  | val u => exact z
theorem mut_of {g : List U → List U → Option (U × List U)} {t : V → List V → Hp → VK → Prop} (hs : MutS c t g) {Ir : ES} {Is : List ES} {Q : VK} (h : tI c true W (iMut g Ir Is) σ H Q) :
    tI c true W Ir σ H (fun x H1 => tyV c.K "list" x H1 ∧ tAll c true W Is σ H1 fun xs H2 => t x xs H2 Q) := by
  obtain ⟨S, ρ, a, rel, h⟩ := h
  refine ⟨S, ρ, a, rel, ?_⟩
  unfold iMut at h
  cases hI : Ir a with
  | bad => rw [hI] at h; exact h
  | exc e a1 => rw [hI] at h; exact h
  | ok r a1 =>
    rw [hI] at h
    simp only [Out.bind] at h
    intro v ρ1 H1 e1 rel1 rr1 hn1
    have relS : Rel c S ρ1 a1 σ H1 := rel1.sub fun p z => .inl z
    cases hr : recvL a1 r with
    | none => rw [hr] at h; exact h.elim
    | some us0 =>
      rw [hr] at h
      obtain ⟨p, vs, rfl, e2, _⟩ := relS.mut rr1 hr
      refine ⟨.inl ⟨rfl, _, SqL.of e2⟩, tAll_of Is relS ?_⟩
      simp only at h
      cases hA : iArgs Is a1 with
      | bad => rw [hA] at h; exact h
      | exc e a2 => rw [hA] at h; exact fun cls d ρ2 H2 x r xr => h cls d ρ2 H2 (e1.trans x) r xr
      | ok rs a2 =>
        rw [hA] at h
        simp only at h
        intro xs ρ2 H2 x2 rel2 rr2 hn2
        cases hf : frzL rs with
        | none => rw [hf] at h; exact h.elim
        | some ws =>
          rw [hf] at h
          cases hr2 : recvL a2 r with
          | none => rw [hr2] at h; exact h.elim
          | some us =>
            rw [hr2] at h
            simp only at h
            cases hg : g us ws with
            | none => rw [hg] at h; exact h.elim
            | some q =>
              obtain ⟨u, us'⟩ := q
              rw [hg] at h
              have relS2 : Rel c S ρ2 a2 σ H2 := rel2.sub fun p z => .inl z
              have rws := frzL_rep rel2 rr2 hf
              have rr3 : RepR c S ρ2 a2 σ H2 r (.ref p) := rr1.later (relS2.sub fun p z => z.elim id fun z => (recv_fp hr p z).elim) x2 fun p z => z
              obtain ⟨p', vs', ep, e4, r4, k4⟩ := relS2.mut rr3 hr2
              cases ep
              refine hs ρ2 H2 (Bad S ρ2 a2 σ) p us vs' ws xs u us' Q e4 r4 rws hg fun w vs2 hl hu => ?_
              obtain ⟨k5, k6⟩ := k4 us' vs2 hl
              refine h w ρ2 _ ((e1.trans x2).trans k6) (k5.sub fun p z => z.elim id fun z => z.elim) ?_ fun q z => z.elim
              exact k6.rep (fun p z => z) (by
                have hu' : Rep c ρ2 H2 (Bad S ρ2 a2 σ) u w := hu
                exact hu')
end
end IL
end T_IL11
section T_IL12
set_option Elab.async false
set_option linter.all false
set_option maxRecDepth 100000
namespace IL
open PySem PySem.Spec L2
open PyProof.Rows hiding St

def mAppend (us ws : List U) : Option (U × List U) := match ws with
  | [w] => if us.length < sizeLine then some (.non, us ++ [w]) else none
  | _ => none
def mExtend (us ws : List U) : Option (U × List U) := match ws with
  | [.lst xs] => if us.length + xs.length ≤ sizeLine then some (.non, us ++ xs) else none
  | _ => none
def mPop (us ws : List U) : Option (U × List U) := match ws with
  | [] => match us[us.length - 1]? with
    | some u => some (u, us.dropLast)
    | none => none
  | _ => none
def mPopAt (us ws : List U) : Option (U × List U) := match ws with
  | [.int i] => if us.length ≤ sizeLine then (match ixN us.length i with
    | some k => (match us[k]? with
      | some u => some (u, us.eraseIdx k)
      | none => none)
    | none => none) else none
  | _ => none
def mInsert (us ws : List U) : Option (U × List U) := match ws with
  | [.int i, w] => if 0 ≤ i ∧ i ≤ 1000000 ∧ us.length < sizeLine then some (.non, us.take i.toNat ++ [w] ++ us.drop i.toNat) else none
  | _ => none
def intsU : List U → Option (List Int)
  | [] => some []
  | .int i :: us => match intsU us with
    | some is => some (i :: is)
    | none => none
  | _ :: _ => none
def mRemove (us ws : List U) : Option (U × List U) := match ws with
  | [.int k] => match intsU us with
    | some is => if k ∈ is then some (.non, us.eraseIdx (is.idxOf k)) else none
    | none => none
  | _ => none
section
variable {c : Kc} {ρ : List Addr} {H : Hp} {B : Addr → Prop}
theorem RepL.one {u : U} {vs : List V} (h : RepL c ρ H B [u] vs) : ∃ v, vs = [v] ∧ Rep c ρ H B u v := by
  cases h with
  | cons h t =>
    cases t
    exact ⟨_, rfl, h⟩
theorem RepL.two {u w : U} {vs : List V} (h : RepL c ρ H B [u, w] vs) : ∃ v x, vs = [v, x] ∧ Rep c ρ H B u v ∧ Rep c ρ H B w x := by
  cases h with
  | cons h t =>
    obtain ⟨x, rfl, h2⟩ := t.one
    exact ⟨_, x, rfl, h, h2⟩
theorem Rep.int_inv {i : Int} {v : V} (h : Rep c ρ H B (.int i) v) : v = .int i := by
  cases h; rfl
theorem RepL.dropLast : ∀ {us : List U} {vs : List V}, RepL c ρ H B us vs → RepL c ρ H B us.dropLast vs.dropLast := fun {us vs} h => by
  rw [List.dropLast_eq_take, List.dropLast_eq_take, ← h.length]
  exact h.take _
theorem RepL.eraseIdx : ∀ {us : List U} {vs : List V} (k : Nat), RepL c ρ H B us vs → RepL c ρ H B (us.eraseIdx k) (vs.eraseIdx k)
  | _, _, _, .nil => .nil
  | _, _, 0, .cons _ t => t
  | _, _, k + 1, .cons h t => .cons h (RepL.eraseIdx k t)
theorem intsU_vs : ∀ {us : List U} {vs : List V} {is : List Int}, intsU us = some is → RepL c ρ H B us vs → vs = is.map V.int
  | [], _, is, e, .nil => by cases e; rfl
  | u :: us, _, is, e, .cons h t => by
    cases u with
    | int i =>
      unfold intsU at e
      cases q : intsU us with
      | none => rw [q] at e; cases e
      | some js =>
        rw [q] at e
        cases e
        cases h
        rw [intsU_vs q t]
        rfl
    | _ => cases e
theorem erase_map {α β : Type} (f : α → β) : ∀ (l : List α) (k : Nat), (l.eraseIdx k).map f = (l.map f).eraseIdx k
  | [], _ => rfl
  | _ :: _, 0 => rfl
  | x :: l, k + 1 => by
    show f x :: (l.eraseIdx k).map f = f x :: (l.map f).eraseIdx k
    rw [erase_map f l k]
theorem ms_append : MutS c rAppend mAppend := by
  intro ρ H B p us vs ws xs u us' Q hp r rw_ hg k
  unfold mAppend at hg
  split at hg
  · split at hg
    · rename_i hz
      cases hg
      obtain ⟨x, rfl, rx⟩ := rw_.one
      exact ⟨p, vs, x, rfl, rfl, hp, by rw [← r.length]; exact hz, k .non _ (r.append (.cons rx .nil)) .non⟩
    · cases hg
  · cases hg
theorem ms_extend : MutS c rExtend mExtend := by
  intro ρ H B p us vs ws xs u us' Q hp r rw_ hg k
  unfold mExtend at hg
  split at hg
  · split at hg
    · rename_i hz
      cases hg
      obtain ⟨x, rfl, rx⟩ := rw_.one
      cases rx with
      | lst h n r2 =>
        exact ⟨p, _, vs, _, rfl, rfl, hp, h, by rw [← r.length, ← r2.length]; exact hz, k .non _ (r.append r2) .non⟩
    · cases hg
  · cases hg
theorem ms_pop : MutS c rPop mPop := by
  intro ρ H B p us vs ws xs u us' Q hp r rw_ hg k
  unfold mPop at hg
  split at hg
  · split at hg
    · rename_i w hw
      cases hg
      cases rw_
      obtain ⟨v, hv, rv⟩ := r.get' hw
      rw [r.length] at hv
      exact ⟨p, vs, v, rfl, rfl, hp, hv, k v _ r.dropLast rv⟩
    · cases hg
  · cases hg
theorem ms_popAt : MutS c rPopAt mPopAt := by
  intro ρ H B p us vs ws xs u us' Q hp r rw_ hg k
  unfold mPopAt at hg
  split at hg
  · split at hg
    · rename_i hz
      split at hg
      · rename_i j hj
        split at hg
        · rename_i w hw
          cases hg
          obtain ⟨x, rfl, rx⟩ := rw_.one
          cases rx.int_inv
          obtain ⟨v, hv, rv⟩ := r.get' hw
          rw [r.length] at hj hz
          obtain ⟨q1, q2, q3, q4⟩ := ixN_seq hj
          have hs : sizeLine = 2 ^ 24 := rfl
          exact ⟨p, vs, _, j, v, rfl, rfl, hp, by omega, by omega, q1, hv, k v _ (r.eraseIdx j) rv⟩
        · cases hg
      · cases hg
    · cases hg
  · cases hg
theorem ms_insert : MutS c (fun x vs H Q => ∃ (l : Addr) (xs : List V) (i : Int) (y : V), x = .ref l ∧ vs = [.int i, y] ∧ H l = some (.lst xs) ∧ xs.length < sizeLine ∧ 0 ≤ i ∧ i < 2 ^ 63 ∧ Q .non (upd H l (.lst (xs.take i.toNat ++ [y] ++ xs.drop i.toNat)))) mInsert := by
  intro ρ H B p us vs ws xs u us' Q hp r rw_ hg k
  unfold mInsert at hg
  split at hg
  · split at hg
    · rename_i hz
      cases hg
      obtain ⟨x, y, rfl, rx, ry⟩ := rw_.two
      cases rx.int_inv
      exact ⟨p, vs, _, y, rfl, rfl, hp, by rw [← r.length]; exact hz.2.2, hz.1, by omega, k .non _ (((r.take _).append (.cons ry .nil)).append (r.drop _)) .non⟩
    · cases hg
  · cases hg
theorem ms_remove : MutS c rRemI mRemove := by
  intro ρ H B p us vs ws xs u us' Q hp r rw_ hg k
  unfold mRemove at hg
  split at hg
  · rename_i kk
    split at hg
    · rename_i is hi
      split at hg
      · rename_i hm
        cases hg
        obtain ⟨x, rfl, rx⟩ := rw_.one
        cases rx.int_inv
        have ev := intsU_vs hi r
        subst ev
        refine ⟨p, is, kk, is.idxOf kk, rfl, rfl, hp, ?_, fun j hj e => ?_, ?_⟩
        · rw [List.getElem?_eq_getElem (List.idxOf_lt_length_of_mem hm), List.getElem_idxOf]
        · have h1 := List.not_of_lt_findIdx (p := (· == kk)) (xs := is) hj
          have h3 := (List.getElem?_eq_some_iff.mp e).2
          simp [h3] at h1
        · have q := k .non _ (r.eraseIdx (is.idxOf kk)) .non
          rw [← erase_map] at q
          exact q
      · cases hg
    · cases hg
  · cases hg
end
section
variable {X : Cx} {W : WX} {o e e1 e2 : Expr} {es : List Expr} {I J : ES} {Is : List ES} {apos cpos : Pos}
theorem pei_append (h1 : PEI X true W o I) (h2 : PAI X true W [e] [J]) (hbase : attributeBase o "append" X.env (eval o X.env) = eval o X.env := by rfl)
    (hfew : ((backTo cpos (starEach [e] X.env)).all (fun x => !x.1) && (backToKw cpos (keywordEach [] X.env)).all (fun x => x.1.isSome) && decide ([e].length + ([] : List Keyword).length + (if ([] : List Keyword).isEmpty then 0 else 1) < 30)) = true := by rfl)
    (hline : (apos.endLine == cpos.line) = true := by rfl) (hs : starEach [e] X.env = (false, eval e X.env) :: starEach [] X.env := by rfl) (hplain : (backTo cpos (starEach [] X.env)).any (·.1) = false := by rfl) :
    PEI X true W (.Call (.Attribute o "append" apos) [e] [] cpos) (iMut mAppend I [J]) :=
  (pe_bm PySem.F.plainAttrs_list PySem.F.slot_list_append PySem.F.type_list_append mt_append h1 h2 hbase hfew hline hs hplain).weak fun σ H Q q => mut_of ms_append q
theorem pei_extend (h1 : PEI X true W o I) (h2 : PAI X true W [e] [J]) (hbase : attributeBase o "extend" X.env (eval o X.env) = eval o X.env := by rfl)
    (hfew : ((backTo cpos (starEach [e] X.env)).all (fun x => !x.1) && (backToKw cpos (keywordEach [] X.env)).all (fun x => x.1.isSome) && decide ([e].length + ([] : List Keyword).length + (if ([] : List Keyword).isEmpty then 0 else 1) < 30)) = true := by rfl)
    (hline : (apos.endLine == cpos.line) = true := by rfl) (hs : starEach [e] X.env = (false, eval e X.env) :: starEach [] X.env := by rfl) (hplain : (backTo cpos (starEach [] X.env)).any (·.1) = false := by rfl) :
    PEI X true W (.Call (.Attribute o "extend" apos) [e] [] cpos) (iMut mExtend I [J]) :=
  (pe_bm PySem.F.plainAttrs_list PySem.F.slot_list_extend PySem.F.type_list_extend mt_extend h1 h2 hbase hfew hline hs hplain).weak fun σ H Q q => mut_of ms_extend q
theorem pei_pop (h1 : PEI X true W o I) (hbase : attributeBase o "pop" X.env (eval o X.env) = eval o X.env := by rfl) (hline : (apos.endLine == cpos.line) = true := by rfl) :
    PEI X true W (.Call (.Attribute o "pop" apos) [] [] cpos) (iMut mPop I []) :=
  (pe_bm0 PySem.F.plainAttrs_list PySem.F.slot_list_pop PySem.F.type_list_pop mt_pop h1 hbase hline).weak fun σ H Q q => mut_of ms_pop q
theorem pei_popAt (h1 : PEI X true W o I) (h2 : PAI X true W [e] [J]) (hbase : attributeBase o "pop" X.env (eval o X.env) = eval o X.env := by rfl)
    (hfew : ((backTo cpos (starEach [e] X.env)).all (fun x => !x.1) && (backToKw cpos (keywordEach [] X.env)).all (fun x => x.1.isSome) && decide ([e].length + ([] : List Keyword).length + (if ([] : List Keyword).isEmpty then 0 else 1) < 30)) = true := by rfl)
    (hline : (apos.endLine == cpos.line) = true := by rfl) (hs : starEach [e] X.env = (false, eval e X.env) :: starEach [] X.env := by rfl) (hplain : (backTo cpos (starEach [] X.env)).any (·.1) = false := by rfl) :
    PEI X true W (.Call (.Attribute o "pop" apos) [e] [] cpos) (iMut mPopAt I [J]) :=
  (pe_bm PySem.F.plainAttrs_list PySem.F.slot_list_pop PySem.F.type_list_pop mt_popAt h1 h2 hbase hfew hline hs hplain).weak fun σ H Q q => mut_of ms_popAt q
theorem pei_remove (h1 : PEI X true W o I) (h2 : PAI X true W [e] [J]) (hbase : attributeBase o "remove" X.env (eval o X.env) = eval o X.env := by rfl)
    (hfew : ((backTo cpos (starEach [e] X.env)).all (fun x => !x.1) && (backToKw cpos (keywordEach [] X.env)).all (fun x => x.1.isSome) && decide ([e].length + ([] : List Keyword).length + (if ([] : List Keyword).isEmpty then 0 else 1) < 30)) = true := by rfl)
    (hline : (apos.endLine == cpos.line) = true := by rfl) (hs : starEach [e] X.env = (false, eval e X.env) :: starEach [] X.env := by rfl) (hplain : (backTo cpos (starEach [] X.env)).any (·.1) = false := by rfl) :
    PEI X true W (.Call (.Attribute o "remove" apos) [e] [] cpos) (iMut mRemove I [J]) :=
  (pe_bm PySem.F.plainAttrs_list PySem.F.slot_list_remove PySem.F.type_list_remove mt_remove h1 h2 hbase hfew hline hs hplain).weak fun σ H Q q => mut_of ms_remove q
theorem pei_insert (h1 : PEI X true W o I) (h2 : PAI X true W [e1, e2] Is) (hbase : attributeBase o "insert" X.env (eval o X.env) = eval o X.env := by rfl)
    (hfew : ((backTo cpos (starEach [e1, e2] X.env)).all (fun x => !x.1) && (backToKw cpos (keywordEach [] X.env)).all (fun x => x.1.isSome) && decide ([e1, e2].length + ([] : List Keyword).length + (if ([] : List Keyword).isEmpty then 0 else 1) < 30)) = true := by rfl)
    (hline : (apos.endLine == cpos.line) = true := by rfl) (hs : starEach [e1, e2] X.env = (false, eval e1 X.env) :: starEach [e2] X.env := by rfl) (hplain : (backTo cpos (starEach [e2] X.env)).any (·.1) = false := by rfl) :
    PEI X true W (.Call (.Attribute o "insert" apos) [e1, e2] [] cpos) (iMut mInsert I Is) :=
  (pe_bm PySem.F.plainAttrs_list PySem.F.slot_list_insert PySem.F.type_list_insert mt_insert h1 h2 hbase hfew hline hs hplain).weak fun σ H Q q => mut_of ms_insert q
end

/-! ### assignments -/
def iSet (i : Nat) (I : ES) : SS := fun a => (I a).bindS fun r a1 => match r with
  | .val u => .nx (a1.set i (.val u))
  | .own us => .nx (a1.set i (.own us))
  | .slot j => (match R.settle a1 (.slot j) with
    | some (u, a2) => .nx (a2.set i (.val u))
    | none => .bad)
  | .dic _ _ => .bad
section
variable {m mm : Bool} {c : Kc} {S T : Addr → Prop} {ρ ρ1 : List Addr} {a a1 a2 : ASt} {σ σ1 : St} {H H1 : Hp} {W : WX}
/-- a result goes to a slot -/
def bindR (i : Nat) (a : ASt) : R → Option ASt
  | .val u => some (a.set i (.val u))
  | .own us => some (a.set i (.own us))
  | _ => none
theorem bindR_ok {r : R} {v : V} {i : Nat} {a' : ASt} (rel : Rel c (orS S (fp r v)) ρ1 a1 σ1 H1) (rr : RepR c S ρ1 a1 σ1 H1 r v) (e : bindR i a1 r = some a') (x : Ext true ρ a σ H ρ1 a1 σ1 H1) (hn : ∀ q, fp r v q → H q = none) :
    Rel c S ρ1 a' (σ1.set i (some v)) H1 ∧ Ext true ρ a σ H ρ1 a' (σ1.set i (some v)) H1 := by
  cases r with
  | slot j => cases e
  | dic ks us => cases e
  | val u =>
    cases e
    exact ⟨(rel.sub fun p z => .inl z).setV rr, x.trans Ext.setV⟩
  | own us =>
    cases e
    obtain ⟨p, vs, rfl, e1, r, n⟩ := rr
    refine ⟨rel.setO e1 r n, ⟨x.pre, x.keep, x.there, x.tup, x.frz, x.fr, fun q z => ?_⟩⟩
    rcases ownA_setO z with z | z
    · exact .inr (hn q z)
    · exact x.frO q z
end
section
variable {X : Cx} {W : WX} {o e e1 e2 : Expr} {es : List Expr} {I J : ES} {Is : List ES} {pos pos' : Pos}
theorem set_of {c : Kc} {i : Nat} {D : Ends} {σ : St} {H : Hp} (q : tSI c W (iSet i I) D σ H) : tAsg (tI c true W I) (gName i) D σ H := by
  obtain ⟨S, ρ, a, rel, q⟩ := tI_bindS q
  refine ⟨S, ρ, a, rel, q.mono fun v H1 => ?_⟩
  rintro ⟨S, ρ1, a1, r, rel1, rr, _, ρ0, a0, H0, x, hn, k⟩
  show D.nx (σ.set i (some v)) H1
  cases r with
  | dic ks us => exact k.elim
  | val u =>
    obtain ⟨k1, k2⟩ := bindR_ok rel1 rr (show bindR i a1 (.val u) = some _ from rfl) x hn
    exact k _ ρ1 H1 k2 k1
  | own us =>
    obtain ⟨k1, k2⟩ := bindR_ok rel1 rr (show bindR i a1 (.own us) = some _ from rfl) x hn
    exact k _ ρ1 H1 k2 k1
  | slot j =>
    simp only at k
    cases hs : R.settle a1 (.slot j) with
    | none => rw [hs] at k; exact k.elim
    | some w =>
      obtain ⟨u, a2⟩ := w
      rw [hs] at k
      obtain ⟨rel2, r2, x2⟩ := settle_rep (m := true) rel1 rr hs
      exact k _ ρ1 H1 ((x.trans x2).trans Ext.setV) (rel2.setV r2)
theorem psi_set {i : Nat} {x : Str} (hN : X.N.Nodup) (hi : X.N[i]? = some x) (hx : Loc X.env.scope x) (he : PEI X true W e I) (hs : swapsWith e (some (.Name x pos')) pos.line X.env = pure false := by rfl)
    (hf : X.fn x = true ∨ X.env.scope.names.lookup x = some .local := by first | exact .inl rfl | exact .inr rfl | assumption) : PSI X W (.Assign [.Name x pos'] e pos) (iSet i I) :=
  (ps_set hN hi hx he hs hf).weak fun D σ H q => set_of q
end
end IL
end T_IL12
section T_IL13
set_option Elab.async false
set_option linter.all false
set_option maxRecDepth 100000
namespace IL
open PySem PySem.Spec L2
open PyProof.Rows hiding St

/-! ### a new object that may change -/
section
variable {m mm : Bool} {c : Kc} {S T : Addr → Prop} {ρ ρ1 ρ0 : List Addr} {a a1 a0 : ASt} {σ σ1 σ0 : St} {H H1 H0 : Hp} {W : WX}
theorem Rel.alloc {p : Addr} {ob : Ob} (rel : Rel c (orS S fun q => q = p) ρ a σ H) (ho : ObRep c ρ H (Bad (orS S fun q => q = p) ρ a σ) p ob) (n : ¬ Bad S ρ a σ p) :
    Rel c S (ρ ++ [p]) { a with G := a.G ++ [ob] } σ H := by
  have hb : ∀ q o, H q = some o → Bad S (ρ ++ [p]) { a with G := a.G ++ [ob] } σ q → Bad (orS S fun q => q = p) ρ a σ q := fun q o h z => by
    rcases z with z | z | z
    · exact .inl (.inl z)
    · rcases List.mem_append.mp z with z | z
      · exact .inr (.inl z)
      · exact .inl (.inr (List.mem_singleton.mp z))
    · exact .inr (.inr z)
  have hp : ρ <+: ρ ++ [p] := List.prefix_append _ _
  have np : p ∉ ρ := fun z => n (.inr (.inl z))
  refine ⟨fun i u e => ?_, fun i us e => ?_, rel.inj, ?_, fun k o q e1 e2 => ?_, ?_, fun q hq z => ?_, fun q z => rel.sall q (.inl z), rel.slen⟩
  · obtain ⟨v, e1, r⟩ := rel.val i u e
    exact ⟨v, e1, r.frame hp Kp.refl hb⟩
  · obtain ⟨q, vs, e1, e2, r, n1, n2⟩ := rel.own i us e
    exact ⟨q, vs, e1, e2, r.frame hp Kp.refl hb, fun z => (List.mem_append.mp z).elim n1 fun z => n2 (.inr (List.mem_singleton.mp z)), fun z => n2 (.inl z)⟩
  · show (ρ ++ [p]).length = (a.G ++ [ob]).length
    rw [List.length_append, List.length_append, rel.glen]
    rfl
  · have e1 : (a.G ++ [ob])[k]? = some o := e1
    by_cases hk : k < a.G.length
    · rw [List.getElem?_append_left hk] at e1
      rw [List.getElem?_append_left (by rw [rel.glen]; exact hk)] at e2
      exact (rel.obj k o q e1 e2).frame hp Kp.refl hb rfl
    · have hk2 : a.G.length ≤ k := Nat.le_of_not_lt hk
      rw [List.getElem?_append_right hk2] at e1
      rw [List.getElem?_append_right (by rw [rel.glen]; exact hk2), rel.glen] at e2
      have k0 : k - a.G.length = 0 := by
        rcases Nat.eq_zero_or_pos (k - a.G.length) with z | z
        · exact z
        · rw [List.getElem?_eq_none (by rw [List.length_singleton]; exact z)] at e1
          cases e1
      rw [k0] at e1 e2
      cases e1
      cases e2
      exact ho.frame hp Kp.refl hb rfl
  · rw [List.nodup_append]
    exact ⟨rel.nd, by simp, fun x hx y hy z => np (by rw [List.mem_singleton] at hy; rw [← hy, ← z]; exact hx)⟩
  · rcases List.mem_append.mp hq with hq | hq
    · exact rel.rs q hq (.inl z)
    · rw [List.mem_singleton] at hq
      exact n (.inl (by rw [← hq]; exact z))
theorem Ext.alloc {p : Addr} {ob : Ob} (x : Ext m ρ0 a0 σ0 H0 ρ a σ H) (hn : H0 p = none) : Ext m ρ0 a0 σ0 H0 (ρ ++ [p]) { a with G := a.G ++ [ob] } σ H :=
  ⟨x.pre.trans (List.prefix_append _ _), x.keep, x.there, x.tup, x.frz, fun q z => (List.mem_append.mp z).elim (x.fr q) fun z => .inr (by rw [List.mem_singleton.mp z]; exact hn), x.frO⟩
end
def newR (a : ASt) : R → Option (U × ASt)
  | .own us => some (.adr a.G.length, { a with G := a.G ++ [.lst us] })
  | .dic ks us => some (.adr a.G.length, { a with G := a.G ++ [.dct ks us] })
  | _ => none
def iNew (I : ES) : ES := fun a => (I a).bind fun r a1 => match newR a1 r with
  | some (u, a2) => .ok (.val u) a2
  | none => .bad
section
variable {m mm : Bool} {c : Kc} {S T : Addr → Prop} {ρ ρ1 ρ0 : List Addr} {a a1 a0 : ASt} {σ σ1 σ0 : St} {H H1 H0 : Hp} {W : WX}
theorem newR_ok {r : R} {v : V} {u : U} (rel : Rel c (orS S (fp r v)) ρ a σ H) (rr : RepR c S ρ a σ H r v) (e : newR a r = some (u, a1)) (x : Ext m ρ0 a0 σ0 H0 ρ a σ H) (hn : ∀ q, fp r v q → H0 q = none) :
    ∃ ρ1, Rel c S ρ1 a1 σ H ∧ Rep c ρ1 H (Bad S ρ1 a1 σ) u v ∧ Ext m ρ0 a0 σ0 H0 ρ1 a1 σ H := by
  cases r with
  | val u => cases e
  | slot i => cases e
  | own us =>
    cases e
    obtain ⟨p, vs, rfl, e1, r, n⟩ := rr
    exact ⟨ρ ++ [p], rel.alloc (ob := .lst us) ⟨vs, e1, r⟩ n, .adr (by rw [← rel.glen]; simp), x.alloc (hn p rfl)⟩
  | dic ks us =>
    cases e
    obtain ⟨p, kvs, rfl, e1, r1, r2, n⟩ := rr
    exact ⟨ρ ++ [p], rel.alloc (ob := .dct ks us) ⟨kvs, e1, r1, r2⟩ n, .adr (by rw [← rel.glen]; simp), x.alloc (hn p rfl)⟩
end
theorem tI_new {c : Kc} {m : Bool} {W : WX} {I : ES} {σ : St} {H : Hp} {Q : VK} (h : tI c m W (iNew I) σ H Q) : tI c m W I σ H Q := by
  obtain ⟨S, ρ, a, rel, h⟩ := h
  refine ⟨S, ρ, a, rel, ?_⟩
  unfold iNew at h
  cases hI : I a with
  | bad => rw [hI] at h; exact h
  | exc e a1 => rw [hI] at h; exact h
  | ok r a1 =>
    rw [hI] at h
    simp only [Out.bind] at h
    intro v ρ1 H1 e1 rel1 rr1 hn1
    cases hk : newR a1 r with
    | none => rw [hk] at h; exact h.elim
    | some w =>
      obtain ⟨u, a2⟩ := w
      rw [hk] at h
      obtain ⟨ρ2, rel2, r2, x2⟩ := newR_ok rel1 rr1 hk e1 hn1
      exact h v ρ2 H1 x2 (rel2.sub fun p z => z.elim id fun z => z.elim) r2 fun q z => z.elim
theorem pei_new {X : Cx} {m : Bool} {W : WX} {e : Expr} {I : ES} (h : PEI X m W e I) : PEI X m W e (iNew I) := h.weak fun _ _ _ q => tI_new q

/-! ### what a def tells -/
inductive OutF where
  | ret (r : R) (G : List Ob) | exc (e : U) (G : List Ob) | bad
abbrev FS := List U → List Ob → OutF
abbrev Ph := Str → FS
def OutF.res (a : ASt) : OutF → Out R
  | .ret r G => .ok r { a with G := G }
  | .exc e G => .exc e { a with G := G }
  | .bad => .bad
def DoneF (c : Kc) (S : Addr → Prop) (ρ : List Addr) (G : List Ob) (H : Hp) (o : OutF) (Q : VK) (E : XK) : Prop := match o with
  | .bad => False
  | .ret r G' => ∀ v ρ' H', Ext true ρ (g0 G) [] H ρ' (g0 G') [] H' → Rel c (orS S (fp r v)) ρ' (g0 G') [] H' → RepR c S ρ' (g0 G') [] H' r v → (∀ q, fp r v q → H q = none) → Q v H'
  | .exc e G' => ∀ cls d ρ' H', Ext true ρ (g0 G) [] H ρ' (g0 G') [] H' → Rel c S ρ' (g0 G') [] H' → XRep c ρ' H' (Bad S ρ' (g0 G') []) e cls d → E cls d H'
/-- the promise of a def of n parameters -/
def spI (c : Kc) (n : Nat) (F : FS) : Sp := fun vs H Q E => vs.length = n ∧ ∃ S ρ G us, Rel c S ρ (g0 G) [] H ∧ RepL c ρ H (Bad S ρ (g0 G) []) us vs ∧ DoneF c S ρ G H (F us G) Q E
def enterA (n : Nat) (us : List U) (G : List Ob) : ASt := ⟨us.map .val ++ List.replicate (n - us.length) .non, G⟩
def OutS.fn : OutS → OutF
  | .nx a => .ret (.val .non) a.G
  | .rt r G => .ret r G
  | .exc e a => .exc e a.G
  | _ => .bad
def runB (n : Nat) (B : SS) : FS := fun us G => (B (enterA n us G)).fn
section
variable {m mm : Bool} {c : Kc} {S T : Addr → Prop} {ρ ρ1 ρ0 : List Addr} {a a1 a0 : ASt} {σ σ1 σ0 : St} {H H1 H0 : Hp} {W : WX} {G G1 : List Ob}
theorem ow0 (q : Addr) : ¬ OwnA (g0 G) [] q := fun ⟨i, us, e, _⟩ => by
  have e' : ([] : List Sl)[i]? = some (.own us) := e
  simp at e'
theorem enter_get {n : Nat} {us : List U} {i : Nat} {s : Sl} (e : (enterA n us G).sl[i]? = some s) : (∃ u, us[i]? = some u ∧ s = .val u) ∨ s = .non := by
  have e : (us.map Sl.val ++ List.replicate (n - us.length) .non)[i]? = some s := e
  by_cases hi : i < us.length
  · rw [List.getElem?_append_left (by simpa using hi), List.getElem?_map] at e
    rw [List.getElem?_eq_getElem hi] at e ⊢
    cases e
    exact .inl ⟨_, rfl, rfl⟩
  · rw [List.getElem?_append_right (by simpa using Nat.le_of_not_lt hi), List.getElem?_replicate] at e
    split at e
    · cases e
      exact .inr rfl
    · cases e
theorem ow_enter {n : Nat} {us : List U} (q : Addr) : ¬ OwnA (enterA n us G) σ q := fun ⟨i, ws, e, _⟩ => by
  rcases enter_get e with ⟨u, _, z⟩ | z
  · cases z
  · cases z
/-- a def's frame is entered -/
theorem Rel.enter {N : List Str} {us : List U} {vs : List V} (rel : Rel c S ρ (g0 G) [] H) (r : RepL c ρ H (Bad S ρ (g0 G) []) us vs) : Rel c S ρ (enterA N.length us G) (L2.start N vs) H := by
  have hb : ∀ q o, H q = some o → Bad S ρ (enterA N.length us G) (L2.start N vs) q → Bad S ρ (g0 G) [] q := fun q o h z => by
    rcases z with z | z | z
    · exact .inl z
    · exact .inr (.inl z)
    · exact (ow_enter q z).elim
  refine ⟨fun i u e => ?_, fun i us e => ?_, fun i j us ws p e => ?_, rel.glen, fun n ob p e1 e2 => (rel.obj n ob p e1 e2).frame (List.prefix_refl _) Kp.refl hb rfl, rel.nd, rel.rs, rel.sall, ?_⟩
  · rcases enter_get e with ⟨w, e1, z⟩ | z
    · cases z
      obtain ⟨v, e2, r2⟩ := r.get' e1
      refine ⟨v, ?_, r2.bad hb⟩
      have hi : i < vs.length := (List.getElem?_eq_some_iff.mp e2).1
      unfold L2.start
      rw [List.getElem?_append_left (by simpa using hi), List.getElem?_map, e2]
      rfl
    · cases z
  · rcases enter_get e with ⟨w, _, z⟩ | z
    · cases z
    · cases z
  · rcases enter_get e with ⟨w, _, z⟩ | z
    · cases z
    · cases z
  · show (us.map Sl.val ++ List.replicate (N.length - us.length) Sl.non).length = (vs.map some ++ List.replicate (N.length - vs.length) none).length
    simp only [List.length_append, List.length_map, List.length_replicate, r.length]
theorem Ext.enter {n : Nat} {us : List U} : Ext true ρ (g0 G) [] H ρ (enterA n us G) σ H :=
  ⟨List.prefix_refl _, fun q o h _ _ => h, fun q o h => ⟨o, h⟩, fun q xs h => h, fun q o u h => h, fun q z => .inl z, fun q z => (ow_enter q z).elim⟩
/-- from a body to a def's promise -/
theorem body_of {N : List Str} {us : List U} {vs : List V} {B : SS} {Q : VK} {E : XK} (rel : Rel c S ρ (g0 G) [] H) (r : RepL c ρ H (Bad S ρ (g0 G) []) us vs) (h : DoneF c S ρ G H (runB N.length B us G) Q E) :
    tSI c (fun cls d _ H => E cls d H) B { nx := fun _ H' => Q .non H', rt := Q } (L2.start N vs) H := by
  refine ⟨S, ρ, enterA N.length us G, rel.enter r, ?_⟩
  have h : DoneF c S ρ G H (B (enterA N.length us G)).fn Q E := h
  cases hB : B (enterA N.length us G) with
  | bad => rw [hB] at h; exact h
  | bk a => rw [hB] at h; exact h.elim
  | ct a => rw [hB] at h; exact h.elim
  | nx a =>
    rw [hB] at h
    intro σ' ρ' H' x rel'
    obtain ⟨l1, x1⟩ := rel'.leave
    exact h .non ρ' H' ((Ext.enter.trans x).trans x1) (l1.sub fun p z => z.elim id fun z => z.elim) .non fun q z => z.elim
  | rt r G' =>
    rw [hB] at h
    intro v ρ' H' x rel' rr hn
    exact h v ρ' H' (Ext.enter.trans x) rel' rr fun q z => (hn q z).elim id fun z => (ow_enter q z).elim
  | exc e a =>
    rw [hB] at h
    intro cls d σ' ρ' H' x rel' xr
    obtain ⟨l1, x1⟩ := rel'.leave
    exact h cls d ρ' H' ((Ext.enter.trans x).trans x1) l1 (xr.sub fun q o _ z => by
      rcases z with z | z | z
      · exact .inl z
      · exact .inr (.inl z)
      · exact (ow0 q z).elim)

/-! ### a call, seen from the caller -/
def toC (S : Addr → Prop) (a : ASt) (σ : St) : Addr → Prop := fun q => S q ∨ OwnA a σ q
theorem Rel.toC (rel : Rel c S ρ a σ H) : Rel c (toC S a σ) ρ (g0 a.G) [] H := by
  have hb : ∀ q o, H q = some o → Bad (IL.toC S a σ) ρ (g0 a.G) [] q → Bad S ρ a σ q := fun q o h z => by
    rcases z with (z | z) | z | z
    · exact .inl z
    · exact .inr (.inr z)
    · exact .inr (.inl z)
    · exact (ow0 q z).elim
  refine ⟨fun i u e => ?_, fun i us e => ?_, fun i j us ws p e => ?_, rel.glen, fun n ob p e1 e2 => (rel.obj n ob p e1 e2).frame (List.prefix_refl _) Kp.refl hb rfl, rel.nd, fun q hq z => ?_, fun q z => ?_, rfl⟩
  · have e' : ([] : List Sl)[i]? = some (.val u) := e
    simp at e'
  · have e' : ([] : List Sl)[i]? = some (.own us) := e
    simp at e'
  · have e' : ([] : List Sl)[i]? = some (.own us) := e
    simp at e'
  · rcases z with z | ⟨i, us, e1, e2⟩
    · exact rel.rs q hq z
    · obtain ⟨p, vs, e3, _, _, n1, _⟩ := rel.own i us e1
      rw [e2] at e3
      cases e3
      exact n1 hq
  · exact rel.bad_some (z.elim .inl fun z => .inr (.inr z))
theorem toC_bad : ∀ q o, H q = some o → Bad (toC S a σ) ρ (g0 a.G) [] q → Bad S ρ a σ q := fun q o h z => by
  rcases z with (z | z) | z | z
  · exact .inl z
  · exact .inr (.inr z)
  · exact .inr (.inl z)
  · exact (ow0 q z).elim
theorem Ext.back (x : Ext true ρ (g0 a.G) [] H ρ1 (g0 G1) [] H1) : Ext m ρ a σ H ρ1 { a with G := G1 } σ H1 :=
  ⟨x.pre, fun q o h n _ => x.keep q o h n fun _ => ow0 q, x.there, x.tup, x.frz, x.fr, fun q z => .inl z⟩
theorem Rel.back {F : Addr → Prop} (rel : Rel c S ρ a σ H) (x : Ext true ρ (g0 a.G) [] H ρ1 (g0 G1) [] H1) (r : Rel c (orS (IL.toC S a σ) F) ρ1 (g0 G1) [] H1) (hn : ∀ q, F q → H q = none) : Rel c (orS S F) ρ1 { a with G := G1 } σ H1 := by
  have x2 : Ext false ρ a σ H ρ1 { a with G := G1 } σ H1 := x.back
  have hS : ∀ q, orS S F q → S q ∨ H q = none := fun q z => z.imp id (hn q)
  have hb : ∀ q o, H1 q = some o → Bad (orS S F) ρ1 { a with G := G1 } σ q → Bad (orS (IL.toC S a σ) F) ρ1 (g0 G1) [] q := fun q o h z => by
    rcases z with (z | z) | z | z
    · exact .inl (.inl (.inl z))
    · exact .inl (.inr z)
    · exact .inr (.inl z)
    · exact .inl (.inl (.inr z))
  refine ⟨fun i u e => ?_, fun i us e => ?_, rel.inj, r.glen, fun n ob p e1 e2 => (r.obj n ob p e1 e2).frame (List.prefix_refl _) Kp.refl hb rfl, r.nd, fun q hq z => r.rs q hq (z.imp .inl id), fun q z => r.sall q (z.imp .inl id), rel.slen⟩
  · obtain ⟨v, e1, r1⟩ := rel.val i u e
    exact ⟨v, e1, r1.frame x2.pre x2.kp (bad_wide (c := c) x2 hS)⟩
  · obtain ⟨p, vs, e1, e2, r1, n1, n2⟩ := rel.own i us e
    refine ⟨p, vs, e1, x.keep p _ e2 n1 fun _ => ow0 p, r1.frame x2.pre x2.kp (bad_wide (c := c) x2 hS), fun z => ?_, fun z => ?_⟩
    · exact (x.fr p z).elim n1 fun z => by rw [e2] at z; cases z
    · rcases z with z | z
      · exact n2 z
      · rw [hn p z] at e2; cases e2
theorem RepR.back {r : R} {v : V} (h : RepR c (IL.toC S a σ) ρ1 (g0 G1) [] H1 r v) : RepR c S ρ1 { a with G := G1 } σ H1 r v := by
  have hb : ∀ (F : Addr → Prop) q o, H1 q = some o → Bad (orS S F) ρ1 { a with G := G1 } σ q → Bad (orS (IL.toC S a σ) F) ρ1 (g0 G1) [] q := fun F q o h z => by
    rcases z with (z | z) | z | z
    · exact .inl (.inl (.inl z))
    · exact .inl (.inr z)
    · exact .inr (.inl z)
    · exact .inl (.inl (.inr z))
  have hb0 : ∀ q o, H1 q = some o → Bad S ρ1 { a with G := G1 } σ q → Bad (IL.toC S a σ) ρ1 (g0 G1) [] q := fun q o h z => by
    rcases z with z | z | z
    · exact .inl (.inl z)
    · exact .inr (.inl z)
    · exact .inl (.inr z)
  cases r with
  | slot i => exact absurd (show ([] : St)[i]? = some (some v) from h) (by simp)
  | val u => exact Rep.bad h hb0
  | own us =>
    obtain ⟨p, vs, e, e1, r, n⟩ := h
    exact ⟨p, vs, e, e1, r.bad (hb _), fun z => n (hb0 p _ e1 z)⟩
  | dic ks us =>
    obtain ⟨p, kvs, e, e1, r1, r2, n⟩ := h
    obtain ⟨o, eo⟩ := e1.has
    exact ⟨p, kvs, e, e1, r1.bad (hb _), r2.bad (hb _), fun z => n (hb0 p _ eo z)⟩
/-- what is wanted of a callee, from what the caller wants -/
theorem DoneF.of {o : OutF} {Q : VK} (rel : Rel c S ρ a σ H) (h : DoneE c m S ρ a σ H (o.res a) Q W) : DoneF c (IL.toC S a σ) ρ a.G H o Q (fun cls d H' => W cls d σ H') := by
  cases o with
  | bad => exact h
  | ret r G' => exact fun v ρ' H' x rel' rr hn => h v ρ' H' x.back (rel.back x rel' hn) rr.back hn
  | exc e G' =>
    intro cls d ρ' H' x rel' xr
    refine h cls d ρ' H' x.back ((rel.back (F := fun _ => False) x (rel'.sub fun q z => z.elim id fun z => z.elim) fun q z => z.elim).sub fun q z => .inl z) (xr.sub fun q o _ z => ?_)
    rcases z with z | z | z
    · exact .inl (.inl z)
    · exact .inr (.inl z)
    · exact .inl (.inr z)
end

/-! ### calls -/
def iCallF (F : FS) (Is : List ES) : ES := fun a => (iArgs Is a).bind fun rs a1 => match frzL rs with
  | some us => (F us a1.G).res a1
  | none => .bad
section
variable {m mm : Bool} {c : Kc} {S T : Addr → Prop} {ρ ρ1 : List Addr} {a a1 : ASt} {σ : St} {H H1 : Hp} {W : WX}
theorem call_args {F : FS} {Is : List ES} {Q : VK} (h : tI c m W (iCallF F Is) σ H Q) : tAll c m W Is σ H (fun vs H1 => spI c Is.length F vs H1 Q (fun cls d H' => W cls d σ H')) := by
  obtain ⟨S, ρ, a, rel, h⟩ := h
  refine tAll_of Is rel ?_
  unfold iCallF at h
  cases hA : iArgs Is a with
  | bad => rw [hA] at h; exact h
  | exc e a1 => rw [hA] at h; exact h
  | ok rs a1 =>
    rw [hA] at h
    simp only [Out.bind] at h
    intro vs ρ1 H1 e1 rel1 rr1 hn1
    cases hf : frzL rs with
    | none => rw [hf] at h; exact h.elim
    | some us =>
      rw [hf] at h
      have relS : Rel c S ρ1 a1 σ H1 := rel1.sub fun p z => .inl z
      have rl := frzL_rep rel1 rr1 hf
      refine ⟨?_, _, ρ1, a1.G, us, relS.toC, rl.bad toC_bad, DoneF.of relS (DoneE.after e1 (fun p z => z) h)⟩
      rw [← rr1.length]
      exact iArgs_length hA
end
end IL
end T_IL13
section T_IL14
set_option Elab.async false
set_option linter.all false
set_option maxRecDepth 100000
namespace IL
open PySem PySem.Spec L2
open PyProof.Rows hiding St

/-! ### several slots at once -/
def bindRs : List Nat → List R → ASt → Option ASt
  | [], rs, a => match rs with
    | [] => some a
    | _ :: _ => none
  | i :: is, rs, a => match rs with
    | [] => none
    | r :: rs => match bindR i a r with
      | some a1 => bindRs is rs a1
      | none => none
def setsσ : St → List Nat → List V → St
  | σ, i :: is, v :: vs => setsσ (σ.set i (some v)) is vs
  | σ, _, _ => σ
section
variable {m mm : Bool} {c : Kc} {S T : Addr → Prop} {ρ ρ1 : List Addr} {a a1 a2 : ASt} {σ σ1 σ2 : St} {H H1 : Hp} {W : WX}
theorem bindRs_ns : ∀ {is : List Nat} {rs : List R} {a a' : ASt}, bindRs is rs a = some a' → ∀ r ∈ rs, ∀ k, r ≠ .slot k
  | [], [], a, a', e, r, h, k => by cases h
  | [], _ :: _, a, a', e, r, h, k => by cases e
  | i :: is, [], a, a', e, r, h, k => by cases h
  | i :: is, r0 :: rs, a, a', e, r, h, k => by
    have e' : (match bindR i a r0 with | some a1 => bindRs is rs a1 | none => none) = some a' := e
    cases hb : bindR i a r0 with
    | none => rw [hb] at e'; cases e'
    | some a1 =>
      rw [hb] at e'
      rcases List.mem_cons.mp h with z | z
      · intro z2
        rw [← z, z2] at hb
        cases hb
      · exact bindRs_ns e' r z k
theorem RepR.move {S S' : Addr → Prop} (hb : ∀ (T : Addr → Prop) q o, H1 q = some o → Bad (orS S T) ρ1 a2 σ2 q → Bad (orS S' T) ρ1 a1 σ1 q) {r : R} {v : V} (hs : ∀ k, r ≠ .slot k) {T : Addr → Prop} (h : RepR c (orS S' T) ρ1 a1 σ1 H1 r v) : RepR c (orS S T) ρ1 a2 σ2 H1 r v := by
  have hb2 : ∀ (F : Addr → Prop) q o, H1 q = some o → Bad (orS (orS S T) F) ρ1 a2 σ2 q → Bad (orS (orS S' T) F) ρ1 a1 σ1 q := fun F q o e z => by
    have z1 : Bad (orS S (orS T F)) ρ1 a2 σ2 q := z.imp (orS_assoc q).mpr id
    exact (hb _ q o e z1).imp (orS_assoc q).mp id
  cases r with
  | slot k => exact absurd rfl (hs k)
  | val u => exact Rep.bad h (hb T)
  | own us =>
    obtain ⟨p, vs, e, e1, r, n⟩ := h
    exact ⟨p, vs, e, e1, r.bad (hb2 _), fun z => n (hb T p _ e1 z)⟩
  | dic ks us =>
    obtain ⟨p, kvs, e, e1, r1, r2, n⟩ := h
    obtain ⟨o, eo⟩ := e1.has
    exact ⟨p, kvs, e, e1, r1.bad (hb2 _), r2.bad (hb2 _), fun z => n (hb T p _ eo z)⟩
theorem RepRL.move : ∀ {rs : List R} {vs : List V} {S S' : Addr → Prop}, (∀ (T : Addr → Prop) q o, H1 q = some o → Bad (orS S T) ρ1 a2 σ2 q → Bad (orS S' T) ρ1 a1 σ1 q) → (∀ r ∈ rs, ∀ k, r ≠ .slot k) → RepRL c ρ1 a1 σ1 H1 S' rs vs → RepRL c ρ1 a2 σ2 H1 S rs vs
  | [], [], _, _, _, _, _ => True.intro
  | r :: rs, v :: vs, S, S', hb, hs, h => by
    refine ⟨h.1.move hb (hs r List.mem_cons_self), RepRL.move (fun T q o e z => ?_) (fun r hr => hs r (List.mem_cons_of_mem _ hr)) h.2⟩
    have z1 : Bad (orS S (orS (fp r v) T)) ρ1 a2 σ2 q := z.imp (orS_assoc q).mpr id
    exact (hb _ q o e z1).imp (orS_assoc q).mp id
  | [], _ :: _, _, _, _, _, h => h.elim
  | _ :: _, [], _, _, _, _, h => h.elim
theorem bindR_own {i : Nat} {r : R} {v : V} {a a' : ASt} {σ : St} {S : Addr → Prop} (rr : RepR c S ρ1 a σ H1 r v) (e : bindR i a r = some a') {q : Addr} (h : OwnA a' (σ.set i (some v)) q) : fp r v q ∨ OwnA a σ q := by
  cases r with
  | slot j => cases e
  | dic ks us => cases e
  | val u => cases e; exact .inr (ownA_setV h)
  | own us =>
    cases e
    obtain ⟨p, vs, rfl, e1, r, n⟩ := rr
    exact ownA_setO h
theorem bindRs_ok : ∀ {is : List Nat} {rs : List R} {vs : List V} {S : Addr → Prop} {a1 a' : ASt} {σ1 : St}, Rel c (orS S (fpL rs vs)) ρ1 a1 σ1 H1 → RepRL c ρ1 a1 σ1 H1 S rs vs → bindRs is rs a1 = some a' → Ext true ρ a σ H ρ1 a1 σ1 H1 → (∀ q, fpL rs vs q → H q = none) →
    Rel c S ρ1 a' (setsσ σ1 is vs) H1 ∧ Ext true ρ a σ H ρ1 a' (setsσ σ1 is vs) H1
  | [], [], [], S, a1, a', σ1, rel, rr, e, x, hn => by
    cases e
    exact ⟨rel.sub fun p z => .inl z, x⟩
  | [], _ :: _, _, S, a1, a', σ1, rel, rr, e, x, hn => by cases e
  | i :: is, [], _, S, a1, a', σ1, rel, rr, e, x, hn => by cases e
  | i :: is, r :: rs, [], S, a1, a', σ1, rel, rr, e, x, hn => rr.elim
  | [], [], _ :: _, S, a1, a', σ1, rel, rr, e, x, hn => rr.elim
  | i :: is, r :: rs, v :: vs, S, a1, a', σ1, rel, rr, e, x, hn => by
    have e' : (match bindR i a1 r with | some a2 => bindRs is rs a2 | none => none) = some a' := e
    cases hb : bindR i a1 r with
    | none => rw [hb] at e'; cases e'
    | some a2 =>
      rw [hb] at e'
      have rel1 : Rel c (orS (orS S (fpL rs vs)) (fp r v)) ρ1 a1 σ1 H1 := rel.sub fun p z => z.elim (fun z => z.elim .inl fun z => .inr (.inr z)) fun z => .inr (.inl z)
      obtain ⟨k1, k2⟩ := bindR_ok rel1 rr.1 hb x fun q z => hn q (.inl z)
      refine bindRs_ok (is := is) k1 (rr.2.move (fun T q o e z => ?_) (bindRs_ns e')) e' k2 fun q z => hn q (.inr z)
      rcases z with (z | z) | z | z
      · exact .inl (.inl (.inl z))
      · exact .inl (.inr z)
      · exact .inr (.inl z)
      · exact (bindR_own rr.1 hb z).elim (fun z => .inl (.inl (.inr z))) fun z => .inr (.inr z)
end
def iPar (is : List Nat) (Is : List ES) : SS := fun a => match iArgs Is a with
  | .ok rs a1 => (match bindRs is rs a1 with
    | some a2 => .nx a2
    | none => .bad)
  | .exc e a1 => .exc e a1
  | .bad => .bad
theorem par_of {c : Kc} {W : WX} {is : List Nat} {Is : List ES} {D : Ends} {σ : St} {H : Hp} (q : tSI c W (iPar is Is) D σ H) : tAll c true W Is σ H (fun vs H1 => vs.length = Is.length ∧ D.nx (setsσ σ is vs) H1) := by
  obtain ⟨S, ρ, a, rel, h⟩ := q
  refine tAll_of Is rel ?_
  unfold iPar at h
  cases hA : iArgs Is a with
  | bad => rw [hA] at h; exact h
  | exc e a1 => rw [hA] at h; exact fun cls d ρ' H' x r xr => h cls d σ ρ' H' x r xr
  | ok rs a1 =>
    rw [hA] at h
    simp only at h
    intro vs ρ1 H1 e1 rel1 rr1 hn1
    cases hf : bindRs is rs a1 with
    | none => rw [hf] at h; exact h.elim
    | some a2 =>
      rw [hf] at h
      obtain ⟨k1, k2⟩ := bindRs_ok rel1 rr1 hf e1 hn1
      exact ⟨by rw [← rr1.length]; exact iArgs_length hA, h _ ρ1 H1 k2 k1⟩
/-! ### unpacking -/
def iAsg (t : Tg) (I : ES) : SS := fun a => (I a).bindS fun r a1 => match r with
  | .val u => (match bindT t u a1 with
    | some a2 => .nx a2
    | none => .bad)
  | _ => .bad
theorem asg_of {c : Kc} {W : WX} {t : Tg} {I : ES} {D : Ends} {σ : St} {H : Hp} (q : tSI c W (iAsg t I) D σ H) : tAsg (tI c true W I) (gOf c.K t) D σ H := by
  obtain ⟨S, ρ, a, rel, q⟩ := tI_bindS q
  refine ⟨S, ρ, a, rel, q.mono fun v H1 => ?_⟩
  rintro ⟨S, ρ1, a1, r, rel1, rr, k, _⟩
  show gOf c.K t v σ H1 D.nx
  cases r with
  | val u =>
    simp only at k
    cases hb : bindT t u a1 with
    | none => rw [hb] at k; exact k.elim
    | some a2 =>
      rw [hb] at k
      exact bind_ok (m := true) t (rel1.sub fun p z => .inl z) rr hb fun σ2 rel2 _ x => k σ2 ρ1 H1 x rel2
  | _ => exact k.elim
/-! ### o[i] = e -/
def iSubS (I Io Ii : ES) : SS := fun a => match iArgs [I, Io, Ii] a with
  | .ok rs a1 => (match rs with
    | [r, ro, ri] => (match r.frz, recvL a1 ro, ri with
      | some u, some us, .val (.int k) => (match ixN us.length k with
        | some j => .nx (setL a1 (us.set j u) ro)
        | none => .bad)
      | _, _, _ => .bad)
    | _ => .bad)
  | .exc e a1 => .exc e a1
  | .bad => .bad
theorem subS_of {c : Kc} {W : WX} {I Io Ii : ES} {D : Ends} {σ : St} {H : Hp} (q : tSI c W (iSubS I Io Ii) D σ H) : tAll c true W [I, Io, Ii] σ H (fun vs H1 => ∃ v o i, vs = [v, o, i] ∧ rSetL o i v H1 fun H3 => D.nx σ H3) := by
  obtain ⟨S, ρ, a, rel, h⟩ := q
  refine tAll_of _ rel ?_
  unfold iSubS at h
  cases hA : iArgs [I, Io, Ii] a with
  | bad => rw [hA] at h; exact h
  | exc e a1 => rw [hA] at h; exact fun cls d ρ' H' x r xr => h cls d σ ρ' H' x r xr
  | ok rs a1 =>
    rw [hA] at h
    simp only at h
    intro vs ρ1 H1 e1 rel1 rr1 hn1
    split at h
    · rename_i r ro ri
      split at h
      · rename_i x1 x2 x3 u us k hu hr
        split at h
        · rename_i j hj
          match vs, rr1 with
          | [v, o, i], rr1 =>
            obtain ⟨k1, k2, k3, _⟩ := rr1
            have relS : Rel c S ρ1 a1 σ H1 := rel1.sub fun p z => .inl z
            have ei : i = .int k := by
              have k3' : Rep c ρ1 H1 _ (.int k) i := k3
              cases k3'
              rfl
            subst ei
            have k2' : RepR c S ρ1 a1 σ H1 ro o := k2.sub fun p z => .inl (.inl z)
            obtain ⟨p, xs, rfl, e4, r4, k4⟩ := relS.mut k2' hr
            have hv : Rep c ρ1 H1 (Bad S ρ1 a1 σ) u v := frz_rep (rel1.sub fun p z => z.elim .inl fun z => .inr (.inl z)) (k1.sub fun p z => .inl z) hu
            refine ⟨v, _, _, rfl, p, xs, k, j, rfl, rfl, e4, by rw [← r4.length]; exact hj, ?_⟩
            obtain ⟨k5, k6⟩ := k4 _ _ (r4.set j hv)
            exact h σ ρ1 _ (e1.trans k6) k5
        · exact h.elim
      · exact h.elim
    · exact h.elim
section
variable {X : Cx} {W : WX} {o e e1 e2 e3 : Expr} {es : List Expr} {I J : ES} {Is : List ES} {pos pos' : Pos} {t : Tg}
theorem psi_par {i j : Nat} {x y : Str} {a b : Expr} {px py pt : Pos} {kt k2 pt2} (hc : X.calm = true) (hN : X.N.Nodup) (hi : X.N[i]? = some x) (hj : X.N[j]? = some y) (hx : X.env.scope.names.lookup x = some .local) (hy : X.env.scope.names.lookup y = some .local)
    (ha : PAI X true W [a, b] [I, J]) (hw : swappedStores [.Tuple [.Name x px, .Name y py] kt pt] (.Tuple [a, b] k2 pt2) X.env = pure (some [x, y])) (hij : i ≠ j := by decide)
    (hs : swapsWithSole [.Tuple [.Name x px, .Name y py] kt pt] (.Tuple [a, b] k2 pt2) pos.line X.env = pure false := by rfl) :
    PSI X W (.Assign [.Tuple [.Name x px, .Name y py] kt pt] (.Tuple [a, b] k2 pt2) pos) (iPar [i, j] [I, J]) := (ps_par (pos := pos) hc hN hi hj hij hx hy ha hw hs).weak fun D σ H q => by
  have q2 := par_of q
  refine (show tAll (kc X) true W [I, J] σ H _ → tAll (kc X) true W [I, J] σ H _ from fun q => ?_) q2
  obtain ⟨S, ρ, a, rel, q⟩ := q
  refine ⟨S, ρ, a, rel, q.mono fun v H1 q => ?_⟩
  obtain ⟨S, ρ, a, rel, q⟩ := q
  exact ⟨S, ρ, a, rel, q.mono fun w H2 q => ⟨v, w, rfl, q.2⟩⟩
theorem psi_par3 {i j l : Nat} {x y z : Str} {a b c : Expr} {L : ES} {px py pz pt : Pos} {kt k2 pt2} (hc : X.calm = true) (hN : X.N.Nodup) (hi : X.N[i]? = some x) (hj : X.N[j]? = some y) (hl : X.N[l]? = some z) (hx : X.env.scope.names.lookup x = some .local) (hy : X.env.scope.names.lookup y = some .local)
    (hz : X.env.scope.names.lookup z = some .local)
    (ha : PAI X true W [a, b, c] [I, J, L]) (hw : swappedStores [.Tuple [.Name x px, .Name y py, .Name z pz] kt pt] (.Tuple [a, b, c] k2 pt2) X.env = pure (some [x, y, z])) (hij : i ≠ j := by decide) (hil : i ≠ l := by decide) (hjl : j ≠ l := by decide)
    (hs : swapsWithSole [.Tuple [.Name x px, .Name y py, .Name z pz] kt pt] (.Tuple [a, b, c] k2 pt2) pos.line X.env = pure false := by rfl) :
    PSI X W (.Assign [.Tuple [.Name x px, .Name y py, .Name z pz] kt pt] (.Tuple [a, b, c] k2 pt2) pos) (iPar [i, j, l] [I, J, L]) := (ps_par3 (pos := pos) hc hN hi hj hl hij hil hjl hx hy hz ha hw hs).weak fun D σ H q => by
  have q2 := par_of q
  refine (show tAll (kc X) true W [I, J, L] σ H _ → tAll (kc X) true W [I, J, L] σ H _ from fun q => ?_) q2
  obtain ⟨S, ρ, a, rel, q⟩ := q
  refine ⟨S, ρ, a, rel, q.mono fun v H1 q => ?_⟩
  obtain ⟨S, ρ, a, rel, q⟩ := q
  refine ⟨S, ρ, a, rel, q.mono fun w H2 q => ?_⟩
  obtain ⟨S, ρ, a, rel, q⟩ := q
  exact ⟨S, ρ, a, rel, q.mono fun u H3 q => ⟨v, w, u, rfl, q.2⟩⟩
theorem psi_asg {tg : Expr} (he : PEI X true W e I) (hg : PG X tg (gOf X.K t)) (hs : swapsWithSole [tg] e pos.line X.env = pure false := by rfl) (hw : swappedStores [tg] e X.env = pure none := by rfl)
    (h1 : (assignEach [tg] X.env).map (·.2) = [assign tg X.env] := by rfl) : PSI X W (.Assign [tg] e pos) (iAsg t I) := (ps_asg he hg hs hw h1).weak fun D σ H q => asg_of q
theorem psi_sub {Io Ii : ES} (he : PEI X true W e I) (ho : PEI X true W e1 Io) (hi : PEI X true W e2 Ii)
    (ha : ∀ v, assign (.Subscript e1 e2 pos') X.env v = (do
      let ov ← holding [v] (eval e1 X.env)
      let iv ← holding [v, ov] (eval e2 X.env)
      standAt pos'
      holding [v, ov, iv] (setItem ov iv v)
      release [v, ov, iv] []) := by intro _; rfl)
    (hs : swapsWithSole [.Subscript e1 e2 pos'] e pos.line X.env = pure false := by rfl) (hw : swappedStores [.Subscript e1 e2 pos'] e X.env = pure none := by rfl)
    (h1 : (assignEach [.Subscript e1 e2 pos'] X.env).map (·.2) = [assign (.Subscript e1 e2 pos') X.env] := by rfl) :
    PSI X W (.Assign [.Subscript e1 e2 pos'] e pos) (iSubS I Io Ii) := (ps_asg he (pg_sub ho hi set_list ha) hs hw h1).weak fun D σ H q => by
  have q2 := subS_of q
  refine (show tAll (kc X) true W [I, Io, Ii] σ H _ → tAsg (tI (kc X) true W I) (L2.gSub (tI (kc X) true W Io) (tI (kc X) true W Ii) rSetL) D σ H from fun q => ?_) q2
  obtain ⟨S, ρ, a, rel, q⟩ := q
  refine ⟨S, ρ, a, rel, q.mono fun v H1 q => ?_⟩
  obtain ⟨S, ρ, a, rel, q⟩ := q
  refine ⟨S, ρ, a, rel, q.mono fun w H2 q => ?_⟩
  obtain ⟨S, ρ, a, rel, q⟩ := q
  refine ⟨S, ρ, a, rel, q.mono fun u H3 q => ?_⟩
  obtain ⟨v', o', i', e', q⟩ := q
  cases e'
  exact q
end
end IL
end T_IL14
section T_IL15
set_option Elab.async false
set_option linter.all false
set_option maxRecDepth 100000
namespace IL
open PySem PySem.Spec L2
open PyProof.Rows hiding St

/-! ### fields are set -/
def putU (f : Str) (u : U) : List Str → List U → List Str × List U
  | n :: ns, w :: ws => if n = f then (n :: ns, u :: ws) else (n :: (putU f u ns ws).1, w :: (putU f u ns ws).2)
  | _, _ => ([f], [u])
section
variable {m mm : Bool} {c : Kc} {S T : Addr → Prop} {ρ ρ1 : List Addr} {a a1 a2 : ASt} {σ σ1 σ2 : St} {H H1 : Hp} {W : WX} {B : Addr → Prop}
theorem putU_rep {f : Str} {u : U} {v : V} (r : Rep c ρ H B u v) : ∀ {fs : List (Str × V)} {us : List U}, RepL c ρ H B us (fs.map (·.2)) →
    (putU f u (fs.map (·.1)) us).1 = (putF f v fs).map (·.1) ∧ RepL c ρ H B (putU f u (fs.map (·.1)) us).2 ((putF f v fs).map (·.2))
  | [], us, h => by
    cases h
    exact ⟨rfl, .cons r .nil⟩
  | (g, x) :: fs, us, h => by
    cases h with
    | cons h t =>
      rename_i w ws
      show (putU f u (g :: fs.map (·.1)) (w :: ws)).1 = (putF f v ((g, x) :: fs)).map (·.1) ∧ RepL c ρ H B (putU f u (g :: fs.map (·.1)) (w :: ws)).2 ((putF f v ((g, x) :: fs)).map (·.2))
      unfold putU putF
      by_cases e : g = f
      · rw [if_pos e, if_pos e]
        exact ⟨rfl, .cons r t⟩
      · rw [if_neg e, if_neg e]
        obtain ⟨k1, k2⟩ := putU_rep (f := f) r t
        exact ⟨by show g :: _ = g :: _; rw [k1], .cons h k2⟩
/-- an object that may change is changed -/
theorem Rel.putG {n : Nat} {ob ob' : Ob} {p : Addr} {o0 o' : HO} (rel : Rel c S ρ a σ H) (hG : a.G[n]? = some ob) (hρ : ρ[n]? = some p) (hp : H p = some o0) (nt : ∀ xs, o0 ≠ .tup xs) (nf : ∀ o u, o0 ≠ .frz o u)
    (ho : ObRep c ρ (upd H p o') (Bad S ρ a σ) p ob') : Rel c S ρ { a with G := a.G.set n ob' } σ (upd H p o') ∧ Ext true ρ a σ H ρ { a with G := a.G.set n ob' } σ (upd H p o') := by
  have hpm : p ∈ ρ := List.mem_of_getElem? hρ
  have k : Kp (Bad S ρ a σ) H (upd H p o') :=
    ⟨fun q o e n => by rw [upd_ne (fun z => n (by rw [z]; exact .inr (.inl hpm)))]; exact e, fun q zs e => by rw [upd_ne (fun z => by rw [z, hp] at e; cases e; exact nt _ rfl)]; exact e, fun q o u e => by rw [upd_ne (fun z => by rw [z, hp] at e; cases e; exact nf _ _ rfl)]; exact e⟩
  have hn : n < a.G.length := by
    rcases Nat.lt_or_ge n a.G.length with z | z
    · exact z
    · rw [List.getElem?_eq_none z] at hG; cases hG
  refine ⟨⟨fun j w z1 => ?_, fun j ws z1 => ?_, rel.inj, ?_, fun n2 ob q z1 z2 => ?_, rel.nd, rel.rs, fun q z => ?_, rel.slen⟩, ⟨List.prefix_refl _, fun q o h nq _ => ?_, fun q o e => ?_, fun q xs h => k.tup q xs h, fun q o u h => k.frz q o u h, fun q z => .inl z, fun q z => .inl z⟩⟩
  · obtain ⟨x, y1, y2⟩ := rel.val j w z1
    exact ⟨x, y1, y2.frame (List.prefix_refl _) k fun _ _ _ z => z⟩
  · obtain ⟨q, xs, y1, y2, y3, y4, y5⟩ := rel.own j ws z1
    exact ⟨q, xs, y1, by rw [upd_ne (fun w => y4 (by rw [w]; exact hpm))]; exact y2, y3.frame (List.prefix_refl _) k fun _ _ _ z => z, y4, y5⟩
  · show ρ.length = (a.G.set n ob').length
    rw [List.length_set]
    exact rel.glen
  · have z1' : (a.G.set n ob')[n2]? = some ob := z1
    by_cases w : n = n2
    · subst w
      rw [List.getElem?_set_self hn] at z1'
      cases z1'
      rw [hρ] at z2
      cases z2
      exact ho
    · rw [List.getElem?_set_ne w] at z1'
      have nq : q ≠ p := fun w2 => w (by
        rw [w2] at z2
        have l1 : n < ρ.length := by rw [rel.glen]; exact hn
        exact (List.getElem?_inj l1 rel.nd).mp (by rw [hρ, z2]))
      exact (rel.obj n2 ob q z1' z2).frame (List.prefix_refl _) k (fun _ _ _ z => z) (upd_ne nq)
  · obtain ⟨o, ho⟩ := rel.sall q z
    exact ⟨o, by rw [upd_ne (fun w => rel.rs p hpm (by rw [← w]; exact z))]; exact ho⟩
  · rw [upd_ne (fun w => nq (by rw [w]; exact hpm))]
    exact h
  · by_cases z : q = p
    · exact ⟨o', by rw [z, upd_same]⟩
    · exact ⟨o, by rw [upd_ne z]; exact e⟩
end
/-- the instance that a result is: its place, class, fields -/
def insG (a : ASt) : R → Option (Nat × Str × List Str × List U)
  | .val (.adr n) => match a.G[n]? with
    | some (.ins C ns us) => some (n, C, ns, us)
    | _ => none
  | _ => none
def iSetF (cl : List Str) (f : Str) (I Io : ES) : SS := fun a => match iArgs [I, Io] a with
  | .ok rs a1 => (match rs with
    | [r, ro] => (match r.frz, insG a1 ro with
      | some u, some (n, C, ns, us) => if cl.contains C && decide (us.length < 1000) then .nx { a1 with G := a1.G.set n (.ins C (putU f u ns us).1 (putU f u ns us).2) } else .bad
      | _, _ => .bad)
    | _ => .bad)
  | .exc e a1 => .exc e a1
  | .bad => .bad
section
variable {X : Cx} {W : WX} {o e e1 e2 : Expr} {I J Io : ES} {Is : List ES} {pos pos' : Pos}
theorem setF_of {cl : List Str} {f : Str} (hc : HasF X cl f) {D : Ends} {σ : St} {H : Hp} (q : tSI (kc X) W (iSetF cl f I Io) D σ H) : sFld X.K (tI (kc X) true W Io) (tI (kc X) true W I) f D σ H := by
  obtain ⟨S, ρ, a, rel, h⟩ := q
  refine (show tAll (kc X) true W [I, Io] σ H (fun vs H2 => ∃ y x, vs = [y, x] ∧ ∃ a C dx fs, x = .ref a ∧ H2 a = some (.ins C dx fs) ∧ Cls X.K C ∧ NoAttr X.K C f ∧ fs.length < 1000 ∧ D.nx σ (upd H2 a (.ins C dx (putF f y fs)))) → _ from fun q => ?_) (tAll_of _ rel ?_)
  · obtain ⟨S, ρ, a, rel, q⟩ := q
    refine ⟨S, ρ, a, rel, q.mono fun v H1 q => ?_⟩
    obtain ⟨S, ρ, a, rel, q⟩ := q
    refine ⟨S, ρ, a, rel, q.mono fun w H2 q => ?_⟩
    obtain ⟨y, x, e, q⟩ := q
    cases e
    exact q
  · unfold iSetF at h
    cases hA : iArgs [I, Io] a with
    | bad => rw [hA] at h; exact h
    | exc e a1 => rw [hA] at h; exact fun cls d ρ' H' x r xr => h cls d σ ρ' H' x r xr
    | ok rs a1 =>
      rw [hA] at h
      simp only at h
      intro vs ρ1 H1 e1 rel1 rr1 hn1
      split at h
      · rename_i r ro
        split at h
        · rename_i x1 x2 u n C ns us hu hr
          cases hcc : (cl.contains C && decide (us.length < 1000)) with
          | false => rw [hcc] at h; exact h.elim
          | true =>
            rw [hcc] at h
            rw [Bool.and_eq_true] at hcc
            match vs, rr1 with
            | [v, o], rr1 =>
              obtain ⟨k1, k2, _⟩ := rr1
              have relS : Rel (kc X) S ρ1 a1 σ H1 := rel1.sub fun p z => .inl z
              have hv : Rep (kc X) ρ1 H1 (Bad S ρ1 a1 σ) u v := frz_rep (rel1.sub fun p z => z.elim .inl fun z => .inr (.inl z)) (k1.sub fun p z => .inl z) hu
              have hr' : ∃ n', ro = .val (.adr n') ∧ (match a1.G[n']? with | some (.ins C ns us) => some (n', C, ns, us) | _ => none) = some (n, C, ns, us) := by
                unfold insG at hr
                split at hr
                · exact ⟨_, rfl, hr⟩
                · cases hr
              obtain ⟨n', rfl, hr'⟩ := hr'
              split at hr'
              · rename_i C' ns' us' hG
                cases hr'
                have k2' : Rep (kc X) ρ1 H1 _ (.adr n) o := k2
                obtain ⟨p, rfl, hρ⟩ : ∃ p, o = .ref p ∧ ρ1[n]? = some p := by
                  cases k2' with
                  | adr h => exact ⟨_, rfl, h⟩
                have k2' : True := True.intro
                cases k2' with
                | intro =>
                  obtain ⟨C0, dx, fs, g, e2, en, r2⟩ := relS.obj n _ p hG hρ
                  subst en
                  obtain ⟨c1, c2⟩ := hc C (List.contains_iff_mem.mp hcc.1) C0 g
                  obtain ⟨p1, p2⟩ := putU_rep (f := f) hv r2
                  have hl : fs.length < 1000 := by
                    have := of_decide_eq_true hcc.2
                    have h2 := r2.length
                    rw [List.length_map] at h2
                    omega
                  refine ⟨v, _, rfl, p, C0, dx, fs, rfl, e2, c1, c2, hl, ?_⟩
                  have kB : Kp (Bad S ρ1 a1 σ) H1 (upd H1 p (.ins C0 dx (putF f v fs))) :=
                    ⟨fun q o e n => by rw [upd_ne (fun z => n (by rw [z]; exact .inr (.inl (List.mem_of_getElem? hρ))))]; exact e, fun q zs e => by rw [upd_ne (fun z => by rw [z, e2] at e; cases e)]; exact e, fun q o u e => by rw [upd_ne (fun z => by rw [z, e2] at e; cases e)]; exact e⟩
                  obtain ⟨k5, k6⟩ := relS.putG (ob' := .ins C (putU f u (fs.map (·.1)) us).1 (putU f u (fs.map (·.1)) us).2) (o' := .ins C0 dx (putF f v fs)) hG hρ e2 (fun xs z => by cases z) (fun o u z => by cases z)
                    ⟨C0, dx, putF f v fs, g, upd_same, p1, p2.frame (List.prefix_refl _) kB fun _ _ _ z => z⟩
                  exact h σ ρ1 _ (e1.trans k6) k5
              · cases hr'
        · exact h.elim
      · exact h.elim
theorem psi_setF {cl : List Str} {f : Str} (hv : PEI X true W e I) (ho : PEI X true W o Io) (hc : HasF X cl f) (hs : swapsWith e (some (.Attribute o f pos')) pos.line X.env = pure false := by rfl) :
    PSI X W (.Assign [.Attribute o f pos'] e pos) (iSetF cl f I Io) := (ps_fld ho hv hs).weak fun D σ H q => setF_of hc q
end

section
variable {X : Cx} {W : WX} {m : Bool} {F : FS} {Is : List ES}
/-- the class and the fields of an instance, changing or not -/
def insU (a : ASt) : U → Option (Str × List Str)
  | .adr n => match a.G[n]? with
    | some (.ins C ns _) => some (C, ns)
    | _ => none
  | .ins C ns _ => some (C, ns)
  | _ => none
def iMeth (C m : Str) (F : FS) (Io : ES) (Is : List ES) : ES := fun a => (Io a).bind fun r a1 => match r with
  | .val u => (match insU a1 u with
    | some (C', ns) => if C' = C ∧ m ∉ ns then (iArgs Is a1).bind fun rs a2 => (match frzL rs with
      | some us => (F (u :: us) a2.G).res a2
      | none => .bad) else .bad
    | none => .bad)
  | _ => .bad
theorem lookup_none {f : Str} : ∀ {fs : List (Str × V)}, f ∉ fs.map (·.1) → fs.lookup f = none
  | [], _ => rfl
  | (g, v) :: fs, h => by
    rw [List.lookup_cons]
    have e : (f == g) = false := by
      rw [beq_eq_false_iff_ne]
      intro z
      exact h (by simp [z])
    rw [e]
    exact lookup_none fun z => h (by simp only [List.map_cons]; exact List.mem_cons_of_mem _ z)
theorem insU_rep {c : Kc} {S : Addr → Prop} {ρ : List Addr} {a : ASt} {σ : St} {H : Hp} {u : U} {v : V} {C : Str} {ns : List Str} {m : Str} (rel : Rel c S ρ a σ H) (h : Rep c ρ H (Bad S ρ a σ) u v) (e : insU a u = some (C, ns)) (hm : m ∉ ns) :
    ∃ p C0 dx fs, v = .ref p ∧ H p = some (.ins C0 dx fs) ∧ c.mg C = some (.ref C0) ∧ fs.lookup m = none := by
  cases u with
  | adr n =>
    cases h with
    | adr hρ =>
      rename_i p
      have e' : (match a.G[n]? with | some (.ins C ns _) => some (C, ns) | _ => none) = some (C, ns) := e
      split at e'
      · rename_i C' ns' us hG
        cases e'
        obtain ⟨C1, dx, fs, g1, e2, en, r2⟩ := rel.obj n _ p hG hρ
        exact ⟨p, C1, dx, fs, rfl, e2, g1, lookup_none (by rw [← en]; exact hm)⟩
      · cases e'
  | ins C' ns' us =>
    cases e
    cases h with
    | ins g1 e2 n r =>
      exact ⟨_, _, _, _, rfl, e2, g1, lookup_none hm⟩
  | _ => cases e
theorem meth_of {c : Kc} {C mt : Str} {Io : ES} {σ : St} {H : Hp} {Q : VK} (h : tI c m W (iMeth C mt F Io Is) σ H Q) :
    tI c m W Io σ H (fun v H1 => ∃ p C0 dx fs, v = .ref p ∧ H1 p = some (.ins C0 dx fs) ∧ c.mg C = some (.ref C0) ∧ fs.lookup mt = none ∧ tAll c m W Is σ H1 fun vs H2 => spI c (Is.length + 1) F (v :: vs) H2 Q (fun cls d H' => W cls d σ H')) := by
  obtain ⟨S, ρ, a, rel, h⟩ := h
  refine ⟨S, ρ, a, rel, ?_⟩
  unfold iMeth at h
  cases hI : Io a with
  | bad => rw [hI] at h; exact h
  | exc e a1 => rw [hI] at h; exact h
  | ok r a1 =>
    rw [hI] at h
    simp only [Out.bind] at h
    intro v ρ1 H1 e1 rel1 rr1 hn1
    cases r with
    | val u =>
      simp only at h
      have relS : Rel c S ρ1 a1 σ H1 := rel1.sub fun p z => .inl z
      cases hu : insU a1 u with
      | none => rw [hu] at h; exact h.elim
      | some q =>
        obtain ⟨C', ns⟩ := q
        rw [hu] at h
        simp only at h
        split at h
        · rename_i hc
          obtain ⟨rfl, hm⟩ := hc
          obtain ⟨p, C0, dx, fs, rfl, e2, g, l⟩ := insU_rep relS rr1 hu hm
          refine ⟨p, C0, dx, fs, rfl, e2, g, l, tAll_of Is relS ?_⟩
          cases hA : iArgs Is a1 with
          | bad => rw [hA] at h; exact h
          | exc e a2 => rw [hA] at h; exact fun cls d ρ2 H2 x rel xr => h cls d ρ2 H2 (e1.trans x) rel xr
          | ok rs a2 =>
            rw [hA] at h
            simp only at h
            intro vs ρ2 H2 e3 rel2 rr2 hn2
            cases hf : frzL rs with
            | none => rw [hf] at h; exact h.elim
            | some us =>
              rw [hf] at h
              have relS2 : Rel c S ρ2 a2 σ H2 := rel2.sub fun p z => .inl z
              have rl := frzL_rep rel2 rr2 hf
              have r0 : Rep c ρ2 H2 (Bad S ρ2 a2 σ) u (.ref p) := e3.rep (fun p z => z) rr1
              have hl : (V.ref p :: vs).length = Is.length + 1 := by rw [List.length_cons, ← rr2.length, iArgs_length hA]
              exact ⟨hl, _, ρ2, a2.G, u :: us, relS2.toC, (RepL.cons r0 rl).bad toC_bad, DoneF.of relS2 (DoneE.after (e1.trans e3) (fun p z => z) h)⟩
        · exact h.elim
    | _ => exact h.elim
end
end IL
end T_IL15
section T_IL16
set_option Elab.async false
set_option linter.all false
set_option maxRecDepth 100000
namespace IL
open PySem PySem.Spec L2
open PyProof.Rows hiding St

/-! ### objects that nobody knows any more are forgotten -/
mutual
def U.low (n : Nat) : U → Bool
  | .tup us => lowL n us
  | .lst us => lowL n us
  | .scr us => lowL n us
  | .dct ks us => lowL n ks && lowL n us
  | .adr k => decide (k < n)
  | .ins _ _ us => lowL n us
  | _ => true
def lowL (n : Nat) : List U → Bool
  | [] => true
  | u :: us => u.low n && lowL n us
end
def Ob.low (n : Nat) : Ob → Bool
  | .lst us => lowL n us
  | .dct ks us => lowL n ks && lowL n us
  | .ins _ _ us => lowL n us
def R.low (n : Nat) : R → Bool
  | .val u => u.low n
  | .own us => lowL n us
  | .dic ks us => lowL n ks && lowL n us
  | .slot _ => true
section
variable {m mm : Bool} {c : Kc} {S T : Addr → Prop} {ρ ρ1 ρ0 : List Addr} {a a1 a0 : ASt} {σ σ1 σ0 : St} {H H1 H0 : Hp} {W : WX} {G G1 : List Ob} {n : Nat} {B B' : Addr → Prop}
mutual
theorem Rep.trim (hn : ∀ k p, k < n → ρ1[k]? = some p → ρ[k]? = some p) (hb : ∀ q o, H q = some o → B' q → B q) : ∀ {u : U} {v : V}, Rep c ρ1 H B u v → u.low n = true → Rep c ρ H B' u v
  | _, _, .non, _ => .non
  | _, _, .bl b, _ => .bl b
  | _, _, .int i, _ => .int i
  | _, _, .str x, _ => .str x
  | _, _, .tup h r, l => .tup h (RepL.trim hn hb r l)
  | _, _, .lst h nb r, l => .lst h (fun z => nb (hb _ _ h z)) (RepL.trim hn hb r l)
  | _, _, .lsf h r, l => .lsf h (RepL.trim hn hb r l)
  | _, _, .dct (ks := ks) (us := us) h nb r1 r2, l => by
    have l : (lowL n ks && lowL n us) = true := l
    rw [Bool.and_eq_true] at l
    exact .dct h (fun z => let ⟨_, e⟩ := h.has; nb (hb _ _ e z)) (RepL.trim hn hb r1 l.1) (RepL.trim hn hb r2 l.2)
  | _, _, .adr h, l => .adr (hn _ _ (of_decide_eq_true l) h)
  | _, _, .fn h, _ => .fn h
  | _, _, .ins g h nb r, l => .ins g h (fun z => nb (hb _ _ h z)) (RepL.trim hn hb r l)
theorem RepL.trim (hn : ∀ k p, k < n → ρ1[k]? = some p → ρ[k]? = some p) (hb : ∀ q o, H q = some o → B' q → B q) : ∀ {us : List U} {vs : List V}, RepL c ρ1 H B us vs → lowL n us = true → RepL c ρ H B' us vs
  | _, _, .nil, _ => .nil
  | _, _, .cons (u := u) (us := us) h t, l => by
    have l : (u.low n && lowL n us) = true := l
    rw [Bool.and_eq_true] at l
    exact .cons (Rep.trim hn hb h l.1) (RepL.trim hn hb t l.2)
end
mutual
theorem Rep.isLow (hl : ρ.length ≤ n) : ∀ {u : U} {v : V}, Rep c ρ H B u v → u.low n = true
  | _, _, .non => rfl
  | _, _, .bl b => rfl
  | _, _, .int i => rfl
  | _, _, .str x => rfl
  | _, _, .tup h r => RepL.isLow hl r
  | _, _, .lst h nb r => RepL.isLow hl r
  | _, _, .lsf h r => RepL.isLow hl r
  | _, _, .dct (ks := ks) (us := us) h nb r1 r2 => by
    show (lowL n ks && lowL n us) = true
    rw [RepL.isLow hl r1, RepL.isLow hl r2]
    rfl
  | _, _, .adr (n := k) h => by
    show decide (k < n) = true
    have : k < ρ.length := (List.getElem?_eq_some_iff.mp h).1
    exact decide_eq_true (by omega)
  | _, _, .fn h => rfl
  | _, _, .ins g h nb r => RepL.isLow hl r
theorem RepL.isLow (hl : ρ.length ≤ n) : ∀ {us : List U} {vs : List V}, RepL c ρ H B us vs → lowL n us = true
  | _, _, .nil => rfl
  | _, _, .cons (u := u) (us := us) h t => by
    show (u.low n && lowL n us) = true
    rw [Rep.isLow hl h, RepL.isLow hl t]
    rfl
end
theorem ObRep.trim (hn : ∀ k p, k < n → ρ1[k]? = some p → ρ[k]? = some p) (hb : ∀ q o, H q = some o → B' q → B q) {p : Addr} {ob : Ob} (h : ObRep c ρ1 H B p ob) (l : ob.low n = true) : ObRep c ρ H B' p ob := by
  cases ob with
  | lst us =>
    obtain ⟨vs, e, r⟩ := h
    exact ⟨vs, e, r.trim hn hb l⟩
  | dct ks us =>
    have l : (lowL n ks && lowL n us) = true := l
    rw [Bool.and_eq_true] at l
    obtain ⟨kvs, e, r1, r2⟩ := h
    exact ⟨kvs, e, r1.trim hn hb l.1, r2.trim hn hb l.2⟩
  | ins C ns us =>
    obtain ⟨C0, dx, fs, g, e, en, r⟩ := h
    exact ⟨C0, dx, fs, g, e, en, r.trim hn hb l⟩
/-- the objects behind the n-th are forgotten: those were new -/
theorem Rel.cut (rel : Rel c S ρ a σ H) (x : Ext m ρ a σ H ρ1 { a with G := G1 } σ H1) (rel1 : Rel c S ρ1 { a with G := G1 } σ H1) (hl : (G1.take a.G.length).all (Ob.low a.G.length) = true) (hle : a.G.length ≤ G1.length) :
    Rel c S ρ { a with G := G1.take a.G.length } σ H1 ∧ Ext m ρ a σ H ρ { a with G := G1.take a.G.length } σ H1 ∧ (∀ q o, H1 q = some o → Bad S ρ { a with G := G1.take a.G.length } σ q → Bad S ρ1 { a with G := G1 } σ q) ∧ (∀ k p, k < a.G.length → ρ1[k]? = some p → ρ[k]? = some p) := by
  have hn : ∀ k p, k < a.G.length → ρ1[k]? = some p → ρ[k]? = some p := fun k p hk e => by
    obtain ⟨t, rfl⟩ := x.pre
    rw [List.getElem?_append_left (by rw [rel.glen]; exact hk)] at e
    exact e
  have hb : ∀ (S : Addr → Prop) q o, H1 q = some o → Bad S ρ { a with G := G1.take a.G.length } σ q → Bad S ρ1 { a with G := G1 } σ q := fun S q o _ z => by
    rcases z with z | z | z
    · exact .inl z
    · exact .inr (.inl (x.pre.subset z))
    · exact .inr (.inr z)
  have x0 : Ext m ρ a σ H ρ { a with G := G1.take a.G.length } σ H1 := ⟨List.prefix_refl _, x.keep, x.there, x.tup, x.frz, fun q z => .inl z, fun q z => .inl z⟩
  refine ⟨⟨fun i u e => ?_, fun i us e => ?_, rel.inj, ?_, fun k ob p e1 e2 => ?_, rel.nd, rel.rs, fun p z => rel1.sall p z, rel.slen⟩, x0, hb S, hn⟩
  · obtain ⟨v, e1, r⟩ := rel.val i u e
    obtain ⟨v2, e2, r2⟩ := rel1.val i u e
    exact ⟨v2, e2, r2.trim hn (hb S) (r.isLow (Nat.le_of_eq rel.glen))⟩
  · obtain ⟨p, vs, e1, e2, r, n1, n2⟩ := rel.own i us e
    obtain ⟨p', vs', e3, e4, r', n3, n4⟩ := rel1.own i us e
    exact ⟨p', vs', e3, e4, r'.trim hn (hb S) (r.isLow (Nat.le_of_eq rel.glen)), fun z => n3 (x.pre.subset z), n4⟩
  · show ρ.length = (G1.take a.G.length).length
    rw [List.length_take, Nat.min_eq_left hle, rel.glen]
  · have e1 : (G1.take a.G.length)[k]? = some ob := e1
    have hk : k < a.G.length := by
      rcases Nat.lt_or_ge k a.G.length with z | z
      · exact z
      · rw [List.getElem?_eq_none (by rw [List.length_take]; omega)] at e1
        cases e1
    have hob : ob.low a.G.length = true := List.all_eq_true.mp hl ob (List.mem_of_getElem? e1)
    rw [List.getElem?_take_of_lt hk] at e1
    exact (rel1.obj k ob p e1 (pre_get x.pre e2)).trim hn (hb S) hob
end
/-- a def's end: what it made beside its result is forgotten -/
def OutF.cut (n : Nat) : OutF → OutF
  | .ret r G => if n ≤ G.length ∧ r.low n = true ∧ (G.take n).all (Ob.low n) = true then .ret r (G.take n) else .bad
  | o => o
theorem RepR.trim {c : Kc} {S : Addr → Prop} {ρ ρ1 : List Addr} {a a1 : ASt} {σ : St} {H : Hp} {n : Nat} (hn : ∀ k p, k < n → ρ1[k]? = some p → ρ[k]? = some p) (hb : ∀ (S : Addr → Prop) q o, H q = some o → Bad S ρ a σ q → Bad S ρ1 a1 σ q) {r : R} {v : V}
    (h : RepR c S ρ1 a1 σ H r v) (l : r.low n = true) : RepR c S ρ a σ H r v := by
  cases r with
  | slot k => exact h
  | val u => exact Rep.trim hn (hb S) h l
  | own us =>
    obtain ⟨p, vs, e, e1, r, n⟩ := h
    exact ⟨p, vs, e, e1, r.trim hn (hb _) l, fun z => n (hb S p _ e1 z)⟩
  | dic ks us =>
    have l : (lowL n ks && lowL n us) = true := l
    rw [Bool.and_eq_true] at l
    obtain ⟨p, kvs, e, e1, r1, r2, n⟩ := h
    obtain ⟨o, eo⟩ := e1.has
    exact ⟨p, kvs, e, e1, r1.trim hn (hb _) l.1, r2.trim hn (hb _) l.2, fun z => n (hb S p _ eo z)⟩
theorem DoneF.cut {c : Kc} {S : Addr → Prop} {ρ : List Addr} {G : List Ob} {H : Hp} {o : OutF} {Q : VK} {E : XK} (rel : Rel c S ρ (g0 G) [] H) (h : DoneF c S ρ G H (o.cut G.length) Q E) : DoneF c S ρ G H o Q E := by
  cases o with
  | bad => exact h
  | exc e G' => exact h
  | ret r G' =>
    by_cases hh : G.length ≤ G'.length ∧ r.low G.length = true ∧ (G'.take G.length).all (Ob.low G.length) = true
    · have h : DoneF c S ρ G H (if G.length ≤ G'.length ∧ r.low G.length = true ∧ (G'.take G.length).all (Ob.low G.length) = true then .ret r (G'.take G.length) else .bad) Q E := h
      rw [if_pos hh] at h
      obtain ⟨h1, h2, h3⟩ := hh
      intro v ρ' H' x rel' rr hn
      have hS : ∀ q, orS S (fp r v) q → S q ∨ H q = none := fun q z => z.imp id (hn q)
      have hx : Ext true ρ (g0 G) [] H ρ' { (g0 G) with G := G' } [] H' := x
      have relS : Rel c S ρ' { (g0 G) with G := G' } [] H' := rel'.sub fun p z => .inl z
      obtain ⟨k1, k2, k3, k4⟩ := rel.cut hx relS h3 h1
      have hb : ∀ (S : Addr → Prop) q o, H' q = some o → Bad S ρ (g0 (G'.take G.length)) [] q → Bad S ρ' (g0 G') [] q := fun S q o _ z => by
        rcases z with z | z | z
        · exact .inl z
        · exact .inr (.inl (x.pre.subset z))
        · exact .inr (.inr z)
      refine h v ρ H' k2 ⟨fun i u e => ?_, fun i us e => ?_, fun i j us ws p e => ?_, k1.glen, fun k ob p e1 e2 => ?_, rel.nd, fun p hp z => ?_, fun p z => rel'.sall p z, rfl⟩ (rr.trim (n := G.length) k4 hb h2) hn
      · have e' : ([] : List Sl)[i]? = some (.val u) := e
        simp at e'
      · have e' : ([] : List Sl)[i]? = some (.own us) := e
        simp at e'
      · have e' : ([] : List Sl)[i]? = some (.own us) := e
        simp at e'
      · have e1 : (G'.take G.length)[k]? = some ob := e1
        have hk : k < G.length := by
          rcases Nat.lt_or_ge k G.length with z | z
          · exact z
          · rw [List.getElem?_eq_none (by rw [List.length_take]; omega)] at e1
            cases e1
        have hob : ob.low G.length = true := List.all_eq_true.mp h3 ob (List.mem_of_getElem? e1)
        rw [List.getElem?_take_of_lt hk] at e1
        exact (rel'.obj k ob p e1 (pre_get x.pre e2)).trim k4 (hb _) hob
      · exact rel'.rs p (x.pre.subset hp) z
    · have h : DoneF c S ρ G H (if G.length ≤ G'.length ∧ r.low G.length = true ∧ (G'.take G.length).all (Ob.low G.length) = true then .ret r (G'.take G.length) else .bad) Q E := h
      rw [if_neg hh] at h
      exact h.elim
/-- a def's body, its end cleared -/
def runC (n : Nat) (B : SS) : FS := fun us G => (runB n B us G).cut G.length
end IL
end T_IL16
section T_IL17
set_option Elab.async false
set_option linter.all false
set_option maxRecDepth 100000
namespace IL
open PySem PySem.Spec L2
open PyProof.Rows hiding St

/-! ### what a def of the program keeps, wherever it is called (no repr under way) -/
def FnG (P : Program) (w : World) (K : PySem.W.Frag) (mg : Str → Option Value) (base : Heap) (k : Nat) (f : Addr) (n : Nat) (F : FS) : Prop :=
  ∀ (ar : Around) (out : List Env) (sh : Shared) (h : Hp) (us : List Value) (vs : List V) (q : VK) (x : XK), Room k ar → ar.guards = some [] → Env0 P w K mg base ar out sh h → Vals vs us → spI ⟨K, mg⟩ n F vs h q x →
    codeAny (model P w) ar (.call (.ref f) { pos := us, kw := [] }) (CR (L2.CX P w) out P w h sh q x) sh
theorem FnG.mono {P : Program} {w : World} {K : PySem.W.Frag} {mg : Str → Option Value} {base : Heap} {j k : Nat} {f : Addr} {n : Nat} {F : FS} (g : FnG P w K mg base j f n F) (h : j ≤ k) : FnG P w K mg base k f n F := fun ar out sh hp us vs q x r => g ar out sh hp us vs q x (r.mono h)
section
variable {X : Cx} {W : WX} {m : Bool} {k n : Nat} {f : Addr} {F : FS}
/-- the call's value and state, for the caller -/
theorem ret_to {pins : List (Addr × Obj)} {τ : St} {h : Hp} {sh : Shared} {q : VK} (IV : Inv X pins τ h sh) (tk : Takes X W) {r : Result} {s2 : Shared} (hq : CR (L2.CX X.prog X.w) X.stack X.prog X.w h sh q (WE W τ) r s2) :
    match r with | .ok (.ret u) => EP X pins τ q u s2 | .ok _ => False | .error e => X.xe e s2 := by
  rcases r with e | (_ | _ | _ | u)
  · exact passAt tk τ pins h sh e s2 IV hq
  · exact hq
  · exact hq
  · exact hq
  · exact IV.after hq
theorem run_fnG {pins : List (Addr × Obj)} {τ : St} {h : Hp} {sh : Shared} {q : VK} {us : List Value} {vs : List V} (g : FnG X.prog X.w X.K X.mg X.base k f n F) (hr : Room k X.A) (hG : X.A.guards = some []) (tk : Takes X W) (IV : Inv X pins τ h sh) (r : Vals vs us)
    (hs : spI (kc X) n F vs h q (WE W τ)) : wpAny (model X.prog X.w) X.A (call (.ref f) us) (EP X pins τ q) X.xe sh := by
  refine wpAny_call (codeAny_mono (g X.A X.stack sh h us vs q (WE W τ) hr hG IV.env0 r hs) fun r2 s2 hq => ?_)
  have z := ret_to IV tk hq
  rcases r2 with e | (_ | _ | _ | u)
  · exact z
  · exact z
  · exact z
  · exact z
  · exact z
end
/-- a def by its body -/
theorem fnG_of {P : Program} {w : World} {K : PySem.W.Frag} {mg : Str → Option Value} {base : Heap} {x qual : Str} {st : Stmt} {f : Addr} {fd : FuncData} {N ps : List Str} {k : Nat} {B : SS} {F : FS} (FD : FunD K x qual (defArgs st) (defBody st) (defScope st) [] [] f fd) (SC : FnScope N ps (defScope st))
    (hbind : Binds K fd ps []) (hF : F = runB N.length B ∨ F = runC N.length B)
    (hb : ∀ (cdv : Value) (A : Around) (outer : List Env) (s : Shared) (H : Hp) (E : XK), Room k (A.deeper (envOfC qual (defScope st) s.heap.objs.size f cdv)) → (A.deeper (envOfC qual (defScope st) s.heap.objs.size f cdv)).guards = some [] →
      PSSI (cxOf (L2.CX P w) P w K mg base N qual (defScope st) f cdv A outer s H E) (fun cls d _ H => E cls d H) (defBody st) B) :
    FnG P w K mg base (k + 1) f ps.length F := by
  intro ar out sh h us vs q xx hr hG e0 rv hs
  obtain ⟨hl, S, ρ, G, ws, rel, rl, hs⟩ := hs
  have KH : K.In sh.heap := e0.mod.kin.keeps fun b o e => (e0.bs b o e).1
  have hul : us.length = ps.length := by rw [← rv.length]; exact hl
  have bd : BindsTo sh fd { pos := us, kw := [] } (ps.zip us) := by
    have z := hbind sh us KH (by rw [List.append_nil]; exact hul)
    rw [List.append_nil] at z
    exact z
  have hs2 : DoneF ⟨K, mg⟩ S ρ G h (runB N.length B ws G) q xx := by
    rcases hF with rfl | rfl
    · exact hs
    · exact DoneF.cut rel hs
  obtain ⟨oc, od, dV, kV, doc, pm, an, cdv, ct, osl, rfl, lk, hcd, _, _⟩ := FD.ex
  have nolim : sh.heap.NoLimit := e0.mod.nolimit.keeps fun b o e => (e0.bs b o e).1
  have kinds : ∀ y ∈ ps.zip us, (defScope st).names.lookup y.1 = some .local ∨ ((defScope st).names.lookup y.1 = some .cell ∧ ((cellsFrom (sh.heap.objs.size + 1) (defScope st).names []).lookup y.1).isSome = true) := by
    rintro ⟨nm, vv⟩ hy
    exact (SC.par nm (List.of_mem_zip hy).1).imp id fun z => ⟨z, PySem.W.cellsFrom_some _ _ _ (.inl z)⟩
  refine codeAny_call_function hr.depth (KH _ _ lk) rfl SC.co SC.gen rfl (PySem.W.codeRec_of KH hcd) (bd _ _ _ _ (wpAny_newFunctionEnv_cells SC.kind kinds fun env he s1 ic => ?_))
  subst he
  refine ⟨nolim.keeps ic.toInCall.keep, codeAny_func ?_⟩
  have J := inv_start (CX := L2.CX P w) (E := xx) (cd := cdv) SC hr.hd e0 hl rv ic
  refine wpAny_mono ((hb cdv ar out sh h xx (hr.deeper _) (by exact hG)).run [] s1 (L2.start N vs) h { nx := fun _ H' => q .non H', rt := q } J (body_of rel rl hs2)) (fun fl s2 hz => ?_) fun e s2 hz => hz
  cases fl with
  | brk => obtain ⟨_, _, _, z⟩ := hz; exact z.elim
  | cont => obtain ⟨_, _, _, z⟩ := hz; exact z.elim
  | next =>
    obtain ⟨τ, H2, J2, z⟩ := hz
    exact ⟨.non, H2, J2.os, J2.bare, J2.base, J2.hok, rfl, z⟩
  | ret u =>
    obtain ⟨v, τ, H2, J2, ru, z⟩ := hz
    exact ⟨v, H2, J2.os, J2.bare, J2.base, J2.hok, ru, z⟩
/-- a def, and what it tells -/
structure DefOk (P : Program) (w : World) (K : PySem.W.Frag) (mg : Str → Option Value) (base : Heap) (k : Nat) (x : Str) (n : Nat) (F : FS) : Prop where
  ex : ∃ f : Addr, mg x = some (.ref f) ∧ PySem.W.keepIn K (.ref f) = true ∧ FnG P w K mg base k f n F
/-- a method of an instance -/
structure MethOk (P : Program) (w : World) (K : PySem.W.Frag) (mg : Str → Option Value) (base : Heap) (k : Nat) (C m : Str) (n : Nat) (F : FS) : Prop where
  ex : ∃ C0 f : Addr, mg C = some (.ref C0) ∧ Cls K C0 ∧ Meth K C0 m f ∧ FnG P w K mg base k f n F
structure MakeOk (P : Program) (w : World) (K : PySem.W.Frag) (mg : Str → Option Value) (base : Heap) (k : Nat) (C : Str) (n : Nat) (F : FS) : Prop where
  ex : ∃ C0 f : Addr, mg C = some (.ref C0) ∧ Mk K C0 f ∧ FnG P w K mg base k f n F
section
variable {X : Cx} {W : WX} {m : Bool} {k : Nat} {o e : Expr} {es : List Expr} {I Io : ES} {Is : List ES} {x C mt f : Str} {n : Nat} {F : FS} {p pos apos : Pos}
theorem pei_call (D : DefOk X.prog X.w X.K X.mg X.base k x n F) (hr : Room k X.A) (hG : X.A.guards = some []) (tk : Takes X W) (hg : Gl X x) (ha : PAI X m W (e :: es) Is) (hn : Is.length = n := by rfl) (hdb : (x == ("__debug__" : Str)) = false := by decide)
    (he : starEach (e :: es) X.env = (false, eval e X.env) :: starEach es X.env := by rfl) (hpl : (backTo pos (starEach es X.env)).any (·.1) = false := by rfl) :
    PEI X m W (.Call (.Name x p) (e :: es) [] pos) (iCallF F Is) := ⟨fun pins s σ H Q IV q => by
  obtain ⟨fa, hm, hk, FG⟩ := D.ex
  subst hn
  exact wpAny_Call_Name_kw (ld_glob IV hg hm (PySem.W.callWith_K (h₀ := X.base) IV.ok.mod.kin hk (thn (ha.run pos pins s σ H _ IV (call_args q)) fun us s1 ⟨vs, H1, I1, r, q1⟩ => ⟨I1.kIn, run_fnG FG hr hG tk I1 r q1⟩) he hpl) hdb)⟩
theorem pei_call0 (D : DefOk X.prog X.w X.K X.mg X.base k x 0 F) (hr : Room k X.A) (hG : X.A.guards = some []) (tk : Takes X W) (hg : Gl X x) (hdb : (x == ("__debug__" : Str)) = false := by decide) :
    PEI X m W (.Call (.Name x p) [] [] pos) (iCallF F []) := ⟨fun pins s σ H Q IV q => by
  obtain ⟨fa, hm, hk, FG⟩ := D.ex
  have q1 : spI (kc X) 0 F [] H Q (WE W σ) := call_args q
  exact wpAny_Call_Name_kw (ld_glob IV hg hm (PySem.W.callWith_K0 IV.kIn hk (run_fnG (us := []) FG hr hG tk IV .nil q1)) hdb)⟩
/-- o.m(e, ..) -/
theorem pei_meth {pl : Sem Bool} (D : MethOk X.prog X.w X.K X.mg X.base k C mt n F) (hr : Room k X.A) (hG : X.A.guards = some []) (tk : Takes X W) (ho : PEI X m W o Io) (ha : PAI X m W (e :: es) Is) (hn : Is.length + 1 = n)
    (hst : starEach (e :: es) X.env = (false, eval e X.env) :: starEach es X.env) (hpl : (backTo pos (starEach es X.env)).any (·.1) = false)
    (ht : eval (.Call (.Attribute o mt apos) (e :: es) [] pos) X.env = (do
      let ov ← eval o X.env
      standAt apos.atName
      let (f, first) ← holding [ov] (getMethod ov mt pl)
      callWith pos f first (backTo pos (starEach (e :: es) X.env)) (backToKw pos (keywordEach [] X.env)))) :
    PEI X m W (.Call (.Attribute o mt apos) (e :: es) [] pos) (iMeth C mt F Io Is) := ⟨fun pins s σ H Q IV q => by
  obtain ⟨C0, g, hm, c, hM, FG⟩ := D.ex
  subst hn
  refine PySem.W.methodCall_KW (pl := pl) (thn (ho.run pins s σ H _ IV (meth_of q)) fun u s1 ⟨x, H1, I1, rx, a, C1, dx, fs, ex, ea, hm1, l, q1⟩ => ?_) ht
  subst ex
  cases rx
  have hm1 : X.mg C = some (.ref C1) := hm1
  rw [hm] at hm1
  cases hm1
  exact getmeth_ok I1 ea c hM l (PySem.W.callWith_K (first := [.ref a]) (h₀ := X.base) I1.ok.mod.kin hM.kp (thn (ha.run pos pins s1 σ H1 _ I1 q1) fun us s2 ⟨vs, H2, I2, r, q2⟩ => ⟨I2.kIn, run_fnG (us := .ref a :: us) (vs := .ref a :: vs) FG hr hG tk I2 (.cons rfl r) q2⟩) hst hpl)⟩
theorem pei_meth0 {pl : Sem Bool} (D : MethOk X.prog X.w X.K X.mg X.base k C mt 1 F) (hr : Room k X.A) (hG : X.A.guards = some []) (tk : Takes X W) (ho : PEI X m W o Io)
    (ht : eval (.Call (.Attribute o mt apos) [] [] pos) X.env = (do
      let ov ← eval o X.env
      standAt apos.atName
      let (f, first) ← holding [ov] (getMethod ov mt pl)
      callWith pos f first (backTo pos (starEach [] X.env)) (backToKw pos (keywordEach [] X.env)))) :
    PEI X m W (.Call (.Attribute o mt apos) [] [] pos) (iMeth C mt F Io []) := ⟨fun pins s σ H Q IV q => by
  obtain ⟨C0, g, hm, c, hM, FG⟩ := D.ex
  refine PySem.W.methodCall_KW (pl := pl) (thn (ho.run pins s σ H _ IV (meth_of q)) fun u s1 ⟨x, H1, I1, rx, a, C1, dx, fs, ex, ea, hm1, l, q1⟩ => ?_) ht
  subst ex
  cases rx
  have hm1 : X.mg C = some (.ref C1) := hm1
  rw [hm] at hm1
  cases hm1
  exact getmeth_ok I1 ea c hM l (PySem.W.callWith_K0 (first := [.ref a]) I1.kIn hM.kp (run_fnG (us := [.ref a]) (vs := [.ref a]) FG hr hG tk I1 (.cons rfl .nil) q1))⟩
end

/-! ### a new instance -/
def iMake (C : Str) (F : FS) (Is : List ES) : ES := fun a => (iArgs Is a).bind fun rs a1 => match frzL rs with
  | some us => (match F (.adr a1.G.length :: us) (a1.G ++ [.ins C [] []]) with
    | .ret (.val .non) G' => .ok (.val (.adr a1.G.length)) { a1 with G := G' }
    | .exc e G' => .exc e { a1 with G := G' }
    | _ => .bad)
  | none => .bad
section
variable {m mm : Bool} {c : Kc} {S T : Addr → Prop} {ρ ρ1 : List Addr} {a a1 : ASt} {σ : St} {H H1 : Hp} {W : WX} {F : FS} {Is : List ES} {E : XK}
theorem make_of {C : Str} {C0 : Addr} {Q : VK} (g : c.mg C = some (.ref C0)) (h : tI c m W (iMake C F Is) σ H Q) : tAll c m W Is σ H (fun vs H1 => ∀ x dx, H1 x = none → H1 dx = none → dx ≠ x →
    spI c (Is.length + 1) F (.ref x :: vs) (upd (upd H1 dx (.own x)) x (.ins C0 dx [])) (fun v H2 => v = .non ∧ Q (.ref x) H2) (fun cls d H' => W cls d σ H')) := by
  obtain ⟨S, ρ, a, rel, h⟩ := h
  refine tAll_of Is rel ?_
  unfold iMake at h
  cases hA : iArgs Is a with
  | bad => rw [hA] at h; exact h
  | exc e a1 => rw [hA] at h; exact h
  | ok rs a1 =>
    rw [hA] at h
    simp only [Out.bind] at h
    intro vs ρ1 H1 e1 rel1 rr1 hn1 x dx hx hdx hne
    cases hf : frzL rs with
    | none => rw [hf] at h; exact h.elim
    | some us =>
      rw [hf] at h
      simp only at h
      have relS : Rel c S ρ1 a1 σ H1 := rel1.sub fun p z => .inl z
      have rl := frzL_rep rel1 rr1 hf
      have hx1 : upd H1 dx (.own x) x = none := by rw [upd_ne (fun z => hne z.symm)]; exact hx
      have nx : ¬ Bad S ρ1 a1 σ x := relS.fresh hx
      have relA := (relS.new (o := .own x) hdx).new (o := .ins C0 dx []) hx1
      have relA' : Rel c (orS S fun q => q = x) ρ1 a1 σ (upd (upd H1 dx (.own x)) x (.ins C0 dx [])) := relA.sub fun p z => z.elim (fun z => .inl (.inl z)) .inr
      have relB := relA'.alloc (ob := .ins C [] []) ⟨C0, dx, [], g, upd_same, rfl, .nil⟩ nx
      have xA : Ext m ρ1 a1 σ H1 ρ1 a1 σ (upd (upd H1 dx (.own x)) x (.ins C0 dx [])) := (Ext.new hdx).trans (Ext.new hx1)
      have xB := xA.alloc (ob := .ins C [] []) hx
      have hl : (V.ref x :: vs).length = Is.length + 1 := by rw [List.length_cons, ← rr1.length, iArgs_length hA]
      have r0 : Rep c (ρ1 ++ [x]) (upd (upd H1 dx (.own x)) x (.ins C0 dx [])) (Bad S (ρ1 ++ [x]) { a1 with G := a1.G ++ [.ins C [] []] } σ) (.adr a1.G.length) (.ref x) := .adr (by rw [← relS.glen]; simp)
      refine ⟨hl, _, ρ1 ++ [x], a1.G ++ [.ins C [] []], .adr a1.G.length :: us, relB.toC, (RepL.cons r0 (xB.repL (fun p z => z) rl)).bad toC_bad, DoneF.of (m := m) (W := W) relB ?_⟩
      have h := DoneE.after e1 (fun p z => z) h
      cases hF : F (.adr a1.G.length :: us) (a1.G ++ [.ins C [] []]) with
      | bad => rw [hF] at h; exact h
      | exc e G' => rw [hF] at h; exact fun cls d ρ' H' x2 rel2 xr => h cls d ρ' H' (xB.trans x2) rel2 xr
      | ret r G' =>
        rw [hF] at h
        cases r with
        | val u =>
          cases u with
          | non =>
            intro v ρ' H' x2 rel2 rr2 hn2
            have rv : Rep c ρ' H' _ .non v := rr2
            cases rv
            refine ⟨rfl, h (.ref x) ρ' H' (xB.trans x2) (rel2.sub fun p z => z) (.adr ?_) fun q z => z.elim⟩
            exact pre_get x2.pre (by rw [← relS.glen]; simp)
          | _ => exact h.elim
        | _ => exact h.elim
end
theorem make_guards {A : Around} {C : Addr} {us : List Value} {kw : List (Str × Value)} : (A.under (.builtin "type.__call__" ⟨.ref C :: us, kw⟩)).guards = A.guards := by
  first | rfl | simp [Around.under, Code.guards, Code.isGuard, guardIds, pushGuards]
section
variable {X : Cx} {W : WX} {m : Bool} {k : Nat} {o e : Expr} {es : List Expr} {I J : ES} {Is : List ES} {x C f : Str} {n : Nat} {F : FS} {p pos apos : Pos} {E : XK}
theorem run_makeG {C0 fI : Addr} {pins : List (Addr × Obj)} {τ : St} {h : Hp} {sh : Shared} {q : VK} {us : List Value} {vs : List V} (M : Mk X.K C0 fI) (g : FnG X.prog X.w X.K X.mg X.base k fI n F) (hr : Room (k + 1) X.A) (hG : X.A.guards = some []) (tk : Takes X W) (IV : Inv X pins τ h sh) (rv : Vals vs us)
    (hs : ∀ x dx, h x = none → h dx = none → dx ≠ x → spI (kc X) n F (.ref x :: vs) (upd (upd h dx (.own x)) x (.ins C0 dx [])) (fun v H2 => v = .non ∧ q (.ref x) H2) (WE W τ)) :
    wpAny (model X.prog X.w) X.A (call (.ref C0) us) (EP X pins τ q) X.xe sh := by
  have z := hs (sh.heap.objs.size + 1) sh.heap.objs.size (IV.hok.fresh (Nat.le_succ _)) (IV.hok.fresh (Nat.le_refl _)) (Nat.ne_of_lt (Nat.lt_succ_self _))
  have J := Inv.made (C := C0) IV
  refine wpAny_call (make_map (f := fI) IV.kIn M.makes M.init (beq_iff_eq.mp M.fn) (codeAny_mono (g _ X.stack _ _ (Value.ref (sh.heap.objs.size + 1) :: us) (V.ref (sh.heap.objs.size + 1) :: vs) _ (WE W τ) (hr.make C0 us []) (make_guards.trans hG) (J.env0.make C0 us []) (.cons rfl rv) z) fun r2 s2 hq => ?_))
  have y := ret_to J tk hq
  rcases r2 with e | (_ | _ | _ | u)
  · exact y
  · exact y
  · exact y
  · exact y
  · obtain ⟨v, H2, J2, ru, ev, q2⟩ := y
    subst ev
    exact ⟨ru, .ref (sh.heap.objs.size + 1), H2, J2, rfl, q2⟩
theorem pei_make (D : MakeOk X.prog X.w X.K X.mg X.base k C n F) (hr : Room (k + 1) X.A) (hG : X.A.guards = some []) (tk : Takes X W) (hg : Gl X C) (ha : PAI X m W (e :: es) Is) (hn : Is.length + 1 = n := by rfl) (hdb : (C == ("__debug__" : Str)) = false := by decide)
    (he : starEach (e :: es) X.env = (false, eval e X.env) :: starEach es X.env := by rfl) (hpl : (backTo pos (starEach es X.env)).any (·.1) = false := by rfl) :
    PEI X m W (.Call (.Name C p) (e :: es) [] pos) (iMake C F Is) := ⟨fun pins s σ H Q IV q => by
  obtain ⟨C0, fI, hm, M, FG⟩ := D.ex
  subst hn
  exact wpAny_Call_Name_kw (ld_glob IV hg hm (PySem.W.callWith_K (h₀ := X.base) IV.ok.mod.kin M.kp (thn (ha.run pos pins s σ H _ IV (make_of hm q)) fun us s1 ⟨vs, H1, I1, r, q1⟩ => ⟨I1.kIn, run_makeG M FG hr hG tk I1 r q1⟩) he hpl) hdb)⟩
theorem pei_make0 (D : MakeOk X.prog X.w X.K X.mg X.base k C 1 F) (hr : Room (k + 1) X.A) (hG : X.A.guards = some []) (tk : Takes X W) (hg : Gl X C) (hdb : (C == ("__debug__" : Str)) = false := by decide) :
    PEI X m W (.Call (.Name C p) [] [] pos) (iMake C F []) := ⟨fun pins s σ H Q IV q => by
  obtain ⟨C0, fI, hm, M, FG⟩ := D.ex
  have q1 := make_of hm q
  exact wpAny_Call_Name_kw (ld_glob IV hg hm (PySem.W.callWith_K0 IV.kIn M.kp (run_makeG (us := []) (vs := []) M FG hr hG tk IV .nil q1)) hdb)⟩
end

/-! ### a call of what a name, a field holds -/
def iCallV (gs : List Str) (Φ : Ph) (Io : ES) (Is : List ES) : ES := fun a => (Io a).bind fun r a1 => match r with
  | .val (.fn g) => if gs.contains g then (iArgs Is a1).bind fun rs a2 => (match frzL rs with
    | some us => (Φ g us a2.G).res a2
    | none => .bad) else .bad
  | _ => .bad
section
variable {X : Cx} {W : WX} {m : Bool} {k : Nat} {o e : Expr} {es : List Expr} {I J Io : ES} {Is : List ES} {x C f : Str} {n i : Nat} {F : FS} {p pos apos : Pos} {E : XK} {gs : List Str} {Φ : Ph}
/-- what is known of such a call -/
theorem callV_of {c : Kc} {σ : St} {H : Hp} {Q : VK} (h : tI c m W (iCallV gs Φ Io Is) σ H Q) :
    tI c m W Io σ H (fun v H1 => ∃ g f, g ∈ gs ∧ v = .ref f ∧ c.mg g = some (.ref f) ∧ tAll c m W Is σ H1 fun vs H2 => spI c Is.length (Φ g) vs H2 Q (fun cls d H' => W cls d σ H')) := by
  obtain ⟨S, ρ, a, rel, h⟩ := h
  refine ⟨S, ρ, a, rel, ?_⟩
  unfold iCallV at h
  cases hI : Io a with
  | bad => rw [hI] at h; exact h
  | exc e a1 => rw [hI] at h; exact h
  | ok r a1 =>
    rw [hI] at h
    simp only [Out.bind] at h
    intro v ρ1 H1 e1 rel1 rr1 hn1
    split at h
    · rename_i g
      by_cases hg : gs.contains g = true
      · rw [if_pos hg] at h
        have relS : Rel c S ρ1 a1 σ H1 := rel1.sub fun p z => .inl z
        have rr1 : Rep c ρ1 H1 _ (.fn g) v := rr1
        cases rr1 with
        | fn hm =>
          refine ⟨g, _, List.contains_iff_mem.mp hg, rfl, hm, call_args (F := Φ g) ⟨S, ρ1, a1, relS, ?_⟩⟩
          exact DoneE.after e1 (fun p z => z) h
      · rw [if_neg hg] at h
        exact h.elim
    · exact h.elim
/-- f(e, ..), f a local name that holds a def -/
theorem pei_callL (D : ∀ g ∈ gs, DefOk X.prog X.w X.K X.mg X.base k g n (Φ g)) (hr : Room k X.A) (hG : X.A.guards = some []) (tk : Takes X W) (hN : X.N[i]? = some x) (hv : Vis X.env.scope x) (ha : PAI X m W (e :: es) Is) (hn : Is.length = n := by rfl)
    (hdb : (x == ("__debug__" : Str)) = false := by decide) (hcd : (x == ("__classdict__" : Str)) = false := by decide)
    (he : starEach (e :: es) X.env = (false, eval e X.env) :: starEach es X.env := by rfl) (hpl : (backTo pos (starEach es X.env)).any (·.1) = false := by rfl) :
    PEI X m W (.Call (.Name x p) (e :: es) [] pos) (iCallV gs Φ (iVar i) Is) := ⟨fun pins s σ H Q IV q => by
  subst hn
  have q2 := callV_of q
  refine wpAny_Call_Name_kw (thn ((pei_var (X := X) (m := m) (W := W) (pos := p) i hN hv hdb hcd).run pins s σ H _ IV q2) fun u s1 ⟨v, H1, I1, r1, g, f, hg, ev, hm, q3⟩ => ?_)
  obtain ⟨f', hm', hk, FG⟩ := (D g hg).ex
  have hm : X.mg g = some (.ref f) := hm
  rw [hm] at hm'
  cases hm'
  subst ev
  cases r1
  exact PySem.W.callWith_K (h₀ := X.base) I1.ok.mod.kin hk (thn (ha.run pos pins s1 σ H1 _ I1 q3) fun us s2 ⟨vs, H2, I2, r, q4⟩ => ⟨I2.kIn, run_fnG FG hr hG tk I2 r q4⟩) he hpl⟩
theorem getfm_ok {a C dx : Addr} {fs : List (Str × V)} {f : Str} {v : V} {pl : Sem Bool} {pins : List (Addr × Obj)} {s : Shared} {σ : St} {H : Hp} {A : Around} {E : Value → Shared → Prop} {Q : Value × List Value → Shared → Prop} (I : Inv X pins σ H s) (e : H a = some (.ins C dx fs)) (c : Cls X.K C) (n : NoAttr X.K C f) (l : fs.lookup f = some v)
    (h : ∀ u s', Inv X pins σ H s' → RelV v u → Q (u, []) s') : wpAny (model X.prog X.w) A (getMethod (.ref a) f pl) Q E s := by
  obtain ⟨mA, O, r, _, _, _⟩ := ins_get I.hok e
  obtain ⟨od, J, _⟩ := O.look
  exact PySem.W.method_usual (r := none) I.kIn J (PySem.W.plainGet_of (c.get f)).1 (PySem.W.plainGet_of (c.get f)).2 n rfl (getattr_ok I e c n l h)
/-- o.f(e, ..), f a field that holds a def -/
theorem pei_callF {cl : List Str} {pl : Sem Bool} (D : ∀ g ∈ gs, DefOk X.prog X.w X.K X.mg X.base k g n (Φ g)) (hr : Room k X.A) (hG : X.A.guards = some []) (tk : Takes X W) (ho : PEI X m W o Io) (hc : HasF X cl f) (ha : PAI X m W (e :: es) Is) (hn : Is.length = n)
    (hst : starEach (e :: es) X.env = (false, eval e X.env) :: starEach es X.env) (hpl : (backTo pos (starEach es X.env)).any (·.1) = false)
    (ht : eval (.Call (.Attribute o f apos) (e :: es) [] pos) X.env = (do
      let ov ← eval o X.env
      standAt apos.atName
      let (f, first) ← holding [ov] (getMethod ov f pl)
      callWith pos f first (backTo pos (starEach (e :: es) X.env)) (backToKw pos (keywordEach [] X.env)))) :
    PEI X m W (.Call (.Attribute o f apos) (e :: es) [] pos) (iCallV gs Φ (iFld cl f Io) Is) := ⟨fun pins s σ H Q IV q => by
  subst hn
  obtain ⟨S, ρ, a, rel, q2⟩ := callV_of q
  have q3 : tI (kc X) m W Io σ H (fun x H1 => ∃ p C dx fs v, x = .ref p ∧ H1 p = some (.ins C dx fs) ∧ Cls X.K C ∧ NoAttr X.K C f ∧ fs.lookup f = some v ∧ ∃ g f', g ∈ gs ∧ v = .ref f' ∧ X.mg g = some (.ref f') ∧ tAll (kc X) m W Is σ H1 fun vs H2 => spI (kc X) Is.length (Φ g) vs H2 Q (fun cls d H' => W cls d σ H')) := by
    refine ⟨S, ρ, a, rel, ?_⟩
    unfold iFld at q2
    cases hI : Io a with
    | bad => rw [hI] at q2; exact q2
    | exc e a1 => rw [hI] at q2; exact q2
    | ok r a1 =>
      rw [hI] at q2
      intro v ρ1 H1 e1 rel1 rr1 hn1
      simp only [Out.bind] at q2
      cases r with
      | val u =>
        simp only at q2
        cases hf : fldU a1 cl f u with
        | none => rw [hf] at q2; exact q2.elim
        | some w =>
          rw [hf] at q2
          have relS : Rel (kc X) S ρ1 a1 σ H1 := rel1.sub fun p z => .inl z
          obtain ⟨p, C, dx, fs, x, ev, eH, c1, c2, el, rx⟩ := fld_rep relS rr1 hc hf
          exact ⟨p, C, dx, fs, x, ev, eH, c1, c2, el, DoneE.here (r := .val w) relS (DoneE.after e1 (fun p z => z) q2) rx⟩
      | _ => exact q2.elim
  refine PySem.W.methodCall_KW (pl := pl) (thn (ho.run pins s σ H _ IV q3) fun u s1 ⟨x, H1, I1, rx, p, C, dx, fs, v, ex, ea, c, n, l, g, f', hg, ev, hm, q4⟩ => ?_) ht
  subst ex
  cases rx
  refine getfm_ok I1 ea c n l fun u2 s2 I2 r2 => ?_
  obtain ⟨f2, hm', hk, FG⟩ := (D g hg).ex
  rw [hm] at hm'
  cases hm'
  subst ev
  cases r2
  exact PySem.W.callWith_K (first := []) (h₀ := X.base) I2.ok.mod.kin hk (thn (ha.run pos pins s2 σ H1 _ I2 q4) fun us s3 ⟨vs, H2, I3, r, q5⟩ => ⟨I3.kIn, run_fnG FG hr hG tk I3 r q5⟩) hst hpl⟩
end
end IL
end T_IL17
section T_IL18
set_option Elab.async false
set_option linter.all false
set_option maxRecDepth 100000
set_option maxHeartbeats 2000000
namespace IL
open PySem PySem.Spec L2
open PyProof.Rows hiding St

theorem guards0 : callerA.guards = some [] := rfl
/-- nothing is known but the script -/
theorem only_rel {c : Kc} {H : Hp} : Rel c (fun _ => False) [] (g0 []) [] H := by
  refine ⟨fun i u e => ?_, fun i us e => ?_, fun i j us ws p e => ?_, rfl, fun n ob p e1 e2 => ?_, List.nodup_nil, fun p h => (List.not_mem_nil h).elim, fun p z => z.elim, rfl⟩
  · have e' : ([] : List Sl)[i]? = some (.val u) := e
    simp at e'
  · have e' : ([] : List Sl)[i]? = some (.own us) := e
    simp at e'
  · have e' : ([] : List Sl)[i]? = some (.own us) := e
    simp at e'
  · simp at e2
theorem rep_ints {c : Kc} {ρ : List Addr} {H : Hp} {B : Addr → Prop} : ∀ ns : List Int, RepL c ρ H B (ns.map U.int) (ns.map V.int)
  | [] => .nil
  | n :: ns => .cons (.int n) (rep_ints ns)
theorem law_sp {K : PySem.W.Frag} {mg : Str → Option Value} {F : FS} {H : Hp} {a : Addr} {ns : List Int} (hO : Only H) (hS : SqL K H a (ns.map V.int)) (hF : ∃ G, F [.scr (ns.map .int)] [] = .ret (.val (.bl true)) G) :
    spI ⟨K, mg⟩ 1 F [.ref a] H (fun v _ => v = .bl true) (fun _ _ _ => False) := by
  obtain ⟨G, hF⟩ := hF
  have hf : SqF K H a (ns.map V.int) := by
    rcases sqL_cases hS with h | h
    · rcases hO a with z | ⟨o, xs, z⟩
      · rw [z] at h; cases h
      · rw [z] at h; cases h
    · exact h
  refine ⟨rfl, fun _ => False, [], [], [.scr (ns.map .int)], only_rel, .cons (.lsf hf (rep_ints ns)) .nil, ?_⟩
  rw [hF]
  intro v ρ' H' x rel rr hn
  have r2 : Rep _ ρ' H' _ (.bl true) v := rr
  cases r2
  rfl
/-- the law's call, from the caller's place -/
theorem law_callG {P : Program} {w : World} {K : PySem.W.Frag} {mg mb : Str → Option Value} {k : Nat} {fa a : Addr} {F : FS} {sh : Shared} {us : List Value} {ns : List Int}
    (kin : K.In sh.heap) (nsM : sh.heap.Ns mainGlobals mg) (nsB : sh.heap.Ns builtinsNs mb) (boot : ∀ x : Str, x ≠ "__name__" → mb x = bootBuiltins x) (nolim : sh.heap.NoLimit) (nogen : sh.gens = #[])
    (scr : sh.heap.get? a = some { cls := .type "list", data := .seq us.toArray }) (hIA : IntsAre us ns) (few : ns.length ≤ sizeLine) (room : Room k callerA)
    (FG : ∀ base : Heap, K.In base → base.Ns mainGlobals mg → FnG P w K mg base k fa 1 F) (hF : ∃ G, F [.scr (ns.map .int)] [] = .ret (.val (.bl true)) G) :
    codeAny (model P w) callerA (.call (.ref fa) ⟨[.ref a], []⟩) (fun r s2 => r = .ok (.ret (.bool true)) ∧ OldK sh.heap s2.heap ∧ s2.os = sh.os ∧ AllBare s2.gens) sh := by
  have rv : Vals (ns.map V.int) us := vals_ints hIA
  have go : ∀ h : Hp, Only h → SqL K h a (ns.map V.int) → HOk P w h sh.heap → (∀ b, h b ≠ none → b = a) → (h a ≠ none → K.lookup a = none) →
      codeAny (model P w) callerA (.call (.ref fa) ⟨[.ref a], []⟩) (fun r s2 => r = .ok (.ret (.bool true)) ∧ OldK sh.heap s2.heap ∧ s2.os = sh.os ∧ AllBare s2.gens) sh := by
    intro h only sq hok one off
    have inB : ∀ {b : Addr} {o : Obj}, sh.heap.get? b = some o → h b = none → (hidT sh.heap h).get? b = some o := fun x y => hidT_get x y
    have dictN : ∀ {b : Addr} {o : Obj} {es : Array DictEntry} {ep : Nat}, sh.heap.get? b = some o → o.data = .dict es ep → h b = none := by
      intro b o es ep x y
      by_cases z : h b = none
      · exact z
      · have eb := one b z
        rw [eb, scr] at x
        cases x
        exact absurd (show Data.seq us.toArray _ = Data.dict es ep from y) (fun w => by cases w)
    have nsIn : ∀ {b : Addr} {m : Str → Option Value}, sh.heap.Ns b m → (hidT sh.heap h).Ns b m := by
      rintro b m ⟨o, es, ep, x, y, r⟩
      exact ⟨o, es, ep, inB x (dictN x y), y, r⟩
    have kinB : K.In (hidT sh.heap h) := by
      intro b o x
      refine inB (kin b o x) ?_
      by_cases z : h b = none
      · exact z
      · have eb := one b z
        rw [eb] at x z
        rw [off z] at x
        cases x
    obtain ⟨mc, l1, l2⟩ := nolim
    have md : Mod K mg (hidT sh.heap h) := ⟨kinB, nsIn nsM, ⟨mb, nsIn nsB, boot⟩, ⟨mc, nsIn l1, l2⟩⟩
    have e0 : Env0 P w K mg (hidT sh.heap h) callerA [] sh h := ⟨rfl, md, fun b o x => of_hidT x, Nat.le_of_eq (hidT_size _ _), trivial, fun b z => absurd (show b ∈ ([] : List Addr) from z) (by simp), hok, .of_eq nogen⟩
    refine codeAny_mono (FG _ kinB (nsIn nsM) callerA [] sh h [.ref a] [.ref a] _ _ room guards0 e0 (.cons rfl .nil) (law_sp only sq hF)) fun r s2 z => ?_
    rcases r with e | (_ | _ | _ | u)
    · obtain ⟨_, _, _, _, _, _, _, _, _, _, _, _, z⟩ := z
      exact z.elim
    · exact z.elim
    · exact z.elim
    · exact z.elim
    · obtain ⟨v, h2, eo, bare, un, hok2, ru, ev⟩ := z
      subst ev
      cases ru
      refine ⟨rfl, OldK.of_keep fun b o x => ?_, eo, bare⟩
      rcases only b with y | ⟨ob, xs, y⟩
      · exact un.keep b o x y (by intro z; cases z) (by simp)
      · have y2 := un.frzs b ob _ y
        have x1 := (hok b _ y).1
        rw [x] at x1
        cases x1
        exact (hok2 b _ y2).1
  by_cases hk : K.lookup a = none
  · refine go (fun b => if b = a then some (.frz { cls := .type "list", data := .seq us.toArray } (.lst (ns.map V.int))) else none) (fun b => ?_) (.inl (.inr ⟨{ cls := .type "list", data := .seq us.toArray }, if_pos rfl⟩)) (fun b u z => ?_) (fun b z => ?_) fun _ => hk
    · by_cases eb : b = a
      · exact .inr ⟨_, _, if_pos eb⟩
      · exact .inl (if_neg eb)
    · by_cases eb : b = a
      · subst eb
        cases (if_pos rfl).symm.trans z
        exact ⟨scr, by rw [List.length_map]; exact few, us, _, rv, scr⟩
      · cases (if_neg eb).symm.trans z
    · by_cases eb : b = a
      · exact eb
      · exact absurd (if_neg eb) z
  · obtain ⟨o, ho⟩ := Option.ne_none_iff_exists'.mp hk
    have x := kin a o ho
    rw [scr] at x
    cases x
    exact go (fun _ => none) (fun _ => .inl rfl) (.inr ⟨_, us.toArray, _, ho, rfl, rfl, rfl, by rw [List.size_toArray, hIA.length]; exact few, by simpa using rv⟩) (fun b u z => by cases z) (fun b z => absurd rfl z) fun z => absurd rfl z
/-- the law, from what its def tells of every script -/
theorem walk_ofG {l : PySem.W.OpenLaw} {n k : Nat} {q : Program} {loose : List Str} {XP : (Str → Option Value) → Heap → Prop} {YP : World → Heap → Prop} {d : DefRec} {F : FS} (hn : l.most = some n) (hn2 : n ≤ sizeLine) (hdf : d.params.defaults = []) (room : Room k callerA)
    (hG : ∀ (w : World) (mg : Str → Option Value) (fa : Addr) (h : Heap), YP w h → h.Ns mainGlobals mg → mg d.name = some (.ref fa) → ∃ K : PySem.W.Frag, K.In h ∧ ∀ base : Heap, K.In base → base.Ns mainGlobals mg → FnG l.prog w K mg base k fa 1 F)
    (hF : ∀ ns : List Int, ns.length ≤ n → ∃ G, F [.scr (ns.map .int)] [] = .ret (.val (.bl true)) G) : PySem.W.WalkO q loose XP YP l.row.toRowW d [] (fun f vs => PySem.call f vs) := by
  refine Att.attach_call hn hdf fun w s0 s1 mg mb fa o pm cd doc a vs ns G Y ho hd hcd hmg hobj hints hlen hg => ?_
  obtain ⟨K, kin, FG⟩ := hG w mg fa _ Y G.T.g hmg
  exact law_callG kin G.T.g G.T.b G.T.builtins G.T.nolimit hg hobj hints (Nat.le_trans hlen hn2) room FG (hF ns hlen)
end IL
end T_IL18
section T_IL19
set_option Elab.async false
set_option linter.all false
set_option maxRecDepth 100000
namespace IL
open PySem PySem.Spec L2
open PyProof.Rows hiding St

theorem seq_inv {c : Kc} {ρ : List Addr} {H : Hp} {B : Addr → Prop} {u : U} {v : V} {us : List U} (h : RepW c ρ H B u v) (e : u.seq = some us) : ∃ p vs, v = .ref p ∧ (SqL c.K H p vs ∨ SqT c.K H p vs) ∧ RepL c ρ H B us vs := by
  cases u with
  | lst ws => cases e; obtain ⟨p, vs, rfl, e1, r⟩ := h.lst_inv; exact ⟨p, vs, rfl, .inl (SqL.of e1), r⟩
  | tup ws => cases e; obtain ⟨p, vs, rfl, e1, r⟩ := h.tup_inv; exact ⟨p, vs, rfl, .inr e1, r⟩
  | scr ws => cases e; obtain ⟨p, vs, rfl, e1, r⟩ := h.scr_inv; exact ⟨p, vs, rfl, .inl e1.sq, r⟩
  | _ => cases e
theorem gives_int {c : Kc} {m : Bool} {S : Addr → Prop} {ρ : List Addr} {a : ASt} {σ : St} {H : Hp} {i : Int} {Q : VK} (rel : Rel c S ρ a σ H) (h : Gives c m S ρ a σ H (.val (.int i)) Q) : Q (.int i) H := h.flat rel (.int i)
theorem gives_bl {c : Kc} {m : Bool} {S : Addr → Prop} {ρ : List Addr} {a : ASt} {σ : St} {H : Hp} {i : Bool} {Q : VK} (rel : Rel c S ρ a σ H) (h : Gives c m S ρ a σ H (.val (.bl i)) Q) : Q (.bl i) H := h.flat rel (.bl i)
theorem gives_str {c : Kc} {m : Bool} {S : Addr → Prop} {ρ : List Addr} {a : ASt} {σ : St} {H : Hp} {i : Str} {Q : VK} (rel : Rel c S ρ a σ H) (h : Gives c m S ρ a σ H (.val (.str i)) Q) : Q (.str i) H := h.flat rel (.str i)

/-! ### len, abs, int, min, max of two -/
def gLen : List U → Option R
  | [u] => match u.seq with
    | some us => some (.val (.int us.length))
    | none => match u with
      | .str z => if z.length ≤ sizeLine then some (.val (.int z.length)) else none
      | _ => none
  | _ => none
def gAbs : List U → Option R
  | [.int i] => some (.val (.int (if i < 0 then -i else i)))
  | _ => none
def gInt : List U → Option R
  | [.int i] => some (.val (.int i))
  | [.bl b] => some (.val (.int (if b then 1 else 0)))
  | _ => none
def gMax2 : List U → Option R
  | [.int i, .int j] => some (.val (.int (if j > i then j else i)))
  | _ => none
def gMin2 : List U → Option R
  | [.int i, .int j] => some (.val (.int (if j < i then j else i)))
  | _ => none
section
variable {X : Cx}
theorem os_len : OpS (kc X) (fun xs H Q => ∃ x n, xs = [x] ∧ LenV X.K x H n ∧ Q (.int n) H) gLen := by
  intro m S ρ a σ H us vs res Q rel w hg gv
  unfold gLen at hg
  split at hg
  · rename_i u
    obtain ⟨x, rfl, w1⟩ := w.one
    split at hg
    · rename_i ws hw
      cases hg
      obtain ⟨p, xs, rfl, hq, r⟩ := seq_inv w1 hw
      refine ⟨_, ws.length, rfl, ?_, gives_int rel gv⟩
      rw [r.length]
      exact hq.imp (fun h => ⟨xs, h, rfl⟩) fun h => ⟨xs, h, rfl⟩
    · split at hg
      · rename_i z _
        split at hg
        · rename_i hz
          cases hg
          cases w1.str_inv
          exact ⟨_, z.length, rfl, ⟨hz, rfl⟩, gives_int rel gv⟩
        · cases hg
      · cases hg
  · cases hg
theorem os_abs : OpS (kc X) (fun xs H Q => ∃ i, xs = [.int i] ∧ Q (.int (if i < 0 then -i else i)) H) gAbs := by
  intro m S ρ a σ H us vs res Q rel w hg gv
  unfold gAbs at hg
  split at hg
  · rename_i i
    obtain ⟨x, rfl, w1⟩ := w.one
    cases w1.int_inv
    cases hg
    exact ⟨i, rfl, gives_int rel gv⟩
  · cases hg
theorem os_int : OpS (kc X) (fun xs H Q => (∃ i, xs = [.int i] ∧ Q (.int i) H) ∨ ∃ k, xs = [.bl k] ∧ Q (.int (if k then 1 else 0)) H) gInt := by
  intro m S ρ a σ H us vs res Q rel w hg gv
  unfold gInt at hg
  split at hg
  · rename_i i
    obtain ⟨x, rfl, w1⟩ := w.one
    cases w1.int_inv
    cases hg
    exact .inl ⟨i, rfl, gives_int rel gv⟩
  · rename_i b
    obtain ⟨x, rfl, w1⟩ := w.one
    cases w1.bl_inv
    cases hg
    exact .inr ⟨b, rfl, gives_int rel gv⟩
  · cases hg
theorem os_max2 : OpS (kc X) (fun xs H Q => ∃ i j, xs = [.int i, .int j] ∧ Q (.int (if j > i then j else i)) H) gMax2 := by
  intro m S ρ a σ H us vs res Q rel w hg gv
  unfold gMax2 at hg
  split at hg
  · rename_i i j
    obtain ⟨x, y, rfl, w1, w2⟩ := w.two
    cases w1.int_inv
    cases w2.int_inv
    cases hg
    exact ⟨i, j, rfl, gives_int rel gv⟩
  · cases hg
theorem os_min2 : OpS (kc X) (fun xs H Q => ∃ i j, xs = [.int i, .int j] ∧ Q (.int (if j < i then j else i)) H) gMin2 := by
  intro m S ρ a σ H us vs res Q rel w hg gv
  unfold gMin2 at hg
  split at hg
  · rename_i i j
    obtain ⟨x, y, rfl, w1, w2⟩ := w.two
    cases w1.int_inv
    cases w2.int_inv
    cases hg
    exact ⟨i, j, rfl, gives_int rel gv⟩
  · cases hg
end
/-! ### a list, a tuple from another -/
def gTuple : List U → Option R
  | [u] => match u.seq with
    | some us => some (.val (.tup us))
    | none => none
  | _ => none
def gList : List U → Option R
  | [u] => match u.seq with
    | some us => some (.own us)
    | none => none
  | _ => none
section
variable {X : Cx}
theorem os_tuple : OpS (kc X) (fun xs H Q => ∃ p ys, xs = [.ref p] ∧ ((SqL X.K H p ys ∧ ∀ l, H l = none → Q (.ref l) (upd H l (.tup ys))) ∨ (SqT X.K H p ys ∧ Q (.ref p) H))) gTuple := by
  intro m S ρ a σ H us vs res Q rel w hg gv
  unfold gTuple at hg
  split at hg
  · rename_i u
    obtain ⟨x, rfl, w1⟩ := w.one
    split at hg
    · rename_i ws hw
      cases hg
      obtain ⟨p, xs, rfl, hq, r⟩ := seq_inv w1 hw
      refine ⟨p, xs, rfl, hq.imp (fun h => ⟨h, fun l hl => gv.newT rel hl r⟩) fun h => ⟨h, gv.flat rel (.tup h r)⟩⟩
    · cases hg
  · cases hg
theorem os_list : OpS (kc X) (fun xs H Q => ∃ p ys, xs = [.ref p] ∧ (SqL X.K H p ys ∨ SqT X.K H p ys) ∧ ∀ l, H l = none → Q (.ref l) (upd H l (.lst ys))) gList := by
  intro m S ρ a σ H us vs res Q rel w hg gv
  unfold gList at hg
  split at hg
  · rename_i u
    obtain ⟨x, rfl, w1⟩ := w.one
    split at hg
    · rename_i ws hw
      cases hg
      obtain ⟨p, xs, rfl, hq, r⟩ := seq_inv w1 hw
      exact ⟨p, xs, rfl, hq, fun l hl => gv.newL rel hl r⟩
    · cases hg
  · cases hg
end
/-! ### any, all -/
def blsU : List U → Option (List Bool)
  | [] => some []
  | .bl b :: us => match blsU us with
    | some bs => some (b :: bs)
    | none => none
  | _ :: _ => none
theorem blsU_vs {c : Kc} {ρ : List Addr} {H : Hp} {B : Addr → Prop} : ∀ {us : List U} {vs : List V} {bs : List Bool}, blsU us = some bs → RepL c ρ H B us vs → vs = bs.map V.bl
  | [], _, bs, e, .nil => by cases e; rfl
  | u :: us, _, bs, e, .cons h t => by
    cases u with
    | bl b =>
      unfold blsU at e
      cases q : blsU us with
      | none => rw [q] at e; cases e
      | some js =>
        rw [q] at e
        cases e
        cases h
        rw [blsU_vs q t]
        rfl
    | _ => cases e
def U.lseq : U → Option (List U)
  | .lst us => some us
  | .scr us => some us
  | _ => none
theorem lseq_inv {c : Kc} {ρ : List Addr} {H : Hp} {B : Addr → Prop} {u : U} {v : V} {us : List U} (h : RepW c ρ H B u v) (e : u.lseq = some us) : ∃ p vs, v = .ref p ∧ SqL c.K H p vs ∧ RepL c ρ H B us vs := by
  cases u with
  | lst ws => cases e; obtain ⟨p, vs, rfl, e1, r⟩ := h.lst_inv; exact ⟨p, vs, rfl, SqL.of e1, r⟩
  | scr ws => cases e; obtain ⟨p, vs, rfl, e1, r⟩ := h.scr_inv; exact ⟨p, vs, rfl, e1.sq, r⟩
  | _ => cases e
def gAny : List U → Option R
  | [u] => match u.lseq with
    | some us => match blsU us with
      | some bs => some (.val (.bl (bs.any id)))
      | none => none
    | none => none
  | _ => none
def gAll : List U → Option R
  | [u] => match u.lseq with
    | some us => match blsU us with
      | some bs => some (.val (.bl (bs.all id)))
      | none => none
    | none => none
  | _ => none
section
variable {X : Cx}
theorem os_any : OpS (kc X) (rAny X.K) gAny := by
  intro m S ρ a σ H us vs res Q rel w hg gv
  unfold gAny at hg
  split at hg
  · obtain ⟨x, rfl, w1⟩ := w.one
    split at hg
    · rename_i ws hw
      split at hg
      · rename_i bs hb
        cases hg
        obtain ⟨p, xs, rfl, hq, r⟩ := lseq_inv w1 hw
        rw [blsU_vs hb r] at hq
        exact ⟨p, bs, rfl, hq, gives_bl rel gv⟩
      · cases hg
    · cases hg
  · cases hg
theorem os_all : OpS (kc X) (rAll X.K) gAll := by
  intro m S ρ a σ H us vs res Q rel w hg gv
  unfold gAll at hg
  split at hg
  · obtain ⟨x, rfl, w1⟩ := w.one
    split at hg
    · rename_i ws hw
      split at hg
      · rename_i bs hb
        cases hg
        obtain ⟨p, xs, rfl, hq, r⟩ := lseq_inv w1 hw
        rw [blsU_vs hb r] at hq
        exact ⟨p, bs, rfl, hq, gives_bl rel gv⟩
      · cases hg
    · cases hg
  · cases hg
end
/-! ### sum, max, min of ints -/
def gSum : List U → Option R
  | [u] => match u.lseq with
    | some us => match intsU us with
      | some bs => some (.val (.int bs.sum))
      | none => none
    | none => none
  | _ => none
def maxZ (n : Int) (ns : List Int) : Int := ns.foldl (fun a y => if a < y then y else a) n
def minZ (n : Int) (ns : List Int) : Int := ns.foldl (fun a y => if y < a then y else a) n
def gMax : List U → Option R
  | [u] => match u.seq with
    | some us => match intsU us with
      | some (n :: ns) => some (.val (.int (maxZ n ns)))
      | _ => none
    | none => none
  | _ => none
def gMin : List U → Option R
  | [u] => match u.seq with
    | some us => match intsU us with
      | some (n :: ns) => some (.val (.int (minZ n ns)))
      | _ => none
    | none => none
  | _ => none
def rMaxI (K : PySem.W.Frag) : List V → Hp → VK → Prop := fun vs H Q => ∃ (a : Addr) (n : Int) (ns : List Int), vs = [V.ref a] ∧ (SqL K H a ((n :: ns).map V.int) ∨ SqT K H a ((n :: ns).map V.int)) ∧ Q (.int (maxZ n ns)) H
def rMinI (K : PySem.W.Frag) : List V → Hp → VK → Prop := fun vs H Q => ∃ (a : Addr) (n : Int) (ns : List Int), vs = [V.ref a] ∧ (SqL K H a ((n :: ns).map V.int) ∨ SqT K H a ((n :: ns).map V.int)) ∧ Q (.int (minZ n ns)) H
theorem holdAll_ints {h : Heap} : ∀ {its : List Value} {ns : List Int}, Vals (ns.map V.int) its → PySem.W.HoldAll h its ns
  | [], [], .nil => ⟨_, .nil⟩
  | _, n :: ns, .cons r t => by
    obtain ⟨k, rfl⟩ := r
    obtain ⟨as, q⟩ := holdAll_ints (h := h) t
    exact ⟨_, .cons (.int n k) q⟩
theorem holds_int {h : Heap} {v : Value} {i : Int} (q : PySem.W.Holds h v i) : ∃ t, v = .int i t := by
  obtain ⟨as, q⟩ := q
  have q : Reads h v (.int i) as := q
  cases q
  exact ⟨_, rfl⟩
theorem maxOf_int (n : Int) (ns : List Int) : PySem.W.maxOf n ns = maxZ n ns := by
  unfold PySem.W.maxOf maxZ
  congr 1
  funext a y
  show (if decide (a < y) = true then y else a) = _
  simp only [decide_eq_true_eq]
theorem minOf_int (n : Int) (ns : List Int) : PySem.W.minOf n ns = minZ n ns := by
  unfold PySem.W.minOf minZ
  congr 1
  funext a y
  show (if decide (y < a) = true then y else a) = _
  simp only [decide_eq_true_eq]
section
variable {X : Cx}
theorem os_sum : OpS (kc X) (rSum X.K) gSum := by
  intro m S ρ a σ H us vs res Q rel w hg gv
  unfold gSum at hg
  split at hg
  · obtain ⟨x, rfl, w1⟩ := w.one
    split at hg
    · rename_i ws hw
      split at hg
      · rename_i bs hb
        cases hg
        obtain ⟨p, xs, rfl, hq, r⟩ := lseq_inv w1 hw
        rw [intsU_vs hb r] at hq
        exact ⟨p, bs, rfl, hq, gives_int rel gv⟩
      · cases hg
    · cases hg
  · cases hg
theorem cr_maxI (hc : X.calm = true) (hr : Rm X) : CallR X (.builtin "max") (rMaxI X.K) := by
  intro pins s τ h xs us Q IV rv hq
  obtain ⟨p, n, ns, rfl, hs, q⟩ := hq
  rw [Vals.ref1 rv]
  have hu : X.A.units + 1 + PySem.W.Datum.depth Int < cLine := by
    have := hr
    unfold Rm at this
    show X.A.units + 1 + 0 < cLine
    omega
  have fin : ∀ (its : List Value), Vals ((n :: ns).map V.int) its → ∀ (i : Nat) (v : Value) (h' : Heap) (tk : Nat), PySem.W.Holds h' v (PySem.W.maxOf n ns) → (∀ b o, s.heap.get? b = some o → h'.get? b = some o) → EP X pins τ Q v { s with heap := h', toks := tk } := by
    intro its _ i v h' tk hv hk
    obtain ⟨t, rfl⟩ := holds_int hv
    rw [maxOf_int]
    exact ⟨.int _, h, IV.kept hk, ⟨t, rfl⟩, q⟩
  rcases hs with hs | hs
  · obtain ⟨its, r, hl, _⟩ := IV.list hs
    exact PySem.W.max_list_datum (IV.ok.hd hc) hl.isList (by simpa using holdAll_ints r) hu fun i v h' tk _ hv hk => fin its r i v h' tk hv hk
  · obtain ⟨its, r, hl, _⟩ := IV.tuple hs
    exact PySem.W.max_tuple_datum (IV.ok.hd hc) hl (by simpa using holdAll_ints r) hu fun i v h' tk _ hv hk => fin its r i v h' tk hv hk
theorem cr_minI (hc : X.calm = true) (hr : Rm X) : CallR X (.builtin "min") (rMinI X.K) := by
  intro pins s τ h xs us Q IV rv hq
  obtain ⟨p, n, ns, rfl, hs, q⟩ := hq
  rw [Vals.ref1 rv]
  have hu : X.A.units + 1 + PySem.W.Datum.depth Int < cLine := by
    have := hr
    unfold Rm at this
    show X.A.units + 1 + 0 < cLine
    omega
  have fin : ∀ (its : List Value), Vals ((n :: ns).map V.int) its → ∀ (i : Nat) (v : Value) (h' : Heap) (tk : Nat), PySem.W.Holds h' v (PySem.W.minOf n ns) → (∀ b o, s.heap.get? b = some o → h'.get? b = some o) → EP X pins τ Q v { s with heap := h', toks := tk } := by
    intro its _ i v h' tk hv hk
    obtain ⟨t, rfl⟩ := holds_int hv
    rw [minOf_int]
    exact ⟨.int _, h, IV.kept hk, ⟨t, rfl⟩, q⟩
  rcases hs with hs | hs
  · obtain ⟨its, r, hl, _⟩ := IV.list hs
    exact PySem.W.min_list_datum (IV.ok.hd hc) hl.isList (by simpa using holdAll_ints r) hu fun i v h' tk _ hv hk => fin its r i v h' tk hv hk
  · obtain ⟨its, r, hl, _⟩ := IV.tuple hs
    exact PySem.W.min_tuple_datum (IV.ok.hd hc) hl (by simpa using holdAll_ints r) hu fun i v h' tk _ hv hk => fin its r i v h' tk hv hk
theorem os_max : OpS (kc X) (rMaxI X.K) gMax := by
  intro m S ρ a σ H us vs res Q rel w hg gv
  unfold gMax at hg
  split at hg
  · obtain ⟨x, rfl, w1⟩ := w.one
    split at hg
    · rename_i ws hw
      split at hg
      · rename_i n ns hb
        cases hg
        obtain ⟨p, xs, rfl, hq, r⟩ := seq_inv w1 hw
        rw [intsU_vs hb r] at hq
        exact ⟨p, n, ns, rfl, hq, gives_int rel gv⟩
      · cases hg
    · cases hg
  · cases hg
theorem os_min : OpS (kc X) (rMinI X.K) gMin := by
  intro m S ρ a σ H us vs res Q rel w hg gv
  unfold gMin at hg
  split at hg
  · obtain ⟨x, rfl, w1⟩ := w.one
    split at hg
    · rename_i ws hw
      split at hg
      · rename_i n ns hb
        cases hg
        obtain ⟨p, xs, rfl, hq, r⟩ := seq_inv w1 hw
        rw [intsU_vs hb r] at hq
        exact ⟨p, n, ns, rfl, hq, gives_int rel gv⟩
      · cases hg
    · cases hg
  · cases hg
end
/-! ### isinstance of a built-in class -/
def U.ty : U → Option String
  | .non => some "NoneType"
  | .bl _ => some "bool"
  | .int _ => some "int"
  | .str _ => some "str"
  | .tup _ => some "tuple"
  | .lst _ => some "list"
  | .scr _ => some "list"
  | .dct _ _ => some "dict"
  | _ => none
def gIsi (T : String) : List U → Option R
  | [u] => match u.ty with
    | some t => match kitB t T with
      | some b => some (.val (.bl b))
      | none => none
    | none => none
  | _ => none
theorem ty_of {c : Kc} {ρ : List Addr} {H : Hp} {B : Addr → Prop} {u : U} {v : V} {t : String} (h : RepW c ρ H B u v) (e : u.ty = some t) : TyX c.K H v (.type t) := by
  cases u with
  | non => cases e; cases h.non_inv; exact .base .non
  | bl b => cases e; cases h.bl_inv; exact .base (.bl b)
  | int i => cases e; cases h.int_inv; exact .base (.int i)
  | str x => cases e; cases h.str_inv; exact .base (.str x)
  | tup us =>
    cases e
    obtain ⟨p, vs, rfl, hq, _⟩ := h.tup_inv
    rcases hq with (hq | ⟨o, hq⟩) | ⟨o, its, n, hk, hc, _⟩
    · exact .base (.tup hq)
    · exact .fTuple hq
    · exact .kTuple hk hc
  | lst us =>
    cases e
    obtain ⟨p, vs, rfl, hq, _⟩ := h.lst_inv
    exact .base (.lst hq)
  | scr us =>
    cases e
    obtain ⟨p, vs, rfl, hq, _⟩ := h.scr_inv
    rcases hq with ⟨o, hq⟩ | ⟨o, its, n, hk, hc, _⟩
    · exact .base (.frz hq)
    · exact .kList hk hc
  | dct ks us =>
    cases e
    rcases h with h | ⟨_, _, _, z, _⟩ | ⟨ks', us', p, kvs, z, rfl, ⟨xs, hd, _⟩, _⟩
    · cases h with
      | dct hd _ _ _ =>
        obtain ⟨xs, hd, _⟩ := hd
        exact .base (.dK hd)
    · cases z
    · exact .base (.dK hd)
  | _ => cases e
section
variable {X : Cx} {W : WX} {m : Bool} {e : Expr} {I : ES} {x : Str} {p pos : Pos} {T : String}
def rIsT (K : PySem.W.Frag) (T : String) : V → Hp → VK → Prop := fun x H Q => ∃ t b, TyX K H x (.type t) ∧ kitB t T = some b ∧ Q (.bl b) H
theorem os_isi : OpS (kc X) (fun vs H Q => ∃ x, vs = [x] ∧ rIsT X.K T x H Q) (gIsi T) := by
  intro m S ρ a σ H us vs res Q rel w hg gv
  unfold gIsi at hg
  split at hg
  · rename_i u
    obtain ⟨y, rfl, w1⟩ := w.one
    split at hg
    · rename_i t ht
      split at hg
      · rename_i b hb
        cases hg
        exact ⟨y, rfl, t, b, ty_of w1 ht, hb, gives_bl rel gv⟩
      · cases hg
    · cases hg
  · cases hg
/-- isinstance(e, T) -/
theorem pei_isi {q : Pos} (h : PEI X m W e I) (hg : Gl X "isinstance") (hm : X.mg "isinstance" = none) (hgT : Gl X x) (hmT : X.mg x = none) (hb : bootBuiltins x = some (.type T)) (hnT : x ≠ "__name__" := by decide) (hdT : (x == ("__debug__" : Str)) = false := by decide)
    (he : starEach [e, .Name x q] X.env = (false, eval e X.env) :: starEach [.Name x q] X.env := by rfl) (hpl : (backTo pos (starEach [.Name x q] X.env)).any (·.1) = false := by rfl)
    (hst2 : starEach [.Name x q] X.env = (false, eval (.Name x q) X.env) :: starEach [] X.env := by rfl) :
    PEI X m W (.Call (.Name "isinstance" p) [e, .Name x q] [] pos) (iOp (gIsi T) [I]) :=
  (pe_callB (p := p) (pos := pos) call_isi hg hm PyProof.Rows.boot_isinstance (pa_cons h (pa_cons (pe_bltn (v := .ty T) (pos := q) hgT hmT hb rfl hnT hdT) pa_nil hst2) he) (by decide) (by decide) he hpl).weak fun σ H Q q => by
    have q2 := op_args os_isi q
    obtain ⟨S, ρ, a, rel, q2⟩ := q2
    refine ⟨S, ρ, a, rel, q2.mono fun v H1 ⟨y, ey, t, b, k1, k2, k3⟩ => ?_⟩
    cases ey
    exact ⟨v, .ty T, .type t, .type T, b, rfl, .ty T, k1, kit_ty k2, k3⟩
end
end IL
end T_IL19
section T_IL20
set_option Elab.async false
set_option linter.all false
set_option maxRecDepth 100000
set_option maxHeartbeats 2000000
open PySem PySem.Spec PyProof.Rows in
theorem IL.collect_seqT {prog : Program} {w : World} {A : Around} {E : Value → Shared → Prop} {sh : Shared} {l : Addr} {its : List Value} {Q : List Value → Shared → Prop} (tup : sh.heap.IsTuple l its.toArray) (few : its.length ≤ sizeLine)
    (fin : Q its { sh with heap := (sh.heap.push (seqObj "list" #[] 0)).update sh.heap.objs.size (Obj.mapSeq (· ++ its.toArray)) }) : wpAny (model prog w) A (collect (.ref l)) Q E sh := by
  obtain ⟨ob, hob, cl, ep, dat⟩ := id tup
  have ob2 : (sh.heap.push (seqObj "list" #[] 0)).get? l = some ob := Heap.get?_push_of_some _ hob
  have nw : (sh.heap.push (seqObj "list" #[] 0)).get? sh.heap.objs.size = some (seqObj "list" #[] 0) := Heap.get?_push_size _ rfl
  unfold collect
  refine wpAny_bind (wpAny_runValue (codeAny_builtin entry_proto_collect' ?_))
  show wpAny _ _ (do again (.builtin "list.__iadd__" ⟨[← newList [], .ref l], []⟩)) _ _ sh
  refine wpAny_bind (wpAny_newList (wpAny_pure ⟨Code.quiet_builtin _ (by decide +kernel), codeAny_builtin entry_list_iadd' ?_⟩))
  show wpAny _ _ (Builtin.List.listExtendWith (.ref sh.heap.objs.size) (.ref l) (.ref sh.heap.objs.size)) _ _ { sh with heap := sh.heap.push (seqObj "list" #[] 0) }
  unfold Builtin.List.listExtendWith
  refine wpAny_bind (wpAny_typeOf (T := "tuple") ⟨ob, ob2, cl⟩ ?_)
  have yes : (Value.type "tuple" == Value.type "tuple") = true := by rfl
  rw [if_pos (by rw [yes]; simp)]
  refine wpAny_bind (listItems_at ob2 dat (wpAny_bind (listItems_at (xs := #[]) (n := 0) nw rfl ?_)))
  rw [if_neg (by simp)]
  refine wpAny_bind (listUpdate_at (xs := #[]) (n := 0) nw rfl (wpAny_pure ?_) (Nat.zero_le _) (by show (#[] ++ its.toArray).size ≤ sizeLine + 1; simp only [Array.size_append, List.size_toArray, List.length_nil]; omega))
  show wpAny (model prog w) A (do
      let o ← load sh.heap.objs.size
      match o.data with
      | .seq xs _ => pure xs.toList
      | _ => unsupported "internal:collect") Q E { sh with heap := (sh.heap.push (seqObj "list" #[] 0)).update sh.heap.objs.size (Obj.mapSeq (· ++ its.toArray)) }
  refine wpAny_bind (wpAny_load (get?_update_seq nw _) ?_)
  show wpAny _ _ (pure ((#[] : Array Value) ++ its.toArray).toList) Q E _
  rw [show ((#[] : Array Value) ++ its.toArray).toList = its by simp]
  exact wpAny_pure fin
open PySem PySem.Spec PyProof.Rows SrtO in
theorem IL.sorted_seqT {prog : Program} {w : World} {A : Around} {E : Value → Shared → Prop} {sh : Shared} {l : Addr} {its : List Value} {lt2 : Value → Value → Bool} {Q : Value → Shared → Prop} (O : Swo lt2) (tup : sh.heap.IsTuple l its.toArray) (few : its.length ≤ sizeLine)
    (able : 2 ≤ its.length → ∀ (h1 : Heap) (a : Addr), h1.get? a = some (seqObj "list" its.toArray 0) → (∀ b o, sh.heap.get? b = some o → b ≠ a ∧ h1.get? b = some o) → SortableO prog w A.in1.in1 { sh with heap := h1 } a its lt2)
    (fin : ∀ out : List Value, Srtd lt2 out → Stb lt2 out its → Q (.ref (sh.heap.objs.size + 1)) { sh with heap := sortedAll sh.heap its out.toArray }) : wpAny (model prog w) A (call (.builtin "sorted") [.ref l]) Q E sh := by
  refine Calls.call_function_entry kind_sorted plain_sorted entry_sorted (args_sorted1 _) ?_
  unfold Builtin.«sorted»
  refine wpAny_bind (m := checkCount "sorted" 1 1 _) (wpAny_pure (wpAny_bind (IL.collect_seqT tup few (wpAny_bind (wpAny_newList ?_ few)))))
  have sz : ((sh.heap.push (seqObj "list" #[] 0)).update sh.heap.objs.size (Obj.mapSeq (· ++ its.toArray))).objs.size = sh.heap.objs.size + 1 := by rw [Heap.size_update, size_push']
  have at2 : (((sh.heap.push (seqObj "list" #[] 0)).update sh.heap.objs.size (Obj.mapSeq (· ++ its.toArray))).push (seqObj "list" its.toArray 0)).get? (sh.heap.objs.size + 1) = some (seqObj "list" its.toArray 0) := by
    rw [← sz]
    exact Heap.get?_push_size _ rfl
  have old : ∀ b o, sh.heap.get? b = some o → b ≠ sh.heap.objs.size + 1 ∧ (((sh.heap.push (seqObj "list" #[] 0)).update sh.heap.objs.size (Obj.mapSeq (· ++ its.toArray))).push (seqObj "list" its.toArray 0)).get? b = some o := by
    intro b o q
    have lt : b < sh.heap.objs.size := Heap.lt_size q
    refine ⟨Nat.ne_of_lt (Nat.lt_succ_of_lt lt), Heap.get?_push_of_some _ ?_⟩
    rw [Heap.get?_update_ne _ _ _ _ (Nat.ne_of_lt lt)]
    exact Heap.get?_push_of_some _ q
  show wpAny _ _ _ _ _ { sh with heap := ((sh.heap.push (seqObj "list" #[] 0)).update sh.heap.objs.size (Obj.mapSeq (· ++ its.toArray))).push (seqObj "list" its.toArray 0) }
  rw [sz]
  exact wpAny_bind (wpAny_holding (wpAny_call_entry slot_list_sort ⟨_, at2, rfl⟩ entry_list_sort (list_sort_ord O at2 few (fun h2 => able h2 _ _ at2 old) fun out hs hb => ⟨_, rfl, wpAny_pure ⟨_, rfl, fin out hs hb⟩⟩) (args_list_sort _)))
namespace IL
open PySem PySem.Spec L2
open PyProof.Rows hiding St

/-! ### sorted, ints -/
def insZ (n : Int) : List Int → List Int
  | [] => [n]
  | m :: ms => if n ≤ m then n :: m :: ms else m :: insZ n ms
def sortZ : List Int → List Int
  | [] => []
  | n :: ns => insZ n (sortZ ns)
theorem insZ_perm (n : Int) : ∀ ms : List Int, (insZ n ms).Perm (n :: ms)
  | [] => List.Perm.refl _
  | m :: ms => by
    unfold insZ
    split
    · exact List.Perm.refl _
    · exact ((insZ_perm n ms).cons m).trans (List.Perm.swap n m ms)
theorem sortZ_perm : ∀ ns : List Int, (sortZ ns).Perm ns
  | [] => List.Perm.refl _
  | n :: ns => (insZ_perm n (sortZ ns)).trans ((sortZ_perm ns).cons n)
theorem insZ_sorted (n : Int) : ∀ ms : List Int, ms.Pairwise (· ≤ ·) → (insZ n ms).Pairwise (· ≤ ·)
  | [], _ => List.pairwise_singleton _ _
  | m :: ms, h => by
    obtain ⟨h1, h2⟩ := List.pairwise_cons.mp h
    unfold insZ
    split
    · rename_i hnm
      exact List.pairwise_cons.mpr ⟨fun x hx => (List.mem_cons.mp hx).elim (fun z => by rw [z]; exact hnm) fun z => Int.le_trans hnm (h1 x z), h⟩
    · rename_i hnm
      refine List.pairwise_cons.mpr ⟨fun x hx => ?_, insZ_sorted n ms h2⟩
      rcases List.mem_cons.mp ((insZ_perm n ms).mem_iff.mp hx) with z | z
      · rw [z]; omega
      · exact h1 x z
theorem sortZ_sorted : ∀ ns : List Int, (sortZ ns).Pairwise (· ≤ ·)
  | [] => List.Pairwise.nil
  | n :: ns => insZ_sorted n _ (sortZ_sorted ns)
theorem sortZ_one {a b : List Int} (h : a.Perm b) (hs : a.Pairwise (· ≤ ·)) : a = sortZ b := PySem.W.os_sorted_one (h.trans (sortZ_perm b).symm) hs (sortZ_sorted b)
def gSorted : List U → Option R
  | [u] => match u.seq with
    | some us => match intsU us with
      | some ns => some (.own ((sortZ ns).map .int))
      | none => none
    | none => none
  | _ => none
def rSortT (K : PySem.W.Frag) : List V → Hp → VK → Prop := fun vs H Q => ∃ (a : Addr) (ns : List Int), vs = [V.ref a] ∧ SqT K H a (ns.map V.int) ∧
  ∀ (ns' : List Int) (p : Addr), ns'.Perm ns → ns'.Pairwise (· ≤ ·) → H p = none → Q (.ref p) (upd H p (.lst (ns'.map V.int)))
section
variable {X : Cx}
theorem cr_sortT : CallR X (.builtin "sorted") (rSortT X.K) := by
  intro pins s τ h vs us Q IV r hq
  obtain ⟨p, ns, rfl, hs, q⟩ := hq
  obtain ⟨its, rv, hl, hz⟩ := IV.tuple hs
  rw [Vals.ref1 r]
  have hi := rv.ints
  refine sorted_seqT SrtO.swo_int hl (by rw [← rv.length]; exact hz) (fun h2 h1 a' _ _ => SrtO.ints_sortable hi h2) fun out h1 h2 => ?_
  obtain ⟨k1, k2, k3⟩ := SrtO.ints_out hi h1 h2
  obtain ⟨ep, he⟩ := PyProof.Rows.sortedAll_at s.heap its out.toArray
  have few : ((out.map SrtO.iv).map V.int).length ≤ sizeLine := by
    rw [List.length_map, k2.length_eq, ← List.length_map (f := V.int)]
    exact hz
  exact ⟨.ref _, upd h (s.heap.objs.size + 1) (.lst ((out.map SrtO.iv).map V.int)), IV.laid (t' := s.toks) (fun _ _ => PyProof.Rows.sortedAll_old) (Nat.le_succ _) ⟨few, out, ep, vals_of_ints k1, he⟩, rfl, q _ _ k2 k3 (IV.hok.fresh (Nat.le_succ _))⟩
theorem os_sorted : OpS (kc X) (fun xs H Q => rSortedI X.K xs H Q ∨ rSortT X.K xs H Q) gSorted := by
  intro m S ρ a σ H us vs res Q rel w hg gv
  unfold gSorted at hg
  split at hg
  · obtain ⟨x, rfl, w1⟩ := w.one
    split at hg
    · rename_i ws hw
      split at hg
      · rename_i ns hb
        cases hg
        obtain ⟨p, xs, rfl, hq, r⟩ := seq_inv w1 hw
        rw [intsU_vs hb r] at hq
        have k : ∀ (ns' : List Int) (q : Addr), ns'.Perm ns → ns'.Pairwise (· ≤ ·) → H q = none → Q (.ref q) (upd H q (.lst (ns'.map V.int))) := by
          intro ns' q hp hw2 hn
          have e := sortZ_one hp hw2
          rw [e]
          exact gv.newL rel hn (rep_ints _)
        exact hq.imp (fun h => ⟨p, ns, rfl, h, k⟩) fun h => ⟨p, ns, rfl, h, k⟩
      · cases hg
    · cases hg
  · cases hg
end
/-! ### repr of data -/
def gRepr : List U → Option R
  | [u] => match u with
    | .int i => if i.natAbs.log2 < 1920 then some (.val (.str (toString i))) else none
    | .tup us => match (U.tup us).toD with
      | some d => if d.showable = true ∧ d.hasDict = false ∧ d.depth ≤ 60 ∧ d.shown.length ≤ sizeLine then some (.val (.str d.shown)) else none
      | none => none
    | .lst us => match (U.lst us).toD with
      | some d => if d.showable = true ∧ d.hasDict = false ∧ d.depth ≤ 60 ∧ d.shown.length ≤ sizeLine then some (.val (.str d.shown)) else none
      | none => none
    | _ => none
  | _ => none
def rReprD (K : PySem.W.Frag) : List V → Hp → VK → Prop := fun vs H Q => ∃ (p : Addr) (d : PyData), vs = [.ref p] ∧ Dp K H (.ref p) d ∧ d.showable = true ∧ d.hasDict = false ∧ d.depth ≤ 60 ∧ d.shown.length ≤ sizeLine ∧ Q (.str d.shown) H
section
variable {X : Cx}
theorem cr_reprD (hr : Rm X) (hG : X.A.guards = some []) : CallR X (.builtin "repr") (rReprD X.K) := by
  intro pins s τ h vs us Q IV r hq
  obtain ⟨p, d, rfl, hd, h1, h2, h3, h4, q⟩ := hq
  rw [Vals.ref1 r]
  obtain ⟨as, rd⟩ := Dp.reads IV d (.ref p) (.ref p) hd rfl
  have hu : X.A.units + (d.depth + 1) < cLine := by
    have := hr
    unfold Rm at this
    omega
  exact PySem.repr_of_reads' rd h1 (fun z => by rw [h2] at z; cases z) hG hu (fun _ _ e => e) (fun h' u tk hk => ⟨.str _, h, IV.kept hk, ⟨_, rfl⟩, q⟩) h4
theorem os_repr : OpS (kc X) (fun xs H Q => (∃ i, xs = [.int i] ∧ i.natAbs.log2 < 1920 ∧ Q (.str (toString i)) H) ∨ rReprD X.K xs H Q) gRepr := by
  intro m S ρ a σ H us vs res Q rel w hg gv
  unfold gRepr at hg
  split at hg
  · obtain ⟨x, rfl, w1⟩ := w.one
    split at hg
    · rename_i i
      split at hg
      · rename_i hi
        cases hg
        cases w1.int_inv
        exact .inl ⟨i, rfl, hi, gives_str rel gv⟩
      · cases hg
    · rename_i ws
      split at hg
      · rename_i d hd
        split at hg
        · rename_i hh
          cases hg
          obtain ⟨p, vs, rfl, _⟩ := w1.tup_inv
          exact .inr ⟨p, d, rfl, w1.dp hd, hh.1, hh.2.1, hh.2.2.1, hh.2.2.2, gives_str rel gv⟩
        · cases hg
      · cases hg
    · rename_i ws
      split at hg
      · rename_i d hd
        split at hg
        · rename_i hh
          cases hg
          obtain ⟨p, vs, rfl, _⟩ := w1.lst_inv
          exact .inr ⟨p, d, rfl, w1.dp hd, hh.1, hh.2.1, hh.2.2.1, hh.2.2.2, gives_str rel gv⟩
        · cases hg
      · cases hg
    · cases hg
  · cases hg
end
/-! ### how many unlike ints -/
def dedupZ : List Int → List Int
  | [] => []
  | n :: ns => if n ∈ ns then dedupZ ns else n :: dedupZ ns
theorem mem_dedupZ {k : Int} : ∀ {ns : List Int}, k ∈ dedupZ ns ↔ k ∈ ns
  | [] => Iff.rfl
  | n :: ns => by
    unfold dedupZ
    split
    · rename_i h
      rw [mem_dedupZ, List.mem_cons]
      exact ⟨.inr, fun z => z.elim (fun z => by rw [z]; exact h) id⟩
    · rw [List.mem_cons, List.mem_cons, mem_dedupZ]
theorem nodup_dedupZ : ∀ ns : List Int, (dedupZ ns).Nodup
  | [] => List.nodup_nil
  | n :: ns => by
    unfold dedupZ
    split
    · exact nodup_dedupZ ns
    · rename_i h
      exact List.nodup_cons.mpr ⟨fun z => h (mem_dedupZ.mp z), nodup_dedupZ ns⟩
theorem len_of_mem {a b : List Int} (ha : a.Nodup) (hb : b.Nodup) (h : ∀ k, k ∈ a ↔ k ∈ b) : a.length = b.length :=
  Nat.le_antisymm (List.Nodup.length_le_of_subset ha fun k z => (h k).mp z) (List.Nodup.length_le_of_subset hb fun k z => (h k).mpr z)
theorem fold_dedup : ∀ (l acc : List Int), acc.Nodup → (l.foldl PyProof.Rows.step_dedup acc).Nodup ∧ ∀ k, k ∈ l.foldl PyProof.Rows.step_dedup acc ↔ k ∈ acc ∨ k ∈ l
  | [], acc, h => ⟨h, fun k => by simp⟩
  | n :: l, acc, h => by
    rw [List.foldl_cons]
    unfold PyProof.Rows.step_dedup
    split
    · rename_i ha
      obtain ⟨x, hx, e⟩ := List.any_eq_true.mp ha
      have e : x = n := by simpa using e
      subst e
      obtain ⟨k1, k2⟩ := fold_dedup l acc h
      refine ⟨k1, fun k => (k2 k).trans ?_⟩
      rw [List.mem_cons]
      exact ⟨fun z => z.imp id .inr, fun z => z.elim .inl fun z => z.elim (fun z => .inl (by rw [z]; exact hx)) .inr⟩
    · rename_i ha
      have hn : n ∉ acc := fun z => ha (List.any_eq_true.mpr ⟨n, z, by simp⟩)
      obtain ⟨k1, k2⟩ := fold_dedup l (acc ++ [n]) (by
        rw [List.nodup_append]
        exact ⟨h, by simp, fun x hx y hy z => hn (by rw [List.mem_singleton] at hy; rw [← hy, ← z]; exact hx)⟩)
      refine ⟨k1, fun k => (k2 k).trans ?_⟩
      rw [List.mem_append, List.mem_singleton, List.mem_cons]
      exact or_assoc
theorem firstMet_len (ns : List Int) : (PyProof.Rows.firstMet (fun i => ns.getD i 0) ns.length).length = (dedupZ ns).length := by
  have e : (List.range ns.length).map (fun i => ns.getD i 0) = ns := by
    apply List.ext_getElem
    · simp
    · intro i h1 h2
      simp [List.getElem?_eq_getElem h2]
  unfold PyProof.Rows.firstMet
  rw [e]
  obtain ⟨k1, k2⟩ := fold_dedup ns [] List.nodup_nil
  exact len_of_mem k1 (nodup_dedupZ ns) fun k => by rw [k2, mem_dedupZ]; simp
def gLenSet : List U → Option R
  | [u] => match u.seq with
    | some us => match intsU us with
      | some ns => if ns.length ≤ 4000 then some (.val (.int (dedupZ ns).length)) else none
      | none => none
    | none => none
  | _ => none
def rLenSet (K : PySem.W.Frag) : List V → Hp → VK → Prop := fun vs H Q => ∃ (p : Addr) (ns : List Int), vs = [.ref p] ∧ (SqL K H p (ns.map V.int) ∨ SqT K H p (ns.map V.int)) ∧ ns.length ≤ 4000 ∧ Q (.int (dedupZ ns).length) H
theorem os_lenSet {X : Cx} : OpS (kc X) (rLenSet X.K) gLenSet := by
  intro m S ρ a σ H us vs res Q rel w hg gv
  unfold gLenSet at hg
  split at hg
  · obtain ⟨x, rfl, w1⟩ := w.one
    split at hg
    · rename_i ws hw
      split at hg
      · rename_i ns hb
        split at hg
        · rename_i hl
          cases hg
          obtain ⟨p, xs, rfl, hq, r⟩ := seq_inv w1 hw
          rw [intsU_vs hb r] at hq
          exact ⟨p, ns, rfl, hq, hl, gives_int rel gv⟩
        · cases hg
      · cases hg
    · cases hg
  · cases hg
/-- len(set(e)) -/
theorem pei_lenSet {X : Cx} {m : Bool} {W : WX} {e : Expr} {I : ES} {p p2 q pos : Pos} (hc : X.calm = true) (hg : Gl X "len") (hm : X.mg "len" = none) (hg2 : Gl X "set") (hm2 : X.mg "set" = none) (h : PEI X m W e I)
    (na : starEach [e] X.env = (false, eval e X.env) :: starEach [] X.env := by rfl) : PEI X m W (.Call (.Name "len" p) [.Call (.Name "set" p2) [e] [] q] [] pos) (iOp gLenSet [I]) := ⟨fun pins s τ h0 Q IV hq => by
  have q2 := op_args os_lenSet hq
  refine Call_ (ld_blt IV hg hm boot_len (PyProof.Rows.callWith_builtin1 (PyProof.Rows.args_cons ?_ rfl) rfl rfl))
  refine Call_ (ld_blt IV hg2 hm2 PyProof.Rows.boot_set (PyProof.Rows.callWith_type1 (PyProof.Rows.args_cons (thn (h.run pins s τ h0 _ IV q2) fun v s1 ⟨x, h1, I1, r1, q1⟩ => PyProof.Rows.args_nil ?_) na) na rfl))
  obtain ⟨l, ns, ex, hs, few, q3⟩ := q1
  cases ex
  cases r1
  rcases hs with hs | hs
  · obtain ⟨its, r, pl, hz⟩ := I1.list hs
    have sz : its.toArray.size = ns.length := by rw [List.size_toArray, ← r.length, List.length_map]
    refine call_set_list (I1.ok.hd hc) pl.isList (ns := ns) (by simpa using r.ints) (by rw [sz]; unfold scanBound; omega) fun h' tk hS hk => PyProof.Rows.args_nil ?_
    obtain ⟨o, es, ep, t, ho, hex, hd, _, _, _, hf, hn⟩ := hS
    rw [sz, firstMet_len] at hn
    have le : (dedupZ ns).length ≤ ns.length := List.Nodup.length_le_of_subset (nodup_dedupZ ns) fun k z => mem_dedupZ.mp z
    have I2 : Inv X pins τ h1 { s1 with heap := h', toks := tk } := I1.kept fun b o e => hk b o (Heap.lt_size e) e
    exact call_len_set ho hex hd hf (by rw [hn]; omega) ⟨.int (dedupZ ns).length, h1, I2.tok _, ⟨_, by rw [hn]⟩, q3⟩
  · obtain ⟨its, r, pl, hz⟩ := I1.tuple hs
    refine call_set_tupI ns (I1.ok.hd hc) pl (by simpa using r.ints) (by unfold scanBound; omega) fun h' tk c R1 hcn k => PyProof.Rows.args_nil ?_
    obtain ⟨o, es, ep, t, ho, hex, hdt, g, nd, hm2, hb, hf, hn, hr, hl2⟩ := R1
    have I2 : Inv X pins τ h1 { s1 with heap := h', toks := tk } := I1.kept fun b o e => k b o e
    have cc : es.size = (dedupZ ns).length := by
      have z := len_of_mem nd (nodup_dedupZ ns) fun j => by rw [← hm2 j, decide_eq_true_eq, mem_dedupZ]
      rw [List.length_map] at z
      rw [← z]
      simp
    exact call_len_set ho hex hdt hf (by unfold scanBound at hb; omega) ⟨.int (dedupZ ns).length, h1, I2.tok _, ⟨_, by rw [cc]⟩, q3⟩⟩
end IL
end T_IL20
section T_IL21
set_option Elab.async false
set_option linter.all false
set_option maxRecDepth 100000
namespace IL
open PySem PySem.Spec L2
open PyProof.Rows hiding St

theorem tI_down {c : Kc} {m : Bool} {W : WX} {I : ES} {σ : St} {H : Hp} {Q : VK} (q : tI c m W I σ H Q) : tI c false W I σ H Q := by
  obtain ⟨S, ρ, a, rel, q⟩ := q
  refine ⟨S, ρ, a, rel, ?_⟩
  cases hI : I a with
  | bad => rw [hI] at q; exact q
  | exc e a1 => rw [hI] at q; exact fun cls d ρ' H' x => q cls d ρ' H' x.up
  | ok r a1 => rw [hI] at q; exact fun v ρ' H' x => q v ρ' H' x.up
def gNeg : List U → Option R
  | [.int i] => some (.val (.int (-i)))
  | _ => none
section
variable {X : Cx} {W : WX} {m : Bool} {e elt tg iter tst : Expr} {I : ES} {scope : Scope} {own : List (Str × Nat)} {pos spos py : Pos} {t : Tg} {it : IT} {ct el : ES} {i : Nat} {y : Str}
theorem os_neg : OpS (kc X) (fun vs H Q => ∃ x, vs = [x] ∧ rU (fun i => .int (-i)) x H Q) gNeg := by
  intro m S ρ a σ H us vs res Q rel w hg gv
  unfold gNeg at hg
  split at hg
  · rename_i i
    obtain ⟨x, rfl, w1⟩ := w.one
    cases w1.int_inv
    cases hg
    exact ⟨_, rfl, i, rfl, gives_int rel gv⟩
  · cases hg
theorem pei_neg (h : PEI X m W e I) : PEI X m W (.UnaryOp .USub e pos) (iOp gNeg [I]) := (pe_un (pos := pos) un_neg h).weak fun σ H Q q => by
  have q2 := op_args os_neg q
  obtain ⟨S, ρ, a, rel, q2⟩ := q2
  refine ⟨S, ρ, a, rel, q2.mono fun v H1 ⟨x, ex, k⟩ => ?_⟩
  cases ex
  exact k
/-- x = [e for t in it], x a local, on one line -/
theorem psi_setLc (hc : X.calm = true) (hN : X.N.Nodup) (hy : X.N[i]? = some y) (hyl : X.env.scope.names.lookup y = some .local)
    (hsw : swapsWith (.ListComp elt [⟨tg, iter, [], 0⟩] scope pos) (some (.Name y py)) spos.line X.env = pure true) (hi : PII X false false W tg iter it) (ok : BlkOk X.N X.env.scope scope own)
    (hg : ∀ (s : Shared) (H : Hp) (C : Addr) (cl : List (Str × Addr)) (fp : List Addr), PG (X.blk s H scope (compEnvC scope cl C X.env) fp) tg (gOf X.K t))
    (he : ∀ (s : Shared) (H : Hp) (C : Addr) (cl : List (Str × Addr)) (fp : List Addr), PEI (X.blk s H scope (compEnvC scope cl C X.env) fp) false WF elt el)
    (hv : ∀ i ∈ t.slots, i ∈ own.map (·.2) := by decide) (hs : ∀ x, foldedSetIterable iter X.env x = pure x := by intro _; rfl) :
    PSI X W (.Assign [.Name y py] (.ListComp elt [⟨tg, iter, [], 0⟩] scope pos) spos) (iSet i (iComp t (own.map (·.2)) it (iC (.bl true)) el)) :=
  (ps_setLc (pos := pos) hc hN hy hyl hsw hi ok hg (fun _ _ _ _ _ => pts_none) he hs).weak fun D σ H q => tLc_of hv (tI_down (set_of q))
theorem psi_setLci (hc : X.calm = true) (hN : X.N.Nodup) (hy : X.N[i]? = some y) (hyl : X.env.scope.names.lookup y = some .local)
    (hsw : swapsWith (.ListComp elt [⟨tg, iter, [tst], 0⟩] scope pos) (some (.Name y py)) spos.line X.env = pure true) (hi : PII X false false W tg iter it) (ok : BlkOk X.N X.env.scope scope own)
    (hg : ∀ (s : Shared) (H : Hp) (C : Addr) (cl : List (Str × Addr)) (fp : List Addr), PG (X.blk s H scope (compEnvC scope cl C X.env) fp) tg (gOf X.K t))
    (ht : ∀ (s : Shared) (H : Hp) (C : Addr) (cl : List (Str × Addr)) (fp : List Addr), PTI (X.blk s H scope (compEnvC scope cl C X.env) fp) false WF tst ct)
    (he : ∀ (s : Shared) (H : Hp) (C : Addr) (cl : List (Str × Addr)) (fp : List Addr), PEI (X.blk s H scope (compEnvC scope cl C X.env) fp) false WF elt el)
    (hv : ∀ i ∈ t.slots, i ∈ own.map (·.2) := by decide) (hs : ∀ x, foldedSetIterable iter X.env x = pure x := by intro _; rfl) :
    PSI X W (.Assign [.Name y py] (.ListComp elt [⟨tg, iter, [tst], 0⟩] scope pos) spos) (iSet i (iComp t (own.map (·.2)) it ct el)) :=
  (ps_setLc (pos := pos) hc hN hy hyl hsw hi ok hg (fun s H C cl fp => pts_one (ht s H C cl fp)) he hs).weak fun D σ H q => tLc_of hv (tI_down (set_of q))
end
/-- a block's names, as a computed look -/
def blkB (N : List Str) (sc scope : Scope) (own : List (Str × Nat)) : Bool :=
  decide (scope.kind = .function) && (decide (∀ y ∈ scope.names, scope.names.lookup y.1 = some y.2) && (decide (∀ p ∈ own, N[p.2]? = some p.1) && (decide (∀ y ∈ scope.names, y.2 = .free → sc.names.lookup y.1 = some .cell ∨ sc.names.lookup y.1 = some .free) &&
    decide (∀ y ∈ scope.names, y.2 = .local ∨ y.2 = .cell → y.1 ∈ own.map (·.1) ∨ y.1 ∉ N))))
theorem blkOk_of {N : List Str} {sc scope : Scope} {own : List (Str × Nat)} (h : blkB N sc scope own = true) : BlkOk N sc scope own := by
  unfold blkB at h
  simp only [Bool.and_eq_true, decide_eq_true_eq] at h
  exact ⟨h.1, h.2.1, h.2.2.1, h.2.2.2.1, h.2.2.2.2⟩
/-- what the walk of a def has at hand -/
theorem tkF {P : Program} {w : World} {K : PySem.W.Frag} {mg : Str → Option Value} {base : Heap} {N : List Str} {qual : Str} {scope : Scope} {f : Addr} {cd : Value} {A : Around} {outer : List Env} {s : Shared} {H : Hp} {E : XK} :
    Takes (cxOf (L2.CX P w) P w K mg base N qual scope f cd A outer s H E) (fun cls d _ H => E cls d H) := takes_of rfl rfl rfl rfl
theorem poF {P : Program} {w : World} {K : PySem.W.Frag} {mg : Str → Option Value} {base : Heap} {N : List Str} {qual : Str} {scope : Scope} {f : Addr} {cd : Value} {A : Around} {outer : List Env} {s : Shared} {H : Hp} {E : XK} :
    PassesOwn (model (cxOf (L2.CX P w) P w K mg base N qual scope f cd A outer s H E).prog (cxOf (L2.CX P w) P w K mg base N qual scope f cd A outer s H E).w) (cxOf (L2.CX P w) P w K mg base N qual scope f cd A outer s H E).A (cxOf (L2.CX P w) P w K mg base N qual scope f cd A outer s H E).env (cxOf (L2.CX P w) P w K mg base N qual scope f cd A outer s H E).xe := passes_of rfl
theorem rmF {k : Nat} {X : Cx} (r : Room k X.A) : Rm X := by
  have := r.un
  unfold Rm
  omega
end IL
end T_IL21
section T_IL22
set_option Elab.async false
set_option linter.all false
set_option maxRecDepth 100000
namespace IL
open PySem PySem.Spec L2
open PyProof.Rows hiding St

/-! ### a loop over a list that may change: it is looked at anew at each step -/
mutual
def beqU : U → U → Bool
  | .non, .non => true
  | .bl a, .bl b => a == b
  | .int a, .int b => a == b
  | .str a, .str b => decide (a = b)
  | .tup a, .tup b => beqL a b
  | .lst a, .lst b => beqL a b
  | .scr a, .scr b => beqL a b
  | .dct k a, .dct l b => beqL k l && beqL a b
  | .adr a, .adr b => a == b
  | .fn a, .fn b => decide (a = b)
  | .ins C n a, .ins D m b => decide (C = D) && (decide (n = m) && beqL a b)
  | _, _ => false
def beqL : List U → List U → Bool
  | [], [] => true
  | a :: as, b :: bs => beqU a b && beqL as bs
  | _, _ => false
end
mutual
theorem beqU_eq : ∀ {a b : U}, beqU a b = true → a = b := by
  intro a b h
  cases a <;> cases b <;> first
    | rfl
    | (exfalso; exact Bool.false_ne_true h)
    | (have h := beq_iff_eq.mp (show (_ == _) = true from h); rw [h])
    | (have h := of_decide_eq_true (show decide (_ = _) = true from h); rw [h])
    | (rw [beqL_eq (show beqL _ _ = true from h)])
    | (have h := Bool.and_eq_true_iff.mp (show (beqL _ _ && beqL _ _) = true from h); rw [beqL_eq h.1, beqL_eq h.2])
    | (have h := Bool.and_eq_true_iff.mp (show (decide (_ = _) && (decide (_ = _) && beqL _ _)) = true from h); have h2 := Bool.and_eq_true_iff.mp h.2; rw [of_decide_eq_true h.1, of_decide_eq_true h2.1, beqL_eq h2.2])
theorem beqL_eq : ∀ {a b : List U}, beqL a b = true → a = b := by
  intro a b h
  match a, b, h with
  | [], [], _ => rfl
  | x :: xs, y :: ys, h =>
    have h := Bool.and_eq_true_iff.mp (show (beqU x y && beqL xs ys) = true from h)
    rw [beqU_eq h.1, beqL_eq h.2]
end
mutual
theorem beqU_refl : ∀ a : U, beqU a a = true := by
  intro a
  cases a with
  | non => rfl
  | bl b => exact beq_self_eq_true b
  | int b => exact beq_self_eq_true b
  | str b => exact decide_eq_true rfl
  | tup us => exact beqL_refl us
  | lst us => exact beqL_refl us
  | scr us => exact beqL_refl us
  | dct ks us =>
    show (beqL ks ks && beqL us us) = true
    rw [beqL_refl ks, beqL_refl us]
    rfl
  | adr n => exact beq_self_eq_true n
  | fn b => exact decide_eq_true rfl
  | ins C ns us =>
    show (decide (C = C) && (decide (ns = ns) && beqL us us)) = true
    rw [beqL_refl us, decide_eq_true rfl, decide_eq_true rfl]
    rfl
theorem beqL_refl : ∀ a : List U, beqL a a = true := by
  intro a
  cases a with
  | nil => rfl
  | cons x xs =>
    show (beqU x x && beqL xs xs) = true
    rw [beqU_refl x, beqL_refl xs]
    rfl
end
def sameL (a : ASt) (n : Nat) (us : List U) : Bool := match a.G[n]? with
  | some (.lst ws) => beqL ws us
  | _ => false
theorem sameL_of {a : ASt} {n : Nat} {us : List U} (h : sameL a n us = true) : a.G[n]? = some (.lst us) := by
  unfold sameL at h
  split at h
  · rename_i ws e
    rw [e, beqL_eq h]
  · cases h
theorem sameL_is {a : ASt} {n : Nat} {us : List U} (h : a.G[n]? = some (.lst us)) : sameL a n us = true := by
  unfold sameL
  rw [h]
  exact beqL_refl us
def iForD (t : Tg) (en : Bool) (n : Nat) (us : List U) (B : SS) : Nat → List U → ASt → OutS
  | _, [], a => if sameL a n us then .nx a else .bad
  | i, u :: r, a => if sameL a n us then (match bindT t (if en then .tup [.int (i : Int), u] else u) a with
    | none => .bad
    | some a1 => match B a1 with
      | .nx a2 => iForD t en n us B (i + 1) r a2
      | .ct a2 => iForD t en n us B (i + 1) r a2
      | .bk a2 => .nx a2
      | .rt r G => .rt r G
      | .exc e a2 => .exc e a2
      | .bad => .bad) else .bad
def iForA (t : Tg) (en : Bool) (I : ES) (B : SS) : SS := fun a => match I a with
  | .ok (.val (.adr n)) a1 => (match a1.G[n]? with
    | some (.lst us) => if us.length ≤ sizeLine then iForD t en n us B 0 us a1 else .bad
    | _ => .bad)
  | _ => iFor t (if en then itW true gEnum [I] else iSeqE true I) B a
/-- how the walk of a list at p goes -/
structure Goes (K : PySem.W.Frag) (en : Bool) (p : Addr) (J : It) : Prop where
  stop : ∀ (vs : List V) (H : Hp), H p = some (.lst vs) → J.stop vs.length H
  go : ∀ (vs : List V) (i : Nat) (v : V) (H : Hp), H p = some (.lst vs) → vs[i]? = some v → J.go i H
  yld : ∀ (vs : List V) (i : Nat) (v x : V) (H H3 : Hp), H p = some (.lst vs) → vs[i]? = some v → J.yld i H x H3 → (en = false ∧ x = v ∧ H3 = H) ∨ (en = true ∧ ∃ T, x = .ref T ∧ H T = none ∧ H3 = upd H T (.tup [.int (i : Int), v]))
theorem goes_list {K : PySem.W.Frag} {p : Addr} : Goes K false p (Itl K p) :=
  ⟨fun vs H h => ⟨vs, SqL.of h, Nat.le_refl _⟩, fun vs i v H h e => ⟨vs, v, SqL.of h, e⟩, fun vs i v x H H3 h e y => .inl ⟨rfl, Option.some.inj ((y.2 vs (SqL.of h)).symm.trans e), y.1⟩⟩
theorem goes_enum {K : PySem.W.Frag} {p : Addr} : Goes K true p (Ite K p) :=
  ⟨fun vs H h => ⟨vs, SqL.of h, Nat.le_refl _⟩, fun vs i v H h e => ⟨vs, v, SqL.of h, e⟩, fun vs i v x H H3 h e y => by
    obtain ⟨T, z, rfl, nT, rfl, ex⟩ := y
    have ez : z = v := Option.some.inj ((ex vs (SqL.of h)).symm.trans e)
    subst ez
    exact .inr ⟨rfl, T, rfl, nT, rfl⟩⟩
section
variable {X : Cx} {W : WX} {K : SS} {t : Tg}
theorem forD_of {en : Bool} {p : Addr} {J : It} {n : Nat} {us : List U} {D : Ends} {S : Addr → Prop} {ρ1 : List Addr} {a1 : ASt} {σ : St} {H1 : Hp} (g : Goes X.K en p J) (hρ : ρ1[n]? = some p) (rel1 : Rel (kc X) S ρ1 a1 σ H1) (q : DoneS (kc X) S ρ1 a1 σ H1 (iForD t en n us K 0 us a1) D W) :
    ∃ I : Nat → Nat → St → Hp → Prop, (∃ m, I 0 m σ H1) ∧ ∀ i m σ H, I i m σ H → (J.stop i H ∧ D.nx σ H) ∨ (J.go i H ∧ ∃ N : St → Hp → Prop, (∀ σ' H', N σ' H' → ∃ m', m' < m ∧ I (i + 1) m' σ' H') ∧ ∀ x H', J.yld i H x H' → gOf X.K t x σ H' fun σ2 H2 => tSI (kc X) W K { D with nx := N, ct := N, bk := D.nx } σ2 H2) := by
  refine ⟨fun i k σ2 H2 => k = us.length - i ∧ i ≤ us.length ∧ ∃ (ρ2 : List Addr) (a2 : ASt), Ext true ρ1 a1 σ H1 ρ2 a2 σ2 H2 ∧ Rel (kc X) S ρ2 a2 σ2 H2 ∧ DoneS (kc X) S ρ2 a2 σ2 H2 (iForD t en n us K i (us.drop i) a2) D W, ⟨us.length, by omega, Nat.zero_le _, ρ1, a1, Ext.refl, rel1, q⟩, ?_⟩
  rintro i k σ2 H2 ⟨rfl, hi, ρ2, a2, x2, rel2, q2⟩
  have hp2 : ρ2[n]? = some p := pre_get x2.pre hρ
  have same : ∀ {o : OutS}, DoneS (kc X) S ρ2 a2 σ2 H2 (if sameL a2 n us then o else .bad) D W → DoneS (kc X) S ρ2 a2 σ2 H2 o D W ∧ ∃ vs, H2 p = some (.lst vs) ∧ RepL (kc X) ρ2 H2 (Bad S ρ2 a2 σ2) us vs := fun {o} h => by
    by_cases hs : sameL a2 n us = true
    · rw [if_pos hs] at h
      exact ⟨h, rel2.obj n _ p (sameL_of hs) hp2⟩
    · rw [if_neg hs] at h
      exact h.elim
  by_cases hlt : i < us.length
  · rw [List.drop_eq_getElem_cons hlt] at q2
    unfold iForD at q2
    obtain ⟨q2, vs, hv, rl⟩ := same q2
    obtain ⟨v, ev, rv⟩ := rl.get' (List.getElem?_eq_getElem hlt)
    refine .inr ⟨g.go vs i v H2 hv ev, fun σ' H' => ∃ (ρ2 : List Addr) (a2 : ASt), Ext true ρ1 a1 σ H1 ρ2 a2 σ' H' ∧ Rel (kc X) S ρ2 a2 σ' H' ∧ DoneS (kc X) S ρ2 a2 σ' H' (iForD t en n us K (i + 1) (us.drop (i + 1)) a2) D W, fun σ' H' w => ⟨us.length - (i + 1), by omega, rfl, hlt, w⟩, fun x H3 y => ?_⟩
    have st : Ext true ρ2 a2 σ2 H2 ρ2 a2 σ2 H3 ∧ Rel (kc X) S ρ2 a2 σ2 H3 ∧ Rep (kc X) ρ2 H3 (Bad S ρ2 a2 σ2) (if en then .tup [.int (i : Int), us[i]] else us[i]) x := by
      rcases g.yld vs i v x H2 H3 hv ev y with ⟨rfl, rfl, rfl⟩ | ⟨rfl, T, rfl, nT, rfl⟩
      · exact ⟨Ext.refl, rel2, rv⟩
      · have rn := rel2.new (o := .tup [.int (i : Int), v]) nT
        have xn : Ext true ρ2 a2 σ2 H2 ρ2 a2 σ2 (upd H2 T (.tup [.int (i : Int), v])) := Ext.new nT
        refine ⟨xn, rn.sub fun p z => .inl z, .tup (.inl (.inl upd_same)) (.cons (.int _) (.cons (xn.rep (fun p z => z) rv) .nil))⟩
    obtain ⟨x3, rel3, r3⟩ := st
    cases hbd : bindT t (if en then .tup [.int (i : Int), us[i]] else us[i]) a2 with
    | none => rw [hbd] at q2; exact q2.elim
    | some a4 =>
      rw [hbd] at q2
      simp only at q2
      refine bind_ok (m := true) t rel3 r3 hbd fun σ4 rel4 _ x4 => ⟨S, ρ2, a4, rel4, ?_⟩
      have x5 : Ext true ρ2 a2 σ2 H2 ρ2 a4 σ4 H3 := x3.trans x4
      have q3 := DoneS.after x5 q2
      cases hK : K a4 with
      | bad => rw [hK] at q3; exact q3
      | nx a6 => rw [hK] at q3; exact fun σ' ρ' H' x6 rel6 => ⟨ρ', a6, (x2.trans x5).trans x6, rel6, DoneS.after x6 q3⟩
      | ct a6 => rw [hK] at q3; exact fun σ' ρ' H' x6 rel6 => ⟨ρ', a6, (x2.trans x5).trans x6, rel6, DoneS.after x6 q3⟩
      | bk a6 => rw [hK] at q3; exact q3
      | rt r G => rw [hK] at q3; exact q3
      | exc e a6 => rw [hK] at q3; exact q3
  · have ei : i = us.length := by omega
    subst ei
    rw [List.drop_length] at q2
    unfold iForD at q2
    obtain ⟨q2, vs, hv, rl⟩ := same q2
    rw [rl.length]
    exact .inl ⟨g.stop vs H2 hv, q2 σ2 ρ2 H2 Ext.refl rel2⟩
end
section
variable {X : Cx} {W : WX} {tg e : Expr} {body : List Stmt} {I : ES} {K : SS} {pos cp p : Pos} {t : Tg} {elts : List Expr} {kk : Nat} {tpos : Pos}
theorem forA_split {en : Bool} {I : ES} {K : SS} (a : ASt) : iForA t en I K a = iFor t (if en then itW true gEnum [I] else iSeqE true I) K a ∨ ((∃ n a1 us, I a = .ok (.val (.adr n)) a1 ∧ a1.G[n]? = some (.lst us) ∧ us.length ≤ sizeLine ∧ iForA t en I K a = iForD t en n us K 0 us a1) ∨ iForA t en I K a = .bad) := by
  unfold iForA
  split
  · rename_i n a1 hI
    split
    · rename_i us hG
      split
      · rename_i hz
        exact .inr (.inl ⟨n, a1, us, hI, hG, hz, rfl⟩)
      · exact .inr (.inr rfl)
    · exact .inr (.inr rfl)
  · exact .inl rfl
/-- for t in e -/
theorem psi_forA (hp : PassesOwn (model X.prog X.w) X.A X.env X.xe) (hc : X.calm = true) (hi : PEI X true W e I) (hg : PG X tg (gOf X.K t)) (hb : PSSI X W body K) (hs : ∀ x, foldedSetIterable e X.env x = pure x := by intro _; rfl) :
    PSI X W (.For tg e body [] pos) (iForA t false I K) := ⟨fun pins s σ H D IV q => by
  obtain ⟨S, ρ, a, rel, q⟩ := q
  rcases forA_split (t := t) (en := false) (I := I) (K := K) a with z | ⟨n, a1, us, hI, hG, hz, z⟩ | z
  · rw [z] at q
    exact (psi_for (t := t) (it := iSeqE true I) hp hc (pii_seq hi) hg hb hs).run pins s σ H D IV ⟨S, ρ, a, rel, q⟩
  · rw [z] at q
    refine (ps_for hp hc (pi_seq hi) hg hb hs).run pins s σ H D IV ⟨S, ρ, a, rel, ?_⟩
    rw [hI]
    intro v ρ1 H1 e1 rel1 rr1 hn1
    have relS : Rel (kc X) S ρ1 a1 σ H1 := rel1.sub fun p z => .inl z
    obtain ⟨p, rfl, hρ⟩ : ∃ p, v = .ref p ∧ ρ1[n]? = some p := by
      have rr1 : Rep (kc X) ρ1 H1 _ (.adr n) v := rr1
      cases rr1 with
      | adr h => exact ⟨_, rfl, h⟩
    obtain ⟨vs, hv, rl⟩ := relS.obj n _ p hG hρ
    exact ⟨p, rfl, .inl ⟨vs, SqL.of hv, fun _ => forD_of goes_list hρ relS (DoneS.after e1 q)⟩⟩
  · rw [z] at q
    exact q.elim⟩
/-- for i, x in enumerate(e) -/
theorem psi_forE (hp : PassesOwn (model X.prog X.w) X.A X.env X.xe) (hc : X.calm = true) (hgl : Gl X "enumerate") (hm : X.mg "enumerate" = none) (hi : PEI X true W e I) (hg : PG X (.Tuple elts kk tpos) (gOf X.K t)) (hb : PSSI X W body K)
    (hst : starEach [e] X.env = [(false, eval e X.env)] := by rfl) (hs : ∀ x, foldedSetIterable (.Call (.Name "enumerate" p) [e] [] cp) X.env x = pure x := by intro _; rfl) :
    PSI X W (.For (.Tuple elts kk tpos) (.Call (.Name "enumerate" p) [e] [] cp) body [] pos) (iForA t true I K) := ⟨fun pins s σ H D IV q => by
  obtain ⟨S, ρ, a, rel, q⟩ := q
  have ha : PAI X true W [e] [I] := pai_cons hi pai_nil hst
  rcases forA_split (t := t) (en := true) (I := I) (K := K) a with z | ⟨n, a1, us, hI, hG, hz, z⟩ | z
  · rw [z] at q
    exact (psi_for (t := t) (it := itW true gEnum [I]) hp hc (pii_enum hgl hm ha hst) hg hb hs).run pins s σ H D IV ⟨S, ρ, a, rel, q⟩
  · rw [z] at q
    refine (ps_for hp hc (pi_enum2 hgl hm ha hst) hg hb hs).run pins s σ H D IV ⟨S, ρ, a, rel, ?_⟩
    rw [hI]
    intro v ρ1 H1 e1 rel1 rr1 hn1
    have relS : Rel (kc X) S ρ1 a1 σ H1 := rel1.sub fun p z => .inl z
    obtain ⟨p, rfl, hρ⟩ : ∃ p, v = .ref p ∧ ρ1[n]? = some p := by
      have rr1 : Rep (kc X) ρ1 H1 _ (.adr n) v := rr1
      cases rr1 with
      | adr h => exact ⟨_, rfl, h⟩
    obtain ⟨vs, hv, rl⟩ := relS.obj n _ p hG hρ
    exact ⟨p, vs, rfl, .inl ⟨SqL.of hv, forD_of goes_enum hρ relS (DoneS.after e1 q)⟩⟩
  · rw [z] at q
    exact q.elim⟩
end
end IL
end T_IL22
section T_EV
set_option Elab.async false
set_option linter.all false
set_option maxRecDepth 100000
namespace IL
open PySem PySem.Spec L2
open PyProof.Rows hiding St
/-! ### evaluation by equations -/
theorem ev_enter (n : Nat) (us : List U) (G : List Ob) : enterA n us G = ⟨us.map .val ++ List.replicate (n - us.length) .non, G⟩ := rfl
theorem ev_runB (n : Nat) (B : SS) (us : List U) (G : List Ob) : runB n B us G = (B (enterA n us G)).fn := rfl
theorem ev_runC (n : Nat) (B : SS) (us : List U) (G : List Ob) : runC n B us G = (runB n B us G).cut G.length := rfl
theorem ev_bind (x : R) (a : ASt) (f : R → ASt → Out R) : (Out.ok x a).bind f = f x a := rfl
theorem ev_bindL (x : List R) (a : ASt) (f : List R → ASt → Out R) : (Out.ok x a).bind f = f x a := rfl
theorem ev_bindLL (x : List R) (a : ASt) (f : List R → ASt → Out (List R)) : (Out.ok x a).bind f = f x a := rfl
theorem ev_bindRL (x : R) (a : ASt) (f : R → ASt → Out (List R)) : (Out.ok x a).bind f = f x a := rfl
theorem ev_bindLU (x : List R) (a : ASt) (f : List R → ASt → Out (List U)) : (Out.ok x a).bind f = f x a := rfl
theorem ev_bindRU (x : R) (a : ASt) (f : R → ASt → Out (List U)) : (Out.ok x a).bind f = f x a := rfl
theorem ev_bindS (x : R) (a : ASt) (f : R → ASt → OutS) : (Out.ok x a).bindS f = f x a := rfl
theorem ev_args0 (a : ASt) : iArgs [] a = .ok [] a := rfl
theorem ev_args (I : ES) (Is : List ES) (a : ASt) : iArgs (I :: Is) a = (I a).bind fun r a1 => (iArgs Is a1).bind fun rs a2 => .ok (r :: rs) a2 := rfl
theorem ev_C (u : U) (a : ASt) : iC u a = .ok (.val u) a := rfl
/-- a slot's thing -/
def slotR (i : Nat) : Option Sl → ASt → Out R
  | some (.val u), a => .ok (.val u) a
  | some (.own _), a => .ok (.slot i) a
  | _, _ => .bad
theorem ev_var (i : Nat) (a : ASt) : iVar i a = slotR i a.sl[i]? a := by
  unfold iVar slotR
  cases a.sl[i]? with
  | none => rfl
  | some s => cases s <;> rfl
theorem ev_slotV (i : Nat) (u : U) (a : ASt) : slotR i (some (.val u)) a = .ok (.val u) a := rfl
theorem ev_slotO (i : Nat) (us : List U) (a : ASt) : slotR i (some (.own us)) a = .ok (.slot i) a := rfl
theorem ev_keep (I : ES) (a : ASt) : iKeep I a = (I a).bind fun r a1 => match r.settle a1 with | some (u, a2) => .ok (.val u) a2 | none => .bad := rfl
theorem ev_settleV (u : U) (a : ASt) : (R.val u).settle a = some (u, a) := rfl
theorem ev_settleO (us : List U) (a : ASt) : (R.own us).settle a = some (.lst us, a) := rfl
def settleS (i : Nat) (a : ASt) : Option Sl → Option (U × ASt)
  | some (.own us) => some (.lst us, a.set i (.val (.lst us)))
  | some (.val u) => some (u, a)
  | _ => none
theorem ev_settleS (i : Nat) (a : ASt) : (R.slot i).settle a = settleS i a a.sl[i]? := by
  unfold R.settle settleS
  dsimp only
  all_goals cases a.sl[i]? with
  | none => rfl
  | some s => cases s <;> rfl
theorem ev_settleSO (i : Nat) (us : List U) (a : ASt) : settleS i a (some (.own us)) = some (.lst us, a.set i (.val (.lst us))) := rfl
theorem ev_settleSV (i : Nat) (u : U) (a : ASt) : settleS i a (some (.val u)) = some (u, a) := rfl
theorem ev_set (sl : List Sl) (G : List Ob) (i : Nat) (s : Sl) : ASt.set ⟨sl, G⟩ i s = ⟨sl.set i s, G⟩ := rfl
theorem ev_op (g : List U → Option R) (Is : List ES) (a : ASt) : iOp g Is a = (iArgs Is a).bind fun rs a1 => if rs.all (R.okIn a1) then (match g (rs.map (R.view a1)) with | some r => .ok r a1 | none => .bad) else .bad := rfl
theorem ev_okV (u : U) (a : ASt) : (R.val u).okIn a = true := rfl
theorem ev_okO (us : List U) (a : ASt) : (R.own us).okIn a = true := rfl
def okS : Option Sl → Bool
  | some (.own _) => true
  | some (.val _) => true
  | _ => false
theorem ev_okS (i : Nat) (a : ASt) : (R.slot i).okIn a = okS a.sl[i]? := by
  unfold R.okIn okS
  dsimp only
  all_goals cases a.sl[i]? with
  | none => rfl
  | some s => cases s <;> rfl
theorem ev_okSO (us : List U) : okS (some (.own us)) = true := rfl
theorem ev_okSV (u : U) : okS (some (.val u)) = true := rfl
theorem ev_viewV (u : U) (a : ASt) : (R.val u).view a = u.now a := rfl
theorem ev_viewO (us : List U) (a : ASt) : (R.own us).view a = .lst us := rfl
def viewS (a : ASt) : Option Sl → U
  | some (.own us) => .lst us
  | some (.val u) => u.now a
  | _ => .non
theorem ev_viewS (i : Nat) (a : ASt) : (R.slot i).view a = viewS a a.sl[i]? := by
  unfold R.view viewS
  dsimp only
  all_goals cases a.sl[i]? with
  | none => rfl
  | some s => cases s <;> rfl
theorem ev_viewSO (us : List U) (a : ASt) : viewS a (some (.own us)) = .lst us := rfl
theorem ev_viewSV (u : U) (a : ASt) : viewS a (some (.val u)) = u.now a := rfl
theorem ev_nowN (a : ASt) : U.now a .non = .non := rfl
theorem ev_nowB (b : Bool) (a : ASt) : U.now a (.bl b) = .bl b := rfl
theorem ev_nowI (b : Int) (a : ASt) : U.now a (.int b) = .int b := rfl
theorem ev_nowS (b : Str) (a : ASt) : U.now a (.str b) = .str b := rfl
theorem ev_nowT (b : List U) (a : ASt) : U.now a (.tup b) = .tup b := rfl
theorem ev_nowL (b : List U) (a : ASt) : U.now a (.lst b) = .lst b := rfl
theorem ev_nowC (b : List U) (a : ASt) : U.now a (.scr b) = .scr b := rfl
theorem ev_nowF (b : Str) (a : ASt) : U.now a (.fn b) = .fn b := rfl
def nowG (n : Nat) : Option Ob → U
  | some (.lst us) => .lst us
  | some (.dct ks us) => .dct ks us
  | _ => .adr n
theorem ev_nowA (n : Nat) (a : ASt) : U.now a (.adr n) = nowG n a.G[n]? := by
  unfold U.now nowG
  dsimp only
  all_goals cases a.G[n]? with
  | none => rfl
  | some s => cases s <;> rfl
theorem ev_nowGL (n : Nat) (us : List U) : nowG n (some (.lst us)) = .lst us := rfl
theorem ev_bl (b : Bool) : (R.val (.bl b)).bl? = some b := rfl
theorem ev_not (I : ES) (a : ASt) : iNot I a = (I a).bind fun r a1 => match r.bl? with | some b => .ok (.val (.bl (!b))) a1 | none => .bad := by
  unfold iNot
  rfl
def condE (b : Option Bool) (x y : Out R) : Out R := match b with
  | some true => x
  | some false => y
  | none => .bad
theorem condE_t (x y : Out R) : condE (some true) x y = x := rfl
theorem condE_f (x y : Out R) : condE (some false) x y = y := rfl
theorem ev_and (I J : ES) (a : ASt) : iAnd I J a = (I a).bind fun r a1 => condE r.bl? (J a1) (.ok (.val (.bl false)) a1) := by
  unfold iAnd condE
  rfl
theorem ev_or (I J : ES) (a : ASt) : iOr I J a = (I a).bind fun r a1 => condE r.bl? (.ok (.val (.bl true)) a1) (J a1) := by
  unfold iOr condE
  rfl
theorem ev_if (I J L : ES) (a : ASt) : iIf I J L a = (I a).bind fun r a1 => condE r.bl? (J a1) (L a1) := by
  unfold iIf condE
  rfl
def condS (b : Option Bool) (x y : OutS) : OutS := match b with
  | some true => x
  | some false => y
  | none => .bad
theorem condS_t (x y : OutS) : condS (some true) x y = x := rfl
theorem condS_f (x y : OutS) : condS (some false) x y = y := rfl
theorem ev_ifS (I : ES) (J L : SS) (a : ASt) : iIfS I J L a = (I a).bindS fun r a1 => condS r.bl? (J a1) (L a1) := by
  unfold iIfS condS
  rfl
def seqO (o : OutS) (J : SS) : OutS := match o with
  | .nx a => J a
  | o => o
theorem ev_seq (I J : SS) (a : ASt) : iSq I J a = seqO (I a) J := by
  unfold iSq seqO
  rfl
theorem seqO_nx (a : ASt) (J : SS) : seqO (.nx a) J = J a := rfl
theorem seqO_rt (r : R) (G : List Ob) (J : SS) : seqO (.rt r G) J = .rt r G := rfl
theorem seqO_bk (a : ASt) (J : SS) : seqO (.bk a) J = .bk a := rfl
theorem seqO_ct (a : ASt) (J : SS) : seqO (.ct a) J = .ct a := rfl
theorem ev_nil (a : ASt) : iNil a = .nx a := rfl
theorem ev_drop (I : ES) (a : ASt) : iDrop I a = (I a).bindS fun _ a1 => .nx a1 := rfl
theorem ev_ret (I : ES) (a : ASt) : iRet I a = (I a).bindS fun r a1 => match r.ret a1 with | some r' => .rt r' a1.G | none => .bad := rfl
theorem ev_retV (u : U) (a : ASt) : (R.val u).ret a = some (.val u) := rfl
theorem ev_retO (us : List U) (a : ASt) : (R.own us).ret a = some (.own us) := rfl
def retS : Option Sl → Option R
  | some (.own us) => some (.own us)
  | some (.val u) => some (.val u)
  | _ => none
theorem ev_retS (i : Nat) (a : ASt) : (R.slot i).ret a = retS a.sl[i]? := by
  unfold R.ret retS
  dsimp only
  all_goals cases a.sl[i]? with
  | none => rfl
  | some s => cases s <;> rfl
theorem ev_retSO (us : List U) : retS (some (.own us)) = some (.own us) := rfl
theorem ev_retSV (u : U) : retS (some (.val u)) = some (.val u) := rfl
theorem ev_fnR (r : R) (G : List Ob) : (OutS.rt r G).fn = .ret r G := rfl
theorem ev_fnN (a : ASt) : (OutS.nx a).fn = .ret (.val .non) a.G := rfl
theorem ev_call (F : FS) (Is : List ES) (a : ASt) : iCallF F Is a = (iArgs Is a).bind fun rs a1 => match frzL rs with | some us => (F us a1.G).res a1 | none => .bad := rfl
theorem ev_frz0 : frzL [] = some [] := rfl
theorem ev_frzV (u : U) (rs : List R) : frzL (.val u :: rs) = (frzL rs).map (u :: ·) := by
  show (match (some u : Option U), frzL rs with | some u, some us => some (u :: us) | _, _ => none) = _
  cases frzL rs <;> rfl
theorem ev_frzO (us : List U) (rs : List R) : frzL (.own us :: rs) = (frzL rs).map (.lst us :: ·) := by
  show (match (some (U.lst us) : Option U), frzL rs with | some u, some us => some (u :: us) | _, _ => none) = _
  cases frzL rs <;> rfl
theorem ev_res (r : R) (G : List Ob) (a : ASt) : (OutF.ret r G).res a = .ok r ⟨a.sl, G⟩ := rfl
theorem ev_tup (Is : List ES) (a : ASt) : iTup Is a = (iArgs Is a).bind fun rs a1 => match frzL rs with | some us => .ok (.val (.tup us)) a1 | none => .bad := rfl
theorem ev_lst (Is : List ES) (a : ASt) : iLst Is a = (iArgs Is a).bind fun rs a1 => match frzL rs with | some us => .ok (.own us) a1 | none => .bad := rfl
theorem ev_iSet (i : Nat) (I : ES) (a : ASt) : iSet i I a = (I a).bindS fun r a1 => match r with
  | .val u => .nx (a1.set i (.val u))
  | .own us => .nx (a1.set i (.own us))
  | .slot j => (match R.settle a1 (.slot j) with
    | some (u, a2) => .nx (a2.set i (.val u))
    | none => .bad)
  | .dic _ _ => .bad := rfl
theorem ev_new (I : ES) (a : ASt) : iNew I a = (I a).bind fun r a1 => match newR a1 r with | some (u, a2) => .ok (.val u) a2 | none => .bad := rfl
theorem ev_newO (us : List U) (a : ASt) : newR a (.own us) = some (.adr a.G.length, ⟨a.sl, a.G ++ [.lst us]⟩) := rfl
theorem ev_par (is : List Nat) (Is : List ES) (a : ASt) : iPar is Is a = match iArgs Is a with | .ok rs a1 => (match bindRs is rs a1 with | some a2 => .nx a2 | none => .bad) | .exc e a1 => .exc e a1 | .bad => .bad := rfl
theorem ev_bindRs0 (a : ASt) : bindRs [] [] a = some a := rfl
theorem ev_bindRsV (i : Nat) (is : List Nat) (u : U) (rs : List R) (a : ASt) : bindRs (i :: is) (.val u :: rs) a = bindRs is rs (a.set i (.val u)) := rfl
theorem ev_bindRsO (i : Nat) (is : List Nat) (u : List U) (rs : List R) (a : ASt) : bindRs (i :: is) (.own u :: rs) a = bindRs is rs (a.set i (.own u)) := rfl
theorem ev_for (t : Tg) (it : IT) (B : SS) (a : ASt) : iFor t it B a = match it a with | .ok us a1 => iForGo t B us a1 | .exc e a1 => .exc e a1 | .bad => .bad := rfl
theorem ev_itOf (g : List U → Option (List U)) (Is : List ES) (a : ASt) : itOf g Is a = (iArgs Is a).bind fun rs a1 => if rs.all (R.okIn a1) then (match g (rs.map (R.view a1)) with | some us => .ok us a1 | none => .bad) else .bad := rfl
theorem ev_chain (g g' : List U → Option R) (I J L : ES) (a : ASt) : iChain g g' I J L a = (iArgs [I, J] a).bind fun rs a1 => match rs with
  | [r1, .val (.int j)] => if r1.okIn a1 then (match g [r1.view a1, .int j] with
    | some r => condE r.bl? (iOp g' [iC (.int j), L] a1) (.ok (.val (.bl false)) a1)
    | none => .bad) else .bad
  | _ => .bad := by
  unfold iChain condE
  rfl
theorem ev_cmpI (p : Int → Int → Bool) (i j : Int) : gCmpI p [.int i, .int j] = some (.val (.bl (p i j))) := rfl
theorem ev_add (i j : Int) : gAdd [.int i, .int j] = some (.val (.int (i + j))) := rfl
theorem ev_sub (i j : Int) : gSub [.int i, .int j] = some (.val (.int (i - j))) := rfl
theorem ev_mod (i j : Int) (h : 0 < j) : gMod [.int i, .int j] = some (.val (.int (i % j))) := if_pos h
theorem ev_div (i j : Int) (h : 0 < j ∧ j.natAbs.log2 < 9000) : gDiv [.int i, .int j] = some (.val (.int (i / j))) := if_pos h
theorem ev_mul (i j : Int) (h : mulOk i j = true) : gMul [.int i, .int j] = some (.val (.int (i * j))) := if_pos h

end IL
end T_EV
section T_DR
set_option Elab.async false
set_option linter.all false
set_option maxRecDepth 100000
namespace IL
open PySem PySem.Spec L2
open PyProof.Rows hiding St
theorem ev_subS (I Io Ii : ES) (a : ASt) : iSubS I Io Ii a = match iArgs [I, Io, Ii] a with
  | .ok rs a1 => (match rs with
    | [r, ro, ri] => (match r.frz, recvL a1 ro, ri with
      | some u, some us, .val (.int k) => (match ixN us.length k with
        | some j => .nx (setL a1 (us.set j u) ro)
        | none => .bad)
      | _, _, _ => .bad)
    | _ => .bad)
  | .exc e a1 => .exc e a1
  | .bad => .bad := rfl
theorem ev_frz1V (u : U) : (R.val u).frz = some u := rfl
theorem ev_frz1O (u : List U) : (R.own u).frz = some (.lst u) := rfl
def recvG : Option Ob → Option (List U)
  | some (.lst us) => some us
  | _ => none
theorem ev_recvA (n : Nat) (a : ASt) : recvL a (.val (.adr n)) = recvG a.G[n]? := by
  unfold recvL recvG
  dsimp only
  all_goals cases a.G[n]? with
  | none => rfl
  | some s => cases s <;> rfl
theorem ev_recvGL (us : List U) : recvG (some (.lst us)) = some us := rfl
def recvS : Option Sl → Option (List U)
  | some (.own us) => some us
  | _ => none
theorem ev_recvS (n : Nat) (a : ASt) : recvL a (.slot n) = recvS a.sl[n]? := by
  unfold recvL recvS
  dsimp only
  all_goals cases a.sl[n]? with
  | none => rfl
  | some s => cases s <;> rfl
theorem ev_recvSO (us : List U) : recvS (some (.own us)) = some us := rfl
theorem ev_setA (n : Nat) (us : List U) (sl : List Sl) (G : List Ob) : setL ⟨sl, G⟩ us (.val (.adr n)) = ⟨sl, G.set n (.lst us)⟩ := rfl
theorem ev_setS (n : Nat) (us : List U) (sl : List Sl) (G : List Ob) : setL ⟨sl, G⟩ us (.slot n) = ⟨sl.set n (.own us), G⟩ := rfl
theorem ev_ixL (us : List U) (i : Int) : gIx [.lst us, .int i] = (atI us i).map .val := rfl
theorem ev_ixT (us : List U) (i : Int) : gIx [.tup us, .int i] = (atI us i).map .val := rfl
theorem ev_ixC (us : List U) (i : Int) : gIx [.scr us, .int i] = (atI us i).map .val := rfl
theorem atI_nat {α : Type} {us : List α} {n : Nat} {u : α} (h : us[n]? = some u) : atI us (n : Int) = some u := by
  have hl : n < us.length := (List.getElem?_eq_some_iff.mp h).1
  unfold atI ixN
  rw [if_pos (Int.natCast_nonneg n), if_pos (Int.ofNat_lt.mpr hl)]
  exact h
theorem atI_0 {α : Type} (x : α) (us : List α) : atI (x :: us) 0 = some x := atI_nat (n := 0) rfl
theorem atI_1 {α : Type} (x y : α) (us : List α) : atI (x :: y :: us) 1 = some y := atI_nat (n := 1) rfl
theorem atI_2 {α : Type} (x y z : α) (us : List α) : atI (x :: y :: z :: us) 2 = some z := atI_nat (n := 2) rfl
theorem atI_3 {α : Type} (x y z w : α) (us : List α) : atI (x :: y :: z :: w :: us) 3 = some w := atI_nat (n := 3) rfl
theorem atI_4 {α : Type} (x y z w v : α) (us : List α) : atI (x :: y :: z :: w :: v :: us) 4 = some v := atI_nat (n := 4) rfl
theorem ev_eqI (i j : Int) : gEq [.int i, .int j] = some (.val (.bl (decide (i = j)))) := rfl
theorem ev_neI (i j : Int) : gNe [.int i, .int j] = some (.val (.bl (!decide (i = j)))) := rfl
theorem ev_lenL (us : List U) : gLen [.lst us] = some (.val (.int us.length)) := rfl
theorem ev_lenT (us : List U) : gLen [.tup us] = some (.val (.int us.length)) := rfl
theorem ev_lenC (us : List U) : gLen [.scr us] = some (.val (.int us.length)) := rfl
theorem ev_int (i : Int) : gInt [.int i] = some (.val (.int i)) := rfl
theorem ev_abs (i : Int) : gAbs [.int i] = some (.val (.int (if i < 0 then -i else i))) := rfl
theorem ev_neg (i : Int) : gNeg [.int i] = some (.val (.int (-i))) := rfl
theorem ev_pow18 : gPow [.int 10, .int 18] = some (.val (.int (10 ^ 18))) := by
  show (if (0 : Int) ≤ 18 ∧ (18 : Int) ≤ 1000000 ∧ (10 : Int).natAbs < 2 ^ 64 then some (R.val (.int (10 ^ (18 : Int).toNat))) else none) = _
  rw [if_pos (by decide)]
  rfl
theorem mulOk_r {i j : Int} (h : j.natAbs < 2 ^ 64) : mulOk i j = true := decide_eq_true (.inl (.inr h))
theorem mulOk_l {i j : Int} (h : i.natAbs < 2 ^ 64) : mulOk i j = true := decide_eq_true (.inl (.inl h))
theorem ix5_1 : ixN 5 1 = some 1 := rfl
theorem ix5_2 : ixN 5 2 = some 2 := rfl
theorem ix5_3 : ixN 5 3 = some 3 := rfl
theorem ix5_4 : ixN 5 4 = some 4 := rfl
def Bdraw : SS :=
    iSq (iIfS (iAnd (iOp gEq [iOp gIx [iVar 0, iC (.int 2)], iC (.int 0)]) (iOp (gCmpI fun i j => decide (i < j)) [iOp gIx [iVar 0, iC (.int 1)], iOp gLen [iOp gIx [iVar 0, iC (.int 0)]]]))
    (iSq (iSet 3 (iOp gIx [iOp gIx [iVar 0, iC (.int 0)], iOp gIx [iVar 0, iC (.int 1)]]))
    (iSq (iSubS (iOp gAdd [iOp gIx [iVar 0, iC (.int 1)], iC (.int 1)]) (iVar 0) (iC (.int 1)))
    (iSq (iSubS (iOp gMod [iOp gInt [iOp gAdd [iOp gAdd [iOp gMul [iOp gIx [iVar 0, iC (.int 3)], iC (.int 48271)], iVar 3], iC (.int 29)]], iC (.int 2147483629)]) (iVar 0) (iC (.int 3)))
    (iIfS (iOp (gCmpI fun i j => decide (j ≤ i)) [iVar 3, iOp gPow [iC (.int 10), iC (.int 18)]])
    (iSubS (iKeep (iVar 3)) (iVar 0) (iC (.int 2)))
    (iNil)))))
    (iNil))
    (iSq (iIfS (iOp (gCmpI fun i j => decide (j < i)) [iOp gIx [iVar 0, iC (.int 2)], iC (.int 0)])
    (iSq (iSet 4 (iOp gMod [iOp gInt [iOp gIx [iVar 0, iC (.int 2)]], iVar 1]))
    (iSq (iSubS (iOp gDiv [iOp gIx [iVar 0, iC (.int 2)], iVar 1]) (iVar 0) (iC (.int 2)))
    (iRet (iVar 4))))
    (iNil))
    (iSq (iSubS (iOp gAdd [iOp gIx [iVar 0, iC (.int 4)], iC (.int 1)]) (iVar 0) (iC (.int 4)))
    (iSq (iSet 2 (iOp gMod [iOp gInt [iOp gMul [iOp gAdd [iOp gIx [iVar 0, iC (.int 3)], iOp gMul [iC (.int 7919), iOp gIx [iVar 0, iC (.int 4)]]], iC (.int 69621)]], iC (.int 2147483647)]))
    (iSq (iSet 2 (iOp gMod [iOp gInt [iOp gMul [iVar 2, iOp gAdd [iOp gDiv [iVar 2, iC (.int 1009)], iC (.int 48271)]]], iC (.int 2147483629)]))
    (iSq (iSet 2 (iOp gMod [iOp gInt [iOp gMul [iVar 2, iOp gAdd [iOp gDiv [iVar 2, iC (.int 2003)], iC (.int 40692)]]], iC (.int 2147483399)]))
    (iRet (iOp gMod [iOp gInt [iOp gDiv [iVar 2, iC (.int 16)]], iVar 1])))))))
/-- the law's pot of numbers -/
def potU (cells : List Int) (i b a c : Int) : List U := [.lst (cells.map .int), .int i, .int b, .int a, .int c]
/-- the drawing's tail -/
theorem draw_tail (cells : List Int) (i b a c many : Int) (hm : 0 < many ∧ many.natAbs.log2 < 9000) (G : List Ob) (s3 : Sl) :
    ∃ r b' c', 0 ≤ r ∧ r < many ∧ (seqO (iIfS (iOp (gCmpI fun i j => decide (j < i)) [iOp gIx [iVar 0, iC (.int 2)], iC (.int 0)])
    (iSq (iSet 4 (iOp gMod [iOp gInt [iOp gIx [iVar 0, iC (.int 2)]], iVar 1]))
    (iSq (iSubS (iOp gDiv [iOp gIx [iVar 0, iC (.int 2)], iVar 1]) (iVar 0) (iC (.int 2)))
    (iRet (iVar 4))))
    (iNil) ⟨[.val (.adr 0), .val (.int many), .non, s3, .non], .lst (potU cells i b a c) :: G⟩) (iSq (iSubS (iOp gAdd [iOp gIx [iVar 0, iC (.int 4)], iC (.int 1)]) (iVar 0) (iC (.int 4)))
    (iSq (iSet 2 (iOp gMod [iOp gInt [iOp gMul [iOp gAdd [iOp gIx [iVar 0, iC (.int 3)], iOp gMul [iC (.int 7919), iOp gIx [iVar 0, iC (.int 4)]]], iC (.int 69621)]], iC (.int 2147483647)]))
    (iSq (iSet 2 (iOp gMod [iOp gInt [iOp gMul [iVar 2, iOp gAdd [iOp gDiv [iVar 2, iC (.int 1009)], iC (.int 48271)]]], iC (.int 2147483629)]))
    (iSq (iSet 2 (iOp gMod [iOp gInt [iOp gMul [iVar 2, iOp gAdd [iOp gDiv [iVar 2, iC (.int 2003)], iC (.int 40692)]]], iC (.int 2147483399)]))
    (iRet (iOp gMod [iOp gInt [iOp gDiv [iVar 2, iC (.int 16)]], iVar 1]))))))).fn = .ret (.val (.int r)) (.lst (potU cells i b' a c') :: G) := by
  by_cases hb : 0 < b
  · refine ⟨b % many, b / many, c, Int.emod_nonneg _ (by omega), Int.emod_lt_of_pos _ hm.1, ?_⟩
    simp only [ev_enter, ev_runB, ev_runC, ev_bind, ev_bindL, ev_bindLL, ev_bindRL, ev_bindLU, ev_bindRU, ev_bindS, ev_args0, ev_args, ev_C, ev_var, ev_slotV, ev_slotO, ev_keep, ev_settleV, ev_settleO, ev_settleS, ev_settleSO, ev_settleSV, ev_set, ev_op, ev_okV, ev_okO, ev_okS, ev_okSO, ev_okSV, ev_viewV, ev_viewO, ev_viewS, ev_viewSO, ev_viewSV, ev_nowN, ev_nowB, ev_nowI, ev_nowS, ev_nowT, ev_nowL, ev_nowC, ev_nowF, ev_nowA, ev_nowGL, ev_bl, ev_not, ev_and, ev_or, ev_if, ev_ifS, condE_t, condE_f, condS_t, condS_f, ev_seq, seqO_nx, seqO_rt, seqO_bk, seqO_ct, ev_nil, ev_drop, ev_ret, ev_retV, ev_retO, ev_retS, ev_retSO, ev_retSV, ev_fnR, ev_fnN, ev_call, ev_frz0, ev_frzV, ev_frzO, ev_res, ev_tup, ev_lst, ev_iSet, ev_new, ev_newO, ev_par, ev_bindRs0, ev_bindRsV, ev_bindRsO, ev_for, ev_itOf, ev_chain, ev_cmpI, ev_add, ev_sub, Option.map_some, List.map_cons, List.map_nil, List.all_cons, List.all_nil, Bool.and_true, Bool.true_and, Bool.and_self, if_true, ite_true, eq_self, List.length_cons, List.length_nil, List.replicate, List.cons_append, List.nil_append, List.append_nil, List.getElem?_cons_zero, List.getElem?_cons_succ, List.set_cons_zero, List.set_cons_succ, Nat.reduceAdd, Nat.reduceSub, Nat.zero_add, Nat.add_zero, Nat.sub_self, potU, ev_ixL, atI_2, hb, decide_true, ev_int, ev_mod _ _ hm.1, ev_div _ _ hm, ev_subS, ev_frz1V, ev_recvA, ev_recvGL, ix5_2, ev_setA]
  · have q : ∀ (x m : Int), 0 < m → m < 2 ^ 60 → (x % m).natAbs < 2 ^ 64 := fun x m h h2 => by
      have h1 := Int.emod_nonneg x (show m ≠ 0 by omega)
      have h3 := Int.emod_lt_of_pos x h
      omega
    have e1 : ∀ x : Int, mulOk (7919 : Int) x = true := fun x => mulOk_l (by decide)
    have e2 : ∀ x : Int, mulOk x 69621 = true := fun x => mulOk_r (by decide)
    have e3 : ∀ x y : Int, mulOk (x % 2147483647) y = true := fun x y => mulOk_l (q _ _ (by decide) (by decide))
    have e4 : ∀ x y : Int, mulOk (x % 2147483629) y = true := fun x y => mulOk_l (q _ _ (by decide) (by decide))
    have d1 : (0 : Int) < 1009 ∧ (1009 : Int).natAbs.log2 < 9000 := by decide
    have d2 : (0 : Int) < 2003 ∧ (2003 : Int).natAbs.log2 < 9000 := by decide
    have d3 : (0 : Int) < 16 ∧ (16 : Int).natAbs.log2 < 9000 := by decide
    obtain ⟨n1, hn1⟩ : ∃ n, n = (a + 7919 * (c + 1)) * 69621 % 2147483647 := ⟨_, rfl⟩
    obtain ⟨n2, hn2⟩ : ∃ n, n = n1 * (n1 / 1009 + 48271) % 2147483629 := ⟨_, rfl⟩
    obtain ⟨n3, hn3⟩ : ∃ n, n = n2 * (n2 / 2003 + 40692) % 2147483399 := ⟨_, rfl⟩
    refine ⟨n3 / 16 % many, b, c + 1, Int.emod_nonneg _ (by omega), Int.emod_lt_of_pos _ hm.1, ?_⟩
    rw [hn3, hn2, hn1]
    simp only [ev_enter, ev_runB, ev_runC, ev_bind, ev_bindL, ev_bindLL, ev_bindRL, ev_bindLU, ev_bindRU, ev_bindS, ev_args0, ev_args, ev_C, ev_var, ev_slotV, ev_slotO, ev_keep, ev_settleV, ev_settleO, ev_settleS, ev_settleSO, ev_settleSV, ev_set, ev_op, ev_okV, ev_okO, ev_okS, ev_okSO, ev_okSV, ev_viewV, ev_viewO, ev_viewS, ev_viewSO, ev_viewSV, ev_nowN, ev_nowB, ev_nowI, ev_nowS, ev_nowT, ev_nowL, ev_nowC, ev_nowF, ev_nowA, ev_nowGL, ev_bl, ev_not, ev_and, ev_or, ev_if, ev_ifS, condE_t, condE_f, condS_t, condS_f, ev_seq, seqO_nx, seqO_rt, seqO_bk, seqO_ct, ev_nil, ev_drop, ev_ret, ev_retV, ev_retO, ev_retS, ev_retSO, ev_retSV, ev_fnR, ev_fnN, ev_call, ev_frz0, ev_frzV, ev_frzO, ev_res, ev_tup, ev_lst, ev_iSet, ev_new, ev_newO, ev_par, ev_bindRs0, ev_bindRsV, ev_bindRsO, ev_for, ev_itOf, ev_chain, ev_cmpI, ev_add, ev_sub, Option.map_some, List.map_cons, List.map_nil, List.all_cons, List.all_nil, Bool.and_true, Bool.true_and, Bool.and_self, if_true, ite_true, eq_self, List.length_cons, List.length_nil, List.replicate, List.cons_append, List.nil_append, List.append_nil, List.getElem?_cons_zero, List.getElem?_cons_succ, List.set_cons_zero, List.set_cons_succ, Nat.reduceAdd, Nat.reduceSub, Nat.zero_add, Nat.add_zero, Nat.sub_self, potU, ev_ixL, atI_2, atI_3, atI_4, hb, decide_false, ev_int, ev_mod _ _ hm.1, ev_subS, ev_frz1V, ev_recvA, ev_recvGL, ix5_4, ev_setA, ev_mul _ _ (e1 _), ev_mul _ _ (e2 _), ev_mul _ _ (e3 _ _), ev_mul _ _ (e4 _ _), ev_div _ _ d1, ev_div _ _ d2, ev_div _ _ d3, ev_mod _ 2147483647 (by decide), ev_mod _ 2147483629 (by decide), ev_mod _ 2147483399 (by decide)]
theorem draw_ok (cells : List Int) (i b a c many : Int) (hi : 0 ≤ i) (hm : 0 < many ∧ many.natAbs.log2 < 9000) (G : List Ob) :
    ∃ r i' b' a' c', 0 ≤ i' ∧ 0 ≤ r ∧ r < many ∧ runB 5 Bdraw [.adr 0, .int many] (.lst (potU cells i b a c) :: G) = .ret (.val (.int r)) (.lst (potU cells i' b' a' c') :: G) := by
  by_cases hc : b = 0 ∧ i < cells.length
  · obtain ⟨hb, hl⟩ := hc
    obtain ⟨n, rfl⟩ := Int.eq_ofNat_of_zero_le hi
    have hn : n < cells.length := by omega
    have hat : atI (cells.map U.int) (n : Int) = some (.int cells[n]) := atI_nat (by rw [List.getElem?_map, List.getElem?_eq_getElem hn]; rfl)
    have hlen : ((n : Int) < ((cells.map U.int).length : Int)) := by rw [List.length_map]; omega
    have e1 : ∀ x : Int, mulOk x 48271 = true := fun x => mulOk_r (by decide)
    by_cases hg : (10 : Int) ^ 18 ≤ cells[n]
    · obtain ⟨r, b', c', h1, h2, h3⟩ := draw_tail cells (n + 1) cells[n] ((a * 48271 + cells[n] + 29) % 2147483629) c many hm G (.val (.int cells[n]))
      refine ⟨r, n + 1, b', (a * 48271 + cells[n] + 29) % 2147483629, c', by omega, h1, h2, ?_⟩
      rw [← h3]
      simp only [ev_enter, ev_runB, ev_runC, ev_bind, ev_bindL, ev_bindLL, ev_bindRL, ev_bindLU, ev_bindRU, ev_bindS, ev_args0, ev_args, ev_C, ev_var, ev_slotV, ev_slotO, ev_keep, ev_settleV, ev_settleO, ev_settleS, ev_settleSO, ev_settleSV, ev_set, ev_op, ev_okV, ev_okO, ev_okS, ev_okSO, ev_okSV, ev_viewV, ev_viewO, ev_viewS, ev_viewSO, ev_viewSV, ev_nowN, ev_nowB, ev_nowI, ev_nowS, ev_nowT, ev_nowL, ev_nowC, ev_nowF, ev_nowA, ev_nowGL, ev_bl, ev_not, ev_and, ev_or, ev_if, ev_ifS, condE_t, condE_f, condS_t, condS_f, ev_seq, seqO_nx, seqO_rt, seqO_bk, seqO_ct, ev_nil, ev_drop, ev_ret, ev_retV, ev_retO, ev_retS, ev_retSO, ev_retSV, ev_fnR, ev_fnN, ev_call, ev_frz0, ev_frzV, ev_frzO, ev_res, ev_tup, ev_lst, ev_iSet, ev_new, ev_newO, ev_par, ev_bindRs0, ev_bindRsV, ev_bindRsO, ev_for, ev_itOf, ev_chain, ev_cmpI, ev_add, ev_sub, Option.map_some, List.map_cons, List.map_nil, List.all_cons, List.all_nil, Bool.and_true, Bool.true_and, Bool.and_self, if_true, ite_true, eq_self, List.length_cons, List.length_nil, List.replicate, List.cons_append, List.nil_append, List.append_nil, List.getElem?_cons_zero, List.getElem?_cons_succ, List.set_cons_zero, List.set_cons_succ, Nat.reduceAdd, Nat.reduceSub, Nat.zero_add, Nat.add_zero, Nat.sub_self, Bdraw, potU, ev_ixL, atI_0, atI_1, atI_2, atI_3, ev_eqI, hb, hlen, decide_true, ev_lenL, hat, ev_subS, ev_frz1V, ev_recvA, ev_recvGL, ix5_1, ix5_2, ix5_3, ev_setA, ev_mul _ _ (e1 _), ev_int, ev_mod _ 2147483629 (by decide), ev_pow18, hg]
    · obtain ⟨r, b', c', h1, h2, h3⟩ := draw_tail cells (n + 1) b ((a * 48271 + cells[n] + 29) % 2147483629) c many hm G (.val (.int cells[n]))
      refine ⟨r, n + 1, b', (a * 48271 + cells[n] + 29) % 2147483629, c', by omega, h1, h2, ?_⟩
      rw [← h3]
      simp only [ev_enter, ev_runB, ev_runC, ev_bind, ev_bindL, ev_bindLL, ev_bindRL, ev_bindLU, ev_bindRU, ev_bindS, ev_args0, ev_args, ev_C, ev_var, ev_slotV, ev_slotO, ev_keep, ev_settleV, ev_settleO, ev_settleS, ev_settleSO, ev_settleSV, ev_set, ev_op, ev_okV, ev_okO, ev_okS, ev_okSO, ev_okSV, ev_viewV, ev_viewO, ev_viewS, ev_viewSO, ev_viewSV, ev_nowN, ev_nowB, ev_nowI, ev_nowS, ev_nowT, ev_nowL, ev_nowC, ev_nowF, ev_nowA, ev_nowGL, ev_bl, ev_not, ev_and, ev_or, ev_if, ev_ifS, condE_t, condE_f, condS_t, condS_f, ev_seq, seqO_nx, seqO_rt, seqO_bk, seqO_ct, ev_nil, ev_drop, ev_ret, ev_retV, ev_retO, ev_retS, ev_retSO, ev_retSV, ev_fnR, ev_fnN, ev_call, ev_frz0, ev_frzV, ev_frzO, ev_res, ev_tup, ev_lst, ev_iSet, ev_new, ev_newO, ev_par, ev_bindRs0, ev_bindRsV, ev_bindRsO, ev_for, ev_itOf, ev_chain, ev_cmpI, ev_add, ev_sub, Option.map_some, List.map_cons, List.map_nil, List.all_cons, List.all_nil, Bool.and_true, Bool.true_and, Bool.and_self, if_true, ite_true, eq_self, List.length_cons, List.length_nil, List.replicate, List.cons_append, List.nil_append, List.append_nil, List.getElem?_cons_zero, List.getElem?_cons_succ, List.set_cons_zero, List.set_cons_succ, Nat.reduceAdd, Nat.reduceSub, Nat.zero_add, Nat.add_zero, Nat.sub_self, Bdraw, potU, ev_ixL, atI_0, atI_1, atI_2, atI_3, ev_eqI, hb, hlen, decide_true, ev_lenL, hat, ev_subS, ev_frz1V, ev_recvA, ev_recvGL, ix5_1, ix5_2, ix5_3, ev_setA, ev_mul _ _ (e1 _), ev_int, ev_mod _ 2147483629 (by decide), ev_pow18, hg, decide_false]
  · obtain ⟨r, b', c', h1, h2, h3⟩ := draw_tail cells i b a c many hm G .non
    refine ⟨r, i, b', a, c', hi, h1, h2, ?_⟩
    rw [← h3]
    by_cases hb : b = 0
    · have hl : ¬ (i < ((cells.map U.int).length : Int)) := by rw [List.length_map]; omega
      simp only [ev_enter, ev_runB, ev_runC, ev_bind, ev_bindL, ev_bindLL, ev_bindRL, ev_bindLU, ev_bindRU, ev_bindS, ev_args0, ev_args, ev_C, ev_var, ev_slotV, ev_slotO, ev_keep, ev_settleV, ev_settleO, ev_settleS, ev_settleSO, ev_settleSV, ev_set, ev_op, ev_okV, ev_okO, ev_okS, ev_okSO, ev_okSV, ev_viewV, ev_viewO, ev_viewS, ev_viewSO, ev_viewSV, ev_nowN, ev_nowB, ev_nowI, ev_nowS, ev_nowT, ev_nowL, ev_nowC, ev_nowF, ev_nowA, ev_nowGL, ev_bl, ev_not, ev_and, ev_or, ev_if, ev_ifS, condE_t, condE_f, condS_t, condS_f, ev_seq, seqO_nx, seqO_rt, seqO_bk, seqO_ct, ev_nil, ev_drop, ev_ret, ev_retV, ev_retO, ev_retS, ev_retSO, ev_retSV, ev_fnR, ev_fnN, ev_call, ev_frz0, ev_frzV, ev_frzO, ev_res, ev_tup, ev_lst, ev_iSet, ev_new, ev_newO, ev_par, ev_bindRs0, ev_bindRsV, ev_bindRsO, ev_for, ev_itOf, ev_chain, ev_cmpI, ev_add, ev_sub, Option.map_some, List.map_cons, List.map_nil, List.all_cons, List.all_nil, Bool.and_true, Bool.true_and, Bool.and_self, if_true, ite_true, eq_self, List.length_cons, List.length_nil, List.replicate, List.cons_append, List.nil_append, List.append_nil, List.getElem?_cons_zero, List.getElem?_cons_succ, List.set_cons_zero, List.set_cons_succ, Nat.reduceAdd, Nat.reduceSub, Nat.zero_add, Nat.add_zero, Nat.sub_self, Bdraw, potU, ev_ixL, atI_0, atI_1, atI_2, ev_eqI, hb, hl, decide_true, decide_false, ev_lenL]
    · simp only [ev_enter, ev_runB, ev_runC, ev_bind, ev_bindL, ev_bindLL, ev_bindRL, ev_bindLU, ev_bindRU, ev_bindS, ev_args0, ev_args, ev_C, ev_var, ev_slotV, ev_slotO, ev_keep, ev_settleV, ev_settleO, ev_settleS, ev_settleSO, ev_settleSV, ev_set, ev_op, ev_okV, ev_okO, ev_okS, ev_okSO, ev_okSV, ev_viewV, ev_viewO, ev_viewS, ev_viewSO, ev_viewSV, ev_nowN, ev_nowB, ev_nowI, ev_nowS, ev_nowT, ev_nowL, ev_nowC, ev_nowF, ev_nowA, ev_nowGL, ev_bl, ev_not, ev_and, ev_or, ev_if, ev_ifS, condE_t, condE_f, condS_t, condS_f, ev_seq, seqO_nx, seqO_rt, seqO_bk, seqO_ct, ev_nil, ev_drop, ev_ret, ev_retV, ev_retO, ev_retS, ev_retSO, ev_retSV, ev_fnR, ev_fnN, ev_call, ev_frz0, ev_frzV, ev_frzO, ev_res, ev_tup, ev_lst, ev_iSet, ev_new, ev_newO, ev_par, ev_bindRs0, ev_bindRsV, ev_bindRsO, ev_for, ev_itOf, ev_chain, ev_cmpI, ev_add, ev_sub, Option.map_some, List.map_cons, List.map_nil, List.all_cons, List.all_nil, Bool.and_true, Bool.true_and, Bool.and_self, if_true, ite_true, eq_self, List.length_cons, List.length_nil, List.replicate, List.cons_append, List.nil_append, List.append_nil, List.getElem?_cons_zero, List.getElem?_cons_succ, List.set_cons_zero, List.set_cons_succ, Nat.reduceAdd, Nat.reduceSub, Nat.zero_add, Nat.add_zero, Nat.sub_self, Bdraw, potU, ev_ixL, atI_0, atI_1, atI_2, ev_eqI, hb, decide_false]
end IL
end T_DR
section T_NT
set_option Elab.async false
set_option linter.all false
set_option maxRecDepth 100000
namespace IL
open PySem PySem.Spec L2
open PyProof.Rows hiding St
/-! ### lists of small numbers -/
def nu (l : List Nat) : List U := l.map fun (n : Nat) => U.int (n : Int)
abbrev toZ (l : List Nat) : List Int := l.map fun (n : Nat) => (n : Int)
def dInts (l : List Nat) : List PyData := l.map fun (n : Nat) => PyData.int (n : Int)
abbrev uT (l : List Nat) : U := .tup (nu l)
theorem ints_length (l : List Nat) : (nu l).length = l.length := List.length_map ..
theorem toDL_ints : ∀ l : List Nat, toDL (nu l) = some (dInts l)
  | [] => rfl
  | n :: l => by
    show (match U.toD (.int n), toDL (nu l) with | some d, some ds => some (d :: ds) | _, _ => none) = _
    rw [toDL_ints l]
    rfl
theorem canLay_ints : ∀ l : List Nat, PyData.canLayAll0 (dInts l) = true
  | [] => by simp only [dInts, List.map_nil, PyData.canLayAll0]
  | n :: l => by
    have h := canLay_ints l
    simp only [dInts] at h
    simp only [dInts, List.map_cons, PyData.canLayAll0, PyData.canLay0, Bool.true_and, h]
theorem depth_ints : ∀ l : List Nat, PyData.depthAll (dInts l) = 0
  | [] => by simp only [dInts, List.map_nil, PyData.depthAll]
  | n :: l => by
    have h := depth_ints l
    simp only [dInts] at h
    simp only [dInts, List.map_cons, PyData.depthAll, PyData.depth, h]
    rfl
theorem shaped_ints (l : List Nat) : SeqAt.shaped (.list (dInts l)) = true := by
  unfold SeqAt.shaped
  simp only [PyData.canLay0, PyData.depth, canLay_ints, depth_ints, Bool.true_and]
  rfl
theorem shaped_int (i : Int) : SeqAt.shaped (.int i) = true := by
  unfold SeqAt.shaped
  simp only [PyData.canLay0, PyData.depth, Bool.true_and]
  rfl
theorem any_ints (n : Nat) : ∀ l : List Nat, ((dInts l).any fun z => PyData.eqv z (.int n)) = decide (n ∈ l)
  | [] => by simp [dInts]
  | m :: l => by
    have h := any_ints n l
    simp only [dInts] at h
    simp only [dInts, List.map_cons, List.any_cons, h, PyData.eqv]
    rw [Bool.eq_iff_iff]
    simp only [Bool.or_eq_true, beq_iff_eq, decide_eq_true_eq, List.mem_cons, Int.ofNat_inj]
    exact ⟨fun z => z.imp Eq.symm id, fun z => z.imp Eq.symm id⟩
theorem in_of {u : U} {n : Nat} {l : List Nat} (h : u.seq = some (nu l)) : inU (.int n) u = some (decide (n ∈ l)) := by
  unfold inU
  rw [h]
  show (match U.toD (.int (n : Int)), toDL (nu l) with | some d, some ds => if SeqAt.shaped d && SeqAt.shaped (.list ds) then some (ds.any fun z => PyData.eqv z d) else none | _, _ => none) = _
  rw [toDL_ints l]
  show (if SeqAt.shaped (.int (n : Int)) && SeqAt.shaped (.list (dInts l)) then some ((dInts l).any fun z => PyData.eqv z (.int n)) else none) = _
  rw [shaped_int, shaped_ints, any_ints]
  rfl
theorem ev_inL (n : Nat) (l : List Nat) : gIn [.int n, .lst (nu l)] = some (.val (.bl (decide (n ∈ l)))) := by
  show (inU _ _).map _ = _
  rw [in_of (l := l) rfl]
  rfl
theorem ev_inT (n : Nat) (l : List Nat) : gIn [.int n, .tup (nu l)] = some (.val (.bl (decide (n ∈ l)))) := by
  show (inU _ _).map _ = _
  rw [in_of (l := l) rfl]
  rfl
theorem ev_notInL (n : Nat) (l : List Nat) : gNotIn [.int n, .lst (nu l)] = some (.val (.bl (!decide (n ∈ l)))) := by
  show (inU _ _).map _ = _
  rw [in_of (l := l) rfl]
  rfl
theorem ev_notInT (n : Nat) (l : List Nat) : gNotIn [.int n, .tup (nu l)] = some (.val (.bl (!decide (n ∈ l)))) := by
  show (inU _ _).map _ = _
  rw [in_of (l := l) rfl]
  rfl
theorem intsU_ints : ∀ l : List Nat, intsU (nu l) = some (toZ l)
  | [] => rfl
  | n :: l => by
    show (match intsU (nu l) with | some is => some ((n : Int) :: is) | none => none) = _
    rw [intsU_ints l]
    rfl
theorem intsU_int : ∀ l : List Int, intsU (l.map .int) = some l
  | [] => rfl
  | n :: l => by
    show (match intsU (l.map .int) with | some is => some (n :: is) | none => none) = _
    rw [intsU_int l]
theorem ints_get {l : List Nat} {i n : Nat} (h : l[i]? = some n) : (nu l)[i]? = some (.int n) := by
  unfold nu
  rw [List.getElem?_map, h]
  rfl
theorem atI_ints {l : List Nat} {i n : Nat} (h : l[i]? = some n) : atI (nu l) (i : Int) = some (.int n) := atI_nat (ints_get h)
/-! ### sorting small numbers -/
def insN (n : Nat) : List Nat → List Nat
  | [] => [n]
  | m :: ms => if n ≤ m then n :: m :: ms else m :: insN n ms
def sortN : List Nat → List Nat
  | [] => []
  | n :: ns => insN n (sortN ns)
theorem insZ_nat (n : Nat) : ∀ l : List Nat, insZ n (toZ l) = toZ (insN n l)
  | [] => rfl
  | m :: l => by
    show insZ (n : Int) ((m : Int) :: toZ l) = _
    unfold insZ insN
    by_cases h : n ≤ m
    · rw [if_pos h, if_pos (Int.ofNat_le.mpr h)]
      rfl
    · rw [if_neg h, if_neg (fun z => h (Int.ofNat_le.mp z)), insZ_nat n l]
      rfl
theorem sortZ_nat : ∀ l : List Nat, sortZ (toZ l) = toZ (sortN l)
  | [] => rfl
  | n :: l => by
    show sortZ ((n : Int) :: toZ l) = _
    unfold sortZ sortN
    rw [sortZ_nat l, insZ_nat]
theorem insN_perm (n : Nat) : ∀ ms : List Nat, (insN n ms).Perm (n :: ms)
  | [] => List.Perm.refl _
  | m :: ms => by
    unfold insN
    split
    · exact List.Perm.refl _
    · exact ((insN_perm n ms).cons m).trans (List.Perm.swap n m ms)
theorem sortN_perm : ∀ ns : List Nat, (sortN ns).Perm ns
  | [] => List.Perm.refl _
  | n :: ns => (insN_perm n (sortN ns)).trans ((sortN_perm ns).cons n)
theorem insN_sorted (n : Nat) : ∀ ms : List Nat, ms.Pairwise (· ≤ ·) → (insN n ms).Pairwise (· ≤ ·)
  | [], _ => List.pairwise_singleton _ _
  | m :: ms, h => by
    obtain ⟨h1, h2⟩ := List.pairwise_cons.mp h
    unfold insN
    split
    · rename_i hnm
      exact List.pairwise_cons.mpr ⟨fun x hx => (List.mem_cons.mp hx).elim (fun z => by rw [z]; exact hnm) fun z => Nat.le_trans hnm (h1 x z), h⟩
    · rename_i hnm
      refine List.pairwise_cons.mpr ⟨fun x hx => ?_, insN_sorted n ms h2⟩
      rcases List.mem_cons.mp ((insN_perm n ms).mem_iff.mp hx) with z | z
      · rw [z]; omega
      · exact h1 x z
theorem sortN_sorted : ∀ ns : List Nat, (sortN ns).Pairwise (· ≤ ·)
  | [] => List.Pairwise.nil
  | n :: ns => insN_sorted n _ (sortN_sorted ns)
theorem sorted_one : ∀ {a b : List Nat}, a.Perm b → a.Pairwise (· ≤ ·) → b.Pairwise (· ≤ ·) → a = b := fun {a b} h ha hb => h.eq_of_pairwise (fun x y _ _ h1 h2 => Nat.le_antisymm h1 h2) ha hb
theorem sortN_one {a b : List Nat} (h : a.Perm b) (hs : a.Pairwise (· ≤ ·)) : sortN b = a := sorted_one ((sortN_perm b).trans h.symm) (sortN_sorted b) hs
theorem ev_sortL (l : List Nat) : gSorted [.lst (nu l)] = some (.own (nu (sortN l))) := by
  show (match intsU (nu l) with | some ns => some (R.own ((sortZ ns).map .int)) | none => none) = _
  rw [intsU_ints]
  show some (R.own ((sortZ (toZ l)).map U.int)) = _
  rw [sortZ_nat, List.map_map]
  rfl
theorem ev_sortT (l : List Nat) : gSorted [.tup (nu l)] = some (.own (nu (sortN l))) := ev_sortL l
theorem ev_tupleL (us : List U) : gTuple [.lst us] = some (.val (.tup us)) := rfl
theorem ev_tupleT (us : List U) : gTuple [.tup us] = some (.val (.tup us)) := rfl
/-! ### comprehensions -/
theorem compGo_pure {t : Tg} {vs : List Nat} {ct el : ES} {aw : ASt} (P : U → Bool) (f : U → U) : ∀ (us acc : List U), (∀ u ∈ us, ∃ a2, bindT t u aw = some a2 ∧ ct a2 = .ok (.val (.bl (P u))) a2 ∧ (P u = true → ∃ r, el a2 = .ok r a2 ∧ r.settle a2 = some (f u, a2)) ∧ a2.wipe vs = aw) →
    compGo t vs ct el us aw acc = some (acc ++ (us.filter P).map f, aw)
  | [], acc, h => by
    unfold compGo
    simp
  | u :: us, acc, h => by
    obtain ⟨a2, h1, h2, h3, h4⟩ := h u List.mem_cons_self
    have ih := fun acc => compGo_pure P f us acc fun w hw => h w (List.mem_cons_of_mem _ hw)
    unfold compGo
    rw [h1]
    simp only [h2, ev_bl]
    cases hp : P u with
    | true =>
      obtain ⟨r, h5, h6⟩ := h3 hp
      simp only [h5, h6, h4, ih, List.filter_cons, hp, if_true, List.map_cons, List.append_assoc, List.cons_append, List.nil_append]
    | false =>
      simp only [h4, ih, List.filter_cons, hp, if_false, Bool.false_eq_true]
theorem comp_pure {t : Tg} {vs : List Nat} {it : IT} {ct el : ES} {a a1 : ASt} {us : List U} (P : U → Bool) (f : U → U) (hit : it a = .ok us a1) (hpl : vs.all (fun v => (a1.sl.getD v .non).plain) = true) (hr : (a1.wipe vs).rest a1 vs = a1)
    (h : ∀ u ∈ us, ∃ a2, bindT t u (a1.wipe vs) = some a2 ∧ ct a2 = .ok (.val (.bl (P u))) a2 ∧ (P u = true → ∃ r, el a2 = .ok r a2 ∧ r.settle a2 = some (f u, a2)) ∧ a2.wipe vs = a1.wipe vs) : iComp t vs it ct el a = .ok (.own ((us.filter P).map f)) a1 := by
  unfold iComp
  rw [hit]
  simp only [hpl, if_true]
  rw [compGo_pure P f us [] h]
  simp only [hr, List.nil_append]
/-- without a condition -/
theorem comp_map {t : Tg} {vs : List Nat} {it : IT} {el : ES} {a a1 : ASt} {us : List U} (f : U → U) (hit : it a = .ok us a1) (hpl : vs.all (fun v => (a1.sl.getD v .non).plain) = true) (hr : (a1.wipe vs).rest a1 vs = a1)
    (h : ∀ u ∈ us, ∃ a2, bindT t u (a1.wipe vs) = some a2 ∧ (∃ r, el a2 = .ok r a2 ∧ r.settle a2 = some (f u, a2)) ∧ a2.wipe vs = a1.wipe vs) : iComp t vs it (iC (.bl true)) el a = .ok (.own (us.map f)) a1 := by
  rw [comp_pure (ct := iC (.bl true)) (fun _ => true) f hit hpl hr fun u hu => let ⟨a2, h1, h2, h3⟩ := h u hu; ⟨a2, h1, rfl, fun _ => h2, h3⟩, List.filter_eq_self.mpr fun _ _ => rfl]
/-! ### loops -/
theorem forGo_seq {t : Tg} {B : SS} (s : Nat → ASt) : ∀ (us : List U) (i : Nat), (∀ j u, us[j]? = some u → ∃ a1, bindT t u (s (i + j)) = some a1 ∧ B a1 = .nx (s (i + j + 1))) → iForGo t B us (s i) = .nx (s (i + us.length))
  | [], i, h => rfl
  | u :: us, i, h => by
    obtain ⟨a1, h1, h2⟩ := h 0 u rfl
    unfold iForGo
    rw [show s i = s (i + 0) from rfl, h1]
    simp only [h2]
    have ih := forGo_seq s us (i + 1) fun j w hw => by
      have z := h (j + 1) w (by simpa using hw)
      rw [show i + 1 + j = i + (j + 1) by omega]
      exact z
    rw [show i + 0 + 1 = i + 1 by omega, ih, List.length_cons, show i + 1 + us.length = i + (us.length + 1) by omega]
/-- with what holds from step to step -/
theorem forGo_inv {t : Tg} {B : SS} (Inv : Nat → ASt → Prop) : ∀ (us : List U) (i : Nat) (a : ASt), Inv i a → (∀ j u a, us[j]? = some u → Inv (i + j) a → ∃ a1 a2, bindT t u a = some a1 ∧ B a1 = .nx a2 ∧ Inv (i + j + 1) a2) → ∃ a', iForGo t B us a = .nx a' ∧ Inv (i + us.length) a'
  | [], i, a, h0, h => ⟨a, rfl, h0⟩
  | u :: us, i, a, h0, h => by
    obtain ⟨a1, a2, h1, h2, h3⟩ := h 0 u a rfl h0
    obtain ⟨a', h4, h5⟩ := forGo_inv Inv us (i + 1) a2 h3 fun j w b hw hb => by
      have e : i + 1 + j = i + (j + 1) := by omega
      rw [e] at hb
      have z := h (j + 1) w b (by simpa using hw) hb
      rw [e]
      exact z
    refine ⟨a', ?_, by rw [List.length_cons, show i + (us.length + 1) = i + 1 + us.length by omega]; exact h5⟩
    unfold iForGo
    rw [h1]
    simp only [h2, h4]
theorem while_seq {I : ES} {B : SS} (s : Nat → ASt) (n : Nat) (a' : ASt) (ht : ∀ i, i < n → ∃ a1, I (s i) = .ok (.val (.bl true)) a1 ∧ B a1 = .nx (s (i + 1))) (hf : I (s n) = .ok (.val (.bl false)) a') : ∀ (k i fuel : Nat), k = n - i → i ≤ n → n < fuel + i → iWhile I B fuel (s i) = .nx a'
  | k, i, 0, hk, hi, hl => by omega
  | 0, i, fuel + 1, hk, hi, hl => by
    have e : i = n := by omega
    subst e
    unfold iWhile
    rw [hf]
    rfl
  | k + 1, i, fuel + 1, hk, hi, hl => by
    obtain ⟨a1, h1, h2⟩ := ht i (by omega)
    unfold iWhile
    rw [h1]
    simp only [ev_bindS, ev_bl, h2]
    exact while_seq s n a' ht hf k (i + 1) fuel (by omega) (by omega) (by omega)
theorem rng1 (n : Nat) (h : n ≤ 1000000) : gRng1 [.int n] = some (nu (List.range n)) := by
  show (if (n : Int) ≤ 1000000 ∧ -(2 ^ 62) ≤ (n : Int) then some (rngU 0 n) else none) = _
  rw [if_pos ⟨by omega, by omega⟩]
  unfold rngU nu
  simp
theorem rng2 (m n : Nat) (h : n ≤ 1000000) (hm : m ≤ 1000000) : gRng2 [.int m, .int n] = some (nu ((List.range (n - m)).map (m + ·))) := by
  show (if (n : Int) - m ≤ 1000000 ∧ -(2 ^ 62) ≤ (m : Int) ∧ (m : Int) < 2 ^ 62 ∧ -(2 ^ 62) ≤ (n : Int) ∧ (n : Int) < 2 ^ 62 then some (rngU m n) else none) = _
  rw [if_pos ⟨by omega, by omega, by omega, by omega, by omega⟩]
  unfold rngU nu
  rw [show ((n : Int) - m).toNat = n - m by omega, List.map_map]
  congr 1
theorem enumU_map : ∀ (us : List U) (k : Nat), enumU k us = us.mapIdx fun i u => .tup [.int ((k + i : Nat) : Int), u]
  | [], k => rfl
  | u :: us, k => by
    rw [enumU, List.mapIdx_cons, enumU_map us (k + 1)]
    congr 1
    apply List.ext_getElem
    · simp
    · intro i h1 h2
      simp [Nat.add_assoc, Nat.add_comm 1]
/-! ### repr -/
theorem weight_ints : ∀ l : List Nat, (∀ n ∈ l, n < 1000) → PyData.weightAll (dInts l) ≤ 12 * l.length
  | [], _ => by simp [dInts, PyData.weightAll]
  | n :: l, h => by
    have ih := weight_ints l fun m hm => h m (List.mem_cons_of_mem _ hm)
    have hn := h n List.mem_cons_self
    have hw : PyData.weight (.int (n : Int)) ≤ 11 := by
      simp only [PyData.weight]
      split
      · omega
      · have : ((n : Int).natAbs).log2 < 10 := by
          rw [Int.natAbs_natCast]
          rcases Nat.eq_zero_or_pos n with z | z
          · subst z; decide
          · exact (Nat.log2_lt (by omega)).mpr (by omega)
        omega
    simp only [dInts] at ih
    simp only [dInts, List.map_cons, PyData.weightAll, List.length_cons]
    omega
theorem short_nat : ∀ n : Nat, n < 1000 → (PyData.shown (.int (n : Int))).length ≤ 13 := by decide +kernel
theorem short_ints : ∀ l : List Nat, (∀ n ∈ l, n < 1000) → PyData.intsShortAll 13 (dInts l) = true
  | [], _ => by simp [dInts, PyData.intsShortAll]
  | n :: l, h => by
    have ih := short_ints l fun m hm => h m (List.mem_cons_of_mem _ hm)
    have hn := short_nat n (h n List.mem_cons_self)
    simp only [dInts] at ih
    simp only [dInts, List.map_cons, PyData.intsShortAll, PyData.intsShort, ih, hn, decide_true, Bool.and_self]
theorem show_ints : ∀ l : List Nat, (∀ n ∈ l, n < 1000) → PyData.showableAll (dInts l) = true
  | [], _ => by simp [dInts, PyData.showableAll]
  | n :: l, h => by
    have ih := show_ints l fun m hm => h m (List.mem_cons_of_mem _ hm)
    have hn := h n List.mem_cons_self
    have : ((n : Int).natAbs).log2 < 1920 := by
      rw [Int.natAbs_natCast]
      rcases Nat.eq_zero_or_pos n with z | z
      · subst z; decide
      · exact Nat.lt_of_lt_of_le ((Nat.log2_lt (k := 10) (by omega)).mpr (by omega)) (by decide)
    simp only [dInts] at ih
    simp only [dInts, List.map_cons, PyData.showableAll, PyData.showable, ih, this, decide_true, Bool.and_self]
theorem noDict_ints : ∀ l : List Nat, PyData.hasDictAll (dInts l) = false
  | [] => by simp [dInts, PyData.hasDictAll]
  | n :: l => by
    have ih := noDict_ints l
    simp only [dInts] at ih
    simp only [dInts, List.map_cons, PyData.hasDictAll, PyData.hasDict, ih, Bool.or_false]
def reprT (l : List Nat) : Str := PyData.shown (.tuple (dInts l))
theorem ev_reprT (l : List Nat) (h : ∀ n ∈ l, n < 1000) (hl : l.length ≤ 1000) : gRepr [.tup (nu l)] = some (.val (.str (reprT l))) := by
  have hD : (U.tup (nu l)).toD = some (.tuple (dInts l)) := by
    show (toDL (nu l)).map PyData.tuple = _
    rw [toDL_ints]
    rfl
  show (match (U.tup (nu l)).toD with
      | some d => if d.showable = true ∧ d.hasDict = false ∧ d.depth ≤ 60 ∧ d.shown.length ≤ sizeLine then some (R.val (.str d.shown)) else none
      | none => none) = _
  rw [hD]
  have hz : sizeLine = 16777216 := rfl
  have hs : PyData.layable0 (.tuple (dInts l)) = true := by
    unfold PyData.layable0
    simp only [PyData.canLay0, PyData.depth, PyData.weight, canLay_ints, depth_ints, Bool.true_and, Bool.and_eq_true, decide_eq_true_eq]
    have := weight_ints l h
    have e20 : (2 : Nat) ^ 20 = 1048576 := by decide
    rw [e20]
    exact ⟨by omega, decide_eq_true (by omega)⟩
  have h13 := PyProof.Rows.shown_le13 hs (by simp only [PyData.intsShort]; exact short_ints l h)
  refine if_pos ⟨?_, ?_, ?_, by omega⟩
  · simp only [PyData.showable]; exact show_ints l h
  · simp only [PyData.hasDict]; exact noDict_ints l
  · simp only [PyData.depth, depth_ints]; omega
def reprCT (x : Str) (l : List Nat) : Str := PyData.shown (.tuple [.str x, .tuple (dInts l)])
theorem ev_reprCT (x : Str) (hx : PyData.canLay0 (.str x) = true) (hx2 : x.cps.size ≤ 1000) (l : List Nat) (h : ∀ n ∈ l, n < 1000) (hl : l.length ≤ 1000) : gRepr [.tup [.str x, .tup (nu l)]] = some (.val (.str (reprCT x l))) := by
  have hD : (U.tup [.str x, .tup (nu l)]).toD = some (.tuple [.str x, .tuple (dInts l)]) := by
    show (toDL [.str x, .tup (nu l)]).map PyData.tuple = _
    have e : toDL [.str x, .tup (nu l)] = some [.str x, .tuple (dInts l)] := by
      show (match U.toD (.str x), toDL [.tup (nu l)] with | some d, some ds => some (d :: ds) | _, _ => none) = _
      have e2 : toDL [.tup (nu l)] = some [.tuple (dInts l)] := by
        show (match (toDL (nu l)).map PyData.tuple, toDL [] with | some d, some ds => some (d :: ds) | _, _ => none) = _
        rw [toDL_ints]
        rfl
      rw [e2]
      rfl
    rw [e]
    rfl
  show (match (U.tup [.str x, .tup (nu l)]).toD with
      | some d => if d.showable = true ∧ d.hasDict = false ∧ d.depth ≤ 60 ∧ d.shown.length ≤ sizeLine then some (R.val (.str d.shown)) else none
      | none => none) = _
  rw [hD]
  have hz : sizeLine = 16777216 := rfl
  have hs : PyData.layable0 (.tuple [.str x, .tuple (dInts l)]) = true := by
    unfold PyData.layable0
    simp only [PyData.canLay0] at hx
    simp only [PyData.canLay0, PyData.canLayAll0, PyData.depth, PyData.depthAll, PyData.weight, PyData.weightAll, canLay_ints, depth_ints, Bool.true_and, Bool.and_true, Bool.and_eq_true, decide_eq_true_eq, hx]
    have := weight_ints l h
    have e20 : (2 : Nat) ^ 20 = 1048576 := by decide
    rw [e20]
    exact ⟨by omega, decide_eq_true (by omega)⟩
  have h13 := PyProof.Rows.shown_le13 hs (by simp only [PyData.intsShort, PyData.intsShortAll, Bool.true_and, Bool.and_true]; exact short_ints l h)
  refine if_pos ⟨?_, ?_, ?_, by omega⟩
  · simp only [PyData.showable, PyData.showableAll, Bool.true_and, Bool.and_true]; exact show_ints l h
  · simp only [PyData.hasDict, PyData.hasDictAll, Bool.false_or, Bool.or_false]; exact noDict_ints l
  · simp only [PyData.depth, PyData.depthAll, depth_ints]; omega
theorem eq_str (x : Str) : gEq [.str x, .str x] = some (.val (.bl true)) := by
  show some (R.val (.bl (decide (x = x)))) = _
  rw [decide_eq_true rfl]
theorem ne_str (x : Str) : gNe [.str x, .str x] = some (.val (.bl false)) := by
  show some (R.val (.bl (!decide (x = x)))) = _
  rw [decide_eq_true rfl]
  rfl
end IL
end T_NT
section T_Headk59
set_option Elab.async false
set_option linter.all false
set_option maxRecDepth 100000
set_option maxHeartbeats 0
namespace Hd
open PySem PySem.Spec PyProof.Rows L2
def top (i : Nat) : Stmt := PySem.Challenge.pw_takenjoined_k59_whole_forests_need_so_ma.main.body.getD i (.Pass ⟨0, 0, 0, 0⟩)
def fn : List He.DefD := ([⟨("is_integer", none), "is_integer", "is_integer", defArgs (top 1), defBody (top 1), defScope (top 1), [], []⟩, ⟨("is_number", none), "is_number", "is_number", defArgs (top 2), defBody (top 2), defScope (top 2), [], []⟩, ⟨("is_within", none), "is_within", "is_within", defArgs (top 3), defBody (top 3), defScope (top 3), [], []⟩, ⟨("are_numbers", none), "are_numbers", "are_numbers", defArgs (top 4), defBody (top 4), defScope (top 4), [], []⟩, ⟨("is_lot", none), "is_lot", "is_lot", defArgs (top 5), defBody (top 5), defScope (top 5), [], []⟩, ⟨("power", none), "power", "power", defArgs (top 6), defBody (top 6), defScope (top 6), [], []⟩, ⟨("is_comings", none), "is_comings", "is_comings", defArgs (top 17), defBody (top 17), defScope (top 17), [], []⟩, ⟨("check_comings", none), "check_comings", "check_comings", defArgs (top 18), defBody (top 18), defScope (top 18), [], []⟩, ⟨("raw_is_forest", none), "raw_is_forest", "raw_is_forest", defArgs (top 19), defBody (top 19), defScope (top 19), [], []⟩, ⟨("is_forest", none), "is_forest", "is_forest", defArgs (top 20), defBody (top 20), defScope (top 20), [], []⟩, ⟨("is_right", none), "is_right", "is_right", defArgs (top 21), defBody (top 21), defScope (top 21), [], []⟩, ⟨("raw_led", none), "raw_led", "raw_led", defArgs (top 22), defBody (top 22), defScope (top 22), [], []⟩, ⟨("led", none), "led", "led", defArgs (top 23), defBody (top 23), defScope (top 23), [], []⟩, ⟨("first_painter", none), "first_painter", "first_painter", defArgs (top 24), defBody (top 24), defScope (top 24), [], []⟩, ⟨("Foe", some "__init__"), "__init__", "Foe.__init__", defArgs (inClass (top 25) 0), defBody (inClass (top 25) 0), defScope (inClass (top 25) 0), [], []⟩, ⟨("Foe", some "put"), "put", "Foe.put", defArgs (inClass (top 25) 1), defBody (inClass (top 25) 1), defScope (inClass (top 25) 1), [], []⟩, ⟨("Foe", some "unlike"), "unlike", "Foe.unlike", defArgs (inClass (top 25) 2), defBody (inClass (top 25) 2), defScope (inClass (top 25) 2), [], []⟩, ⟨("check_forced", none), "check_forced", "check_forced", defArgs (top 26), defBody (top 26), defScope (top 26), [], []⟩, ⟨("forest_foe", none), "forest_foe", "forest_foe", defArgs (top 27), defBody (top 27), defScope (top 27), [], []⟩, ⟨("least_colours", none), "least_colours", "least_colours", defArgs (top 28), defBody (top 28), defScope (top 28), [], []⟩, ⟨("grown_lot", none), "grown_lot", "grown_lot", defArgs (top 29), defBody (top 29), defScope (top 29), [], []⟩, ⟨("_law_pot", none), "_law_pot", "_law_pot", defArgs (top 31), defBody (top 31), defScope (top 31), [], []⟩, ⟨("_law_draw", none), "_law_draw", "_law_draw", defArgs (top 32), defBody (top 32), defScope (top 32), [], []⟩, ⟨("_law_any", none), "_law_any", "_law_any", defArgs (top 33), defBody (top 33), defScope (top 33), [], []⟩, ⟨("_law_forests", none), "_law_forests", "_law_forests", defArgs (top 34), defBody (top 34), defScope (top 34), [], []⟩, ⟨("_law_pieces", none), "_law_pieces", "_law_pieces", defArgs (top 35), defBody (top 35), defScope (top 35), [], []⟩, ⟨("_law_fitted", none), "_law_fitted", "_law_fitted", defArgs (top 36), defBody (top 36), defScope (top 36), [], []⟩, ⟨("_law_figures", none), "_law_figures", "_law_figures", defArgs (top 37), defBody (top 37), defScope (top 37), [], []⟩, ⟨("_law_lot", none), "_law_lot", "_law_lot", defArgs (top 38), defBody (top 38), defScope (top 38), [], []⟩, ⟨("_law_grown", none), "_law_grown", "_law_grown", defArgs (top 39), defBody (top 39), defScope (top 39), [], []⟩] : List He.DefD) ++ ([⟨("_law_great", none), "_law_great", "_law_great", defArgs (top 40), defBody (top 40), defScope (top 40), [], []⟩, ⟨("_law_drawn", none), "_law_drawn", "_law_drawn", defArgs (top 41), defBody (top 41), defScope (top 41), [], []⟩, ⟨("_law_is_fitted_right", none), "_law_is_fitted_right", "_law_is_fitted_right", defArgs (top 42), defBody (top 42), defScope (top 42), [], []⟩, ⟨("_law_foe_right", none), "_law_foe_right", "_law_foe_right", defArgs (top 43), defBody (top 43), defScope (top 43), [], []⟩, ⟨("law", none), "law", "law", defArgs (top 44), defBody (top 44), defScope (top 44), [], []⟩] : List He.DefD)
def fa : List He.Fa := ([.glo "is_integer", .glo "is_number", .glo "is_within", .glo "are_numbers", .glo "is_lot", .glo "power", .glo "PaintError", .glo "NoPlace", .glo "NoNumber", .glo "NoComings", .glo "NoForest", .int "MOST_COMINGS" 63, .int "MOST_TOLD" 999, .int "MOST_FORCED" 6, .glo "is_comings", .glo "check_comings", .glo "raw_is_forest", .glo "is_forest", .glo "is_right", .glo "raw_led", .glo "led", .glo "first_painter", .glo "Foe", .meth "Foe" "__init__", .meth "Foe" "put", .meth "Foe" "unlike", .cls "Foe", .mkr "Foe", .noat "Foe" "colours", .noat "Foe" "comings"] : List He.Fa) ++ ([.noat "Foe" "is_over", .noat "Foe" "last", .noat "Foe" "painter", .glo "check_forced", .glo "forest_foe", .glo "least_colours", .glo "grown_lot", .glo "_law_pot", .glo "_law_draw", .glo "_law_any", .glo "_law_forests", .glo "_law_pieces", .glo "_law_fitted", .glo "_law_figures", .glo "_law_lot", .glo "_law_grown", .glo "_law_great", .glo "_law_drawn", .glo "_law_is_fitted_right", .glo "_law_foe_right", .glo "law", .free "ValueError", .free "abs", .free "all", .free "any", .free "bool", .free "enumerate", .free "int", .free "isinstance", .free "len"] : List He.Fa) ++ ([.free "max", .free "min", .free "range", .free "repr", .free "set", .free "sorted", .free "tuple", .free "zip"] : List He.Fa)
def names : List PySem.Str := (["is_integer", "is_number", "is_within", "are_numbers", "is_lot", "power", "PaintError", "NoPlace", "NoNumber", "NoComings", "NoForest", "MOST_COMINGS", "MOST_TOLD", "MOST_FORCED", "is_comings", "check_comings", "raw_is_forest", "is_forest", "is_right", "raw_led", "led", "first_painter", "Foe", "check_forced", "forest_foe", "least_colours", "grown_lot", "_law_pot", "_law_draw", "_law_any"] : List PySem.Str) ++ (["_law_forests", "_law_pieces", "_law_fitted", "_law_figures", "_law_lot", "_law_grown", "_law_great", "_law_drawn", "_law_is_fitted_right", "_law_foe_right"] : List PySem.Str)
abbrev R : PySem.W.OpenRow := PySem.W.OpenLaw.row PySem.Challenge.rw_takenjoined_k59_whole_forests_need_so_ma
abbrev hk : PySem.W.Hook := He.hookD 4 fa fn
def ob (s : PySem.W.SharedT) : He.AlD := He.obsDG 4 fa fn (HandSHeadRun.getT s)
theorem ob_eq (s : PySem.W.SharedT) : ob s = hk.obs s.abs := He.obsDG_eq (HandSHeadRun.getT_eq s)
theorem run (w : World) : HandSHeadRun.RunEq R (PySem.W.view R.prog [44]) hk ob 4000 names w := by
  intro os
  kernel_rfl
end Hd
end T_Headk59
section T_Sk59
set_option Elab.async false
set_option linter.all false
set_option maxRecDepth 100000
set_option maxHeartbeats 4000000
namespace K59
open PySem PySem.Spec L2 IL
open PyProof.Rows hiding St
def gsV : List Str := ["first_painter"]
def phv (Φ : Nat → FS) : Str → FS := fun g => if g = "first_painter" then Φ 13 else fun _ _ => .bad
def B_is_integer (Φ : Nat → FS) : SS :=
    iRet (iAnd (iOp (gIsi "int") [iVar 0]) (iNot (iOp (gIsi "bool") [iVar 0])))
def B_is_number (Φ : Nat → FS) : SS :=
    iRet (iAnd (iCallF (Φ 0) [iKeep (iVar 0)]) (iChain (gCmpI fun i j => decide (i ≤ j)) (gCmpI fun i j => decide (i ≤ j)) (iC (.int 0)) (iVar 0) (iVar 1)))
def B_is_within (Φ : Nat → FS) : SS :=
    iRet (iAnd (iCallF (Φ 0) [iKeep (iVar 0)]) (iChain (gCmpI fun i j => decide (i ≤ j)) (gCmpI fun i j => decide (i ≤ j)) (iVar 1) (iVar 0) (iVar 2)))
def B_are_numbers (Φ : Nat → FS) : SS :=
    iRet (iAnd (iOp (gIsi "tuple") [iVar 0]) (iOp gAll [iComp (.nm 2) [2] (iSeqE false (iVar 0)) (iC (.bl true)) (iCallF (Φ 1) [iKeep (iVar 2), iKeep (iVar 1)])]))
def B_is_lot (Φ : Nat → FS) : SS :=
    iSq (iIfS (iNot (iCallF (Φ 3) [iKeep (iVar 0), iOp gSub [iVar 1, iC (.int 1)]]))
    (iRet (iC (.bl false)))
    (iNil))
    (iRet (iOp gAll [iComp (.tp [.nm 2, .nm 3]) [2, 3] (itW false gZip [iVar 0, iOp gCut1 [iVar 0, iC (.int 1)]]) (iC (.bl true)) (iOp (gCmpI fun i j => decide (i < j)) [iVar 2, iVar 3])]))
def B_power (Φ : Nat → FS) : SS :=
    iSq (iSet 2 (iC (.int 1)))
    (iSq (iFor (.nm 3) (itOf gRng1 [iVar 1])
    (iSet 2 (iOp gMul [iVar 2, iVar 0])))
    (iRet (iVar 2)))
def B_is_comings (Φ : Nat → FS) : SS :=
    iSq (iIfS (iOr (iNot (iOp (gIsi "tuple") [iVar 0])) (iNot (iChain (gCmpI fun i j => decide (i ≤ j)) (gCmpI fun i j => decide (i ≤ j)) (iC (.int 1)) (iOp gLen [iVar 0]) (iC (.int 63)))))
    (iRet (iC (.bl false)))
    (iNil))
    (iRet (iOp gAll [iComp (.tp [.nm 1, .nm 2]) [1, 2] (itW false gEnum [iVar 0]) (iC (.bl true)) (iCallF (Φ 4) [iKeep (iVar 2), iKeep (iVar 1)])]))
def B_check_comings (Φ : Nat → FS) : SS :=
    iIfS (iNot (iCallF (Φ 6) [iKeep (iVar 0)]))
    ((fun _ => .bad))
    (iNil)
def B_raw_is_forest (Φ : Nat → FS) : SS :=
    iSq (iSet 1 (iLst []))
    (iSq (iFor (.tp [.nm 2, .nm 3]) (itW true gEnum [iVar 0])
    (iSq (iSet 4 (iComp (.nm 5) [5] (iSeqE false (iVar 3)) (iC (.bl true)) (iOp gIx [iVar 1, iVar 5])))
    (iSq (iIfS (iOp (gCmpI fun i j => decide (i < j)) [iOp gLenSet [iVar 4], iOp gLen [iVar 4]])
    (iRet (iC (.bl false)))
    (iNil))
    (iSet 1 (iOp gAdd [iComp (.nm 6) [6] (iSeqE false (iVar 1)) (iC (.bl true)) (iIf (iOp gIn [iVar 6, iVar 4]) (iVar 2) (iVar 6)), iLst [iKeep (iVar 2)]])))))
    (iRet (iC (.bl true))))
def B_is_forest (Φ : Nat → FS) : SS :=
    iSq (iDrop (iCallF (Φ 7) [iKeep (iVar 0)]))
    (iRet (iCallF (Φ 8) [iKeep (iVar 0)]))
def B_is_right (Φ : Nat → FS) : SS :=
    iRet (iAnd (iCallF (Φ 1) [iKeep (iVar 0), iC (.int 999)]) (iOp gNotIn [iVar 0, iComp (.nm 3) [3] (iSeqE false (iVar 1)) (iC (.bl true)) (iOp gIx [iVar 2, iVar 3])]))
def B_raw_led (Φ : Nat → FS) : SS :=
    iSq (iSet 2 (iTup []))
    (iSq (iFor (.tp [.nm 3, .nm 4]) (itW true gEnum [iVar 1])
    (iSq (iSet 5 (iCallV gsV (phv Φ) (iVar 0) [iOp gCut2 [iVar 1, iOp gAdd [iVar 3, iC (.int 1)]], iKeep (iVar 2)]))
    (iSq (iIfS (iNot (iCallF (Φ 10) [iKeep (iVar 5), iKeep (iVar 4), iKeep (iVar 2)]))
    (iRet (iTup [iC (.str "wrong"), iKeep (iVar 3), iKeep (iVar 5)]))
    (iNil))
    (iSet 2 (iOp gAdd [iVar 2, iTup [iKeep (iVar 5)]])))))
    (iRet (iTup [iC (.str "colours"), iKeep (iVar 2)])))
def B_led (Φ : Nat → FS) : SS :=
    iSq (iDrop (iCallF (Φ 7) [iKeep (iVar 1)]))
    (iRet (iCallF (Φ 11) [iKeep (iVar 0), iKeep (iVar 1)]))
def B_first_painter (Φ : Nat → FS) : SS :=
    iSq (iSet 2 (iComp (.nm 4) [4] (iSeqE false (iOp gIx [iVar 0, iOp gNeg [iC (.int 1)]])) (iC (.bl true)) (iOp gIx [iVar 1, iVar 4])))
    (iSq (iSet 3 (iC (.int 0)))
    (iSq (iWhile (iOp gIn [iVar 3, iVar 2])
    (iSet 3 (iOp gAdd [iVar 3, iC (.int 1)])) 1000000)
    (iRet (iVar 3))))
def B_Foe___init__ (Φ : Nat → FS) : SS :=
    iSq (iSetF ["Foe"] "painter" (iKeep (iVar 1)) (iVar 0))
    (iSq (iSetF ["Foe"] "comings" (iNew (iLst [])) (iVar 0))
    (iSq (iSetF ["Foe"] "colours" (iNew (iLst [])) (iVar 0))
    (iSq (iSetF ["Foe"] "is_over" (iC (.bl false)) (iVar 0))
    (iSetF ["Foe"] "last" (iC .non) (iVar 0)))))
def B_Foe_put (Φ : Nat → FS) : SS :=
    iSq (iDrop (iMut mAppend (iFld ["Foe"] "comings" (iVar 0)) [iOp gTuple [iOp gSorted [iVar 1]]]))
    (iSq (iSet 2 (iCallV gsV (phv Φ) (iFld ["Foe"] "painter" (iVar 0)) [iOp gTuple [iFld ["Foe"] "comings" (iVar 0)], iOp gTuple [iFld ["Foe"] "colours" (iVar 0)]]))
    (iSq (iIfS (iNot (iCallF (Φ 10) [iKeep (iVar 2), iKeep (iVar 1), iFld ["Foe"] "colours" (iVar 0)]))
    (iSq (iSetF ["Foe"] "is_over" (iC (.bl true)) (iVar 0))
    (iSq (iSetF ["Foe"] "last" (iKeep (iVar 2)) (iVar 0))
    (iRet (iC .non))))
    (iNil))
    (iSq (iDrop (iMut mAppend (iFld ["Foe"] "colours" (iVar 0)) [iKeep (iVar 2)]))
    (iRet (iOp gSub [iOp gLen [iFld ["Foe"] "colours" (iVar 0)], iC (.int 1)])))))
def B_Foe_unlike (Φ : Nat → FS) : SS :=
    iSq (iIfS (iOp gEq [iVar 1, iC (.int 0)])
    (iRet (iLst []))
    (iNil))
    (iSq (iSet 2 (iMeth "Foe" "unlike" (Φ 16) (iVar 0) [iOp gSub [iVar 1, iC (.int 1)]]))
    (iSq (iSet 3 (iIf (iOp gIsN [iVar 2, iC .non]) (iC .non) (iMeth "Foe" "unlike" (Φ 16) (iVar 0) [iOp gSub [iVar 1, iC (.int 1)]])))
    (iSq (iIfS (iOp gIsN [iVar 3, iC .non])
    (iRet (iC .non))
    (iNil))
    (iSq (iSet 4 (iComp (.nm 6) [6] (iSeqE false (iVar 2)) (iC (.bl true)) (iOp gIx [iFld ["Foe"] "colours" (iVar 0), iVar 6])))
    (iSq (iSet 5 (iComp (.nm 6) [6] (iSeqE false (iVar 3)) (iOp gNotIn [iOp gIx [iFld ["Foe"] "colours" (iVar 0), iVar 6], iVar 4]) (iVar 6)))
    (iSq (iIfS (iOp (gCmpI fun i j => decide (j < i)) [iOp gLen [iVar 5], iC (.int 0)])
    (iRet (iOp gAdd [iVar 2, iOp gCut2 [iVar 5, iC (.int 1)]]))
    (iNil))
    (iSq (iSet 6 (iMeth "Foe" "put" (Φ 15) (iVar 0) [iKeep (iVar 3)]))
    (iRet (iIf (iOp gIsN [iVar 6, iC .non]) (iC .non) (iOp gAdd [iVar 2, iLst [iKeep (iVar 6)]]))))))))))
def B_check_forced (Φ : Nat → FS) : SS :=
    iIfS (iNot (iCallF (Φ 2) [iKeep (iVar 0), iC (.int 1), iC (.int 6)]))
    ((fun _ => .bad))
    (iNil)
def B_forest_foe (Φ : Nat → FS) : SS :=
    iSq (iDrop (iCallF (Φ 17) [iKeep (iVar 1)]))
    (iSq (iSet 2 (iMake "Foe" (Φ 14) [iKeep (iVar 0)]))
    (iSq (iSet 3 (iMeth "Foe" "unlike" (Φ 16) (iVar 2) [iOp gSub [iVar 1, iC (.int 1)]]))
    (iSq (iIfS (iOp gNotN [iVar 3, iC .non])
    (iDrop (iMeth "Foe" "put" (Φ 15) (iVar 2) [iKeep (iVar 3)]))
    (iNil))
    (iSq (iIfS (iFld ["Foe"] "is_over" (iVar 2))
    (iRet (iTup [iC (.str "wrong"), iOp gTuple [iFld ["Foe"] "comings" (iVar 2)], iFld ["Foe"] "last" (iVar 2)]))
    (iNil))
    (iRet (iTup [iC (.str "forest"), iOp gTuple [iFld ["Foe"] "comings" (iVar 2)], iOp gTuple [iFld ["Foe"] "colours" (iVar 2)]]))))))
def B_least_colours (Φ : Nat → FS) : SS :=
    iSq (iIfS (iNot (iCallF (Φ 2) [iKeep (iVar 0), iC (.int 1), iC (.int 63)]))
    ((fun _ => .bad))
    (iNil))
    (iSq (iSet 1 (iC (.int 0)))
    (iSq (iWhile (iOp (gCmpI fun i j => decide (i ≤ j)) [iCallF (Φ 5) [iC (.int 2), iKeep (iVar 1)], iVar 0])
    (iSet 1 (iOp gAdd [iVar 1, iC (.int 1)])) 1000000)
    (iRet (iVar 1))))
def B_grown_lot (Φ : Nat → FS) : SS :=
    iSq (iDrop (iCallF (Φ 7) [iKeep (iVar 0)]))
    (iSq (iIfS (iNot (iCallF (Φ 8) [iKeep (iVar 0)]))
    ((fun _ => .bad))
    (iNil))
    (iSq (iIfS (iNot (iCallF (Φ 1) [iKeep (iVar 1), iOp gSub [iOp gLen [iVar 0], iC (.int 1)]]))
    ((fun _ => .bad))
    (iNil))
    (iSq (iSet 2 (iOp gIx [iCallF (Φ 11) [iC (.fn "first_painter"), iKeep (iVar 0)], iC (.int 1)]))
    (iSq (iPar [3, 4] [iLst [], iLst [iKeep (iVar 1)]])
    (iSq (iWhile (iOp (gCmpI fun i j => decide (j < i)) [iOp gLen [iVar 4], iC (.int 0)])
    (iSq (iSet 5 (iMut mPop (iVar 4) []))
    (iSq (iDrop (iMut mAppend (iVar 3) [iKeep (iVar 5)]))
    (iFor (.nm 6) (itOf gRng1 [iOp gIx [iVar 2, iVar 5]])
    (iDrop (iMut mAppend (iVar 4) [iOp gMin [iComp (.nm 7) [7] (iSeqE false (iOp gIx [iVar 0, iVar 5])) (iOp gEq [iOp gIx [iVar 2, iVar 7], iVar 6]) (iVar 7)]]))))) 1000000)
    (iRet (iOp gTuple [iOp gSorted [iVar 3]])))))))
def B__law_pot (Φ : Nat → FS) : SS :=
    iSq (iSet 1 (iComp (.nm 2) [2] (iSeqE false (iOp gCut2 [iVar 0, iC (.int 63)])) (iC (.bl true)) (iOp gAbs [iOp gInt [iVar 2]])))
    (iRet (iLst [iKeep (iVar 1), iC (.int 0), iC (.int 0), iOp gAdd [iC (.int 733), iOp gMul [iC (.int 31), iOp gLen [iVar 1]]], iC (.int 0)]))
def B__law_draw (Φ : Nat → FS) : SS :=
    iSq (iIfS (iAnd (iOp gEq [iOp gIx [iVar 0, iC (.int 2)], iC (.int 0)]) (iOp (gCmpI fun i j => decide (i < j)) [iOp gIx [iVar 0, iC (.int 1)], iOp gLen [iOp gIx [iVar 0, iC (.int 0)]]]))
    (iSq (iSet 3 (iOp gIx [iOp gIx [iVar 0, iC (.int 0)], iOp gIx [iVar 0, iC (.int 1)]]))
    (iSq (iSubS (iOp gAdd [iOp gIx [iVar 0, iC (.int 1)], iC (.int 1)]) (iVar 0) (iC (.int 1)))
    (iSq (iSubS (iOp gMod [iOp gInt [iOp gAdd [iOp gAdd [iOp gMul [iOp gIx [iVar 0, iC (.int 3)], iC (.int 48271)], iVar 3], iC (.int 29)]], iC (.int 2147483629)]) (iVar 0) (iC (.int 3)))
    (iIfS (iOp (gCmpI fun i j => decide (j ≤ i)) [iVar 3, iOp gPow [iC (.int 10), iC (.int 18)]])
    (iSubS (iKeep (iVar 3)) (iVar 0) (iC (.int 2)))
    (iNil)))))
    (iNil))
    (iSq (iIfS (iOp (gCmpI fun i j => decide (j < i)) [iOp gIx [iVar 0, iC (.int 2)], iC (.int 0)])
    (iSq (iSet 4 (iOp gMod [iOp gInt [iOp gIx [iVar 0, iC (.int 2)]], iVar 1]))
    (iSq (iSubS (iOp gDiv [iOp gIx [iVar 0, iC (.int 2)], iVar 1]) (iVar 0) (iC (.int 2)))
    (iRet (iVar 4))))
    (iNil))
    (iSq (iSubS (iOp gAdd [iOp gIx [iVar 0, iC (.int 4)], iC (.int 1)]) (iVar 0) (iC (.int 4)))
    (iSq (iSet 2 (iOp gMod [iOp gInt [iOp gMul [iOp gAdd [iOp gIx [iVar 0, iC (.int 3)], iOp gMul [iC (.int 7919), iOp gIx [iVar 0, iC (.int 4)]]], iC (.int 69621)]], iC (.int 2147483647)]))
    (iSq (iSet 2 (iOp gMod [iOp gInt [iOp gMul [iVar 2, iOp gAdd [iOp gDiv [iVar 2, iC (.int 1009)], iC (.int 48271)]]], iC (.int 2147483629)]))
    (iSq (iSet 2 (iOp gMod [iOp gInt [iOp gMul [iVar 2, iOp gAdd [iOp gDiv [iVar 2, iC (.int 2003)], iC (.int 40692)]]], iC (.int 2147483399)]))
    (iRet (iOp gMod [iOp gInt [iOp gDiv [iVar 2, iC (.int 16)]], iVar 1])))))))
def B__law_any (Φ : Nat → FS) : SS :=
    iRet (iOp gIx [iVar 1, iCallF (Φ 22) [iKeep (iVar 0), iOp gLen [iVar 1]]])
def B__law_forests (Φ : Nat → FS) : SS :=
    iSq (iSet 1 (iLst [iTup []]))
    (iSq (iFor (.nm 2) (itOf gRng1 [iVar 0])
    (iSq (iSet 3 (iLst []))
    (iSq (iFor (.nm 4) (iSeqE true (iVar 1))
    (iSq (iSet 5 (iLst [iTup []]))
    (iSq (iFor (.nm 6) (iSeqE true (iCallF (Φ 25) [iKeep (iVar 4)]))
    (iSq (iSet 7 (iLst []))
    (iSq (iFor (.nm 8) (iSeqE true (iVar 5))
    (iDrop (iMut mExtend (iVar 7) [iComp (.nm 9) [9] (iSeqE false (iVar 6)) (iC (.bl true)) (iOp gAdd [iVar 8, iTup [iKeep (iVar 9)]])])))
    (iSet 5 (iOp gAdd [iVar 5, iVar 7])))))
    (iDrop (iMut mExtend (iVar 3) [iComp (.nm 8) [8] (iSeqE false (iVar 5)) (iC (.bl true)) (iOp gAdd [iVar 4, iTup [iOp gTuple [iOp gSorted [iVar 8]]]])])))))
    (iSet 1 (iVar 3)))))
    (iRet (iVar 1)))
def B__law_pieces (Φ : Nat → FS) : SS :=
    iSq (iSet 1 (iLst []))
    (iSq (iForA (.tp [.nm 2, .nm 3]) true (iVar 0)
    (iSq (iSet 4 (iComp (.nm 6) [6] (iSeqE false (iVar 1)) (iOp gAny [iComp (.nm 7) [7] (iSeqE false (iVar 6)) (iC (.bl true)) (iOp gIn [iVar 7, iVar 3])]) (iVar 6)))
    (iSq (iSet 1 (iComp (.nm 6) [6] (iSeqE false (iVar 1)) (iOp gNotIn [iVar 6, iVar 4]) (iVar 6)))
    (iSq (iSet 5 (iLst [iKeep (iVar 2)]))
    (iSq (iFor (.nm 6) (iSeqE true (iVar 4))
    (iDrop (iMut mExtend (iVar 5) [iKeep (iVar 6)])))
    (iDrop (iMut mAppend (iVar 1) [iOp gSorted [iVar 5]])))))))
    (iRet (iVar 1)))
def B__law_fitted (Φ : Nat → FS) : SS :=
    iSq (iSet 1 (iLst []))
    (iSq (iFor (.nm 2) (iSeqE true (iVar 0))
    (iSq (iPar [3, 4] [iComp (.nm 5) [5] (iSeqE false (iVar 2)) (iC (.bl true)) (iOp gIx [iVar 1, iVar 5]), iC (.int 0)])
    (iSq (iWhile (iOp gIn [iVar 4, iVar 3])
    (iSet 4 (iOp gAdd [iVar 4, iC (.int 1)])) 1000000)
    (iDrop (iMut mAppend (iVar 1) [iKeep (iVar 4)])))))
    (iRet (iOp gTuple [iVar 1])))
def B__law_figures (Φ : Nat → FS) : SS :=
    iSq (iSet 1 (iC (.int 0)))
    (iSq (iWhile (iOp (gCmpI fun i j => decide (j < i)) [iVar 0, iC (.int 0)])
    (iPar [0, 1] [iOp gDiv [iVar 0, iC (.int 2)], iOp gAdd [iVar 1, iC (.int 1)]]) 1000000)
    (iRet (iVar 1)))
def B__law_lot (Φ : Nat → FS) : SS :=
    iSq (iSet 3 (iLst [iKeep (iVar 2)]))
    (iSq (iFor (.nm 4) (itOf gRng1 [iOp gIx [iVar 1, iVar 2]])
    (iDrop (iMut mExtend (iVar 3) [iCallF (Φ 28) [iKeep (iVar 0), iKeep (iVar 1), iOp gIx [iComp (.nm 5) [5] (iSeqE false (iOp gIx [iVar 0, iVar 2])) (iOp gEq [iOp gIx [iVar 1, iVar 5], iVar 4]) (iVar 5), iC (.int 0)]]])))
    (iRet (iVar 3)))
def B__law_grown (Φ : Nat → FS) : SS :=
    iSq (iPar [2, 3] [iLst [], iLst []])
    (iSq (iFor (.nm 1) (itOf gRng1 [iVar 0])
    (iSq (iSet 4 (iOp gLen [iVar 2]))
    (iSq (iDrop (iMut mExtend (iVar 2) [iComp (.nm 5) [5] (iSeqE false (iCallF (Φ 29) [iKeep (iVar 1)])) (iC (.bl true)) (iOp gTuple [iComp (.nm 6) [6] (iSeqE false (iVar 5)) (iC (.bl true)) (iOp gAdd [iVar 4, iVar 6])])]))
    (iDrop (iMut mAppend (iVar 3) [iOp gSub [iOp gLen [iVar 2], iC (.int 1)]])))))
    (iRet (iOp gAdd [iVar 2, iLst [iOp gTuple [iVar 3]]])))
def B__law_great (Φ : Nat → FS) : SS :=
    iSq (iSet 1 (iCallF (Φ 29) [iCallF (Φ 22) [iKeep (iVar 0), iC (.int 6)]]))
    (iSq (iAsg (.tp [.nm 2, .nm 3]) (iTup [iCallF (Φ 22) [iKeep (iVar 0), iC (.int 4)], iOp gLen [iVar 1]]))
    (iSq (iIfS (iOp gEq [iVar 2, iC (.int 0)])
    (iSet 1 (iOp gAdd [iVar 1, iLst [iTup [iOp gSub [iVar 3, iC (.int 1)]], iTup [iKeep (iVar 3)], iTup []]]))
    (iNil))
    (iSq (iIfS (iAnd (iOp gEq [iVar 2, iC (.int 1)]) (iOp (gCmpI fun i j => decide (i < j)) [iVar 3, iC (.int 32)]))
    (iSq (iSet 1 (iOp gAdd [iVar 1, iComp (.nm 4) [4] (iSeqE false (iVar 1)) (iC (.bl true)) (iOp gTuple [iComp (.nm 5) [5] (iSeqE false (iVar 4)) (iC (.bl true)) (iOp gAdd [iVar 3, iVar 5])])]))
    (iDrop (iMut mAppend (iVar 1) [iTup [iOp gSub [iVar 3, iC (.int 1)], iOp gSub [iOp gMul [iC (.int 2), iVar 3], iC (.int 1)]]])))
    (iNil))
    (iSq (iIfS (iOp gEq [iVar 2, iC (.int 2)])
    (iSet 1 (iOp gAdd [iOp gAdd [iLst [iTup []], iComp (.nm 4) [4] (iSeqE false (iVar 1)) (iC (.bl true)) (iOp gTuple [iComp (.nm 5) [5] (iSeqE false (iVar 4)) (iC (.bl true)) (iOp gAdd [iVar 5, iC (.int 1)])])], iLst [iTup [iC (.int 0)]]]))
    (iNil))
    (iRet (iOp gTuple [iVar 1]))))))
def B__law_drawn (Φ : Nat → FS) : SS :=
    iSq (iPar [2, 3, 4] [iCallF (Φ 23) [iKeep (iVar 0), iLst [iC (.int 1), iC (.int 2), iC (.int 3), iC (.int 6), iC (.int 9), iC (.int 15), iC (.int 16), iC (.int 31), iC (.int 32), iC (.int 63)]], iCallF (Φ 22) [iKeep (iVar 0), iC (.int 5)], iNew (iLst [])])
    (iSq (iFor (.nm 1) (itOf gRng1 [iVar 2])
    (iSq (iSet 5 (iIf (iOp (gCmpI fun i j => decide (j < i)) [iVar 1, iC (.int 0)]) (iOp gIx [iLst [iTup [iOp gSub [iVar 1, iC (.int 1)]], iTup [iC (.int 0)], iTup [iCallF (Φ 22) [iKeep (iVar 0), iOp gMax2 [iC (.int 1), iVar 1]]], iTup []], iOp gMin2 [iVar 3, iC (.int 3)]]) (iTup [])))
    (iSq (iIfS (iOp (gCmpI fun i j => decide (j < i)) [iVar 3, iC (.int 2)])
    (iSq (iSet 6 (iCallF (Φ 25) [iVar 4]))
    (iSq (iSet 7 (iComp (.nm 8) [8] (iSeqE false (iVar 6)) (iOp gEq [iCallF (Φ 22) [iKeep (iVar 0), iC (.int 2)], iC (.int 0)]) (iVar 8)))
    (iSet 5 (iOp gTuple [iOp gSorted [iComp (.nm 8) [8] (iSeqE false (iOp gCut2 [iVar 7, iC (.int 4)])) (iC (.bl true)) (iCallF (Φ 23) [iKeep (iVar 0), iKeep (iVar 8)])]]))))
    (iNil))
    (iDrop (iMut mAppend (iVar 4) [iKeep (iVar 5)])))))
    (iRet (iOp gTuple [iVar 4])))
def B__law_is_fitted_right (Φ : Nat → FS) : SS :=
    iSq (iSet 3 (iCallF (Φ 26) [iKeep (iVar 1)]))
    (iSq (iIfS (iOr (iOp gNe [iOp gRepr [iCallF (Φ 12) [iC (.fn "first_painter"), iKeep (iVar 1)]], iOp gRepr [iTup [iC (.str "colours"), iKeep (iVar 3)]]]) (iOp gNotB [iCallF (Φ 9) [iKeep (iVar 1)], iC (.bl true)]))
    (iRet (iC (.bl false)))
    (iNil))
    (iSq (iIfS (iOp (gCmpI fun i j => decide (j < i)) [iOp gAdd [iOp gMax [iVar 3], iC (.int 1)], iCallF (Φ 27) [iOp gLen [iVar 1]]])
    (iRet (iC (.bl false)))
    (iNil))
    (iSq (iFor (.nm 4) (itOf gRng1 [iOp gMin2 [iVar 2, iOp gLen [iVar 1]]])
    (iSq (iSet 5 (iIf (iOp (gCmpI fun i j => decide (j ≤ i)) [iVar 2, iOp gLen [iVar 1]]) (iVar 4) (iCallF (Φ 22) [iKeep (iVar 0), iOp gLen [iVar 1]])))
    (iSq (iPar [7, 8] [iCallF (Φ 28) [iKeep (iVar 1), iKeep (iVar 3), iKeep (iVar 5)], iC (.int 1)])
    (iSq (iFor (.nm 6) (itOf gRng1 [iOp gIx [iVar 3, iVar 5]])
    (iSet 8 (iOp gMul [iC (.int 2), iVar 8])))
    (iIfS (iOr (iOp gNe [iOp gLenSet [iVar 7], iVar 8]) (iOp gNe [iOp gRepr [iCallF (Φ 20) [iKeep (iVar 1), iKeep (iVar 5)]], iOp gRepr [iOp gTuple [iOp gSorted [iVar 7]]]]))
    (iRet (iC (.bl false)))
    (iNil))))))
    (iRet (iC (.bl true))))))
def B__law_foe_right (Φ : Nat → FS) : SS :=
    iSq (iPar [2, 3] [iCallF (Φ 18) [iC (.fn "first_painter"), iKeep (iVar 0)], iC (.int 1)])
    (iSq (iFor (.nm 1) (itOf gRng2 [iC (.int 1), iVar 0])
    (iSet 3 (iOp gMul [iC (.int 2), iVar 3])))
    (iSq (iIfS (iOr (iOp gNe [iOp gIx [iVar 2, iC (.int 0)], iC (.str "forest")]) (iOr (iOp gNe [iOp gLen [iOp gIx [iVar 2, iC (.int 1)]], iVar 3]) (iOp gNe [iOp gLenSet [iOp gIx [iVar 2, iC (.int 2)]], iVar 0])))
    (iRet (iC (.bl false)))
    (iNil))
    (iRet (iOp gEq [iOp gRepr [iOp gIx [iVar 2, iC (.int 2)]], iOp gRepr [iCallF (Φ 26) [iOp gIx [iVar 2, iC (.int 1)]]]]))))
def B_law (Φ : Nat → FS) : SS :=
    iSq (iSet 1 (iNew (iCallF (Φ 21) [iKeep (iVar 0)])))
    (iSq (iFor (.nm 2) (itOf gRng2 [iC (.int 1), iIf (iOp (gCmpI fun i j => decide (j < i)) [iCallF (Φ 22) [iVar 1, iC (.int 8)], iC (.int 0)]) (iC (.int 5)) (iC (.int 6))])
    (iIfS (iNot (iOp gAll [iComp (.nm 5) [5] (iSeqE false (iCallF (Φ 24) [iKeep (iVar 2)])) (iC (.bl true)) (iCallF (Φ 32) [iVar 1, iKeep (iVar 5), iC (.int 5)])]))
    (iRet (iC (.bl false)))
    (iNil)))
    (iSq (iFor (.nm 3) (itOf gRng1 [iC (.int 3)])
    (iIfS (iOr (iNot (iCallF (Φ 32) [iVar 1, iCallF (Φ 30) [iVar 1], iC (.int 8)])) (iNot (iCallF (Φ 32) [iVar 1, iCallF (Φ 31) [iVar 1], iC (.int 8)])))
    (iRet (iC (.bl false)))
    (iNil)))
    (iSq (iIfS (iNot (iOp gAll [iComp (.nm 4) [4] (itOf gRng2 [iC (.int 1), iC (.int 64)]) (iC (.bl true)) (iOp gEq [iOp gRepr [iCallF (Φ 19) [iKeep (iVar 4)]], iOp gRepr [iCallF (Φ 27) [iKeep (iVar 4)]]])]))
    (iRet (iC (.bl false)))
    (iNil))
    (iRet (iCallF (Φ 33) [iOp gAdd [iC (.int 1), iCallF (Φ 22) [iVar 1, iC (.int 6)]]])))))
def body (Φ : Nat → FS) : Nat → FS
  | 0 => runB 1 (B_is_integer Φ)
  | 1 => runB 2 (B_is_number Φ)
  | 2 => runB 3 (B_is_within Φ)
  | 3 => runB 3 (B_are_numbers Φ)
  | 4 => runB 4 (B_is_lot Φ)
  | 5 => runB 4 (B_power Φ)
  | 6 => runB 3 (B_is_comings Φ)
  | 7 => runB 1 (B_check_comings Φ)
  | 8 => runB 7 (B_raw_is_forest Φ)
  | 9 => runB 1 (B_is_forest Φ)
  | 10 => runB 4 (B_is_right Φ)
  | 11 => runB 6 (B_raw_led Φ)
  | 12 => runB 2 (B_led Φ)
  | 13 => runB 5 (B_first_painter Φ)
  | 14 => runB 2 (B_Foe___init__ Φ)
  | 15 => runB 3 (B_Foe_put Φ)
  | 16 => runB 7 (B_Foe_unlike Φ)
  | 17 => runB 1 (B_check_forced Φ)
  | 18 => runB 4 (B_forest_foe Φ)
  | 19 => runB 2 (B_least_colours Φ)
  | 20 => runB 8 (B_grown_lot Φ)
  | 21 => runB 3 (B__law_pot Φ)
  | 22 => runB 5 (B__law_draw Φ)
  | 23 => runB 2 (B__law_any Φ)
  | 24 => runB 10 (B__law_forests Φ)
  | 25 => runB 8 (B__law_pieces Φ)
  | 26 => runB 6 (B__law_fitted Φ)
  | 27 => runB 2 (B__law_figures Φ)
  | 28 => runB 6 (B__law_lot Φ)
  | 29 => runB 7 (B__law_grown Φ)
  | 30 => runB 6 (B__law_great Φ)
  | 31 => runC 9 (B__law_drawn Φ)
  | 32 => runB 9 (B__law_is_fitted_right Φ)
  | 33 => runB 4 (B__law_foe_right Φ)
  | 34 => runC 6 (B_law Φ)
  | _ => fun _ _ => .bad
def callF : Nat → Nat → FS
  | 0, _ => fun _ _ => .bad
  | k + 1, i => body (callF k) i
end K59
end T_Sk59
section T_FF
set_option linter.all false
/-! First fit on comings of forests: plain lists of numbers. -/
namespace FF
/-! ### the least number that is not there -/
def mexF (l : List Nat) : Nat → Nat → Nat
  | 0, n => n
  | f + 1, n => if n ∈ l then mexF l f (n + 1) else n
def mex (l : List Nat) : Nat := mexF l (l.length + 1) 0
theorem mexF_lt {l : List Nat} : ∀ {f n j : Nat}, (∀ i, i < n → i ∈ l) → j < mexF l f n → j ∈ l
  | 0, n, j, h, hj => h j hj
  | f + 1, n, j, h, hj => by
    unfold mexF at hj
    split at hj
    · rename_i hn
      exact mexF_lt (f := f) (fun i hi => (Nat.lt_succ_iff_lt_or_eq.mp hi).elim (h i) fun e => by rw [e]; exact hn) hj
    · exact h j hj
theorem mex_lt {l : List Nat} {j : Nat} (h : j < mex l) : j ∈ l := mexF_lt (fun _ z => absurd z (Nat.not_lt_zero _)) h
theorem mexF_in {l : List Nat} : ∀ {f n : Nat}, mexF l f n ∈ l → mexF l f n = n + f
  | 0, n, h => rfl
  | f + 1, n, h => by
    unfold mexF at h ⊢
    split at h
    · rename_i hn
      rw [if_pos hn, mexF_in h]
      omega
    · rename_i hn
      exact absurd h hn
theorem mex_le (l : List Nat) : mex l ≤ l.length := by
  have h : List.range (mex l) ⊆ l := fun j hj => mex_lt (List.mem_range.mp hj)
  have := List.Nodup.length_le_of_subset List.nodup_range h
  rwa [List.length_range] at this
theorem mex_not (l : List Nat) : mex l ∉ l := fun h => by
  have e : mex l = 0 + (l.length + 1) := mexF_in h
  have := mex_le l
  omega
/-! ### what holds of comings of a forest: cols the first fit, lab t w the piece of w when t places have come -/
structure Good (cs : List (List Nat)) (cols : List Nat) (lab : Nat → Nat → Nat) : Prop where
  len : cols.length = cs.length
  few : cs.length ≤ 63
  lot : ∀ (v : Nat) (l : List Nat), cs[v]? = some l → l.Pairwise (· < ·) ∧ ∀ o ∈ l, o < v
  col : ∀ (v : Nat) (l : List Nat), cs[v]? = some l → cols[v]? = some (mex (l.map (cols.getD · 0)))
  old : ∀ (v : Nat) (l : List Nat) (w : Nat), cs[v]? = some l → w < v → lab (v + 1) w = if lab v w ∈ l.map (lab v) then v else lab v w
  new : ∀ v, v < cs.length → lab (v + 1) v = v
  apart : ∀ (v : Nat) (l : List Nat), cs[v]? = some l → (l.map (lab v)).Nodup
def pick (cs : List (List Nat)) (cols : List Nat) (v j : Nat) : Nat := ((cs.getD v []).filter fun o => cols.getD o 0 == j).headD 0
def L (cs : List (List Nat)) (cols : List Nat) : Nat → Nat → List Nat
  | 0, _ => []
  | f + 1, v => v :: (List.range (cols.getD v 0)).flatMap fun j => L cs cols f (pick cs cols v j)
section
variable {cs : List (List Nat)} {cols : List Nat} {lab : Nat → Nat → Nat}
theorem getD_of {α : Type} {l : List α} {i : Nat} {x d : α} (h : l[i]? = some x) : l.getD i d = x := by
  rw [List.getD_eq_getElem?_getD, h]
  rfl
theorem Good.pick (g : Good cs cols lab) {v j : Nat} {l : List Nat} (hl : cs[v]? = some l) (hj : j < cols.getD v 0) : FF.pick cs cols v j ∈ l ∧ cols.getD (FF.pick cs cols v j) 0 = j ∧ (l.filter fun o => cols.getD o 0 == j)[0]? = some (FF.pick cs cols v j) := by
  have hc := getD_of (d := 0) (g.col v l hl)
  rw [hc] at hj
  obtain ⟨o, ho, ej⟩ := List.mem_map.mp (mex_lt hj)
  have hm : o ∈ l.filter fun o => cols.getD o 0 == j := List.mem_filter.mpr ⟨ho, by rw [ej]; exact beq_self_eq_true j⟩
  unfold FF.pick
  rw [getD_of (d := []) hl]
  cases hf : l.filter fun o => cols.getD o 0 == j with
  | nil => rw [hf] at hm; cases hm
  | cons x r =>
    have hx : x ∈ l.filter fun o => cols.getD o 0 == j := by rw [hf]; exact List.mem_cons_self
    obtain ⟨h1, h2⟩ := List.mem_filter.mp hx
    exact ⟨h1, beq_iff_eq.mp h2, rfl⟩
theorem Good.at (g : Good cs cols lab) {v : Nat} (hv : v < cs.length) : ∃ l, cs[v]? = some l := ⟨cs[v], List.getElem?_eq_getElem hv⟩
theorem Good.pick_lt (g : Good cs cols lab) {v j : Nat} (hv : v < cs.length) (hj : j < cols.getD v 0) : FF.pick cs cols v j < v := by
  obtain ⟨l, hl⟩ := g.at hv
  exact (g.lot v l hl).2 _ (g.pick hl hj).1
theorem Good.pick_col (g : Good cs cols lab) {v j : Nat} (hv : v < cs.length) (hj : j < cols.getD v 0) : cols.getD (FF.pick cs cols v j) 0 = j := by
  obtain ⟨l, hl⟩ := g.at hv
  exact (g.pick hl hj).2.1
/-- the lots do not hang on how long is looked -/
theorem Good.L_eq (g : Good cs cols lab) : ∀ {f f' v : Nat}, v < cs.length → cols.getD v 0 < f → cols.getD v 0 < f' → L cs cols f v = L cs cols f' v
  | f + 1, f' + 1, v, hv, h1, h2 => by
    unfold L
    congr 1
    rw [List.flatMap_def, List.flatMap_def]
    apply congrArg List.flatten
    apply List.map_congr_left
    intro j hj
    have hj := List.mem_range.mp hj
    have hp := g.pick_lt hv hj
    have hc := g.pick_col hv hj
    exact g.L_eq (by omega) (by omega) (by omega)
theorem Good.L_le (g : Good cs cols lab) : ∀ {f v w : Nat}, v < cs.length → w ∈ L cs cols f v → w ≤ v
  | 0, v, w, hv, h => by cases h
  | f + 1, v, w, hv, h => by
    unfold L at h
    rcases List.mem_cons.mp h with e | h
    · omega
    · obtain ⟨j, hj, hw⟩ := List.mem_flatMap.mp h
      have hp := g.pick_lt hv (List.mem_range.mp hj)
      have := g.L_le (by omega) hw
      omega
/-- one piece stays one piece -/
theorem Good.same (g : Good cs cols lab) {a b : Nat} : ∀ {t t' : Nat}, a < t → b < t → t ≤ t' → t' ≤ cs.length → lab t a = lab t b → lab t' a = lab t' b := fun {t t'} ha hb htt ht h => by
  induction t' with
  | zero => omega
  | succ n ih =>
    rcases Nat.lt_or_ge n t with z | z
    · have e : t = n + 1 := by omega
      rw [← e]
      exact h
    · obtain ⟨l, hl⟩ := g.at (show n < cs.length by omega)
      rw [g.old n l a hl (by omega), g.old n l b hl (by omega), ih z (by omega)]
theorem Good.L_lab (g : Good cs cols lab) : ∀ {f v w t : Nat}, v < cs.length → w ∈ L cs cols f v → v < t → t ≤ cs.length → lab t w = lab t v
  | 0, v, w, t, hv, h, _, _ => by cases h
  | f + 1, v, w, t, hv, h, ht, ht2 => by
    have hw := g.L_le hv h
    unfold L at h
    rcases List.mem_cons.mp h with e | h
    · rw [e]
    · obtain ⟨j, hj, hm⟩ := List.mem_flatMap.mp h
      have hj := List.mem_range.mp hj
      obtain ⟨l, hl⟩ := g.at hv
      obtain ⟨p1, p2, _⟩ := g.pick hl hj
      have hp := g.pick_lt hv hj
      have hwp := g.L_le (by omega) hm
      have e1 : lab v w = lab v (FF.pick cs cols v j) := g.L_lab (by omega) hm hp (by omega)
      have e2 : lab (v + 1) w = v := by
        rw [g.old v l w hl (by omega), if_pos (List.mem_map.mpr ⟨_, p1, e1.symm⟩)]
      refine g.same (t := v + 1) (by omega) (by omega) ht ht2 ?_
      rw [e2, g.new v hv]
theorem inj_of_nodup {α β : Type} {f : α → β} : ∀ {l : List α} {x y : α}, (l.map f).Nodup → x ∈ l → y ∈ l → f x = f y → x = y
  | [], _, _, _, h, _, _ => by cases h
  | a :: l, x, y, hn, hx, hy, e => by
    rw [List.map_cons] at hn
    obtain ⟨h1, h2⟩ := List.nodup_cons.mp hn
    rcases List.mem_cons.mp hx with ex | hx2
    · rcases List.mem_cons.mp hy with ey | hy2
      · rw [ex, ey]
      · exact (h1 (List.mem_map.mpr ⟨y, hy2, by rw [← ex, e]⟩)).elim
    · rcases List.mem_cons.mp hy with ey | hy2
      · exact (h1 (List.mem_map.mpr ⟨x, hx2, by rw [← ey, e]⟩)).elim
      · exact inj_of_nodup h2 hx2 hy2 e
theorem Good.L_nodup (g : Good cs cols lab) : ∀ {f v : Nat}, v < cs.length → (L cs cols f v).Nodup
  | 0, v, hv => List.nodup_nil
  | f + 1, v, hv => by
    obtain ⟨l, hl⟩ := g.at hv
    unfold L
    refine List.nodup_cons.mpr ⟨fun h => ?_, ?_⟩
    · obtain ⟨j, hj, hm⟩ := List.mem_flatMap.mp h
      have hp := g.pick_lt hv (List.mem_range.mp hj)
      have := g.L_le (by omega) hm
      omega
    · refine List.pairwise_flatMap.mpr ⟨fun j hj => ?_, ?_⟩
      · have hp := g.pick_lt hv (List.mem_range.mp hj)
        exact g.L_nodup (by omega)
      · refine List.Pairwise.imp_of_mem ?_ (List.nodup_range (n := cols.getD v 0))
        intro j j' hj hj' ne x hx y hy e
        subst e
        have hj := List.mem_range.mp hj
        have hj' := List.mem_range.mp hj'
        obtain ⟨p1, p2, _⟩ := g.pick hl hj
        obtain ⟨q1, q2, _⟩ := g.pick hl hj'
        have hp := g.pick_lt hv hj
        have hq := g.pick_lt hv hj'
        have e1 := g.L_lab (by omega) hx hp (by omega)
        have e2 := g.L_lab (by omega) hy hq (by omega)
        have e3 := inj_of_nodup (g.apart v l hl) p1 q1 (e1.symm.trans e2)
        exact ne (by rw [← p2, ← q2, e3])
theorem sum_pow : ∀ c : Nat, ((List.range c).map fun j => 2 ^ j).sum + 1 = 2 ^ c
  | 0 => rfl
  | c + 1 => by
    have ih := sum_pow c
    rw [List.range_succ, List.map_append, List.sum_append, Nat.pow_succ]
    simp only [List.map_cons, List.map_nil, List.sum_cons, List.sum_nil]
    omega
theorem Good.L_length (g : Good cs cols lab) : ∀ {f v : Nat}, v < cs.length → cols.getD v 0 < f → (L cs cols f v).length = 2 ^ cols.getD v 0
  | f + 1, v, hv, hf => by
    unfold L
    rw [List.length_cons, List.length_flatMap, ← sum_pow]
    congr 2
    apply List.map_congr_left
    intro j hj
    have hj := List.mem_range.mp hj
    have hp := g.pick_lt hv hj
    have hc := g.pick_col hv hj
    rw [g.L_length (by omega) (by omega), hc]
/-- THE FACT: a colour needs its many places -/
theorem Good.pow_le (g : Good cs cols lab) {v : Nat} (hv : v < cs.length) : 2 ^ cols.getD v 0 ≤ cs.length := by
  rw [← g.L_length hv (Nat.lt_succ_self _)]
  have h : L cs cols (cols.getD v 0 + 1) v ⊆ List.range cs.length := fun w hw => List.mem_range.mpr (by have := g.L_le hv hw; omega)
  have := List.Nodup.length_le_of_subset (g.L_nodup hv) h
  rwa [List.length_range] at this
theorem Good.col_lt (g : Good cs cols lab) {v : Nat} (hv : v < cs.length) : cols.getD v 0 < 6 := by
  have h1 := g.pow_le hv
  have h2 := g.few
  rcases Nat.lt_or_ge (cols.getD v 0) 6 with z | z
  · exact z
  · have : 2 ^ 6 ≤ 2 ^ cols.getD v 0 := Nat.pow_le_pow_right (by decide) z
    omega
end
end FF
end T_FF
section T_FF2
set_option linter.all false
namespace FF
def cstep (cols : List Nat) (lot : List Nat) : List Nat := cols ++ [mex (lot.map (cols.getD · 0))]
def lstep (lab : List Nat) (lot : List Nat) : List Nat := (lab.map fun x => if x ∈ lot.map (lab.getD · 0) then lab.length else x) ++ [lab.length]
def colsAt (cs : List (List Nat)) (t : Nat) : List Nat := (cs.take t).foldl cstep []
def labAt (cs : List (List Nat)) (t : Nat) : List Nat := (cs.take t).foldl lstep []
abbrev ff (cs : List (List Nat)) : List Nat := colsAt cs cs.length
def Lot (lab : List Nat) (l : List Nat) : Prop := l.Pairwise (· < ·) ∧ (∀ o ∈ l, o < lab.length) ∧ (l.map (lab.getD · 0)).Nodup
instance (lab l : List Nat) : Decidable (Lot lab l) := by unfold Lot; infer_instance
def Ok (cs : List (List Nat)) : Prop := ∀ (v : Nat) (l : List Nat), cs[v]? = some l → Lot (labAt cs v) l
theorem take_succ_of {α : Type} {l : List α} {v : Nat} {x : α} (h : l[v]? = some x) : l.take (v + 1) = l.take v ++ [x] := by
  rw [List.take_succ, h]
  rfl
theorem colsAt_succ {cs : List (List Nat)} {v : Nat} {l : List Nat} (h : cs[v]? = some l) : colsAt cs (v + 1) = cstep (colsAt cs v) l := by
  unfold colsAt
  rw [take_succ_of h, List.foldl_append]
  rfl
theorem labAt_succ {cs : List (List Nat)} {v : Nat} {l : List Nat} (h : cs[v]? = some l) : labAt cs (v + 1) = lstep (labAt cs v) l := by
  unfold labAt
  rw [take_succ_of h, List.foldl_append]
  rfl
theorem fold_len {f : List Nat → List Nat → List Nat} (hf : ∀ a l, (f a l).length = a.length + 1) : ∀ (ls : List (List Nat)) (a : List Nat), (ls.foldl f a).length = a.length + ls.length
  | [], a => rfl
  | l :: ls, a => by
    rw [List.foldl_cons, fold_len hf ls, hf, List.length_cons]
    omega
theorem cstep_len (a l : List Nat) : (cstep a l).length = a.length + 1 := by simp [cstep]
theorem lstep_len (a l : List Nat) : (lstep a l).length = a.length + 1 := by simp [lstep]
theorem colsAt_len {cs : List (List Nat)} {t : Nat} (h : t ≤ cs.length) : (colsAt cs t).length = t := by
  unfold colsAt
  rw [fold_len cstep_len, List.length_take]
  simp
  omega
theorem labAt_len {cs : List (List Nat)} {t : Nat} (h : t ≤ cs.length) : (labAt cs t).length = t := by
  unfold labAt
  rw [fold_len lstep_len, List.length_take]
  simp
  omega
theorem getD_append_lt {l m : List Nat} {i d : Nat} (h : i < l.length) : (l ++ m).getD i d = l.getD i d := by
  rw [List.getD_eq_getElem?_getD, List.getElem?_append_left h, ← List.getD_eq_getElem?_getD]
theorem colsAt_pre {cs : List (List Nat)} {t o : Nat} (ho : o < t) : ∀ {t' : Nat}, t ≤ t' → t' ≤ cs.length → (colsAt cs t').getD o 0 = (colsAt cs t).getD o 0 := fun {t'} h1 h2 => by
  induction t' with
  | zero => omega
  | succ n ih =>
    rcases Nat.lt_or_ge n t with z | z
    · rw [show t = n + 1 by omega]
    · have hl : cs[n]? = some cs[n] := List.getElem?_eq_getElem (by omega)
      rw [colsAt_succ hl, cstep, getD_append_lt (by rw [colsAt_len (by omega)]; omega), ih z (by omega)]
theorem labAt_old {cs : List (List Nat)} {v w : Nat} {l : List Nat} (h : cs[v]? = some l) (hw : w < v) : (labAt cs (v + 1)).getD w 0 = if (labAt cs v).getD w 0 ∈ l.map ((labAt cs v).getD · 0) then v else (labAt cs v).getD w 0 := by
  have hv : v < cs.length := (List.getElem?_eq_some_iff.mp h).1
  have hl := labAt_len (cs := cs) (t := v) (by omega)
  have hw2 : w < (labAt cs v).length := by omega
  rw [labAt_succ h, lstep, getD_append_lt (by rw [List.length_map]; exact hw2), List.getD_eq_getElem?_getD, List.getElem?_map, List.getElem?_eq_getElem hw2, hl]
  have e : (labAt cs v).getD w 0 = (labAt cs v)[w] := by rw [List.getD_eq_getElem?_getD, List.getElem?_eq_getElem hw2]; rfl
  rw [e]
  rfl
theorem labAt_new {cs : List (List Nat)} {v : Nat} (hv : v < cs.length) : (labAt cs (v + 1)).getD v 0 = v := by
  have h : cs[v]? = some cs[v] := List.getElem?_eq_getElem hv
  have hl := labAt_len (cs := cs) (t := v) (by omega)
  rw [labAt_succ h, lstep, List.getD_eq_getElem?_getD, List.getElem?_append_right (by rw [List.length_map, hl]; omega), List.length_map, hl, Nat.sub_self]
  rfl
theorem good_of {cs : List (List Nat)} (ok : Ok cs) (few : cs.length ≤ 63) : Good cs (ff cs) (fun t w => (labAt cs t).getD w 0) where
  len := colsAt_len (Nat.le_refl _)
  few := few
  lot := fun v l h => by
    have hv : v < cs.length := (List.getElem?_eq_some_iff.mp h).1
    obtain ⟨h1, h2, _⟩ := ok v l h
    rw [labAt_len (by omega)] at h2
    exact ⟨h1, h2⟩
  col := fun v l h => by
    have hv : v < cs.length := (List.getElem?_eq_some_iff.mp h).1
    obtain ⟨h1, h2, _⟩ := ok v l h
    rw [labAt_len (by omega)] at h2
    have e1 : (ff cs).getD v 0 = mex (l.map ((colsAt cs v).getD · 0)) := by
      rw [colsAt_pre (t := v + 1) (by omega) (by omega) (Nat.le_refl _), colsAt_succ h, cstep, List.getD_eq_getElem?_getD, List.getElem?_append_right (by rw [colsAt_len (by omega)]; omega), colsAt_len (by omega), Nat.sub_self]
      rfl
    have e2 : l.map ((ff cs).getD · 0) = l.map ((colsAt cs v).getD · 0) := List.map_congr_left fun o ho => colsAt_pre (h2 o ho) (by omega) (Nat.le_refl _)
    rw [e2, ← e1]
    have hlen : v < (ff cs).length := by rw [colsAt_len (Nat.le_refl _)]; exact hv
    rw [List.getElem?_eq_getElem hlen, List.getD_eq_getElem?_getD, List.getElem?_eq_getElem hlen]
    rfl
  old := fun v l w h hw => labAt_old h hw
  new := fun v hv => labAt_new hv
  apart := fun v l h => (ok v l h).2.2
/-! ### a computed look -/
def okGo : List Nat → List (List Nat) → Bool
  | _, [] => true
  | lab, l :: r => decide (Lot lab l) && okGo (lstep lab l) r
theorem okGo_ok : ∀ {r pre : List (List Nat)}, okGo (labAt pre pre.length) r = true → (∀ v l, pre[v]? = some l → Lot (labAt pre v) l) → Ok (pre ++ r)
  | [], pre, h, hp => by
    rw [List.append_nil]
    exact hp
  | l :: r, pre, h, hp => by
    have h : (decide (Lot (labAt pre pre.length) l) && okGo (lstep (labAt pre pre.length) l) r) = true := h
    rw [Bool.and_eq_true, decide_eq_true_eq] at h
    have hat : ∀ t, t ≤ pre.length → labAt (pre ++ [l]) t = labAt pre t := fun t ht => by
      unfold labAt
      rw [List.take_append_of_le_length ht]
    have hl : (pre ++ [l])[pre.length]? = some l := by
      rw [List.getElem?_append_right (Nat.le_refl _), Nat.sub_self]
      rfl
    have q := okGo_ok (r := r) (pre := pre ++ [l]) (by
      rw [List.length_append, List.length_singleton, labAt_succ hl, hat _ (Nat.le_refl _)]
      exact h.2) fun v m hm => by
        rcases Nat.lt_trichotomy v pre.length with z | z | z
        · rw [List.getElem?_append_left z] at hm
          rw [hat v (by omega)]
          exact hp v m hm
        · subst z
          rw [hl] at hm
          cases hm
          rw [hat _ (Nat.le_refl _)]
          exact h.1
        · rw [List.getElem?_eq_none (by rw [List.length_append, List.length_singleton]; omega)] at hm
          cases hm
    rw [List.append_assoc] at q
    exact q
theorem ok_of_look {cs : List (List Nat)} (h : okGo [] cs = true) : Ok cs := okGo_ok (r := cs) (pre := []) h fun v l e => by simp at e
theorem ok_snoc {cs : List (List Nat)} {l : List Nat} (ok : Ok cs) (h : Lot (labAt cs cs.length) l) : Ok (cs ++ [l]) := okGo_ok (r := [l]) (pre := cs) (by
  show (decide (Lot (labAt cs cs.length) l) && true) = true
  rw [decide_eq_true h]
  rfl) ok
/-! ### the pieces -/
def hit (lot p : List Nat) : Bool := p.any fun x => decide (x ∈ lot)
def pstep (srt : List Nat → List Nat) (ps : List (List Nat)) (at_ : Nat) (lot : List Nat) : List (List Nat) := ps.filter (fun p => !hit lot p) ++ [srt (at_ :: (ps.filter (hit lot)).flatten)]
structure Pc (cs : List (List Nat)) (t : Nat) (ps : List (List Nat)) : Prop where
  mem : ∀ p ∈ ps, p ≠ [] ∧ ∀ w ∈ p, w < t
  one : ∀ p ∈ ps, ∀ x ∈ p, ∀ y ∈ p, (labAt cs t).getD x 0 = (labAt cs t).getD y 0
  two : ps.Pairwise fun p q => ∀ x ∈ p, ∀ y ∈ q, (labAt cs t).getD x 0 ≠ (labAt cs t).getD y 0
  all : ∀ w, w < t → ∃ p ∈ ps, w ∈ p
theorem lab_lt {cs : List (List Nat)} : ∀ {t w : Nat}, t ≤ cs.length → w < t → (labAt cs t).getD w 0 < t
  | t + 1, w, ht, hw => by
    rcases Nat.lt_or_ge w t with z | z
    · have htl : t < cs.length := by omega
      have hc : cs[t]? = some (cs[t]'htl) := List.getElem?_eq_getElem htl
      rw [labAt_old hc z]
      have := lab_lt (cs := cs) (t := t) (w := w) (by omega) z
      split <;> omega
    · rw [show w = t by omega, labAt_new (cs := cs) (v := t) (by omega)]
      omega
theorem pc_nil (cs : List (List Nat)) : Pc cs 0 [] := ⟨fun p h => (List.not_mem_nil h).elim, fun p h => (List.not_mem_nil h).elim, List.Pairwise.nil, fun w h => (Nat.not_lt_zero _ h).elim⟩
theorem pw_unique {α : Type} {R : α → α → Prop} : ∀ {l : List α} {x y : α}, l.Pairwise R → x ∈ l → y ∈ l → x = y ∨ R x y ∨ R y x
  | [], x, y, h, hx, hy => (List.not_mem_nil hx).elim
  | a :: l, x, y, h, hx, hy => by
    obtain ⟨h1, h2⟩ := List.pairwise_cons.mp h
    rcases List.mem_cons.mp hx with ex | hx
    · rcases List.mem_cons.mp hy with ey | hy
      · exact .inl (by rw [ex, ey])
      · exact .inr (.inl (by rw [ex]; exact h1 y hy))
    · rcases List.mem_cons.mp hy with ey | hy
      · exact .inr (.inr (by rw [ey]; exact h1 x hx))
      · exact pw_unique h2 hx hy
theorem pc_step {cs : List (List Nat)} {t : Nat} {ps : List (List Nat)} {lot : List Nat} {srt : List Nat → List Nat} (hs : ∀ l, (srt l).Perm l) (pc : Pc cs t ps) (hl : cs[t]? = some lot) (hlt : ∀ o ∈ lot, o < t) : Pc cs (t + 1) (pstep srt ps t lot) := by
  have ht : t < cs.length := (List.getElem?_eq_some_iff.mp hl).1
  have hhit : ∀ {p : List Nat}, hit lot p = true → ∃ o ∈ p, o ∈ lot := fun {p} h => by
    obtain ⟨o, ho, e⟩ := List.any_eq_true.mp h
    exact ⟨o, ho, of_decide_eq_true e⟩
  -- a piece that is not met keeps its label
  have keep : ∀ p ∈ ps, hit lot p = false → ∀ x ∈ p, (labAt cs (t + 1)).getD x 0 = (labAt cs t).getD x 0 := fun p hp hh x hx => by
    rw [labAt_old hl ((pc.mem p hp).2 x hx), if_neg]
    intro hm
    obtain ⟨o, ho, e⟩ := List.mem_map.mp hm
    obtain ⟨q, hq, hoq⟩ := pc.all o (hlt o ho)
    rcases pw_unique pc.two hp hq with z | z | z
    · subst z
      have : hit lot p = true := List.any_eq_true.mpr ⟨o, hoq, decide_eq_true ho⟩
      rw [hh] at this
      cases this
    · exact z x hx o hoq e.symm
    · exact z o hoq x hx e
  have move : ∀ p ∈ ps, hit lot p = true → ∀ x ∈ p, (labAt cs (t + 1)).getD x 0 = t := fun p hp hh x hx => by
    obtain ⟨o, ho, hol⟩ := hhit hh
    rw [labAt_old hl ((pc.mem p hp).2 x hx), if_pos]
    exact List.mem_map.mpr ⟨o, hol, pc.one p hp o ho x hx⟩
  have inNew : ∀ {x : Nat}, x ∈ srt (t :: (ps.filter (hit lot)).flatten) ↔ x = t ∨ ∃ p ∈ ps, hit lot p = true ∧ x ∈ p := fun {x} => by
    rw [(hs _).mem_iff, List.mem_cons, List.mem_flatten]
    refine or_congr_right ⟨fun ⟨p, hp, hx⟩ => ⟨p, (List.mem_filter.mp hp).1, (List.mem_filter.mp hp).2, hx⟩, fun ⟨p, hp, hh, hx⟩ => ⟨p, List.mem_filter.mpr ⟨hp, hh⟩, hx⟩⟩
  have newLab : ∀ x ∈ srt (t :: (ps.filter (hit lot)).flatten), (labAt cs (t + 1)).getD x 0 = t := fun x hx => by
    rcases inNew.mp hx with e | ⟨p, hp, hh, hx⟩
    · rw [e, labAt_new ht]
    · exact move p hp hh x hx
  have memOld : ∀ p ∈ ps.filter (fun p => !hit lot p), p ∈ ps ∧ hit lot p = false := fun p hp => by
    obtain ⟨h1, h2⟩ := List.mem_filter.mp hp
    exact ⟨h1, by simpa using h2⟩
  unfold pstep
  refine ⟨fun p hp => ?_, fun p hp x hx y hy => ?_, ?_, fun w hw => ?_⟩
  · rcases List.mem_append.mp hp with hp | hp
    · obtain ⟨h1, h2⟩ := memOld p hp
      exact ⟨(pc.mem p h1).1, fun w hw => Nat.lt_succ_of_lt ((pc.mem p h1).2 w hw)⟩
    · rw [List.mem_singleton] at hp
      subst hp
      refine ⟨fun z => ?_, fun w hw => ?_⟩
      · have : t ∈ srt (t :: (ps.filter (hit lot)).flatten) := inNew.mpr (.inl rfl)
        rw [z] at this
        cases this
      · rcases inNew.mp hw with e | ⟨p, hp, _, hw⟩
        · omega
        · exact Nat.lt_succ_of_lt ((pc.mem p hp).2 w hw)
  · rcases List.mem_append.mp hp with hp | hp
    · obtain ⟨h1, h2⟩ := memOld p hp
      rw [keep p h1 h2 x hx, keep p h1 h2 y hy]
      exact pc.one p h1 x hx y hy
    · rw [List.mem_singleton] at hp
      subst hp
      rw [newLab x hx, newLab y hy]
  · rw [List.pairwise_append]
    refine ⟨?_, List.pairwise_singleton _ _, fun p hp q hq x hx y hy => ?_⟩
    · refine (pc.two.sublist List.filter_sublist).imp_of_mem fun {p q} hp hq h x hx y hy => ?_
      obtain ⟨h1, h2⟩ := memOld p hp
      obtain ⟨h3, h4⟩ := memOld q hq
      rw [keep p h1 h2 x hx, keep q h3 h4 y hy]
      exact h x hx y hy
    · obtain ⟨h1, h2⟩ := memOld p hp
      rw [List.mem_singleton] at hq
      subst hq
      rw [keep p h1 h2 x hx, newLab y hy]
      have := lab_lt (cs := cs) (t := t) (w := x) (by omega) ((pc.mem p h1).2 x hx)
      omega
  · rcases Nat.lt_or_ge w t with z | z
    · obtain ⟨p, hp, hw⟩ := pc.all w z
      cases hh : hit lot p with
      | true => exact ⟨_, List.mem_append_right _ (List.mem_singleton.mpr rfl), inNew.mpr (.inr ⟨p, hp, hh, hw⟩)⟩
      | false => exact ⟨p, List.mem_append_left _ (List.mem_filter.mpr ⟨hp, by rw [hh]; rfl⟩), hw⟩
    · exact ⟨_, List.mem_append_right _ (List.mem_singleton.mpr rfl), inNew.mpr (.inl (by omega))⟩
inductive Each : List Nat → List (List Nat) → Prop
  | nil : Each [] []
  | cons {x : Nat} {p : List Nat} {xs : List Nat} {sm : List (List Nat)} : x ∈ p → Each xs sm → Each (x :: xs) (p :: sm)
/-- one of each of some pieces: such a lot is let -/
theorem lot_of_some {cs : List (List Nat)} {ps : List (List Nat)} (pc : Pc cs cs.length ps) {some_ : List (List Nat)} (hsub : List.Sublist some_ ps) {xs : List Nat} (hx : Each xs some_) {l : List Nat} (hp : l.Perm xs) (hs : l.Pairwise (· ≤ ·)) : Lot (labAt cs cs.length) l := by
  have key : ∀ {xs : List Nat} {sm : List (List Nat)}, sm.Pairwise (fun p q => ∀ x ∈ p, ∀ y ∈ q, (labAt cs cs.length).getD x 0 ≠ (labAt cs cs.length).getD y 0) → Each xs sm → (xs.map ((labAt cs cs.length).getD · 0)).Nodup ∧ ∀ x ∈ xs, ∃ p ∈ sm, x ∈ p := by
    intro xs sm hw hx
    induction hx with
    | nil => exact ⟨List.nodup_nil, fun x h => (List.not_mem_nil h).elim⟩
    | cons h t ih =>
      rename_i x p xs sm
      obtain ⟨w1, w2⟩ := List.pairwise_cons.mp hw
      obtain ⟨i1, i2⟩ := ih w2
      refine ⟨?_, fun y hy => ?_⟩
      · rw [List.map_cons, List.nodup_cons]
        refine ⟨fun hm => ?_, i1⟩
        obtain ⟨y, hy, e⟩ := List.mem_map.mp hm
        obtain ⟨q, hq, hyq⟩ := i2 y hy
        exact w1 q hq x h y hyq e.symm
      · rcases List.mem_cons.mp hy with e | hy
        · exact ⟨p, List.mem_cons_self, by rw [e]; exact h⟩
        · obtain ⟨q, hq, hyq⟩ := i2 y hy
          exact ⟨q, List.mem_cons_of_mem _ hq, hyq⟩
  obtain ⟨k1, k2⟩ := key (pc.two.sublist hsub) hx
  have nd : (l.map ((labAt cs cs.length).getD · 0)).Nodup := ((hp.map _).nodup_iff).mpr k1
  have ndl : l.Nodup := (List.pairwise_map.mp nd).imp fun {a b} h e => h (by rw [e])
  refine ⟨?_, fun o ho => ?_, nd⟩
  · refine (hs.and ndl).imp fun {a b} h => ?_
    have := h.1
    have := h.2
    omega
  · obtain ⟨p, hp2, ho2⟩ := k2 o (hp.mem_iff.mp ho)
    rw [labAt_len (Nat.le_refl _)]
    exact (pc.mem p (hsub.subset hp2)).2 o ho2
end FF
end T_FF2
section T_M1
set_option Elab.async false
set_option linter.all false
set_option maxRecDepth 100000
namespace IL
open PySem PySem.Spec L2
open PyProof.Rows hiding St
theorem ev_isiT (us : List U) : gIsi "tuple" [.tup us] = some (.val (.bl true)) := rfl
theorem blsU_map : ∀ bs : List Bool, blsU (bs.map .bl) = some bs
  | [] => rfl
  | b :: bs => by
    show (match blsU (bs.map .bl) with | some bs => some (b :: bs) | none => none) = _
    rw [blsU_map bs]
theorem ev_allB (bs : List Bool) : gAll [.lst (bs.map .bl)] = some (.val (.bl (bs.all id))) := by
  show (match blsU (bs.map .bl) with | some bs => some (R.val (.bl (bs.all id))) | none => none) = _
  rw [blsU_map]
theorem ev_anyB (bs : List Bool) : gAny [.lst (bs.map .bl)] = some (.val (.bl (bs.any id))) := by
  show (match blsU (bs.map .bl) with | some bs => some (R.val (.bl (bs.any id))) | none => none) = _
  rw [blsU_map]
/-- all of them hold -/
theorem ev_allT {α : Type} (l : List α) : gAll [.lst (l.map fun _ => .bl true)] = some (.val (.bl true)) := by
  have h := ev_allB (l.map fun _ => true)
  rw [List.map_map] at h
  have e : ((l.map fun _ => true).all id) = true := by
    rw [List.all_map]
    exact List.all_eq_true.mpr fun _ _ => rfl
  rw [e] at h
  exact h
theorem seqE_slotT (mm : Bool) (I : ES) (a a1 : ASt) (us : List U) (h : I a = .ok (.val (.tup us)) a1) : iSeqE mm I a = .ok us a1 := by
  unfold iSeqE
  rw [h]
  rfl
theorem seqE_lst (mm : Bool) (I : ES) (a a1 : ASt) (us : List U) (h : I a = .ok (.val (.lst us)) a1) : iSeqE mm I a = .ok us a1 := by
  unfold iSeqE
  rw [h]
  rfl
theorem seqE_own (mm : Bool) (I : ES) (a a1 : ASt) (us : List U) (h : I a = .ok (.own us) a1) : iSeqE mm I a = .ok us a1 := by
  unfold iSeqE
  rw [h]
  rfl
theorem seqE_sl (I : ES) (a a1 : ASt) (i : Nat) (us : List U) (h : I a = .ok (.slot i) a1) (hs : a1.sl[i]? = some (.own us)) : iSeqE false I a = .ok us a1 := by
  unfold iSeqE
  rw [h]
  show (match a1.sl[i]? with | some (.own us) => if false = true then Out.ok us (a1.set i (.val (.lst us))) else .ok us a1 | some (.val u) => _ | _ => _) = _
  rw [hs]
  rfl
end IL
namespace K59
open PySem PySem.Spec L2 IL
abbrev uC (cs : List (List Nat)) : U := .tup (cs.map uT)
theorem callF_succ (k i : Nat) : callF (k + 1) i = body (callF k) i := rfl
theorem sp_is_integer (k : Nat) (n : Int) (G : List Ob) : callF (k + 1) 0 [.int n] G = .ret (.val (.bl true)) G := rfl
theorem sp_is_number (k : Nat) (n m : Int) (h : 0 ≤ n) (h2 : n ≤ m) (G : List Ob) : callF (k + 2) 1 [.int n, .int m] G = .ret (.val (.bl true)) G := by
  show runB 2 (B_is_number (callF (k + 1))) _ _ = _
  simp only [ev_enter, ev_runB, ev_runC, ev_bind, ev_bindL, ev_bindLL, ev_bindRL, ev_bindLU, ev_bindRU, ev_bindS, ev_args0, ev_args, ev_C, ev_var, ev_slotV, ev_slotO, ev_keep, ev_settleV, ev_settleO, ev_settleS, ev_settleSO, ev_settleSV, ev_set, ev_op, ev_okV, ev_okO, ev_okS, ev_okSO, ev_okSV, ev_viewV, ev_viewO, ev_viewS, ev_viewSO, ev_viewSV, ev_nowN, ev_nowB, ev_nowI, ev_nowS, ev_nowT, ev_nowL, ev_nowC, ev_nowF, ev_nowA, ev_nowGL, ev_bl, ev_not, ev_and, ev_or, ev_if, ev_ifS, condE_t, condE_f, condS_t, condS_f, ev_seq, seqO_nx, seqO_rt, seqO_bk, seqO_ct, ev_nil, ev_drop, ev_ret, ev_retV, ev_retO, ev_retS, ev_retSO, ev_retSV, ev_fnR, ev_fnN, ev_call, ev_frz0, ev_frzV, ev_frzO, ev_res, ev_tup, ev_lst, ev_iSet, ev_new, ev_newO, ev_par, ev_bindRs0, ev_bindRsV, ev_bindRsO, ev_for, ev_itOf, ev_chain, ev_cmpI, ev_add, ev_sub, Option.map_some, List.map_cons, List.map_nil, List.all_cons, List.all_nil, Bool.and_true, Bool.true_and, Bool.and_self, if_true, ite_true, eq_self, List.length_cons, List.length_nil, List.replicate, List.cons_append, List.nil_append, List.append_nil, List.getElem?_cons_zero, List.getElem?_cons_succ, List.set_cons_zero, List.set_cons_succ, Nat.reduceAdd, Nat.reduceSub, Nat.zero_add, Nat.add_zero, Nat.sub_self, B_is_number, sp_is_integer, h, h2, decide_true]
theorem sp_is_within (k : Nat) (n l m : Int) (h : l ≤ n) (h2 : n ≤ m) (G : List Ob) : callF (k + 2) 2 [.int n, .int l, .int m] G = .ret (.val (.bl true)) G := by
  show runB 3 (B_is_within (callF (k + 1))) _ _ = _
  simp only [ev_enter, ev_runB, ev_runC, ev_bind, ev_bindL, ev_bindLL, ev_bindRL, ev_bindLU, ev_bindRU, ev_bindS, ev_args0, ev_args, ev_C, ev_var, ev_slotV, ev_slotO, ev_keep, ev_settleV, ev_settleO, ev_settleS, ev_settleSO, ev_settleSV, ev_set, ev_op, ev_okV, ev_okO, ev_okS, ev_okSO, ev_okSV, ev_viewV, ev_viewO, ev_viewS, ev_viewSO, ev_viewSV, ev_nowN, ev_nowB, ev_nowI, ev_nowS, ev_nowT, ev_nowL, ev_nowC, ev_nowF, ev_nowA, ev_nowGL, ev_bl, ev_not, ev_and, ev_or, ev_if, ev_ifS, condE_t, condE_f, condS_t, condS_f, ev_seq, seqO_nx, seqO_rt, seqO_bk, seqO_ct, ev_nil, ev_drop, ev_ret, ev_retV, ev_retO, ev_retS, ev_retSO, ev_retSV, ev_fnR, ev_fnN, ev_call, ev_frz0, ev_frzV, ev_frzO, ev_res, ev_tup, ev_lst, ev_iSet, ev_new, ev_newO, ev_par, ev_bindRs0, ev_bindRsV, ev_bindRsO, ev_for, ev_itOf, ev_chain, ev_cmpI, ev_add, ev_sub, Option.map_some, List.map_cons, List.map_nil, List.all_cons, List.all_nil, Bool.and_true, Bool.true_and, Bool.and_self, if_true, ite_true, eq_self, List.length_cons, List.length_nil, List.replicate, List.cons_append, List.nil_append, List.append_nil, List.getElem?_cons_zero, List.getElem?_cons_succ, List.set_cons_zero, List.set_cons_succ, Nat.reduceAdd, Nat.reduceSub, Nat.zero_add, Nat.add_zero, Nat.sub_self, B_is_within, sp_is_integer, h, h2, decide_true]
theorem sp_are_numbers (k : Nat) (l : List Nat) (m : Int) (h : ∀ n ∈ l, (n : Int) ≤ m) (G : List Ob) : callF (k + 3) 3 [uT l, .int m] G = .ret (.val (.bl true)) G := by
  show runB 3 (B_are_numbers (callF (k + 2))) _ _ = _
  have hc : iComp (.nm 2) [2] (iSeqE false (iVar 0)) (iC (.bl true)) (iCallF (callF (k + 2) 1) [iKeep (iVar 2), iKeep (iVar 1)]) ⟨[.val (uT l), .val (.int m), .non], G⟩ = .ok (.own ((nu l).map fun _ => .bl true)) ⟨[.val (uT l), .val (.int m), .non], G⟩ := by
    refine comp_map (fun _ => .bl true) (seqE_slotT false _ _ _ _ rfl) rfl rfl fun u hu => ?_
    obtain ⟨n, hn, rfl⟩ := List.mem_map.mp hu
    refine ⟨⟨[.val (uT l), .val (.int m), .val (.int n)], G⟩, rfl, ⟨.val (.bl true), ?_, rfl⟩, rfl⟩
    simp only [ev_enter, ev_runB, ev_runC, ev_bind, ev_bindL, ev_bindLL, ev_bindRL, ev_bindLU, ev_bindRU, ev_bindS, ev_args0, ev_args, ev_C, ev_var, ev_slotV, ev_slotO, ev_keep, ev_settleV, ev_settleO, ev_settleS, ev_settleSO, ev_settleSV, ev_set, ev_op, ev_okV, ev_okO, ev_okS, ev_okSO, ev_okSV, ev_viewV, ev_viewO, ev_viewS, ev_viewSO, ev_viewSV, ev_nowN, ev_nowB, ev_nowI, ev_nowS, ev_nowT, ev_nowL, ev_nowC, ev_nowF, ev_nowA, ev_nowGL, ev_bl, ev_not, ev_and, ev_or, ev_if, ev_ifS, condE_t, condE_f, condS_t, condS_f, ev_seq, seqO_nx, seqO_rt, seqO_bk, seqO_ct, ev_nil, ev_drop, ev_ret, ev_retV, ev_retO, ev_retS, ev_retSO, ev_retSV, ev_fnR, ev_fnN, ev_call, ev_frz0, ev_frzV, ev_frzO, ev_res, ev_tup, ev_lst, ev_iSet, ev_new, ev_newO, ev_par, ev_bindRs0, ev_bindRsV, ev_bindRsO, ev_for, ev_itOf, ev_chain, ev_cmpI, ev_add, ev_sub, Option.map_some, List.map_cons, List.map_nil, List.all_cons, List.all_nil, Bool.and_true, Bool.true_and, Bool.and_self, if_true, ite_true, eq_self, List.length_cons, List.length_nil, List.replicate, List.cons_append, List.nil_append, List.append_nil, List.getElem?_cons_zero, List.getElem?_cons_succ, List.set_cons_zero, List.set_cons_succ, Nat.reduceAdd, Nat.reduceSub, Nat.zero_add, Nat.add_zero, Nat.sub_self, sp_is_number k n m (Int.natCast_nonneg n) (h n hn)]
  simp only [ev_enter, ev_runB, ev_runC, ev_bind, ev_bindL, ev_bindLL, ev_bindRL, ev_bindLU, ev_bindRU, ev_bindS, ev_args0, ev_args, ev_C, ev_var, ev_slotV, ev_slotO, ev_keep, ev_settleV, ev_settleO, ev_settleS, ev_settleSO, ev_settleSV, ev_set, ev_op, ev_okV, ev_okO, ev_okS, ev_okSO, ev_okSV, ev_viewV, ev_viewO, ev_viewS, ev_viewSO, ev_viewSV, ev_nowN, ev_nowB, ev_nowI, ev_nowS, ev_nowT, ev_nowL, ev_nowC, ev_nowF, ev_nowA, ev_nowGL, ev_bl, ev_not, ev_and, ev_or, ev_if, ev_ifS, condE_t, condE_f, condS_t, condS_f, ev_seq, seqO_nx, seqO_rt, seqO_bk, seqO_ct, ev_nil, ev_drop, ev_ret, ev_retV, ev_retO, ev_retS, ev_retSO, ev_retSV, ev_fnR, ev_fnN, ev_call, ev_frz0, ev_frzV, ev_frzO, ev_res, ev_tup, ev_lst, ev_iSet, ev_new, ev_newO, ev_par, ev_bindRs0, ev_bindRsV, ev_bindRsO, ev_for, ev_itOf, ev_chain, ev_cmpI, ev_add, ev_sub, Option.map_some, List.map_cons, List.map_nil, List.all_cons, List.all_nil, Bool.and_true, Bool.true_and, Bool.and_self, if_true, ite_true, eq_self, List.length_cons, List.length_nil, List.replicate, List.cons_append, List.nil_append, List.append_nil, List.getElem?_cons_zero, List.getElem?_cons_succ, List.set_cons_zero, List.set_cons_succ, Nat.reduceAdd, Nat.reduceSub, Nat.zero_add, Nat.add_zero, Nat.sub_self, B_are_numbers, ev_isiT, hc, ev_allT]
/-- consecutive ones -/
theorem zip_tail : ∀ l : List Nat, l.Pairwise (· < ·) → ∀ p ∈ l.zip (l.drop 1), p.1 < p.2
  | [], _, p, h => by cases h
  | [a], _, p, h => by cases h
  | a :: b :: l, hw, p, h => by
    obtain ⟨h1, h2⟩ := List.pairwise_cons.mp hw
    rcases List.mem_cons.mp (show p ∈ (a, b) :: (b :: l).zip l from h) with e | h
    · rw [e]
      exact h1 b List.mem_cons_self
    · exact zip_tail (b :: l) h2 p h
theorem zipU_nu : ∀ l m : List Nat, zipU (nu l) (nu m) = (l.zip m).map fun p => U.tup [.int (p.1 : Int), .int (p.2 : Int)]
  | [], m => by cases m <;> rfl
  | a :: l, [] => rfl
  | a :: l, b :: m => by
    show U.tup [.int (a : Int), .int (b : Int)] :: zipU (nu l) (nu m) = _
    rw [zipU_nu l m]
    rfl
theorem cutL_drop {α : Type} (us : List α) (k : Nat) : cutL us (some (k : Int)) none = us.drop k := by
  unfold cutL
  rw [HT.sIx_nat, HT.sIx_none]
  rcases Nat.le_total k us.length with h | h
  · rw [Nat.min_eq_left h, List.take_of_length_le (by rw [List.length_drop]; omega)]
  · rw [Nat.min_eq_right h, List.drop_eq_nil_of_le h, List.drop_eq_nil_of_le (Nat.le_refl _)]
    simp
theorem cutL_take {α : Type} (us : List α) (k : Nat) : cutL us none (some (k : Int)) = us.take k := by
  unfold cutL
  rw [HT.sIx_nat, HT.sIx_none, List.drop_zero, Nat.sub_zero]
  rcases Nat.le_total k us.length with h | h
  · rw [Nat.min_eq_left h]
  · rw [Nat.min_eq_right h, List.take_of_length_le (Nat.le_refl _), List.take_of_length_le h]
theorem cut1_T (us : List U) : gCut1 [.tup us, .int 1] = some (.val (.tup (us.drop 1))) := congrArg (fun x => some (R.val (.tup x))) (cutL_drop us 1)
theorem cut2_T (us : List U) (k : Nat) : gCut2 [.tup us, .int k] = some (.val (.tup (us.take k))) := congrArg (fun x => some (R.val (.tup x))) (cutL_take us k)
theorem cut2_L (us : List U) (k : Nat) : gCut2 [.lst us, .int k] = some (.own (us.take k)) := congrArg (fun x => some (R.own x)) (cutL_take us k)
theorem cut2_C (us : List U) (k : Nat) : gCut2 [.scr us, .int k] = some (.own (us.take k)) := congrArg (fun x => some (R.own x)) (cutL_take us k)
theorem nu_drop (l : List Nat) (k : Nat) : (nu l).drop k = nu (l.drop k) := (List.map_drop ..).symm
theorem nu_take (l : List Nat) (k : Nat) : (nu l).take k = nu (l.take k) := (List.map_take ..).symm
theorem sp_is_lot (k : Nat) (l : List Nat) (m : Nat) (hs : l.Pairwise (· < ·)) (h : ∀ n ∈ l, n < m) (hl : l.length ≤ 1000) (G : List Ob) : callF (k + 4) 4 [uT l, .int m] G = .ret (.val (.bl true)) G := by
  show runB 4 (B_is_lot (callF (k + 3))) _ _ = _
  have h1 := sp_are_numbers k l ((m : Int) - 1) (fun n hn => by have := h n hn; omega) G
  have hz : l.length ≤ sizeLine := Nat.le_trans hl (by decide)
  have hc : iComp (.tp [.nm 2, .nm 3]) [2, 3] (itW false gZip [iVar 0, iOp gCut1 [iVar 0, iC (.int 1)]]) (iC (.bl true)) (iOp (gCmpI fun i j => decide (i < j)) [iVar 2, iVar 3]) ⟨[.val (uT l), .val (.int m), .non, .non], G⟩ = .ok (.own (((l.zip (l.drop 1)).map fun p => U.tup [.int (p.1 : Int), .int (p.2 : Int)]).map fun _ => .bl true)) ⟨[.val (uT l), .val (.int m), .non, .non], G⟩ := by
    refine comp_map (fun _ => .bl true) ?_ rfl rfl fun u hu => ?_
    · unfold itW
      simp only [ev_enter, ev_runB, ev_runC, ev_bind, ev_bindL, ev_bindLL, ev_bindRL, ev_bindLU, ev_bindRU, ev_bindS, ev_args0, ev_args, ev_C, ev_var, ev_slotV, ev_slotO, ev_keep, ev_settleV, ev_settleO, ev_settleS, ev_settleSO, ev_settleSV, ev_set, ev_op, ev_okV, ev_okO, ev_okS, ev_okSO, ev_okSV, ev_viewV, ev_viewO, ev_viewS, ev_viewSO, ev_viewSV, ev_nowN, ev_nowB, ev_nowI, ev_nowS, ev_nowT, ev_nowL, ev_nowC, ev_nowF, ev_nowA, ev_nowGL, ev_bl, ev_not, ev_and, ev_or, ev_if, ev_ifS, condE_t, condE_f, condS_t, condS_f, ev_seq, seqO_nx, seqO_rt, seqO_bk, seqO_ct, ev_nil, ev_drop, ev_ret, ev_retV, ev_retO, ev_retS, ev_retSO, ev_retSV, ev_fnR, ev_fnN, ev_call, ev_frz0, ev_frzV, ev_frzO, ev_res, ev_tup, ev_lst, ev_iSet, ev_new, ev_newO, ev_par, ev_bindRs0, ev_bindRsV, ev_bindRsO, ev_for, ev_itOf, ev_chain, ev_cmpI, ev_add, ev_sub, Option.map_some, List.map_cons, List.map_nil, List.all_cons, List.all_nil, Bool.and_true, Bool.true_and, Bool.and_self, if_true, ite_true, eq_self, List.length_cons, List.length_nil, List.replicate, List.cons_append, List.nil_append, List.append_nil, List.getElem?_cons_zero, List.getElem?_cons_succ, List.set_cons_zero, List.set_cons_succ, Nat.reduceAdd, Nat.reduceSub, Nat.zero_add, Nat.add_zero, Nat.sub_self, cut1_T, nu_drop, ev_bindLU, walkL, R.walk, U.seq, R.isT, U.isT, gZip, ints_length, hz, true_and, zipU_nu]
    · obtain ⟨p, hp, rfl⟩ := List.mem_map.mp hu
      have hlt : (p.1 : Int) < (p.2 : Int) := Int.ofNat_lt.mpr (zip_tail l hs p hp)
      refine ⟨⟨[.val (uT l), .val (.int m), .val (.int p.1), .val (.int p.2)], G⟩, rfl, ⟨.val (.bl true), ?_, rfl⟩, rfl⟩
      simp only [ev_enter, ev_runB, ev_runC, ev_bind, ev_bindL, ev_bindLL, ev_bindRL, ev_bindLU, ev_bindRU, ev_bindS, ev_args0, ev_args, ev_C, ev_var, ev_slotV, ev_slotO, ev_keep, ev_settleV, ev_settleO, ev_settleS, ev_settleSO, ev_settleSV, ev_set, ev_op, ev_okV, ev_okO, ev_okS, ev_okSO, ev_okSV, ev_viewV, ev_viewO, ev_viewS, ev_viewSO, ev_viewSV, ev_nowN, ev_nowB, ev_nowI, ev_nowS, ev_nowT, ev_nowL, ev_nowC, ev_nowF, ev_nowA, ev_nowGL, ev_bl, ev_not, ev_and, ev_or, ev_if, ev_ifS, condE_t, condE_f, condS_t, condS_f, ev_seq, seqO_nx, seqO_rt, seqO_bk, seqO_ct, ev_nil, ev_drop, ev_ret, ev_retV, ev_retO, ev_retS, ev_retSO, ev_retSV, ev_fnR, ev_fnN, ev_call, ev_frz0, ev_frzV, ev_frzO, ev_res, ev_tup, ev_lst, ev_iSet, ev_new, ev_newO, ev_par, ev_bindRs0, ev_bindRsV, ev_bindRsO, ev_for, ev_itOf, ev_chain, ev_cmpI, ev_add, ev_sub, Option.map_some, List.map_cons, List.map_nil, List.all_cons, List.all_nil, Bool.and_true, Bool.true_and, Bool.and_self, if_true, ite_true, eq_self, List.length_cons, List.length_nil, List.replicate, List.cons_append, List.nil_append, List.append_nil, List.getElem?_cons_zero, List.getElem?_cons_succ, List.set_cons_zero, List.set_cons_succ, Nat.reduceAdd, Nat.reduceSub, Nat.zero_add, Nat.add_zero, Nat.sub_self, hlt, decide_true]
  simp only [ev_enter, ev_runB, ev_runC, ev_bind, ev_bindL, ev_bindLL, ev_bindRL, ev_bindLU, ev_bindRU, ev_bindS, ev_args0, ev_args, ev_C, ev_var, ev_slotV, ev_slotO, ev_keep, ev_settleV, ev_settleO, ev_settleS, ev_settleSO, ev_settleSV, ev_set, ev_op, ev_okV, ev_okO, ev_okS, ev_okSO, ev_okSV, ev_viewV, ev_viewO, ev_viewS, ev_viewSO, ev_viewSV, ev_nowN, ev_nowB, ev_nowI, ev_nowS, ev_nowT, ev_nowL, ev_nowC, ev_nowF, ev_nowA, ev_nowGL, ev_bl, ev_not, ev_and, ev_or, ev_if, ev_ifS, condE_t, condE_f, condS_t, condS_f, ev_seq, seqO_nx, seqO_rt, seqO_bk, seqO_ct, ev_nil, ev_drop, ev_ret, ev_retV, ev_retO, ev_retS, ev_retSO, ev_retSV, ev_fnR, ev_fnN, ev_call, ev_frz0, ev_frzV, ev_frzO, ev_res, ev_tup, ev_lst, ev_iSet, ev_new, ev_newO, ev_par, ev_bindRs0, ev_bindRsV, ev_bindRsO, ev_for, ev_itOf, ev_chain, ev_cmpI, ev_add, ev_sub, Option.map_some, List.map_cons, List.map_nil, List.all_cons, List.all_nil, Bool.and_true, Bool.true_and, Bool.and_self, if_true, ite_true, eq_self, List.length_cons, List.length_nil, List.replicate, List.cons_append, List.nil_append, List.append_nil, List.getElem?_cons_zero, List.getElem?_cons_succ, List.set_cons_zero, List.set_cons_succ, Nat.reduceAdd, Nat.reduceSub, Nat.zero_add, Nat.add_zero, Nat.sub_self, B_is_lot, h1, Bool.not_true, hc, ev_allT]
/-- comings that are let -/
structure Let (cs : List (List Nat)) : Prop where
  ok : FF.Ok cs
  few : cs.length ≤ 63
  some_ : 0 < cs.length
theorem Let.good {cs : List (List Nat)} (h : Let cs) : FF.Good cs (FF.ff cs) (fun t w => (FF.labAt cs t).getD w 0) := FF.good_of h.ok h.few
theorem Let.lotLen {cs : List (List Nat)} (h : Let cs) {v : Nat} {l : List Nat} (hl : cs[v]? = some l) : l.length ≤ 63 := by
  have hv : v < cs.length := (List.getElem?_eq_some_iff.mp hl).1
  obtain ⟨h1, h2⟩ := h.good.lot v l hl
  have nd : l.Nodup := h1.imp fun {a b} z => Nat.ne_of_lt z
  have := List.Nodup.length_le_of_subset nd (fun o ho => List.mem_range.mpr (h2 o ho) : l ⊆ List.range v)
  rw [List.length_range] at this
  have := h.few
  omega
theorem enumU_get (us : List U) (k i : Nat) (u : U) (h : (enumU k us)[i]? = some u) : ∃ w, us[i]? = some w ∧ u = .tup [.int ((k + i : Nat) : Int), w] := IL.enumU_get h
theorem mem_enum {us : List U} {u : U} (h : u ∈ enumU 0 us) : ∃ (i : Nat) (w : U), us[i]? = some w ∧ u = .tup [.int (i : Int), w] := by
  obtain ⟨i, hi⟩ := List.mem_iff_getElem?.mp h
  obtain ⟨w, h1, h2⟩ := IL.enumU_get hi
  exact ⟨i, w, h1, by rw [h2, Nat.zero_add]⟩
theorem map_get {α β : Type} {f : α → β} {l : List α} {i : Nat} {y : β} (h : (l.map f)[i]? = some y) : ∃ x, l[i]? = some x ∧ y = f x := by
  rw [List.getElem?_map] at h
  cases e : l[i]? with
  | none => rw [e] at h; cases h
  | some x => rw [e] at h; cases h; exact ⟨x, rfl, rfl⟩
theorem sp_is_comings (k : Nat) (cs : List (List Nat)) (L : Let cs) (G : List Ob) : callF (k + 5) 6 [uC cs] G = .ret (.val (.bl true)) G := by
  show runB 3 (B_is_comings (callF (k + 4))) _ _ = _
  have hz : cs.length ≤ sizeLine := Nat.le_trans L.few (by decide)
  have h1 : (1 : Int) ≤ ((cs.map uT).length : Int) := by rw [List.length_map]; have := L.some_; omega
  have h2 : ((cs.map uT).length : Int) ≤ 63 := by rw [List.length_map]; have := L.few; omega
  have hc : iComp (.tp [.nm 1, .nm 2]) [1, 2] (itW false gEnum [iVar 0]) (iC (.bl true)) (iCallF (callF (k + 4) 4) [iKeep (iVar 2), iKeep (iVar 1)]) ⟨[.val (uC cs), .non, .non], G⟩ = .ok (.own ((enumU 0 (cs.map uT)).map fun _ => .bl true)) ⟨[.val (uC cs), .non, .non], G⟩ := by
    refine comp_map (fun _ => .bl true) ?_ rfl rfl fun u hu => ?_
    · unfold itW
      simp only [ev_enter, ev_runB, ev_runC, ev_bind, ev_bindL, ev_bindLL, ev_bindRL, ev_bindLU, ev_bindRU, ev_bindS, ev_args0, ev_args, ev_C, ev_var, ev_slotV, ev_slotO, ev_keep, ev_settleV, ev_settleO, ev_settleS, ev_settleSO, ev_settleSV, ev_set, ev_op, ev_okV, ev_okO, ev_okS, ev_okSO, ev_okSV, ev_viewV, ev_viewO, ev_viewS, ev_viewSO, ev_viewSV, ev_nowN, ev_nowB, ev_nowI, ev_nowS, ev_nowT, ev_nowL, ev_nowC, ev_nowF, ev_nowA, ev_nowGL, ev_bl, ev_not, ev_and, ev_or, ev_if, ev_ifS, condE_t, condE_f, condS_t, condS_f, ev_seq, seqO_nx, seqO_rt, seqO_bk, seqO_ct, ev_nil, ev_drop, ev_ret, ev_retV, ev_retO, ev_retS, ev_retSO, ev_retSV, ev_fnR, ev_fnN, ev_call, ev_frz0, ev_frzV, ev_frzO, ev_res, ev_tup, ev_lst, ev_iSet, ev_new, ev_newO, ev_par, ev_bindRs0, ev_bindRsV, ev_bindRsO, ev_for, ev_itOf, ev_chain, ev_cmpI, ev_add, ev_sub, Option.map_some, List.map_cons, List.map_nil, List.all_cons, List.all_nil, Bool.and_true, Bool.true_and, Bool.and_self, if_true, ite_true, eq_self, List.length_cons, List.length_nil, List.replicate, List.cons_append, List.nil_append, List.append_nil, List.getElem?_cons_zero, List.getElem?_cons_succ, List.set_cons_zero, List.set_cons_succ, Nat.reduceAdd, Nat.reduceSub, Nat.zero_add, Nat.add_zero, Nat.sub_self, ev_bindLU, walkL, R.walk, U.seq, R.isT, U.isT, gEnum, List.length_map, hz]
    · obtain ⟨i, w, hw, rfl⟩ := mem_enum hu
      obtain ⟨l, hl, rfl⟩ := map_get hw
      obtain ⟨g1, g2⟩ := L.good.lot i l hl
      refine ⟨⟨[.val (uC cs), .val (.int i), .val (uT l)], G⟩, rfl, ⟨.val (.bl true), ?_, rfl⟩, rfl⟩
      simp only [ev_enter, ev_runB, ev_runC, ev_bind, ev_bindL, ev_bindLL, ev_bindRL, ev_bindLU, ev_bindRU, ev_bindS, ev_args0, ev_args, ev_C, ev_var, ev_slotV, ev_slotO, ev_keep, ev_settleV, ev_settleO, ev_settleS, ev_settleSO, ev_settleSV, ev_set, ev_op, ev_okV, ev_okO, ev_okS, ev_okSO, ev_okSV, ev_viewV, ev_viewO, ev_viewS, ev_viewSO, ev_viewSV, ev_nowN, ev_nowB, ev_nowI, ev_nowS, ev_nowT, ev_nowL, ev_nowC, ev_nowF, ev_nowA, ev_nowGL, ev_bl, ev_not, ev_and, ev_or, ev_if, ev_ifS, condE_t, condE_f, condS_t, condS_f, ev_seq, seqO_nx, seqO_rt, seqO_bk, seqO_ct, ev_nil, ev_drop, ev_ret, ev_retV, ev_retO, ev_retS, ev_retSO, ev_retSV, ev_fnR, ev_fnN, ev_call, ev_frz0, ev_frzV, ev_frzO, ev_res, ev_tup, ev_lst, ev_iSet, ev_new, ev_newO, ev_par, ev_bindRs0, ev_bindRsV, ev_bindRsO, ev_for, ev_itOf, ev_chain, ev_cmpI, ev_add, ev_sub, Option.map_some, List.map_cons, List.map_nil, List.all_cons, List.all_nil, Bool.and_true, Bool.true_and, Bool.and_self, if_true, ite_true, eq_self, List.length_cons, List.length_nil, List.replicate, List.cons_append, List.nil_append, List.append_nil, List.getElem?_cons_zero, List.getElem?_cons_succ, List.set_cons_zero, List.set_cons_succ, Nat.reduceAdd, Nat.reduceSub, Nat.zero_add, Nat.add_zero, Nat.sub_self, sp_is_lot k l i g1 g2 (Nat.le_trans (L.lotLen hl) (by decide))]
  simp only [ev_enter, ev_runB, ev_runC, ev_bind, ev_bindL, ev_bindLL, ev_bindRL, ev_bindLU, ev_bindRU, ev_bindS, ev_args0, ev_args, ev_C, ev_var, ev_slotV, ev_slotO, ev_keep, ev_settleV, ev_settleO, ev_settleS, ev_settleSO, ev_settleSV, ev_set, ev_op, ev_okV, ev_okO, ev_okS, ev_okSO, ev_okSV, ev_viewV, ev_viewO, ev_viewS, ev_viewSO, ev_viewSV, ev_nowN, ev_nowB, ev_nowI, ev_nowS, ev_nowT, ev_nowL, ev_nowC, ev_nowF, ev_nowA, ev_nowGL, ev_bl, ev_not, ev_and, ev_or, ev_if, ev_ifS, condE_t, condE_f, condS_t, condS_f, ev_seq, seqO_nx, seqO_rt, seqO_bk, seqO_ct, ev_nil, ev_drop, ev_ret, ev_retV, ev_retO, ev_retS, ev_retSO, ev_retSV, ev_fnR, ev_fnN, ev_call, ev_frz0, ev_frzV, ev_frzO, ev_res, ev_tup, ev_lst, ev_iSet, ev_new, ev_newO, ev_par, ev_bindRs0, ev_bindRsV, ev_bindRsO, ev_for, ev_itOf, ev_chain, ev_cmpI, ev_add, ev_sub, Option.map_some, List.map_cons, List.map_nil, List.all_cons, List.all_nil, Bool.and_true, Bool.true_and, Bool.and_self, if_true, ite_true, eq_self, List.length_cons, List.length_nil, List.replicate, List.cons_append, List.nil_append, List.append_nil, List.getElem?_cons_zero, List.getElem?_cons_succ, List.set_cons_zero, List.set_cons_succ, Nat.reduceAdd, Nat.reduceSub, Nat.zero_add, Nat.add_zero, Nat.sub_self, B_is_comings, ev_isiT, Bool.not_true, ev_lenT, h1, h2, decide_true, hc, ev_allT]
theorem sp_check_comings (k : Nat) (cs : List (List Nat)) (L : Let cs) (G : List Ob) : callF (k + 6) 7 [uC cs] G = .ret (.val .non) G := by
  show runB 1 (B_check_comings (callF (k + 5))) _ _ = _
  simp only [ev_enter, ev_runB, ev_runC, ev_bind, ev_bindL, ev_bindLL, ev_bindRL, ev_bindLU, ev_bindRU, ev_bindS, ev_args0, ev_args, ev_C, ev_var, ev_slotV, ev_slotO, ev_keep, ev_settleV, ev_settleO, ev_settleS, ev_settleSO, ev_settleSV, ev_set, ev_op, ev_okV, ev_okO, ev_okS, ev_okSO, ev_okSV, ev_viewV, ev_viewO, ev_viewS, ev_viewSO, ev_viewSV, ev_nowN, ev_nowB, ev_nowI, ev_nowS, ev_nowT, ev_nowL, ev_nowC, ev_nowF, ev_nowA, ev_nowGL, ev_bl, ev_not, ev_and, ev_or, ev_if, ev_ifS, condE_t, condE_f, condS_t, condS_f, ev_seq, seqO_nx, seqO_rt, seqO_bk, seqO_ct, ev_nil, ev_drop, ev_ret, ev_retV, ev_retO, ev_retS, ev_retSO, ev_retSV, ev_fnR, ev_fnN, ev_call, ev_frz0, ev_frzV, ev_frzO, ev_res, ev_tup, ev_lst, ev_iSet, ev_new, ev_newO, ev_par, ev_bindRs0, ev_bindRsV, ev_bindRsO, ev_for, ev_itOf, ev_chain, ev_cmpI, ev_add, ev_sub, Option.map_some, List.map_cons, List.map_nil, List.all_cons, List.all_nil, Bool.and_true, Bool.true_and, Bool.and_self, if_true, ite_true, eq_self, List.length_cons, List.length_nil, List.replicate, List.cons_append, List.nil_append, List.append_nil, List.getElem?_cons_zero, List.getElem?_cons_succ, List.set_cons_zero, List.set_cons_succ, Nat.reduceAdd, Nat.reduceSub, Nat.zero_add, Nat.add_zero, Nat.sub_self, B_check_comings, sp_is_comings k cs L, Bool.not_true]
/-! ### first fit -/
theorem cols_get {cs : List (List Nat)} {t o : Nat} (ht : t ≤ cs.length) (ho : o < t) : (FF.colsAt cs t)[o]? = some ((FF.colsAt cs t).getD o 0) := by
  have h : o < (FF.colsAt cs t).length := by rw [FF.colsAt_len ht]; exact ho
  rw [List.getElem?_eq_getElem h, List.getD_eq_getElem?_getD, List.getElem?_eq_getElem h]
  rfl
/-- [cols[o] for o in lot] -/
theorem comp_cols {vs : Nat} {it : IT} {a a1 : ASt} {lot cols : List Nat} {j : Nat} (hit : it a = .ok (nu lot) a1) (hpl : ([vs].all fun v => (a1.sl.getD v .non).plain) = true) (hr : (a1.wipe [vs]).rest a1 [vs] = a1) (hw : ∀ u, (((a1.wipe [vs]).set vs (.val u)).wipe [vs]) = a1.wipe [vs])
    (hl : ∀ o ∈ lot, iOp gIx [iVar j, iVar vs] ((a1.wipe [vs]).set vs (.val (.int (o : Nat)))) = .ok (.val (.int ((cols.getD o 0 : Nat) : Int))) ((a1.wipe [vs]).set vs (.val (.int (o : Nat))))) :
    iComp (.nm vs) [vs] it (iC (.bl true)) (iOp gIx [iVar j, iVar vs]) a = .ok (.own (nu (lot.map (cols.getD · 0)))) a1 := by
  have q : iComp (.nm vs) [vs] it (iC (.bl true)) (iOp gIx [iVar j, iVar vs]) a = .ok (.own ((nu lot).map fun u => match u with | .int n => .int ((cols.getD n.toNat 0 : Nat) : Int) | _ => .non)) a1 := by
    refine comp_map _ hit hpl hr fun u hu => ?_
    obtain ⟨o, ho, rfl⟩ := List.mem_map.mp hu
    exact ⟨_, rfl, ⟨_, hl o ho, rfl⟩, hw _⟩
  rw [q]
  congr 2
  unfold nu
  rw [List.map_map, List.map_map]
  rfl
/-- while n in l: n = n + 1 -/
theorem while_mex {I : ES} {B : SS} (st : Nat → ASt) (l : List Nat) (hI : ∀ n, I (st n) = .ok (.val (.bl (decide (n ∈ l)))) (st n)) (hB : ∀ n, B (st n) = .nx (st (n + 1))) (hl : l.length < 999999) : iWhile I B 1000000 (st 0) = .nx (st (FF.mex l)) := by
  refine while_seq st (FF.mex l) (st (FF.mex l)) (fun i hi => ⟨st i, ?_, hB i⟩) ?_ (FF.mex l - 0) 0 1000000 rfl (Nat.zero_le _) ?_
  · rw [hI, decide_eq_true (FF.mex_lt hi)]
  · rw [hI, decide_eq_false (FF.mex_not l)]
  · have := FF.mex_le l
    omega
theorem atI_last {α : Type} (xs : List α) (y : α) : atI (xs ++ [y]) (-1) = some y := by
  unfold atI ixN
  rw [if_neg (by decide), List.length_append, List.length_singleton, if_pos (by omega)]
  show (xs ++ [y])[((-1 : Int) + ((xs.length + 1 : Nat) : Int)).toNat]? = some y
  rw [show ((-1 : Int) + ((xs.length + 1 : Nat) : Int)).toNat = xs.length by omega, List.getElem?_append_right (Nat.le_refl _), Nat.sub_self]
  rfl
theorem add1 (n : Nat) : (n : Int) + 1 = ((n + 1 : Nat) : Int) := rfl
theorem uC_take {cs : List (List Nat)} {p : Nat} {l : List Nat} (h : cs[p]? = some l) : (cs.map uT).take (p + 1) = (cs.take p).map uT ++ [uT l] := by
  rw [← List.map_take, FF.take_succ_of h, List.map_append]
  rfl
theorem ix_cols {cols : List Nat} {o : Nat} (h : o < cols.length) : atI (nu cols) (o : Int) = some (.int ((cols.getD o 0 : Nat) : Int)) := by
  refine atI_ints ?_
  rw [List.getElem?_eq_getElem h, List.getD_eq_getElem?_getD, List.getElem?_eq_getElem h]
  rfl
theorem sp_first_painter (k : Nat) (xs : List U) (l cols : List Nat) (h : ∀ o ∈ l, o < cols.length) (hl : l.length ≤ 1000) (G : List Ob) : callF (k + 1) 13 [.tup (xs ++ [uT l]), uT cols] G = .ret (.val (.int (FF.mex (l.map (cols.getD · 0))))) G := by
  show runB 5 (B_first_painter (callF k)) _ _ = _
  have hc : iComp (.nm 4) [4] (iSeqE false (iOp gIx [iVar 0, iOp gNeg [iC (.int 1)]])) (iC (.bl true)) (iOp gIx [iVar 1, iVar 4]) ⟨[.val (.tup (xs ++ [uT l])), .val (uT cols), .non, .non, .non], G⟩ = .ok (.own (nu (l.map (cols.getD · 0)))) ⟨[.val (.tup (xs ++ [uT l])), .val (uT cols), .non, .non, .non], G⟩ := by
    refine comp_cols (lot := l) (seqE_slotT false _ _ _ _ ?_) rfl rfl (fun u => rfl) fun o ho => ?_
    · simp only [ev_enter, ev_runB, ev_runC, ev_bind, ev_bindL, ev_bindLL, ev_bindRL, ev_bindLU, ev_bindRU, ev_bindS, ev_args0, ev_args, ev_C, ev_var, ev_slotV, ev_slotO, ev_keep, ev_settleV, ev_settleO, ev_settleS, ev_settleSO, ev_settleSV, ev_set, ev_op, ev_okV, ev_okO, ev_okS, ev_okSO, ev_okSV, ev_viewV, ev_viewO, ev_viewS, ev_viewSO, ev_viewSV, ev_nowN, ev_nowB, ev_nowI, ev_nowS, ev_nowT, ev_nowL, ev_nowC, ev_nowF, ev_nowA, ev_nowGL, ev_bl, ev_not, ev_and, ev_or, ev_if, ev_ifS, condE_t, condE_f, condS_t, condS_f, ev_seq, seqO_nx, seqO_rt, seqO_bk, seqO_ct, ev_nil, ev_drop, ev_ret, ev_retV, ev_retO, ev_retS, ev_retSO, ev_retSV, ev_fnR, ev_fnN, ev_call, ev_frz0, ev_frzV, ev_frzO, ev_res, ev_tup, ev_lst, ev_iSet, ev_new, ev_newO, ev_par, ev_bindRs0, ev_bindRsV, ev_bindRsO, ev_for, ev_itOf, ev_chain, ev_cmpI, ev_add, ev_sub, Option.map_some, List.map_cons, List.map_nil, List.all_cons, List.all_nil, Bool.and_true, Bool.true_and, Bool.and_self, if_true, ite_true, eq_self, List.length_cons, List.length_nil, List.replicate, List.cons_append, List.nil_append, List.append_nil, List.getElem?_cons_zero, List.getElem?_cons_succ, List.set_cons_zero, List.set_cons_succ, Nat.reduceAdd, Nat.reduceSub, Nat.zero_add, Nat.add_zero, Nat.sub_self, ev_neg, ev_ixT, atI_last]
    · show iOp gIx [iVar 1, iVar 4] ⟨[.val (.tup (xs ++ [uT l])), .val (uT cols), .non, .non, .val (.int o)], G⟩ = _
      simp only [ev_enter, ev_runB, ev_runC, ev_bind, ev_bindL, ev_bindLL, ev_bindRL, ev_bindLU, ev_bindRU, ev_bindS, ev_args0, ev_args, ev_C, ev_var, ev_slotV, ev_slotO, ev_keep, ev_settleV, ev_settleO, ev_settleS, ev_settleSO, ev_settleSV, ev_set, ev_op, ev_okV, ev_okO, ev_okS, ev_okSO, ev_okSV, ev_viewV, ev_viewO, ev_viewS, ev_viewSO, ev_viewSV, ev_nowN, ev_nowB, ev_nowI, ev_nowS, ev_nowT, ev_nowL, ev_nowC, ev_nowF, ev_nowA, ev_nowGL, ev_bl, ev_not, ev_and, ev_or, ev_if, ev_ifS, condE_t, condE_f, condS_t, condS_f, ev_seq, seqO_nx, seqO_rt, seqO_bk, seqO_ct, ev_nil, ev_drop, ev_ret, ev_retV, ev_retO, ev_retS, ev_retSO, ev_retSV, ev_fnR, ev_fnN, ev_call, ev_frz0, ev_frzV, ev_frzO, ev_res, ev_tup, ev_lst, ev_iSet, ev_new, ev_newO, ev_par, ev_bindRs0, ev_bindRsV, ev_bindRsO, ev_for, ev_itOf, ev_chain, ev_cmpI, ev_add, ev_sub, Option.map_some, List.map_cons, List.map_nil, List.all_cons, List.all_nil, Bool.and_true, Bool.true_and, Bool.and_self, if_true, ite_true, eq_self, List.length_cons, List.length_nil, List.replicate, List.cons_append, List.nil_append, List.append_nil, List.getElem?_cons_zero, List.getElem?_cons_succ, List.set_cons_zero, List.set_cons_succ, Nat.reduceAdd, Nat.reduceSub, Nat.zero_add, Nat.add_zero, Nat.sub_self, ev_ixT, ix_cols (h o ho)]
      rfl
  have hw := while_mex (I := iOp gIn [iVar 3, iVar 2]) (B := iSet 3 (iOp gAdd [iVar 3, iC (.int 1)])) (fun n => ⟨[.val (.tup (xs ++ [uT l])), .val (uT cols), .own (nu (l.map (cols.getD · 0))), .val (.int n), .non], G⟩) (l.map (cols.getD · 0))
    (fun n => by simp only [ev_enter, ev_runB, ev_runC, ev_bind, ev_bindL, ev_bindLL, ev_bindRL, ev_bindLU, ev_bindRU, ev_bindS, ev_args0, ev_args, ev_C, ev_var, ev_slotV, ev_slotO, ev_keep, ev_settleV, ev_settleO, ev_settleS, ev_settleSO, ev_settleSV, ev_set, ev_op, ev_okV, ev_okO, ev_okS, ev_okSO, ev_okSV, ev_viewV, ev_viewO, ev_viewS, ev_viewSO, ev_viewSV, ev_nowN, ev_nowB, ev_nowI, ev_nowS, ev_nowT, ev_nowL, ev_nowC, ev_nowF, ev_nowA, ev_nowGL, ev_bl, ev_not, ev_and, ev_or, ev_if, ev_ifS, condE_t, condE_f, condS_t, condS_f, ev_seq, seqO_nx, seqO_rt, seqO_bk, seqO_ct, ev_nil, ev_drop, ev_ret, ev_retV, ev_retO, ev_retS, ev_retSO, ev_retSV, ev_fnR, ev_fnN, ev_call, ev_frz0, ev_frzV, ev_frzO, ev_res, ev_tup, ev_lst, ev_iSet, ev_new, ev_newO, ev_par, ev_bindRs0, ev_bindRsV, ev_bindRsO, ev_for, ev_itOf, ev_chain, ev_cmpI, ev_add, ev_sub, Option.map_some, List.map_cons, List.map_nil, List.all_cons, List.all_nil, Bool.and_true, Bool.true_and, Bool.and_self, if_true, ite_true, eq_self, List.length_cons, List.length_nil, List.replicate, List.cons_append, List.nil_append, List.append_nil, List.getElem?_cons_zero, List.getElem?_cons_succ, List.set_cons_zero, List.set_cons_succ, Nat.reduceAdd, Nat.reduceSub, Nat.zero_add, Nat.add_zero, Nat.sub_self, ev_inL]) (fun n => by simp only [ev_enter, ev_runB, ev_runC, ev_bind, ev_bindL, ev_bindLL, ev_bindRL, ev_bindLU, ev_bindRU, ev_bindS, ev_args0, ev_args, ev_C, ev_var, ev_slotV, ev_slotO, ev_keep, ev_settleV, ev_settleO, ev_settleS, ev_settleSO, ev_settleSV, ev_set, ev_op, ev_okV, ev_okO, ev_okS, ev_okSO, ev_okSV, ev_viewV, ev_viewO, ev_viewS, ev_viewSO, ev_viewSV, ev_nowN, ev_nowB, ev_nowI, ev_nowS, ev_nowT, ev_nowL, ev_nowC, ev_nowF, ev_nowA, ev_nowGL, ev_bl, ev_not, ev_and, ev_or, ev_if, ev_ifS, condE_t, condE_f, condS_t, condS_f, ev_seq, seqO_nx, seqO_rt, seqO_bk, seqO_ct, ev_nil, ev_drop, ev_ret, ev_retV, ev_retO, ev_retS, ev_retSO, ev_retSV, ev_fnR, ev_fnN, ev_call, ev_frz0, ev_frzV, ev_frzO, ev_res, ev_tup, ev_lst, ev_iSet, ev_new, ev_newO, ev_par, ev_bindRs0, ev_bindRsV, ev_bindRsO, ev_for, ev_itOf, ev_chain, ev_cmpI, ev_add, ev_sub, Option.map_some, List.map_cons, List.map_nil, List.all_cons, List.all_nil, Bool.and_true, Bool.true_and, Bool.and_self, if_true, ite_true, eq_self, List.length_cons, List.length_nil, List.replicate, List.cons_append, List.nil_append, List.append_nil, List.getElem?_cons_zero, List.getElem?_cons_succ, List.set_cons_zero, List.set_cons_succ, Nat.reduceAdd, Nat.reduceSub, Nat.zero_add, Nat.add_zero, Nat.sub_self]; rfl) (by rw [List.length_map]; omega)
  have h0 : ((0 : Nat) : Int) = 0 := rfl
  simp only [h0] at hw
  simp only [ev_enter, ev_runB, ev_runC, ev_bind, ev_bindL, ev_bindLL, ev_bindRL, ev_bindLU, ev_bindRU, ev_bindS, ev_args0, ev_args, ev_C, ev_var, ev_slotV, ev_slotO, ev_keep, ev_settleV, ev_settleO, ev_settleS, ev_settleSO, ev_settleSV, ev_set, ev_op, ev_okV, ev_okO, ev_okS, ev_okSO, ev_okSV, ev_viewV, ev_viewO, ev_viewS, ev_viewSO, ev_viewSV, ev_nowN, ev_nowB, ev_nowI, ev_nowS, ev_nowT, ev_nowL, ev_nowC, ev_nowF, ev_nowA, ev_nowGL, ev_bl, ev_not, ev_and, ev_or, ev_if, ev_ifS, condE_t, condE_f, condS_t, condS_f, ev_seq, seqO_nx, seqO_rt, seqO_bk, seqO_ct, ev_nil, ev_drop, ev_ret, ev_retV, ev_retO, ev_retS, ev_retSO, ev_retSV, ev_fnR, ev_fnN, ev_call, ev_frz0, ev_frzV, ev_frzO, ev_res, ev_tup, ev_lst, ev_iSet, ev_new, ev_newO, ev_par, ev_bindRs0, ev_bindRsV, ev_bindRsO, ev_for, ev_itOf, ev_chain, ev_cmpI, ev_add, ev_sub, Option.map_some, List.map_cons, List.map_nil, List.all_cons, List.all_nil, Bool.and_true, Bool.true_and, Bool.and_self, if_true, ite_true, eq_self, List.length_cons, List.length_nil, List.replicate, List.cons_append, List.nil_append, List.append_nil, List.getElem?_cons_zero, List.getElem?_cons_succ, List.set_cons_zero, List.set_cons_succ, Nat.reduceAdd, Nat.reduceSub, Nat.zero_add, Nat.add_zero, Nat.sub_self, B_first_painter, hc, hw]
theorem sp_is_right (k : Nat) (n : Nat) (l cols : List Nat) (h : ∀ o ∈ l, o < cols.length) (hn : n ≤ 999) (hno : n ∉ l.map (cols.getD · 0)) (G : List Ob) : callF (k + 3) 10 [.int n, uT l, uT cols] G = .ret (.val (.bl true)) G := by
  show runB 4 (B_is_right (callF (k + 2))) _ _ = _
  have hc : iComp (.nm 3) [3] (iSeqE false (iVar 1)) (iC (.bl true)) (iOp gIx [iVar 2, iVar 3]) ⟨[.val (.int n), .val (uT l), .val (uT cols), .non], G⟩ = .ok (.own (nu (l.map (cols.getD · 0)))) ⟨[.val (.int n), .val (uT l), .val (uT cols), .non], G⟩ := by
    refine comp_cols (lot := l) (seqE_slotT false _ _ _ _ ?_) rfl rfl (fun u => rfl) fun o ho => ?_
    · simp only [ev_enter, ev_runB, ev_runC, ev_bind, ev_bindL, ev_bindLL, ev_bindRL, ev_bindLU, ev_bindRU, ev_bindS, ev_args0, ev_args, ev_C, ev_var, ev_slotV, ev_slotO, ev_keep, ev_settleV, ev_settleO, ev_settleS, ev_settleSO, ev_settleSV, ev_set, ev_op, ev_okV, ev_okO, ev_okS, ev_okSO, ev_okSV, ev_viewV, ev_viewO, ev_viewS, ev_viewSO, ev_viewSV, ev_nowN, ev_nowB, ev_nowI, ev_nowS, ev_nowT, ev_nowL, ev_nowC, ev_nowF, ev_nowA, ev_nowGL, ev_bl, ev_not, ev_and, ev_or, ev_if, ev_ifS, condE_t, condE_f, condS_t, condS_f, ev_seq, seqO_nx, seqO_rt, seqO_bk, seqO_ct, ev_nil, ev_drop, ev_ret, ev_retV, ev_retO, ev_retS, ev_retSO, ev_retSV, ev_fnR, ev_fnN, ev_call, ev_frz0, ev_frzV, ev_frzO, ev_res, ev_tup, ev_lst, ev_iSet, ev_new, ev_newO, ev_par, ev_bindRs0, ev_bindRsV, ev_bindRsO, ev_for, ev_itOf, ev_chain, ev_cmpI, ev_add, ev_sub, Option.map_some, List.map_cons, List.map_nil, List.all_cons, List.all_nil, Bool.and_true, Bool.true_and, Bool.and_self, if_true, ite_true, eq_self, List.length_cons, List.length_nil, List.replicate, List.cons_append, List.nil_append, List.append_nil, List.getElem?_cons_zero, List.getElem?_cons_succ, List.set_cons_zero, List.set_cons_succ, Nat.reduceAdd, Nat.reduceSub, Nat.zero_add, Nat.add_zero, Nat.sub_self]
    · show iOp gIx [iVar 2, iVar 3] ⟨[.val (.int n), .val (uT l), .val (uT cols), .val (.int o)], G⟩ = _
      simp only [ev_enter, ev_runB, ev_runC, ev_bind, ev_bindL, ev_bindLL, ev_bindRL, ev_bindLU, ev_bindRU, ev_bindS, ev_args0, ev_args, ev_C, ev_var, ev_slotV, ev_slotO, ev_keep, ev_settleV, ev_settleO, ev_settleS, ev_settleSO, ev_settleSV, ev_set, ev_op, ev_okV, ev_okO, ev_okS, ev_okSO, ev_okSV, ev_viewV, ev_viewO, ev_viewS, ev_viewSO, ev_viewSV, ev_nowN, ev_nowB, ev_nowI, ev_nowS, ev_nowT, ev_nowL, ev_nowC, ev_nowF, ev_nowA, ev_nowGL, ev_bl, ev_not, ev_and, ev_or, ev_if, ev_ifS, condE_t, condE_f, condS_t, condS_f, ev_seq, seqO_nx, seqO_rt, seqO_bk, seqO_ct, ev_nil, ev_drop, ev_ret, ev_retV, ev_retO, ev_retS, ev_retSO, ev_retSV, ev_fnR, ev_fnN, ev_call, ev_frz0, ev_frzV, ev_frzO, ev_res, ev_tup, ev_lst, ev_iSet, ev_new, ev_newO, ev_par, ev_bindRs0, ev_bindRsV, ev_bindRsO, ev_for, ev_itOf, ev_chain, ev_cmpI, ev_add, ev_sub, Option.map_some, List.map_cons, List.map_nil, List.all_cons, List.all_nil, Bool.and_true, Bool.true_and, Bool.and_self, if_true, ite_true, eq_self, List.length_cons, List.length_nil, List.replicate, List.cons_append, List.nil_append, List.append_nil, List.getElem?_cons_zero, List.getElem?_cons_succ, List.set_cons_zero, List.set_cons_succ, Nat.reduceAdd, Nat.reduceSub, Nat.zero_add, Nat.add_zero, Nat.sub_self, ev_ixT, ix_cols (h o ho)]
      rfl
  simp only [ev_enter, ev_runB, ev_runC, ev_bind, ev_bindL, ev_bindLL, ev_bindRL, ev_bindLU, ev_bindRU, ev_bindS, ev_args0, ev_args, ev_C, ev_var, ev_slotV, ev_slotO, ev_keep, ev_settleV, ev_settleO, ev_settleS, ev_settleSO, ev_settleSV, ev_set, ev_op, ev_okV, ev_okO, ev_okS, ev_okSO, ev_okSV, ev_viewV, ev_viewO, ev_viewS, ev_viewSO, ev_viewSV, ev_nowN, ev_nowB, ev_nowI, ev_nowS, ev_nowT, ev_nowL, ev_nowC, ev_nowF, ev_nowA, ev_nowGL, ev_bl, ev_not, ev_and, ev_or, ev_if, ev_ifS, condE_t, condE_f, condS_t, condS_f, ev_seq, seqO_nx, seqO_rt, seqO_bk, seqO_ct, ev_nil, ev_drop, ev_ret, ev_retV, ev_retO, ev_retS, ev_retSO, ev_retSV, ev_fnR, ev_fnN, ev_call, ev_frz0, ev_frzV, ev_frzO, ev_res, ev_tup, ev_lst, ev_iSet, ev_new, ev_newO, ev_par, ev_bindRs0, ev_bindRsV, ev_bindRsO, ev_for, ev_itOf, ev_chain, ev_cmpI, ev_add, ev_sub, Option.map_some, List.map_cons, List.map_nil, List.all_cons, List.all_nil, Bool.and_true, Bool.true_and, Bool.and_self, if_true, ite_true, eq_self, List.length_cons, List.length_nil, List.replicate, List.cons_append, List.nil_append, List.append_nil, List.getElem?_cons_zero, List.getElem?_cons_succ, List.set_cons_zero, List.set_cons_succ, Nat.reduceAdd, Nat.reduceSub, Nat.zero_add, Nat.add_zero, Nat.sub_self, B_is_right, sp_is_number k n 999 (Int.natCast_nonneg n) (by omega), hc, ev_notInL, hno, decide_false, Bool.not_false]
end K59
end T_M1
section T_M2
set_option Elab.async false
set_option linter.all false
set_option maxRecDepth 100000
namespace IL
open PySem PySem.Spec L2
open PyProof.Rows hiding St
def callV (gs : List Str) (Φ : Ph) (Is : List ES) (g : Str) (a : ASt) : Out R := if gs.contains g then (iArgs Is a).bind fun rs a2 => (match frzL rs with
    | some us => (Φ g us a2.G).res a2
    | none => .bad) else .bad
def callVR (gs : List Str) (Φ : Ph) (Is : List ES) : R → ASt → Out R
  | .val (.fn g), a => callV gs Φ Is g a
  | _, _ => .bad
theorem ev_callV (gs : List Str) (Φ : Ph) (Is : List ES) (Io : ES) (a : ASt) : iCallV gs Φ Io Is a = (Io a).bind fun r a1 => callVR gs Φ Is r a1 := by
  unfold iCallV
  congr 1
  funext r a1
  cases r with
  | val u => cases u <;> rfl
  | _ => rfl
theorem ev_callVR (gs : List Str) (Φ : Ph) (Is : List ES) (g : Str) (a : ASt) : callVR gs Φ Is (.val (.fn g)) a = callV gs Φ Is g a := rfl
theorem ev_callV1 (gs : List Str) (Φ : Ph) (Is : List ES) (g : Str) (a : ASt) (h : gs.contains g = true) : callV gs Φ Is g a = (iArgs Is a).bind fun rs a2 => (match frzL rs with
    | some us => (Φ g us a2.G).res a2
    | none => .bad) := if_pos h
theorem ev_addT (us ws : List U) (h : us.length + ws.length ≤ sizeLine) : gAdd [.tup us, .tup ws] = some (.val (.tup (us ++ ws))) := if_pos h
theorem ev_addL (us ws : List U) (h : us.length + ws.length ≤ sizeLine) : gAdd [.lst us, .lst ws] = some (.own (us ++ ws)) := if_pos h
theorem itW_enum (mm : Bool) (I : ES) (a a1 : ASt) (us : List U) (h : I a = .ok (.val (.tup us)) a1) (hz : us.length ≤ sizeLine) : itW mm gEnum [I] a = .ok (enumU 0 us) a1 := by
  unfold itW
  simp only [ev_enter, ev_runB, ev_runC, ev_bind, ev_bindL, ev_bindLL, ev_bindRL, ev_bindLU, ev_bindRU, ev_bindS, ev_args0, ev_args, ev_C, ev_var, ev_slotV, ev_slotO, ev_keep, ev_settleV, ev_settleO, ev_settleS, ev_settleSO, ev_settleSV, ev_set, ev_op, ev_okV, ev_okO, ev_okS, ev_okSO, ev_okSV, ev_viewV, ev_viewO, ev_viewS, ev_viewSO, ev_viewSV, ev_nowN, ev_nowB, ev_nowI, ev_nowS, ev_nowT, ev_nowL, ev_nowC, ev_nowF, ev_nowA, ev_nowGL, ev_bl, ev_not, ev_and, ev_or, ev_if, ev_ifS, condE_t, condE_f, condS_t, condS_f, ev_seq, seqO_nx, seqO_rt, seqO_bk, seqO_ct, ev_nil, ev_drop, ev_ret, ev_retV, ev_retO, ev_retS, ev_retSO, ev_retSV, ev_fnR, ev_fnN, ev_call, ev_frz0, ev_frzV, ev_frzO, ev_res, ev_tup, ev_lst, ev_iSet, ev_new, ev_newO, ev_par, ev_bindRs0, ev_bindRsV, ev_bindRsO, ev_for, ev_itOf, ev_chain, ev_cmpI, ev_add, ev_sub, Option.map_some, List.map_cons, List.map_nil, List.all_cons, List.all_nil, Bool.and_true, Bool.true_and, Bool.and_self, if_true, ite_true, eq_self, List.length_cons, List.length_nil, List.replicate, List.cons_append, List.nil_append, List.append_nil, List.getElem?_cons_zero, List.getElem?_cons_succ, List.set_cons_zero, List.set_cons_succ, Nat.reduceAdd, Nat.reduceSub, Nat.zero_add, Nat.add_zero, Nat.sub_self, h, ev_bindLU, walkL, R.walk, U.seq, R.isT, U.isT, gEnum, hz]
theorem ev_lenSetL (l : List Nat) (h : l.length ≤ 4000) : gLenSet [.lst (nu l)] = some (.val (.int (dedupZ (toZ l)).length)) := by
  show (match intsU (nu l) with | some ns => if ns.length ≤ 4000 then some (R.val (.int (dedupZ ns).length)) else none | none => none) = _
  rw [intsU_ints]
  exact if_pos (by rw [List.length_map]; exact h)
theorem dedupZ_nodup : ∀ {l : List Int}, l.Nodup → dedupZ l = l
  | [], _ => rfl
  | n :: l, h => by
    obtain ⟨h1, h2⟩ := List.nodup_cons.mp h
    unfold dedupZ
    rw [if_neg h1, dedupZ_nodup h2]
theorem toZ_nodup {l : List Nat} (h : l.Nodup) : (toZ l).Nodup := by
  refine List.pairwise_map.mpr (h.imp fun {a b} z e => z (Int.ofNat_inj.mp e))
theorem ev_lenSetN (l : List Nat) (h : l.length ≤ 4000) (hn : l.Nodup) : gLenSet [.lst (nu l)] = some (.val (.int l.length)) := by
  rw [ev_lenSetL l h, dedupZ_nodup (toZ_nodup hn), List.length_map]
end IL
namespace K59
open PySem PySem.Spec L2 IL
theorem gs1 : gsV.contains "first_painter" = true := by decide
theorem phv1 (Φ : Nat → FS) : phv Φ "first_painter" = Φ 13 := rfl
theorem mex_small {cs : List (List Nat)} (L : Let cs) {v : Nat} {l : List Nat} (hl : cs[v]? = some l) : FF.mex (l.map ((FF.colsAt cs v).getD · 0)) ≤ 63 := by
  have := FF.mex_le (l.map ((FF.colsAt cs v).getD · 0))
  rw [List.length_map] at this
  have := L.lotLen hl
  omega
theorem sp_raw_led (k : Nat) (cs : List (List Nat)) (L : Let cs) (G : List Ob) : callF (k + 4) 11 [.fn "first_painter", uC cs] G = .ret (.val (.tup [.str "colours", uT (FF.ff cs)])) G := by
  show runB 6 (B_raw_led (callF (k + 3))) _ _ = _
  have hz : (cs.map uT).length ≤ sizeLine := by rw [List.length_map]; exact Nat.le_trans L.few (by decide)
  obtain ⟨a', h1, h2⟩ := forGo_inv (t := .tp [.nm 3, .nm 4]) (B := (iSq (iSet 5 (iCallV gsV (phv (callF (k + 3))) (iVar 0) [iOp gCut2 [iVar 1, iOp gAdd [iVar 3, iC (.int 1)]], iKeep (iVar 2)]))
    (iSq (iIfS (iNot (iCallF (callF (k + 3) 10) [iKeep (iVar 5), iKeep (iVar 4), iKeep (iVar 2)]))
    (iRet (iTup [iC (.str "wrong"), iKeep (iVar 3), iKeep (iVar 5)]))
    (iNil))
    (iSet 2 (iOp gAdd [iVar 2, iTup [iKeep (iVar 5)]]))))) (fun i a => ∃ s3 s4 s5, a = ⟨[.val (.fn "first_painter"), .val (uC cs), .val (uT (FF.colsAt cs i)), s3, s4, s5], G⟩) (enumU 0 (cs.map uT)) 0 ⟨[.val (.fn "first_painter"), .val (uC cs), .val (uT []), .non, .non, .non], G⟩ ⟨.non, .non, .non, rfl⟩ (by
      rintro j u a hu ⟨s3, s4, s5, rfl⟩
      rw [Nat.zero_add]
      obtain ⟨w, hw, rfl⟩ := IL.enumU_get hu
      obtain ⟨l, hl, rfl⟩ := map_get hw
      have hj : j < cs.length := (List.getElem?_eq_some_iff.mp hl).1
      obtain ⟨g1, g2⟩ := L.good.lot j l hl
      have hlen := FF.colsAt_len (cs := cs) (t := j) (by omega)
      have g3 : ∀ o ∈ l, o < (FF.colsAt cs j).length := fun o ho => by rw [hlen]; exact g2 o ho
      refine ⟨⟨[.val (.fn "first_painter"), .val (uC cs), .val (uT (FF.colsAt cs j)), .val (.int ((0 + j : Nat) : Int)), .val (uT l), s5], G⟩, ⟨[.val (.fn "first_painter"), .val (uC cs), .val (uT (FF.colsAt cs (j + 1))), .val (.int ((0 + j : Nat) : Int)), .val (uT l), .val (.int (FF.mex (l.map ((FF.colsAt cs j).getD · 0)) : Nat))], G⟩, rfl, ?_, ⟨_, _, _, rfl⟩⟩
      rw [Nat.zero_add]
      have hm := mex_small L hl
      have hnew : nu (FF.colsAt cs j) ++ [U.int (FF.mex (l.map ((FF.colsAt cs j).getD · 0)) : Nat)] = nu (FF.colsAt cs (j + 1)) := by
        rw [FF.colsAt_succ hl]
        unfold FF.cstep nu
        rw [List.map_append]
        rfl
      have hsz : (nu (FF.colsAt cs j)).length + [U.int (FF.mex (l.map ((FF.colsAt cs j).getD · 0)) : Nat)].length ≤ sizeLine := by
        rw [ints_length, hlen]
        have := L.few
        have e : sizeLine = 16777216 := rfl
        simp only [List.length_singleton]
        omega
      have hp := sp_first_painter (k + 2) ((cs.take j).map uT) l (FF.colsAt cs j) g3 (Nat.le_trans (L.lotLen hl) (by decide)) G
      have hr := sp_is_right k (FF.mex (l.map ((FF.colsAt cs j).getD · 0))) l (FF.colsAt cs j) g3 (by omega) (FF.mex_not _) G
      simp only [ev_enter, ev_runB, ev_runC, ev_bind, ev_bindL, ev_bindLL, ev_bindRL, ev_bindLU, ev_bindRU, ev_bindS, ev_args0, ev_args, ev_C, ev_var, ev_slotV, ev_slotO, ev_keep, ev_settleV, ev_settleO, ev_settleS, ev_settleSO, ev_settleSV, ev_set, ev_op, ev_okV, ev_okO, ev_okS, ev_okSO, ev_okSV, ev_viewV, ev_viewO, ev_viewS, ev_viewSO, ev_viewSV, ev_nowN, ev_nowB, ev_nowI, ev_nowS, ev_nowT, ev_nowL, ev_nowC, ev_nowF, ev_nowA, ev_nowGL, ev_bl, ev_not, ev_and, ev_or, ev_if, ev_ifS, condE_t, condE_f, condS_t, condS_f, ev_seq, seqO_nx, seqO_rt, seqO_bk, seqO_ct, ev_nil, ev_drop, ev_ret, ev_retV, ev_retO, ev_retS, ev_retSO, ev_retSV, ev_fnR, ev_fnN, ev_call, ev_frz0, ev_frzV, ev_frzO, ev_res, ev_tup, ev_lst, ev_iSet, ev_new, ev_newO, ev_par, ev_bindRs0, ev_bindRsV, ev_bindRsO, ev_for, ev_itOf, ev_chain, ev_cmpI, ev_add, ev_sub, Option.map_some, List.map_cons, List.map_nil, List.all_cons, List.all_nil, Bool.and_true, Bool.true_and, Bool.and_self, if_true, ite_true, eq_self, List.length_cons, List.length_nil, List.replicate, List.cons_append, List.nil_append, List.append_nil, List.getElem?_cons_zero, List.getElem?_cons_succ, List.set_cons_zero, List.set_cons_succ, Nat.reduceAdd, Nat.reduceSub, Nat.zero_add, Nat.add_zero, Nat.sub_self, ev_callV, ev_callVR, ev_callV1 gsV _ _ _ _ gs1, phv1, add1, cut2_T, uC_take hl, hp, hr, Bool.not_true, ev_addT _ _ hsz, hnew])
  obtain ⟨s3, s4, s5, rfl⟩ := h2
  rw [Nat.zero_add, enumU_length, List.length_map] at h1
  have hi : itW true gEnum [iVar 1] ⟨[.val (.fn "first_painter"), .val (uC cs), .val (uT []), .non, .non, .non], G⟩ = .ok (enumU 0 (cs.map uT)) ⟨[.val (.fn "first_painter"), .val (uC cs), .val (uT []), .non, .non, .non], G⟩ := itW_enum true _ _ _ _ rfl hz
  have e0 : U.tup [] = uT [] := rfl
  simp only [ev_enter, ev_runB, ev_runC, ev_bind, ev_bindL, ev_bindLL, ev_bindRL, ev_bindLU, ev_bindRU, ev_bindS, ev_args0, ev_args, ev_C, ev_var, ev_slotV, ev_slotO, ev_keep, ev_settleV, ev_settleO, ev_settleS, ev_settleSO, ev_settleSV, ev_set, ev_op, ev_okV, ev_okO, ev_okS, ev_okSO, ev_okSV, ev_viewV, ev_viewO, ev_viewS, ev_viewSO, ev_viewSV, ev_nowN, ev_nowB, ev_nowI, ev_nowS, ev_nowT, ev_nowL, ev_nowC, ev_nowF, ev_nowA, ev_nowGL, ev_bl, ev_not, ev_and, ev_or, ev_if, ev_ifS, condE_t, condE_f, condS_t, condS_f, ev_seq, seqO_nx, seqO_rt, seqO_bk, seqO_ct, ev_nil, ev_drop, ev_ret, ev_retV, ev_retO, ev_retS, ev_retSO, ev_retSV, ev_fnR, ev_fnN, ev_call, ev_frz0, ev_frzV, ev_frzO, ev_res, ev_tup, ev_lst, ev_iSet, ev_new, ev_newO, ev_par, ev_bindRs0, ev_bindRsV, ev_bindRsO, ev_for, ev_itOf, ev_chain, ev_cmpI, ev_add, ev_sub, Option.map_some, List.map_cons, List.map_nil, List.all_cons, List.all_nil, Bool.and_true, Bool.true_and, Bool.and_self, if_true, ite_true, eq_self, List.length_cons, List.length_nil, List.replicate, List.cons_append, List.nil_append, List.append_nil, List.getElem?_cons_zero, List.getElem?_cons_succ, List.set_cons_zero, List.set_cons_succ, Nat.reduceAdd, Nat.reduceSub, Nat.zero_add, Nat.add_zero, Nat.sub_self, B_raw_led, e0, hi, h1]
theorem sp_led (k : Nat) (cs : List (List Nat)) (L : Let cs) (G : List Ob) : callF (k + 7) 12 [.fn "first_painter", uC cs] G = .ret (.val (.tup [.str "colours", uT (FF.ff cs)])) G := by
  show runB 2 (B_led (callF (k + 6))) _ _ = _
  simp only [ev_enter, ev_runB, ev_runC, ev_bind, ev_bindL, ev_bindLL, ev_bindRL, ev_bindLU, ev_bindRU, ev_bindS, ev_args0, ev_args, ev_C, ev_var, ev_slotV, ev_slotO, ev_keep, ev_settleV, ev_settleO, ev_settleS, ev_settleSO, ev_settleSV, ev_set, ev_op, ev_okV, ev_okO, ev_okS, ev_okSO, ev_okSV, ev_viewV, ev_viewO, ev_viewS, ev_viewSO, ev_viewSV, ev_nowN, ev_nowB, ev_nowI, ev_nowS, ev_nowT, ev_nowL, ev_nowC, ev_nowF, ev_nowA, ev_nowGL, ev_bl, ev_not, ev_and, ev_or, ev_if, ev_ifS, condE_t, condE_f, condS_t, condS_f, ev_seq, seqO_nx, seqO_rt, seqO_bk, seqO_ct, ev_nil, ev_drop, ev_ret, ev_retV, ev_retO, ev_retS, ev_retSO, ev_retSV, ev_fnR, ev_fnN, ev_call, ev_frz0, ev_frzV, ev_frzO, ev_res, ev_tup, ev_lst, ev_iSet, ev_new, ev_newO, ev_par, ev_bindRs0, ev_bindRsV, ev_bindRsO, ev_for, ev_itOf, ev_chain, ev_cmpI, ev_add, ev_sub, Option.map_some, List.map_cons, List.map_nil, List.all_cons, List.all_nil, Bool.and_true, Bool.true_and, Bool.and_self, if_true, ite_true, eq_self, List.length_cons, List.length_nil, List.replicate, List.cons_append, List.nil_append, List.append_nil, List.getElem?_cons_zero, List.getElem?_cons_succ, List.set_cons_zero, List.set_cons_succ, Nat.reduceAdd, Nat.reduceSub, Nat.zero_add, Nat.add_zero, Nat.sub_self, B_led, sp_check_comings k cs L, sp_raw_led (k + 2) cs L]
theorem sp_fitted (k : Nat) (cs : List (List Nat)) (L : Let cs) (G : List Ob) : callF (k + 1) 26 [uC cs] G = .ret (.val (uT (FF.ff cs))) G := by
  show runB 6 (B__law_fitted (callF k)) _ _ = _
  obtain ⟨a', h1, h2⟩ := forGo_inv (t := .nm 2) (B := (iSq (iPar [3, 4] [iComp (.nm 5) [5] (iSeqE false (iVar 2)) (iC (.bl true)) (iOp gIx [iVar 1, iVar 5]), iC (.int 0)])
    (iSq (iWhile (iOp gIn [iVar 4, iVar 3])
    (iSet 4 (iOp gAdd [iVar 4, iC (.int 1)])) 1000000)
    (iDrop (iMut mAppend (iVar 1) [iKeep (iVar 4)]))))) (fun i a => ∃ s2 s3 s4, a = ⟨[.val (uC cs), .own (nu (FF.colsAt cs i)), s2, s3, s4, .non], G⟩) (cs.map uT) 0 ⟨[.val (uC cs), .own (nu []), .non, .non, .non, .non], G⟩ ⟨.non, .non, .non, rfl⟩ (by
      rintro j u a hu ⟨s2, s3, s4, rfl⟩
      rw [Nat.zero_add]
      obtain ⟨l, hl, rfl⟩ := map_get hu
      have hj : j < cs.length := (List.getElem?_eq_some_iff.mp hl).1
      obtain ⟨g1, g2⟩ := L.good.lot j l hl
      have hlen := FF.colsAt_len (cs := cs) (t := j) (by omega)
      have g3 : ∀ o ∈ l, o < (FF.colsAt cs j).length := fun o ho => by rw [hlen]; exact g2 o ho
      refine ⟨⟨[.val (uC cs), .own (nu (FF.colsAt cs j)), .val (uT l), s3, s4, .non], G⟩, ⟨[.val (uC cs), .own (nu (FF.colsAt cs (j + 1))), .val (uT l), .own (nu (l.map ((FF.colsAt cs j).getD · 0))), .val (.int (FF.mex (l.map ((FF.colsAt cs j).getD · 0)) : Nat)), .non], G⟩, rfl, ?_, ⟨_, _, _, rfl⟩⟩
      have hc : iComp (.nm 5) [5] (iSeqE false (iVar 2)) (iC (.bl true)) (iOp gIx [iVar 1, iVar 5]) ⟨[.val (uC cs), .own (nu (FF.colsAt cs j)), .val (uT l), s3, s4, .non], G⟩ = .ok (.own (nu (l.map ((FF.colsAt cs j).getD · 0)))) ⟨[.val (uC cs), .own (nu (FF.colsAt cs j)), .val (uT l), s3, s4, .non], G⟩ := by
        refine comp_cols (lot := l) (seqE_slotT false _ _ _ _ ?_) rfl rfl (fun u => rfl) fun o ho => ?_
        · simp only [ev_enter, ev_runB, ev_runC, ev_bind, ev_bindL, ev_bindLL, ev_bindRL, ev_bindLU, ev_bindRU, ev_bindS, ev_args0, ev_args, ev_C, ev_var, ev_slotV, ev_slotO, ev_keep, ev_settleV, ev_settleO, ev_settleS, ev_settleSO, ev_settleSV, ev_set, ev_op, ev_okV, ev_okO, ev_okS, ev_okSO, ev_okSV, ev_viewV, ev_viewO, ev_viewS, ev_viewSO, ev_viewSV, ev_nowN, ev_nowB, ev_nowI, ev_nowS, ev_nowT, ev_nowL, ev_nowC, ev_nowF, ev_nowA, ev_nowGL, ev_bl, ev_not, ev_and, ev_or, ev_if, ev_ifS, condE_t, condE_f, condS_t, condS_f, ev_seq, seqO_nx, seqO_rt, seqO_bk, seqO_ct, ev_nil, ev_drop, ev_ret, ev_retV, ev_retO, ev_retS, ev_retSO, ev_retSV, ev_fnR, ev_fnN, ev_call, ev_frz0, ev_frzV, ev_frzO, ev_res, ev_tup, ev_lst, ev_iSet, ev_new, ev_newO, ev_par, ev_bindRs0, ev_bindRsV, ev_bindRsO, ev_for, ev_itOf, ev_chain, ev_cmpI, ev_add, ev_sub, Option.map_some, List.map_cons, List.map_nil, List.all_cons, List.all_nil, Bool.and_true, Bool.true_and, Bool.and_self, if_true, ite_true, eq_self, List.length_cons, List.length_nil, List.replicate, List.cons_append, List.nil_append, List.append_nil, List.getElem?_cons_zero, List.getElem?_cons_succ, List.set_cons_zero, List.set_cons_succ, Nat.reduceAdd, Nat.reduceSub, Nat.zero_add, Nat.add_zero, Nat.sub_self]
        · show iOp gIx [iVar 1, iVar 5] ⟨[.val (uC cs), .own (nu (FF.colsAt cs j)), .val (uT l), s3, s4, .val (.int o)], G⟩ = _
          simp only [ev_enter, ev_runB, ev_runC, ev_bind, ev_bindL, ev_bindLL, ev_bindRL, ev_bindLU, ev_bindRU, ev_bindS, ev_args0, ev_args, ev_C, ev_var, ev_slotV, ev_slotO, ev_keep, ev_settleV, ev_settleO, ev_settleS, ev_settleSO, ev_settleSV, ev_set, ev_op, ev_okV, ev_okO, ev_okS, ev_okSO, ev_okSV, ev_viewV, ev_viewO, ev_viewS, ev_viewSO, ev_viewSV, ev_nowN, ev_nowB, ev_nowI, ev_nowS, ev_nowT, ev_nowL, ev_nowC, ev_nowF, ev_nowA, ev_nowGL, ev_bl, ev_not, ev_and, ev_or, ev_if, ev_ifS, condE_t, condE_f, condS_t, condS_f, ev_seq, seqO_nx, seqO_rt, seqO_bk, seqO_ct, ev_nil, ev_drop, ev_ret, ev_retV, ev_retO, ev_retS, ev_retSO, ev_retSV, ev_fnR, ev_fnN, ev_call, ev_frz0, ev_frzV, ev_frzO, ev_res, ev_tup, ev_lst, ev_iSet, ev_new, ev_newO, ev_par, ev_bindRs0, ev_bindRsV, ev_bindRsO, ev_for, ev_itOf, ev_chain, ev_cmpI, ev_add, ev_sub, Option.map_some, List.map_cons, List.map_nil, List.all_cons, List.all_nil, Bool.and_true, Bool.true_and, Bool.and_self, if_true, ite_true, eq_self, List.length_cons, List.length_nil, List.replicate, List.cons_append, List.nil_append, List.append_nil, List.getElem?_cons_zero, List.getElem?_cons_succ, List.set_cons_zero, List.set_cons_succ, Nat.reduceAdd, Nat.reduceSub, Nat.zero_add, Nat.add_zero, Nat.sub_self, ev_ixL, ix_cols (g3 o ho)]
          rfl
      have hw := while_mex (I := iOp gIn [iVar 4, iVar 3]) (B := iSet 4 (iOp gAdd [iVar 4, iC (.int 1)])) (fun n => ⟨[.val (uC cs), .own (nu (FF.colsAt cs j)), .val (uT l), .own (nu (l.map ((FF.colsAt cs j).getD · 0))), .val (.int n), .non], G⟩) (l.map ((FF.colsAt cs j).getD · 0))
        (fun n => by simp only [ev_enter, ev_runB, ev_runC, ev_bind, ev_bindL, ev_bindLL, ev_bindRL, ev_bindLU, ev_bindRU, ev_bindS, ev_args0, ev_args, ev_C, ev_var, ev_slotV, ev_slotO, ev_keep, ev_settleV, ev_settleO, ev_settleS, ev_settleSO, ev_settleSV, ev_set, ev_op, ev_okV, ev_okO, ev_okS, ev_okSO, ev_okSV, ev_viewV, ev_viewO, ev_viewS, ev_viewSO, ev_viewSV, ev_nowN, ev_nowB, ev_nowI, ev_nowS, ev_nowT, ev_nowL, ev_nowC, ev_nowF, ev_nowA, ev_nowGL, ev_bl, ev_not, ev_and, ev_or, ev_if, ev_ifS, condE_t, condE_f, condS_t, condS_f, ev_seq, seqO_nx, seqO_rt, seqO_bk, seqO_ct, ev_nil, ev_drop, ev_ret, ev_retV, ev_retO, ev_retS, ev_retSO, ev_retSV, ev_fnR, ev_fnN, ev_call, ev_frz0, ev_frzV, ev_frzO, ev_res, ev_tup, ev_lst, ev_iSet, ev_new, ev_newO, ev_par, ev_bindRs0, ev_bindRsV, ev_bindRsO, ev_for, ev_itOf, ev_chain, ev_cmpI, ev_add, ev_sub, Option.map_some, List.map_cons, List.map_nil, List.all_cons, List.all_nil, Bool.and_true, Bool.true_and, Bool.and_self, if_true, ite_true, eq_self, List.length_cons, List.length_nil, List.replicate, List.cons_append, List.nil_append, List.append_nil, List.getElem?_cons_zero, List.getElem?_cons_succ, List.set_cons_zero, List.set_cons_succ, Nat.reduceAdd, Nat.reduceSub, Nat.zero_add, Nat.add_zero, Nat.sub_self, ev_inL]) (fun n => by simp only [ev_enter, ev_runB, ev_runC, ev_bind, ev_bindL, ev_bindLL, ev_bindRL, ev_bindLU, ev_bindRU, ev_bindS, ev_args0, ev_args, ev_C, ev_var, ev_slotV, ev_slotO, ev_keep, ev_settleV, ev_settleO, ev_settleS, ev_settleSO, ev_settleSV, ev_set, ev_op, ev_okV, ev_okO, ev_okS, ev_okSO, ev_okSV, ev_viewV, ev_viewO, ev_viewS, ev_viewSO, ev_viewSV, ev_nowN, ev_nowB, ev_nowI, ev_nowS, ev_nowT, ev_nowL, ev_nowC, ev_nowF, ev_nowA, ev_nowGL, ev_bl, ev_not, ev_and, ev_or, ev_if, ev_ifS, condE_t, condE_f, condS_t, condS_f, ev_seq, seqO_nx, seqO_rt, seqO_bk, seqO_ct, ev_nil, ev_drop, ev_ret, ev_retV, ev_retO, ev_retS, ev_retSO, ev_retSV, ev_fnR, ev_fnN, ev_call, ev_frz0, ev_frzV, ev_frzO, ev_res, ev_tup, ev_lst, ev_iSet, ev_new, ev_newO, ev_par, ev_bindRs0, ev_bindRsV, ev_bindRsO, ev_for, ev_itOf, ev_chain, ev_cmpI, ev_add, ev_sub, Option.map_some, List.map_cons, List.map_nil, List.all_cons, List.all_nil, Bool.and_true, Bool.true_and, Bool.and_self, if_true, ite_true, eq_self, List.length_cons, List.length_nil, List.replicate, List.cons_append, List.nil_append, List.append_nil, List.getElem?_cons_zero, List.getElem?_cons_succ, List.set_cons_zero, List.set_cons_succ, Nat.reduceAdd, Nat.reduceSub, Nat.zero_add, Nat.add_zero, Nat.sub_self]; rfl) (by rw [List.length_map]; have := L.lotLen hl; omega)
      have h0 : ((0 : Nat) : Int) = 0 := rfl
      simp only [h0] at hw
      have hnew : nu (FF.colsAt cs j) ++ [U.int (FF.mex (l.map ((FF.colsAt cs j).getD · 0)) : Nat)] = nu (FF.colsAt cs (j + 1)) := by
        rw [FF.colsAt_succ hl]
        unfold FF.cstep nu
        rw [List.map_append]
        rfl
      have hsz : (nu (FF.colsAt cs j)).length < sizeLine := by
        rw [ints_length, hlen]
        have := L.few
        have e : sizeLine = 16777216 := rfl
        omega
      have hmut : iMut mAppend (iVar 1) [iKeep (iVar 4)] ⟨[.val (uC cs), .own (nu (FF.colsAt cs j)), .val (uT l), .own (nu (l.map ((FF.colsAt cs j).getD · 0))), .val (.int (FF.mex (l.map ((FF.colsAt cs j).getD · 0)) : Nat)), .non], G⟩ = .ok (.val .non) ⟨[.val (uC cs), .own (nu (FF.colsAt cs (j + 1))), .val (uT l), .own (nu (l.map ((FF.colsAt cs j).getD · 0))), .val (.int (FF.mex (l.map ((FF.colsAt cs j).getD · 0)) : Nat)), .non], G⟩ := by
        unfold iMut
        simp only [ev_enter, ev_runB, ev_runC, ev_bind, ev_bindL, ev_bindLL, ev_bindRL, ev_bindLU, ev_bindRU, ev_bindS, ev_args0, ev_args, ev_C, ev_var, ev_slotV, ev_slotO, ev_keep, ev_settleV, ev_settleO, ev_settleS, ev_settleSO, ev_settleSV, ev_set, ev_op, ev_okV, ev_okO, ev_okS, ev_okSO, ev_okSV, ev_viewV, ev_viewO, ev_viewS, ev_viewSO, ev_viewSV, ev_nowN, ev_nowB, ev_nowI, ev_nowS, ev_nowT, ev_nowL, ev_nowC, ev_nowF, ev_nowA, ev_nowGL, ev_bl, ev_not, ev_and, ev_or, ev_if, ev_ifS, condE_t, condE_f, condS_t, condS_f, ev_seq, seqO_nx, seqO_rt, seqO_bk, seqO_ct, ev_nil, ev_drop, ev_ret, ev_retV, ev_retO, ev_retS, ev_retSO, ev_retSV, ev_fnR, ev_fnN, ev_call, ev_frz0, ev_frzV, ev_frzO, ev_res, ev_tup, ev_lst, ev_iSet, ev_new, ev_newO, ev_par, ev_bindRs0, ev_bindRsV, ev_bindRsO, ev_for, ev_itOf, ev_chain, ev_cmpI, ev_add, ev_sub, Option.map_some, List.map_cons, List.map_nil, List.all_cons, List.all_nil, Bool.and_true, Bool.true_and, Bool.and_self, if_true, ite_true, eq_self, List.length_cons, List.length_nil, List.replicate, List.cons_append, List.nil_append, List.append_nil, List.getElem?_cons_zero, List.getElem?_cons_succ, List.set_cons_zero, List.set_cons_succ, Nat.reduceAdd, Nat.reduceSub, Nat.zero_add, Nat.add_zero, Nat.sub_self, ev_recvS, ev_recvSO, mAppend, hsz, ev_setS, hnew]
      simp only [ev_enter, ev_runB, ev_runC, ev_bind, ev_bindL, ev_bindLL, ev_bindRL, ev_bindLU, ev_bindRU, ev_bindS, ev_args0, ev_args, ev_C, ev_var, ev_slotV, ev_slotO, ev_keep, ev_settleV, ev_settleO, ev_settleS, ev_settleSO, ev_settleSV, ev_set, ev_op, ev_okV, ev_okO, ev_okS, ev_okSO, ev_okSV, ev_viewV, ev_viewO, ev_viewS, ev_viewSO, ev_viewSV, ev_nowN, ev_nowB, ev_nowI, ev_nowS, ev_nowT, ev_nowL, ev_nowC, ev_nowF, ev_nowA, ev_nowGL, ev_bl, ev_not, ev_and, ev_or, ev_if, ev_ifS, condE_t, condE_f, condS_t, condS_f, ev_seq, seqO_nx, seqO_rt, seqO_bk, seqO_ct, ev_nil, ev_drop, ev_ret, ev_retV, ev_retO, ev_retS, ev_retSO, ev_retSV, ev_fnR, ev_fnN, ev_call, ev_frz0, ev_frzV, ev_frzO, ev_res, ev_tup, ev_lst, ev_iSet, ev_new, ev_newO, ev_par, ev_bindRs0, ev_bindRsV, ev_bindRsO, ev_for, ev_itOf, ev_chain, ev_cmpI, ev_add, ev_sub, Option.map_some, List.map_cons, List.map_nil, List.all_cons, List.all_nil, Bool.and_true, Bool.true_and, Bool.and_self, if_true, ite_true, eq_self, List.length_cons, List.length_nil, List.replicate, List.cons_append, List.nil_append, List.append_nil, List.getElem?_cons_zero, List.getElem?_cons_succ, List.set_cons_zero, List.set_cons_succ, Nat.reduceAdd, Nat.reduceSub, Nat.zero_add, Nat.add_zero, Nat.sub_self, hc, hw, hmut])
  obtain ⟨s2, s3, s4, rfl⟩ := h2
  rw [Nat.zero_add, List.length_map] at h1
  have hi : iSeqE true (iVar 0) ⟨[.val (uC cs), .own (nu []), .non, .non, .non, .non], G⟩ = .ok (cs.map uT) ⟨[.val (uC cs), .own (nu []), .non, .non, .non, .non], G⟩ := seqE_slotT true _ _ _ _ rfl
  have e0 : Sl.own [] = Sl.own (nu []) := rfl
  simp only [ev_enter, ev_runB, ev_runC, ev_bind, ev_bindL, ev_bindLL, ev_bindRL, ev_bindLU, ev_bindRU, ev_bindS, ev_args0, ev_args, ev_C, ev_var, ev_slotV, ev_slotO, ev_keep, ev_settleV, ev_settleO, ev_settleS, ev_settleSO, ev_settleSV, ev_set, ev_op, ev_okV, ev_okO, ev_okS, ev_okSO, ev_okSV, ev_viewV, ev_viewO, ev_viewS, ev_viewSO, ev_viewSV, ev_nowN, ev_nowB, ev_nowI, ev_nowS, ev_nowT, ev_nowL, ev_nowC, ev_nowF, ev_nowA, ev_nowGL, ev_bl, ev_not, ev_and, ev_or, ev_if, ev_ifS, condE_t, condE_f, condS_t, condS_f, ev_seq, seqO_nx, seqO_rt, seqO_bk, seqO_ct, ev_nil, ev_drop, ev_ret, ev_retV, ev_retO, ev_retS, ev_retSO, ev_retSV, ev_fnR, ev_fnN, ev_call, ev_frz0, ev_frzV, ev_frzO, ev_res, ev_tup, ev_lst, ev_iSet, ev_new, ev_newO, ev_par, ev_bindRs0, ev_bindRsV, ev_bindRsO, ev_for, ev_itOf, ev_chain, ev_cmpI, ev_add, ev_sub, Option.map_some, List.map_cons, List.map_nil, List.all_cons, List.all_nil, Bool.and_true, Bool.true_and, Bool.and_self, if_true, ite_true, eq_self, List.length_cons, List.length_nil, List.replicate, List.cons_append, List.nil_append, List.append_nil, List.getElem?_cons_zero, List.getElem?_cons_succ, List.set_cons_zero, List.set_cons_succ, Nat.reduceAdd, Nat.reduceSub, Nat.zero_add, Nat.add_zero, Nat.sub_self, B__law_fitted, e0, hi, h1, ev_tupleL]
end K59
end T_M2
section T_M3
set_option Elab.async false
set_option linter.all false
set_option maxRecDepth 100000
namespace K59
open PySem PySem.Spec L2 IL
theorem sp_raw_is_forest (k : Nat) (cs : List (List Nat)) (L : Let cs) (G : List Ob) : callF (k + 1) 8 [uC cs] G = .ret (.val (.bl true)) G := by
  show runB 7 (B_raw_is_forest (callF k)) _ _ = _
  have hz : (cs.map uT).length ≤ sizeLine := by rw [List.length_map]; exact Nat.le_trans L.few (by decide)
  obtain ⟨a', h1, h2⟩ := forGo_inv (t := .tp [.nm 2, .nm 3]) (B := (iSq (iSet 4 (iComp (.nm 5) [5] (iSeqE false (iVar 3)) (iC (.bl true)) (iOp gIx [iVar 1, iVar 5])))
    (iSq (iIfS (iOp (gCmpI fun i j => decide (i < j)) [iOp gLenSet [iVar 4], iOp gLen [iVar 4]])
    (iRet (iC (.bl false)))
    (iNil))
    (iSet 1 (iOp gAdd [iComp (.nm 6) [6] (iSeqE false (iVar 1)) (iC (.bl true)) (iIf (iOp gIn [iVar 6, iVar 4]) (iVar 2) (iVar 6)), iLst [iKeep (iVar 2)]]))))) (fun i a => ∃ s2 s3 s4, a = ⟨[.val (uC cs), .own (nu (FF.labAt cs i)), s2, s3, s4, .non, .non], G⟩) (enumU 0 (cs.map uT)) 0 ⟨[.val (uC cs), .own (nu []), .non, .non, .non, .non, .non], G⟩ ⟨.non, .non, .non, rfl⟩ (by
      rintro j u a hu ⟨s2, s3, s4, rfl⟩
      rw [Nat.zero_add]
      obtain ⟨w, hw, rfl⟩ := IL.enumU_get hu
      obtain ⟨l, hl, rfl⟩ := map_get hw
      have hj : j < cs.length := (List.getElem?_eq_some_iff.mp hl).1
      obtain ⟨g1, g2⟩ := L.good.lot j l hl
      have hlen := FF.labAt_len (cs := cs) (t := j) (by omega)
      have g3 : ∀ o ∈ l, o < (FF.labAt cs j).length := fun o ho => by rw [hlen]; exact g2 o ho
      have hnd := L.good.apart j l hl
      refine ⟨⟨[.val (uC cs), .own (nu (FF.labAt cs j)), .val (.int ((0 + j : Nat) : Int)), .val (uT l), s4, .non, .non], G⟩, ⟨[.val (uC cs), .own (nu (FF.labAt cs (j + 1))), .val (.int (j : Int)), .val (uT l), .own (nu (l.map ((FF.labAt cs j).getD · 0))), .non, .non], G⟩, rfl, ?_, ⟨_, _, _, rfl⟩⟩
      rw [Nat.zero_add]
      have hc : iComp (.nm 5) [5] (iSeqE false (iVar 3)) (iC (.bl true)) (iOp gIx [iVar 1, iVar 5]) ⟨[.val (uC cs), .own (nu (FF.labAt cs j)), .val (.int (j : Int)), .val (uT l), s4, .non, .non], G⟩ = .ok (.own (nu (l.map ((FF.labAt cs j).getD · 0)))) ⟨[.val (uC cs), .own (nu (FF.labAt cs j)), .val (.int (j : Int)), .val (uT l), s4, .non, .non], G⟩ := by
        refine comp_cols (lot := l) (seqE_slotT false _ _ _ _ ?_) rfl rfl (fun u => rfl) fun o ho => ?_
        · simp only [ev_enter, ev_runB, ev_runC, ev_bind, ev_bindL, ev_bindLL, ev_bindRL, ev_bindLU, ev_bindRU, ev_bindS, ev_args0, ev_args, ev_C, ev_var, ev_slotV, ev_slotO, ev_keep, ev_settleV, ev_settleO, ev_settleS, ev_settleSO, ev_settleSV, ev_set, ev_op, ev_okV, ev_okO, ev_okS, ev_okSO, ev_okSV, ev_viewV, ev_viewO, ev_viewS, ev_viewSO, ev_viewSV, ev_nowN, ev_nowB, ev_nowI, ev_nowS, ev_nowT, ev_nowL, ev_nowC, ev_nowF, ev_nowA, ev_nowGL, ev_bl, ev_not, ev_and, ev_or, ev_if, ev_ifS, condE_t, condE_f, condS_t, condS_f, ev_seq, seqO_nx, seqO_rt, seqO_bk, seqO_ct, ev_nil, ev_drop, ev_ret, ev_retV, ev_retO, ev_retS, ev_retSO, ev_retSV, ev_fnR, ev_fnN, ev_call, ev_frz0, ev_frzV, ev_frzO, ev_res, ev_tup, ev_lst, ev_iSet, ev_new, ev_newO, ev_par, ev_bindRs0, ev_bindRsV, ev_bindRsO, ev_for, ev_itOf, ev_chain, ev_cmpI, ev_add, ev_sub, Option.map_some, List.map_cons, List.map_nil, List.all_cons, List.all_nil, Bool.and_true, Bool.true_and, Bool.and_self, if_true, ite_true, eq_self, List.length_cons, List.length_nil, List.replicate, List.cons_append, List.nil_append, List.append_nil, List.getElem?_cons_zero, List.getElem?_cons_succ, List.set_cons_zero, List.set_cons_succ, Nat.reduceAdd, Nat.reduceSub, Nat.zero_add, Nat.add_zero, Nat.sub_self]
        · show iOp gIx [iVar 1, iVar 5] ⟨[.val (uC cs), .own (nu (FF.labAt cs j)), .val (.int (j : Int)), .val (uT l), s4, .val (.int o), .non], G⟩ = _
          simp only [ev_enter, ev_runB, ev_runC, ev_bind, ev_bindL, ev_bindLL, ev_bindRL, ev_bindLU, ev_bindRU, ev_bindS, ev_args0, ev_args, ev_C, ev_var, ev_slotV, ev_slotO, ev_keep, ev_settleV, ev_settleO, ev_settleS, ev_settleSO, ev_settleSV, ev_set, ev_op, ev_okV, ev_okO, ev_okS, ev_okSO, ev_okSV, ev_viewV, ev_viewO, ev_viewS, ev_viewSO, ev_viewSV, ev_nowN, ev_nowB, ev_nowI, ev_nowS, ev_nowT, ev_nowL, ev_nowC, ev_nowF, ev_nowA, ev_nowGL, ev_bl, ev_not, ev_and, ev_or, ev_if, ev_ifS, condE_t, condE_f, condS_t, condS_f, ev_seq, seqO_nx, seqO_rt, seqO_bk, seqO_ct, ev_nil, ev_drop, ev_ret, ev_retV, ev_retO, ev_retS, ev_retSO, ev_retSV, ev_fnR, ev_fnN, ev_call, ev_frz0, ev_frzV, ev_frzO, ev_res, ev_tup, ev_lst, ev_iSet, ev_new, ev_newO, ev_par, ev_bindRs0, ev_bindRsV, ev_bindRsO, ev_for, ev_itOf, ev_chain, ev_cmpI, ev_add, ev_sub, Option.map_some, List.map_cons, List.map_nil, List.all_cons, List.all_nil, Bool.and_true, Bool.true_and, Bool.and_self, if_true, ite_true, eq_self, List.length_cons, List.length_nil, List.replicate, List.cons_append, List.nil_append, List.append_nil, List.getElem?_cons_zero, List.getElem?_cons_succ, List.set_cons_zero, List.set_cons_succ, Nat.reduceAdd, Nat.reduceSub, Nat.zero_add, Nat.add_zero, Nat.sub_self, ev_ixL, ix_cols (g3 o ho)]
          rfl
      have hd : iComp (.nm 6) [6] (iSeqE false (iVar 1)) (iC (.bl true)) (iIf (iOp gIn [iVar 6, iVar 4]) (iVar 2) (iVar 6)) ⟨[.val (uC cs), .own (nu (FF.labAt cs j)), .val (.int (j : Int)), .val (uT l), .own (nu (l.map ((FF.labAt cs j).getD · 0))), .non, .non], G⟩ = .ok (.own (nu ((FF.labAt cs j).map fun x => if x ∈ l.map ((FF.labAt cs j).getD · 0) then j else x))) ⟨[.val (uC cs), .own (nu (FF.labAt cs j)), .val (.int (j : Int)), .val (uT l), .own (nu (l.map ((FF.labAt cs j).getD · 0))), .non, .non], G⟩ := by
        have q : iComp (.nm 6) [6] (iSeqE false (iVar 1)) (iC (.bl true)) (iIf (iOp gIn [iVar 6, iVar 4]) (iVar 2) (iVar 6)) ⟨[.val (uC cs), .own (nu (FF.labAt cs j)), .val (.int (j : Int)), .val (uT l), .own (nu (l.map ((FF.labAt cs j).getD · 0))), .non, .non], G⟩ = .ok (.own ((nu (FF.labAt cs j)).map fun u => match u with | .int n => .int ((if n.toNat ∈ l.map ((FF.labAt cs j).getD · 0) then j else n.toNat : Nat) : Int) | _ => .non)) ⟨[.val (uC cs), .own (nu (FF.labAt cs j)), .val (.int (j : Int)), .val (uT l), .own (nu (l.map ((FF.labAt cs j).getD · 0))), .non, .non], G⟩ := by
          refine comp_map _ (seqE_sl _ _ _ 1 _ rfl rfl) rfl rfl fun u hu => ?_
          obtain ⟨x, hx, rfl⟩ := List.mem_map.mp hu
          refine ⟨⟨[.val (uC cs), .own (nu (FF.labAt cs j)), .val (.int (j : Int)), .val (uT l), .own (nu (l.map ((FF.labAt cs j).getD · 0))), .non, .val (.int x)], G⟩, rfl, ⟨.val (.int ((if x ∈ l.map ((FF.labAt cs j).getD · 0) then j else x : Nat) : Int)), ?_, rfl⟩, rfl⟩
          by_cases hm : x ∈ l.map ((FF.labAt cs j).getD · 0)
          · simp only [ev_enter, ev_runB, ev_runC, ev_bind, ev_bindL, ev_bindLL, ev_bindRL, ev_bindLU, ev_bindRU, ev_bindS, ev_args0, ev_args, ev_C, ev_var, ev_slotV, ev_slotO, ev_keep, ev_settleV, ev_settleO, ev_settleS, ev_settleSO, ev_settleSV, ev_set, ev_op, ev_okV, ev_okO, ev_okS, ev_okSO, ev_okSV, ev_viewV, ev_viewO, ev_viewS, ev_viewSO, ev_viewSV, ev_nowN, ev_nowB, ev_nowI, ev_nowS, ev_nowT, ev_nowL, ev_nowC, ev_nowF, ev_nowA, ev_nowGL, ev_bl, ev_not, ev_and, ev_or, ev_if, ev_ifS, condE_t, condE_f, condS_t, condS_f, ev_seq, seqO_nx, seqO_rt, seqO_bk, seqO_ct, ev_nil, ev_drop, ev_ret, ev_retV, ev_retO, ev_retS, ev_retSO, ev_retSV, ev_fnR, ev_fnN, ev_call, ev_frz0, ev_frzV, ev_frzO, ev_res, ev_tup, ev_lst, ev_iSet, ev_new, ev_newO, ev_par, ev_bindRs0, ev_bindRsV, ev_bindRsO, ev_for, ev_itOf, ev_chain, ev_cmpI, ev_add, ev_sub, Option.map_some, List.map_cons, List.map_nil, List.all_cons, List.all_nil, Bool.and_true, Bool.true_and, Bool.and_self, if_true, ite_true, eq_self, List.length_cons, List.length_nil, List.replicate, List.cons_append, List.nil_append, List.append_nil, List.getElem?_cons_zero, List.getElem?_cons_succ, List.set_cons_zero, List.set_cons_succ, Nat.reduceAdd, Nat.reduceSub, Nat.zero_add, Nat.add_zero, Nat.sub_self, ev_inL, hm, decide_true]
          · simp only [ev_enter, ev_runB, ev_runC, ev_bind, ev_bindL, ev_bindLL, ev_bindRL, ev_bindLU, ev_bindRU, ev_bindS, ev_args0, ev_args, ev_C, ev_var, ev_slotV, ev_slotO, ev_keep, ev_settleV, ev_settleO, ev_settleS, ev_settleSO, ev_settleSV, ev_set, ev_op, ev_okV, ev_okO, ev_okS, ev_okSO, ev_okSV, ev_viewV, ev_viewO, ev_viewS, ev_viewSO, ev_viewSV, ev_nowN, ev_nowB, ev_nowI, ev_nowS, ev_nowT, ev_nowL, ev_nowC, ev_nowF, ev_nowA, ev_nowGL, ev_bl, ev_not, ev_and, ev_or, ev_if, ev_ifS, condE_t, condE_f, condS_t, condS_f, ev_seq, seqO_nx, seqO_rt, seqO_bk, seqO_ct, ev_nil, ev_drop, ev_ret, ev_retV, ev_retO, ev_retS, ev_retSO, ev_retSV, ev_fnR, ev_fnN, ev_call, ev_frz0, ev_frzV, ev_frzO, ev_res, ev_tup, ev_lst, ev_iSet, ev_new, ev_newO, ev_par, ev_bindRs0, ev_bindRsV, ev_bindRsO, ev_for, ev_itOf, ev_chain, ev_cmpI, ev_add, ev_sub, Option.map_some, List.map_cons, List.map_nil, List.all_cons, List.all_nil, Bool.and_true, Bool.true_and, Bool.and_self, if_true, ite_true, eq_self, List.length_cons, List.length_nil, List.replicate, List.cons_append, List.nil_append, List.append_nil, List.getElem?_cons_zero, List.getElem?_cons_succ, List.set_cons_zero, List.set_cons_succ, Nat.reduceAdd, Nat.reduceSub, Nat.zero_add, Nat.add_zero, Nat.sub_self, ev_inL, hm, decide_false, if_false]
        rw [q]
        congr 2
        unfold nu
        rw [List.map_map, List.map_map]
        rfl
      have hll : (l.map ((FF.labAt cs j).getD · 0)).length ≤ 4000 := by
        rw [List.length_map]
        have := L.lotLen hl
        omega
      have hlt : ¬ (((l.map ((FF.labAt cs j).getD · 0)).length : Nat) : Int) < (((nu (l.map ((FF.labAt cs j).getD · 0))).length : Nat) : Int) := by
        rw [ints_length]
        omega
      have hnew : nu ((FF.labAt cs j).map fun x => if x ∈ l.map ((FF.labAt cs j).getD · 0) then j else x) ++ [U.int (j : Int)] = nu (FF.labAt cs (j + 1)) := by
        rw [FF.labAt_succ hl]
        unfold FF.lstep nu
        rw [List.map_append, hlen]
        rfl
      have hsz : (nu ((FF.labAt cs j).map fun x => if x ∈ l.map ((FF.labAt cs j).getD · 0) then j else x)).length + [U.int (j : Int)].length ≤ sizeLine := by
        rw [ints_length, List.length_map, hlen]
        have := L.few
        have e : sizeLine = 16777216 := rfl
        simp only [List.length_singleton]
        omega
      simp only [ev_enter, ev_runB, ev_runC, ev_bind, ev_bindL, ev_bindLL, ev_bindRL, ev_bindLU, ev_bindRU, ev_bindS, ev_args0, ev_args, ev_C, ev_var, ev_slotV, ev_slotO, ev_keep, ev_settleV, ev_settleO, ev_settleS, ev_settleSO, ev_settleSV, ev_set, ev_op, ev_okV, ev_okO, ev_okS, ev_okSO, ev_okSV, ev_viewV, ev_viewO, ev_viewS, ev_viewSO, ev_viewSV, ev_nowN, ev_nowB, ev_nowI, ev_nowS, ev_nowT, ev_nowL, ev_nowC, ev_nowF, ev_nowA, ev_nowGL, ev_bl, ev_not, ev_and, ev_or, ev_if, ev_ifS, condE_t, condE_f, condS_t, condS_f, ev_seq, seqO_nx, seqO_rt, seqO_bk, seqO_ct, ev_nil, ev_drop, ev_ret, ev_retV, ev_retO, ev_retS, ev_retSO, ev_retSV, ev_fnR, ev_fnN, ev_call, ev_frz0, ev_frzV, ev_frzO, ev_res, ev_tup, ev_lst, ev_iSet, ev_new, ev_newO, ev_par, ev_bindRs0, ev_bindRsV, ev_bindRsO, ev_for, ev_itOf, ev_chain, ev_cmpI, ev_add, ev_sub, Option.map_some, List.map_cons, List.map_nil, List.all_cons, List.all_nil, Bool.and_true, Bool.true_and, Bool.and_self, if_true, ite_true, eq_self, List.length_cons, List.length_nil, List.replicate, List.cons_append, List.nil_append, List.append_nil, List.getElem?_cons_zero, List.getElem?_cons_succ, List.set_cons_zero, List.set_cons_succ, Nat.reduceAdd, Nat.reduceSub, Nat.zero_add, Nat.add_zero, Nat.sub_self, hc, ev_lenSetN _ hll hnd, ev_lenL, hlt, decide_false, hd, ev_addL _ _ hsz, hnew])
  obtain ⟨s2, s3, s4, rfl⟩ := h2
  rw [Nat.zero_add, enumU_length, List.length_map] at h1
  have hi : itW true gEnum [iVar 0] ⟨[.val (uC cs), .own (nu []), .non, .non, .non, .non, .non], G⟩ = .ok (enumU 0 (cs.map uT)) ⟨[.val (uC cs), .own (nu []), .non, .non, .non, .non, .non], G⟩ := itW_enum true _ _ _ _ rfl hz
  have e0 : Sl.own [] = Sl.own (nu []) := rfl
  simp only [ev_enter, ev_runB, ev_runC, ev_bind, ev_bindL, ev_bindLL, ev_bindRL, ev_bindLU, ev_bindRU, ev_bindS, ev_args0, ev_args, ev_C, ev_var, ev_slotV, ev_slotO, ev_keep, ev_settleV, ev_settleO, ev_settleS, ev_settleSO, ev_settleSV, ev_set, ev_op, ev_okV, ev_okO, ev_okS, ev_okSO, ev_okSV, ev_viewV, ev_viewO, ev_viewS, ev_viewSO, ev_viewSV, ev_nowN, ev_nowB, ev_nowI, ev_nowS, ev_nowT, ev_nowL, ev_nowC, ev_nowF, ev_nowA, ev_nowGL, ev_bl, ev_not, ev_and, ev_or, ev_if, ev_ifS, condE_t, condE_f, condS_t, condS_f, ev_seq, seqO_nx, seqO_rt, seqO_bk, seqO_ct, ev_nil, ev_drop, ev_ret, ev_retV, ev_retO, ev_retS, ev_retSO, ev_retSV, ev_fnR, ev_fnN, ev_call, ev_frz0, ev_frzV, ev_frzO, ev_res, ev_tup, ev_lst, ev_iSet, ev_new, ev_newO, ev_par, ev_bindRs0, ev_bindRsV, ev_bindRsO, ev_for, ev_itOf, ev_chain, ev_cmpI, ev_add, ev_sub, Option.map_some, List.map_cons, List.map_nil, List.all_cons, List.all_nil, Bool.and_true, Bool.true_and, Bool.and_self, if_true, ite_true, eq_self, List.length_cons, List.length_nil, List.replicate, List.cons_append, List.nil_append, List.append_nil, List.getElem?_cons_zero, List.getElem?_cons_succ, List.set_cons_zero, List.set_cons_succ, Nat.reduceAdd, Nat.reduceSub, Nat.zero_add, Nat.add_zero, Nat.sub_self, B_raw_is_forest, e0, hi, h1]
theorem sp_is_forest (k : Nat) (cs : List (List Nat)) (L : Let cs) (G : List Ob) : callF (k + 7) 9 [uC cs] G = .ret (.val (.bl true)) G := by
  show runB 1 (B_is_forest (callF (k + 6))) _ _ = _
  simp only [ev_enter, ev_runB, ev_runC, ev_bind, ev_bindL, ev_bindLL, ev_bindRL, ev_bindLU, ev_bindRU, ev_bindS, ev_args0, ev_args, ev_C, ev_var, ev_slotV, ev_slotO, ev_keep, ev_settleV, ev_settleO, ev_settleS, ev_settleSO, ev_settleSV, ev_set, ev_op, ev_okV, ev_okO, ev_okS, ev_okSO, ev_okSV, ev_viewV, ev_viewO, ev_viewS, ev_viewSO, ev_viewSV, ev_nowN, ev_nowB, ev_nowI, ev_nowS, ev_nowT, ev_nowL, ev_nowC, ev_nowF, ev_nowA, ev_nowGL, ev_bl, ev_not, ev_and, ev_or, ev_if, ev_ifS, condE_t, condE_f, condS_t, condS_f, ev_seq, seqO_nx, seqO_rt, seqO_bk, seqO_ct, ev_nil, ev_drop, ev_ret, ev_retV, ev_retO, ev_retS, ev_retSO, ev_retSV, ev_fnR, ev_fnN, ev_call, ev_frz0, ev_frzV, ev_frzO, ev_res, ev_tup, ev_lst, ev_iSet, ev_new, ev_newO, ev_par, ev_bindRs0, ev_bindRsV, ev_bindRsO, ev_for, ev_itOf, ev_chain, ev_cmpI, ev_add, ev_sub, Option.map_some, List.map_cons, List.map_nil, List.all_cons, List.all_nil, Bool.and_true, Bool.true_and, Bool.and_self, if_true, ite_true, eq_self, List.length_cons, List.length_nil, List.replicate, List.cons_append, List.nil_append, List.append_nil, List.getElem?_cons_zero, List.getElem?_cons_succ, List.set_cons_zero, List.set_cons_succ, Nat.reduceAdd, Nat.reduceSub, Nat.zero_add, Nat.add_zero, Nat.sub_self, B_is_forest, sp_check_comings k cs L, sp_raw_is_forest (k + 5) cs L]
/-! ### how many figures -/
def figs (n : Nat) : Nat := if n = 0 then 0 else n.log2 + 1
theorem figs_zero (n : Nat) : n / 2 ^ figs n = 0 := by
  unfold figs
  split
  · rename_i h
    rw [h]
  · rename_i h
    exact Nat.div_eq_of_lt ((Nat.log2_lt h).mp (Nat.lt_succ_self _))
theorem figs_pos {n i : Nat} (h : i < figs n) : 0 < n / 2 ^ i := by
  unfold figs at h
  split at h
  · omega
  · rename_i hn
    have h1 : 2 ^ i ≤ 2 ^ n.log2 := Nat.pow_le_pow_right (by decide) (by omega)
    have h2 := Nat.log2_self_le hn
    exact Nat.div_pos (Nat.le_trans h1 h2) (Nat.two_pow_pos i)
theorem lt_figs {n c : Nat} (h : 2 ^ c ≤ n) : c < figs n := by
  rcases Nat.lt_or_ge c (figs n) with z | z
  · exact z
  · have h1 := figs_zero n
    have h2 : 2 ^ figs n ≤ 2 ^ c := Nat.pow_le_pow_right (by decide) z
    have h3 : 0 < n / 2 ^ figs n := Nat.div_pos (Nat.le_trans h2 h) (Nat.two_pow_pos _)
    omega
theorem figs_le (n : Nat) (h : n < 2 ^ 100) : figs n ≤ 100 := by
  unfold figs
  split
  · omega
  · rename_i hn
    have := (Nat.log2_lt hn).mpr h
    omega
theorem sp_figures (k : Nat) (n : Nat) (h : n < 2 ^ 100) (G : List Ob) : callF (k + 1) 27 [.int n] G = .ret (.val (.int (figs n))) G := by
  show runB 2 (B__law_figures (callF k)) _ _ = _
  have d2 : (0 : Int) < 2 ∧ (2 : Int).natAbs.log2 < 9000 := by decide
  have hw := while_seq (I := iOp (gCmpI fun i j => decide (j < i)) [iVar 0, iC (.int 0)]) (B := iPar [0, 1] [iOp gDiv [iVar 0, iC (.int 2)], iOp gAdd [iVar 1, iC (.int 1)]]) (fun i => ⟨[.val (.int ((n / 2 ^ i : Nat) : Int)), .val (.int (i : Int))], G⟩) (figs n) ⟨[.val (.int ((n / 2 ^ figs n : Nat) : Int)), .val (.int (figs n : Int))], G⟩
    (fun i hi => ⟨⟨[.val (.int ((n / 2 ^ i : Nat) : Int)), .val (.int (i : Int))], G⟩, by
      have hp : (0 : Int) < ((n / 2 ^ i : Nat) : Int) := by have := figs_pos hi; omega
      simp only [ev_enter, ev_runB, ev_runC, ev_bind, ev_bindL, ev_bindLL, ev_bindRL, ev_bindLU, ev_bindRU, ev_bindS, ev_args0, ev_args, ev_C, ev_var, ev_slotV, ev_slotO, ev_keep, ev_settleV, ev_settleO, ev_settleS, ev_settleSO, ev_settleSV, ev_set, ev_op, ev_okV, ev_okO, ev_okS, ev_okSO, ev_okSV, ev_viewV, ev_viewO, ev_viewS, ev_viewSO, ev_viewSV, ev_nowN, ev_nowB, ev_nowI, ev_nowS, ev_nowT, ev_nowL, ev_nowC, ev_nowF, ev_nowA, ev_nowGL, ev_bl, ev_not, ev_and, ev_or, ev_if, ev_ifS, condE_t, condE_f, condS_t, condS_f, ev_seq, seqO_nx, seqO_rt, seqO_bk, seqO_ct, ev_nil, ev_drop, ev_ret, ev_retV, ev_retO, ev_retS, ev_retSO, ev_retSV, ev_fnR, ev_fnN, ev_call, ev_frz0, ev_frzV, ev_frzO, ev_res, ev_tup, ev_lst, ev_iSet, ev_new, ev_newO, ev_par, ev_bindRs0, ev_bindRsV, ev_bindRsO, ev_for, ev_itOf, ev_chain, ev_cmpI, ev_add, ev_sub, Option.map_some, List.map_cons, List.map_nil, List.all_cons, List.all_nil, Bool.and_true, Bool.true_and, Bool.and_self, if_true, ite_true, eq_self, List.length_cons, List.length_nil, List.replicate, List.cons_append, List.nil_append, List.append_nil, List.getElem?_cons_zero, List.getElem?_cons_succ, List.set_cons_zero, List.set_cons_succ, Nat.reduceAdd, Nat.reduceSub, Nat.zero_add, Nat.add_zero, Nat.sub_self, hp, decide_true], by
      have e : ((n / 2 ^ i : Nat) : Int) / 2 = ((n / 2 ^ (i + 1) : Nat) : Int) := by
        rw [Nat.pow_succ, ← Nat.div_div_eq_div_mul]
        rfl
      simp only [ev_enter, ev_runB, ev_runC, ev_bind, ev_bindL, ev_bindLL, ev_bindRL, ev_bindLU, ev_bindRU, ev_bindS, ev_args0, ev_args, ev_C, ev_var, ev_slotV, ev_slotO, ev_keep, ev_settleV, ev_settleO, ev_settleS, ev_settleSO, ev_settleSV, ev_set, ev_op, ev_okV, ev_okO, ev_okS, ev_okSO, ev_okSV, ev_viewV, ev_viewO, ev_viewS, ev_viewSO, ev_viewSV, ev_nowN, ev_nowB, ev_nowI, ev_nowS, ev_nowT, ev_nowL, ev_nowC, ev_nowF, ev_nowA, ev_nowGL, ev_bl, ev_not, ev_and, ev_or, ev_if, ev_ifS, condE_t, condE_f, condS_t, condS_f, ev_seq, seqO_nx, seqO_rt, seqO_bk, seqO_ct, ev_nil, ev_drop, ev_ret, ev_retV, ev_retO, ev_retS, ev_retSO, ev_retSV, ev_fnR, ev_fnN, ev_call, ev_frz0, ev_frzV, ev_frzO, ev_res, ev_tup, ev_lst, ev_iSet, ev_new, ev_newO, ev_par, ev_bindRs0, ev_bindRsV, ev_bindRsO, ev_for, ev_itOf, ev_chain, ev_cmpI, ev_add, ev_sub, Option.map_some, List.map_cons, List.map_nil, List.all_cons, List.all_nil, Bool.and_true, Bool.true_and, Bool.and_self, if_true, ite_true, eq_self, List.length_cons, List.length_nil, List.replicate, List.cons_append, List.nil_append, List.append_nil, List.getElem?_cons_zero, List.getElem?_cons_succ, List.set_cons_zero, List.set_cons_succ, Nat.reduceAdd, Nat.reduceSub, Nat.zero_add, Nat.add_zero, Nat.sub_self, ev_div _ _ d2, e]
      rfl⟩) (by
      have hp : ¬ (0 : Int) < ((n / 2 ^ figs n : Nat) : Int) := by rw [figs_zero]; omega
      simp only [ev_enter, ev_runB, ev_runC, ev_bind, ev_bindL, ev_bindLL, ev_bindRL, ev_bindLU, ev_bindRU, ev_bindS, ev_args0, ev_args, ev_C, ev_var, ev_slotV, ev_slotO, ev_keep, ev_settleV, ev_settleO, ev_settleS, ev_settleSO, ev_settleSV, ev_set, ev_op, ev_okV, ev_okO, ev_okS, ev_okSO, ev_okSV, ev_viewV, ev_viewO, ev_viewS, ev_viewSO, ev_viewSV, ev_nowN, ev_nowB, ev_nowI, ev_nowS, ev_nowT, ev_nowL, ev_nowC, ev_nowF, ev_nowA, ev_nowGL, ev_bl, ev_not, ev_and, ev_or, ev_if, ev_ifS, condE_t, condE_f, condS_t, condS_f, ev_seq, seqO_nx, seqO_rt, seqO_bk, seqO_ct, ev_nil, ev_drop, ev_ret, ev_retV, ev_retO, ev_retS, ev_retSO, ev_retSV, ev_fnR, ev_fnN, ev_call, ev_frz0, ev_frzV, ev_frzO, ev_res, ev_tup, ev_lst, ev_iSet, ev_new, ev_newO, ev_par, ev_bindRs0, ev_bindRsV, ev_bindRsO, ev_for, ev_itOf, ev_chain, ev_cmpI, ev_add, ev_sub, Option.map_some, List.map_cons, List.map_nil, List.all_cons, List.all_nil, Bool.and_true, Bool.true_and, Bool.and_self, if_true, ite_true, eq_self, List.length_cons, List.length_nil, List.replicate, List.cons_append, List.nil_append, List.append_nil, List.getElem?_cons_zero, List.getElem?_cons_succ, List.set_cons_zero, List.set_cons_succ, Nat.reduceAdd, Nat.reduceSub, Nat.zero_add, Nat.add_zero, Nat.sub_self, hp, decide_false]) (figs n) 0 1000000 rfl (Nat.zero_le _) (by have := figs_le n h; omega)
  have e0 : ((n / 2 ^ 0 : Nat) : Int) = (n : Int) := by rw [Nat.pow_zero, Nat.div_one]
  have e1 : ((0 : Nat) : Int) = 0 := rfl
  simp only [e0, e1] at hw
  simp only [ev_enter, ev_runB, ev_runC, ev_bind, ev_bindL, ev_bindLL, ev_bindRL, ev_bindLU, ev_bindRU, ev_bindS, ev_args0, ev_args, ev_C, ev_var, ev_slotV, ev_slotO, ev_keep, ev_settleV, ev_settleO, ev_settleS, ev_settleSO, ev_settleSV, ev_set, ev_op, ev_okV, ev_okO, ev_okS, ev_okSO, ev_okSV, ev_viewV, ev_viewO, ev_viewS, ev_viewSO, ev_viewSV, ev_nowN, ev_nowB, ev_nowI, ev_nowS, ev_nowT, ev_nowL, ev_nowC, ev_nowF, ev_nowA, ev_nowGL, ev_bl, ev_not, ev_and, ev_or, ev_if, ev_ifS, condE_t, condE_f, condS_t, condS_f, ev_seq, seqO_nx, seqO_rt, seqO_bk, seqO_ct, ev_nil, ev_drop, ev_ret, ev_retV, ev_retO, ev_retS, ev_retSO, ev_retSV, ev_fnR, ev_fnN, ev_call, ev_frz0, ev_frzV, ev_frzO, ev_res, ev_tup, ev_lst, ev_iSet, ev_new, ev_newO, ev_par, ev_bindRs0, ev_bindRsV, ev_bindRsO, ev_for, ev_itOf, ev_chain, ev_cmpI, ev_add, ev_sub, Option.map_some, List.map_cons, List.map_nil, List.all_cons, List.all_nil, Bool.and_true, Bool.true_and, Bool.and_self, if_true, ite_true, eq_self, List.length_cons, List.length_nil, List.replicate, List.cons_append, List.nil_append, List.append_nil, List.getElem?_cons_zero, List.getElem?_cons_succ, List.set_cons_zero, List.set_cons_succ, Nat.reduceAdd, Nat.reduceSub, Nat.zero_add, Nat.add_zero, Nat.sub_self, B__law_figures, hw]
end K59
end T_M3
section T_M4
set_option Elab.async false
set_option linter.all false
set_option maxRecDepth 100000
namespace FF
theorem Good.sum_len {cs : List (List Nat)} {cols : List Nat} {lab : Nat → Nat → Nat} (g : Good cs cols lab) {f v : Nat} (hv : v < cs.length) (hf : cols.getD v 0 ≤ f) : ∀ {m : Nat}, m ≤ cols.getD v 0 → ((List.range m).flatMap fun j => L cs cols f (FF.pick cs cols v j)).length + 1 = 2 ^ m := fun {m} hm => by
  rw [List.length_flatMap, ← sum_pow]
  congr 2
  apply List.map_congr_left
  intro j hj
  have hj := List.mem_range.mp hj
  have hp := g.pick_lt hv (show j < cols.getD v 0 by omega)
  have hc := g.pick_col hv (show j < cols.getD v 0 by omega)
  rw [g.L_length (by omega) (by omega), hc]
end FF
namespace K59
open PySem PySem.Spec L2 IL
/-- [o for o in lot if cols[o] == j] -/
theorem comp_pick {vs : Nat} {it : IT} {a a1 : ASt} {lot cols : List Nat} {ci cj j : Nat} (hit : it a = .ok (nu lot) a1) (hpl : ([vs].all fun v => (a1.sl.getD v .non).plain) = true) (hr : (a1.wipe [vs]).rest a1 [vs] = a1) (hw : ∀ u, (((a1.wipe [vs]).set vs (.val u)).wipe [vs]) = a1.wipe [vs])
    (hl : ∀ o ∈ lot, iOp gEq [iOp gIx [iVar ci, iVar vs], iVar cj] ((a1.wipe [vs]).set vs (.val (.int (o : Nat)))) = .ok (.val (.bl (cols.getD o 0 == j))) ((a1.wipe [vs]).set vs (.val (.int (o : Nat)))))
    (hv : ∀ o ∈ lot, iVar vs ((a1.wipe [vs]).set vs (.val (.int (o : Nat)))) = .ok (.val (.int (o : Nat))) ((a1.wipe [vs]).set vs (.val (.int (o : Nat))))) :
    iComp (.nm vs) [vs] it (iOp gEq [iOp gIx [iVar ci, iVar vs], iVar cj]) (iVar vs) a = .ok (.own (nu (lot.filter fun o => cols.getD o 0 == j))) a1 := by
  have q := comp_pure (t := .nm vs) (vs := [vs]) (ct := iOp gEq [iOp gIx [iVar ci, iVar vs], iVar cj]) (el := iVar vs) (fun u => match u with | .int n => cols.getD n.toNat 0 == j | _ => false) (fun u => u) hit hpl hr fun u hu => by
    obtain ⟨o, ho, rfl⟩ := List.mem_map.mp hu
    exact ⟨_, rfl, hl o ho, fun _ => ⟨_, hv o ho, rfl⟩, hw _⟩
  rw [q, List.map_id']
  congr 2
  unfold nu
  rw [List.filter_map]
  rfl
theorem eq_nat (a b : Nat) : decide ((a : Int) = (b : Int)) = (a == b) := by
  rw [Bool.eq_iff_iff, decide_eq_true_eq, beq_iff_eq, Int.ofNat_inj]
theorem ix_head {l : List Nat} {x : Nat} (h : l[0]? = some x) : atI (nu l) 0 = some (.int x) := atI_ints (i := 0) h
theorem ix_lots {cs : List (List Nat)} {v : Nat} {l : List Nat} (h : cs[v]? = some l) : atI (cs.map uT) (v : Int) = some (uT l) := IL.atI_nat (by rw [List.getElem?_map, h]; rfl)
theorem cut_ext (us ws : List U) (a : ASt) (I : ES) : True := True.intro
theorem sp_lot (k : Nat) (cs : List (List Nat)) (L : Let cs) (G : List Ob) : ∀ (f v : Nat), v < cs.length → (FF.ff cs).getD v 0 < f → callF (k + f) 28 [uC cs, uT (FF.ff cs), .int v] G = .ret (.own (nu (FF.L cs (FF.ff cs) f v))) G
  | 0, v, hv, hf => by omega
  | f + 1, v, hv, hf => by
    show runB 6 (B__law_lot (callF (k + f))) _ _ = _
    have g := L.good
    obtain ⟨l, hl⟩ := g.at hv
    obtain ⟨g1, g2⟩ := g.lot v l hl
    have hcl : (FF.ff cs).length = cs.length := g.len
    have hc6 := g.col_lt hv
    obtain ⟨c, hc⟩ : ∃ c, c = (FF.ff cs).getD v 0 := ⟨_, rfl⟩
    have hixv : atI (nu (FF.ff cs)) (v : Int) = some (.int (c : Nat)) := by rw [hc]; exact ix_cols (by rw [hcl]; exact hv)
    obtain ⟨a', h1, h2⟩ := forGo_inv (t := .nm 4) (B := iDrop (iMut mExtend (iVar 3) [iCallF (callF (k + f) 28) [iKeep (iVar 0), iKeep (iVar 1), iOp gIx [iComp (.nm 5) [5] (iSeqE false (iOp gIx [iVar 0, iVar 2])) (iOp gEq [iOp gIx [iVar 1, iVar 5], iVar 4]) (iVar 5), iC (.int 0)]]]))
      (fun i a => ∃ s4, a = ⟨[.val (uC cs), .val (uT (FF.ff cs)), .val (.int v), .own (nu (v :: (List.range i).flatMap fun j => FF.L cs (FF.ff cs) f (FF.pick cs (FF.ff cs) v j))), s4, .non], G⟩) (nu (List.range c)) 0 ⟨[.val (uC cs), .val (uT (FF.ff cs)), .val (.int v), .own (nu [v]), .non, .non], G⟩ ⟨.non, rfl⟩ (by
        rintro j u a hu ⟨s4, rfl⟩
        rw [Nat.zero_add]
        obtain ⟨j', hj', rfl⟩ := map_get hu
        have hj : j < c := by
          have := (List.getElem?_eq_some_iff.mp hj').1
          rwa [List.length_range] at this
        have ej : j' = j := by
          rw [List.getElem?_range hj] at hj'
          exact (Option.some.inj hj').symm
        subst ej
        obtain ⟨p1, p2, p3⟩ := g.pick hl (show j' < (FF.ff cs).getD v 0 by omega)
        have hp := g.pick_lt hv (show j' < (FF.ff cs).getD v 0 by omega)
        have hsum := g.sum_len hv (show (FF.ff cs).getD v 0 ≤ f by omega) (m := j') (by omega)
        have hlen := g.L_length (f := f) (v := FF.pick cs (FF.ff cs) v j') (by omega) (by omega)
        obtain ⟨fd, hfd⟩ : ∃ x, x = nu (v :: (List.range j').flatMap fun j => FF.L cs (FF.ff cs) f (FF.pick cs (FF.ff cs) v j)) := ⟨_, rfl⟩
        refine ⟨⟨[.val (uC cs), .val (uT (FF.ff cs)), .val (.int v), .own fd, .val (.int j'), .non], G⟩, ⟨[.val (uC cs), .val (uT (FF.ff cs)), .val (.int v), .own (nu (v :: (List.range (j' + 1)).flatMap fun j => FF.L cs (FF.ff cs) f (FF.pick cs (FF.ff cs) v j))), .val (.int j'), .non], G⟩, by rw [hfd]; rfl, ?_, ⟨_, rfl⟩⟩
        have hcomp : iComp (.nm 5) [5] (iSeqE false (iOp gIx [iVar 0, iVar 2])) (iOp gEq [iOp gIx [iVar 1, iVar 5], iVar 4]) (iVar 5) ⟨[.val (uC cs), .val (uT (FF.ff cs)), .val (.int v), .own fd, .val (.int j'), .non], G⟩ = .ok (.own (nu (l.filter fun o => (FF.ff cs).getD o 0 == j'))) ⟨[.val (uC cs), .val (uT (FF.ff cs)), .val (.int v), .own fd, .val (.int j'), .non], G⟩ := by
          refine comp_pick (lot := l) (seqE_slotT false _ _ _ _ ?_) rfl rfl (fun u => rfl) (fun o ho => ?_) fun o ho => ?_
          · simp only [ev_enter, ev_runB, ev_runC, ev_bind, ev_bindL, ev_bindLL, ev_bindRL, ev_bindLU, ev_bindRU, ev_bindS, ev_args0, ev_args, ev_C, ev_var, ev_slotV, ev_slotO, ev_keep, ev_settleV, ev_settleO, ev_settleS, ev_settleSO, ev_settleSV, ev_set, ev_op, ev_okV, ev_okO, ev_okS, ev_okSO, ev_okSV, ev_viewV, ev_viewO, ev_viewS, ev_viewSO, ev_viewSV, ev_nowN, ev_nowB, ev_nowI, ev_nowS, ev_nowT, ev_nowL, ev_nowC, ev_nowF, ev_nowA, ev_nowGL, ev_bl, ev_not, ev_and, ev_or, ev_if, ev_ifS, condE_t, condE_f, condS_t, condS_f, ev_seq, seqO_nx, seqO_rt, seqO_bk, seqO_ct, ev_nil, ev_drop, ev_ret, ev_retV, ev_retO, ev_retS, ev_retSO, ev_retSV, ev_fnR, ev_fnN, ev_call, ev_frz0, ev_frzV, ev_frzO, ev_res, ev_tup, ev_lst, ev_iSet, ev_new, ev_newO, ev_par, ev_bindRs0, ev_bindRsV, ev_bindRsO, ev_for, ev_itOf, ev_chain, ev_cmpI, ev_add, ev_sub, Option.map_some, List.map_cons, List.map_nil, List.all_cons, List.all_nil, Bool.and_true, Bool.true_and, Bool.and_self, if_true, ite_true, eq_self, List.length_cons, List.length_nil, List.replicate, List.cons_append, List.nil_append, List.append_nil, List.getElem?_cons_zero, List.getElem?_cons_succ, List.set_cons_zero, List.set_cons_succ, Nat.reduceAdd, Nat.reduceSub, Nat.zero_add, Nat.add_zero, Nat.sub_self, ev_ixT, ix_lots hl]
          · show iOp gEq [iOp gIx [iVar 1, iVar 5], iVar 4] ⟨[.val (uC cs), .val (uT (FF.ff cs)), .val (.int v), .own fd, .val (.int j'), .val (.int o)], G⟩ = _
            have ho2 := g2 o ho
            simp only [ev_enter, ev_runB, ev_runC, ev_bind, ev_bindL, ev_bindLL, ev_bindRL, ev_bindLU, ev_bindRU, ev_bindS, ev_args0, ev_args, ev_C, ev_var, ev_slotV, ev_slotO, ev_keep, ev_settleV, ev_settleO, ev_settleS, ev_settleSO, ev_settleSV, ev_set, ev_op, ev_okV, ev_okO, ev_okS, ev_okSO, ev_okSV, ev_viewV, ev_viewO, ev_viewS, ev_viewSO, ev_viewSV, ev_nowN, ev_nowB, ev_nowI, ev_nowS, ev_nowT, ev_nowL, ev_nowC, ev_nowF, ev_nowA, ev_nowGL, ev_bl, ev_not, ev_and, ev_or, ev_if, ev_ifS, condE_t, condE_f, condS_t, condS_f, ev_seq, seqO_nx, seqO_rt, seqO_bk, seqO_ct, ev_nil, ev_drop, ev_ret, ev_retV, ev_retO, ev_retS, ev_retSO, ev_retSV, ev_fnR, ev_fnN, ev_call, ev_frz0, ev_frzV, ev_frzO, ev_res, ev_tup, ev_lst, ev_iSet, ev_new, ev_newO, ev_par, ev_bindRs0, ev_bindRsV, ev_bindRsO, ev_for, ev_itOf, ev_chain, ev_cmpI, ev_add, ev_sub, Option.map_some, List.map_cons, List.map_nil, List.all_cons, List.all_nil, Bool.and_true, Bool.true_and, Bool.and_self, if_true, ite_true, eq_self, List.length_cons, List.length_nil, List.replicate, List.cons_append, List.nil_append, List.append_nil, List.getElem?_cons_zero, List.getElem?_cons_succ, List.set_cons_zero, List.set_cons_succ, Nat.reduceAdd, Nat.reduceSub, Nat.zero_add, Nat.add_zero, Nat.sub_self, ev_ixT, ix_cols (show o < (FF.ff cs).length by omega), ev_eqI, eq_nat]
            rfl
          · show iVar 5 ⟨[.val (uC cs), .val (uT (FF.ff cs)), .val (.int v), .own fd, .val (.int j'), .val (.int o)], G⟩ = _
            simp only [ev_enter, ev_runB, ev_runC, ev_bind, ev_bindL, ev_bindLL, ev_bindRL, ev_bindLU, ev_bindRU, ev_bindS, ev_args0, ev_args, ev_C, ev_var, ev_slotV, ev_slotO, ev_keep, ev_settleV, ev_settleO, ev_settleS, ev_settleSO, ev_settleSV, ev_set, ev_op, ev_okV, ev_okO, ev_okS, ev_okSO, ev_okSV, ev_viewV, ev_viewO, ev_viewS, ev_viewSO, ev_viewSV, ev_nowN, ev_nowB, ev_nowI, ev_nowS, ev_nowT, ev_nowL, ev_nowC, ev_nowF, ev_nowA, ev_nowGL, ev_bl, ev_not, ev_and, ev_or, ev_if, ev_ifS, condE_t, condE_f, condS_t, condS_f, ev_seq, seqO_nx, seqO_rt, seqO_bk, seqO_ct, ev_nil, ev_drop, ev_ret, ev_retV, ev_retO, ev_retS, ev_retSO, ev_retSV, ev_fnR, ev_fnN, ev_call, ev_frz0, ev_frzV, ev_frzO, ev_res, ev_tup, ev_lst, ev_iSet, ev_new, ev_newO, ev_par, ev_bindRs0, ev_bindRsV, ev_bindRsO, ev_for, ev_itOf, ev_chain, ev_cmpI, ev_add, ev_sub, Option.map_some, List.map_cons, List.map_nil, List.all_cons, List.all_nil, Bool.and_true, Bool.true_and, Bool.and_self, if_true, ite_true, eq_self, List.length_cons, List.length_nil, List.replicate, List.cons_append, List.nil_append, List.append_nil, List.getElem?_cons_zero, List.getElem?_cons_succ, List.set_cons_zero, List.set_cons_succ, Nat.reduceAdd, Nat.reduceSub, Nat.zero_add, Nat.add_zero, Nat.sub_self]
            rfl
        have ih := sp_lot k cs L G f (FF.pick cs (FF.ff cs) v j') (by omega) (by omega)
        have hsz : fd.length + (nu (FF.L cs (FF.ff cs) f (FF.pick cs (FF.ff cs) v j'))).length ≤ sizeLine := by
          rw [hfd, ints_length, ints_length, List.length_cons, hsum, hlen, p2]
          have e : sizeLine = 16777216 := rfl
          have : 2 ^ j' ≤ 2 ^ 6 := Nat.pow_le_pow_right (by decide) (by omega)
          omega
        have hnew : fd ++ nu (FF.L cs (FF.ff cs) f (FF.pick cs (FF.ff cs) v j')) = nu (v :: (List.range (j' + 1)).flatMap fun j => FF.L cs (FF.ff cs) f (FF.pick cs (FF.ff cs) v j)) := by
          rw [hfd, List.range_succ, List.flatMap_append]
          unfold nu
          simp only [List.map_cons, List.map_append, List.flatMap_cons, List.flatMap_nil, List.append_nil, List.cons_append]
        have hmut : iMut mExtend (iVar 3) [iCallF (callF (k + f) 28) [iKeep (iVar 0), iKeep (iVar 1), iOp gIx [iComp (.nm 5) [5] (iSeqE false (iOp gIx [iVar 0, iVar 2])) (iOp gEq [iOp gIx [iVar 1, iVar 5], iVar 4]) (iVar 5), iC (.int 0)]]] ⟨[.val (uC cs), .val (uT (FF.ff cs)), .val (.int v), .own fd, .val (.int j'), .non], G⟩ = .ok (.val .non) ⟨[.val (uC cs), .val (uT (FF.ff cs)), .val (.int v), .own (nu (v :: (List.range (j' + 1)).flatMap fun j => FF.L cs (FF.ff cs) f (FF.pick cs (FF.ff cs) v j))), .val (.int j'), .non], G⟩ := by
          unfold iMut
          simp only [ev_enter, ev_runB, ev_runC, ev_bind, ev_bindL, ev_bindLL, ev_bindRL, ev_bindLU, ev_bindRU, ev_bindS, ev_args0, ev_args, ev_C, ev_var, ev_slotV, ev_slotO, ev_keep, ev_settleV, ev_settleO, ev_settleS, ev_settleSO, ev_settleSV, ev_set, ev_op, ev_okV, ev_okO, ev_okS, ev_okSO, ev_okSV, ev_viewV, ev_viewO, ev_viewS, ev_viewSO, ev_viewSV, ev_nowN, ev_nowB, ev_nowI, ev_nowS, ev_nowT, ev_nowL, ev_nowC, ev_nowF, ev_nowA, ev_nowGL, ev_bl, ev_not, ev_and, ev_or, ev_if, ev_ifS, condE_t, condE_f, condS_t, condS_f, ev_seq, seqO_nx, seqO_rt, seqO_bk, seqO_ct, ev_nil, ev_drop, ev_ret, ev_retV, ev_retO, ev_retS, ev_retSO, ev_retSV, ev_fnR, ev_fnN, ev_call, ev_frz0, ev_frzV, ev_frzO, ev_res, ev_tup, ev_lst, ev_iSet, ev_new, ev_newO, ev_par, ev_bindRs0, ev_bindRsV, ev_bindRsO, ev_for, ev_itOf, ev_chain, ev_cmpI, ev_add, ev_sub, Option.map_some, List.map_cons, List.map_nil, List.all_cons, List.all_nil, Bool.and_true, Bool.true_and, Bool.and_self, if_true, ite_true, eq_self, List.length_cons, List.length_nil, List.replicate, List.cons_append, List.nil_append, List.append_nil, List.getElem?_cons_zero, List.getElem?_cons_succ, List.set_cons_zero, List.set_cons_succ, Nat.reduceAdd, Nat.reduceSub, Nat.zero_add, Nat.add_zero, Nat.sub_self, ev_recvS, ev_recvSO, hcomp, ev_ixL, ix_head p3, ih, mExtend, hsz, ev_setS, hnew]
        simp only [ev_enter, ev_runB, ev_runC, ev_bind, ev_bindL, ev_bindLL, ev_bindRL, ev_bindLU, ev_bindRU, ev_bindS, ev_args0, ev_args, ev_C, ev_var, ev_slotV, ev_slotO, ev_keep, ev_settleV, ev_settleO, ev_settleS, ev_settleSO, ev_settleSV, ev_set, ev_op, ev_okV, ev_okO, ev_okS, ev_okSO, ev_okSV, ev_viewV, ev_viewO, ev_viewS, ev_viewSO, ev_viewSV, ev_nowN, ev_nowB, ev_nowI, ev_nowS, ev_nowT, ev_nowL, ev_nowC, ev_nowF, ev_nowA, ev_nowGL, ev_bl, ev_not, ev_and, ev_or, ev_if, ev_ifS, condE_t, condE_f, condS_t, condS_f, ev_seq, seqO_nx, seqO_rt, seqO_bk, seqO_ct, ev_nil, ev_drop, ev_ret, ev_retV, ev_retO, ev_retS, ev_retSO, ev_retSV, ev_fnR, ev_fnN, ev_call, ev_frz0, ev_frzV, ev_frzO, ev_res, ev_tup, ev_lst, ev_iSet, ev_new, ev_newO, ev_par, ev_bindRs0, ev_bindRsV, ev_bindRsO, ev_for, ev_itOf, ev_chain, ev_cmpI, ev_add, ev_sub, Option.map_some, List.map_cons, List.map_nil, List.all_cons, List.all_nil, Bool.and_true, Bool.true_and, Bool.and_self, if_true, ite_true, eq_self, List.length_cons, List.length_nil, List.replicate, List.cons_append, List.nil_append, List.append_nil, List.getElem?_cons_zero, List.getElem?_cons_succ, List.set_cons_zero, List.set_cons_succ, Nat.reduceAdd, Nat.reduceSub, Nat.zero_add, Nat.add_zero, Nat.sub_self, hmut])
    obtain ⟨s4, rfl⟩ := h2
    rw [Nat.zero_add, ints_length, List.length_range] at h1
    have e0 : Sl.own [U.int (v : Int)] = Sl.own (nu [v]) := rfl
    simp only [ev_enter, ev_runB, ev_runC, ev_bind, ev_bindL, ev_bindLL, ev_bindRL, ev_bindLU, ev_bindRU, ev_bindS, ev_args0, ev_args, ev_C, ev_var, ev_slotV, ev_slotO, ev_keep, ev_settleV, ev_settleO, ev_settleS, ev_settleSO, ev_settleSV, ev_set, ev_op, ev_okV, ev_okO, ev_okS, ev_okSO, ev_okSV, ev_viewV, ev_viewO, ev_viewS, ev_viewSO, ev_viewSV, ev_nowN, ev_nowB, ev_nowI, ev_nowS, ev_nowT, ev_nowL, ev_nowC, ev_nowF, ev_nowA, ev_nowGL, ev_bl, ev_not, ev_and, ev_or, ev_if, ev_ifS, condE_t, condE_f, condS_t, condS_f, ev_seq, seqO_nx, seqO_rt, seqO_bk, seqO_ct, ev_nil, ev_drop, ev_ret, ev_retV, ev_retO, ev_retS, ev_retSO, ev_retSV, ev_fnR, ev_fnN, ev_call, ev_frz0, ev_frzV, ev_frzO, ev_res, ev_tup, ev_lst, ev_iSet, ev_new, ev_newO, ev_par, ev_bindRs0, ev_bindRsV, ev_bindRsO, ev_for, ev_itOf, ev_chain, ev_cmpI, ev_add, ev_sub, Option.map_some, List.map_cons, List.map_nil, List.all_cons, List.all_nil, Bool.and_true, Bool.true_and, Bool.and_self, if_true, ite_true, eq_self, List.length_cons, List.length_nil, List.replicate, List.cons_append, List.nil_append, List.append_nil, List.getElem?_cons_zero, List.getElem?_cons_succ, List.set_cons_zero, List.set_cons_succ, Nat.reduceAdd, Nat.reduceSub, Nat.zero_add, Nat.add_zero, Nat.sub_self, B__law_lot, e0, ev_bindLU, ev_ixT, hixv, rng1 c (by omega), h1]
    rw [hc]
    rfl
end K59
end T_M4
section T_M5
set_option Elab.async false
set_option linter.all false
set_option maxRecDepth 100000
namespace K59
open PySem PySem.Spec L2 IL
theorem minZ_head : ∀ (l : List Nat) (x : Nat), (∀ y ∈ l, x ≤ y) → minZ (x : Int) (toZ l) = x
  | [], x, h => rfl
  | y :: l, x, h => by
    show minZ (if (y : Int) < (x : Int) then (y : Int) else (x : Int)) (toZ l) = x
    have := h y List.mem_cons_self
    rw [if_neg (by omega)]
    exact minZ_head l x fun z hz => h z (List.mem_cons_of_mem _ hz)
theorem ev_minN (x : Nat) (l : List Nat) (h : ∀ y ∈ l, x ≤ y) : gMin [.lst (nu (x :: l))] = some (.val (.int x)) := by
  show (match intsU (nu (x :: l)) with | some (n :: ns) => some (R.val (.int (minZ n ns))) | _ => none) = _
  rw [intsU_ints]
  show some (R.val (.int (minZ (x : Int) (toZ l)))) = _
  rw [minZ_head l x h]
theorem pop_last (ws : List Nat) (h : Nat) : mPop (nu (ws ++ [h])) [] = some (.int h, nu ws) := by
  have e : nu (ws ++ [h]) = nu ws ++ [U.int (h : Int)] := by unfold nu; rw [List.map_append]; rfl
  show (match (nu (ws ++ [h]))[(nu (ws ++ [h])).length - 1]? with | some u => some (u, (nu (ws ++ [h])).dropLast) | none => none) = _
  rw [e, List.length_append, List.length_singleton, Nat.add_sub_cancel, List.getElem?_append_right (Nat.le_refl _), Nat.sub_self, List.dropLast_concat]
  rfl
theorem nu_snoc (ws : List Nat) (h : Nat) : nu ws ++ [U.int (h : Int)] = nu (ws ++ [h]) := by unfold nu; rw [List.map_append]; rfl
abbrev IG : ES := iOp (gCmpI fun i j => decide (j < i)) [iOp gLen [iVar 4], iC (.int 0)]
abbrev FG : SS := iFor (.nm 6) (itOf gRng1 [iOp gIx [iVar 2, iVar 5]])
    (iDrop (iMut mAppend (iVar 4) [iOp gMin [iComp (.nm 7) [7] (iSeqE false (iOp gIx [iVar 0, iVar 5])) (iOp gEq [iOp gIx [iVar 2, iVar 7], iVar 6]) (iVar 7)]]))
abbrev BG : SS := (iSq (iSet 5 (iMut mPop (iVar 4) []))
    (iSq (iDrop (iMut mAppend (iVar 3) [iKeep (iVar 5)])) FG))
section
variable {cs : List (List Nat)} (L : Let cs) (G : List Ob) (v : Nat)
abbrev stG (cs : List (List Nat)) (G : List Ob) (v : Nat) (fd ws : List Nat) (s5 s6 : Sl) : ASt := ⟨[.val (uC cs), .val (.int v), .val (uT (FF.ff cs)), .own (nu fd), .own (nu ws), s5, s6, .non], G⟩
include L
theorem for_G (fd ws : List Nat) (h : Nat) (hh : h < cs.length) (s6 : Sl) (hlen : ws.length ≤ 1000) : ∃ s6', FG (stG cs G v fd ws (.val (.int h)) s6) = .nx (stG cs G v fd (ws ++ (List.range ((FF.ff cs).getD h 0)).map (FF.pick cs (FF.ff cs) h)) (.val (.int h)) s6') := by
  have g := L.good
  obtain ⟨l, hl⟩ := g.at hh
  obtain ⟨g1, g2⟩ := g.lot h l hl
  have hcl : (FF.ff cs).length = cs.length := g.len
  have hc6 := g.col_lt hh
  obtain ⟨c, hc⟩ : ∃ c, c = (FF.ff cs).getD h 0 := ⟨_, rfl⟩
  have hixv : atI (nu (FF.ff cs)) (h : Int) = some (.int (c : Nat)) := by rw [hc]; exact ix_cols (by rw [hcl]; exact hh)
  obtain ⟨a', h1, s6', rfl⟩ := forGo_inv (t := .nm 6) (B := iDrop (iMut mAppend (iVar 4) [iOp gMin [iComp (.nm 7) [7] (iSeqE false (iOp gIx [iVar 0, iVar 5])) (iOp gEq [iOp gIx [iVar 2, iVar 7], iVar 6]) (iVar 7)]]))
    (fun i a => ∃ s6, a = stG cs G v fd (ws ++ (List.range i).map (FF.pick cs (FF.ff cs) h)) (.val (.int h)) s6) (nu (List.range c)) 0 (stG cs G v fd ws (.val (.int h)) s6) ⟨s6, by simp⟩ (by
      rintro j u a hu ⟨s6, rfl⟩
      rw [Nat.zero_add]
      obtain ⟨j', hj', rfl⟩ := map_get hu
      have hj : j < c := by
        have := (List.getElem?_eq_some_iff.mp hj').1
        rwa [List.length_range] at this
      have ej : j' = j := by
        rw [List.getElem?_range hj] at hj'
        exact (Option.some.inj hj').symm
      subst ej
      obtain ⟨p1, p2, p3⟩ := g.pick hl (show j' < (FF.ff cs).getD h 0 by omega)
      obtain ⟨wt, hwt⟩ : ∃ x, x = ws ++ (List.range j').map (FF.pick cs (FF.ff cs) h) := ⟨_, rfl⟩
      refine ⟨stG cs G v fd wt (.val (.int h)) (.val (.int j')), stG cs G v fd (wt ++ [FF.pick cs (FF.ff cs) h j']) (.val (.int h)) (.val (.int j')), by rw [hwt]; rfl, ?_, ⟨_, by rw [List.range_succ, List.map_append, hwt, List.append_assoc]; rfl⟩⟩
      have hcomp : iComp (.nm 7) [7] (iSeqE false (iOp gIx [iVar 0, iVar 5])) (iOp gEq [iOp gIx [iVar 2, iVar 7], iVar 6]) (iVar 7) (stG cs G v fd wt (.val (.int h)) (.val (.int j'))) = .ok (.own (nu (l.filter fun o => (FF.ff cs).getD o 0 == j'))) (stG cs G v fd wt (.val (.int h)) (.val (.int j'))) := by
        refine comp_pick (lot := l) (seqE_slotT false _ _ _ _ ?_) rfl rfl (fun u => rfl) (fun o ho => ?_) fun o ho => ?_
        · simp only [ev_enter, ev_runB, ev_runC, ev_bind, ev_bindL, ev_bindLL, ev_bindRL, ev_bindLU, ev_bindRU, ev_bindS, ev_args0, ev_args, ev_C, ev_var, ev_slotV, ev_slotO, ev_keep, ev_settleV, ev_settleO, ev_settleS, ev_settleSO, ev_settleSV, ev_set, ev_op, ev_okV, ev_okO, ev_okS, ev_okSO, ev_okSV, ev_viewV, ev_viewO, ev_viewS, ev_viewSO, ev_viewSV, ev_nowN, ev_nowB, ev_nowI, ev_nowS, ev_nowT, ev_nowL, ev_nowC, ev_nowF, ev_nowA, ev_nowGL, ev_bl, ev_not, ev_and, ev_or, ev_if, ev_ifS, condE_t, condE_f, condS_t, condS_f, ev_seq, seqO_nx, seqO_rt, seqO_bk, seqO_ct, ev_nil, ev_drop, ev_ret, ev_retV, ev_retO, ev_retS, ev_retSO, ev_retSV, ev_fnR, ev_fnN, ev_call, ev_frz0, ev_frzV, ev_frzO, ev_res, ev_tup, ev_lst, ev_iSet, ev_new, ev_newO, ev_par, ev_bindRs0, ev_bindRsV, ev_bindRsO, ev_for, ev_itOf, ev_chain, ev_cmpI, ev_add, ev_sub, Option.map_some, List.map_cons, List.map_nil, List.all_cons, List.all_nil, Bool.and_true, Bool.true_and, Bool.and_self, if_true, ite_true, eq_self, List.length_cons, List.length_nil, List.replicate, List.cons_append, List.nil_append, List.append_nil, List.getElem?_cons_zero, List.getElem?_cons_succ, List.set_cons_zero, List.set_cons_succ, Nat.reduceAdd, Nat.reduceSub, Nat.zero_add, Nat.add_zero, Nat.sub_self, ev_ixT, ix_lots hl]
        · show iOp gEq [iOp gIx [iVar 2, iVar 7], iVar 6] ⟨[.val (uC cs), .val (.int v), .val (uT (FF.ff cs)), .own (nu fd), .own (nu wt), .val (.int h), .val (.int j'), .val (.int o)], G⟩ = _
          have ho2 := g2 o ho
          simp only [ev_enter, ev_runB, ev_runC, ev_bind, ev_bindL, ev_bindLL, ev_bindRL, ev_bindLU, ev_bindRU, ev_bindS, ev_args0, ev_args, ev_C, ev_var, ev_slotV, ev_slotO, ev_keep, ev_settleV, ev_settleO, ev_settleS, ev_settleSO, ev_settleSV, ev_set, ev_op, ev_okV, ev_okO, ev_okS, ev_okSO, ev_okSV, ev_viewV, ev_viewO, ev_viewS, ev_viewSO, ev_viewSV, ev_nowN, ev_nowB, ev_nowI, ev_nowS, ev_nowT, ev_nowL, ev_nowC, ev_nowF, ev_nowA, ev_nowGL, ev_bl, ev_not, ev_and, ev_or, ev_if, ev_ifS, condE_t, condE_f, condS_t, condS_f, ev_seq, seqO_nx, seqO_rt, seqO_bk, seqO_ct, ev_nil, ev_drop, ev_ret, ev_retV, ev_retO, ev_retS, ev_retSO, ev_retSV, ev_fnR, ev_fnN, ev_call, ev_frz0, ev_frzV, ev_frzO, ev_res, ev_tup, ev_lst, ev_iSet, ev_new, ev_newO, ev_par, ev_bindRs0, ev_bindRsV, ev_bindRsO, ev_for, ev_itOf, ev_chain, ev_cmpI, ev_add, ev_sub, Option.map_some, List.map_cons, List.map_nil, List.all_cons, List.all_nil, Bool.and_true, Bool.true_and, Bool.and_self, if_true, ite_true, eq_self, List.length_cons, List.length_nil, List.replicate, List.cons_append, List.nil_append, List.append_nil, List.getElem?_cons_zero, List.getElem?_cons_succ, List.set_cons_zero, List.set_cons_succ, Nat.reduceAdd, Nat.reduceSub, Nat.zero_add, Nat.add_zero, Nat.sub_self, ev_ixT, ix_cols (show o < (FF.ff cs).length by omega), ev_eqI, eq_nat]
          rfl
        · show iVar 7 ⟨[.val (uC cs), .val (.int v), .val (uT (FF.ff cs)), .own (nu fd), .own (nu wt), .val (.int h), .val (.int j'), .val (.int o)], G⟩ = _
          simp only [ev_enter, ev_runB, ev_runC, ev_bind, ev_bindL, ev_bindLL, ev_bindRL, ev_bindLU, ev_bindRU, ev_bindS, ev_args0, ev_args, ev_C, ev_var, ev_slotV, ev_slotO, ev_keep, ev_settleV, ev_settleO, ev_settleS, ev_settleSO, ev_settleSV, ev_set, ev_op, ev_okV, ev_okO, ev_okS, ev_okSO, ev_okSV, ev_viewV, ev_viewO, ev_viewS, ev_viewSO, ev_viewSV, ev_nowN, ev_nowB, ev_nowI, ev_nowS, ev_nowT, ev_nowL, ev_nowC, ev_nowF, ev_nowA, ev_nowGL, ev_bl, ev_not, ev_and, ev_or, ev_if, ev_ifS, condE_t, condE_f, condS_t, condS_f, ev_seq, seqO_nx, seqO_rt, seqO_bk, seqO_ct, ev_nil, ev_drop, ev_ret, ev_retV, ev_retO, ev_retS, ev_retSO, ev_retSV, ev_fnR, ev_fnN, ev_call, ev_frz0, ev_frzV, ev_frzO, ev_res, ev_tup, ev_lst, ev_iSet, ev_new, ev_newO, ev_par, ev_bindRs0, ev_bindRsV, ev_bindRsO, ev_for, ev_itOf, ev_chain, ev_cmpI, ev_add, ev_sub, Option.map_some, List.map_cons, List.map_nil, List.all_cons, List.all_nil, Bool.and_true, Bool.true_and, Bool.and_self, if_true, ite_true, eq_self, List.length_cons, List.length_nil, List.replicate, List.cons_append, List.nil_append, List.append_nil, List.getElem?_cons_zero, List.getElem?_cons_succ, List.set_cons_zero, List.set_cons_succ, Nat.reduceAdd, Nat.reduceSub, Nat.zero_add, Nat.add_zero, Nat.sub_self]
          rfl
      have hmin : gMin [.lst (nu (l.filter fun o => (FF.ff cs).getD o 0 == j'))] = some (.val (.int (FF.pick cs (FF.ff cs) h j' : Nat))) := by
        have hs : (l.filter fun o => (FF.ff cs).getD o 0 == j').Pairwise (· < ·) := g1.sublist List.filter_sublist
        cases hf : l.filter fun o => (FF.ff cs).getD o 0 == j' with
        | nil => rw [hf] at p3; cases p3
        | cons x r =>
          rw [hf] at p3 hs
          have ex : x = FF.pick cs (FF.ff cs) h j' := Option.some.inj p3
          rw [← ex]
          exact ev_minN x r fun y hy => Nat.le_of_lt ((List.pairwise_cons.mp hs).1 y hy)
      have hsz : (nu wt).length < sizeLine := by
        rw [ints_length, hwt, List.length_append, List.length_map, List.length_range]
        have e : sizeLine = 16777216 := rfl
        omega
      have hmut : iMut mAppend (iVar 4) [iOp gMin [iComp (.nm 7) [7] (iSeqE false (iOp gIx [iVar 0, iVar 5])) (iOp gEq [iOp gIx [iVar 2, iVar 7], iVar 6]) (iVar 7)]] (stG cs G v fd wt (.val (.int h)) (.val (.int j'))) = .ok (.val .non) (stG cs G v fd (wt ++ [FF.pick cs (FF.ff cs) h j']) (.val (.int h)) (.val (.int j'))) := by
        unfold iMut
        simp only [ev_enter, ev_runB, ev_runC, ev_bind, ev_bindL, ev_bindLL, ev_bindRL, ev_bindLU, ev_bindRU, ev_bindS, ev_args0, ev_args, ev_C, ev_var, ev_slotV, ev_slotO, ev_keep, ev_settleV, ev_settleO, ev_settleS, ev_settleSO, ev_settleSV, ev_set, ev_op, ev_okV, ev_okO, ev_okS, ev_okSO, ev_okSV, ev_viewV, ev_viewO, ev_viewS, ev_viewSO, ev_viewSV, ev_nowN, ev_nowB, ev_nowI, ev_nowS, ev_nowT, ev_nowL, ev_nowC, ev_nowF, ev_nowA, ev_nowGL, ev_bl, ev_not, ev_and, ev_or, ev_if, ev_ifS, condE_t, condE_f, condS_t, condS_f, ev_seq, seqO_nx, seqO_rt, seqO_bk, seqO_ct, ev_nil, ev_drop, ev_ret, ev_retV, ev_retO, ev_retS, ev_retSO, ev_retSV, ev_fnR, ev_fnN, ev_call, ev_frz0, ev_frzV, ev_frzO, ev_res, ev_tup, ev_lst, ev_iSet, ev_new, ev_newO, ev_par, ev_bindRs0, ev_bindRsV, ev_bindRsO, ev_for, ev_itOf, ev_chain, ev_cmpI, ev_add, ev_sub, Option.map_some, List.map_cons, List.map_nil, List.all_cons, List.all_nil, Bool.and_true, Bool.true_and, Bool.and_self, if_true, ite_true, eq_self, List.length_cons, List.length_nil, List.replicate, List.cons_append, List.nil_append, List.append_nil, List.getElem?_cons_zero, List.getElem?_cons_succ, List.set_cons_zero, List.set_cons_succ, Nat.reduceAdd, Nat.reduceSub, Nat.zero_add, Nat.add_zero, Nat.sub_self, ev_recvS, ev_recvSO, hcomp, hmin, mAppend, hsz, ev_setS, nu_snoc]
      simp only [ev_enter, ev_runB, ev_runC, ev_bind, ev_bindL, ev_bindLL, ev_bindRL, ev_bindLU, ev_bindRU, ev_bindS, ev_args0, ev_args, ev_C, ev_var, ev_slotV, ev_slotO, ev_keep, ev_settleV, ev_settleO, ev_settleS, ev_settleSO, ev_settleSV, ev_set, ev_op, ev_okV, ev_okO, ev_okS, ev_okSO, ev_okSV, ev_viewV, ev_viewO, ev_viewS, ev_viewSO, ev_viewSV, ev_nowN, ev_nowB, ev_nowI, ev_nowS, ev_nowT, ev_nowL, ev_nowC, ev_nowF, ev_nowA, ev_nowGL, ev_bl, ev_not, ev_and, ev_or, ev_if, ev_ifS, condE_t, condE_f, condS_t, condS_f, ev_seq, seqO_nx, seqO_rt, seqO_bk, seqO_ct, ev_nil, ev_drop, ev_ret, ev_retV, ev_retO, ev_retS, ev_retSO, ev_retSV, ev_fnR, ev_fnN, ev_call, ev_frz0, ev_frzV, ev_frzO, ev_res, ev_tup, ev_lst, ev_iSet, ev_new, ev_newO, ev_par, ev_bindRs0, ev_bindRsV, ev_bindRsO, ev_for, ev_itOf, ev_chain, ev_cmpI, ev_add, ev_sub, Option.map_some, List.map_cons, List.map_nil, List.all_cons, List.all_nil, Bool.and_true, Bool.true_and, Bool.and_self, if_true, ite_true, eq_self, List.length_cons, List.length_nil, List.replicate, List.cons_append, List.nil_append, List.append_nil, List.getElem?_cons_zero, List.getElem?_cons_succ, List.set_cons_zero, List.set_cons_succ, Nat.reduceAdd, Nat.reduceSub, Nat.zero_add, Nat.add_zero, Nat.sub_self, hmut])
  rw [Nat.zero_add, ints_length, List.length_range] at h1
  refine ⟨s6', ?_⟩
  rw [← hc]
  simp only [ev_enter, ev_runB, ev_runC, ev_bind, ev_bindL, ev_bindLL, ev_bindRL, ev_bindLU, ev_bindRU, ev_bindS, ev_args0, ev_args, ev_C, ev_var, ev_slotV, ev_slotO, ev_keep, ev_settleV, ev_settleO, ev_settleS, ev_settleSO, ev_settleSV, ev_set, ev_op, ev_okV, ev_okO, ev_okS, ev_okSO, ev_okSV, ev_viewV, ev_viewO, ev_viewS, ev_viewSO, ev_viewSV, ev_nowN, ev_nowB, ev_nowI, ev_nowS, ev_nowT, ev_nowL, ev_nowC, ev_nowF, ev_nowA, ev_nowGL, ev_bl, ev_not, ev_and, ev_or, ev_if, ev_ifS, condE_t, condE_f, condS_t, condS_f, ev_seq, seqO_nx, seqO_rt, seqO_bk, seqO_ct, ev_nil, ev_drop, ev_ret, ev_retV, ev_retO, ev_retS, ev_retSO, ev_retSV, ev_fnR, ev_fnN, ev_call, ev_frz0, ev_frzV, ev_frzO, ev_res, ev_tup, ev_lst, ev_iSet, ev_new, ev_newO, ev_par, ev_bindRs0, ev_bindRsV, ev_bindRsO, ev_for, ev_itOf, ev_chain, ev_cmpI, ev_add, ev_sub, Option.map_some, List.map_cons, List.map_nil, List.all_cons, List.all_nil, Bool.and_true, Bool.true_and, Bool.and_self, if_true, ite_true, eq_self, List.length_cons, List.length_nil, List.replicate, List.cons_append, List.nil_append, List.append_nil, List.getElem?_cons_zero, List.getElem?_cons_succ, List.set_cons_zero, List.set_cons_succ, Nat.reduceAdd, Nat.reduceSub, Nat.zero_add, Nat.add_zero, Nat.sub_self, ev_bindLU, ev_ixT, hixv, rng1 c (by omega), h1]
theorem while_G : ∀ (m fuel : Nat) (fd ws : List Nat) (s5 s6 : Sl), (∀ w ∈ ws, w < cs.length) → (ws.flatMap (FF.L cs (FF.ff cs) 7)).length = m → m < fuel → fd.length + m ≤ 1000 → ws.length ≤ m → ∃ fd' s5' s6', iWhile IG BG fuel (stG cs G v fd ws s5 s6) = .nx (stG cs G v fd' [] s5' s6') ∧ fd'.Perm (fd ++ ws.flatMap (FF.L cs (FF.ff cs) 7))
  | m, 0, fd, ws, s5, s6, hw, hm, hf, hb, hl => by omega
  | m, fuel + 1, fd, ws, s5, s6, hw, hm, hf, hb, hl => by
    have g := L.good
    rcases List.eq_nil_or_concat ws with e | ⟨ws', h, e⟩
    · subst e
      refine ⟨fd, s5, s6, ?_, by simp⟩
      unfold iWhile
      have hI : IG (stG cs G v fd [] s5 s6) = .ok (.val (.bl false)) (stG cs G v fd [] s5 s6) := by
        have h0 : ¬ (0 : Int) < (((nu ([] : List Nat)).length : Nat) : Int) := by decide
        simp only [ev_enter, ev_runB, ev_runC, ev_bind, ev_bindL, ev_bindLL, ev_bindRL, ev_bindLU, ev_bindRU, ev_bindS, ev_args0, ev_args, ev_C, ev_var, ev_slotV, ev_slotO, ev_keep, ev_settleV, ev_settleO, ev_settleS, ev_settleSO, ev_settleSV, ev_set, ev_op, ev_okV, ev_okO, ev_okS, ev_okSO, ev_okSV, ev_viewV, ev_viewO, ev_viewS, ev_viewSO, ev_viewSV, ev_nowN, ev_nowB, ev_nowI, ev_nowS, ev_nowT, ev_nowL, ev_nowC, ev_nowF, ev_nowA, ev_nowGL, ev_bl, ev_not, ev_and, ev_or, ev_if, ev_ifS, condE_t, condE_f, condS_t, condS_f, ev_seq, seqO_nx, seqO_rt, seqO_bk, seqO_ct, ev_nil, ev_drop, ev_ret, ev_retV, ev_retO, ev_retS, ev_retSO, ev_retSV, ev_fnR, ev_fnN, ev_call, ev_frz0, ev_frzV, ev_frzO, ev_res, ev_tup, ev_lst, ev_iSet, ev_new, ev_newO, ev_par, ev_bindRs0, ev_bindRsV, ev_bindRsO, ev_for, ev_itOf, ev_chain, ev_cmpI, ev_add, ev_sub, Option.map_some, List.map_cons, List.map_nil, List.all_cons, List.all_nil, Bool.and_true, Bool.true_and, Bool.and_self, if_true, ite_true, eq_self, List.length_cons, List.length_nil, List.replicate, List.cons_append, List.nil_append, List.append_nil, List.getElem?_cons_zero, List.getElem?_cons_succ, List.set_cons_zero, List.set_cons_succ, Nat.reduceAdd, Nat.reduceSub, Nat.zero_add, Nat.add_zero, Nat.sub_self, ev_lenL, h0, decide_false]
      rw [hI]
      rfl
    · rw [List.concat_eq_append] at e
      subst e
      have hh : h < cs.length := hw h (by simp)
      have hc6 := g.col_lt hh
      have hI : IG (stG cs G v fd (ws' ++ [h]) s5 s6) = .ok (.val (.bl true)) (stG cs G v fd (ws' ++ [h]) s5 s6) := by
        have h0 : (0 : Int) < (((nu (ws' ++ [h])).length : Nat) : Int) := by rw [ints_length, List.length_append, List.length_singleton]; omega
        simp only [ev_enter, ev_runB, ev_runC, ev_bind, ev_bindL, ev_bindLL, ev_bindRL, ev_bindLU, ev_bindRU, ev_bindS, ev_args0, ev_args, ev_C, ev_var, ev_slotV, ev_slotO, ev_keep, ev_settleV, ev_settleO, ev_settleS, ev_settleSO, ev_settleSV, ev_set, ev_op, ev_okV, ev_okO, ev_okS, ev_okSO, ev_okSV, ev_viewV, ev_viewO, ev_viewS, ev_viewSO, ev_viewSV, ev_nowN, ev_nowB, ev_nowI, ev_nowS, ev_nowT, ev_nowL, ev_nowC, ev_nowF, ev_nowA, ev_nowGL, ev_bl, ev_not, ev_and, ev_or, ev_if, ev_ifS, condE_t, condE_f, condS_t, condS_f, ev_seq, seqO_nx, seqO_rt, seqO_bk, seqO_ct, ev_nil, ev_drop, ev_ret, ev_retV, ev_retO, ev_retS, ev_retSO, ev_retSV, ev_fnR, ev_fnN, ev_call, ev_frz0, ev_frzV, ev_frzO, ev_res, ev_tup, ev_lst, ev_iSet, ev_new, ev_newO, ev_par, ev_bindRs0, ev_bindRsV, ev_bindRsO, ev_for, ev_itOf, ev_chain, ev_cmpI, ev_add, ev_sub, Option.map_some, List.map_cons, List.map_nil, List.all_cons, List.all_nil, Bool.and_true, Bool.true_and, Bool.and_self, if_true, ite_true, eq_self, List.length_cons, List.length_nil, List.replicate, List.cons_append, List.nil_append, List.append_nil, List.getElem?_cons_zero, List.getElem?_cons_succ, List.set_cons_zero, List.set_cons_succ, Nat.reduceAdd, Nat.reduceSub, Nat.zero_add, Nat.add_zero, Nat.sub_self, ev_lenL, h0, decide_true]
      -- what the last one's lot is
      have hL : FF.L cs (FF.ff cs) 7 h = h :: ((List.range ((FF.ff cs).getD h 0)).map (FF.pick cs (FF.ff cs) h)).flatMap (FF.L cs (FF.ff cs) 7) := by
        show h :: (List.range ((FF.ff cs).getD h 0)).flatMap (fun j => FF.L cs (FF.ff cs) 6 (FF.pick cs (FF.ff cs) h j)) = _
        congr 1
        rw [List.flatMap_map, List.flatMap_def, List.flatMap_def]
        apply congrArg List.flatten
        apply List.map_congr_left
        intro j hj
        have hj := List.mem_range.mp hj
        have hp := g.pick_lt hh hj
        have hcj := g.pick_col hh hj
        exact g.L_eq (by omega) (by omega) (by omega)
      rw [List.flatMap_append, List.length_append] at hm
      have hm2 : (([h] : List Nat).flatMap (FF.L cs (FF.ff cs) 7)).length = (((List.range ((FF.ff cs).getD h 0)).map (FF.pick cs (FF.ff cs) h)).flatMap (FF.L cs (FF.ff cs) 7)).length + 1 := by
        simp only [List.flatMap_cons, List.flatMap_nil, List.append_nil]
        rw [hL, List.length_cons]
      rw [hm2] at hm
      obtain ⟨X, hX⟩ : ∃ X, X = (List.range ((FF.ff cs).getD h 0)).map (FF.pick cs (FF.ff cs) h) := ⟨_, rfl⟩
      rw [← hX] at hm hL
      have hwl : ws'.length ≤ 1000 := by
        rw [List.length_append, List.length_singleton] at hl
        omega
      obtain ⟨s6', hfor⟩ := for_G L G v (fd ++ [h]) ws' h hh s6 hwl
      rw [← hX] at hfor
      have hsz : (nu fd).length < sizeLine := by
        rw [ints_length]
        have e : sizeLine = 16777216 := rfl
        omega
      have hB : BG (stG cs G v fd (ws' ++ [h]) s5 s6) = .nx (stG cs G v (fd ++ [h]) (ws' ++ X) (.val (.int h)) s6') := by
        have hpop : iMut mPop (iVar 4) [] (stG cs G v fd (ws' ++ [h]) s5 s6) = .ok (.val (.int h)) (stG cs G v fd ws' s5 s6) := by
          unfold iMut
          simp only [ev_enter, ev_runB, ev_runC, ev_bind, ev_bindL, ev_bindLL, ev_bindRL, ev_bindLU, ev_bindRU, ev_bindS, ev_args0, ev_args, ev_C, ev_var, ev_slotV, ev_slotO, ev_keep, ev_settleV, ev_settleO, ev_settleS, ev_settleSO, ev_settleSV, ev_set, ev_op, ev_okV, ev_okO, ev_okS, ev_okSO, ev_okSV, ev_viewV, ev_viewO, ev_viewS, ev_viewSO, ev_viewSV, ev_nowN, ev_nowB, ev_nowI, ev_nowS, ev_nowT, ev_nowL, ev_nowC, ev_nowF, ev_nowA, ev_nowGL, ev_bl, ev_not, ev_and, ev_or, ev_if, ev_ifS, condE_t, condE_f, condS_t, condS_f, ev_seq, seqO_nx, seqO_rt, seqO_bk, seqO_ct, ev_nil, ev_drop, ev_ret, ev_retV, ev_retO, ev_retS, ev_retSO, ev_retSV, ev_fnR, ev_fnN, ev_call, ev_frz0, ev_frzV, ev_frzO, ev_res, ev_tup, ev_lst, ev_iSet, ev_new, ev_newO, ev_par, ev_bindRs0, ev_bindRsV, ev_bindRsO, ev_for, ev_itOf, ev_chain, ev_cmpI, ev_add, ev_sub, Option.map_some, List.map_cons, List.map_nil, List.all_cons, List.all_nil, Bool.and_true, Bool.true_and, Bool.and_self, if_true, ite_true, eq_self, List.length_cons, List.length_nil, List.replicate, List.cons_append, List.nil_append, List.append_nil, List.getElem?_cons_zero, List.getElem?_cons_succ, List.set_cons_zero, List.set_cons_succ, Nat.reduceAdd, Nat.reduceSub, Nat.zero_add, Nat.add_zero, Nat.sub_self, ev_recvS, ev_recvSO, pop_last, ev_setS]
        have happ : iMut mAppend (iVar 3) [iKeep (iVar 5)] (stG cs G v fd ws' (.val (.int h)) s6) = .ok (.val .non) (stG cs G v (fd ++ [h]) ws' (.val (.int h)) s6) := by
          unfold iMut
          simp only [ev_enter, ev_runB, ev_runC, ev_bind, ev_bindL, ev_bindLL, ev_bindRL, ev_bindLU, ev_bindRU, ev_bindS, ev_args0, ev_args, ev_C, ev_var, ev_slotV, ev_slotO, ev_keep, ev_settleV, ev_settleO, ev_settleS, ev_settleSO, ev_settleSV, ev_set, ev_op, ev_okV, ev_okO, ev_okS, ev_okSO, ev_okSV, ev_viewV, ev_viewO, ev_viewS, ev_viewSO, ev_viewSV, ev_nowN, ev_nowB, ev_nowI, ev_nowS, ev_nowT, ev_nowL, ev_nowC, ev_nowF, ev_nowA, ev_nowGL, ev_bl, ev_not, ev_and, ev_or, ev_if, ev_ifS, condE_t, condE_f, condS_t, condS_f, ev_seq, seqO_nx, seqO_rt, seqO_bk, seqO_ct, ev_nil, ev_drop, ev_ret, ev_retV, ev_retO, ev_retS, ev_retSO, ev_retSV, ev_fnR, ev_fnN, ev_call, ev_frz0, ev_frzV, ev_frzO, ev_res, ev_tup, ev_lst, ev_iSet, ev_new, ev_newO, ev_par, ev_bindRs0, ev_bindRsV, ev_bindRsO, ev_for, ev_itOf, ev_chain, ev_cmpI, ev_add, ev_sub, Option.map_some, List.map_cons, List.map_nil, List.all_cons, List.all_nil, Bool.and_true, Bool.true_and, Bool.and_self, if_true, ite_true, eq_self, List.length_cons, List.length_nil, List.replicate, List.cons_append, List.nil_append, List.append_nil, List.getElem?_cons_zero, List.getElem?_cons_succ, List.set_cons_zero, List.set_cons_succ, Nat.reduceAdd, Nat.reduceSub, Nat.zero_add, Nat.add_zero, Nat.sub_self, ev_recvS, ev_recvSO, mAppend, hsz, ev_setS, nu_snoc]
        show iSq _ _ _ = _
        rw [ev_seq, ev_iSet, hpop]
        show seqO (.nx (stG cs G v fd ws' (.val (.int h)) s6)) _ = _
        rw [seqO_nx, ev_seq, ev_drop, happ]
        exact hfor
      have hX1 : ∀ x ∈ X, x < cs.length := fun x hx => by
        rw [hX] at hx
        obtain ⟨j, hj, rfl⟩ := List.mem_map.mp hx
        have := g.pick_lt hh (List.mem_range.mp hj)
        omega
      have hXl : X.length ≤ (X.flatMap (FF.L cs (FF.ff cs) 7)).length := by
        clear hX hfor hB hm hL hm2
        induction X with
        | nil => simp
        | cons x X ih =>
          rw [List.flatMap_cons, List.length_append, List.length_cons]
          have := ih fun y hy => hX1 y (List.mem_cons_of_mem _ hy)
          have : 0 < (FF.L cs (FF.ff cs) 7 x).length := by
            show 0 < (x :: _).length
            rw [List.length_cons]
            omega
          omega
      have hwsl : ws'.length ≤ (ws'.flatMap (FF.L cs (FF.ff cs) 7)).length := by
        clear hfor hB hm hI
        induction ws' with
        | nil => simp
        | cons x X ih =>
          rw [List.flatMap_cons, List.length_append, List.length_cons]
          have := ih (fun y hy => hw y (by simp at hy ⊢; exact hy.elim (fun z => .inr (.inl z)) fun z => .inr (.inr z))) (by simp at hl ⊢; omega) (by simp at hwl; omega)
          have : 0 < (FF.L cs (FF.ff cs) 7 x).length := by
            show 0 < (x :: _).length
            rw [List.length_cons]
            omega
          omega
      obtain ⟨fd', t5, t6, k1, k2⟩ := while_G (m - 1) fuel (fd ++ [h]) (ws' ++ X) (.val (.int h)) s6' (fun w hw2 => (List.mem_append.mp hw2).elim (fun z => hw w (List.mem_append_left _ z)) (hX1 w)) (by rw [List.flatMap_append, List.length_append]; omega) (by omega) (by rw [List.length_append, List.length_singleton]; omega) (by rw [List.length_append]; omega)
      refine ⟨fd', t5, t6, ?_, k2.trans ?_⟩
      · unfold iWhile
        rw [hI]
        simp only [ev_bindS, ev_bl, hB, k1]
      · rw [List.flatMap_append, List.flatMap_append]
        simp only [List.flatMap_cons, List.flatMap_nil, List.append_nil]
        rw [hL, List.append_assoc]
        refine List.Perm.append_left fd ?_
        rw [List.cons_append, List.nil_append]
        exact List.perm_middle.symm
end
theorem sp_grown_lot (k : Nat) (cs : List (List Nat)) (L : Let cs) (G : List Ob) (v : Nat) (hv : v < cs.length) : callF (k + 7) 20 [uC cs, .int v] G = .ret (.val (uT (sortN (FF.L cs (FF.ff cs) 7 v)))) G := by
  show runB 8 (B_grown_lot (callF (k + 6))) _ _ = _
  have g := L.good
  have hc6 := g.col_lt hv
  have hlen := g.L_length (f := 7) hv (by omega)
  have hpow : 2 ^ (FF.ff cs).getD v 0 ≤ 2 ^ 6 := Nat.pow_le_pow_right (by decide) (by omega)
  obtain ⟨fd, t5, t6, h1, h2⟩ := while_G L G v (FF.L cs (FF.ff cs) 7 v).length 1000000 [] [v] .non .non (fun w hw => by simp at hw; omega) (by simp) (by omega) (by simp; omega) (by
    simp only [List.length_singleton]
    have := Nat.two_pow_pos ((FF.ff cs).getD v 0)
    omega)
  simp only [List.flatMap_cons, List.flatMap_nil, List.append_nil, List.nil_append] at h2
  have hs : sortN fd = sortN (FF.L cs (FF.ff cs) 7 v) := sortN_one (((sortN_perm _).trans h2.symm)) (sortN_sorted _)
  have hn := sp_is_number (k + 4) v (((cs.map uT).length : Nat) - 1) (Int.natCast_nonneg v) (by rw [List.length_map]; omega) G
  have e0 : Sl.own [] = Sl.own (nu []) := rfl
  have e1 : Sl.own [U.int (v : Int)] = Sl.own (nu [v]) := rfl
  have hw2 : iWhile (iOp (gCmpI fun i j => decide (j < i)) [iOp gLen [iVar 4], iC (.int 0)]) BG 1000000 ⟨[.val (uC cs), .val (.int v), .val (uT (FF.ff cs)), .own (nu []), .own (nu [v]), .non, .non, .non], G⟩ = .nx (stG cs G v fd [] t5 t6) := h1
  simp only [ev_enter, ev_runB, ev_runC, ev_bind, ev_bindL, ev_bindLL, ev_bindRL, ev_bindLU, ev_bindRU, ev_bindS, ev_args0, ev_args, ev_C, ev_var, ev_slotV, ev_slotO, ev_keep, ev_settleV, ev_settleO, ev_settleS, ev_settleSO, ev_settleSV, ev_set, ev_op, ev_okV, ev_okO, ev_okS, ev_okSO, ev_okSV, ev_viewV, ev_viewO, ev_viewS, ev_viewSO, ev_viewSV, ev_nowN, ev_nowB, ev_nowI, ev_nowS, ev_nowT, ev_nowL, ev_nowC, ev_nowF, ev_nowA, ev_nowGL, ev_bl, ev_not, ev_and, ev_or, ev_if, ev_ifS, condE_t, condE_f, condS_t, condS_f, ev_seq, seqO_nx, seqO_rt, seqO_bk, seqO_ct, ev_nil, ev_drop, ev_ret, ev_retV, ev_retO, ev_retS, ev_retSO, ev_retSV, ev_fnR, ev_fnN, ev_call, ev_frz0, ev_frzV, ev_frzO, ev_res, ev_tup, ev_lst, ev_iSet, ev_new, ev_newO, ev_par, ev_bindRs0, ev_bindRsV, ev_bindRsO, ev_for, ev_itOf, ev_chain, ev_cmpI, ev_add, ev_sub, Option.map_some, List.map_cons, List.map_nil, List.all_cons, List.all_nil, Bool.and_true, Bool.true_and, Bool.and_self, if_true, ite_true, eq_self, List.length_cons, List.length_nil, List.replicate, List.cons_append, List.nil_append, List.append_nil, List.getElem?_cons_zero, List.getElem?_cons_succ, List.set_cons_zero, List.set_cons_succ, Nat.reduceAdd, Nat.reduceSub, Nat.zero_add, Nat.add_zero, Nat.sub_self, B_grown_lot, sp_check_comings k cs L, sp_raw_is_forest (k + 5) cs L, Bool.not_true, ev_lenT, hn, sp_raw_led (k + 2) cs L, ev_ixT, atI_1, e0, e1]
  rw [hw2]
  simp only [ev_enter, ev_runB, ev_runC, ev_bind, ev_bindL, ev_bindLL, ev_bindRL, ev_bindLU, ev_bindRU, ev_bindS, ev_args0, ev_args, ev_C, ev_var, ev_slotV, ev_slotO, ev_keep, ev_settleV, ev_settleO, ev_settleS, ev_settleSO, ev_settleSV, ev_set, ev_op, ev_okV, ev_okO, ev_okS, ev_okSO, ev_okSV, ev_viewV, ev_viewO, ev_viewS, ev_viewSO, ev_viewSV, ev_nowN, ev_nowB, ev_nowI, ev_nowS, ev_nowT, ev_nowL, ev_nowC, ev_nowF, ev_nowA, ev_nowGL, ev_bl, ev_not, ev_and, ev_or, ev_if, ev_ifS, condE_t, condE_f, condS_t, condS_f, ev_seq, seqO_nx, seqO_rt, seqO_bk, seqO_ct, ev_nil, ev_drop, ev_ret, ev_retV, ev_retO, ev_retS, ev_retSO, ev_retSV, ev_fnR, ev_fnN, ev_call, ev_frz0, ev_frzV, ev_frzO, ev_res, ev_tup, ev_lst, ev_iSet, ev_new, ev_newO, ev_par, ev_bindRs0, ev_bindRsV, ev_bindRsO, ev_for, ev_itOf, ev_chain, ev_cmpI, ev_add, ev_sub, Option.map_some, List.map_cons, List.map_nil, List.all_cons, List.all_nil, Bool.and_true, Bool.true_and, Bool.and_self, if_true, ite_true, eq_self, List.length_cons, List.length_nil, List.replicate, List.cons_append, List.nil_append, List.append_nil, List.getElem?_cons_zero, List.getElem?_cons_succ, List.set_cons_zero, List.set_cons_succ, Nat.reduceAdd, Nat.reduceSub, Nat.zero_add, Nat.add_zero, Nat.sub_self, ev_sortL, ev_tupleL, hs]
end K59
end T_M5
section T_M6
set_option Elab.async false
set_option linter.all false
set_option maxRecDepth 100000
namespace K59
open PySem PySem.Spec L2 IL
/-- some pot -/
def Pot (o : Ob) : Prop := ∃ cells i b a c, 0 ≤ i ∧ o = .lst (potU cells i b a c)
theorem sp_draw (k : Nat) (o : Ob) (h : Pot o) (many : Nat) (hm : 0 < many) (hm2 : many ≤ 1000000) (G : List Ob) : ∃ (r : Nat) (o' : Ob), r < many ∧ Pot o' ∧ callF (k + 1) 22 [.adr 0, .int many] (o :: G) = .ret (.val (.int r)) (o' :: G) := by
  obtain ⟨cells, i, b, a, c, hi, rfl⟩ := h
  have h9 : ((many : Int)).natAbs.log2 < 9000 := by
    rw [Int.natAbs_natCast]
    exact Nat.lt_of_lt_of_le ((Nat.log2_lt (k := 20) (by omega)).mpr (by omega)) (by decide)
  obtain ⟨r, i', b', a', c', h1, h2, h3, h4⟩ := draw_ok cells i b a c many hi ⟨by omega, h9⟩ G
  obtain ⟨n, rfl⟩ := Int.eq_ofNat_of_zero_le h2
  exact ⟨n, _, by omega, ⟨cells, i', b', a', c', h1, rfl⟩, h4⟩
theorem sp_pot (k : Nat) (ns : List Int) (G : List Ob) : ∃ us, Pot (.lst us) ∧ callF (k + 1) 21 [.scr (ns.map .int)] G = .ret (.own us) G := by
  refine ⟨potU ((ns.take 63).map fun n => if n < 0 then -n else n) 0 0 (733 + 31 * (((ns.take 63).map fun n => if n < 0 then -n else n).length : Int)) 0, ⟨_, _, _, _, _, by omega, rfl⟩, ?_⟩
  show runB 3 (B__law_pot (callF k)) _ _ = _
  have hc : iComp (.nm 2) [2] (iSeqE false (iOp gCut2 [iVar 0, iC (.int 63)])) (iC (.bl true)) (iOp gAbs [iOp gInt [iVar 2]]) ⟨[.val (.scr (ns.map .int)), .non, .non], G⟩ = .ok (.own (((ns.take 63).map fun n => if n < 0 then -n else n).map .int)) ⟨[.val (.scr (ns.map .int)), .non, .non], G⟩ := by
    have q : iComp (.nm 2) [2] (iSeqE false (iOp gCut2 [iVar 0, iC (.int 63)])) (iC (.bl true)) (iOp gAbs [iOp gInt [iVar 2]]) ⟨[.val (.scr (ns.map .int)), .non, .non], G⟩ = .ok (.own (((ns.take 63).map U.int).map fun u => match u with | .int n => .int (if n < 0 then -n else n) | _ => .non)) ⟨[.val (.scr (ns.map .int)), .non, .non], G⟩ := by
      refine comp_map _ (seqE_own false _ _ _ _ ?_) rfl rfl fun u hu => ?_
      · have e := cut2_C (ns.map .int) 63
        have e63 : ((63 : Nat) : Int) = 63 := rfl
        rw [e63] at e
        simp only [ev_enter, ev_runB, ev_runC, ev_bind, ev_bindL, ev_bindLL, ev_bindRL, ev_bindLU, ev_bindRU, ev_bindS, ev_args0, ev_args, ev_C, ev_var, ev_slotV, ev_slotO, ev_keep, ev_settleV, ev_settleO, ev_settleS, ev_settleSO, ev_settleSV, ev_set, ev_op, ev_okV, ev_okO, ev_okS, ev_okSO, ev_okSV, ev_viewV, ev_viewO, ev_viewS, ev_viewSO, ev_viewSV, ev_nowN, ev_nowB, ev_nowI, ev_nowS, ev_nowT, ev_nowL, ev_nowC, ev_nowF, ev_nowA, ev_nowGL, ev_bl, ev_not, ev_and, ev_or, ev_if, ev_ifS, condE_t, condE_f, condS_t, condS_f, ev_seq, seqO_nx, seqO_rt, seqO_bk, seqO_ct, ev_nil, ev_drop, ev_ret, ev_retV, ev_retO, ev_retS, ev_retSO, ev_retSV, ev_fnR, ev_fnN, ev_call, ev_frz0, ev_frzV, ev_frzO, ev_res, ev_tup, ev_lst, ev_iSet, ev_new, ev_newO, ev_par, ev_bindRs0, ev_bindRsV, ev_bindRsO, ev_for, ev_itOf, ev_chain, ev_cmpI, ev_add, ev_sub, Option.map_some, List.map_cons, List.map_nil, List.all_cons, List.all_nil, Bool.and_true, Bool.true_and, Bool.and_self, if_true, ite_true, eq_self, List.length_cons, List.length_nil, List.replicate, List.cons_append, List.nil_append, List.append_nil, List.getElem?_cons_zero, List.getElem?_cons_succ, List.set_cons_zero, List.set_cons_succ, Nat.reduceAdd, Nat.reduceSub, Nat.zero_add, Nat.add_zero, Nat.sub_self, e, List.map_take]
      · obtain ⟨n, hn, rfl⟩ := List.mem_map.mp hu
        refine ⟨⟨[.val (.scr (ns.map .int)), .non, .val (.int n)], G⟩, rfl, ⟨.val (.int (if n < 0 then -n else n)), ?_, rfl⟩, rfl⟩
        simp only [ev_enter, ev_runB, ev_runC, ev_bind, ev_bindL, ev_bindLL, ev_bindRL, ev_bindLU, ev_bindRU, ev_bindS, ev_args0, ev_args, ev_C, ev_var, ev_slotV, ev_slotO, ev_keep, ev_settleV, ev_settleO, ev_settleS, ev_settleSO, ev_settleSV, ev_set, ev_op, ev_okV, ev_okO, ev_okS, ev_okSO, ev_okSV, ev_viewV, ev_viewO, ev_viewS, ev_viewSO, ev_viewSV, ev_nowN, ev_nowB, ev_nowI, ev_nowS, ev_nowT, ev_nowL, ev_nowC, ev_nowF, ev_nowA, ev_nowGL, ev_bl, ev_not, ev_and, ev_or, ev_if, ev_ifS, condE_t, condE_f, condS_t, condS_f, ev_seq, seqO_nx, seqO_rt, seqO_bk, seqO_ct, ev_nil, ev_drop, ev_ret, ev_retV, ev_retO, ev_retS, ev_retSO, ev_retSV, ev_fnR, ev_fnN, ev_call, ev_frz0, ev_frzV, ev_frzO, ev_res, ev_tup, ev_lst, ev_iSet, ev_new, ev_newO, ev_par, ev_bindRs0, ev_bindRsV, ev_bindRsO, ev_for, ev_itOf, ev_chain, ev_cmpI, ev_add, ev_sub, Option.map_some, List.map_cons, List.map_nil, List.all_cons, List.all_nil, Bool.and_true, Bool.true_and, Bool.and_self, if_true, ite_true, eq_self, List.length_cons, List.length_nil, List.replicate, List.cons_append, List.nil_append, List.append_nil, List.getElem?_cons_zero, List.getElem?_cons_succ, List.set_cons_zero, List.set_cons_succ, Nat.reduceAdd, Nat.reduceSub, Nat.zero_add, Nat.add_zero, Nat.sub_self, ev_int, ev_abs]
    rw [q]
    congr 2
    rw [List.map_map, List.map_map]
    rfl
  simp only [ev_enter, ev_runB, ev_runC, ev_bind, ev_bindL, ev_bindLL, ev_bindRL, ev_bindLU, ev_bindRU, ev_bindS, ev_args0, ev_args, ev_C, ev_var, ev_slotV, ev_slotO, ev_keep, ev_settleV, ev_settleO, ev_settleS, ev_settleSO, ev_settleSV, ev_set, ev_op, ev_okV, ev_okO, ev_okS, ev_okSO, ev_okSV, ev_viewV, ev_viewO, ev_viewS, ev_viewSO, ev_viewSV, ev_nowN, ev_nowB, ev_nowI, ev_nowS, ev_nowT, ev_nowL, ev_nowC, ev_nowF, ev_nowA, ev_nowGL, ev_bl, ev_not, ev_and, ev_or, ev_if, ev_ifS, condE_t, condE_f, condS_t, condS_f, ev_seq, seqO_nx, seqO_rt, seqO_bk, seqO_ct, ev_nil, ev_drop, ev_ret, ev_retV, ev_retO, ev_retS, ev_retSO, ev_retSV, ev_fnR, ev_fnN, ev_call, ev_frz0, ev_frzV, ev_frzO, ev_res, ev_tup, ev_lst, ev_iSet, ev_new, ev_newO, ev_par, ev_bindRs0, ev_bindRsV, ev_bindRsO, ev_for, ev_itOf, ev_chain, ev_cmpI, ev_add, ev_sub, Option.map_some, List.map_cons, List.map_nil, List.all_cons, List.all_nil, Bool.and_true, Bool.true_and, Bool.and_self, if_true, ite_true, eq_self, List.length_cons, List.length_nil, List.replicate, List.cons_append, List.nil_append, List.append_nil, List.getElem?_cons_zero, List.getElem?_cons_succ, List.set_cons_zero, List.set_cons_succ, Nat.reduceAdd, Nat.reduceSub, Nat.zero_add, Nat.add_zero, Nat.sub_self, B__law_pot, hc, ev_lenL, List.length_map, ev_mul 31 _ (mulOk_l (by decide)), potU]
theorem sp_any (k : Nat) (o : Ob) (h : Pot o) (l : List Nat) (hl : 0 < l.length) (hl2 : l.length ≤ 1000) (G : List Ob) : ∃ (r : Nat) (o' : Ob), r ∈ l ∧ Pot o' ∧ callF (k + 2) 23 [.adr 0, .lst (nu l)] (o :: G) = .ret (.val (.int r)) (o' :: G) := by
  obtain ⟨r, o', h1, h2, h3⟩ := sp_draw k o h l.length hl (by omega) G
  refine ⟨l[r], o', List.getElem_mem h1, h2, ?_⟩
  show runB 2 (B__law_any (callF (k + 1))) _ _ = _
  have hx : atI (nu l) (r : Int) = some (.int (l[r] : Nat)) := atI_ints (List.getElem?_eq_getElem h1)
  simp only [ev_enter, ev_runB, ev_runC, ev_bind, ev_bindL, ev_bindLL, ev_bindRL, ev_bindLU, ev_bindRU, ev_bindS, ev_args0, ev_args, ev_C, ev_var, ev_slotV, ev_slotO, ev_keep, ev_settleV, ev_settleO, ev_settleS, ev_settleSO, ev_settleSV, ev_set, ev_op, ev_okV, ev_okO, ev_okS, ev_okSO, ev_okSV, ev_viewV, ev_viewO, ev_viewS, ev_viewSO, ev_viewSV, ev_nowN, ev_nowB, ev_nowI, ev_nowS, ev_nowT, ev_nowL, ev_nowC, ev_nowF, ev_nowA, ev_nowGL, ev_bl, ev_not, ev_and, ev_or, ev_if, ev_ifS, condE_t, condE_f, condS_t, condS_f, ev_seq, seqO_nx, seqO_rt, seqO_bk, seqO_ct, ev_nil, ev_drop, ev_ret, ev_retV, ev_retO, ev_retS, ev_retSO, ev_retSV, ev_fnR, ev_fnN, ev_call, ev_frz0, ev_frzV, ev_frzO, ev_res, ev_tup, ev_lst, ev_iSet, ev_new, ev_newO, ev_par, ev_bindRs0, ev_bindRsV, ev_bindRsO, ev_for, ev_itOf, ev_chain, ev_cmpI, ev_add, ev_sub, Option.map_some, List.map_cons, List.map_nil, List.all_cons, List.all_nil, Bool.and_true, Bool.true_and, Bool.and_self, if_true, ite_true, eq_self, List.length_cons, List.length_nil, List.replicate, List.cons_append, List.nil_append, List.append_nil, List.getElem?_cons_zero, List.getElem?_cons_succ, List.set_cons_zero, List.set_cons_succ, Nat.reduceAdd, Nat.reduceSub, Nat.zero_add, Nat.add_zero, Nat.sub_self, B__law_any, ev_lenL, ints_length, h3, ev_ixL, hx]
/-! ### the law's looks at one -/
theorem loop_double (c : Nat) (hc : c ≤ 20) (sl : List Sl) (G : List Ob) (h6 : 6 < sl.length) (h8 : 8 < sl.length) (hs8 : sl[8]? = some (.val (.int 1))) : ∃ sl', iForGo (.nm 6) (iSet 8 (iOp gMul [iC (.int 2), iVar 8])) (nu (List.range c)) ⟨sl, G⟩ = .nx ⟨sl', G⟩ ∧ sl'[8]? = some (.val (.int (2 ^ c : Nat))) ∧ sl'.length = sl.length ∧ ∀ i, i ≠ 6 → i ≠ 8 → sl'[i]? = sl[i]? := by
  obtain ⟨a', h1, h2⟩ := forGo_inv (t := .nm 6) (B := iSet 8 (iOp gMul [iC (.int 2), iVar 8])) (fun i a => ∃ sl', a = ⟨sl', G⟩ ∧ sl'[8]? = some (.val (.int (2 ^ i : Nat))) ∧ sl'.length = sl.length ∧ ∀ i, i ≠ 6 → i ≠ 8 → sl'[i]? = sl[i]?) (nu (List.range c)) 0 ⟨sl, G⟩ ⟨sl, rfl, hs8, rfl, fun _ _ _ => rfl⟩ (by
    rintro j u a hu ⟨sl', rfl, k1, k2, k3⟩
    rw [Nat.zero_add] at k1 ⊢
    have hs : (sl'.set 6 (.val u))[8]? = some (.val (.int (2 ^ j : Nat))) := by rw [List.getElem?_set_ne (by decide)]; exact k1
    refine ⟨⟨sl'.set 6 (.val u), G⟩, ⟨(sl'.set 6 (.val u)).set 8 (.val (.int (2 ^ (j + 1) : Nat))), G⟩, rfl, ?_, _, rfl, ?_, ?_, fun i n6 n8 => ?_⟩
    · have e : (2 : Int) * ((2 ^ j : Nat) : Int) = ((2 ^ (j + 1) : Nat) : Int) := by
        rw [Nat.pow_succ, Int.natCast_mul, Int.mul_comm]
        rfl
      simp only [ev_enter, ev_runB, ev_runC, ev_bind, ev_bindL, ev_bindLL, ev_bindRL, ev_bindLU, ev_bindRU, ev_bindS, ev_args0, ev_args, ev_C, ev_var, ev_slotV, ev_slotO, ev_keep, ev_settleV, ev_settleO, ev_settleS, ev_settleSO, ev_settleSV, ev_set, ev_op, ev_okV, ev_okO, ev_okS, ev_okSO, ev_okSV, ev_viewV, ev_viewO, ev_viewS, ev_viewSO, ev_viewSV, ev_nowN, ev_nowB, ev_nowI, ev_nowS, ev_nowT, ev_nowL, ev_nowC, ev_nowF, ev_nowA, ev_nowGL, ev_bl, ev_not, ev_and, ev_or, ev_if, ev_ifS, condE_t, condE_f, condS_t, condS_f, ev_seq, seqO_nx, seqO_rt, seqO_bk, seqO_ct, ev_nil, ev_drop, ev_ret, ev_retV, ev_retO, ev_retS, ev_retSO, ev_retSV, ev_fnR, ev_fnN, ev_call, ev_frz0, ev_frzV, ev_frzO, ev_res, ev_tup, ev_lst, ev_iSet, ev_new, ev_newO, ev_par, ev_bindRs0, ev_bindRsV, ev_bindRsO, ev_for, ev_itOf, ev_chain, ev_cmpI, ev_add, ev_sub, Option.map_some, List.map_cons, List.map_nil, List.all_cons, List.all_nil, Bool.and_true, Bool.true_and, Bool.and_self, if_true, ite_true, eq_self, List.length_cons, List.length_nil, List.replicate, List.cons_append, List.nil_append, List.append_nil, List.getElem?_cons_zero, List.getElem?_cons_succ, List.set_cons_zero, List.set_cons_succ, Nat.reduceAdd, Nat.reduceSub, Nat.zero_add, Nat.add_zero, Nat.sub_self, hs, ev_mul 2 _ (mulOk_l (by decide)), e]
    · rw [List.getElem?_set_self (by rw [List.length_set]; omega)]
    · rw [List.length_set, List.length_set, k2]
    · rw [List.getElem?_set_ne (Ne.symm n8), List.getElem?_set_ne (Ne.symm n6)]
      exact k3 i n6 n8)
  obtain ⟨sl', rfl, k1, k2, k3⟩ := h2
  rw [Nat.zero_add, ints_length, List.length_range] at k1
  exact ⟨sl', h1, k1, k2, k3⟩
theorem slots9 {sl : List Sl} (h : sl.length = 9) : sl = [sl.getD 0 .non, sl.getD 1 .non, sl.getD 2 .non, sl.getD 3 .non, sl.getD 4 .non, sl.getD 5 .non, sl.getD 6 .non, sl.getD 7 .non, sl.getD 8 .non] := by
  match sl, h with
  | [a, b, c, d, e, f, g, i, j], _ => rfl
theorem lt1000 {cs : List (List Nat)} (L : Let cs) : ∀ n ∈ FF.ff cs, n < 1000 := fun n hn => by
  obtain ⟨i, hi⟩ := List.mem_iff_getElem?.mp hn
  have hl : i < (FF.ff cs).length := (List.getElem?_eq_some_iff.mp hi).1
  have := L.good.col_lt (v := i) (by rw [← L.good.len]; exact hl)
  rw [FF.getD_of hi] at this
  omega
theorem L_lt1000 {cs : List (List Nat)} (L : Let cs) {v : Nat} (hv : v < cs.length) : ∀ n ∈ sortN (FF.L cs (FF.ff cs) 7 v), n < 1000 := fun n hn => by
  have := L.good.L_le hv ((sortN_perm _).mem_iff.mp hn)
  have := L.few
  omega
abbrev Bturn (Φ : Nat → FS) : SS := (iSq (iSet 5 (iIf (iOp (gCmpI fun i j => decide (j ≤ i)) [iVar 2, iOp gLen [iVar 1]]) (iVar 4) (iCallF (Φ 22) [iKeep (iVar 0), iOp gLen [iVar 1]])))
    (iSq (iPar [7, 8] [iCallF (Φ 28) [iKeep (iVar 1), iKeep (iVar 3), iKeep (iVar 5)], iC (.int 1)])
    (iSq (iFor (.nm 6) (itOf gRng1 [iOp gIx [iVar 3, iVar 5]])
    (iSet 8 (iOp gMul [iC (.int 2), iVar 8])))
    (iIfS (iOr (iOp gNe [iOp gLenSet [iVar 7], iVar 8]) (iOp gNe [iOp gRepr [iCallF (Φ 20) [iKeep (iVar 1), iKeep (iVar 5)]], iOp gRepr [iOp gTuple [iOp gSorted [iVar 7]]]]))
    (iRet (iC (.bl false)))
    (iNil)))))
abbrev Brest (Φ : Nat → FS) : SS := (iSq (iPar [7, 8] [iCallF (Φ 28) [iKeep (iVar 1), iKeep (iVar 3), iKeep (iVar 5)], iC (.int 1)])
    (iSq (iFor (.nm 6) (itOf gRng1 [iOp gIx [iVar 3, iVar 5]])
    (iSet 8 (iOp gMul [iC (.int 2), iVar 8])))
    (iIfS (iOr (iOp gNe [iOp gLenSet [iVar 7], iVar 8]) (iOp gNe [iOp gRepr [iCallF (Φ 20) [iKeep (iVar 1), iKeep (iVar 5)]], iOp gRepr [iOp gTuple [iOp gSorted [iVar 7]]]]))
    (iRet (iC (.bl false)))
    (iNil))))
/-- a place that is looked at is right -/
theorem rest_ok (k : Nat) (cs : List (List Nat)) (L : Let cs) (G : List Ob) (most : Nat) (v : Nat) (hv : v < cs.length) (s4 s6 s7 s8 : Sl) : ∃ t6 t7 t8, Brest (callF (k + 7)) ⟨[.val (.adr 0), .val (uC cs), .val (.int most), .val (uT (FF.ff cs)), s4, .val (.int v), s6, s7, s8], G⟩ = .nx ⟨[.val (.adr 0), .val (uC cs), .val (.int most), .val (uT (FF.ff cs)), s4, .val (.int v), t6, t7, t8], G⟩ := by
  have g := L.good
  have hc6 := g.col_lt hv
  obtain ⟨c, hc⟩ : ∃ c, c = (FF.ff cs).getD v 0 := ⟨_, rfl⟩
  have hcl : (FF.ff cs).length = cs.length := g.len
  have hixv : atI (nu (FF.ff cs)) (v : Int) = some (.int (c : Nat)) := by rw [hc]; exact ix_cols (by rw [hcl]; exact hv)
  have hlot := sp_lot k cs L G 7 v hv (by omega)
  obtain ⟨D, hD⟩ : ∃ D, D = FF.L cs (FF.ff cs) 7 v := ⟨_, rfl⟩
  have hlen : D.length = 2 ^ c := by rw [hD, hc]; exact g.L_length hv (by omega)
  have hnd : D.Nodup := by rw [hD]; exact g.L_nodup hv
  have hpow : 2 ^ c ≤ 2 ^ 6 := Nat.pow_le_pow_right (by decide) (by omega)
  have hgl := sp_grown_lot k cs L G v hv
  rw [← hD] at hlot hgl
  have hrep := ev_reprT (sortN D) (by rw [hD]; exact L_lt1000 L hv) (by rw [(sortN_perm D).length_eq]; omega)
  obtain ⟨sl', k1, k2, k3, k4⟩ := loop_double c (by omega) [.val (.adr 0), .val (uC cs), .val (.int most), .val (uT (FF.ff cs)), s4, .val (.int v), s6, .own (nu D), .val (.int 1)] G (by simp) (by simp) rfl
  have e9 := slots9 k3
  have f0 : sl'.getD 0 .non = .val (.adr 0) := by rw [List.getD_eq_getElem?_getD, k4 0 (by decide) (by decide)]; rfl
  have f1 : sl'.getD 1 .non = .val (uC cs) := by rw [List.getD_eq_getElem?_getD, k4 1 (by decide) (by decide)]; rfl
  have f2 : sl'.getD 2 .non = .val (.int most) := by rw [List.getD_eq_getElem?_getD, k4 2 (by decide) (by decide)]; rfl
  have f3 : sl'.getD 3 .non = .val (uT (FF.ff cs)) := by rw [List.getD_eq_getElem?_getD, k4 3 (by decide) (by decide)]; rfl
  have f4 : sl'.getD 4 .non = s4 := by rw [List.getD_eq_getElem?_getD, k4 4 (by decide) (by decide)]; rfl
  have f5 : sl'.getD 5 .non = .val (.int v) := by rw [List.getD_eq_getElem?_getD, k4 5 (by decide) (by decide)]; rfl
  have f7 : sl'.getD 7 .non = .own (nu D) := by rw [List.getD_eq_getElem?_getD, k4 7 (by decide) (by decide)]; rfl
  have f8 : sl'.getD 8 .non = .val (.int (2 ^ c : Nat)) := by rw [List.getD_eq_getElem?_getD, k2]; rfl
  rw [f0, f1, f2, f3, f4, f5, f7, f8] at e9
  rw [e9] at k1
  refine ⟨sl'.getD 6 .non, .own (nu D), .val (.int (2 ^ c : Nat)), ?_⟩
  simp only [ev_enter, ev_runB, ev_runC, ev_bind, ev_bindL, ev_bindLL, ev_bindRL, ev_bindLU, ev_bindRU, ev_bindS, ev_args0, ev_args, ev_C, ev_var, ev_slotV, ev_slotO, ev_keep, ev_settleV, ev_settleO, ev_settleS, ev_settleSO, ev_settleSV, ev_set, ev_op, ev_okV, ev_okO, ev_okS, ev_okSO, ev_okSV, ev_viewV, ev_viewO, ev_viewS, ev_viewSO, ev_viewSV, ev_nowN, ev_nowB, ev_nowI, ev_nowS, ev_nowT, ev_nowL, ev_nowC, ev_nowF, ev_nowA, ev_nowGL, ev_bl, ev_not, ev_and, ev_or, ev_if, ev_ifS, condE_t, condE_f, condS_t, condS_f, ev_seq, seqO_nx, seqO_rt, seqO_bk, seqO_ct, ev_nil, ev_drop, ev_ret, ev_retV, ev_retO, ev_retS, ev_retSO, ev_retSV, ev_fnR, ev_fnN, ev_call, ev_frz0, ev_frzV, ev_frzO, ev_res, ev_tup, ev_lst, ev_iSet, ev_new, ev_newO, ev_par, ev_bindRs0, ev_bindRsV, ev_bindRsO, ev_for, ev_itOf, ev_chain, ev_cmpI, ev_add, ev_sub, Option.map_some, List.map_cons, List.map_nil, List.all_cons, List.all_nil, Bool.and_true, Bool.true_and, Bool.and_self, if_true, ite_true, eq_self, List.length_cons, List.length_nil, List.replicate, List.cons_append, List.nil_append, List.append_nil, List.getElem?_cons_zero, List.getElem?_cons_succ, List.set_cons_zero, List.set_cons_succ, Nat.reduceAdd, Nat.reduceSub, Nat.zero_add, Nat.add_zero, Nat.sub_self, hlot, ev_bindLU, ev_ixT, hixv, rng1 c (by omega), k1, ev_lenSetN D (by omega) hnd, hlen, ev_neI, decide_true, Bool.not_true, hgl, hrep, ev_sortL, ev_tupleL, ne_str]
end K59
end T_M6
section T_M7
set_option Elab.async false
set_option linter.all false
set_option maxRecDepth 100000
namespace K59
open PySem PySem.Spec L2 IL
theorem canLay_colours : PyData.canLay0 (.str "colours") = true := by
  simp only [PyData.canLay0]
  decide +kernel
theorem max_ff (l : List Nat) (n : Nat) (h : ∀ x ∈ n :: l, ∃ b, x ≤ b) : True := True.intro
theorem maxZ_mem : ∀ (l : List Nat) (n : Nat), ∃ m ∈ n :: l, maxZ (n : Int) (toZ l) = (m : Int)
  | [], n => ⟨n, List.mem_cons_self, rfl⟩
  | y :: l, n => by
    show ∃ m ∈ n :: y :: l, maxZ (if (n : Int) < (y : Int) then (y : Int) else (n : Int)) (toZ l) = (m : Int)
    split
    · obtain ⟨m, h1, h2⟩ := maxZ_mem l y
      exact ⟨m, List.mem_cons_of_mem _ h1, h2⟩
    · obtain ⟨m, h1, h2⟩ := maxZ_mem l n
      refine ⟨m, ?_, h2⟩
      rcases List.mem_cons.mp h1 with z | z
      · rw [z]; exact List.mem_cons_self
      · exact List.mem_cons_of_mem _ (List.mem_cons_of_mem _ z)
theorem ev_maxT (n : Nat) (l : List Nat) : ∃ m ∈ n :: l, gMax [.tup (nu (n :: l))] = some (.val (.int (m : Nat))) := by
  obtain ⟨m, h1, h2⟩ := maxZ_mem l n
  refine ⟨m, h1, ?_⟩
  show (match intsU (nu (n :: l)) with | some (n :: ns) => some (R.val (.int (maxZ n ns))) | _ => none) = _
  rw [intsU_ints]
  show some (R.val (.int (maxZ (n : Int) (toZ l)))) = _
  rw [h2]
theorem min2 (a b : Nat) : gMin2 [.int (a : Int), .int (b : Int)] = some (.val (.int ((min a b : Nat) : Int))) := by
  show some (R.val (.int (if (b : Int) < (a : Int) then (b : Int) else (a : Int)))) = _
  by_cases h : b < a
  · rw [if_pos (Int.ofNat_lt.mpr h), Nat.min_eq_right (by omega)]
  · rw [if_neg (fun z => h (Int.ofNat_lt.mp z)), Nat.min_eq_left (by omega)]
/-- the law's look at comings that are let: they are found right -/
theorem sp_fitted_right (k : Nat) (cs : List (List Nat)) (L : Let cs) (most : Nat) (o : Ob) (ho : Pot o) (G : List Ob) : ∃ o', Pot o' ∧ callF (k + 8) 32 [.adr 0, uC cs, .int most] (o :: G) = .ret (.val (.bl true)) (o' :: G) := by
  have g := L.good
  have hcl : (FF.ff cs).length = cs.length := g.len
  obtain ⟨n0, l0, hff⟩ : ∃ n l, FF.ff cs = n :: l := by
    cases h : FF.ff cs with
    | nil => rw [h] at hcl; have := L.some_; simp at hcl; omega
    | cons n l => exact ⟨n, l, rfl⟩
  obtain ⟨m, hm1, hm2⟩ := ev_maxT n0 l0
  rw [← hff] at hm1 hm2
  have hmc : m < figs cs.length := by
    obtain ⟨i, hi⟩ := List.mem_iff_getElem?.mp hm1
    have hl : i < (FF.ff cs).length := (List.getElem?_eq_some_iff.mp hi).1
    have := g.pow_le (v := i) (by omega)
    rw [FF.getD_of hi] at this
    exact lt_figs this
  have hfew := L.few
  have hfig := sp_figures (k + 6) cs.length (Nat.lt_of_le_of_lt hfew (by decide)) (o :: G)
  have hcmp : ¬ (((figs cs.length : Nat) : Int) < (m : Int) + 1) := by omega
  have hr1 := ev_reprCT "colours" canLay_colours (by decide) (FF.ff cs) (lt1000 L) (by omega)
  -- the places
  obtain ⟨a', h1, h2⟩ := forGo_inv (t := .nm 4) (B := Bturn (callF (k + 7))) (fun i a => ∃ s4 s5 s6 s7 s8 o', Pot o' ∧ a = ⟨[.val (.adr 0), .val (uC cs), .val (.int most), .val (uT (FF.ff cs)), s4, s5, s6, s7, s8], o' :: G⟩) (nu (List.range (min most cs.length))) 0 ⟨[.val (.adr 0), .val (uC cs), .val (.int most), .val (uT (FF.ff cs)), .non, .non, .non, .non, .non], o :: G⟩ ⟨_, _, _, _, _, o, ho, rfl⟩ (by
    rintro j u a hu ⟨s4, s5, s6, s7, s8, o1, ho1, rfl⟩
    obtain ⟨j', hj', rfl⟩ := map_get hu
    have hj : j < min most cs.length := by
      have := (List.getElem?_eq_some_iff.mp hj').1
      rwa [List.length_range] at this
    have ej : j' = j := by
      rw [List.getElem?_range hj] at hj'
      exact (Option.some.inj hj').symm
    subst ej
    have hjn : j' < cs.length := by omega
    by_cases hmost : cs.length ≤ most
    · have hge : ((((cs.map uT).length : Nat) : Int) ≤ (most : Int)) := by rw [List.length_map]; omega
      obtain ⟨t6, t7, t8, h⟩ := rest_ok k cs L (o1 :: G) most j' hjn (.val (.int j')) s6 s7 s8
      refine ⟨⟨[.val (.adr 0), .val (uC cs), .val (.int most), .val (uT (FF.ff cs)), .val (.int j'), s5, s6, s7, s8], o1 :: G⟩, _, rfl, ?_, .val (.int j'), .val (.int j'), t6, t7, t8, o1, ho1, rfl⟩
      rw [← h]
      show iSq _ (Brest (callF (k + 7))) _ = _
      rw [ev_seq]
      have q : iSet 5 (iIf (iOp (gCmpI fun i j => decide (j ≤ i)) [iVar 2, iOp gLen [iVar 1]]) (iVar 4) (iCallF (callF (k + 7) 22) [iKeep (iVar 0), iOp gLen [iVar 1]])) ⟨[.val (.adr 0), .val (uC cs), .val (.int most), .val (uT (FF.ff cs)), .val (.int j'), s5, s6, s7, s8], o1 :: G⟩ = .nx ⟨[.val (.adr 0), .val (uC cs), .val (.int most), .val (uT (FF.ff cs)), .val (.int j'), .val (.int j'), s6, s7, s8], o1 :: G⟩ := by
        simp only [ev_enter, ev_runB, ev_runC, ev_bind, ev_bindL, ev_bindLL, ev_bindRL, ev_bindLU, ev_bindRU, ev_bindS, ev_args0, ev_args, ev_C, ev_var, ev_slotV, ev_slotO, ev_keep, ev_settleV, ev_settleO, ev_settleS, ev_settleSO, ev_settleSV, ev_set, ev_op, ev_okV, ev_okO, ev_okS, ev_okSO, ev_okSV, ev_viewV, ev_viewO, ev_viewS, ev_viewSO, ev_viewSV, ev_nowN, ev_nowB, ev_nowI, ev_nowS, ev_nowT, ev_nowL, ev_nowC, ev_nowF, ev_nowA, ev_nowGL, ev_bl, ev_not, ev_and, ev_or, ev_if, ev_ifS, condE_t, condE_f, condS_t, condS_f, ev_seq, seqO_nx, seqO_rt, seqO_bk, seqO_ct, ev_nil, ev_drop, ev_ret, ev_retV, ev_retO, ev_retS, ev_retSO, ev_retSV, ev_fnR, ev_fnN, ev_call, ev_frz0, ev_frzV, ev_frzO, ev_res, ev_tup, ev_lst, ev_iSet, ev_new, ev_newO, ev_par, ev_bindRs0, ev_bindRsV, ev_bindRsO, ev_for, ev_itOf, ev_chain, ev_cmpI, ev_add, ev_sub, Option.map_some, List.map_cons, List.map_nil, List.all_cons, List.all_nil, Bool.and_true, Bool.true_and, Bool.and_self, if_true, ite_true, eq_self, List.length_cons, List.length_nil, List.replicate, List.cons_append, List.nil_append, List.append_nil, List.getElem?_cons_zero, List.getElem?_cons_succ, List.set_cons_zero, List.set_cons_succ, Nat.reduceAdd, Nat.reduceSub, Nat.zero_add, Nat.add_zero, Nat.sub_self, ev_lenT, hge, decide_true]
      rw [q, seqO_nx]
    · have hge : ¬ ((cs.length : Int) ≤ (most : Int)) := by omega
      obtain ⟨r, o2, q1, q2, q3⟩ := sp_draw (k + 6) o1 ho1 cs.length L.some_ (by omega) G
      obtain ⟨t6, t7, t8, h⟩ := rest_ok k cs L (o2 :: G) most r q1 (.val (.int j')) s6 s7 s8
      refine ⟨⟨[.val (.adr 0), .val (uC cs), .val (.int most), .val (uT (FF.ff cs)), .val (.int j'), s5, s6, s7, s8], o1 :: G⟩, _, rfl, ?_, .val (.int j'), .val (.int r), t6, t7, t8, o2, q2, rfl⟩
      rw [← h]
      show iSq _ (Brest (callF (k + 7))) _ = _
      rw [ev_seq]
      have q : iSet 5 (iIf (iOp (gCmpI fun i j => decide (j ≤ i)) [iVar 2, iOp gLen [iVar 1]]) (iVar 4) (iCallF (callF (k + 7) 22) [iKeep (iVar 0), iOp gLen [iVar 1]])) ⟨[.val (.adr 0), .val (uC cs), .val (.int most), .val (uT (FF.ff cs)), .val (.int j'), s5, s6, s7, s8], o1 :: G⟩ = .nx ⟨[.val (.adr 0), .val (uC cs), .val (.int most), .val (uT (FF.ff cs)), .val (.int j'), .val (.int r), s6, s7, s8], o2 :: G⟩ := by
        simp only [ev_enter, ev_runB, ev_runC, ev_bind, ev_bindL, ev_bindLL, ev_bindRL, ev_bindLU, ev_bindRU, ev_bindS, ev_args0, ev_args, ev_C, ev_var, ev_slotV, ev_slotO, ev_keep, ev_settleV, ev_settleO, ev_settleS, ev_settleSO, ev_settleSV, ev_set, ev_op, ev_okV, ev_okO, ev_okS, ev_okSO, ev_okSV, ev_viewV, ev_viewO, ev_viewS, ev_viewSO, ev_viewSV, ev_nowN, ev_nowB, ev_nowI, ev_nowS, ev_nowT, ev_nowL, ev_nowC, ev_nowF, ev_nowA, ev_nowGL, ev_bl, ev_not, ev_and, ev_or, ev_if, ev_ifS, condE_t, condE_f, condS_t, condS_f, ev_seq, seqO_nx, seqO_rt, seqO_bk, seqO_ct, ev_nil, ev_drop, ev_ret, ev_retV, ev_retO, ev_retS, ev_retSO, ev_retSV, ev_fnR, ev_fnN, ev_call, ev_frz0, ev_frzV, ev_frzO, ev_res, ev_tup, ev_lst, ev_iSet, ev_new, ev_newO, ev_par, ev_bindRs0, ev_bindRsV, ev_bindRsO, ev_for, ev_itOf, ev_chain, ev_cmpI, ev_add, ev_sub, Option.map_some, List.map_cons, List.map_nil, List.all_cons, List.all_nil, Bool.and_true, Bool.true_and, Bool.and_self, if_true, ite_true, eq_self, List.length_cons, List.length_nil, List.replicate, List.cons_append, List.nil_append, List.append_nil, List.getElem?_cons_zero, List.getElem?_cons_succ, List.set_cons_zero, List.set_cons_succ, Nat.reduceAdd, Nat.reduceSub, Nat.zero_add, Nat.add_zero, Nat.sub_self, ev_lenT, hge, decide_false, List.length_map, q3]
      rw [q, seqO_nx])
  obtain ⟨s4, s5, s6, s7, s8, o', ho', rfl⟩ := h2
  refine ⟨o', ho', ?_⟩
  show runB 9 (B__law_is_fitted_right (callF (k + 7))) _ _ = _
  have hrng := rng1 (min most cs.length) (by omega)
  simp only [ev_enter, ev_runB, ev_runC, ev_bind, ev_bindL, ev_bindLL, ev_bindRL, ev_bindLU, ev_bindRU, ev_bindS, ev_args0, ev_args, ev_C, ev_var, ev_slotV, ev_slotO, ev_keep, ev_settleV, ev_settleO, ev_settleS, ev_settleSO, ev_settleSV, ev_set, ev_op, ev_okV, ev_okO, ev_okS, ev_okSO, ev_okSV, ev_viewV, ev_viewO, ev_viewS, ev_viewSO, ev_viewSV, ev_nowN, ev_nowB, ev_nowI, ev_nowS, ev_nowT, ev_nowL, ev_nowC, ev_nowF, ev_nowA, ev_nowGL, ev_bl, ev_not, ev_and, ev_or, ev_if, ev_ifS, condE_t, condE_f, condS_t, condS_f, ev_seq, seqO_nx, seqO_rt, seqO_bk, seqO_ct, ev_nil, ev_drop, ev_ret, ev_retV, ev_retO, ev_retS, ev_retSO, ev_retSV, ev_fnR, ev_fnN, ev_call, ev_frz0, ev_frzV, ev_frzO, ev_res, ev_tup, ev_lst, ev_iSet, ev_new, ev_newO, ev_par, ev_bindRs0, ev_bindRsV, ev_bindRsO, ev_for, ev_itOf, ev_chain, ev_cmpI, ev_add, ev_sub, Option.map_some, List.map_cons, List.map_nil, List.all_cons, List.all_nil, Bool.and_true, Bool.true_and, Bool.and_self, if_true, ite_true, eq_self, List.length_cons, List.length_nil, List.replicate, List.cons_append, List.nil_append, List.append_nil, List.getElem?_cons_zero, List.getElem?_cons_succ, List.set_cons_zero, List.set_cons_succ, Nat.reduceAdd, Nat.reduceSub, Nat.zero_add, Nat.add_zero, Nat.sub_self, B__law_is_fitted_right, sp_fitted (k + 6) cs L, sp_led k cs L, hr1, ne_str, sp_is_forest k cs L]
  have hnb : gNotB [.bl true, .bl true] = some (.val (.bl false)) := rfl
  simp only [ev_enter, ev_runB, ev_runC, ev_bind, ev_bindL, ev_bindLL, ev_bindRL, ev_bindLU, ev_bindRU, ev_bindS, ev_args0, ev_args, ev_C, ev_var, ev_slotV, ev_slotO, ev_keep, ev_settleV, ev_settleO, ev_settleS, ev_settleSO, ev_settleSV, ev_set, ev_op, ev_okV, ev_okO, ev_okS, ev_okSO, ev_okSV, ev_viewV, ev_viewO, ev_viewS, ev_viewSO, ev_viewSV, ev_nowN, ev_nowB, ev_nowI, ev_nowS, ev_nowT, ev_nowL, ev_nowC, ev_nowF, ev_nowA, ev_nowGL, ev_bl, ev_not, ev_and, ev_or, ev_if, ev_ifS, condE_t, condE_f, condS_t, condS_f, ev_seq, seqO_nx, seqO_rt, seqO_bk, seqO_ct, ev_nil, ev_drop, ev_ret, ev_retV, ev_retO, ev_retS, ev_retSO, ev_retSV, ev_fnR, ev_fnN, ev_call, ev_frz0, ev_frzV, ev_frzO, ev_res, ev_tup, ev_lst, ev_iSet, ev_new, ev_newO, ev_par, ev_bindRs0, ev_bindRsV, ev_bindRsO, ev_for, ev_itOf, ev_chain, ev_cmpI, ev_add, ev_sub, Option.map_some, List.map_cons, List.map_nil, List.all_cons, List.all_nil, Bool.and_true, Bool.true_and, Bool.and_self, if_true, ite_true, eq_self, List.length_cons, List.length_nil, List.replicate, List.cons_append, List.nil_append, List.append_nil, List.getElem?_cons_zero, List.getElem?_cons_succ, List.set_cons_zero, List.set_cons_succ, Nat.reduceAdd, Nat.reduceSub, Nat.zero_add, Nat.add_zero, Nat.sub_self, hnb, hm2, ev_lenT, List.length_map, hfig, hcmp, decide_false, min2, ev_bindLU, hrng, h1]
end K59
end T_M7
section T_M8
set_option Elab.async false
set_option linter.all false
set_option maxRecDepth 100000
set_option maxHeartbeats 0
namespace FF
def zipIx : Nat → List (List Nat) → List (Nat × List Nat)
  | _, [] => []
  | k, l :: r => (k, l) :: zipIx (k + 1) r
def piecesL (cs : List (List Nat)) : List (List Nat) := (zipIx 0 cs).foldl (fun ps p => pstep IL.sortN ps p.1 p.2) []
def lotsL (ps : List (List Nat)) : List (List Nat) := ps.foldl (fun lots piece => lots ++ lots.flatMap fun lot => piece.map fun x => lot ++ [x]) [[]]
def forestsL : Nat → List (List (List Nat))
  | 0 => [[]]
  | n + 1 => (forestsL n).flatMap fun cs => (lotsL (piecesL cs)).map fun lot => cs ++ [IL.sortN lot]
def grownF : Nat → Nat → List (List Nat)
  | 0, _ => []
  | f + 1, c => let q := (List.range c).foldl (fun (q : List (List Nat) × List Nat) lesser => let found := q.1 ++ (grownF f lesser).map fun lot => lot.map (q.1.length + ·); (found, q.2 ++ [found.length - 1])) ([], [])
    q.1 ++ [q.2]
def grownL (c : Nat) : List (List Nat) := grownF 7 c
def greatL (c way : Nat) : List (List Nat) :=
  let found := grownL c
  let size := found.length
  if way = 0 then found ++ [[size - 1], [size], []] else
  if way = 1 ∧ size < 32 then found ++ found.map (fun lot => lot.map (size + ·)) ++ [[size - 1, 2 * size - 1]] else
  if way = 2 then [[]] ++ found.map (fun lot => lot.map (· + 1)) ++ [[0]] else found
def lookC (cs : List (List Nat)) : Bool := okGo [] cs && (decide (0 < cs.length) && decide (cs.length ≤ 63))
end FF
namespace K59
open PySem PySem.Spec L2 IL
theorem let_of {cs : List (List Nat)} (h : FF.lookC cs = true) : Let cs := by
  unfold FF.lookC at h
  simp only [Bool.and_eq_true, decide_eq_true_eq] at h
  exact ⟨FF.ok_of_look h.1, h.2.2, h.2.1⟩
theorem great_let : ∀ c, c < 6 → ∀ way, way < 4 → FF.lookC (FF.greatL c way) = true := by
  have h : ((List.range 6).all fun c => (List.range 4).all fun way => FF.lookC (FF.greatL c way)) = true := by decide +kernel
  intro c h1 way h2
  exact List.all_eq_true.mp (List.all_eq_true.mp h c (List.mem_range.mpr h1)) way (List.mem_range.mpr h2)
theorem of_maps {α : Type} {f g : Nat → α} {n : Nat} (h : (List.range n).map f = (List.range n).map g) {i : Nat} (hi : i < n) : f i = g i := by
  have e := congrArg (fun l => l[i]?) h
  simp only [List.getElem?_map, List.getElem?_range hi, Option.map_some, Option.some.injEq] at e
  exact e
theorem grown_all (o : Ob) : (List.range 6).map (fun c : Nat => callF 18 29 [.int (c : Int)] [o]) = (List.range 6).map (fun c : Nat => .ret (.own ((FF.grownL c).map uT)) [o]) := by kernel_rfl
theorem least_all (o : Ob) : (List.range 63).map (fun p => callF 19 19 [.int (p + 1 : Nat)] [o]) = (List.range 63).map (fun p => .ret (.val (.int (figs (p + 1) : Nat))) [o]) := by kernel_rfl
def isT : OutF → Bool
  | .ret (.val (.bl true)) _ => true
  | _ => false
theorem isT_of {o : OutF} (h : isT o = true) : ∃ G, o = .ret (.val (.bl true)) G := by
  unfold isT at h
  split at h
  · exact ⟨_, rfl⟩
  · cases h
theorem foe_all (o : Ob) : (List.range 6).map (fun m => isT (callF 19 33 [.int (m + 1 : Nat)] [o])) = (List.range 6).map (fun _ => true) := by kernel_rfl
end K59
end T_M8
section T_M9
set_option Elab.async false
set_option linter.all false
set_option maxRecDepth 100000
namespace IL
open PySem PySem.Spec L2
open PyProof.Rows hiding St
abbrev uL (l : List Nat) : U := .lst (nu l)
def dLs (ls : List (List Nat)) : List PyData := ls.map fun l => PyData.list (dInts l)
theorem toDL_uL : ∀ ls : List (List Nat), toDL (ls.map uL) = some (dLs ls)
  | [] => rfl
  | l :: ls => by
    show (match (toDL (nu l)).map PyData.list, toDL (ls.map uL) with | some d, some ds => some (d :: ds) | _, _ => none) = _
    rw [toDL_uL ls, toDL_ints]
    rfl
theorem canLay_dLs : ∀ ls : List (List Nat), PyData.canLayAll0 (dLs ls) = true
  | [] => by simp only [dLs, List.map_nil, PyData.canLayAll0]
  | l :: ls => by
    have h := canLay_dLs ls
    simp only [dLs] at h
    simp only [dLs, List.map_cons, PyData.canLayAll0, PyData.canLay0, canLay_ints, Bool.true_and, h]
theorem depth_dLs : ∀ ls : List (List Nat), PyData.depthAll (dLs ls) ≤ 1
  | [] => by simp only [dLs, List.map_nil, PyData.depthAll]; omega
  | l :: ls => by
    have h := depth_dLs ls
    simp only [dLs] at h
    simp only [dLs, List.map_cons, PyData.depthAll, PyData.depth, depth_ints]
    omega
theorem shaped_dLs (ls : List (List Nat)) : SeqAt.shaped (.list (dLs ls)) = true := by
  unfold SeqAt.shaped
  simp only [PyData.canLay0, PyData.depth, canLay_dLs, Bool.true_and]
  have := depth_dLs ls
  exact decide_eq_true (by omega)
theorem eqv_ints : ∀ a b : List Nat, PyData.eqvAll (dInts a) (dInts b) = decide (a = b)
  | [], [] => by simp [dInts, PyData.eqvAll]
  | [], b :: bs => by simp [dInts, PyData.eqvAll]
  | a :: as, [] => by simp [dInts, PyData.eqvAll]
  | a :: as, b :: bs => by
    have h := eqv_ints as bs
    simp only [dInts] at h
    simp only [dInts, List.map_cons, PyData.eqvAll, PyData.eqv, h]
    rw [Bool.eq_iff_iff]
    simp only [Bool.and_eq_true, beq_iff_eq, decide_eq_true_eq, List.cons.injEq, Int.ofNat_inj]
theorem any_dLs (p : List Nat) : ∀ ls : List (List Nat), ((dLs ls).any fun z => PyData.eqv z (.list (dInts p))) = decide (p ∈ ls)
  | [] => by simp [dLs]
  | l :: ls => by
    have h := any_dLs p ls
    simp only [dLs] at h
    simp only [dLs, List.map_cons, List.any_cons, h, PyData.eqv, eqv_ints]
    rw [Bool.eq_iff_iff]
    simp only [Bool.or_eq_true, decide_eq_true_eq, List.mem_cons]
    exact ⟨fun z => z.imp Eq.symm id, fun z => z.imp Eq.symm id⟩
theorem ev_notInLs (p : List Nat) (ls : List (List Nat)) : gNotIn [uL p, .lst (ls.map uL)] = some (.val (.bl (!decide (p ∈ ls)))) := by
  show (inU _ _).map _ = _
  have e : inU (uL p) (.lst (ls.map uL)) = some (decide (p ∈ ls)) := by
    show (match U.toD (uL p), toDL (ls.map uL) with | some d, some ds => if SeqAt.shaped d && SeqAt.shaped (.list ds) then some (ds.any fun z => PyData.eqv z d) else none | _, _ => none) = _
    show (match (toDL (nu p)).map PyData.list, toDL (ls.map uL) with | some d, some ds => if SeqAt.shaped d && SeqAt.shaped (.list ds) then some (ds.any fun z => PyData.eqv z d) else none | _, _ => none) = _
    rw [toDL_ints, toDL_uL]
    show (if SeqAt.shaped (.list (dInts p)) && SeqAt.shaped (.list (dLs ls)) then some ((dLs ls).any fun z => PyData.eqv z (.list (dInts p))) else none) = _
    rw [shaped_ints, shaped_dLs, any_dLs]
    rfl
  rw [e]
  rfl
theorem forD_inv {t : Tg} {en : Bool} {n : Nat} {us0 : List U} {B : SS} (Inv : Nat → ASt → Prop) (hs : ∀ i a, Inv i a → sameL a n us0 = true) : ∀ (us : List U) (i : Nat) (a : ASt), Inv i a → (∀ j u a, us[j]? = some u → Inv (i + j) a → ∃ a1 a2, bindT t (if en then .tup [.int ((i + j : Nat) : Int), u] else u) a = some a1 ∧ B a1 = .nx a2 ∧ Inv (i + j + 1) a2) → ∃ a', iForD t en n us0 B i us a = .nx a' ∧ Inv (i + us.length) a'
  | [], i, a, h0, h => ⟨a, by unfold iForD; rw [if_pos (hs i a h0)], h0⟩
  | u :: us, i, a, h0, h => by
    obtain ⟨a1, a2, h1, h2, h3⟩ := h 0 u a rfl h0
    obtain ⟨a', h4, h5⟩ := forD_inv Inv hs us (i + 1) a2 h3 fun j w b hw hb => by
      have e : i + 1 + j = i + (j + 1) := by omega
      rw [e] at hb
      have z := h (j + 1) w b (by simpa using hw) hb
      rw [e]
      exact z
    refine ⟨a', ?_, by rw [List.length_cons, show i + (us.length + 1) = i + 1 + us.length by omega]; exact h5⟩
    unfold iForD
    rw [if_pos (hs i a h0)]
    rw [Nat.add_zero] at h1
    rw [h1]
    simp only [h2, h4]
end IL
namespace K59
open PySem PySem.Spec L2 IL
abbrev Bpc : SS := (iSq (iSet 4 (iComp (.nm 6) [6] (iSeqE false (iVar 1)) (iOp gAny [iComp (.nm 7) [7] (iSeqE false (iVar 6)) (iC (.bl true)) (iOp gIn [iVar 7, iVar 3])]) (iVar 6)))
    (iSq (iSet 1 (iComp (.nm 6) [6] (iSeqE false (iVar 1)) (iOp gNotIn [iVar 6, iVar 4]) (iVar 6)))
    (iSq (iSet 5 (iLst [iKeep (iVar 2)]))
    (iSq (iFor (.nm 6) (iSeqE true (iVar 4))
    (iDrop (iMut mExtend (iVar 5) [iKeep (iVar 6)])))
    (iDrop (iMut mAppend (iVar 1) [iOp gSorted [iVar 5]]))))))
theorem seqE_slO (I : ES) (a a1 : ASt) (i : Nat) (us : List U) (h : I a = .ok (.slot i) a1) (hs : a1.sl[i]? = some (.own us)) : iSeqE true I a = .ok us (a1.set i (.val (.lst us))) := by
  unfold iSeqE
  rw [h]
  show (match a1.sl[i]? with | some (.own us) => if true = true then Out.ok us (a1.set i (.val (.lst us))) else .ok us a1 | some (.val u) => _ | _ => _) = _
  rw [hs]
  rfl
theorem flat_le {ps : List (List Nat)} (f : List Nat → Bool) : (ps.filter f).flatten.length ≤ ps.flatten.length := by
  induction ps with
  | nil => simp
  | cons p ps ih =>
    rw [List.filter_cons]
    split
    · simp only [List.flatten_cons, List.length_append]; omega
    · simp only [List.flatten_cons, List.length_append]; omega
theorem pc_step_sem (c0 : Sl) (ps : List (List Nat)) (t : Nat) (lot : List Nat) (s4 s5 s6 : Sl) (h6 : s6.plain = true) (hps : ps.length ≤ 1000) (hfl : ps.flatten.length ≤ 1000) (G : List Ob) :
    ∃ t4 t5 t6, t6.plain = true ∧ Bpc ⟨[c0, .own (ps.map uL), .val (.int t), .val (uT lot), s4, s5, s6, .non], G⟩ = .nx ⟨[c0, .own ((FF.pstep sortN ps t lot).map uL), .val (.int t), .val (uT lot), t4, t5, t6, .non], G⟩ := by
  have hplain : ([6].all fun v => (([c0, .own (ps.map uL), .val (.int t), .val (uT lot), s4, s5, s6, .non] : List Sl).getD v .non).plain) = true := by
    show (s6.plain && true) = true
    rw [h6]
    rfl
  -- the pieces that are met
  have hmine : iComp (.nm 6) [6] (iSeqE false (iVar 1)) (iOp gAny [iComp (.nm 7) [7] (iSeqE false (iVar 6)) (iC (.bl true)) (iOp gIn [iVar 7, iVar 3])]) (iVar 6) ⟨[c0, .own (ps.map uL), .val (.int t), .val (uT lot), s4, s5, s6, .non], G⟩ = .ok (.own ((ps.filter (FF.hit lot)).map uL)) ⟨[c0, .own (ps.map uL), .val (.int t), .val (uT lot), s4, s5, s6, .non], G⟩ := by
    have q := comp_pure (t := .nm 6) (vs := [6]) (it := iSeqE false (iVar 1)) (ct := iOp gAny [iComp (.nm 7) [7] (iSeqE false (iVar 6)) (iC (.bl true)) (iOp gIn [iVar 7, iVar 3])]) (el := iVar 6) (a := ⟨[c0, .own (ps.map uL), .val (.int t), .val (uT lot), s4, s5, s6, .non], G⟩) (a1 := ⟨[c0, .own (ps.map uL), .val (.int t), .val (uT lot), s4, s5, s6, .non], G⟩) (us := ps.map uL)
      (fun u => match u with | .lst us => us.any fun w => (match w with | .int n => decide (n.toNat ∈ lot) | _ => false) | _ => false) (fun u => u) (seqE_sl _ _ _ 1 _ rfl rfl) hplain rfl fun u hu => by
      obtain ⟨p, hp, rfl⟩ := List.mem_map.mp hu
      refine ⟨⟨[c0, .own (ps.map uL), .val (.int t), .val (uT lot), s4, s5, .val (uL p), .non], G⟩, rfl, ?_, fun _ => ⟨.val (uL p), by simp only [ev_enter, ev_runB, ev_runC, ev_bind, ev_bindL, ev_bindLL, ev_bindRL, ev_bindLU, ev_bindRU, ev_bindS, ev_args0, ev_args, ev_C, ev_var, ev_slotV, ev_slotO, ev_keep, ev_settleV, ev_settleO, ev_settleS, ev_settleSO, ev_settleSV, ev_set, ev_op, ev_okV, ev_okO, ev_okS, ev_okSO, ev_okSV, ev_viewV, ev_viewO, ev_viewS, ev_viewSO, ev_viewSV, ev_nowN, ev_nowB, ev_nowI, ev_nowS, ev_nowT, ev_nowL, ev_nowC, ev_nowF, ev_nowA, ev_nowGL, ev_bl, ev_not, ev_and, ev_or, ev_if, ev_ifS, condE_t, condE_f, condS_t, condS_f, ev_seq, seqO_nx, seqO_rt, seqO_bk, seqO_ct, ev_nil, ev_drop, ev_ret, ev_retV, ev_retO, ev_retS, ev_retSO, ev_retSV, ev_fnR, ev_fnN, ev_call, ev_frz0, ev_frzV, ev_frzO, ev_res, ev_tup, ev_lst, ev_iSet, ev_new, ev_newO, ev_par, ev_bindRs0, ev_bindRsV, ev_bindRsO, ev_for, ev_itOf, ev_chain, ev_cmpI, ev_add, ev_sub, Option.map_some, List.map_cons, List.map_nil, List.all_cons, List.all_nil, Bool.and_true, Bool.true_and, Bool.and_self, if_true, ite_true, eq_self, List.length_cons, List.length_nil, List.replicate, List.cons_append, List.nil_append, List.append_nil, List.getElem?_cons_zero, List.getElem?_cons_succ, List.set_cons_zero, List.set_cons_succ, Nat.reduceAdd, Nat.reduceSub, Nat.zero_add, Nat.add_zero, Nat.sub_self], rfl⟩, rfl⟩
      have hin : iComp (.nm 7) [7] (iSeqE false (iVar 6)) (iC (.bl true)) (iOp gIn [iVar 7, iVar 3]) ⟨[c0, .own (ps.map uL), .val (.int t), .val (uT lot), s4, s5, .val (uL p), .non], G⟩ = .ok (.own ((p.map fun n => decide (n ∈ lot)).map .bl)) ⟨[c0, .own (ps.map uL), .val (.int t), .val (uT lot), s4, s5, .val (uL p), .non], G⟩ := by
        have q2 := comp_map (t := .nm 7) (vs := [7]) (it := iSeqE false (iVar 6)) (el := iOp gIn [iVar 7, iVar 3]) (a := ⟨[c0, .own (ps.map uL), .val (.int t), .val (uT lot), s4, s5, .val (uL p), .non], G⟩) (a1 := ⟨[c0, .own (ps.map uL), .val (.int t), .val (uT lot), s4, s5, .val (uL p), .non], G⟩) (us := nu p) (fun u => match u with | .int n => .bl (decide (n.toNat ∈ lot)) | _ => .non) (seqE_lst _ _ _ _ _ rfl) rfl rfl fun u hu => by
          obtain ⟨n, hn, rfl⟩ := List.mem_map.mp hu
          refine ⟨⟨[c0, .own (ps.map uL), .val (.int t), .val (uT lot), s4, s5, .val (uL p), .val (.int n)], G⟩, rfl, ⟨.val (.bl (decide (n ∈ lot))), ?_, rfl⟩, rfl⟩
          simp only [ev_enter, ev_runB, ev_runC, ev_bind, ev_bindL, ev_bindLL, ev_bindRL, ev_bindLU, ev_bindRU, ev_bindS, ev_args0, ev_args, ev_C, ev_var, ev_slotV, ev_slotO, ev_keep, ev_settleV, ev_settleO, ev_settleS, ev_settleSO, ev_settleSV, ev_set, ev_op, ev_okV, ev_okO, ev_okS, ev_okSO, ev_okSV, ev_viewV, ev_viewO, ev_viewS, ev_viewSO, ev_viewSV, ev_nowN, ev_nowB, ev_nowI, ev_nowS, ev_nowT, ev_nowL, ev_nowC, ev_nowF, ev_nowA, ev_nowGL, ev_bl, ev_not, ev_and, ev_or, ev_if, ev_ifS, condE_t, condE_f, condS_t, condS_f, ev_seq, seqO_nx, seqO_rt, seqO_bk, seqO_ct, ev_nil, ev_drop, ev_ret, ev_retV, ev_retO, ev_retS, ev_retSO, ev_retSV, ev_fnR, ev_fnN, ev_call, ev_frz0, ev_frzV, ev_frzO, ev_res, ev_tup, ev_lst, ev_iSet, ev_new, ev_newO, ev_par, ev_bindRs0, ev_bindRsV, ev_bindRsO, ev_for, ev_itOf, ev_chain, ev_cmpI, ev_add, ev_sub, Option.map_some, List.map_cons, List.map_nil, List.all_cons, List.all_nil, Bool.and_true, Bool.true_and, Bool.and_self, if_true, ite_true, eq_self, List.length_cons, List.length_nil, List.replicate, List.cons_append, List.nil_append, List.append_nil, List.getElem?_cons_zero, List.getElem?_cons_succ, List.set_cons_zero, List.set_cons_succ, Nat.reduceAdd, Nat.reduceSub, Nat.zero_add, Nat.add_zero, Nat.sub_self, ev_inT]
        rw [q2]
        congr 2
        unfold nu
        rw [List.map_map, List.map_map]
        rfl
      simp only [ev_enter, ev_runB, ev_runC, ev_bind, ev_bindL, ev_bindLL, ev_bindRL, ev_bindLU, ev_bindRU, ev_bindS, ev_args0, ev_args, ev_C, ev_var, ev_slotV, ev_slotO, ev_keep, ev_settleV, ev_settleO, ev_settleS, ev_settleSO, ev_settleSV, ev_set, ev_op, ev_okV, ev_okO, ev_okS, ev_okSO, ev_okSV, ev_viewV, ev_viewO, ev_viewS, ev_viewSO, ev_viewSV, ev_nowN, ev_nowB, ev_nowI, ev_nowS, ev_nowT, ev_nowL, ev_nowC, ev_nowF, ev_nowA, ev_nowGL, ev_bl, ev_not, ev_and, ev_or, ev_if, ev_ifS, condE_t, condE_f, condS_t, condS_f, ev_seq, seqO_nx, seqO_rt, seqO_bk, seqO_ct, ev_nil, ev_drop, ev_ret, ev_retV, ev_retO, ev_retS, ev_retSO, ev_retSV, ev_fnR, ev_fnN, ev_call, ev_frz0, ev_frzV, ev_frzO, ev_res, ev_tup, ev_lst, ev_iSet, ev_new, ev_newO, ev_par, ev_bindRs0, ev_bindRsV, ev_bindRsO, ev_for, ev_itOf, ev_chain, ev_cmpI, ev_add, ev_sub, Option.map_some, List.map_cons, List.map_nil, List.all_cons, List.all_nil, Bool.and_true, Bool.true_and, Bool.and_self, if_true, ite_true, eq_self, List.length_cons, List.length_nil, List.replicate, List.cons_append, List.nil_append, List.append_nil, List.getElem?_cons_zero, List.getElem?_cons_succ, List.set_cons_zero, List.set_cons_succ, Nat.reduceAdd, Nat.reduceSub, Nat.zero_add, Nat.add_zero, Nat.sub_self, hin, ev_anyB]
      congr 3
      unfold nu
      rw [List.any_map, List.any_map]
      rfl
    rw [q, List.map_id', List.filter_map]
    congr 3
    apply List.filter_congr
    intro p hp
    show ((nu p).any _) = _
    unfold nu FF.hit
    rw [List.any_map]
    rfl
  obtain ⟨mine, hm⟩ : ∃ m, m = ps.filter (FF.hit lot) := ⟨_, rfl⟩
  rw [← hm] at hmine
  have hrest : iComp (.nm 6) [6] (iSeqE false (iVar 1)) (iOp gNotIn [iVar 6, iVar 4]) (iVar 6) ⟨[c0, .own (ps.map uL), .val (.int t), .val (uT lot), .own (mine.map uL), s5, s6, .non], G⟩ = .ok (.own ((ps.filter fun p => !FF.hit lot p).map uL)) ⟨[c0, .own (ps.map uL), .val (.int t), .val (uT lot), .own (mine.map uL), s5, s6, .non], G⟩ := by
    have q := comp_pure (t := .nm 6) (vs := [6]) (it := iSeqE false (iVar 1)) (ct := iOp gNotIn [iVar 6, iVar 4]) (el := iVar 6) (a := ⟨[c0, .own (ps.map uL), .val (.int t), .val (uT lot), .own (mine.map uL), s5, s6, .non], G⟩) (a1 := ⟨[c0, .own (ps.map uL), .val (.int t), .val (uT lot), .own (mine.map uL), s5, s6, .non], G⟩) (us := ps.map uL)
      (fun u => match u with | .lst us => !decide ((us.map fun w => match w with | .int n => n.toNat | _ => 0) ∈ mine) | _ => false) (fun u => u) (seqE_sl _ _ _ 1 _ rfl rfl) hplain rfl fun u hu => by
      obtain ⟨p, hp, rfl⟩ := List.mem_map.mp hu
      refine ⟨⟨[c0, .own (ps.map uL), .val (.int t), .val (uT lot), .own (mine.map uL), s5, .val (uL p), .non], G⟩, rfl, ?_, fun _ => ⟨.val (uL p), by simp only [ev_enter, ev_runB, ev_runC, ev_bind, ev_bindL, ev_bindLL, ev_bindRL, ev_bindLU, ev_bindRU, ev_bindS, ev_args0, ev_args, ev_C, ev_var, ev_slotV, ev_slotO, ev_keep, ev_settleV, ev_settleO, ev_settleS, ev_settleSO, ev_settleSV, ev_set, ev_op, ev_okV, ev_okO, ev_okS, ev_okSO, ev_okSV, ev_viewV, ev_viewO, ev_viewS, ev_viewSO, ev_viewSV, ev_nowN, ev_nowB, ev_nowI, ev_nowS, ev_nowT, ev_nowL, ev_nowC, ev_nowF, ev_nowA, ev_nowGL, ev_bl, ev_not, ev_and, ev_or, ev_if, ev_ifS, condE_t, condE_f, condS_t, condS_f, ev_seq, seqO_nx, seqO_rt, seqO_bk, seqO_ct, ev_nil, ev_drop, ev_ret, ev_retV, ev_retO, ev_retS, ev_retSO, ev_retSV, ev_fnR, ev_fnN, ev_call, ev_frz0, ev_frzV, ev_frzO, ev_res, ev_tup, ev_lst, ev_iSet, ev_new, ev_newO, ev_par, ev_bindRs0, ev_bindRsV, ev_bindRsO, ev_for, ev_itOf, ev_chain, ev_cmpI, ev_add, ev_sub, Option.map_some, List.map_cons, List.map_nil, List.all_cons, List.all_nil, Bool.and_true, Bool.true_and, Bool.and_self, if_true, ite_true, eq_self, List.length_cons, List.length_nil, List.replicate, List.cons_append, List.nil_append, List.append_nil, List.getElem?_cons_zero, List.getElem?_cons_succ, List.set_cons_zero, List.set_cons_succ, Nat.reduceAdd, Nat.reduceSub, Nat.zero_add, Nat.add_zero, Nat.sub_self], rfl⟩, rfl⟩
      simp only [ev_enter, ev_runB, ev_runC, ev_bind, ev_bindL, ev_bindLL, ev_bindRL, ev_bindLU, ev_bindRU, ev_bindS, ev_args0, ev_args, ev_C, ev_var, ev_slotV, ev_slotO, ev_keep, ev_settleV, ev_settleO, ev_settleS, ev_settleSO, ev_settleSV, ev_set, ev_op, ev_okV, ev_okO, ev_okS, ev_okSO, ev_okSV, ev_viewV, ev_viewO, ev_viewS, ev_viewSO, ev_viewSV, ev_nowN, ev_nowB, ev_nowI, ev_nowS, ev_nowT, ev_nowL, ev_nowC, ev_nowF, ev_nowA, ev_nowGL, ev_bl, ev_not, ev_and, ev_or, ev_if, ev_ifS, condE_t, condE_f, condS_t, condS_f, ev_seq, seqO_nx, seqO_rt, seqO_bk, seqO_ct, ev_nil, ev_drop, ev_ret, ev_retV, ev_retO, ev_retS, ev_retSO, ev_retSV, ev_fnR, ev_fnN, ev_call, ev_frz0, ev_frzV, ev_frzO, ev_res, ev_tup, ev_lst, ev_iSet, ev_new, ev_newO, ev_par, ev_bindRs0, ev_bindRsV, ev_bindRsO, ev_for, ev_itOf, ev_chain, ev_cmpI, ev_add, ev_sub, Option.map_some, List.map_cons, List.map_nil, List.all_cons, List.all_nil, Bool.and_true, Bool.true_and, Bool.and_self, if_true, ite_true, eq_self, List.length_cons, List.length_nil, List.replicate, List.cons_append, List.nil_append, List.append_nil, List.getElem?_cons_zero, List.getElem?_cons_succ, List.set_cons_zero, List.set_cons_succ, Nat.reduceAdd, Nat.reduceSub, Nat.zero_add, Nat.add_zero, Nat.sub_self, ev_notInLs]
      congr 6
      unfold nu
      rw [List.map_map]
      exact (List.map_id' p).symm
    rw [q, List.map_id', List.filter_map]
    congr 3
    apply List.filter_congr
    intro p hp
    show (!decide (((nu p).map _) ∈ mine)) = _
    have e : ((nu p).map fun w => match w with | .int n => n.toNat | _ => 0) = p := by
      unfold nu
      rw [List.map_map]
      exact List.map_id' p
    rw [e, hm]
    congr 1
    rw [Bool.eq_iff_iff, decide_eq_true_eq, List.mem_filter]
    exact ⟨fun z => z.2, fun z => ⟨hp, z⟩⟩
  obtain ⟨rs, hrs⟩ : ∃ m, m = ps.filter fun p => !FF.hit lot p := ⟨_, rfl⟩
  rw [← hrs] at hrest
  have hml : mine.flatten.length ≤ 1000 := by rw [hm]; exact Nat.le_trans (flat_le _) hfl
  have hsz0 : sizeLine = 16777216 := rfl
  obtain ⟨a', h1, t6, h6', rfl⟩ := forGo_inv (t := .nm 6) (B := iDrop (iMut mExtend (iVar 5) [iKeep (iVar 6)])) (fun i a => ∃ t6, t6.plain = true ∧ a = ⟨[c0, .own (rs.map uL), .val (.int t), .val (uT lot), .val (.lst (mine.map uL)), .own (nu (t :: (mine.take i).flatten)), t6, .non], G⟩) (mine.map uL) 0 ⟨[c0, .own (rs.map uL), .val (.int t), .val (uT lot), .val (.lst (mine.map uL)), .own (nu [t]), s6, .non], G⟩ ⟨s6, h6, rfl⟩ (by
    rintro j u a hu ⟨t6, k6, rfl⟩
    rw [Nat.zero_add]
    obtain ⟨p, hp, rfl⟩ := map_get hu
    obtain ⟨fd, hfd⟩ : ∃ x, x = t :: (mine.take j).flatten := ⟨_, rfl⟩
    have hnew : nu fd ++ nu p = nu (t :: (mine.take (j + 1)).flatten) := by
      rw [hfd, FF.take_succ_of hp, List.flatten_append]
      unfold nu
      simp only [List.map_cons, List.map_append, List.flatten_cons, List.flatten_nil, List.append_nil, List.cons_append]
    have hsz : (nu fd).length + (nu p).length ≤ sizeLine := by
      rw [← List.length_append, hnew, ints_length, List.length_cons]
      have ea : (mine.take (j + 1)).flatten ++ (mine.drop (j + 1)).flatten = mine.flatten := by rw [← List.flatten_append, List.take_append_drop]
      have : ((mine.take (j + 1)).flatten).length ≤ mine.flatten.length := by
        rw [← ea, List.length_append]
        omega
      omega
    refine ⟨⟨[c0, .own (rs.map uL), .val (.int t), .val (uT lot), .val (.lst (mine.map uL)), .own (nu fd), .val (uL p), .non], G⟩, ⟨[c0, .own (rs.map uL), .val (.int t), .val (uT lot), .val (.lst (mine.map uL)), .own (nu (t :: (mine.take (j + 1)).flatten)), .val (uL p), .non], G⟩, by rw [hfd]; rfl, ?_, _, rfl, rfl⟩
    have hmut : iMut mExtend (iVar 5) [iKeep (iVar 6)] ⟨[c0, .own (rs.map uL), .val (.int t), .val (uT lot), .val (.lst (mine.map uL)), .own (nu fd), .val (uL p), .non], G⟩ = .ok (.val .non) ⟨[c0, .own (rs.map uL), .val (.int t), .val (uT lot), .val (.lst (mine.map uL)), .own (nu (t :: (mine.take (j + 1)).flatten)), .val (uL p), .non], G⟩ := by
      unfold iMut
      simp only [ev_enter, ev_runB, ev_runC, ev_bind, ev_bindL, ev_bindLL, ev_bindRL, ev_bindLU, ev_bindRU, ev_bindS, ev_args0, ev_args, ev_C, ev_var, ev_slotV, ev_slotO, ev_keep, ev_settleV, ev_settleO, ev_settleS, ev_settleSO, ev_settleSV, ev_set, ev_op, ev_okV, ev_okO, ev_okS, ev_okSO, ev_okSV, ev_viewV, ev_viewO, ev_viewS, ev_viewSO, ev_viewSV, ev_nowN, ev_nowB, ev_nowI, ev_nowS, ev_nowT, ev_nowL, ev_nowC, ev_nowF, ev_nowA, ev_nowGL, ev_bl, ev_not, ev_and, ev_or, ev_if, ev_ifS, condE_t, condE_f, condS_t, condS_f, ev_seq, seqO_nx, seqO_rt, seqO_bk, seqO_ct, ev_nil, ev_drop, ev_ret, ev_retV, ev_retO, ev_retS, ev_retSO, ev_retSV, ev_fnR, ev_fnN, ev_call, ev_frz0, ev_frzV, ev_frzO, ev_res, ev_tup, ev_lst, ev_iSet, ev_new, ev_newO, ev_par, ev_bindRs0, ev_bindRsV, ev_bindRsO, ev_for, ev_itOf, ev_chain, ev_cmpI, ev_add, ev_sub, Option.map_some, List.map_cons, List.map_nil, List.all_cons, List.all_nil, Bool.and_true, Bool.true_and, Bool.and_self, if_true, ite_true, eq_self, List.length_cons, List.length_nil, List.replicate, List.cons_append, List.nil_append, List.append_nil, List.getElem?_cons_zero, List.getElem?_cons_succ, List.set_cons_zero, List.set_cons_succ, Nat.reduceAdd, Nat.reduceSub, Nat.zero_add, Nat.add_zero, Nat.sub_self, ev_recvS, ev_recvSO, mExtend, hsz, ev_setS, hnew]
    simp only [ev_enter, ev_runB, ev_runC, ev_bind, ev_bindL, ev_bindLL, ev_bindRL, ev_bindLU, ev_bindRU, ev_bindS, ev_args0, ev_args, ev_C, ev_var, ev_slotV, ev_slotO, ev_keep, ev_settleV, ev_settleO, ev_settleS, ev_settleSO, ev_settleSV, ev_set, ev_op, ev_okV, ev_okO, ev_okS, ev_okSO, ev_okSV, ev_viewV, ev_viewO, ev_viewS, ev_viewSO, ev_viewSV, ev_nowN, ev_nowB, ev_nowI, ev_nowS, ev_nowT, ev_nowL, ev_nowC, ev_nowF, ev_nowA, ev_nowGL, ev_bl, ev_not, ev_and, ev_or, ev_if, ev_ifS, condE_t, condE_f, condS_t, condS_f, ev_seq, seqO_nx, seqO_rt, seqO_bk, seqO_ct, ev_nil, ev_drop, ev_ret, ev_retV, ev_retO, ev_retS, ev_retSO, ev_retSV, ev_fnR, ev_fnN, ev_call, ev_frz0, ev_frzV, ev_frzO, ev_res, ev_tup, ev_lst, ev_iSet, ev_new, ev_newO, ev_par, ev_bindRs0, ev_bindRsV, ev_bindRsO, ev_for, ev_itOf, ev_chain, ev_cmpI, ev_add, ev_sub, Option.map_some, List.map_cons, List.map_nil, List.all_cons, List.all_nil, Bool.and_true, Bool.true_and, Bool.and_self, if_true, ite_true, eq_self, List.length_cons, List.length_nil, List.replicate, List.cons_append, List.nil_append, List.append_nil, List.getElem?_cons_zero, List.getElem?_cons_succ, List.set_cons_zero, List.set_cons_succ, Nat.reduceAdd, Nat.reduceSub, Nat.zero_add, Nat.add_zero, Nat.sub_self, hmut])
  rw [Nat.zero_add, List.length_map, List.take_length] at h1
  refine ⟨.val (.lst (mine.map uL)), .own (nu (t :: mine.flatten)), t6, h6', ?_⟩
  have hit : iSeqE true (iVar 4) ⟨[c0, .own (rs.map uL), .val (.int t), .val (uT lot), .own (mine.map uL), .own (nu [t]), s6, .non], G⟩ = .ok (mine.map uL) ⟨[c0, .own (rs.map uL), .val (.int t), .val (uT lot), .val (.lst (mine.map uL)), .own (nu [t]), s6, .non], G⟩ := seqE_slO _ _ _ 4 _ rfl rfl
  have hrl : (rs.map uL).length < sizeLine := by
    rw [List.length_map, hrs]
    have := List.length_filter_le (fun p => !FF.hit lot p) ps
    omega
  have happ : iMut mAppend (iVar 1) [iOp gSorted [iVar 5]] ⟨[c0, .own (rs.map uL), .val (.int t), .val (uT lot), .val (.lst (mine.map uL)), .own (nu (t :: mine.flatten)), t6, .non], G⟩ = .ok (.val .non) ⟨[c0, .own ((FF.pstep sortN ps t lot).map uL), .val (.int t), .val (uT lot), .val (.lst (mine.map uL)), .own (nu (t :: mine.flatten)), t6, .non], G⟩ := by
    have e : rs.map uL ++ [uL (sortN (t :: mine.flatten))] = (FF.pstep sortN ps t lot).map uL := by
      unfold FF.pstep
      rw [← hrs, ← hm, List.map_append]
      rfl
    unfold iMut
    simp only [ev_enter, ev_runB, ev_runC, ev_bind, ev_bindL, ev_bindLL, ev_bindRL, ev_bindLU, ev_bindRU, ev_bindS, ev_args0, ev_args, ev_C, ev_var, ev_slotV, ev_slotO, ev_keep, ev_settleV, ev_settleO, ev_settleS, ev_settleSO, ev_settleSV, ev_set, ev_op, ev_okV, ev_okO, ev_okS, ev_okSO, ev_okSV, ev_viewV, ev_viewO, ev_viewS, ev_viewSO, ev_viewSV, ev_nowN, ev_nowB, ev_nowI, ev_nowS, ev_nowT, ev_nowL, ev_nowC, ev_nowF, ev_nowA, ev_nowGL, ev_bl, ev_not, ev_and, ev_or, ev_if, ev_ifS, condE_t, condE_f, condS_t, condS_f, ev_seq, seqO_nx, seqO_rt, seqO_bk, seqO_ct, ev_nil, ev_drop, ev_ret, ev_retV, ev_retO, ev_retS, ev_retSO, ev_retSV, ev_fnR, ev_fnN, ev_call, ev_frz0, ev_frzV, ev_frzO, ev_res, ev_tup, ev_lst, ev_iSet, ev_new, ev_newO, ev_par, ev_bindRs0, ev_bindRsV, ev_bindRsO, ev_for, ev_itOf, ev_chain, ev_cmpI, ev_add, ev_sub, Option.map_some, List.map_cons, List.map_nil, List.all_cons, List.all_nil, Bool.and_true, Bool.true_and, Bool.and_self, if_true, ite_true, eq_self, List.length_cons, List.length_nil, List.replicate, List.cons_append, List.nil_append, List.append_nil, List.getElem?_cons_zero, List.getElem?_cons_succ, List.set_cons_zero, List.set_cons_succ, Nat.reduceAdd, Nat.reduceSub, Nat.zero_add, Nat.add_zero, Nat.sub_self, ev_recvS, ev_recvSO, ev_sortL, mAppend, hrl, ev_setS, e]
  have e1 : Sl.own [U.int (t : Int)] = Sl.own (nu [t]) := rfl
  simp only [ev_enter, ev_runB, ev_runC, ev_bind, ev_bindL, ev_bindLL, ev_bindRL, ev_bindLU, ev_bindRU, ev_bindS, ev_args0, ev_args, ev_C, ev_var, ev_slotV, ev_slotO, ev_keep, ev_settleV, ev_settleO, ev_settleS, ev_settleSO, ev_settleSV, ev_set, ev_op, ev_okV, ev_okO, ev_okS, ev_okSO, ev_okSV, ev_viewV, ev_viewO, ev_viewS, ev_viewSO, ev_viewSV, ev_nowN, ev_nowB, ev_nowI, ev_nowS, ev_nowT, ev_nowL, ev_nowC, ev_nowF, ev_nowA, ev_nowGL, ev_bl, ev_not, ev_and, ev_or, ev_if, ev_ifS, condE_t, condE_f, condS_t, condS_f, ev_seq, seqO_nx, seqO_rt, seqO_bk, seqO_ct, ev_nil, ev_drop, ev_ret, ev_retV, ev_retO, ev_retS, ev_retSO, ev_retSV, ev_fnR, ev_fnN, ev_call, ev_frz0, ev_frzV, ev_frzO, ev_res, ev_tup, ev_lst, ev_iSet, ev_new, ev_newO, ev_par, ev_bindRs0, ev_bindRsV, ev_bindRsO, ev_for, ev_itOf, ev_chain, ev_cmpI, ev_add, ev_sub, Option.map_some, List.map_cons, List.map_nil, List.all_cons, List.all_nil, Bool.and_true, Bool.true_and, Bool.and_self, if_true, ite_true, eq_self, List.length_cons, List.length_nil, List.replicate, List.cons_append, List.nil_append, List.append_nil, List.getElem?_cons_zero, List.getElem?_cons_succ, List.set_cons_zero, List.set_cons_succ, Nat.reduceAdd, Nat.reduceSub, Nat.zero_add, Nat.add_zero, Nat.sub_self, hmine, hrest, e1, hit, h1, happ]
end K59
end T_M9
section T_M10
set_option Elab.async false
set_option linter.all false
set_option maxRecDepth 100000
namespace FF
def psAt (cs : List (List Nat)) : Nat → List (List Nat)
  | 0 => []
  | t + 1 => pstep IL.sortN (psAt cs t) t (cs.getD t [])
theorem pstep_flat (ps : List (List Nat)) (t : Nat) (lot : List Nat) : (pstep IL.sortN ps t lot).flatten.Perm (t :: ps.flatten) := by
  unfold pstep
  rw [List.flatten_append]
  simp only [List.flatten_cons, List.flatten_nil, List.append_nil]
  have h2 : ((ps.filter fun p => !hit lot p).flatten ++ (ps.filter (hit lot)).flatten).Perm ps.flatten := by
    induction ps with
    | nil => simp
    | cons p ps ih =>
      rw [List.filter_cons, List.filter_cons]
      cases hh : hit lot p with
      | true =>
        simp only [Bool.not_true, Bool.false_eq_true, if_false, if_true, List.flatten_cons]
        exact (List.perm_append_comm_assoc _ _ _).trans (List.Perm.append_left p ih)
      | false =>
        simp only [Bool.not_false, Bool.false_eq_true, if_false, if_true, List.flatten_cons, List.append_assoc]
        exact List.Perm.append_left p ih
  have h1 : (IL.sortN (t :: (ps.filter (hit lot)).flatten)).Perm (t :: (ps.filter (hit lot)).flatten) := IL.sortN_perm _
  refine (List.Perm.append_left _ h1).trans ?_
  exact List.perm_middle.trans (h2.cons t)
theorem psAt_flat (cs : List (List Nat)) : ∀ t, (psAt cs t).flatten.length = t
  | 0 => rfl
  | t + 1 => by
    show (pstep IL.sortN (psAt cs t) t (cs.getD t [])).flatten.length = t + 1
    rw [(pstep_flat _ _ _).length_eq, List.length_cons, psAt_flat cs t]
theorem psAt_len (cs : List (List Nat)) : ∀ t, (psAt cs t).length ≤ t
  | 0 => Nat.le_refl _
  | t + 1 => by
    show (pstep IL.sortN (psAt cs t) t (cs.getD t [])).length ≤ t + 1
    unfold pstep
    rw [List.length_append, List.length_singleton]
    have := List.length_filter_le (fun p => !hit (cs.getD t []) p) (psAt cs t)
    have := psAt_len cs t
    omega
theorem psAt_pc {cs : List (List Nat)} (ok : Ok cs) : ∀ t, t ≤ cs.length → Pc cs t (psAt cs t)
  | 0, _ => pc_nil cs
  | t + 1, h => by
    have hl : cs[t]? = some (cs[t]'(by omega)) := List.getElem?_eq_getElem (by omega)
    obtain ⟨_, h2, _⟩ := ok t _ hl
    rw [labAt_len (by omega)] at h2
    have e : cs.getD t [] = cs[t]'(by omega) := getD_of hl
    have q := pc_step (srt := IL.sortN) IL.sortN_perm (psAt_pc ok t (by omega)) hl h2
    show Pc cs (t + 1) (pstep IL.sortN (psAt cs t) t (cs.getD t []))
    rw [e]
    exact q
theorem mem_flat_le {ps : List (List Nat)} {p : List Nat} (h : p ∈ ps) : p.length ≤ ps.flatten.length := by
  induction ps with
  | nil => cases h
  | cons q ps ih =>
    rw [List.flatten_cons, List.length_append]
    rcases List.mem_cons.mp h with e | h
    · rw [e]; omega
    · have := ih h; omega
end FF
namespace K59
open PySem PySem.Spec L2 IL
theorem pieces_steps (cs : List (List Nat)) (few : cs.length ≤ 63) (c0 : Sl) (G : List Ob) (j : Nat) (l : List Nat) (hl : cs[j]? = some l) (s2 s3 s4 s5 s6 : Sl) (h6 : s6.plain = true) :
    ∃ t4 t5 t6, t6.plain = true ∧ Bpc ⟨[c0, .own ((FF.psAt cs j).map uL), .val (.int j), .val (uT l), s4, s5, s6, .non], G⟩ = .nx ⟨[c0, .own ((FF.psAt cs (j + 1)).map uL), .val (.int j), .val (uT l), t4, t5, t6, .non], G⟩ := by
  have hj : j < cs.length := (List.getElem?_eq_some_iff.mp hl).1
  have h1 := FF.psAt_len cs j
  have h2 := FF.psAt_flat cs j
  have e : FF.psAt cs (j + 1) = FF.pstep sortN (FF.psAt cs j) j l := by
    show FF.pstep IL.sortN (FF.psAt cs j) j (cs.getD j []) = _
    rw [FF.getD_of hl]
  rw [e]
  exact pc_step_sem c0 _ j l s4 s5 s6 h6 (by omega) (by omega) G
theorem sp_piecesT (k : Nat) (cs : List (List Nat)) (few : cs.length ≤ 63) (G : List Ob) : callF (k + 1) 25 [uC cs] G = .ret (.own ((FF.psAt cs cs.length).map uL)) G := by
  show runB 8 (B__law_pieces (callF k)) _ _ = _
  have hz : (cs.map uT).length ≤ sizeLine := by rw [List.length_map]; exact Nat.le_trans few (by decide)
  obtain ⟨a', h1, s2, s3, s4, s5, s6, h6, rfl⟩ := forGo_inv (t := .tp [.nm 2, .nm 3]) (B := Bpc) (fun i a => ∃ s2 s3 s4 s5 s6, s6.plain = true ∧ a = ⟨[.val (uC cs), .own ((FF.psAt cs i).map uL), s2, s3, s4, s5, s6, .non], G⟩) (enumU 0 (cs.map uT)) 0 ⟨[.val (uC cs), .own [], .non, .non, .non, .non, .non, .non], G⟩ ⟨_, _, _, _, _, rfl, rfl⟩ (by
    rintro j u a hu ⟨s2, s3, s4, s5, s6, h6, rfl⟩
    rw [Nat.zero_add]
    obtain ⟨w, hw, rfl⟩ := IL.enumU_get hu
    obtain ⟨l, hl, rfl⟩ := map_get hw
    rw [Nat.zero_add]
    obtain ⟨t4, t5, t6, k6, k7⟩ := pieces_steps cs few (.val (uC cs)) G j l hl s2 s3 s4 s5 s6 h6
    exact ⟨_, _, rfl, k7, _, _, _, _, _, k6, rfl⟩)
  rw [Nat.zero_add, enumU_length, List.length_map] at h1
  have hi : itW true gEnum [iVar 0] ⟨[.val (uC cs), .own [], .non, .non, .non, .non, .non, .non], G⟩ = .ok (enumU 0 (cs.map uT)) ⟨[.val (uC cs), .own [], .non, .non, .non, .non, .non, .non], G⟩ := itW_enum true _ _ _ _ rfl hz
  have hA : iForA (.tp [.nm 2, .nm 3]) true (iVar 0) Bpc ⟨[.val (uC cs), .own [], .non, .non, .non, .non, .non, .non], G⟩ = .nx ⟨[.val (uC cs), .own ((FF.psAt cs cs.length).map uL), s2, s3, s4, s5, s6, .non], G⟩ := by
    show iFor _ (itW true gEnum [iVar 0]) Bpc _ = _
    rw [ev_for, hi]
    exact h1
  simp only [ev_enter, ev_runB, ev_runC, ev_bind, ev_bindL, ev_bindLL, ev_bindRL, ev_bindLU, ev_bindRU, ev_bindS, ev_args0, ev_args, ev_C, ev_var, ev_slotV, ev_slotO, ev_keep, ev_settleV, ev_settleO, ev_settleS, ev_settleSO, ev_settleSV, ev_set, ev_op, ev_okV, ev_okO, ev_okS, ev_okSO, ev_okSV, ev_viewV, ev_viewO, ev_viewS, ev_viewSO, ev_viewSV, ev_nowN, ev_nowB, ev_nowI, ev_nowS, ev_nowT, ev_nowL, ev_nowC, ev_nowF, ev_nowA, ev_nowGL, ev_bl, ev_not, ev_and, ev_or, ev_if, ev_ifS, condE_t, condE_f, condS_t, condS_f, ev_seq, seqO_nx, seqO_rt, seqO_bk, seqO_ct, ev_nil, ev_drop, ev_ret, ev_retV, ev_retO, ev_retS, ev_retSO, ev_retSV, ev_fnR, ev_fnN, ev_call, ev_frz0, ev_frzV, ev_frzO, ev_res, ev_tup, ev_lst, ev_iSet, ev_new, ev_newO, ev_par, ev_bindRs0, ev_bindRsV, ev_bindRsO, ev_for, ev_itOf, ev_chain, ev_cmpI, ev_add, ev_sub, Option.map_some, List.map_cons, List.map_nil, List.all_cons, List.all_nil, Bool.and_true, Bool.true_and, Bool.and_self, if_true, ite_true, eq_self, List.length_cons, List.length_nil, List.replicate, List.cons_append, List.nil_append, List.append_nil, List.getElem?_cons_zero, List.getElem?_cons_succ, List.set_cons_zero, List.set_cons_succ, Nat.reduceAdd, Nat.reduceSub, Nat.zero_add, Nat.add_zero, Nat.sub_self, B__law_pieces, hA]
theorem sp_piecesA (k : Nat) (cs : List (List Nat)) (few : cs.length ≤ 63) (o : Ob) : callF (k + 1) 25 [.adr 1] [o, .lst (cs.map uT)] = .ret (.own ((FF.psAt cs cs.length).map uL)) [o, .lst (cs.map uT)] := by
  show runB 8 (B__law_pieces (callF k)) _ _ = _
  have hz : (cs.map uT).length ≤ sizeLine := by rw [List.length_map]; exact Nat.le_trans few (by decide)
  obtain ⟨a', h1, s2, s3, s4, s5, s6, h6, rfl⟩ := forD_inv (t := .tp [.nm 2, .nm 3]) (en := true) (n := 1) (us0 := cs.map uT) (B := Bpc) (fun i a => ∃ s2 s3 s4 s5 s6, s6.plain = true ∧ a = ⟨[.val (.adr 1), .own ((FF.psAt cs i).map uL), s2, s3, s4, s5, s6, .non], [o, .lst (cs.map uT)]⟩) (by
    rintro i a ⟨s2, s3, s4, s5, s6, h6, rfl⟩
    exact sameL_is rfl) (cs.map uT) 0 ⟨[.val (.adr 1), .own [], .non, .non, .non, .non, .non, .non], [o, .lst (cs.map uT)]⟩ ⟨_, _, _, _, _, rfl, rfl⟩ (by
    rintro j u a hu ⟨s2, s3, s4, s5, s6, h6, rfl⟩
    rw [Nat.zero_add]
    obtain ⟨l, hl, rfl⟩ := map_get hu
    obtain ⟨t4, t5, t6, k6, k7⟩ := pieces_steps cs few (.val (.adr 1)) [o, .lst (cs.map uT)] j l hl s2 s3 s4 s5 s6 h6
    exact ⟨_, _, rfl, k7, _, _, _, _, _, k6, rfl⟩)
  rw [Nat.zero_add, List.length_map] at h1
  have hA : iForA (.tp [.nm 2, .nm 3]) true (iVar 0) Bpc ⟨[.val (.adr 1), .own [], .non, .non, .non, .non, .non, .non], [o, .lst (cs.map uT)]⟩ = .nx ⟨[.val (.adr 1), .own ((FF.psAt cs cs.length).map uL), s2, s3, s4, s5, s6, .non], [o, .lst (cs.map uT)]⟩ := by
    show (if (cs.map uT).length ≤ sizeLine then iForD _ true 1 (cs.map uT) Bpc 0 (cs.map uT) _ else OutS.bad) = _
    rw [if_pos hz]
    exact h1
  simp only [ev_enter, ev_runB, ev_runC, ev_bind, ev_bindL, ev_bindLL, ev_bindRL, ev_bindLU, ev_bindRU, ev_bindS, ev_args0, ev_args, ev_C, ev_var, ev_slotV, ev_slotO, ev_keep, ev_settleV, ev_settleO, ev_settleS, ev_settleSO, ev_settleSV, ev_set, ev_op, ev_okV, ev_okO, ev_okS, ev_okSO, ev_okSV, ev_viewV, ev_viewO, ev_viewS, ev_viewSO, ev_viewSV, ev_nowN, ev_nowB, ev_nowI, ev_nowS, ev_nowT, ev_nowL, ev_nowC, ev_nowF, ev_nowA, ev_nowGL, ev_bl, ev_not, ev_and, ev_or, ev_if, ev_ifS, condE_t, condE_f, condS_t, condS_f, ev_seq, seqO_nx, seqO_rt, seqO_bk, seqO_ct, ev_nil, ev_drop, ev_ret, ev_retV, ev_retO, ev_retS, ev_retSO, ev_retSV, ev_fnR, ev_fnN, ev_call, ev_frz0, ev_frzV, ev_frzO, ev_res, ev_tup, ev_lst, ev_iSet, ev_new, ev_newO, ev_par, ev_bindRs0, ev_bindRsV, ev_bindRsO, ev_for, ev_itOf, ev_chain, ev_cmpI, ev_add, ev_sub, Option.map_some, List.map_cons, List.map_nil, List.all_cons, List.all_nil, Bool.and_true, Bool.true_and, Bool.and_self, if_true, ite_true, eq_self, List.length_cons, List.length_nil, List.replicate, List.cons_append, List.nil_append, List.append_nil, List.getElem?_cons_zero, List.getElem?_cons_succ, List.set_cons_zero, List.set_cons_succ, Nat.reduceAdd, Nat.reduceSub, Nat.zero_add, Nat.add_zero, Nat.sub_self, B__law_pieces, hA]
end K59
end T_M10
section T_M11
set_option Elab.async false
set_option linter.all false
set_option maxRecDepth 100000
namespace IL
open PySem PySem.Spec L2
open PyProof.Rows hiding St
theorem compGo_inv {t : Tg} {vs : List Nat} {ct el : ES} (Inv : Nat → List U → ASt → Prop) : ∀ (us : List U) (i : Nat) (acc : List U) (a : ASt), Inv i acc a → (∀ j u acc a, us[j]? = some u → Inv (i + j) acc a → ∃ a2 b a3, bindT t u a = some a2 ∧ ct a2 = .ok (.val (.bl b)) a3 ∧ (b = false → Inv (i + j + 1) acc (a3.wipe vs)) ∧ (b = true → ∃ r a4 w a5, el a3 = .ok r a4 ∧ r.settle a4 = some (w, a5) ∧ Inv (i + j + 1) (acc ++ [w]) (a5.wipe vs))) →
    ∃ acc' a', compGo t vs ct el us a acc = some (acc', a') ∧ Inv (i + us.length) acc' a'
  | [], i, acc, a, h0, h => ⟨acc, a, by unfold compGo; rfl, h0⟩
  | u :: us, i, acc, a, h0, h => by
    obtain ⟨a2, b, a3, h1, h2, h3, h4⟩ := h 0 u acc a rfl h0
    have ih := fun acc2 b2 h5 => compGo_inv (t := t) (vs := vs) (ct := ct) (el := el) Inv us (i + 1) acc2 b2 h5 fun j w acc c hw hc => by
      have e : i + 1 + j = i + (j + 1) := by omega
      rw [e] at hc
      have z := h (j + 1) w acc c (by simpa using hw) hc
      rw [e]
      exact z
    have el' : i + (u :: us).length = i + 1 + us.length := by rw [List.length_cons]; omega
    rw [el']
    unfold compGo
    rw [h1]
    simp only [h2, ev_bl]
    cases b with
    | true =>
      obtain ⟨r, a4, w, a5, h5, h6, h7⟩ := h4 rfl
      simp only [h5, h6]
      exact ih _ _ h7
    | false => exact ih _ _ (h3 rfl)
theorem comp_inv {t : Tg} {vs : List Nat} {it : IT} {ct el : ES} {a a1 : ASt} {us : List U} (Inv : Nat → List U → ASt → Prop) (hit : it a = .ok us a1) (hpl : vs.all (fun v => (a1.sl.getD v .non).plain) = true) (h0 : Inv 0 [] (a1.wipe vs))
    (h : ∀ j u acc a, us[j]? = some u → Inv j acc a → ∃ a2 b a3, bindT t u a = some a2 ∧ ct a2 = .ok (.val (.bl b)) a3 ∧ (b = false → Inv (j + 1) acc (a3.wipe vs)) ∧ (b = true → ∃ r a4 w a5, el a3 = .ok r a4 ∧ r.settle a4 = some (w, a5) ∧ Inv (j + 1) (acc ++ [w]) (a5.wipe vs))) :
    ∃ acc' a', iComp t vs it ct el a = .ok (.own acc') (a'.rest a1 vs) ∧ Inv us.length acc' a' := by
  obtain ⟨acc', a', h1, h2⟩ := compGo_inv (t := t) (vs := vs) (ct := ct) (el := el) Inv us 0 [] _ h0 fun j u acc a hu hi => by
    rw [Nat.zero_add] at hi ⊢
    exact h j u acc a hu hi
  rw [Nat.zero_add] at h2
  refine ⟨acc', a', ?_, h2⟩
  unfold iComp
  rw [hit]
  simp only [hpl, if_true, h1]
end IL
namespace FF
theorem Each.snoc {x : Nat} {p : List Nat} (hx : x ∈ p) : ∀ {xs : List Nat} {sm : List (List Nat)}, Each xs sm → Each (xs ++ [x]) (sm ++ [p])
  | _, _, .nil => .cons hx .nil
  | _, _, .cons h e => .cons h (e.snoc hx)
theorem Each.len {xs : List Nat} {sm : List (List Nat)} (e : Each xs sm) : xs.length = sm.length := by
  induction e with
  | nil => rfl
  | cons _ _ ih => simp [ih]
theorem mem_psAt {cs : List (List Nat)} (ok : Ok cs) (few : cs.length ≤ 63) {p : List Nat} (h : p ∈ psAt cs cs.length) : 0 < p.length ∧ p.length ≤ 1000 := by
  have pc := psAt_pc ok cs.length (Nat.le_refl _)
  refine ⟨List.length_pos_iff.mpr (pc.mem p h).1, ?_⟩
  have := mem_flat_le h
  rw [psAt_flat] at this
  omega
end FF
namespace K59
open PySem PySem.Spec L2 IL
abbrev Csome (Φ : Nat → FS) : ES := iComp (.nm 8) [8] (iSeqE false (iVar 6)) (iOp gEq [iCallF (Φ 22) [iKeep (iVar 0), iC (.int 2)], iC (.int 0)]) (iVar 8)
abbrev Cany (Φ : Nat → FS) : ES := iComp (.nm 8) [8] (iSeqE false (iOp gCut2 [iVar 7, iC (.int 4)])) (iC (.bl true)) (iCallF (Φ 23) [iKeep (iVar 0), iKeep (iVar 8)])
theorem ev_eqI (i j : Int) : gEq [.int i, .int j] = some (.val (.bl (decide (i = j)))) := by
  rfl
theorem some_sem (k : Nat) (ps : List (List Nat)) (o : Ob) (ho : Pot o) (s1 s2 s3 s4 s5 s7 s8 : Sl) (h8 : s8.plain = true) (G : List Ob) : ∃ sm o', List.Sublist sm ps ∧ Pot o' ∧ Csome (callF (k + 1)) ⟨[.val (.adr 0), s1, s2, s3, s4, s5, .own (ps.map uL), s7, s8], o :: G⟩ = .ok (.own (sm.map uL)) ⟨[.val (.adr 0), s1, s2, s3, s4, s5, .own (ps.map uL), s7, s8], o' :: G⟩ := by
  obtain ⟨acc, a', h1, sm, o', h2, h3, h4, rfl⟩ := comp_inv (t := .nm 8) (vs := [8]) (it := iSeqE false (iVar 6)) (ct := iOp gEq [iCallF (callF (k + 1) 22) [iKeep (iVar 0), iC (.int 2)], iC (.int 0)]) (el := iVar 8) (a := ⟨[.val (.adr 0), s1, s2, s3, s4, s5, .own (ps.map uL), s7, s8], o :: G⟩) (a1 := ⟨[.val (.adr 0), s1, s2, s3, s4, s5, .own (ps.map uL), s7, s8], o :: G⟩) (us := ps.map uL)
    (fun i acc a => ∃ sm o', List.Sublist sm (ps.take i) ∧ Pot o' ∧ acc = sm.map uL ∧ a = ⟨[.val (.adr 0), s1, s2, s3, s4, s5, .own (ps.map uL), s7, .non], o' :: G⟩)
    (seqE_sl _ _ _ 6 _ rfl rfl) (by show (s8.plain && true) = true; rw [h8]; rfl) ⟨[], o, List.Sublist.refl _, ho, rfl, rfl⟩ (by
    rintro j u acc a hu ⟨sm, o1, h2, h3, rfl, rfl⟩
    obtain ⟨p, hp, rfl⟩ := map_get hu
    obtain ⟨r, o2, h5, h6, h7⟩ := sp_draw k o1 h3 2 (by decide) (by decide) G
    have e2 : ((2 : Nat) : Int) = 2 := rfl
    rw [e2] at h7
    refine ⟨⟨[.val (.adr 0), s1, s2, s3, s4, s5, .own (ps.map uL), s7, .val (uL p)], o1 :: G⟩, decide ((r : Int) = 0), ⟨[.val (.adr 0), s1, s2, s3, s4, s5, .own (ps.map uL), s7, .val (uL p)], o2 :: G⟩, rfl, ?_, fun _ => ⟨sm, o2, ?_, h6, rfl, rfl⟩, fun _ => ⟨.val (uL p), ⟨[.val (.adr 0), s1, s2, s3, s4, s5, .own (ps.map uL), s7, .val (uL p)], o2 :: G⟩, _, _, by simp only [ev_enter, ev_runB, ev_runC, ev_bind, ev_bindL, ev_bindLL, ev_bindRL, ev_bindLU, ev_bindRU, ev_bindS, ev_args0, ev_args, ev_C, ev_var, ev_slotV, ev_slotO, ev_keep, ev_settleV, ev_settleO, ev_settleS, ev_settleSO, ev_settleSV, ev_set, ev_op, ev_okV, ev_okO, ev_okS, ev_okSO, ev_okSV, ev_viewV, ev_viewO, ev_viewS, ev_viewSO, ev_viewSV, ev_nowN, ev_nowB, ev_nowI, ev_nowS, ev_nowT, ev_nowL, ev_nowC, ev_nowF, ev_nowA, ev_nowGL, ev_bl, ev_not, ev_and, ev_or, ev_if, ev_ifS, condE_t, condE_f, condS_t, condS_f, ev_seq, seqO_nx, seqO_rt, seqO_bk, seqO_ct, ev_nil, ev_drop, ev_ret, ev_retV, ev_retO, ev_retS, ev_retSO, ev_retSV, ev_fnR, ev_fnN, ev_call, ev_frz0, ev_frzV, ev_frzO, ev_res, ev_tup, ev_lst, ev_iSet, ev_new, ev_newO, ev_par, ev_bindRs0, ev_bindRsV, ev_bindRsO, ev_for, ev_itOf, ev_chain, ev_cmpI, ev_add, ev_sub, Option.map_some, List.map_cons, List.map_nil, List.all_cons, List.all_nil, Bool.and_true, Bool.true_and, Bool.and_self, if_true, ite_true, eq_self, List.length_cons, List.length_nil, List.replicate, List.cons_append, List.nil_append, List.append_nil, List.getElem?_cons_zero, List.getElem?_cons_succ, List.set_cons_zero, List.set_cons_succ, Nat.reduceAdd, Nat.reduceSub, Nat.zero_add, Nat.add_zero, Nat.sub_self], rfl, sm ++ [p], o2, ?_, h6, by rw [List.map_append]; rfl, rfl⟩⟩
    · simp only [ev_enter, ev_runB, ev_runC, ev_bind, ev_bindL, ev_bindLL, ev_bindRL, ev_bindLU, ev_bindRU, ev_bindS, ev_args0, ev_args, ev_C, ev_var, ev_slotV, ev_slotO, ev_keep, ev_settleV, ev_settleO, ev_settleS, ev_settleSO, ev_settleSV, ev_set, ev_op, ev_okV, ev_okO, ev_okS, ev_okSO, ev_okSV, ev_viewV, ev_viewO, ev_viewS, ev_viewSO, ev_viewSV, ev_nowN, ev_nowB, ev_nowI, ev_nowS, ev_nowT, ev_nowL, ev_nowC, ev_nowF, ev_nowA, ev_nowGL, ev_bl, ev_not, ev_and, ev_or, ev_if, ev_ifS, condE_t, condE_f, condS_t, condS_f, ev_seq, seqO_nx, seqO_rt, seqO_bk, seqO_ct, ev_nil, ev_drop, ev_ret, ev_retV, ev_retO, ev_retS, ev_retSO, ev_retSV, ev_fnR, ev_fnN, ev_call, ev_frz0, ev_frzV, ev_frzO, ev_res, ev_tup, ev_lst, ev_iSet, ev_new, ev_newO, ev_par, ev_bindRs0, ev_bindRsV, ev_bindRsO, ev_for, ev_itOf, ev_chain, ev_cmpI, ev_add, ev_sub, Option.map_some, List.map_cons, List.map_nil, List.all_cons, List.all_nil, Bool.and_true, Bool.true_and, Bool.and_self, if_true, ite_true, eq_self, List.length_cons, List.length_nil, List.replicate, List.cons_append, List.nil_append, List.append_nil, List.getElem?_cons_zero, List.getElem?_cons_succ, List.set_cons_zero, List.set_cons_succ, Nat.reduceAdd, Nat.reduceSub, Nat.zero_add, Nat.add_zero, Nat.sub_self, h7, ev_eqI]
    · rw [FF.take_succ_of hp]
      exact h2.trans (List.sublist_append_left _ _)
    · rw [FF.take_succ_of hp]
      exact h2.append_right [p])
  rw [List.length_map, List.take_length] at h2
  rw [h4] at h1
  exact ⟨sm, o', h2, h3, h1⟩
theorem any_sem (k : Nat) (sm : List (List Nat)) (hs : ∀ p ∈ sm, 0 < p.length ∧ p.length ≤ 1000) (o : Ob) (ho : Pot o) (s1 s2 s3 s4 s5 s6 s8 : Sl) (h8 : s8.plain = true) (G : List Ob) : ∃ xs o', FF.Each xs (sm.take 4) ∧ Pot o' ∧ Cany (callF (k + 2)) ⟨[.val (.adr 0), s1, s2, s3, s4, s5, s6, .own (sm.map uL), s8], o :: G⟩ = .ok (.own (nu xs)) ⟨[.val (.adr 0), s1, s2, s3, s4, s5, s6, .own (sm.map uL), s8], o' :: G⟩ := by
  obtain ⟨acc, a', h1, xs, o', h2, h3, h4, rfl⟩ := comp_inv (t := .nm 8) (vs := [8]) (it := iSeqE false (iOp gCut2 [iVar 7, iC (.int 4)])) (ct := iC (.bl true)) (el := iCallF (callF (k + 2) 23) [iKeep (iVar 0), iKeep (iVar 8)]) (a := ⟨[.val (.adr 0), s1, s2, s3, s4, s5, s6, .own (sm.map uL), s8], o :: G⟩) (a1 := ⟨[.val (.adr 0), s1, s2, s3, s4, s5, s6, .own (sm.map uL), s8], o :: G⟩) (us := (sm.take 4).map uL)
    (fun i acc a => ∃ xs o', FF.Each xs ((sm.take 4).take i) ∧ Pot o' ∧ acc = nu xs ∧ a = ⟨[.val (.adr 0), s1, s2, s3, s4, s5, s6, .own (sm.map uL), .non], o' :: G⟩)
    (seqE_own false _ _ _ _ (by
      have e := cut2_L (sm.map uL) 4
      have e4 : ((4 : Nat) : Int) = 4 := rfl
      rw [e4] at e
      simp only [ev_enter, ev_runB, ev_runC, ev_bind, ev_bindL, ev_bindLL, ev_bindRL, ev_bindLU, ev_bindRU, ev_bindS, ev_args0, ev_args, ev_C, ev_var, ev_slotV, ev_slotO, ev_keep, ev_settleV, ev_settleO, ev_settleS, ev_settleSO, ev_settleSV, ev_set, ev_op, ev_okV, ev_okO, ev_okS, ev_okSO, ev_okSV, ev_viewV, ev_viewO, ev_viewS, ev_viewSO, ev_viewSV, ev_nowN, ev_nowB, ev_nowI, ev_nowS, ev_nowT, ev_nowL, ev_nowC, ev_nowF, ev_nowA, ev_nowGL, ev_bl, ev_not, ev_and, ev_or, ev_if, ev_ifS, condE_t, condE_f, condS_t, condS_f, ev_seq, seqO_nx, seqO_rt, seqO_bk, seqO_ct, ev_nil, ev_drop, ev_ret, ev_retV, ev_retO, ev_retS, ev_retSO, ev_retSV, ev_fnR, ev_fnN, ev_call, ev_frz0, ev_frzV, ev_frzO, ev_res, ev_tup, ev_lst, ev_iSet, ev_new, ev_newO, ev_par, ev_bindRs0, ev_bindRsV, ev_bindRsO, ev_for, ev_itOf, ev_chain, ev_cmpI, ev_add, ev_sub, Option.map_some, List.map_cons, List.map_nil, List.all_cons, List.all_nil, Bool.and_true, Bool.true_and, Bool.and_self, if_true, ite_true, eq_self, List.length_cons, List.length_nil, List.replicate, List.cons_append, List.nil_append, List.append_nil, List.getElem?_cons_zero, List.getElem?_cons_succ, List.set_cons_zero, List.set_cons_succ, Nat.reduceAdd, Nat.reduceSub, Nat.zero_add, Nat.add_zero, Nat.sub_self, e, List.map_take])) (by show (s8.plain && true) = true; rw [h8]; rfl) ⟨[], o, FF.Each.nil, ho, rfl, rfl⟩ (by
    rintro j u acc a hu ⟨xs, o1, h2, h3, rfl, rfl⟩
    obtain ⟨p, hp, rfl⟩ := map_get hu
    obtain ⟨k1, k2⟩ := hs p (List.mem_of_mem_take (List.mem_of_getElem? hp))
    obtain ⟨r, o2, h5, h6, h7⟩ := sp_any k o1 h3 p k1 k2 G
    refine ⟨⟨[.val (.adr 0), s1, s2, s3, s4, s5, s6, .own (sm.map uL), .val (uL p)], o1 :: G⟩, true, ⟨[.val (.adr 0), s1, s2, s3, s4, s5, s6, .own (sm.map uL), .val (uL p)], o1 :: G⟩, rfl, rfl, (fun h => nomatch h), fun _ => ⟨.val (.int r), ⟨[.val (.adr 0), s1, s2, s3, s4, s5, s6, .own (sm.map uL), .val (uL p)], o2 :: G⟩, _, _, by simp only [ev_enter, ev_runB, ev_runC, ev_bind, ev_bindL, ev_bindLL, ev_bindRL, ev_bindLU, ev_bindRU, ev_bindS, ev_args0, ev_args, ev_C, ev_var, ev_slotV, ev_slotO, ev_keep, ev_settleV, ev_settleO, ev_settleS, ev_settleSO, ev_settleSV, ev_set, ev_op, ev_okV, ev_okO, ev_okS, ev_okSO, ev_okSV, ev_viewV, ev_viewO, ev_viewS, ev_viewSO, ev_viewSV, ev_nowN, ev_nowB, ev_nowI, ev_nowS, ev_nowT, ev_nowL, ev_nowC, ev_nowF, ev_nowA, ev_nowGL, ev_bl, ev_not, ev_and, ev_or, ev_if, ev_ifS, condE_t, condE_f, condS_t, condS_f, ev_seq, seqO_nx, seqO_rt, seqO_bk, seqO_ct, ev_nil, ev_drop, ev_ret, ev_retV, ev_retO, ev_retS, ev_retSO, ev_retSV, ev_fnR, ev_fnN, ev_call, ev_frz0, ev_frzV, ev_frzO, ev_res, ev_tup, ev_lst, ev_iSet, ev_new, ev_newO, ev_par, ev_bindRs0, ev_bindRsV, ev_bindRsO, ev_for, ev_itOf, ev_chain, ev_cmpI, ev_add, ev_sub, Option.map_some, List.map_cons, List.map_nil, List.all_cons, List.all_nil, Bool.and_true, Bool.true_and, Bool.and_self, if_true, ite_true, eq_self, List.length_cons, List.length_nil, List.replicate, List.cons_append, List.nil_append, List.append_nil, List.getElem?_cons_zero, List.getElem?_cons_succ, List.set_cons_zero, List.set_cons_succ, Nat.reduceAdd, Nat.reduceSub, Nat.zero_add, Nat.add_zero, Nat.sub_self, h7], rfl, xs ++ [r], o2, ?_, h6, ?_, rfl⟩⟩
    · rw [FF.take_succ_of hp]
      exact h2.snoc h5
    · unfold nu
      rw [List.map_append]
      rfl)
  rw [List.length_map, List.take_length] at h2
  rw [h4] at h1
  exact ⟨xs, o', h2, h3, h1⟩
end K59
end T_M11
section T_M12
set_option Elab.async false
set_option linter.all false
set_option maxRecDepth 100000
namespace FF
theorem lot_nil (lab : List Nat) : Lot lab [] := ⟨List.Pairwise.nil, fun o h => (List.not_mem_nil h).elim, List.Pairwise.nil⟩
theorem lot_one {lab : List Nat} {x : Nat} (h : x < lab.length) : Lot lab [x] := ⟨List.pairwise_singleton .., fun o z => by rw [List.mem_singleton.mp z]; exact h, List.pairwise_singleton ..⟩
end FF
namespace K59
open PySem PySem.Spec L2 IL
theorem lowL_ints (n : Nat) : ∀ l : List Int, lowL n (l.map .int) = true
  | [] => rfl
  | i :: l => by
    show (true && lowL n (l.map .int)) = true
    rw [lowL_ints n l]; rfl
theorem lowL_nu (n : Nat) : ∀ l : List Nat, lowL n (nu l) = true
  | [] => rfl
  | i :: l => by
    show (true && lowL n (nu l)) = true
    rw [lowL_nu n l]; rfl
theorem lowL_uT (n : Nat) : ∀ l : List (List Nat), lowL n (l.map uT) = true
  | [] => rfl
  | i :: l => by
    show (lowL n (nu i) && lowL n (l.map uT)) = true
    rw [lowL_uT n l, lowL_nu]; rfl
theorem Pot.low {o : Ob} (h : Pot o) (n : Nat) : Ob.low n o = true := by
  obtain ⟨cells, i, b, a, c, _, rfl⟩ := h
  show (lowL n (cells.map .int) && _) = true
  rw [lowL_ints]
  rfl
abbrev Dlot (Φ : Nat → FS) : SS := iSet 5 (iIf (iOp (gCmpI fun i j => decide (j < i)) [iVar 1, iC (.int 0)]) (iOp gIx [iLst [iTup [iOp gSub [iVar 1, iC (.int 1)]], iTup [iC (.int 0)], iTup [iCallF (Φ 22) [iKeep (iVar 0), iOp gMax2 [iC (.int 1), iVar 1]]], iTup []], iOp gMin2 [iVar 3, iC (.int 3)]]) (iTup []))
abbrev Dpcs (Φ : Nat → FS) : SS := (iIfS (iOp (gCmpI fun i j => decide (j < i)) [iVar 3, iC (.int 2)])
    (iSq (iSet 6 (iCallF (Φ 25) [iVar 4]))
    (iSq (iSet 7 (Csome Φ))
    (iSet 5 (iOp gTuple [iOp gSorted [Cany Φ]]))))
    (iNil))
theorem dlot_sem (k : Nat) (j w : Nat) (hj : j ≤ 63) (hw : w < 5) (o : Ob) (ho : Pot o) (lab : List Nat) (hl : lab.length = j) (s2 s4 s5 s6 s7 s8 : Sl) (G : List Ob) : ∃ l o', FF.Lot lab l ∧ Pot o' ∧ Dlot (callF (k + 1)) ⟨[.val (.adr 0), .val (.int j), s2, .val (.int w), s4, s5, s6, s7, s8], o :: G⟩ = .nx ⟨[.val (.adr 0), .val (.int j), s2, .val (.int w), s4, .val (uT l), s6, s7, s8], o' :: G⟩ := by
  by_cases h0 : j = 0
  · subst h0
    exact ⟨[], o, FF.lot_nil _, ho, by
      have hd : decide ((0 : Int) < ((0 : Nat) : Int)) = false := rfl
      simp only [ev_enter, ev_runB, ev_runC, ev_bind, ev_bindL, ev_bindLL, ev_bindRL, ev_bindLU, ev_bindRU, ev_bindS, ev_args0, ev_args, ev_C, ev_var, ev_slotV, ev_slotO, ev_keep, ev_settleV, ev_settleO, ev_settleS, ev_settleSO, ev_settleSV, ev_set, ev_op, ev_okV, ev_okO, ev_okS, ev_okSO, ev_okSV, ev_viewV, ev_viewO, ev_viewS, ev_viewSO, ev_viewSV, ev_nowN, ev_nowB, ev_nowI, ev_nowS, ev_nowT, ev_nowL, ev_nowC, ev_nowF, ev_nowA, ev_nowGL, ev_bl, ev_not, ev_and, ev_or, ev_if, ev_ifS, condE_t, condE_f, condS_t, condS_f, ev_seq, seqO_nx, seqO_rt, seqO_bk, seqO_ct, ev_nil, ev_drop, ev_ret, ev_retV, ev_retO, ev_retS, ev_retSO, ev_retSV, ev_fnR, ev_fnN, ev_call, ev_frz0, ev_frzV, ev_frzO, ev_res, ev_tup, ev_lst, ev_iSet, ev_new, ev_newO, ev_par, ev_bindRs0, ev_bindRsV, ev_bindRsO, ev_for, ev_itOf, ev_chain, ev_cmpI, ev_add, ev_sub, Option.map_some, List.map_cons, List.map_nil, List.all_cons, List.all_nil, Bool.and_true, Bool.true_and, Bool.and_self, if_true, ite_true, eq_self, List.length_cons, List.length_nil, List.replicate, List.cons_append, List.nil_append, List.append_nil, List.getElem?_cons_zero, List.getElem?_cons_succ, List.set_cons_zero, List.set_cons_succ, Nat.reduceAdd, Nat.reduceSub, Nat.zero_add, Nat.add_zero, Nat.sub_self, hd]
      rfl⟩
  · have hd : decide ((0 : Int) < (j : Int)) = true := decide_eq_true (by omega)
    obtain ⟨r, o', h1, h2, h3⟩ := sp_draw k o ho j (by omega) (by omega) G
    have hm : gMax2 [.int 1, .int (j : Int)] = some (.val (.int (j : Int))) := by
      show some (R.val (.int (if (j : Int) > 1 then (j : Int) else 1))) = _
      by_cases h : j = 1
      · subst h; rfl
      · rw [if_pos (by omega)]
    have hn := min2 w 3
    have e3 : ((3 : Nat) : Int) = 3 := rfl
    rw [e3] at hn
    have e1 : ((j : Int) - 1) = ((j - 1 : Nat) : Int) := by omega
    have key : ∃ l, FF.Lot lab l ∧ atI [uT [j - 1], uT [0], uT [r], uT []] ((min w 3 : Nat) : Int) = some (uT l) := by
      match w, hw with
      | 0, _ => exact ⟨[j - 1], FF.lot_one (by omega), rfl⟩
      | 1, _ => exact ⟨[0], FF.lot_one (by omega), rfl⟩
      | 2, _ => exact ⟨[r], FF.lot_one (by omega), rfl⟩
      | 3, _ => exact ⟨[], FF.lot_nil _, rfl⟩
      | 4, _ => exact ⟨[], FF.lot_nil _, rfl⟩
    obtain ⟨l, k1, k2⟩ := key
    have k3 : atI [.tup [.int ((j - 1 : Nat) : Int)], .tup [.int 0], .tup [.int (r : Int)], .tup []] ((min w 3 : Nat) : Int) = some (uT l) := k2
    exact ⟨l, o', k1, h2, by simp only [ev_enter, ev_runB, ev_runC, ev_bind, ev_bindL, ev_bindLL, ev_bindRL, ev_bindLU, ev_bindRU, ev_bindS, ev_args0, ev_args, ev_C, ev_var, ev_slotV, ev_slotO, ev_keep, ev_settleV, ev_settleO, ev_settleS, ev_settleSO, ev_settleSV, ev_set, ev_op, ev_okV, ev_okO, ev_okS, ev_okSO, ev_okSV, ev_viewV, ev_viewO, ev_viewS, ev_viewSO, ev_viewSV, ev_nowN, ev_nowB, ev_nowI, ev_nowS, ev_nowT, ev_nowL, ev_nowC, ev_nowF, ev_nowA, ev_nowGL, ev_bl, ev_not, ev_and, ev_or, ev_if, ev_ifS, condE_t, condE_f, condS_t, condS_f, ev_seq, seqO_nx, seqO_rt, seqO_bk, seqO_ct, ev_nil, ev_drop, ev_ret, ev_retV, ev_retO, ev_retS, ev_retSO, ev_retSV, ev_fnR, ev_fnN, ev_call, ev_frz0, ev_frzV, ev_frzO, ev_res, ev_tup, ev_lst, ev_iSet, ev_new, ev_newO, ev_par, ev_bindRs0, ev_bindRsV, ev_bindRsO, ev_for, ev_itOf, ev_chain, ev_cmpI, ev_add, ev_sub, Option.map_some, List.map_cons, List.map_nil, List.all_cons, List.all_nil, Bool.and_true, Bool.true_and, Bool.and_self, if_true, ite_true, eq_self, List.length_cons, List.length_nil, List.replicate, List.cons_append, List.nil_append, List.append_nil, List.getElem?_cons_zero, List.getElem?_cons_succ, List.set_cons_zero, List.set_cons_succ, Nat.reduceAdd, Nat.reduceSub, Nat.zero_add, Nat.add_zero, Nat.sub_self, hd, h3, hm, hn, e1, ev_ixL, k3]⟩
theorem dpcs_sem (k : Nat) (cs : List (List Nat)) (ok : FF.Ok cs) (few : cs.length ≤ 63) (w : Nat) (o : Ob) (ho : Pot o) (l : List Nat) (hl : FF.Lot (FF.labAt cs cs.length) l) (s1 s2 s6 s7 s8 : Sl) (h8 : s8.plain = true) : ∃ l' o' t6 t7, FF.Lot (FF.labAt cs cs.length) l' ∧ Pot o' ∧ Dpcs (callF (k + 2)) ⟨[.val (.adr 0), s1, s2, .val (.int w), .val (.adr 1), .val (uT l), s6, s7, s8], [o, .lst (cs.map uT)]⟩ = .nx ⟨[.val (.adr 0), s1, s2, .val (.int w), .val (.adr 1), .val (uT l'), t6, t7, s8], [o', .lst (cs.map uT)]⟩ := by
  by_cases h0 : w ≤ 2
  · have hd : decide ((2 : Int) < (w : Int)) = false := decide_eq_false (by omega)
    exact ⟨l, o, s6, s7, hl, ho, by simp only [ev_enter, ev_runB, ev_runC, ev_bind, ev_bindL, ev_bindLL, ev_bindRL, ev_bindLU, ev_bindRU, ev_bindS, ev_args0, ev_args, ev_C, ev_var, ev_slotV, ev_slotO, ev_keep, ev_settleV, ev_settleO, ev_settleS, ev_settleSO, ev_settleSV, ev_set, ev_op, ev_okV, ev_okO, ev_okS, ev_okSO, ev_okSV, ev_viewV, ev_viewO, ev_viewS, ev_viewSO, ev_viewSV, ev_nowN, ev_nowB, ev_nowI, ev_nowS, ev_nowT, ev_nowL, ev_nowC, ev_nowF, ev_nowA, ev_nowGL, ev_bl, ev_not, ev_and, ev_or, ev_if, ev_ifS, condE_t, condE_f, condS_t, condS_f, ev_seq, seqO_nx, seqO_rt, seqO_bk, seqO_ct, ev_nil, ev_drop, ev_ret, ev_retV, ev_retO, ev_retS, ev_retSO, ev_retSV, ev_fnR, ev_fnN, ev_call, ev_frz0, ev_frzV, ev_frzO, ev_res, ev_tup, ev_lst, ev_iSet, ev_new, ev_newO, ev_par, ev_bindRs0, ev_bindRsV, ev_bindRsO, ev_for, ev_itOf, ev_chain, ev_cmpI, ev_add, ev_sub, Option.map_some, List.map_cons, List.map_nil, List.all_cons, List.all_nil, Bool.and_true, Bool.true_and, Bool.and_self, if_true, ite_true, eq_self, List.length_cons, List.length_nil, List.replicate, List.cons_append, List.nil_append, List.append_nil, List.getElem?_cons_zero, List.getElem?_cons_succ, List.set_cons_zero, List.set_cons_succ, Nat.reduceAdd, Nat.reduceSub, Nat.zero_add, Nat.add_zero, Nat.sub_self, hd]⟩
  · have hd : decide ((2 : Int) < (w : Int)) = true := decide_eq_true (by omega)
    have hp := sp_piecesA (k + 1) cs few o
    obtain ⟨sm, o1, h1, h2, h3⟩ := some_sem (k + 1) (FF.psAt cs cs.length) o ho s1 s2 (.val (.int w)) (.val (.adr 1)) (.val (uT l)) s7 s8 h8 [.lst (cs.map uT)]
    obtain ⟨xs, o2, h4, h5, h6⟩ := any_sem k sm (fun p hp => FF.mem_psAt ok few (h1.subset hp)) o1 h2 s1 s2 (.val (.int w)) (.val (.adr 1)) (.val (uT l)) (.own ((FF.psAt cs cs.length).map uL)) s8 h8 [.lst (cs.map uT)]
    refine ⟨sortN xs, o2, .own ((FF.psAt cs cs.length).map uL), .own (sm.map uL), FF.lot_of_some (FF.psAt_pc ok cs.length (Nat.le_refl _)) ((List.take_sublist 4 sm).trans h1) h4 (sortN_perm xs) (sortN_sorted xs), h5, ?_⟩
    simp only [ev_enter, ev_runB, ev_runC, ev_bind, ev_bindL, ev_bindLL, ev_bindRL, ev_bindLU, ev_bindRU, ev_bindS, ev_args0, ev_args, ev_C, ev_var, ev_slotV, ev_slotO, ev_keep, ev_settleV, ev_settleO, ev_settleS, ev_settleSO, ev_settleSV, ev_set, ev_op, ev_okV, ev_okO, ev_okS, ev_okSO, ev_okSV, ev_viewV, ev_viewO, ev_viewS, ev_viewSO, ev_viewSV, ev_nowN, ev_nowB, ev_nowI, ev_nowS, ev_nowT, ev_nowL, ev_nowC, ev_nowF, ev_nowA, ev_nowGL, ev_bl, ev_not, ev_and, ev_or, ev_if, ev_ifS, condE_t, condE_f, condS_t, condS_f, ev_seq, seqO_nx, seqO_rt, seqO_bk, seqO_ct, ev_nil, ev_drop, ev_ret, ev_retV, ev_retO, ev_retS, ev_retSO, ev_retSV, ev_fnR, ev_fnN, ev_call, ev_frz0, ev_frzV, ev_frzO, ev_res, ev_tup, ev_lst, ev_iSet, ev_new, ev_newO, ev_par, ev_bindRs0, ev_bindRsV, ev_bindRsO, ev_for, ev_itOf, ev_chain, ev_cmpI, ev_add, ev_sub, Option.map_some, List.map_cons, List.map_nil, List.all_cons, List.all_nil, Bool.and_true, Bool.true_and, Bool.and_self, if_true, ite_true, eq_self, List.length_cons, List.length_nil, List.replicate, List.cons_append, List.nil_append, List.append_nil, List.getElem?_cons_zero, List.getElem?_cons_succ, List.set_cons_zero, List.set_cons_succ, Nat.reduceAdd, Nat.reduceSub, Nat.zero_add, Nat.add_zero, Nat.sub_self, hd, hp, h3, h6, ev_sortL, ev_tupleL]
theorem sp_drawn (k : Nat) (o : Ob) (ho : Pot o) : ∃ cs o', Let cs ∧ Pot o' ∧ callF (k + 3) 31 [.adr 0] [o] = .ret (.val (uC cs)) [o'] := by
  obtain ⟨m, o1, hm, ho1, h1⟩ := sp_any k o ho [1, 2, 3, 6, 9, 15, 16, 31, 32, 63] (by decide) (by decide) []
  obtain ⟨w, o2, hw, ho2, h2⟩ := sp_draw (k + 1) o1 ho1 5 (by decide) (by decide) []
  have hm1 : 0 < m ∧ m ≤ 63 := by
    simp only [List.mem_cons, List.not_mem_nil, or_false] at hm
    omega
  obtain ⟨a', h3, s1, s5, s6, s7, s8, cs, o3, hc, ok, ho3, h8, rfl⟩ := forGo_inv (t := .nm 1) (B := iSq (Dlot (callF (k + 2))) (iSq (Dpcs (callF (k + 2))) (iDrop (iMut mAppend (iVar 4) [iKeep (iVar 5)]))))
    (fun i a => ∃ s1 s5 s6 s7 s8 cs o', cs.length = i ∧ FF.Ok cs ∧ Pot o' ∧ s8.plain = true ∧ a = ⟨[.val (.adr 0), s1, .val (.int m), .val (.int w), .val (.adr 1), s5, s6, s7, s8], [o', .lst (cs.map uT)]⟩) (nu (List.range m)) 0 ⟨[.val (.adr 0), .non, .val (.int m), .val (.int w), .val (.adr 1), .non, .non, .non, .non], [o2, .lst []]⟩ ⟨_, _, _, _, _, [], o2, rfl, (fun v l h => by simp at h), ho2, rfl, rfl⟩ (by
    rintro j u a hu ⟨s1, s5, s6, s7, s8, cs, o3, hc, ok, ho3, h8, rfl⟩
    rw [Nat.zero_add] at hc ⊢
    obtain ⟨n, hn, rfl⟩ := map_get hu
    obtain ⟨hnm, e⟩ := List.getElem?_eq_some_iff.mp hn
    rw [List.getElem_range] at e
    subst e
    rw [List.length_range] at hnm
    have few : cs.length ≤ 63 := by omega
    obtain ⟨l, o4, k1, k2, k3⟩ := dlot_sem (k + 1) j w (by omega) hw o3 ho3 (FF.labAt cs cs.length) (by rw [FF.labAt_len (Nat.le_refl _), hc]) (.val (.int m)) (.val (.adr 1)) s5 s6 s7 s8 [.lst (cs.map uT)]
    obtain ⟨l', o5, t6, t7, k4, k5, k6⟩ := dpcs_sem k cs ok few w o4 k2 l k1 (.val (.int j)) (.val (.int m)) s6 s7 s8 h8
    have hz : (cs.map uT).length < sizeLine := by rw [List.length_map]; exact Nat.lt_of_le_of_lt few (by decide)
    have e9 : cs.map uT ++ [uT l'] = (cs ++ [l']).map uT := by rw [List.map_append]; rfl
    have happ : iMut mAppend (iVar 4) [iKeep (iVar 5)] ⟨[.val (.adr 0), .val (.int j), .val (.int m), .val (.int w), .val (.adr 1), .val (uT l'), t6, t7, s8], [o5, .lst (cs.map uT)]⟩ = .ok (.val .non) ⟨[.val (.adr 0), .val (.int j), .val (.int m), .val (.int w), .val (.adr 1), .val (uT l'), t6, t7, s8], [o5, .lst ((cs ++ [l']).map uT)]⟩ := by
      unfold iMut
      simp only [ev_enter, ev_runB, ev_runC, ev_bind, ev_bindL, ev_bindLL, ev_bindRL, ev_bindLU, ev_bindRU, ev_bindS, ev_args0, ev_args, ev_C, ev_var, ev_slotV, ev_slotO, ev_keep, ev_settleV, ev_settleO, ev_settleS, ev_settleSO, ev_settleSV, ev_set, ev_op, ev_okV, ev_okO, ev_okS, ev_okSO, ev_okSV, ev_viewV, ev_viewO, ev_viewS, ev_viewSO, ev_viewSV, ev_nowN, ev_nowB, ev_nowI, ev_nowS, ev_nowT, ev_nowL, ev_nowC, ev_nowF, ev_nowA, ev_nowGL, ev_bl, ev_not, ev_and, ev_or, ev_if, ev_ifS, condE_t, condE_f, condS_t, condS_f, ev_seq, seqO_nx, seqO_rt, seqO_bk, seqO_ct, ev_nil, ev_drop, ev_ret, ev_retV, ev_retO, ev_retS, ev_retSO, ev_retSV, ev_fnR, ev_fnN, ev_call, ev_frz0, ev_frzV, ev_frzO, ev_res, ev_tup, ev_lst, ev_iSet, ev_new, ev_newO, ev_par, ev_bindRs0, ev_bindRsV, ev_bindRsO, ev_for, ev_itOf, ev_chain, ev_cmpI, ev_add, ev_sub, Option.map_some, List.map_cons, List.map_nil, List.all_cons, List.all_nil, Bool.and_true, Bool.true_and, Bool.and_self, if_true, ite_true, eq_self, List.length_cons, List.length_nil, List.replicate, List.cons_append, List.nil_append, List.append_nil, List.getElem?_cons_zero, List.getElem?_cons_succ, List.set_cons_zero, List.set_cons_succ, Nat.reduceAdd, Nat.reduceSub, Nat.zero_add, Nat.add_zero, Nat.sub_self, recvL, mAppend, hz, setL, e9]
    refine ⟨⟨[.val (.adr 0), .val (.int j), .val (.int m), .val (.int w), .val (.adr 1), s5, s6, s7, s8], [o3, .lst (cs.map uT)]⟩, ⟨[.val (.adr 0), .val (.int j), .val (.int m), .val (.int w), .val (.adr 1), .val (uT l'), t6, t7, s8], [o5, .lst ((cs ++ [l']).map uT)]⟩, rfl, ?_, _, _, _, _, _, cs ++ [l'], o5, by rw [List.length_append, List.length_singleton, hc], FF.ok_snoc ok k4, k5, h8, rfl⟩
    rw [ev_seq, k3, seqO_nx, ev_seq, k6, seqO_nx, ev_drop, happ]
    rfl)
  rw [Nat.zero_add, ints_length, List.length_range] at hc
  refine ⟨cs, o3, ⟨ok, by omega, by omega⟩, ho3, ?_⟩
  have e1 : callF (k + 2) 23 [.adr 0, .lst [.int 1, .int 2, .int 3, .int 6, .int 9, .int 15, .int 16, .int 31, .int 32, .int 63]] [o] = _ := h1
  have e2 : callF (k + 2) 22 [.adr 0, .int 5] [o1] = _ := h2
  show (runB 9 (B__law_drawn (callF (k + 2))) [.adr 0] [o]).cut 1 = _
  have hr := rng1 m (by omega)
  have q : runB 9 (B__law_drawn (callF (k + 2))) [.adr 0] [o] = .ret (.val (uC cs)) [o3, .lst (cs.map uT)] := by
    simp only [ev_enter, ev_runB, ev_runC, ev_bind, ev_bindL, ev_bindLL, ev_bindRL, ev_bindLU, ev_bindRU, ev_bindS, ev_args0, ev_args, ev_C, ev_var, ev_slotV, ev_slotO, ev_keep, ev_settleV, ev_settleO, ev_settleS, ev_settleSO, ev_settleSV, ev_set, ev_op, ev_okV, ev_okO, ev_okS, ev_okSO, ev_okSV, ev_viewV, ev_viewO, ev_viewS, ev_viewSO, ev_viewSV, ev_nowN, ev_nowB, ev_nowI, ev_nowS, ev_nowT, ev_nowL, ev_nowC, ev_nowF, ev_nowA, ev_nowGL, ev_bl, ev_not, ev_and, ev_or, ev_if, ev_ifS, condE_t, condE_f, condS_t, condS_f, ev_seq, seqO_nx, seqO_rt, seqO_bk, seqO_ct, ev_nil, ev_drop, ev_ret, ev_retV, ev_retO, ev_retS, ev_retSO, ev_retSV, ev_fnR, ev_fnN, ev_call, ev_frz0, ev_frzV, ev_frzO, ev_res, ev_tup, ev_lst, ev_iSet, ev_new, ev_newO, ev_par, ev_bindRs0, ev_bindRsV, ev_bindRsO, ev_for, ev_itOf, ev_chain, ev_cmpI, ev_add, ev_sub, Option.map_some, List.map_cons, List.map_nil, List.all_cons, List.all_nil, Bool.and_true, Bool.true_and, Bool.and_self, if_true, ite_true, eq_self, List.length_cons, List.length_nil, List.replicate, List.cons_append, List.nil_append, List.append_nil, List.getElem?_cons_zero, List.getElem?_cons_succ, List.set_cons_zero, List.set_cons_succ, Nat.reduceAdd, Nat.reduceSub, Nat.zero_add, Nat.add_zero, Nat.sub_self, B__law_drawn, e1, e2, hr, h3, ev_tupleL]
  rw [q]
  have l1 : lowL 1 (cs.map uT) = true := lowL_uT 1 cs
  have l2 := ho3.low 1
  exact if_pos ⟨Nat.le_succ_of_le (Nat.le_refl 1), l1, by show (Ob.low 1 o3 && true) = true; rw [l2]; rfl⟩
end K59
end T_M12
section T_M13
set_option Elab.async false
set_option linter.all false
set_option maxRecDepth 100000
set_option maxHeartbeats 0
namespace K59
open PySem PySem.Spec L2 IL
abbrev Gtail : SS := (iSq (iIfS (iOp gEq [iVar 2, iC (.int 0)])
    (iSet 1 (iOp gAdd [iVar 1, iLst [iTup [iOp gSub [iVar 3, iC (.int 1)]], iTup [iKeep (iVar 3)], iTup []]]))
    (iNil))
    (iSq (iIfS (iAnd (iOp gEq [iVar 2, iC (.int 1)]) (iOp (gCmpI fun i j => decide (i < j)) [iVar 3, iC (.int 32)]))
    (iSq (iSet 1 (iOp gAdd [iVar 1, iComp (.nm 4) [4] (iSeqE false (iVar 1)) (iC (.bl true)) (iOp gTuple [iComp (.nm 5) [5] (iSeqE false (iVar 4)) (iC (.bl true)) (iOp gAdd [iVar 3, iVar 5])])]))
    (iDrop (iMut mAppend (iVar 1) [iTup [iOp gSub [iVar 3, iC (.int 1)], iOp gSub [iOp gMul [iC (.int 2), iVar 3], iC (.int 1)]]])))
    (iNil))
    (iSq (iIfS (iOp gEq [iVar 2, iC (.int 2)])
    (iSet 1 (iOp gAdd [iOp gAdd [iLst [iTup []], iComp (.nm 4) [4] (iSeqE false (iVar 1)) (iC (.bl true)) (iOp gTuple [iComp (.nm 5) [5] (iSeqE false (iVar 4)) (iC (.bl true)) (iOp gAdd [iVar 5, iC (.int 1)])])], iLst [iTup [iC (.int 0)]]]))
    (iNil))
    (iRet (iOp gTuple [iVar 1])))))
theorem gtail_all (o : Ob) : (List.range 24).map (fun i : Nat => (Gtail ⟨[.val (.adr 0), .own ((FF.grownL (i / 4)).map uT), .val (.int (i % 4 : Nat)), .val (.int ((FF.grownL (i / 4)).map uT).length), .non, .non], [o]⟩).fn) = (List.range 24).map (fun i : Nat => .ret (.val (uC (FF.greatL (i / 4) (i % 4)))) [o]) := by kernel_rfl
theorem sp_great (o : Ob) (ho : Pot o) : ∃ cs o', Let cs ∧ Pot o' ∧ callF 19 30 [.adr 0] [o] = .ret (.val (uC cs)) [o'] := by
  obtain ⟨c, o1, hc, ho1, h1⟩ := sp_draw 17 o ho 6 (by decide) (by decide) []
  obtain ⟨w, o2, hw, ho2, h2⟩ := sp_draw 17 o1 ho1 4 (by decide) (by decide) []
  have e6 : ((6 : Nat) : Int) = 6 := rfl
  have e4 : ((4 : Nat) : Int) = 4 := rfl
  rw [e6] at h1
  rw [e4] at h2
  have hg := of_maps (grown_all o1) hc
  have ht := of_maps (gtail_all o2) (i := 4 * c + w) (by omega)
  rw [show (4 * c + w) / 4 = c by omega, show (4 * c + w) % 4 = w by omega] at ht
  refine ⟨FF.greatL c w, o2, let_of (great_let c hc w hw), ho2, ?_⟩
  have hlen : gLen [.lst ((FF.grownL c).map uT)] = some (.val (.int ((FF.grownL c).map uT).length)) := ev_lenL _
  show (B__law_great (callF 18) (enterA 6 [.adr 0] [o])).fn = _
  have q : B__law_great (callF 18) (enterA 6 [.adr 0] [o]) = Gtail ⟨[.val (.adr 0), .own ((FF.grownL c).map uT), .val (.int (w : Nat)), .val (.int ((FF.grownL c).map uT).length), .non, .non], [o2]⟩ := by
    unfold B__law_great
    rw [ev_seq]
    have a1 : iSet 1 (iCallF (callF 18 29) [iCallF (callF 18 22) [iKeep (iVar 0), iC (.int 6)]]) (enterA 6 [.adr 0] [o]) = .nx ⟨[.val (.adr 0), .own ((FF.grownL c).map uT), .non, .non, .non, .non], [o1]⟩ := by
      simp only [ev_enter, ev_runB, ev_runC, ev_bind, ev_bindL, ev_bindLL, ev_bindRL, ev_bindLU, ev_bindRU, ev_bindS, ev_args0, ev_args, ev_C, ev_var, ev_slotV, ev_slotO, ev_keep, ev_settleV, ev_settleO, ev_settleS, ev_settleSO, ev_settleSV, ev_set, ev_op, ev_okV, ev_okO, ev_okS, ev_okSO, ev_okSV, ev_viewV, ev_viewO, ev_viewS, ev_viewSO, ev_viewSV, ev_nowN, ev_nowB, ev_nowI, ev_nowS, ev_nowT, ev_nowL, ev_nowC, ev_nowF, ev_nowA, ev_nowGL, ev_bl, ev_not, ev_and, ev_or, ev_if, ev_ifS, condE_t, condE_f, condS_t, condS_f, ev_seq, seqO_nx, seqO_rt, seqO_bk, seqO_ct, ev_nil, ev_drop, ev_ret, ev_retV, ev_retO, ev_retS, ev_retSO, ev_retSV, ev_fnR, ev_fnN, ev_call, ev_frz0, ev_frzV, ev_frzO, ev_res, ev_tup, ev_lst, ev_iSet, ev_new, ev_newO, ev_par, ev_bindRs0, ev_bindRsV, ev_bindRsO, ev_for, ev_itOf, ev_chain, ev_cmpI, ev_add, ev_sub, Option.map_some, List.map_cons, List.map_nil, List.all_cons, List.all_nil, Bool.and_true, Bool.true_and, Bool.and_self, if_true, ite_true, eq_self, List.length_cons, List.length_nil, List.replicate, List.cons_append, List.nil_append, List.append_nil, List.getElem?_cons_zero, List.getElem?_cons_succ, List.set_cons_zero, List.set_cons_succ, Nat.reduceAdd, Nat.reduceSub, Nat.zero_add, Nat.add_zero, Nat.sub_self, h1, hg]
    rw [a1, seqO_nx, ev_seq]
    have a2 : iAsg (.tp [.nm 2, .nm 3]) (iTup [iCallF (callF 18 22) [iKeep (iVar 0), iC (.int 4)], iOp gLen [iVar 1]]) ⟨[.val (.adr 0), .own ((FF.grownL c).map uT), .non, .non, .non, .non], [o1]⟩ = .nx ⟨[.val (.adr 0), .own ((FF.grownL c).map uT), .val (.int (w : Nat)), .val (.int ((FF.grownL c).map uT).length), .non, .non], [o2]⟩ := by
      unfold iAsg
      simp only [ev_enter, ev_runB, ev_runC, ev_bind, ev_bindL, ev_bindLL, ev_bindRL, ev_bindLU, ev_bindRU, ev_bindS, ev_args0, ev_args, ev_C, ev_var, ev_slotV, ev_slotO, ev_keep, ev_settleV, ev_settleO, ev_settleS, ev_settleSO, ev_settleSV, ev_set, ev_op, ev_okV, ev_okO, ev_okS, ev_okSO, ev_okSV, ev_viewV, ev_viewO, ev_viewS, ev_viewSO, ev_viewSV, ev_nowN, ev_nowB, ev_nowI, ev_nowS, ev_nowT, ev_nowL, ev_nowC, ev_nowF, ev_nowA, ev_nowGL, ev_bl, ev_not, ev_and, ev_or, ev_if, ev_ifS, condE_t, condE_f, condS_t, condS_f, ev_seq, seqO_nx, seqO_rt, seqO_bk, seqO_ct, ev_nil, ev_drop, ev_ret, ev_retV, ev_retO, ev_retS, ev_retSO, ev_retSV, ev_fnR, ev_fnN, ev_call, ev_frz0, ev_frzV, ev_frzO, ev_res, ev_tup, ev_lst, ev_iSet, ev_new, ev_newO, ev_par, ev_bindRs0, ev_bindRsV, ev_bindRsO, ev_for, ev_itOf, ev_chain, ev_cmpI, ev_add, ev_sub, Option.map_some, List.map_cons, List.map_nil, List.all_cons, List.all_nil, Bool.and_true, Bool.true_and, Bool.and_self, if_true, ite_true, eq_self, List.length_cons, List.length_nil, List.replicate, List.cons_append, List.nil_append, List.append_nil, List.getElem?_cons_zero, List.getElem?_cons_succ, List.set_cons_zero, List.set_cons_succ, Nat.reduceAdd, Nat.reduceSub, Nat.zero_add, Nat.add_zero, Nat.sub_self, h2, hlen, bindT, bindTs]
    rw [a2, seqO_nx]
  rw [q]
  exact ht
end K59
end T_M13
section T_M14
set_option Elab.async false
set_option linter.all false
set_option maxRecDepth 100000
set_option maxHeartbeats 0
namespace FF
abbrev lstepL (lots : List (List Nat)) (piece : List Nat) : List (List Nat) := lots ++ lots.flatMap fun lot => piece.map fun x => lot ++ [x]
theorem lotsL_take {ps : List (List Nat)} {j : Nat} {p : List Nat} (h : ps[j]? = some p) : lotsL (ps.take (j + 1)) = lstepL (lotsL (ps.take j)) p := by
  unfold lotsL
  rw [take_succ_of h, List.foldl_append]
  rfl
theorem lotsL_len (ps : List (List Nat)) : ∀ j, (lotsL (ps.take j)).length ≤ 2 ^ ((ps.take j).flatten.length)
  | 0 => by simp [lotsL]
  | j + 1 => by
    cases h : ps[j]? with
    | none =>
      have e : ps.take (j + 1) = ps.take j := by
        have := List.getElem?_eq_none_iff.mp h
        rw [List.take_of_length_le (by omega), List.take_of_length_le (by omega)]
      rw [e]
      exact lotsL_len ps j
    | some p =>
      have ih := lotsL_len ps j
      rw [lotsL_take h, take_succ_of h]
      have e2 : ∀ (ls : List (List Nat)), (ls.flatMap fun lot => p.map fun x => lot ++ [x]).length = ls.length * p.length := by
        intro ls
        induction ls with
        | nil => simp
        | cons l ls ih => rw [List.flatMap_cons, List.length_append, ih, List.length_map, List.length_cons, Nat.add_mul]; omega
      have hp : p.length + 1 ≤ 2 ^ p.length := Nat.lt_two_pow_self
      unfold lstepL
      rw [List.length_append, e2, List.flatten_append, List.length_append]
      simp only [List.flatten_cons, List.flatten_nil, List.append_nil]
      rw [Nat.pow_add]
      calc _ = (lotsL (ps.take j)).length * (p.length + 1) := by rw [Nat.mul_add, Nat.mul_one, Nat.add_comm]
        _ ≤ _ := Nat.mul_le_mul ih hp
theorem lotsL_each (ps : List (List Nat)) : ∀ j, ∀ lot ∈ lotsL (ps.take j), ∃ sm, List.Sublist sm (ps.take j) ∧ Each lot sm
  | 0, lot, h => by
    have e : lot = [] := by simpa [lotsL] using h
    exact ⟨[], List.nil_sublist _, by rw [e]; exact .nil⟩
  | j + 1, lot, h => by
    cases hj : ps[j]? with
    | none =>
      have e : ps.take (j + 1) = ps.take j := by
        have := List.getElem?_eq_none_iff.mp hj
        rw [List.take_of_length_le (by omega), List.take_of_length_le (by omega)]
      rw [e] at h ⊢
      exact lotsL_each ps j lot h
    | some p =>
      rw [lotsL_take hj] at h
      rw [take_succ_of hj]
      rcases List.mem_append.mp h with h | h
      · obtain ⟨sm, h1, h2⟩ := lotsL_each ps j lot h
        exact ⟨sm, h1.trans (List.sublist_append_left _ _), h2⟩
      · obtain ⟨lot', h1, h2⟩ := List.mem_flatMap.mp h
        obtain ⟨x, h3, rfl⟩ := List.mem_map.mp h2
        obtain ⟨sm, h4, h5⟩ := lotsL_each ps j lot' h1
        exact ⟨sm ++ [p], h4.append_right [p], h5.snoc h3⟩
abbrev nextL (cs : List (List Nat)) : List (List (List Nat)) := (lotsL (psAt cs cs.length)).map fun lot => cs ++ [IL.sortN lot]
def fo : Nat → List (List (List Nat))
  | 0 => [[]]
  | n + 1 => (fo n).flatMap nextL
theorem fo_ok : ∀ n, ∀ cs ∈ fo n, Ok cs ∧ cs.length = n
  | 0, cs, h => by
    have e : cs = [] := by simpa [fo] using h
    subst e
    exact ⟨fun v l h => by simp at h, rfl⟩
  | n + 1, cs, h => by
    obtain ⟨ds, h1, h2⟩ := List.mem_flatMap.mp h
    obtain ⟨lot, h3, rfl⟩ := List.mem_map.mp h2
    obtain ⟨ok, hl⟩ := fo_ok n ds h1
    have h3' : lot ∈ lotsL ((psAt ds ds.length).take (psAt ds ds.length).length) := by rw [List.take_length]; exact h3
    obtain ⟨sm, h4, h5⟩ := lotsL_each _ _ lot h3'
    rw [List.take_length] at h4
    exact ⟨ok_snoc ok (lot_of_some (psAt_pc ok ds.length (Nat.le_refl _)) h4 h5 (IL.sortN_perm lot) (IL.sortN_sorted lot)), by rw [List.length_append, List.length_singleton, hl]⟩
theorem nextL_len {cs : List (List Nat)} (h : cs.length ≤ 4) : (nextL cs).length ≤ 16 := by
  unfold nextL
  rw [List.length_map]
  have e := lotsL_len (psAt cs cs.length) (psAt cs cs.length).length
  rw [List.take_length, psAt_flat] at e
  exact Nat.le_trans e (Nat.pow_le_pow_right (by decide) h)
theorem flat_len {cs : List (List (List Nat))} {f : List (List Nat) → List (List (List Nat))} (h : ∀ c ∈ cs, (f c).length ≤ 16) : (cs.flatMap f).length ≤ cs.length * 16 := by
  induction cs with
  | nil => simp
  | cons c cs ih =>
    have h1 := h c List.mem_cons_self
    have h2 := ih fun d hd => h d (List.mem_cons_of_mem _ hd)
    rw [List.flatMap_cons, List.length_append, List.length_cons]
    omega
theorem fo_len : ∀ n, n ≤ 5 → (fo n).length ≤ 16 ^ n
  | 0, _ => Nat.le_refl _
  | n + 1, h => by
    have h1 := fo_len n (by omega)
    have h2 : ((fo n).flatMap nextL).length ≤ (fo n).length * 16 := flat_len fun c hc => nextL_len (by rw [(fo_ok n c hc).2]; omega)
    show ((fo n).flatMap nextL).length ≤ _
    rw [Nat.pow_succ]
    omega
theorem flatMap_take {α β : Type} {f : α → List β} {l : List α} {j : Nat} {x : α} (h : l[j]? = some x) : (l.take (j + 1)).flatMap f = (l.take j).flatMap f ++ f x := by
  have e : l.take (j + 1) = l.take j ++ [x] := by
    rw [List.take_add_one, h]
    rfl
  rw [e, List.flatMap_append]
  simp
end FF
end T_M14
section T_M15
set_option Elab.async false
set_option linter.all false
set_option maxRecDepth 100000
namespace K59
open PySem PySem.Spec L2 IL
abbrev Bmore : SS := iDrop (iMut mExtend (iVar 7) [iComp (.nm 9) [9] (iSeqE false (iVar 6)) (iC (.bl true)) (iOp gAdd [iVar 8, iTup [iKeep (iVar 9)]])])
abbrev Bpiece : SS := (iSq (iSet 7 (iLst []))
    (iSq (iFor (.nm 8) (iSeqE true (iVar 5)) Bmore)
    (iSet 5 (iOp gAdd [iVar 5, iVar 7]))))
theorem more_sem (s0 s1 s2 s3 s4 s5 s9 : Sl) (h9 : s9.plain = true) (piece lot : List Nat) (xs : List (List Nat)) (hl : lot.length ≤ 1000) (hz : xs.length + piece.length ≤ sizeLine) (G : List Ob) :
    Bmore ⟨[s0, s1, s2, s3, s4, s5, .val (uL piece), .own (xs.map uT), .val (uT lot), s9], G⟩ = .nx ⟨[s0, s1, s2, s3, s4, s5, .val (uL piece), .own ((xs ++ piece.map fun x => lot ++ [x]).map uT), .val (uT lot), s9], G⟩ := by
  have hc : iComp (.nm 9) [9] (iSeqE false (iVar 6)) (iC (.bl true)) (iOp gAdd [iVar 8, iTup [iKeep (iVar 9)]]) ⟨[s0, s1, s2, s3, s4, s5, .val (uL piece), .own (xs.map uT), .val (uT lot), s9], G⟩ = .ok (.own ((piece.map fun x => lot ++ [x]).map uT)) ⟨[s0, s1, s2, s3, s4, s5, .val (uL piece), .own (xs.map uT), .val (uT lot), s9], G⟩ := by
    have q := comp_map (t := .nm 9) (vs := [9]) (it := iSeqE false (iVar 6)) (el := iOp gAdd [iVar 8, iTup [iKeep (iVar 9)]]) (a := ⟨[s0, s1, s2, s3, s4, s5, .val (uL piece), .own (xs.map uT), .val (uT lot), s9], G⟩) (a1 := ⟨[s0, s1, s2, s3, s4, s5, .val (uL piece), .own (xs.map uT), .val (uT lot), s9], G⟩) (us := nu piece) (fun u => .tup (nu lot ++ [u])) (seqE_lst _ _ _ _ _ rfl) (by show (s9.plain && true) = true; rw [h9]; rfl) rfl fun u hu => by
      obtain ⟨x, hx, rfl⟩ := List.mem_map.mp hu
      have hadd : gAdd [.tup (nu lot), .tup [.int (x : Int)]] = some (.val (.tup (nu lot ++ [.int (x : Int)]))) := ev_addT _ _ (by rw [ints_length]; show lot.length + 1 ≤ 16777216; omega)
      exact ⟨⟨[s0, s1, s2, s3, s4, s5, .val (uL piece), .own (xs.map uT), .val (uT lot), .val (.int x)], G⟩, rfl, ⟨.val (.tup (nu lot ++ [.int (x : Int)])), by simp only [ev_enter, ev_runB, ev_runC, ev_bind, ev_bindL, ev_bindLL, ev_bindRL, ev_bindLU, ev_bindRU, ev_bindS, ev_args0, ev_args, ev_C, ev_var, ev_slotV, ev_slotO, ev_keep, ev_settleV, ev_settleO, ev_settleS, ev_settleSO, ev_settleSV, ev_set, ev_op, ev_okV, ev_okO, ev_okS, ev_okSO, ev_okSV, ev_viewV, ev_viewO, ev_viewS, ev_viewSO, ev_viewSV, ev_nowN, ev_nowB, ev_nowI, ev_nowS, ev_nowT, ev_nowL, ev_nowC, ev_nowF, ev_nowA, ev_nowGL, ev_bl, ev_not, ev_and, ev_or, ev_if, ev_ifS, condE_t, condE_f, condS_t, condS_f, ev_seq, seqO_nx, seqO_rt, seqO_bk, seqO_ct, ev_nil, ev_drop, ev_ret, ev_retV, ev_retO, ev_retS, ev_retSO, ev_retSV, ev_fnR, ev_fnN, ev_call, ev_frz0, ev_frzV, ev_frzO, ev_res, ev_tup, ev_lst, ev_iSet, ev_new, ev_newO, ev_par, ev_bindRs0, ev_bindRsV, ev_bindRsO, ev_for, ev_itOf, ev_chain, ev_cmpI, ev_add, ev_sub, Option.map_some, List.map_cons, List.map_nil, List.all_cons, List.all_nil, Bool.and_true, Bool.true_and, Bool.and_self, if_true, ite_true, eq_self, List.length_cons, List.length_nil, List.replicate, List.cons_append, List.nil_append, List.append_nil, List.getElem?_cons_zero, List.getElem?_cons_succ, List.set_cons_zero, List.set_cons_succ, Nat.reduceAdd, Nat.reduceSub, Nat.zero_add, Nat.add_zero, Nat.sub_self, hadd], rfl⟩, rfl⟩
    rw [q]
    congr 2
    unfold nu
    rw [List.map_map, List.map_map]
    apply List.map_congr_left
    intro x _
    show U.tup (_ ++ [_]) = U.tup (nu (lot ++ [x]))
    unfold nu
    rw [List.map_append]
    rfl
  have hz' : (xs.map uT).length + ((piece.map fun x => lot ++ [x]).map uT).length ≤ sizeLine := by
    rw [List.length_map, List.length_map, List.length_map]; exact hz
  have e : xs.map uT ++ (piece.map fun x => lot ++ [x]).map uT = (xs ++ piece.map fun x => lot ++ [x]).map uT := by rw [List.map_append]
  show iDrop (iMut mExtend (iVar 7) [iComp (.nm 9) [9] (iSeqE false (iVar 6)) (iC (.bl true)) (iOp gAdd [iVar 8, iTup [iKeep (iVar 9)]])]) _ = _
  unfold iMut
  simp only [ev_enter, ev_runB, ev_runC, ev_bind, ev_bindL, ev_bindLL, ev_bindRL, ev_bindLU, ev_bindRU, ev_bindS, ev_args0, ev_args, ev_C, ev_var, ev_slotV, ev_slotO, ev_keep, ev_settleV, ev_settleO, ev_settleS, ev_settleSO, ev_settleSV, ev_set, ev_op, ev_okV, ev_okO, ev_okS, ev_okSO, ev_okSV, ev_viewV, ev_viewO, ev_viewS, ev_viewSO, ev_viewSV, ev_nowN, ev_nowB, ev_nowI, ev_nowS, ev_nowT, ev_nowL, ev_nowC, ev_nowF, ev_nowA, ev_nowGL, ev_bl, ev_not, ev_and, ev_or, ev_if, ev_ifS, condE_t, condE_f, condS_t, condS_f, ev_seq, seqO_nx, seqO_rt, seqO_bk, seqO_ct, ev_nil, ev_drop, ev_ret, ev_retV, ev_retO, ev_retS, ev_retSO, ev_retSV, ev_fnR, ev_fnN, ev_call, ev_frz0, ev_frzV, ev_frzO, ev_res, ev_tup, ev_lst, ev_iSet, ev_new, ev_newO, ev_par, ev_bindRs0, ev_bindRsV, ev_bindRsO, ev_for, ev_itOf, ev_chain, ev_cmpI, ev_add, ev_sub, Option.map_some, List.map_cons, List.map_nil, List.all_cons, List.all_nil, Bool.and_true, Bool.true_and, Bool.and_self, if_true, ite_true, eq_self, List.length_cons, List.length_nil, List.replicate, List.cons_append, List.nil_append, List.append_nil, List.getElem?_cons_zero, List.getElem?_cons_succ, List.set_cons_zero, List.set_cons_succ, Nat.reduceAdd, Nat.reduceSub, Nat.zero_add, Nat.add_zero, Nat.sub_self, hc, ev_recvS, ev_recvSO, mExtend, hz', ev_setS, e]
theorem flat_len1 {lots : List (List Nat)} {piece : List Nat} : (lots.flatMap fun lot => piece.map fun x => lot ++ [x]).length = lots.length * piece.length := by
  induction lots with
  | nil => simp
  | cons l ls ih => rw [List.flatMap_cons, List.length_append, ih, List.length_map, List.length_cons, Nat.add_mul]; omega
theorem piece_sem (s0 s1 s2 s3 s4 s7 s8 s9 : Sl) (h8 : s8.plain = true) (h9 : s9.plain = true) (piece : List Nat) (lots : List (List Nat)) (hl : ∀ lot ∈ lots, lot.length ≤ 1000) (hz : lots.length ≤ 1000) (hp : piece.length ≤ 1000) (G : List Ob) :
    ∃ t7 t8, t8.plain = true ∧ Bpiece ⟨[s0, s1, s2, s3, s4, .own (lots.map uT), .val (uL piece), s7, s8, s9], G⟩ = .nx ⟨[s0, s1, s2, s3, s4, .own ((FF.lstepL lots piece).map uT), .val (uL piece), t7, t8, s9], G⟩ := by
  obtain ⟨a', h1, t8, h8', rfl⟩ := forGo_inv (t := .nm 8) (B := Bmore) (fun i a => ∃ t8, t8.plain = true ∧ a = ⟨[s0, s1, s2, s3, s4, .val (.lst (lots.map uT)), .val (uL piece), .own (((lots.take i).flatMap fun lot => piece.map fun x => lot ++ [x]).map uT), t8, s9], G⟩) (lots.map uT) 0 ⟨[s0, s1, s2, s3, s4, .val (.lst (lots.map uT)), .val (uL piece), .own [], s8, s9], G⟩ ⟨s8, h8, rfl⟩ (by
    rintro j u a hu ⟨t8, k8, rfl⟩
    rw [Nat.zero_add]
    obtain ⟨lot, hp', rfl⟩ := map_get hu
    have hlot := hl lot (List.mem_of_getElem? hp')
    have hb : ((lots.take j).flatMap fun lot => piece.map fun x => lot ++ [x]).length + piece.length ≤ sizeLine := by
      rw [flat_len1]
      have h5 : (lots.take j).length ≤ 1000 := Nat.le_trans (List.length_take_le' ..) hz
      have h6 := Nat.mul_le_mul h5 hp
      show _ ≤ 16777216
      omega
    have q := more_sem s0 s1 s2 s3 s4 (.val (.lst (lots.map uT))) s9 h9 piece lot _ hlot hb G
    rw [← FF.flatMap_take (f := fun lot => piece.map fun x => lot ++ [x]) hp'] at q
    exact ⟨_, _, rfl, q, _, rfl, rfl⟩)
  rw [Nat.zero_add, List.length_map, List.take_length] at h1
  have hit : iSeqE true (iVar 5) ⟨[s0, s1, s2, s3, s4, .own (lots.map uT), .val (uL piece), .own [], s8, s9], G⟩ = .ok (lots.map uT) ⟨[s0, s1, s2, s3, s4, .val (.lst (lots.map uT)), .val (uL piece), .own [], s8, s9], G⟩ := seqE_slO _ _ _ 5 _ rfl rfl
  have hadd : gAdd [.lst (lots.map uT), .lst ((lots.flatMap fun lot => piece.map fun x => lot ++ [x]).map uT)] = some (.own ((FF.lstepL lots piece).map uT)) := by
    rw [ev_addL _ _ (by
      rw [List.length_map, List.length_map, flat_len1]
      have h6 := Nat.mul_le_mul hz hp
      show _ ≤ 16777216
      omega), ← List.map_append]
  refine ⟨.own ((lots.flatMap fun lot => piece.map fun x => lot ++ [x]).map uT), t8, h8', ?_⟩
  simp only [ev_enter, ev_runB, ev_runC, ev_bind, ev_bindL, ev_bindLL, ev_bindRL, ev_bindLU, ev_bindRU, ev_bindS, ev_args0, ev_args, ev_C, ev_var, ev_slotV, ev_slotO, ev_keep, ev_settleV, ev_settleO, ev_settleS, ev_settleSO, ev_settleSV, ev_set, ev_op, ev_okV, ev_okO, ev_okS, ev_okSO, ev_okSV, ev_viewV, ev_viewO, ev_viewS, ev_viewSO, ev_viewSV, ev_nowN, ev_nowB, ev_nowI, ev_nowS, ev_nowT, ev_nowL, ev_nowC, ev_nowF, ev_nowA, ev_nowGL, ev_bl, ev_not, ev_and, ev_or, ev_if, ev_ifS, condE_t, condE_f, condS_t, condS_f, ev_seq, seqO_nx, seqO_rt, seqO_bk, seqO_ct, ev_nil, ev_drop, ev_ret, ev_retV, ev_retO, ev_retS, ev_retSO, ev_retSV, ev_fnR, ev_fnN, ev_call, ev_frz0, ev_frzV, ev_frzO, ev_res, ev_tup, ev_lst, ev_iSet, ev_new, ev_newO, ev_par, ev_bindRs0, ev_bindRsV, ev_bindRsO, ev_for, ev_itOf, ev_chain, ev_cmpI, ev_add, ev_sub, Option.map_some, List.map_cons, List.map_nil, List.all_cons, List.all_nil, Bool.and_true, Bool.true_and, Bool.and_self, if_true, ite_true, eq_self, List.length_cons, List.length_nil, List.replicate, List.cons_append, List.nil_append, List.append_nil, List.getElem?_cons_zero, List.getElem?_cons_succ, List.set_cons_zero, List.set_cons_succ, Nat.reduceAdd, Nat.reduceSub, Nat.zero_add, Nat.add_zero, Nat.sub_self, hit, h1, hadd]
abbrev Bfound (Φ : Nat → FS) : SS := (iSq (iSet 5 (iLst [iTup []]))
    (iSq (iFor (.nm 6) (iSeqE true (iCallF (Φ 25) [iKeep (iVar 4)])) Bpiece)
    (iDrop (iMut mExtend (iVar 3) [iComp (.nm 8) [8] (iSeqE false (iVar 5)) (iC (.bl true)) (iOp gAdd [iVar 4, iTup [iOp gTuple [iOp gSorted [iVar 8]]]])]))))
theorem found_sem (k : Nat) (s0 s1 s2 s5 s6 s7 s8 s9 : Sl) (h8 : s8.plain = true) (h9 : s9.plain = true) (cs : List (List Nat)) (hc : cs.length ≤ 4) (later : List (List (List Nat))) (hz : later.length ≤ 16000000) (G : List Ob) :
    ∃ t5 t6 t7 t8, t8.plain = true ∧ Bfound (callF (k + 1)) ⟨[s0, s1, s2, .own (later.map uC), .val (uC cs), s5, s6, s7, s8, s9], G⟩ = .nx ⟨[s0, s1, s2, .own ((later ++ FF.nextL cs).map uC), .val (uC cs), t5, t6, t7, t8, s9], G⟩ := by
  obtain ⟨ps, hps⟩ : ∃ ps, ps = FF.psAt cs cs.length := ⟨_, rfl⟩
  have hfl : ps.flatten.length ≤ 4 := by rw [hps, FF.psAt_flat]; exact hc
  have hpl : ps.length ≤ 4 := by rw [hps]; exact Nat.le_trans (FF.psAt_len cs _) hc
  have hlots : ∀ j, (FF.lotsL (ps.take j)).length ≤ 16 ∧ ∀ lot ∈ FF.lotsL (ps.take j), lot.length ≤ 1000 := fun j => by
    refine ⟨Nat.le_trans (FF.lotsL_len ps j) (show 2 ^ (ps.take j).flatten.length ≤ 2 ^ 4 from Nat.pow_le_pow_right (by decide) ?_), fun lot h => ?_⟩
    · have ea : (ps.take j).flatten ++ (ps.drop j).flatten = ps.flatten := by rw [← List.flatten_append, List.take_append_drop]
      have := congrArg List.length ea
      rw [List.length_append] at this
      omega
    · obtain ⟨sm, e1, e2⟩ := FF.lotsL_each ps j lot h
      rw [e2.len]
      have := e1.length_le
      rw [List.length_take] at this
      omega
  have hpc := sp_piecesT k cs (by omega) G
  rw [← hps] at hpc
  have hit : iSeqE true (iCallF (callF (k + 1) 25) [iKeep (iVar 4)]) ⟨[s0, s1, s2, .own (later.map uC), .val (uC cs), .own [.tup []], s6, s7, s8, s9], G⟩ = .ok (ps.map uL) ⟨[s0, s1, s2, .own (later.map uC), .val (uC cs), .own [.tup []], s6, s7, s8, s9], G⟩ := seqE_own _ _ _ _ _ (by simp only [ev_enter, ev_runB, ev_runC, ev_bind, ev_bindL, ev_bindLL, ev_bindRL, ev_bindLU, ev_bindRU, ev_bindS, ev_args0, ev_args, ev_C, ev_var, ev_slotV, ev_slotO, ev_keep, ev_settleV, ev_settleO, ev_settleS, ev_settleSO, ev_settleSV, ev_set, ev_op, ev_okV, ev_okO, ev_okS, ev_okSO, ev_okSV, ev_viewV, ev_viewO, ev_viewS, ev_viewSO, ev_viewSV, ev_nowN, ev_nowB, ev_nowI, ev_nowS, ev_nowT, ev_nowL, ev_nowC, ev_nowF, ev_nowA, ev_nowGL, ev_bl, ev_not, ev_and, ev_or, ev_if, ev_ifS, condE_t, condE_f, condS_t, condS_f, ev_seq, seqO_nx, seqO_rt, seqO_bk, seqO_ct, ev_nil, ev_drop, ev_ret, ev_retV, ev_retO, ev_retS, ev_retSO, ev_retSV, ev_fnR, ev_fnN, ev_call, ev_frz0, ev_frzV, ev_frzO, ev_res, ev_tup, ev_lst, ev_iSet, ev_new, ev_newO, ev_par, ev_bindRs0, ev_bindRsV, ev_bindRsO, ev_for, ev_itOf, ev_chain, ev_cmpI, ev_add, ev_sub, Option.map_some, List.map_cons, List.map_nil, List.all_cons, List.all_nil, Bool.and_true, Bool.true_and, Bool.and_self, if_true, ite_true, eq_self, List.length_cons, List.length_nil, List.replicate, List.cons_append, List.nil_append, List.append_nil, List.getElem?_cons_zero, List.getElem?_cons_succ, List.set_cons_zero, List.set_cons_succ, Nat.reduceAdd, Nat.reduceSub, Nat.zero_add, Nat.add_zero, Nat.sub_self, hpc])
  obtain ⟨a', h1, t6, t7, t8, h8', rfl⟩ := forGo_inv (t := .nm 6) (B := Bpiece) (fun i a => ∃ t6 t7 t8, t8.plain = true ∧ a = ⟨[s0, s1, s2, .own (later.map uC), .val (uC cs), .own ((FF.lotsL (ps.take i)).map uT), t6, t7, t8, s9], G⟩) (ps.map uL) 0 ⟨[s0, s1, s2, .own (later.map uC), .val (uC cs), .own [.tup []], s6, s7, s8, s9], G⟩ ⟨s6, s7, s8, h8, rfl⟩ (by
    rintro j u a hu ⟨t6, t7, t8, k8, rfl⟩
    rw [Nat.zero_add]
    obtain ⟨p, hp, rfl⟩ := map_get hu
    have hpp : p.length ≤ 1000 := by
      have := FF.mem_flat_le (List.mem_of_getElem? hp)
      omega
    obtain ⟨l1, l2⟩ := hlots j
    obtain ⟨x7, x8, k9, q⟩ := piece_sem s0 s1 s2 (.own (later.map uC)) (.val (uC cs)) t7 t8 s9 k8 h9 p (FF.lotsL (ps.take j)) l2 (by omega) hpp G
    rw [← FF.lotsL_take hp] at q
    exact ⟨_, _, rfl, q, _, _, _, k9, rfl⟩)
  rw [Nat.zero_add, List.length_map, List.take_length] at h1
  have hl := hlots ps.length
  rw [List.take_length] at hl
  have hcomp : iComp (.nm 8) [8] (iSeqE false (iVar 5)) (iC (.bl true)) (iOp gAdd [iVar 4, iTup [iOp gTuple [iOp gSorted [iVar 8]]]]) ⟨[s0, s1, s2, .own (later.map uC), .val (uC cs), .own ((FF.lotsL ps).map uT), t6, t7, t8, s9], G⟩ = .ok (.own ((FF.nextL cs).map uC)) ⟨[s0, s1, s2, .own (later.map uC), .val (uC cs), .own ((FF.lotsL ps).map uT), t6, t7, t8, s9], G⟩ := by
    have q := comp_map (t := .nm 8) (vs := [8]) (it := iSeqE false (iVar 5)) (el := iOp gAdd [iVar 4, iTup [iOp gTuple [iOp gSorted [iVar 8]]]]) (a := ⟨[s0, s1, s2, .own (later.map uC), .val (uC cs), .own ((FF.lotsL ps).map uT), t6, t7, t8, s9], G⟩) (a1 := ⟨[s0, s1, s2, .own (later.map uC), .val (uC cs), .own ((FF.lotsL ps).map uT), t6, t7, t8, s9], G⟩) (us := (FF.lotsL ps).map uT) (fun u => match u with | .tup us => uC (cs ++ [sortN (us.map fun w => match w with | .int n => n.toNat | _ => 0)]) | _ => .non) (seqE_sl _ _ _ 5 _ rfl rfl) (by show (t8.plain && true) = true; rw [h8']; rfl) rfl fun u hu => by
      obtain ⟨lot, hx, rfl⟩ := List.mem_map.mp hu
      have e : ((nu lot).map fun w => match w with | .int n => n.toNat | _ => 0) = lot := by
        unfold nu
        rw [List.map_map]
        exact List.map_id' lot
      have hadd : gAdd [.tup (cs.map uT), .tup [.tup (nu (sortN lot))]] = some (.val (uC (cs ++ [sortN lot]))) := by
        rw [ev_addT _ _ (by rw [List.length_map]; show cs.length + 1 ≤ 16777216; omega)]
        show some (R.val (.tup (cs.map uT ++ [uT (sortN lot)]))) = some (R.val (.tup ((cs ++ [sortN lot]).map uT)))
        rw [List.map_append]
        rfl
      refine ⟨⟨[s0, s1, s2, .own (later.map uC), .val (uC cs), .own ((FF.lotsL ps).map uT), t6, t7, .val (uT lot), s9], G⟩, rfl, ⟨.val (uC (cs ++ [sortN lot])), by simp only [ev_enter, ev_runB, ev_runC, ev_bind, ev_bindL, ev_bindLL, ev_bindRL, ev_bindLU, ev_bindRU, ev_bindS, ev_args0, ev_args, ev_C, ev_var, ev_slotV, ev_slotO, ev_keep, ev_settleV, ev_settleO, ev_settleS, ev_settleSO, ev_settleSV, ev_set, ev_op, ev_okV, ev_okO, ev_okS, ev_okSO, ev_okSV, ev_viewV, ev_viewO, ev_viewS, ev_viewSO, ev_viewSV, ev_nowN, ev_nowB, ev_nowI, ev_nowS, ev_nowT, ev_nowL, ev_nowC, ev_nowF, ev_nowA, ev_nowGL, ev_bl, ev_not, ev_and, ev_or, ev_if, ev_ifS, condE_t, condE_f, condS_t, condS_f, ev_seq, seqO_nx, seqO_rt, seqO_bk, seqO_ct, ev_nil, ev_drop, ev_ret, ev_retV, ev_retO, ev_retS, ev_retSO, ev_retSV, ev_fnR, ev_fnN, ev_call, ev_frz0, ev_frzV, ev_frzO, ev_res, ev_tup, ev_lst, ev_iSet, ev_new, ev_newO, ev_par, ev_bindRs0, ev_bindRsV, ev_bindRsO, ev_for, ev_itOf, ev_chain, ev_cmpI, ev_add, ev_sub, Option.map_some, List.map_cons, List.map_nil, List.all_cons, List.all_nil, Bool.and_true, Bool.true_and, Bool.and_self, if_true, ite_true, eq_self, List.length_cons, List.length_nil, List.replicate, List.cons_append, List.nil_append, List.append_nil, List.getElem?_cons_zero, List.getElem?_cons_succ, List.set_cons_zero, List.set_cons_succ, Nat.reduceAdd, Nat.reduceSub, Nat.zero_add, Nat.add_zero, Nat.sub_self, ev_sortT, ev_tupleL, hadd], ?_⟩, rfl⟩
      show some (uC (cs ++ [sortN lot]), _) = some (uC (cs ++ [sortN ((nu lot).map _)]), _)
      rw [e]
    rw [q]
    congr 2
    unfold FF.nextL
    rw [← hps, List.map_map, List.map_map]
    apply List.map_congr_left
    intro lot _
    have e : ((nu lot).map fun w => match w with | .int n => n.toNat | _ => 0) = lot := by
      unfold nu
      rw [List.map_map]
      exact List.map_id' lot
    show uC (cs ++ [sortN ((nu lot).map _)]) = uC (cs ++ [sortN lot])
    rw [e]
  have hn := FF.nextL_len hc
  have hz' : (later.map uC).length + ((FF.nextL cs).map uC).length ≤ sizeLine := by
    rw [List.length_map, List.length_map]
    show _ ≤ 16777216
    omega
  have e9 : later.map uC ++ (FF.nextL cs).map uC = (later ++ FF.nextL cs).map uC := by rw [List.map_append]
  have hmut : iMut mExtend (iVar 3) [iComp (.nm 8) [8] (iSeqE false (iVar 5)) (iC (.bl true)) (iOp gAdd [iVar 4, iTup [iOp gTuple [iOp gSorted [iVar 8]]]])] ⟨[s0, s1, s2, .own (later.map uC), .val (uC cs), .own ((FF.lotsL ps).map uT), t6, t7, t8, s9], G⟩ = .ok (.val .non) ⟨[s0, s1, s2, .own ((later ++ FF.nextL cs).map uC), .val (uC cs), .own ((FF.lotsL ps).map uT), t6, t7, t8, s9], G⟩ := by
    unfold iMut
    simp only [ev_enter, ev_runB, ev_runC, ev_bind, ev_bindL, ev_bindLL, ev_bindRL, ev_bindLU, ev_bindRU, ev_bindS, ev_args0, ev_args, ev_C, ev_var, ev_slotV, ev_slotO, ev_keep, ev_settleV, ev_settleO, ev_settleS, ev_settleSO, ev_settleSV, ev_set, ev_op, ev_okV, ev_okO, ev_okS, ev_okSO, ev_okSV, ev_viewV, ev_viewO, ev_viewS, ev_viewSO, ev_viewSV, ev_nowN, ev_nowB, ev_nowI, ev_nowS, ev_nowT, ev_nowL, ev_nowC, ev_nowF, ev_nowA, ev_nowGL, ev_bl, ev_not, ev_and, ev_or, ev_if, ev_ifS, condE_t, condE_f, condS_t, condS_f, ev_seq, seqO_nx, seqO_rt, seqO_bk, seqO_ct, ev_nil, ev_drop, ev_ret, ev_retV, ev_retO, ev_retS, ev_retSO, ev_retSV, ev_fnR, ev_fnN, ev_call, ev_frz0, ev_frzV, ev_frzO, ev_res, ev_tup, ev_lst, ev_iSet, ev_new, ev_newO, ev_par, ev_bindRs0, ev_bindRsV, ev_bindRsO, ev_for, ev_itOf, ev_chain, ev_cmpI, ev_add, ev_sub, Option.map_some, List.map_cons, List.map_nil, List.all_cons, List.all_nil, Bool.and_true, Bool.true_and, Bool.and_self, if_true, ite_true, eq_self, List.length_cons, List.length_nil, List.replicate, List.cons_append, List.nil_append, List.append_nil, List.getElem?_cons_zero, List.getElem?_cons_succ, List.set_cons_zero, List.set_cons_succ, Nat.reduceAdd, Nat.reduceSub, Nat.zero_add, Nat.add_zero, Nat.sub_self, hcomp, ev_recvS, ev_recvSO, mExtend, hz', ev_setS, e9]
  refine ⟨.own ((FF.lotsL ps).map uT), t6, t7, t8, h8', ?_⟩
  simp only [ev_enter, ev_runB, ev_runC, ev_bind, ev_bindL, ev_bindLL, ev_bindRL, ev_bindLU, ev_bindRU, ev_bindS, ev_args0, ev_args, ev_C, ev_var, ev_slotV, ev_slotO, ev_keep, ev_settleV, ev_settleO, ev_settleS, ev_settleSO, ev_settleSV, ev_set, ev_op, ev_okV, ev_okO, ev_okS, ev_okSO, ev_okSV, ev_viewV, ev_viewO, ev_viewS, ev_viewSO, ev_viewSV, ev_nowN, ev_nowB, ev_nowI, ev_nowS, ev_nowT, ev_nowL, ev_nowC, ev_nowF, ev_nowA, ev_nowGL, ev_bl, ev_not, ev_and, ev_or, ev_if, ev_ifS, condE_t, condE_f, condS_t, condS_f, ev_seq, seqO_nx, seqO_rt, seqO_bk, seqO_ct, ev_nil, ev_drop, ev_ret, ev_retV, ev_retO, ev_retS, ev_retSO, ev_retSV, ev_fnR, ev_fnN, ev_call, ev_frz0, ev_frzV, ev_frzO, ev_res, ev_tup, ev_lst, ev_iSet, ev_new, ev_newO, ev_par, ev_bindRs0, ev_bindRsV, ev_bindRsO, ev_for, ev_itOf, ev_chain, ev_cmpI, ev_add, ev_sub, Option.map_some, List.map_cons, List.map_nil, List.all_cons, List.all_nil, Bool.and_true, Bool.true_and, Bool.and_self, if_true, ite_true, eq_self, List.length_cons, List.length_nil, List.replicate, List.cons_append, List.nil_append, List.append_nil, List.getElem?_cons_zero, List.getElem?_cons_succ, List.set_cons_zero, List.set_cons_succ, Nat.reduceAdd, Nat.reduceSub, Nat.zero_add, Nat.add_zero, Nat.sub_self, hit, h1, hmut]
end K59
end T_M15
section T_M16
set_option Elab.async false
set_option linter.all false
set_option maxRecDepth 100000
namespace K59
open PySem PySem.Spec L2 IL
theorem turn_sem (k n : Nat) (hn : n ≤ 4) (s0 s1 s2 s3 s4 s5 s6 s7 s8 s9 : Sl) (h1 : s1 = .own ((FF.fo n).map uC) ∨ s1 = .val (.lst ((FF.fo n).map uC))) (h8 : s8.plain = true) (h9 : s9.plain = true) (G : List Ob) :
    ∃ t3 t4 t5 t6 t7 t8, t8.plain = true ∧ (iSq (iSet 3 (iLst [])) (iSq (iFor (.nm 4) (iSeqE true (iVar 1)) (Bfound (callF (k + 1)))) (iSet 1 (iVar 3)))) ⟨[s0, s1, s2, s3, s4, s5, s6, s7, s8, s9], G⟩ = .nx ⟨[s0, .val (.lst ((FF.fo (n + 1)).map uC)), s2, t3, t4, t5, t6, t7, t8, s9], G⟩ := by
  obtain ⟨a', k1, t4, t5, t6, t7, t8, h8', rfl⟩ := forGo_inv (t := .nm 4) (B := Bfound (callF (k + 1))) (fun i a => ∃ t4 t5 t6 t7 t8, t8.plain = true ∧ a = ⟨[s0, .val (.lst ((FF.fo n).map uC)), s2, .own ((((FF.fo n).take i).flatMap FF.nextL).map uC), t4, t5, t6, t7, t8, s9], G⟩) ((FF.fo n).map uC) 0 ⟨[s0, .val (.lst ((FF.fo n).map uC)), s2, .own [], s4, s5, s6, s7, s8, s9], G⟩ ⟨_, _, _, _, _, h8, rfl⟩ (by
    rintro j u a hu ⟨t4, t5, t6, t7, t8, k8, rfl⟩
    rw [Nat.zero_add]
    obtain ⟨cs, hp, rfl⟩ := map_get hu
    have hmem := List.mem_of_getElem? hp
    have hc := (FF.fo_ok n cs hmem).2
    have hb : (((FF.fo n).take j).flatMap FF.nextL).length ≤ 16000000 := by
      have e1 : (((FF.fo n).take j).flatMap FF.nextL).length ≤ ((FF.fo n).take j).length * 16 := FF.flat_len fun c hc => FF.nextL_len (by rw [(FF.fo_ok n c (List.mem_of_mem_take hc)).2]; exact hn)
      have e2 : ((FF.fo n).take j).length ≤ (FF.fo n).length := List.length_take_le' ..
      have e3 := FF.fo_len n (by omega)
      have e4 : 16 ^ n ≤ 16 ^ 4 := Nat.pow_le_pow_right (by decide) hn
      have e5 : 16 ^ 4 = 65536 := rfl
      omega
    obtain ⟨x5, x6, x7, x8, k9, q⟩ := found_sem k s0 (.val (.lst ((FF.fo n).map uC))) s2 t5 t6 t7 t8 s9 k8 h9 cs (by omega) _ hb G
    rw [← FF.flatMap_take (f := FF.nextL) hp] at q
    exact ⟨_, _, rfl, q, _, _, _, _, _, k9, rfl⟩)
  rw [Nat.zero_add, List.length_map, List.take_length] at k1
  have hit : iSeqE true (iVar 1) ⟨[s0, s1, s2, .own [], s4, s5, s6, s7, s8, s9], G⟩ = .ok ((FF.fo n).map uC) ⟨[s0, .val (.lst ((FF.fo n).map uC)), s2, .own [], s4, s5, s6, s7, s8, s9], G⟩ := by
    rcases h1 with rfl | rfl
    · exact seqE_slO _ _ _ 1 _ rfl rfl
    · exact seqE_lst _ _ _ _ _ rfl
  have e : (FF.fo n).flatMap FF.nextL = FF.fo (n + 1) := rfl
  rw [e] at k1
  refine ⟨.val (.lst ((FF.fo (n + 1)).map uC)), t4, t5, t6, t7, t8, h8', ?_⟩
  simp only [ev_enter, ev_runB, ev_runC, ev_bind, ev_bindL, ev_bindLL, ev_bindRL, ev_bindLU, ev_bindRU, ev_bindS, ev_args0, ev_args, ev_C, ev_var, ev_slotV, ev_slotO, ev_keep, ev_settleV, ev_settleO, ev_settleS, ev_settleSO, ev_settleSV, ev_set, ev_op, ev_okV, ev_okO, ev_okS, ev_okSO, ev_okSV, ev_viewV, ev_viewO, ev_viewS, ev_viewSO, ev_viewSV, ev_nowN, ev_nowB, ev_nowI, ev_nowS, ev_nowT, ev_nowL, ev_nowC, ev_nowF, ev_nowA, ev_nowGL, ev_bl, ev_not, ev_and, ev_or, ev_if, ev_ifS, condE_t, condE_f, condS_t, condS_f, ev_seq, seqO_nx, seqO_rt, seqO_bk, seqO_ct, ev_nil, ev_drop, ev_ret, ev_retV, ev_retO, ev_retS, ev_retSO, ev_retSV, ev_fnR, ev_fnN, ev_call, ev_frz0, ev_frzV, ev_frzO, ev_res, ev_tup, ev_lst, ev_iSet, ev_new, ev_newO, ev_par, ev_bindRs0, ev_bindRsV, ev_bindRsO, ev_for, ev_itOf, ev_chain, ev_cmpI, ev_add, ev_sub, Option.map_some, List.map_cons, List.map_nil, List.all_cons, List.all_nil, Bool.and_true, Bool.true_and, Bool.and_self, if_true, ite_true, eq_self, List.length_cons, List.length_nil, List.replicate, List.cons_append, List.nil_append, List.append_nil, List.getElem?_cons_zero, List.getElem?_cons_succ, List.set_cons_zero, List.set_cons_succ, Nat.reduceAdd, Nat.reduceSub, Nat.zero_add, Nat.add_zero, Nat.sub_self, hit, k1]
theorem sp_forests (k m : Nat) (h0 : 0 < m) (hm : m ≤ 5) (G : List Ob) : callF (k + 2) 24 [.int m] G = .ret (.val (.lst ((FF.fo m).map uC))) G := by
  show runB 10 (B__law_forests (callF (k + 1))) _ _ = _
  obtain ⟨a', k1, s1, s2, s3, s4, s5, s6, s7, s8, k8, hs, rfl⟩ := forGo_inv (t := .nm 2) (B := (iSq (iSet 3 (iLst [])) (iSq (iFor (.nm 4) (iSeqE true (iVar 1)) (Bfound (callF (k + 1)))) (iSet 1 (iVar 3))))) (fun i a => ∃ s1 s2 s3 s4 s5 s6 s7 s8, s8.plain = true ∧ ((s1 = .own ((FF.fo i).map uC) ∧ i = 0) ∨ s1 = .val (.lst ((FF.fo i).map uC))) ∧ a = ⟨[.val (.int m), s1, s2, s3, s4, s5, s6, s7, s8, .non], G⟩) (nu (List.range m)) 0 ⟨[.val (.int m), .own [.tup []], .non, .non, .non, .non, .non, .non, .non, .non], G⟩ ⟨_, _, _, _, _, _, _, _, rfl, .inl ⟨rfl, rfl⟩, rfl⟩ (by
    rintro j u a hu ⟨s1, s2, s3, s4, s5, s6, s7, s8, k8, hs, rfl⟩
    rw [Nat.zero_add] at hs ⊢
    have hj : j < m := by
      have := (List.getElem?_eq_some_iff.mp hu).1
      rwa [ints_length, List.length_range] at this
    obtain ⟨t3, t4, t5, t6, t7, t8, k9, q⟩ := turn_sem k j (by omega) (.val (.int m)) s1 (.val u) s3 s4 s5 s6 s7 s8 .non (hs.imp And.left id) k8 rfl G
    exact ⟨_, _, rfl, q, _, _, _, _, _, _, _, _, k9, .inr rfl, rfl⟩)
  rw [Nat.zero_add, ints_length, List.length_range] at hs
  rcases hs with ⟨_, z⟩ | rfl
  · omega
  have hr := rng1 m (by omega)
  simp only [ev_enter, ev_runB, ev_runC, ev_bind, ev_bindL, ev_bindLL, ev_bindRL, ev_bindLU, ev_bindRU, ev_bindS, ev_args0, ev_args, ev_C, ev_var, ev_slotV, ev_slotO, ev_keep, ev_settleV, ev_settleO, ev_settleS, ev_settleSO, ev_settleSV, ev_set, ev_op, ev_okV, ev_okO, ev_okS, ev_okSO, ev_okSV, ev_viewV, ev_viewO, ev_viewS, ev_viewSO, ev_viewSV, ev_nowN, ev_nowB, ev_nowI, ev_nowS, ev_nowT, ev_nowL, ev_nowC, ev_nowF, ev_nowA, ev_nowGL, ev_bl, ev_not, ev_and, ev_or, ev_if, ev_ifS, condE_t, condE_f, condS_t, condS_f, ev_seq, seqO_nx, seqO_rt, seqO_bk, seqO_ct, ev_nil, ev_drop, ev_ret, ev_retV, ev_retO, ev_retS, ev_retSO, ev_retSV, ev_fnR, ev_fnN, ev_call, ev_frz0, ev_frzV, ev_frzO, ev_res, ev_tup, ev_lst, ev_iSet, ev_new, ev_newO, ev_par, ev_bindRs0, ev_bindRsV, ev_bindRsO, ev_for, ev_itOf, ev_chain, ev_cmpI, ev_add, ev_sub, Option.map_some, List.map_cons, List.map_nil, List.all_cons, List.all_nil, Bool.and_true, Bool.true_and, Bool.and_self, if_true, ite_true, eq_self, List.length_cons, List.length_nil, List.replicate, List.cons_append, List.nil_append, List.append_nil, List.getElem?_cons_zero, List.getElem?_cons_succ, List.set_cons_zero, List.set_cons_succ, Nat.reduceAdd, Nat.reduceSub, Nat.zero_add, Nat.add_zero, Nat.sub_self, B__law_forests, hr, k1]
theorem fo_let {m : Nat} (h0 : 0 < m) (hm : m ≤ 5) {cs : List (List Nat)} (h : cs ∈ FF.fo m) : Let cs := by
  obtain ⟨h1, h2⟩ := FF.fo_ok m cs h
  exact ⟨h1, by omega, by omega⟩
end K59
end T_M16
section T_M17
set_option Elab.async false
set_option linter.all false
set_option maxRecDepth 100000
namespace K59
open PySem PySem.Spec L2 IL
abbrev Call_ (Φ : Nat → FS) : ES := iComp (.nm 5) [5] (iSeqE false (iCallF (Φ 24) [iKeep (iVar 2)])) (iC (.bl true)) (iCallF (Φ 32) [iVar 1, iKeep (iVar 5), iC (.int 5)])
abbrev Bone (Φ : Nat → FS) : SS := (iIfS (iNot (iOp gAll [Call_ Φ]))
    (iRet (iC (.bl false)))
    (iNil))
theorem one_sem (m : Nat) (h0 : 0 < m) (hm : m ≤ 5) (s0 s3 s4 s5 : Sl) (h5 : s5.plain = true) (o : Ob) (ho : Pot o) : ∃ o', Pot o' ∧ Bone (callF 19) ⟨[s0, .val (.adr 0), .val (.int m), s3, s4, s5], [o]⟩ = .nx ⟨[s0, .val (.adr 0), .val (.int m), s3, s4, s5], [o']⟩ := by
  obtain ⟨acc, a', h1, o', h3, h4, rfl⟩ := comp_inv (t := .nm 5) (vs := [5]) (it := iSeqE false (iCallF (callF 19 24) [iKeep (iVar 2)])) (ct := iC (.bl true)) (el := iCallF (callF 19 32) [iVar 1, iKeep (iVar 5), iC (.int 5)]) (a := ⟨[s0, .val (.adr 0), .val (.int m), s3, s4, s5], [o]⟩) (a1 := ⟨[s0, .val (.adr 0), .val (.int m), s3, s4, s5], [o]⟩) (us := (FF.fo m).map uC)
    (fun i acc a => ∃ o', Pot o' ∧ acc = (List.range i).map (fun _ => U.bl true) ∧ a = ⟨[s0, .val (.adr 0), .val (.int m), s3, s4, .non], [o']⟩)
    (seqE_lst _ _ _ _ _ (by
      have q := sp_forests 17 m h0 hm [o]
      simp only [ev_enter, ev_runB, ev_runC, ev_bind, ev_bindL, ev_bindLL, ev_bindRL, ev_bindLU, ev_bindRU, ev_bindS, ev_args0, ev_args, ev_C, ev_var, ev_slotV, ev_slotO, ev_keep, ev_settleV, ev_settleO, ev_settleS, ev_settleSO, ev_settleSV, ev_set, ev_op, ev_okV, ev_okO, ev_okS, ev_okSO, ev_okSV, ev_viewV, ev_viewO, ev_viewS, ev_viewSO, ev_viewSV, ev_nowN, ev_nowB, ev_nowI, ev_nowS, ev_nowT, ev_nowL, ev_nowC, ev_nowF, ev_nowA, ev_nowGL, ev_bl, ev_not, ev_and, ev_or, ev_if, ev_ifS, condE_t, condE_f, condS_t, condS_f, ev_seq, seqO_nx, seqO_rt, seqO_bk, seqO_ct, ev_nil, ev_drop, ev_ret, ev_retV, ev_retO, ev_retS, ev_retSO, ev_retSV, ev_fnR, ev_fnN, ev_call, ev_frz0, ev_frzV, ev_frzO, ev_res, ev_tup, ev_lst, ev_iSet, ev_new, ev_newO, ev_par, ev_bindRs0, ev_bindRsV, ev_bindRsO, ev_for, ev_itOf, ev_chain, ev_cmpI, ev_add, ev_sub, Option.map_some, List.map_cons, List.map_nil, List.all_cons, List.all_nil, Bool.and_true, Bool.true_and, Bool.and_self, if_true, ite_true, eq_self, List.length_cons, List.length_nil, List.replicate, List.cons_append, List.nil_append, List.append_nil, List.getElem?_cons_zero, List.getElem?_cons_succ, List.set_cons_zero, List.set_cons_succ, Nat.reduceAdd, Nat.reduceSub, Nat.zero_add, Nat.add_zero, Nat.sub_self, q])) (by show (s5.plain && true) = true; rw [h5]; rfl) ⟨o, ho, rfl, rfl⟩ (by
    rintro j u acc a hu ⟨o1, h3, rfl, rfl⟩
    obtain ⟨cs, hp, rfl⟩ := map_get hu
    obtain ⟨o2, h6, h7⟩ := sp_fitted_right 11 cs (fo_let h0 hm (List.mem_of_getElem? hp)) 5 o1 h3 []
    have e5 : ((5 : Nat) : Int) = 5 := rfl
    rw [e5] at h7
    refine ⟨⟨[s0, .val (.adr 0), .val (.int m), s3, s4, .val (uC cs)], [o1]⟩, true, ⟨[s0, .val (.adr 0), .val (.int m), s3, s4, .val (uC cs)], [o1]⟩, rfl, rfl, (fun h => nomatch h), fun _ => ⟨.val (.bl true), ⟨[s0, .val (.adr 0), .val (.int m), s3, s4, .val (uC cs)], [o2]⟩, _, _, by simp only [ev_enter, ev_runB, ev_runC, ev_bind, ev_bindL, ev_bindLL, ev_bindRL, ev_bindLU, ev_bindRU, ev_bindS, ev_args0, ev_args, ev_C, ev_var, ev_slotV, ev_slotO, ev_keep, ev_settleV, ev_settleO, ev_settleS, ev_settleSO, ev_settleSV, ev_set, ev_op, ev_okV, ev_okO, ev_okS, ev_okSO, ev_okSV, ev_viewV, ev_viewO, ev_viewS, ev_viewSO, ev_viewSV, ev_nowN, ev_nowB, ev_nowI, ev_nowS, ev_nowT, ev_nowL, ev_nowC, ev_nowF, ev_nowA, ev_nowGL, ev_bl, ev_not, ev_and, ev_or, ev_if, ev_ifS, condE_t, condE_f, condS_t, condS_f, ev_seq, seqO_nx, seqO_rt, seqO_bk, seqO_ct, ev_nil, ev_drop, ev_ret, ev_retV, ev_retO, ev_retS, ev_retSO, ev_retSV, ev_fnR, ev_fnN, ev_call, ev_frz0, ev_frzV, ev_frzO, ev_res, ev_tup, ev_lst, ev_iSet, ev_new, ev_newO, ev_par, ev_bindRs0, ev_bindRsV, ev_bindRsO, ev_for, ev_itOf, ev_chain, ev_cmpI, ev_add, ev_sub, Option.map_some, List.map_cons, List.map_nil, List.all_cons, List.all_nil, Bool.and_true, Bool.true_and, Bool.and_self, if_true, ite_true, eq_self, List.length_cons, List.length_nil, List.replicate, List.cons_append, List.nil_append, List.append_nil, List.getElem?_cons_zero, List.getElem?_cons_succ, List.set_cons_zero, List.set_cons_succ, Nat.reduceAdd, Nat.reduceSub, Nat.zero_add, Nat.add_zero, Nat.sub_self, h7], rfl, o2, h6, ?_, rfl⟩⟩
    rw [List.range_succ, List.map_append]
    rfl)
  rw [h4] at h1
  refine ⟨o', h3, ?_⟩
  have h1' : Call_ (callF 19) ⟨[s0, .val (.adr 0), .val (.int m), s3, s4, s5], [o]⟩ = .ok (.own ((List.range ((FF.fo m).map uC).length).map fun _ => .bl true)) ⟨[s0, .val (.adr 0), .val (.int m), s3, s4, s5], [o']⟩ := h1
  simp only [ev_enter, ev_runB, ev_runC, ev_bind, ev_bindL, ev_bindLL, ev_bindRL, ev_bindLU, ev_bindRU, ev_bindS, ev_args0, ev_args, ev_C, ev_var, ev_slotV, ev_slotO, ev_keep, ev_settleV, ev_settleO, ev_settleS, ev_settleSO, ev_settleSV, ev_set, ev_op, ev_okV, ev_okO, ev_okS, ev_okSO, ev_okSV, ev_viewV, ev_viewO, ev_viewS, ev_viewSO, ev_viewSV, ev_nowN, ev_nowB, ev_nowI, ev_nowS, ev_nowT, ev_nowL, ev_nowC, ev_nowF, ev_nowA, ev_nowGL, ev_bl, ev_not, ev_and, ev_or, ev_if, ev_ifS, condE_t, condE_f, condS_t, condS_f, ev_seq, seqO_nx, seqO_rt, seqO_bk, seqO_ct, ev_nil, ev_drop, ev_ret, ev_retV, ev_retO, ev_retS, ev_retSO, ev_retSV, ev_fnR, ev_fnN, ev_call, ev_frz0, ev_frzV, ev_frzO, ev_res, ev_tup, ev_lst, ev_iSet, ev_new, ev_newO, ev_par, ev_bindRs0, ev_bindRsV, ev_bindRsO, ev_for, ev_itOf, ev_chain, ev_cmpI, ev_add, ev_sub, Option.map_some, List.map_cons, List.map_nil, List.all_cons, List.all_nil, Bool.and_true, Bool.true_and, Bool.and_self, if_true, ite_true, eq_self, List.length_cons, List.length_nil, List.replicate, List.cons_append, List.nil_append, List.append_nil, List.getElem?_cons_zero, List.getElem?_cons_succ, List.set_cons_zero, List.set_cons_succ, Nat.reduceAdd, Nat.reduceSub, Nat.zero_add, Nat.add_zero, Nat.sub_self, h1', ev_allT, Bool.not_true]
abbrev Btwo (Φ : Nat → FS) : SS := (iIfS (iOr (iNot (iCallF (Φ 32) [iVar 1, iCallF (Φ 30) [iVar 1], iC (.int 8)])) (iNot (iCallF (Φ 32) [iVar 1, iCallF (Φ 31) [iVar 1], iC (.int 8)])))
    (iRet (iC (.bl false)))
    (iNil))
theorem two_sem (s0 s2 s3 s4 s5 : Sl) (o : Ob) (ho : Pot o) : ∃ o', Pot o' ∧ Btwo (callF 19) ⟨[s0, .val (.adr 0), s2, s3, s4, s5], [o]⟩ = .nx ⟨[s0, .val (.adr 0), s2, s3, s4, s5], [o']⟩ := by
  obtain ⟨cs, o1, L1, h1, k1⟩ := sp_great o ho
  obtain ⟨o2, h2, k2⟩ := sp_fitted_right 11 cs L1 8 o1 h1 []
  obtain ⟨ds, o3, L3, h3, k3⟩ := sp_drawn 16 o2 h2
  obtain ⟨o4, h4, k4⟩ := sp_fitted_right 11 ds L3 8 o3 h3 []
  have e8 : ((8 : Nat) : Int) = 8 := rfl
  rw [e8] at k2 k4
  exact ⟨o4, h4, by simp only [ev_enter, ev_runB, ev_runC, ev_bind, ev_bindL, ev_bindLL, ev_bindRL, ev_bindLU, ev_bindRU, ev_bindS, ev_args0, ev_args, ev_C, ev_var, ev_slotV, ev_slotO, ev_keep, ev_settleV, ev_settleO, ev_settleS, ev_settleSO, ev_settleSV, ev_set, ev_op, ev_okV, ev_okO, ev_okS, ev_okSO, ev_okSV, ev_viewV, ev_viewO, ev_viewS, ev_viewSO, ev_viewSV, ev_nowN, ev_nowB, ev_nowI, ev_nowS, ev_nowT, ev_nowL, ev_nowC, ev_nowF, ev_nowA, ev_nowGL, ev_bl, ev_not, ev_and, ev_or, ev_if, ev_ifS, condE_t, condE_f, condS_t, condS_f, ev_seq, seqO_nx, seqO_rt, seqO_bk, seqO_ct, ev_nil, ev_drop, ev_ret, ev_retV, ev_retO, ev_retS, ev_retSO, ev_retSV, ev_fnR, ev_fnN, ev_call, ev_frz0, ev_frzV, ev_frzO, ev_res, ev_tup, ev_lst, ev_iSet, ev_new, ev_newO, ev_par, ev_bindRs0, ev_bindRsV, ev_bindRsO, ev_for, ev_itOf, ev_chain, ev_cmpI, ev_add, ev_sub, Option.map_some, List.map_cons, List.map_nil, List.all_cons, List.all_nil, Bool.and_true, Bool.true_and, Bool.and_self, if_true, ite_true, eq_self, List.length_cons, List.length_nil, List.replicate, List.cons_append, List.nil_append, List.append_nil, List.getElem?_cons_zero, List.getElem?_cons_succ, List.set_cons_zero, List.set_cons_succ, Nat.reduceAdd, Nat.reduceSub, Nat.zero_add, Nat.add_zero, Nat.sub_self, k1, k2, k3, k4, Bool.not_true]⟩
def strR : Option R → Bool
  | some (.val (.str _)) => true
  | _ => false
theorem strR_of {x : Option R} (h : strR x = true) : ∃ s, x = some (.val (.str s)) := by
  unfold strR at h
  split at h
  · exact ⟨_, rfl⟩
  · cases h
theorem repr_all : ((List.range 63).all fun p => strR (gRepr [.int (figs (p + 1) : Nat)])) = true := by decide +kernel
theorem least_sem (s0 s1 s2 s3 s4 s5 : Sl) (h4 : s4.plain = true) (o : Ob) : iComp (.nm 4) [4] (itOf gRng2 [iC (.int 1), iC (.int 64)]) (iC (.bl true)) (iOp gEq [iOp gRepr [iCallF (callF 19 19) [iKeep (iVar 4)]], iOp gRepr [iCallF (callF 19 27) [iKeep (iVar 4)]]]) ⟨[s0, s1, s2, s3, s4, s5], [o]⟩ = .ok (.own ((nu ((List.range 63).map (1 + ·))).map fun _ => .bl true)) ⟨[s0, s1, s2, s3, s4, s5], [o]⟩ := by
  have hr := rng2 1 64 (by decide) (by decide)
  have e1 : ((1 : Nat) : Int) = 1 := rfl
  have e64 : ((64 : Nat) : Int) = 64 := rfl
  rw [e1, e64] at hr
  refine comp_map _ (by simp only [ev_enter, ev_runB, ev_runC, ev_bind, ev_bindL, ev_bindLL, ev_bindRL, ev_bindLU, ev_bindRU, ev_bindS, ev_args0, ev_args, ev_C, ev_var, ev_slotV, ev_slotO, ev_keep, ev_settleV, ev_settleO, ev_settleS, ev_settleSO, ev_settleSV, ev_set, ev_op, ev_okV, ev_okO, ev_okS, ev_okSO, ev_okSV, ev_viewV, ev_viewO, ev_viewS, ev_viewSO, ev_viewSV, ev_nowN, ev_nowB, ev_nowI, ev_nowS, ev_nowT, ev_nowL, ev_nowC, ev_nowF, ev_nowA, ev_nowGL, ev_bl, ev_not, ev_and, ev_or, ev_if, ev_ifS, condE_t, condE_f, condS_t, condS_f, ev_seq, seqO_nx, seqO_rt, seqO_bk, seqO_ct, ev_nil, ev_drop, ev_ret, ev_retV, ev_retO, ev_retS, ev_retSO, ev_retSV, ev_fnR, ev_fnN, ev_call, ev_frz0, ev_frzV, ev_frzO, ev_res, ev_tup, ev_lst, ev_iSet, ev_new, ev_newO, ev_par, ev_bindRs0, ev_bindRsV, ev_bindRsO, ev_for, ev_itOf, ev_chain, ev_cmpI, ev_add, ev_sub, Option.map_some, List.map_cons, List.map_nil, List.all_cons, List.all_nil, Bool.and_true, Bool.true_and, Bool.and_self, if_true, ite_true, eq_self, List.length_cons, List.length_nil, List.replicate, List.cons_append, List.nil_append, List.append_nil, List.getElem?_cons_zero, List.getElem?_cons_succ, List.set_cons_zero, List.set_cons_succ, Nat.reduceAdd, Nat.reduceSub, Nat.zero_add, Nat.add_zero, Nat.sub_self, hr]) (by show (s4.plain && true) = true; rw [h4]; rfl) rfl fun u hu => ?_
  obtain ⟨x, hx, rfl⟩ := List.mem_map.mp hu
  obtain ⟨p, hp, rfl⟩ := List.mem_map.mp hx
  have hp := List.mem_range.mp hp
  have k1 := of_maps (least_all o) hp
  have k2 := sp_figures 18 (p + 1) (Nat.lt_of_lt_of_le (show p + 1 < 2 ^ 6 by have : 2 ^ 6 = 64 := rfl; omega) (Nat.pow_le_pow_right (by decide) (by decide))) [o]
  obtain ⟨s, k3⟩ := strR_of (List.all_eq_true.mp repr_all p (List.mem_range.mpr hp))
  rw [Nat.add_comm 1 p]
  exact ⟨⟨[s0, s1, s2, s3, .val (.int (p + 1 : Nat)), s5], [o]⟩, rfl, ⟨.val (.bl true), by simp only [ev_enter, ev_runB, ev_runC, ev_bind, ev_bindL, ev_bindLL, ev_bindRL, ev_bindLU, ev_bindRU, ev_bindS, ev_args0, ev_args, ev_C, ev_var, ev_slotV, ev_slotO, ev_keep, ev_settleV, ev_settleO, ev_settleS, ev_settleSO, ev_settleSV, ev_set, ev_op, ev_okV, ev_okO, ev_okS, ev_okSO, ev_okSV, ev_viewV, ev_viewO, ev_viewS, ev_viewSO, ev_viewSV, ev_nowN, ev_nowB, ev_nowI, ev_nowS, ev_nowT, ev_nowL, ev_nowC, ev_nowF, ev_nowA, ev_nowGL, ev_bl, ev_not, ev_and, ev_or, ev_if, ev_ifS, condE_t, condE_f, condS_t, condS_f, ev_seq, seqO_nx, seqO_rt, seqO_bk, seqO_ct, ev_nil, ev_drop, ev_ret, ev_retV, ev_retO, ev_retS, ev_retSO, ev_retSV, ev_fnR, ev_fnN, ev_call, ev_frz0, ev_frzV, ev_frzO, ev_res, ev_tup, ev_lst, ev_iSet, ev_new, ev_newO, ev_par, ev_bindRs0, ev_bindRsV, ev_bindRsO, ev_for, ev_itOf, ev_chain, ev_cmpI, ev_add, ev_sub, Option.map_some, List.map_cons, List.map_nil, List.all_cons, List.all_nil, Bool.and_true, Bool.true_and, Bool.and_self, if_true, ite_true, eq_self, List.length_cons, List.length_nil, List.replicate, List.cons_append, List.nil_append, List.append_nil, List.getElem?_cons_zero, List.getElem?_cons_succ, List.set_cons_zero, List.set_cons_succ, Nat.reduceAdd, Nat.reduceSub, Nat.zero_add, Nat.add_zero, Nat.sub_self, k1, k2, k3, eq_str], rfl⟩, rfl⟩
theorem cut0 (G' : List Ob) : (OutF.ret (.val (.bl true)) G').cut 0 = .ret (.val (.bl true)) [] := by
  have h : 0 ≤ G'.length ∧ R.low 0 (R.val (.bl true)) = true ∧ (G'.take 0).all (Ob.low 0) = true := ⟨Nat.zero_le _, rfl, rfl⟩
  unfold OutF.cut
  dsimp only
  rw [if_pos h]
  rfl
theorem law_ok : ∀ ns : List Int, ns.length ≤ 63 → ∃ G, callF 20 34 [.scr (ns.map .int)] [] = .ret (.val (.bl true)) G := by
  intro ns _
  obtain ⟨us, hp, k1⟩ := sp_pot 18 ns []
  obtain ⟨hi, o1, h1, p1, k2⟩ := sp_draw 18 (.lst us) hp 8 (by decide) (by decide) []
  have e8 : ((8 : Nat) : Int) = 8 := rfl
  rw [e8] at k2
  obtain ⟨top, htop, k3⟩ : ∃ top : Nat, (top = 5 ∨ top = 6) ∧ (if decide ((0 : Int) < (hi : Int)) = true then (5 : Int) else 6) = (top : Int) := by
    by_cases h : (0 : Int) < hi
    · exact ⟨5, .inl rfl, if_pos (decide_eq_true h)⟩
    · exact ⟨6, .inr rfl, if_neg (by simpa using h)⟩
  have hr := rng2 1 top (by omega) (by omega)
  have e1 : ((1 : Nat) : Int) = 1 := rfl
  rw [e1] at hr
  have it1 : itOf gRng2 [iC (.int 1), iIf (iOp (gCmpI fun i j => decide (j < i)) [iCallF (callF 19 22) [iVar 1, iC (.int 8)], iC (.int 0)]) (iC (.int 5)) (iC (.int 6))] ⟨[.val (.scr (ns.map .int)), .val (.adr 0), .non, .non, .non, .non], [.lst us]⟩ = .ok (nu ((List.range (top - 1)).map (1 + ·))) ⟨[.val (.scr (ns.map .int)), .val (.adr 0), .non, .non, .non, .non], [o1]⟩ := by
    have e : iIf (iOp (gCmpI fun i j => decide (j < i)) [iCallF (callF 19 22) [iVar 1, iC (.int 8)], iC (.int 0)]) (iC (.int 5)) (iC (.int 6)) ⟨[.val (.scr (ns.map .int)), .val (.adr 0), .non, .non, .non, .non], [.lst us]⟩ = .ok (.val (.int (top : Int))) ⟨[.val (.scr (ns.map .int)), .val (.adr 0), .non, .non, .non, .non], [o1]⟩ := by
      rw [← k3]
      by_cases h : (0 : Int) < hi
      · have hd := decide_eq_true h
        simp only [ev_enter, ev_runB, ev_runC, ev_bind, ev_bindL, ev_bindLL, ev_bindRL, ev_bindLU, ev_bindRU, ev_bindS, ev_args0, ev_args, ev_C, ev_var, ev_slotV, ev_slotO, ev_keep, ev_settleV, ev_settleO, ev_settleS, ev_settleSO, ev_settleSV, ev_set, ev_op, ev_okV, ev_okO, ev_okS, ev_okSO, ev_okSV, ev_viewV, ev_viewO, ev_viewS, ev_viewSO, ev_viewSV, ev_nowN, ev_nowB, ev_nowI, ev_nowS, ev_nowT, ev_nowL, ev_nowC, ev_nowF, ev_nowA, ev_nowGL, ev_bl, ev_not, ev_and, ev_or, ev_if, ev_ifS, condE_t, condE_f, condS_t, condS_f, ev_seq, seqO_nx, seqO_rt, seqO_bk, seqO_ct, ev_nil, ev_drop, ev_ret, ev_retV, ev_retO, ev_retS, ev_retSO, ev_retSV, ev_fnR, ev_fnN, ev_call, ev_frz0, ev_frzV, ev_frzO, ev_res, ev_tup, ev_lst, ev_iSet, ev_new, ev_newO, ev_par, ev_bindRs0, ev_bindRsV, ev_bindRsO, ev_for, ev_itOf, ev_chain, ev_cmpI, ev_add, ev_sub, Option.map_some, List.map_cons, List.map_nil, List.all_cons, List.all_nil, Bool.and_true, Bool.true_and, Bool.and_self, if_true, ite_true, eq_self, List.length_cons, List.length_nil, List.replicate, List.cons_append, List.nil_append, List.append_nil, List.getElem?_cons_zero, List.getElem?_cons_succ, List.set_cons_zero, List.set_cons_succ, Nat.reduceAdd, Nat.reduceSub, Nat.zero_add, Nat.add_zero, Nat.sub_self, k2, hd]
      · have hd := decide_eq_false h
        simp only [ev_enter, ev_runB, ev_runC, ev_bind, ev_bindL, ev_bindLL, ev_bindRL, ev_bindLU, ev_bindRU, ev_bindS, ev_args0, ev_args, ev_C, ev_var, ev_slotV, ev_slotO, ev_keep, ev_settleV, ev_settleO, ev_settleS, ev_settleSO, ev_settleSV, ev_set, ev_op, ev_okV, ev_okO, ev_okS, ev_okSO, ev_okSV, ev_viewV, ev_viewO, ev_viewS, ev_viewSO, ev_viewSV, ev_nowN, ev_nowB, ev_nowI, ev_nowS, ev_nowT, ev_nowL, ev_nowC, ev_nowF, ev_nowA, ev_nowGL, ev_bl, ev_not, ev_and, ev_or, ev_if, ev_ifS, condE_t, condE_f, condS_t, condS_f, ev_seq, seqO_nx, seqO_rt, seqO_bk, seqO_ct, ev_nil, ev_drop, ev_ret, ev_retV, ev_retO, ev_retS, ev_retSO, ev_retSV, ev_fnR, ev_fnN, ev_call, ev_frz0, ev_frzV, ev_frzO, ev_res, ev_tup, ev_lst, ev_iSet, ev_new, ev_newO, ev_par, ev_bindRs0, ev_bindRsV, ev_bindRsO, ev_for, ev_itOf, ev_chain, ev_cmpI, ev_add, ev_sub, Option.map_some, List.map_cons, List.map_nil, List.all_cons, List.all_nil, Bool.and_true, Bool.true_and, Bool.and_self, if_true, ite_true, eq_self, List.length_cons, List.length_nil, List.replicate, List.cons_append, List.nil_append, List.append_nil, List.getElem?_cons_zero, List.getElem?_cons_succ, List.set_cons_zero, List.set_cons_succ, Nat.reduceAdd, Nat.reduceSub, Nat.zero_add, Nat.add_zero, Nat.sub_self, k2, hd, Bool.false_eq_true, if_false]
    have gen : ∀ (I : ES) (a a1 : ASt), I a = .ok (.val (.int (top : Int))) a1 → itOf gRng2 [iC (.int 1), I] a = .ok (nu ((List.range (top - 1)).map (1 + ·))) a1 := fun I a a1 h => by simp only [ev_enter, ev_runB, ev_runC, ev_bind, ev_bindL, ev_bindLL, ev_bindRL, ev_bindLU, ev_bindRU, ev_bindS, ev_args0, ev_args, ev_C, ev_var, ev_slotV, ev_slotO, ev_keep, ev_settleV, ev_settleO, ev_settleS, ev_settleSO, ev_settleSV, ev_set, ev_op, ev_okV, ev_okO, ev_okS, ev_okSO, ev_okSV, ev_viewV, ev_viewO, ev_viewS, ev_viewSO, ev_viewSV, ev_nowN, ev_nowB, ev_nowI, ev_nowS, ev_nowT, ev_nowL, ev_nowC, ev_nowF, ev_nowA, ev_nowGL, ev_bl, ev_not, ev_and, ev_or, ev_if, ev_ifS, condE_t, condE_f, condS_t, condS_f, ev_seq, seqO_nx, seqO_rt, seqO_bk, seqO_ct, ev_nil, ev_drop, ev_ret, ev_retV, ev_retO, ev_retS, ev_retSO, ev_retSV, ev_fnR, ev_fnN, ev_call, ev_frz0, ev_frzV, ev_frzO, ev_res, ev_tup, ev_lst, ev_iSet, ev_new, ev_newO, ev_par, ev_bindRs0, ev_bindRsV, ev_bindRsO, ev_for, ev_itOf, ev_chain, ev_cmpI, ev_add, ev_sub, Option.map_some, List.map_cons, List.map_nil, List.all_cons, List.all_nil, Bool.and_true, Bool.true_and, Bool.and_self, if_true, ite_true, eq_self, List.length_cons, List.length_nil, List.replicate, List.cons_append, List.nil_append, List.append_nil, List.getElem?_cons_zero, List.getElem?_cons_succ, List.set_cons_zero, List.set_cons_succ, Nat.reduceAdd, Nat.reduceSub, Nat.zero_add, Nat.add_zero, Nat.sub_self, h, hr]
    exact gen _ _ _ e
  obtain ⟨a', l1, s2, o2, ho2, rfl⟩ := forGo_inv (t := .nm 2) (B := Bone (callF 19)) (fun i a => ∃ s2 o', Pot o' ∧ a = ⟨[.val (.scr (ns.map .int)), .val (.adr 0), s2, .non, .non, .non], [o']⟩) (nu ((List.range (top - 1)).map (1 + ·))) 0 ⟨[.val (.scr (ns.map .int)), .val (.adr 0), .non, .non, .non, .non], [o1]⟩ ⟨_, _, p1, rfl⟩ (by
    rintro j u a hu ⟨s2, o', ho, rfl⟩
    obtain ⟨x, hx, rfl⟩ := map_get hu
    obtain ⟨y, hy, rfl⟩ := map_get hx
    have hm := List.mem_range.mp (List.mem_of_getElem? hy)
    obtain ⟨o'', ho'', q⟩ := one_sem (1 + y) (by omega) (by omega) (.val (.scr (ns.map .int))) .non .non .non rfl o' ho
    exact ⟨_, _, rfl, q, _, _, ho'', rfl⟩)
  have hr3 := rng1 3 (by decide)
  have e3 : ((3 : Nat) : Int) = 3 := rfl
  rw [e3] at hr3
  obtain ⟨a', l2, s3, o3, ho3, rfl⟩ := forGo_inv (t := .nm 3) (B := Btwo (callF 19)) (fun i a => ∃ s3 o', Pot o' ∧ a = ⟨[.val (.scr (ns.map .int)), .val (.adr 0), s2, s3, .non, .non], [o']⟩) (nu (List.range 3)) 0 ⟨[.val (.scr (ns.map .int)), .val (.adr 0), s2, .non, .non, .non], [o2]⟩ ⟨_, _, ho2, rfl⟩ (by
    rintro j u a hu ⟨s3, o', ho, rfl⟩
    obtain ⟨o'', ho'', q⟩ := two_sem (.val (.scr (ns.map .int))) s2 (.val u) .non .non o' ho
    exact ⟨_, _, rfl, q, _, _, ho'', rfl⟩)
  have l3 := least_sem (.val (.scr (ns.map .int))) (.val (.adr 0)) s2 s3 .non .non rfl o3
  obtain ⟨r, o4, hr4, ho4, k4⟩ := sp_draw 18 o3 ho3 6 (by decide) (by decide) []
  have e6 : ((6 : Nat) : Int) = 6 := rfl
  rw [e6] at k4
  have hf := of_maps (foe_all o4) hr4
  obtain ⟨G', k5⟩ := isT_of hf
  have er : (1 : Int) + (r : Int) = ((r + 1 : Nat) : Int) := by omega
  refine ⟨[], ?_⟩
  show (runB 6 (B_law (callF 19)) [.scr (ns.map .int)] []).cut 0 = _
  have q : runB 6 (B_law (callF 19)) [.scr (ns.map .int)] [] = .ret (.val (.bl true)) G' := by
    have a1 : iSet 1 (iNew (iCallF (callF 19 21) [iKeep (iVar 0)])) (enterA 6 [.scr (ns.map .int)] []) = .nx ⟨[.val (.scr (ns.map .int)), .val (.adr 0), .non, .non, .non, .non], [.lst us]⟩ := by
      simp only [ev_enter, ev_runB, ev_runC, ev_bind, ev_bindL, ev_bindLL, ev_bindRL, ev_bindLU, ev_bindRU, ev_bindS, ev_args0, ev_args, ev_C, ev_var, ev_slotV, ev_slotO, ev_keep, ev_settleV, ev_settleO, ev_settleS, ev_settleSO, ev_settleSV, ev_set, ev_op, ev_okV, ev_okO, ev_okS, ev_okSO, ev_okSV, ev_viewV, ev_viewO, ev_viewS, ev_viewSO, ev_viewSV, ev_nowN, ev_nowB, ev_nowI, ev_nowS, ev_nowT, ev_nowL, ev_nowC, ev_nowF, ev_nowA, ev_nowGL, ev_bl, ev_not, ev_and, ev_or, ev_if, ev_ifS, condE_t, condE_f, condS_t, condS_f, ev_seq, seqO_nx, seqO_rt, seqO_bk, seqO_ct, ev_nil, ev_drop, ev_ret, ev_retV, ev_retO, ev_retS, ev_retSO, ev_retSV, ev_fnR, ev_fnN, ev_call, ev_frz0, ev_frzV, ev_frzO, ev_res, ev_tup, ev_lst, ev_iSet, ev_new, ev_newO, ev_par, ev_bindRs0, ev_bindRsV, ev_bindRsO, ev_for, ev_itOf, ev_chain, ev_cmpI, ev_add, ev_sub, Option.map_some, List.map_cons, List.map_nil, List.all_cons, List.all_nil, Bool.and_true, Bool.true_and, Bool.and_self, if_true, ite_true, eq_self, List.length_cons, List.length_nil, List.replicate, List.cons_append, List.nil_append, List.append_nil, List.getElem?_cons_zero, List.getElem?_cons_succ, List.set_cons_zero, List.set_cons_succ, Nat.reduceAdd, Nat.reduceSub, Nat.zero_add, Nat.add_zero, Nat.sub_self, k1]
    show (B_law (callF 19) (enterA 6 [.scr (ns.map .int)] [])).fn = _
    unfold B_law
    rw [ev_seq, a1, seqO_nx, ev_seq, ev_for, it1]
    dsimp only
    rw [l1, seqO_nx]
    simp only [ev_enter, ev_runB, ev_runC, ev_bind, ev_bindL, ev_bindLL, ev_bindRL, ev_bindLU, ev_bindRU, ev_bindS, ev_args0, ev_args, ev_C, ev_var, ev_slotV, ev_slotO, ev_keep, ev_settleV, ev_settleO, ev_settleS, ev_settleSO, ev_settleSV, ev_set, ev_op, ev_okV, ev_okO, ev_okS, ev_okSO, ev_okSV, ev_viewV, ev_viewO, ev_viewS, ev_viewSO, ev_viewSV, ev_nowN, ev_nowB, ev_nowI, ev_nowS, ev_nowT, ev_nowL, ev_nowC, ev_nowF, ev_nowA, ev_nowGL, ev_bl, ev_not, ev_and, ev_or, ev_if, ev_ifS, condE_t, condE_f, condS_t, condS_f, ev_seq, seqO_nx, seqO_rt, seqO_bk, seqO_ct, ev_nil, ev_drop, ev_ret, ev_retV, ev_retO, ev_retS, ev_retSO, ev_retSV, ev_fnR, ev_fnN, ev_call, ev_frz0, ev_frzV, ev_frzO, ev_res, ev_tup, ev_lst, ev_iSet, ev_new, ev_newO, ev_par, ev_bindRs0, ev_bindRsV, ev_bindRsO, ev_for, ev_itOf, ev_chain, ev_cmpI, ev_add, ev_sub, Option.map_some, List.map_cons, List.map_nil, List.all_cons, List.all_nil, Bool.and_true, Bool.true_and, Bool.and_self, if_true, ite_true, eq_self, List.length_cons, List.length_nil, List.replicate, List.cons_append, List.nil_append, List.append_nil, List.getElem?_cons_zero, List.getElem?_cons_succ, List.set_cons_zero, List.set_cons_succ, Nat.reduceAdd, Nat.reduceSub, Nat.zero_add, Nat.add_zero, Nat.sub_self, hr3, l2, l3, ev_allT, Bool.not_true, k4, er, k5]
  rw [q]
  exact cut0 G'
end K59
end T_M17
section T_Wk59
set_option Elab.async false
set_option linter.all false
set_option maxRecDepth 100000
set_option maxHeartbeats 4000000
namespace K59
open PySem PySem.Spec L2 IL
open PyProof.Rows hiding St
open Hd (top)
structure Fx (K : PySem.W.Frag) (mg : Str → Option Value) : Prop where
  b_abs : mg "abs" = none
  b_all : mg "all" = none
  b_any : mg "any" = none
  b_bool : mg "bool" = none
  b_enumerate : mg "enumerate" = none
  b_int : mg "int" = none
  b_isinstance : mg "isinstance" = none
  b_len : mg "len" = none
  b_max : mg "max" = none
  b_min : mg "min" = none
  b_range : mg "range" = none
  b_repr : mg "repr" = none
  b_set : mg "set" = none
  b_sorted : mg "sorted" = none
  b_tuple : mg "tuple" = none
  b_zip : mg "zip" = none
  i_MOST_COMINGS : ∃ t, mg "MOST_COMINGS" = some (.int 63 t)
  i_MOST_FORCED : ∃ t, mg "MOST_FORCED" = some (.int 6 t)
  i_MOST_TOLD : ∃ t, mg "MOST_TOLD" = some (.int 999 t)
  f_first_painter : ∃ f, mg "first_painter" = some (.ref f)
  hf_colours : ∀ C ∈ (["Foe"] : List Str), ∀ C0, mg C = some (.ref C0) → Cls K C0 ∧ NoAttr K C0 "colours"
  hf_comings : ∀ C ∈ (["Foe"] : List Str), ∀ C0, mg C = some (.ref C0) → Cls K C0 ∧ NoAttr K C0 "comings"
  hf_is_over : ∀ C ∈ (["Foe"] : List Str), ∀ C0, mg C = some (.ref C0) → Cls K C0 ∧ NoAttr K C0 "is_over"
  hf_last : ∀ C ∈ (["Foe"] : List Str), ∀ C0, mg C = some (.ref C0) → Cls K C0 ∧ NoAttr K C0 "last"
  hf_painter : ∀ C ∈ (["Foe"] : List Str), ∀ C0, mg C = some (.ref C0) → Cls K C0 ∧ NoAttr K C0 "painter"
structure Dx (P : Program) (w : World) (K : PySem.W.Frag) (mg : Str → Option Value) (base : Heap) (k : Nat) (Φ : Nat → FS) : Prop where
  d_is_integer : DefOk P w K mg base k "is_integer" 1 (Φ 0)
  d_is_number : DefOk P w K mg base k "is_number" 2 (Φ 1)
  d_is_within : DefOk P w K mg base k "is_within" 3 (Φ 2)
  d_are_numbers : DefOk P w K mg base k "are_numbers" 2 (Φ 3)
  d_is_lot : DefOk P w K mg base k "is_lot" 2 (Φ 4)
  d_power : DefOk P w K mg base k "power" 2 (Φ 5)
  d_is_comings : DefOk P w K mg base k "is_comings" 1 (Φ 6)
  d_check_comings : DefOk P w K mg base k "check_comings" 1 (Φ 7)
  d_raw_is_forest : DefOk P w K mg base k "raw_is_forest" 1 (Φ 8)
  d_is_forest : DefOk P w K mg base k "is_forest" 1 (Φ 9)
  d_is_right : DefOk P w K mg base k "is_right" 3 (Φ 10)
  d_raw_led : DefOk P w K mg base k "raw_led" 2 (Φ 11)
  d_led : DefOk P w K mg base k "led" 2 (Φ 12)
  d_first_painter : DefOk P w K mg base k "first_painter" 2 (Φ 13)
  c_Foe : MakeOk P w K mg base k "Foe" 2 (Φ 14)
  m_Foe_put : MethOk P w K mg base k "Foe" "put" 2 (Φ 15)
  m_Foe_unlike : MethOk P w K mg base k "Foe" "unlike" 2 (Φ 16)
  d_check_forced : DefOk P w K mg base k "check_forced" 1 (Φ 17)
  d_forest_foe : DefOk P w K mg base k "forest_foe" 2 (Φ 18)
  d_least_colours : DefOk P w K mg base k "least_colours" 1 (Φ 19)
  d_grown_lot : DefOk P w K mg base k "grown_lot" 2 (Φ 20)
  d__law_pot : DefOk P w K mg base k "_law_pot" 1 (Φ 21)
  d__law_draw : DefOk P w K mg base k "_law_draw" 2 (Φ 22)
  d__law_any : DefOk P w K mg base k "_law_any" 2 (Φ 23)
  d__law_forests : DefOk P w K mg base k "_law_forests" 1 (Φ 24)
  d__law_pieces : DefOk P w K mg base k "_law_pieces" 1 (Φ 25)
  d__law_fitted : DefOk P w K mg base k "_law_fitted" 1 (Φ 26)
  d__law_figures : DefOk P w K mg base k "_law_figures" 1 (Φ 27)
  d__law_lot : DefOk P w K mg base k "_law_lot" 3 (Φ 28)
  d__law_grown : DefOk P w K mg base k "_law_grown" 1 (Φ 29)
  d__law_great : DefOk P w K mg base k "_law_great" 1 (Φ 30)
  d__law_drawn : DefOk P w K mg base k "_law_drawn" 1 (Φ 31)
  d__law_is_fitted_right : DefOk P w K mg base k "_law_is_fitted_right" 3 (Φ 32)
  d__law_foe_right : DefOk P w K mg base k "_law_foe_right" 1 (Φ 33)
  d_law : DefOk P w K mg base k "law" 1 (Φ 34)
  dv : ∀ g ∈ gsV, DefOk P w K mg base k g 2 (phv Φ g)
variable {P : Program} {w : World} {K : PySem.W.Frag} {mg : Str → Option Value} {base : Heap} {k : Nat} {Φ : Nat → FS}
def N_is_integer : List Str := (["thing"] : List Str)
abbrev st_is_integer : Stmt := top 1
theorem sc_is_integer : FnScope N_is_integer ["thing"] (defScope st_is_integer) := ⟨rfl, rfl, rfl, by decide +kernel, rfl, by decide +kernel, by decide +kernel⟩
theorem wk_is_integer (FX : Fx K mg) (DX : Dx P w K mg base (2 * k) Φ) {f : Addr} (cdv : Value) (A : Around) (outer : List Env) (s : Shared) (H : Hp) (E : XK) (hr1 : Room (2 * k + 1) (A.deeper (envOfC "is_integer" (defScope st_is_integer) s.heap.objs.size f cdv))) (hG : (A.deeper (envOfC "is_integer" (defScope st_is_integer) s.heap.objs.size f cdv)).guards = some []) :
    PSSI (cxOf (L2.CX P w) P w K mg base N_is_integer "is_integer" (defScope st_is_integer) f cdv A outer s H E) (fun cls d _ H => E cls d H) (defBody st_is_integer) (B_is_integer Φ) := by
  have hr0 : Room (2 * k) (A.deeper (envOfC "is_integer" (defScope st_is_integer) s.heap.objs.size f cdv)) := hr1.mono (Nat.le_succ _)
  have ND : N_is_integer.Nodup := sc_is_integer.nd
  refine pssi_one ?_
  refine psi_ret ?_
  refine pei_and ?_ ?_
  · refine pei_isi ?_ rfl FX.b_isinstance rfl FX.b_int PyProof.Rows.boot_int
    exact pei_var 0
  · refine pei_one ?_
    refine pei_not ?_ rfl ?_
    · refine pti_val ?_ ?_
      · refine pei_isi ?_ rfl FX.b_isinstance rfl FX.b_bool PyProof.Rows.boot_bool
        exact pei_var 0
      · (intro _; rfl)
    · refine pei_isi ?_ rfl FX.b_isinstance rfl FX.b_bool PyProof.Rows.boot_bool
      exact pei_var 0
def N_is_number : List Str := (["thing", "most"] : List Str)
abbrev st_is_number : Stmt := top 2
theorem sc_is_number : FnScope N_is_number ["thing", "most"] (defScope st_is_number) := ⟨rfl, rfl, rfl, by decide +kernel, rfl, by decide +kernel, by decide +kernel⟩
theorem wk_is_number (FX : Fx K mg) (DX : Dx P w K mg base (2 * k) Φ) {f : Addr} (cdv : Value) (A : Around) (outer : List Env) (s : Shared) (H : Hp) (E : XK) (hr1 : Room (2 * k + 1) (A.deeper (envOfC "is_number" (defScope st_is_number) s.heap.objs.size f cdv))) (hG : (A.deeper (envOfC "is_number" (defScope st_is_number) s.heap.objs.size f cdv)).guards = some []) :
    PSSI (cxOf (L2.CX P w) P w K mg base N_is_number "is_number" (defScope st_is_number) f cdv A outer s H E) (fun cls d _ H => E cls d H) (defBody st_is_number) (B_is_number Φ) := by
  have hr0 : Room (2 * k) (A.deeper (envOfC "is_number" (defScope st_is_number) s.heap.objs.size f cdv)) := hr1.mono (Nat.le_succ _)
  have ND : N_is_number.Nodup := sc_is_number.nd
  refine pssi_one ?_
  refine psi_ret ?_
  refine pei_and ?_ ?_
  · refine pei_call DX.d_is_integer hr0 hG tkF rfl ?_
    refine pai_cons ?_ ?_
    · exact pei_keep (pei_var 0)
    · exact pai_nil
  · refine pei_one ?_
    refine pei_chain op_le op_le os_cmpI os_cmpI ?_ ?_ ?_
    · exact pei_int
    · exact pei_var 0
    · exact pei_var 1
def N_is_within : List Str := (["thing", "least", "most"] : List Str)
abbrev st_is_within : Stmt := top 3
theorem sc_is_within : FnScope N_is_within ["thing", "least", "most"] (defScope st_is_within) := ⟨rfl, rfl, rfl, by decide +kernel, rfl, by decide +kernel, by decide +kernel⟩
theorem wk_is_within (FX : Fx K mg) (DX : Dx P w K mg base (2 * k) Φ) {f : Addr} (cdv : Value) (A : Around) (outer : List Env) (s : Shared) (H : Hp) (E : XK) (hr1 : Room (2 * k + 1) (A.deeper (envOfC "is_within" (defScope st_is_within) s.heap.objs.size f cdv))) (hG : (A.deeper (envOfC "is_within" (defScope st_is_within) s.heap.objs.size f cdv)).guards = some []) :
    PSSI (cxOf (L2.CX P w) P w K mg base N_is_within "is_within" (defScope st_is_within) f cdv A outer s H E) (fun cls d _ H => E cls d H) (defBody st_is_within) (B_is_within Φ) := by
  have hr0 : Room (2 * k) (A.deeper (envOfC "is_within" (defScope st_is_within) s.heap.objs.size f cdv)) := hr1.mono (Nat.le_succ _)
  have ND : N_is_within.Nodup := sc_is_within.nd
  refine pssi_one ?_
  refine psi_ret ?_
  refine pei_and ?_ ?_
  · refine pei_call DX.d_is_integer hr0 hG tkF rfl ?_
    refine pai_cons ?_ ?_
    · exact pei_keep (pei_var 0)
    · exact pai_nil
  · refine pei_one ?_
    refine pei_chain op_le op_le os_cmpI os_cmpI ?_ ?_ ?_
    · exact pei_var 1
    · exact pei_var 0
    · exact pei_var 2
def N_are_numbers : List Str := (["thing", "most", "one"] : List Str)
abbrev st_are_numbers : Stmt := top 4
theorem sc_are_numbers : FnScope N_are_numbers ["thing", "most"] (defScope st_are_numbers) := ⟨rfl, rfl, rfl, by decide +kernel, rfl, by decide +kernel, by decide +kernel⟩
theorem wk_are_numbers (FX : Fx K mg) (DX : Dx P w K mg base (2 * k) Φ) {f : Addr} (cdv : Value) (A : Around) (outer : List Env) (s : Shared) (H : Hp) (E : XK) (hr1 : Room (2 * k + 1) (A.deeper (envOfC "are_numbers" (defScope st_are_numbers) s.heap.objs.size f cdv))) (hG : (A.deeper (envOfC "are_numbers" (defScope st_are_numbers) s.heap.objs.size f cdv)).guards = some []) :
    PSSI (cxOf (L2.CX P w) P w K mg base N_are_numbers "are_numbers" (defScope st_are_numbers) f cdv A outer s H E) (fun cls d _ H => E cls d H) (defBody st_are_numbers) (B_are_numbers Φ) := by
  have hr0 : Room (2 * k) (A.deeper (envOfC "are_numbers" (defScope st_are_numbers) s.heap.objs.size f cdv)) := hr1.mono (Nat.le_succ _)
  have ND : N_are_numbers.Nodup := sc_are_numbers.nd
  refine pssi_one ?_
  refine psi_ret ?_
  refine pei_and ?_ ?_
  · refine pei_isi ?_ rfl FX.b_isinstance rfl FX.b_tuple PyProof.Rows.boot_tuple
    exact pei_var 0
  · refine pei_one ?_
    refine pei_callB (cr_all rfl) rfl FX.b_all PyProof.Rows.boot_all os_all ?_
    refine pai_cons ?_ ?_
    · refine pei_up ?_
      refine pei_lc (t := .nm 2) rfl ND ?_ (own := [("one", 2)]) (by exact blkOk_of (by kernel_rfl)) (fun _ _ _ _ _ => ?_) (fun _ _ _ _ _ => ?_)
      · refine pii_seq ?_
        exact pei_var 0
      · exact pg_name ND rfl (by first | exact .inl rfl | exact .inr rfl)
      · refine pei_call DX.d_is_number hr0 hG takes0 rfl ?_
        refine pai_cons ?_ ?_
        · exact pei_keep (pei_var 2)
        · refine pai_cons ?_ ?_
          · exact pei_keep (pei_var 1)
          · exact pai_nil
    · exact pai_nil
def N_is_lot : List Str := (["thing", "many", "one", "other"] : List Str)
abbrev st_is_lot : Stmt := top 5
theorem sc_is_lot : FnScope N_is_lot ["thing", "many"] (defScope st_is_lot) := ⟨rfl, rfl, rfl, by decide +kernel, rfl, by decide +kernel, by decide +kernel⟩
theorem wk_is_lot (FX : Fx K mg) (DX : Dx P w K mg base (2 * k) Φ) {f : Addr} (cdv : Value) (A : Around) (outer : List Env) (s : Shared) (H : Hp) (E : XK) (hr1 : Room (2 * k + 1) (A.deeper (envOfC "is_lot" (defScope st_is_lot) s.heap.objs.size f cdv))) (hG : (A.deeper (envOfC "is_lot" (defScope st_is_lot) s.heap.objs.size f cdv)).guards = some []) :
    PSSI (cxOf (L2.CX P w) P w K mg base N_is_lot "is_lot" (defScope st_is_lot) f cdv A outer s H E) (fun cls d _ H => E cls d H) (defBody st_is_lot) (B_is_lot Φ) := by
  have hr0 : Room (2 * k) (A.deeper (envOfC "is_lot" (defScope st_is_lot) s.heap.objs.size f cdv)) := hr1.mono (Nat.le_succ _)
  have ND : N_is_lot.Nodup := sc_is_lot.nd
  refine pssi_cons ?_ ?_
  · refine psi_if ?_ ?_ ?_
    · refine pti_not ?_
      refine pti_val ?_ ?_
      · refine pei_call DX.d_are_numbers hr0 hG tkF rfl ?_
        refine pai_cons ?_ ?_
        · exact pei_keep (pei_var 0)
        · refine pai_cons ?_ ?_
          · refine pei_sub ?_ ?_
            · exact pei_var 1
            · exact pei_int
          · exact pai_nil
      · (intro _; rfl)
    · refine pssi_one ?_
      refine psi_ret ?_
      exact pei_bl
    · exact pssi_nil
  · refine pssi_one ?_
    refine psi_ret ?_
    refine pei_callB (cr_all rfl) rfl FX.b_all PyProof.Rows.boot_all os_all ?_
    refine pai_cons ?_ ?_
    · refine pei_up ?_
      refine pei_lc (t := .tp [.nm 2, .nm 3]) rfl ND ?_ (own := [("one", 2), ("other", 3)]) (by exact blkOk_of (by kernel_rfl)) (fun _ _ _ _ _ => ?_) (fun _ _ _ _ _ => ?_)
      · refine pii_zip rfl FX.b_zip ?_
        refine pai_cons ?_ ?_
        · exact pei_var 0
        · refine pai_cons ?_ ?_
          · refine pei_cut1 ?_ ?_
            · exact pei_var 0
            · exact pei_int
          · exact pai_nil
      · refine pg_tup rfl ?_
        refine pgs_cons ?_ ?_
        · exact pg_name ND rfl (by first | exact .inl rfl | exact .inr rfl)
        · refine pgs_cons ?_ ?_
          · exact pg_name ND rfl (by first | exact .inl rfl | exact .inr rfl)
          · exact pgs_nil
      · refine (pci_lt ?_ ?_).v _
        · exact pei_var 2
        · exact pei_var 3
    · exact pai_nil
def N_power : List Str := (["base", "times", "found", "turn"] : List Str)
abbrev st_power : Stmt := top 6
theorem sc_power : FnScope N_power ["base", "times"] (defScope st_power) := ⟨rfl, rfl, rfl, by decide +kernel, rfl, by decide +kernel, by decide +kernel⟩
theorem wk_power (FX : Fx K mg) (DX : Dx P w K mg base (2 * k) Φ) {f : Addr} (cdv : Value) (A : Around) (outer : List Env) (s : Shared) (H : Hp) (E : XK) (hr1 : Room (2 * k + 1) (A.deeper (envOfC "power" (defScope st_power) s.heap.objs.size f cdv))) (hG : (A.deeper (envOfC "power" (defScope st_power) s.heap.objs.size f cdv)).guards = some []) :
    PSSI (cxOf (L2.CX P w) P w K mg base N_power "power" (defScope st_power) f cdv A outer s H E) (fun cls d _ H => E cls d H) (defBody st_power) (B_power Φ) := by
  have hr0 : Room (2 * k) (A.deeper (envOfC "power" (defScope st_power) s.heap.objs.size f cdv)) := hr1.mono (Nat.le_succ _)
  have ND : N_power.Nodup := sc_power.nd
  refine pssi_cons ?_ ?_
  · refine psi_set (i := 2) ND rfl (by first | exact .inl rfl | exact .inr rfl) ?_
    exact pei_int
  · refine pssi_cons ?_ ?_
    · refine psi_for (t := .nm 3) poF rfl ?_ ?_ ?_
      · refine pii_range1 rfl FX.b_range ?_
        refine pai_cons ?_ ?_
        · exact pei_var 1
        · exact pai_nil
      · exact pg_name ND rfl (by first | exact .inl rfl | exact .inr rfl)
      · refine pssi_one ?_
        refine psi_set (i := 2) ND rfl (by first | exact .inl rfl | exact .inr rfl) ?_
        refine pei_mul ?_ ?_
        · exact pei_var 2
        · exact pei_var 0
    · refine pssi_one ?_
      refine psi_ret ?_
      exact pei_var 2
def N_is_comings : List Str := (["thing", "place", "lot"] : List Str)
abbrev st_is_comings : Stmt := top 17
theorem sc_is_comings : FnScope N_is_comings ["thing"] (defScope st_is_comings) := ⟨rfl, rfl, rfl, by decide +kernel, rfl, by decide +kernel, by decide +kernel⟩
theorem wk_is_comings (FX : Fx K mg) (DX : Dx P w K mg base (2 * k) Φ) {f : Addr} (cdv : Value) (A : Around) (outer : List Env) (s : Shared) (H : Hp) (E : XK) (hr1 : Room (2 * k + 1) (A.deeper (envOfC "is_comings" (defScope st_is_comings) s.heap.objs.size f cdv))) (hG : (A.deeper (envOfC "is_comings" (defScope st_is_comings) s.heap.objs.size f cdv)).guards = some []) :
    PSSI (cxOf (L2.CX P w) P w K mg base N_is_comings "is_comings" (defScope st_is_comings) f cdv A outer s H E) (fun cls d _ H => E cls d H) (defBody st_is_comings) (B_is_comings Φ) := by
  have hr0 : Room (2 * k) (A.deeper (envOfC "is_comings" (defScope st_is_comings) s.heap.objs.size f cdv)) := hr1.mono (Nat.le_succ _)
  have ND : N_is_comings.Nodup := sc_is_comings.nd
  refine pssi_cons ?_ ?_
  · refine psi_if ?_ ?_ ?_
    · refine pwi_pti ?_
      refine pwi_or ?_ ?_
      · refine pti_not ?_
        refine pti_val ?_ ?_
        · refine pei_isi ?_ rfl FX.b_isinstance rfl FX.b_tuple PyProof.Rows.boot_tuple
          exact pei_var 0
        · (intro _; rfl)
      · refine pwi_or1 ?_
        refine pti_not ?_
        refine pti_chain op_le op_le os_cmpI os_cmpI ?_ ?_ ?_
        · exact pei_int
        · refine pei_callB call_len rfl FX.b_len boot_len os_len ?_
          refine pai_cons ?_ ?_
          · exact pei_var 0
          · exact pai_nil
        · exact pei_gint rfl FX.i_MOST_COMINGS
    · refine pssi_one ?_
      refine psi_ret ?_
      exact pei_bl
    · exact pssi_nil
  · refine pssi_one ?_
    refine psi_ret ?_
    refine pei_callB (cr_all rfl) rfl FX.b_all PyProof.Rows.boot_all os_all ?_
    refine pai_cons ?_ ?_
    · refine pei_up ?_
      refine pei_lc (t := .tp [.nm 1, .nm 2]) rfl ND ?_ (own := [("place", 1), ("lot", 2)]) (by exact blkOk_of (by kernel_rfl)) (fun _ _ _ _ _ => ?_) (fun _ _ _ _ _ => ?_)
      · refine pii_enum rfl FX.b_enumerate ?_
        refine pai_cons ?_ ?_
        · exact pei_var 0
        · exact pai_nil
      · refine pg_tup rfl ?_
        refine pgs_cons ?_ ?_
        · exact pg_name ND rfl (by first | exact .inl rfl | exact .inr rfl)
        · refine pgs_cons ?_ ?_
          · exact pg_name ND rfl (by first | exact .inl rfl | exact .inr rfl)
          · exact pgs_nil
      · refine pei_call DX.d_is_lot hr0 hG takes0 rfl ?_
        refine pai_cons ?_ ?_
        · exact pei_keep (pei_var 2)
        · refine pai_cons ?_ ?_
          · exact pei_keep (pei_var 1)
          · exact pai_nil
    · exact pai_nil
def N_check_comings : List Str := (["thing"] : List Str)
abbrev st_check_comings : Stmt := top 18
theorem sc_check_comings : FnScope N_check_comings ["thing"] (defScope st_check_comings) := ⟨rfl, rfl, rfl, by decide +kernel, rfl, by decide +kernel, by decide +kernel⟩
theorem wk_check_comings (FX : Fx K mg) (DX : Dx P w K mg base (2 * k) Φ) {f : Addr} (cdv : Value) (A : Around) (outer : List Env) (s : Shared) (H : Hp) (E : XK) (hr1 : Room (2 * k + 1) (A.deeper (envOfC "check_comings" (defScope st_check_comings) s.heap.objs.size f cdv))) (hG : (A.deeper (envOfC "check_comings" (defScope st_check_comings) s.heap.objs.size f cdv)).guards = some []) :
    PSSI (cxOf (L2.CX P w) P w K mg base N_check_comings "check_comings" (defScope st_check_comings) f cdv A outer s H E) (fun cls d _ H => E cls d H) (defBody st_check_comings) (B_check_comings Φ) := by
  have hr0 : Room (2 * k) (A.deeper (envOfC "check_comings" (defScope st_check_comings) s.heap.objs.size f cdv)) := hr1.mono (Nat.le_succ _)
  have ND : N_check_comings.Nodup := sc_check_comings.nd
  refine pssi_one ?_
  refine psi_if ?_ ?_ ?_
  · refine pti_not ?_
    refine pti_val ?_ ?_
    · refine pei_call DX.d_is_comings hr0 hG tkF rfl ?_
      refine pai_cons ?_ ?_
      · exact pei_keep (pei_var 0)
      · exact pai_nil
    · (intro _; rfl)
  · refine pssi_one ?_
    exact psi_stop
  · exact pssi_nil
def N_raw_is_forest : List Str := (["comings", "pieces", "place", "lot", "some", "other", "piece"] : List Str)
abbrev st_raw_is_forest : Stmt := top 19
theorem sc_raw_is_forest : FnScope N_raw_is_forest ["comings"] (defScope st_raw_is_forest) := ⟨rfl, rfl, rfl, by decide +kernel, rfl, by decide +kernel, by decide +kernel⟩
theorem wk_raw_is_forest (FX : Fx K mg) (DX : Dx P w K mg base (2 * k) Φ) {f : Addr} (cdv : Value) (A : Around) (outer : List Env) (s : Shared) (H : Hp) (E : XK) (hr1 : Room (2 * k + 1) (A.deeper (envOfC "raw_is_forest" (defScope st_raw_is_forest) s.heap.objs.size f cdv))) (hG : (A.deeper (envOfC "raw_is_forest" (defScope st_raw_is_forest) s.heap.objs.size f cdv)).guards = some []) :
    PSSI (cxOf (L2.CX P w) P w K mg base N_raw_is_forest "raw_is_forest" (defScope st_raw_is_forest) f cdv A outer s H E) (fun cls d _ H => E cls d H) (defBody st_raw_is_forest) (B_raw_is_forest Φ) := by
  have hr0 : Room (2 * k) (A.deeper (envOfC "raw_is_forest" (defScope st_raw_is_forest) s.heap.objs.size f cdv)) := hr1.mono (Nat.le_succ _)
  have ND : N_raw_is_forest.Nodup := sc_raw_is_forest.nd
  refine pssi_cons ?_ ?_
  · refine psi_set (i := 1) ND rfl (by first | exact .inl rfl | exact .inr rfl) ?_
    refine pei_lst ?_ (hl := (by decide : (0 : Nat) ≤ sizeLine))
    exact pai_nil
  · refine pssi_cons ?_ ?_
    · refine psi_for (t := .tp [.nm 2, .nm 3]) poF rfl ?_ ?_ ?_
      · refine pii_enum rfl FX.b_enumerate ?_
        refine pai_cons ?_ ?_
        · exact pei_var 0
        · exact pai_nil
      · refine pg_tup rfl ?_
        refine pgs_cons ?_ ?_
        · exact pg_name ND rfl (by first | exact .inl rfl | exact .inr rfl)
        · refine pgs_cons ?_ ?_
          · exact pg_name ND rfl (by first | exact .inl rfl | exact .inr rfl)
          · exact pgs_nil
      · refine pssi_cons ?_ ?_
        · refine psi_set (i := 4) ND rfl (by first | exact .inl rfl | exact .inr rfl) ?_
          refine pei_up ?_
          refine pei_lc (t := .nm 5) rfl ND ?_ (own := [("other", 5)]) (by exact blkOk_of (by kernel_rfl)) (fun _ _ _ _ _ => ?_) (fun _ _ _ _ _ => ?_)
          · refine pii_seq ?_
            exact pei_var 3
          · exact pg_name ND rfl (by first | exact .inl rfl | exact .inr rfl)
          · refine pei_ix ?_ ?_
            · exact pei_var 1
            · exact pei_var 5
        · refine pssi_cons ?_ ?_
          · refine psi_if ?_ ?_ ?_
            · refine (pci_lt ?_ ?_).t _
              · refine pei_lenSet rfl rfl FX.b_len rfl FX.b_set ?_
                exact pei_var 4
              · refine pei_callB call_len rfl FX.b_len boot_len os_len ?_
                refine pai_cons ?_ ?_
                · exact pei_var 4
                · exact pai_nil
            · refine pssi_one ?_
              refine psi_ret ?_
              exact pei_bl
            · exact pssi_nil
          · refine pssi_one ?_
            refine psi_set (i := 1) ND rfl (by first | exact .inl rfl | exact .inr rfl) ?_
            refine pei_add ?_ ?_
            · refine pei_up ?_
              refine pei_lc (t := .nm 6) rfl ND ?_ (own := [("piece", 6)]) (by exact blkOk_of (by kernel_rfl)) (fun _ _ _ _ _ => ?_) (fun _ _ _ _ _ => ?_)
              · refine pii_seq ?_
                exact pei_var 1
              · exact pg_name ND rfl (by first | exact .inl rfl | exact .inr rfl)
              · refine pei_ifExp ?_ ?_ ?_
                · refine (pci_in (by exact rmF hr0) ?_ ?_).t _
                  · exact pei_var 6
                  · exact pei_var 4
                · exact pei_var 2
                · exact pei_var 6
            · refine pei_lst ?_ (hl := (by decide : (1 : Nat) ≤ sizeLine))
              refine pai_cons ?_ ?_
              · exact pei_keep (pei_var 2)
              · exact pai_nil
    · refine pssi_one ?_
      refine psi_ret ?_
      exact pei_bl
def N_is_forest : List Str := (["comings"] : List Str)
abbrev st_is_forest : Stmt := top 20
theorem sc_is_forest : FnScope N_is_forest ["comings"] (defScope st_is_forest) := ⟨rfl, rfl, rfl, by decide +kernel, rfl, by decide +kernel, by decide +kernel⟩
theorem wk_is_forest (FX : Fx K mg) (DX : Dx P w K mg base (2 * k) Φ) {f : Addr} (cdv : Value) (A : Around) (outer : List Env) (s : Shared) (H : Hp) (E : XK) (hr1 : Room (2 * k + 1) (A.deeper (envOfC "is_forest" (defScope st_is_forest) s.heap.objs.size f cdv))) (hG : (A.deeper (envOfC "is_forest" (defScope st_is_forest) s.heap.objs.size f cdv)).guards = some []) :
    PSSI (cxOf (L2.CX P w) P w K mg base N_is_forest "is_forest" (defScope st_is_forest) f cdv A outer s H E) (fun cls d _ H => E cls d H) (defBody st_is_forest) (B_is_forest Φ) := by
  have hr0 : Room (2 * k) (A.deeper (envOfC "is_forest" (defScope st_is_forest) s.heap.objs.size f cdv)) := hr1.mono (Nat.le_succ _)
  have ND : N_is_forest.Nodup := sc_is_forest.nd
  refine pssi_cons ?_ ?_
  · refine psi_expr ?_
    refine pei_call DX.d_check_comings hr0 hG tkF rfl ?_
    refine pai_cons ?_ ?_
    · exact pei_keep (pei_var 0)
    · exact pai_nil
  · refine pssi_one ?_
    refine psi_ret ?_
    refine pei_call DX.d_raw_is_forest hr0 hG tkF rfl ?_
    refine pai_cons ?_ ?_
    · exact pei_keep (pei_var 0)
    · exact pai_nil
def N_is_right : List Str := (["told", "lot", "colours", "other"] : List Str)
abbrev st_is_right : Stmt := top 21
theorem sc_is_right : FnScope N_is_right ["told", "lot", "colours"] (defScope st_is_right) := ⟨rfl, rfl, rfl, by decide +kernel, rfl, by decide +kernel, by decide +kernel⟩
theorem wk_is_right (FX : Fx K mg) (DX : Dx P w K mg base (2 * k) Φ) {f : Addr} (cdv : Value) (A : Around) (outer : List Env) (s : Shared) (H : Hp) (E : XK) (hr1 : Room (2 * k + 1) (A.deeper (envOfC "is_right" (defScope st_is_right) s.heap.objs.size f cdv))) (hG : (A.deeper (envOfC "is_right" (defScope st_is_right) s.heap.objs.size f cdv)).guards = some []) :
    PSSI (cxOf (L2.CX P w) P w K mg base N_is_right "is_right" (defScope st_is_right) f cdv A outer s H E) (fun cls d _ H => E cls d H) (defBody st_is_right) (B_is_right Φ) := by
  have hr0 : Room (2 * k) (A.deeper (envOfC "is_right" (defScope st_is_right) s.heap.objs.size f cdv)) := hr1.mono (Nat.le_succ _)
  have ND : N_is_right.Nodup := sc_is_right.nd
  refine pssi_one ?_
  refine psi_ret ?_
  refine pei_and ?_ ?_
  · refine pei_call DX.d_is_number hr0 hG tkF rfl ?_
    refine pai_cons ?_ ?_
    · exact pei_keep (pei_var 0)
    · refine pai_cons ?_ ?_
      · exact pei_gint rfl FX.i_MOST_TOLD
      · exact pai_nil
  · refine pei_one ?_
    refine (pci_notIn (by exact rmF hr0) ?_ ?_).v _
    · exact pei_var 0
    · refine pei_up ?_
      refine pei_lc (t := .nm 3) rfl ND ?_ (own := [("other", 3)]) (by exact blkOk_of (by kernel_rfl)) (fun _ _ _ _ _ => ?_) (fun _ _ _ _ _ => ?_)
      · refine pii_seq ?_
        exact pei_var 1
      · exact pg_name ND rfl (by first | exact .inl rfl | exact .inr rfl)
      · refine pei_ix ?_ ?_
        · exact pei_var 2
        · exact pei_var 3
def N_raw_led : List Str := (["painter", "comings", "colours", "place", "lot", "told"] : List Str)
abbrev st_raw_led : Stmt := top 22
theorem sc_raw_led : FnScope N_raw_led ["painter", "comings"] (defScope st_raw_led) := ⟨rfl, rfl, rfl, by decide +kernel, rfl, by decide +kernel, by decide +kernel⟩
theorem wk_raw_led (FX : Fx K mg) (DX : Dx P w K mg base (2 * k) Φ) {f : Addr} (cdv : Value) (A : Around) (outer : List Env) (s : Shared) (H : Hp) (E : XK) (hr1 : Room (2 * k + 1) (A.deeper (envOfC "raw_led" (defScope st_raw_led) s.heap.objs.size f cdv))) (hG : (A.deeper (envOfC "raw_led" (defScope st_raw_led) s.heap.objs.size f cdv)).guards = some []) :
    PSSI (cxOf (L2.CX P w) P w K mg base N_raw_led "raw_led" (defScope st_raw_led) f cdv A outer s H E) (fun cls d _ H => E cls d H) (defBody st_raw_led) (B_raw_led Φ) := by
  have hr0 : Room (2 * k) (A.deeper (envOfC "raw_led" (defScope st_raw_led) s.heap.objs.size f cdv)) := hr1.mono (Nat.le_succ _)
  have ND : N_raw_led.Nodup := sc_raw_led.nd
  refine pssi_cons ?_ ?_
  · refine psi_set (i := 2) ND rfl (by first | exact .inl rfl | exact .inr rfl) ?_
    refine pei_tup ?_ (hl := (by decide : (0 : Nat) ≤ sizeLine))
    exact pai_nil
  · refine pssi_cons ?_ ?_
    · refine psi_for (t := .tp [.nm 3, .nm 4]) poF rfl ?_ ?_ ?_
      · refine pii_enum rfl FX.b_enumerate ?_
        refine pai_cons ?_ ?_
        · exact pei_var 1
        · exact pai_nil
      · refine pg_tup rfl ?_
        refine pgs_cons ?_ ?_
        · exact pg_name ND rfl (by first | exact .inl rfl | exact .inr rfl)
        · refine pgs_cons ?_ ?_
          · exact pg_name ND rfl (by first | exact .inl rfl | exact .inr rfl)
          · exact pgs_nil
      · refine pssi_cons ?_ ?_
        · refine psi_set (i := 5) ND rfl (by first | exact .inl rfl | exact .inr rfl) ?_
          refine pei_callL (i := 0) DX.dv hr0 hG tkF rfl (by first | exact .inl rfl | exact .inr (.inl rfl) | exact .inr (.inr rfl)) ?_
          refine pai_cons ?_ ?_
          · refine pei_cut2 ?_ ?_
            · exact pei_var 1
            · refine pei_add ?_ ?_
              · exact pei_var 3
              · exact pei_int
          · refine pai_cons ?_ ?_
            · exact pei_keep (pei_var 2)
            · exact pai_nil
        · refine pssi_cons ?_ ?_
          · refine psi_if ?_ ?_ ?_
            · refine pti_not ?_
              refine pti_val ?_ ?_
              · refine pei_call DX.d_is_right hr0 hG tkF rfl ?_
                refine pai_cons ?_ ?_
                · exact pei_keep (pei_var 5)
                · refine pai_cons ?_ ?_
                  · exact pei_keep (pei_var 4)
                  · refine pai_cons ?_ ?_
                    · exact pei_keep (pei_var 2)
                    · exact pai_nil
              · (intro _; rfl)
            · refine pssi_one ?_
              refine psi_ret ?_
              refine pei_tup ?_ (hl := (by decide : (3 : Nat) ≤ sizeLine))
              refine pai_cons ?_ ?_
              · exact pei_str
              · refine pai_cons ?_ ?_
                · exact pei_keep (pei_var 3)
                · refine pai_cons ?_ ?_
                  · exact pei_keep (pei_var 5)
                  · exact pai_nil
            · exact pssi_nil
          · refine pssi_one ?_
            refine psi_set (i := 2) ND rfl (by first | exact .inl rfl | exact .inr rfl) ?_
            refine pei_add ?_ ?_
            · exact pei_var 2
            · refine pei_tup ?_ (hl := (by decide : (1 : Nat) ≤ sizeLine))
              refine pai_cons ?_ ?_
              · exact pei_keep (pei_var 5)
              · exact pai_nil
    · refine pssi_one ?_
      refine psi_ret ?_
      refine pei_tup ?_ (hl := (by decide : (2 : Nat) ≤ sizeLine))
      refine pai_cons ?_ ?_
      · exact pei_str
      · refine pai_cons ?_ ?_
        · exact pei_keep (pei_var 2)
        · exact pai_nil
def N_led : List Str := (["painter", "comings"] : List Str)
abbrev st_led : Stmt := top 23
theorem sc_led : FnScope N_led ["painter", "comings"] (defScope st_led) := ⟨rfl, rfl, rfl, by decide +kernel, rfl, by decide +kernel, by decide +kernel⟩
theorem wk_led (FX : Fx K mg) (DX : Dx P w K mg base (2 * k) Φ) {f : Addr} (cdv : Value) (A : Around) (outer : List Env) (s : Shared) (H : Hp) (E : XK) (hr1 : Room (2 * k + 1) (A.deeper (envOfC "led" (defScope st_led) s.heap.objs.size f cdv))) (hG : (A.deeper (envOfC "led" (defScope st_led) s.heap.objs.size f cdv)).guards = some []) :
    PSSI (cxOf (L2.CX P w) P w K mg base N_led "led" (defScope st_led) f cdv A outer s H E) (fun cls d _ H => E cls d H) (defBody st_led) (B_led Φ) := by
  have hr0 : Room (2 * k) (A.deeper (envOfC "led" (defScope st_led) s.heap.objs.size f cdv)) := hr1.mono (Nat.le_succ _)
  have ND : N_led.Nodup := sc_led.nd
  refine pssi_cons ?_ ?_
  · refine psi_expr ?_
    refine pei_call DX.d_check_comings hr0 hG tkF rfl ?_
    refine pai_cons ?_ ?_
    · exact pei_keep (pei_var 1)
    · exact pai_nil
  · refine pssi_one ?_
    refine psi_ret ?_
    refine pei_call DX.d_raw_led hr0 hG tkF rfl ?_
    refine pai_cons ?_ ?_
    · exact pei_keep (pei_var 0)
    · refine pai_cons ?_ ?_
      · exact pei_keep (pei_var 1)
      · exact pai_nil
def N_first_painter : List Str := (["comings", "colours", "barred", "found", "other"] : List Str)
abbrev st_first_painter : Stmt := top 24
theorem sc_first_painter : FnScope N_first_painter ["comings", "colours"] (defScope st_first_painter) := ⟨rfl, rfl, rfl, by decide +kernel, rfl, by decide +kernel, by decide +kernel⟩
theorem wk_first_painter (FX : Fx K mg) (DX : Dx P w K mg base (2 * k) Φ) {f : Addr} (cdv : Value) (A : Around) (outer : List Env) (s : Shared) (H : Hp) (E : XK) (hr1 : Room (2 * k + 1) (A.deeper (envOfC "first_painter" (defScope st_first_painter) s.heap.objs.size f cdv))) (hG : (A.deeper (envOfC "first_painter" (defScope st_first_painter) s.heap.objs.size f cdv)).guards = some []) :
    PSSI (cxOf (L2.CX P w) P w K mg base N_first_painter "first_painter" (defScope st_first_painter) f cdv A outer s H E) (fun cls d _ H => E cls d H) (defBody st_first_painter) (B_first_painter Φ) := by
  have hr0 : Room (2 * k) (A.deeper (envOfC "first_painter" (defScope st_first_painter) s.heap.objs.size f cdv)) := hr1.mono (Nat.le_succ _)
  have ND : N_first_painter.Nodup := sc_first_painter.nd
  refine pssi_cons ?_ ?_
  · refine psi_setLc (i := 2) (t := .nm 4) rfl ND rfl rfl rfl ?_ (own := [("other", 4)]) (by exact blkOk_of (by kernel_rfl)) (fun _ _ _ _ _ => ?_) (fun _ _ _ _ _ => ?_)
    · refine pii_seq ?_
      refine pei_ix ?_ ?_
      · exact pei_var 0
      · refine pei_neg ?_
        exact pei_int
    · exact pg_name ND rfl (by first | exact .inl rfl | exact .inr rfl)
    · refine pei_ix ?_ ?_
      · exact pei_var 1
      · exact pei_var 4
  · refine pssi_cons ?_ ?_
    · refine psi_set (i := 3) ND rfl (by first | exact .inl rfl | exact .inr rfl) ?_
      exact pei_int
    · refine pssi_cons ?_ ?_
      · refine psi_while 1000000 poF ?_ ?_
        · refine (pci_in (by exact rmF hr0) ?_ ?_).t _
          · exact pei_var 3
          · exact pei_var 2
        · refine pssi_one ?_
          refine psi_set (i := 3) ND rfl (by first | exact .inl rfl | exact .inr rfl) ?_
          refine pei_add ?_ ?_
          · exact pei_var 3
          · exact pei_int
      · refine pssi_one ?_
        refine psi_ret ?_
        exact pei_var 3
def N_Foe___init__ : List Str := (["self", "painter"] : List Str)
abbrev st_Foe___init__ : Stmt := inClass (top 25) 0
theorem sc_Foe___init__ : FnScope N_Foe___init__ ["self", "painter"] (defScope st_Foe___init__) := ⟨rfl, rfl, rfl, by decide +kernel, rfl, by decide +kernel, by decide +kernel⟩
theorem wk_Foe___init__ (FX : Fx K mg) (DX : Dx P w K mg base (2 * k) Φ) {f : Addr} (cdv : Value) (A : Around) (outer : List Env) (s : Shared) (H : Hp) (E : XK) (hr1 : Room (2 * k + 1) (A.deeper (envOfC "Foe.__init__" (defScope st_Foe___init__) s.heap.objs.size f cdv))) (hG : (A.deeper (envOfC "Foe.__init__" (defScope st_Foe___init__) s.heap.objs.size f cdv)).guards = some []) :
    PSSI (cxOf (L2.CX P w) P w K mg base N_Foe___init__ "Foe.__init__" (defScope st_Foe___init__) f cdv A outer s H E) (fun cls d _ H => E cls d H) (defBody st_Foe___init__) (B_Foe___init__ Φ) := by
  have hr0 : Room (2 * k) (A.deeper (envOfC "Foe.__init__" (defScope st_Foe___init__) s.heap.objs.size f cdv)) := hr1.mono (Nat.le_succ _)
  have ND : N_Foe___init__.Nodup := sc_Foe___init__.nd
  refine pssi_cons ?_ ?_
  · refine psi_setF ?_ ?_ FX.hf_painter
    · exact pei_keep (pei_var 1)
    · exact pei_var 0
  · refine pssi_cons ?_ ?_
    · refine psi_setF ?_ ?_ FX.hf_comings
      · refine pei_new ?_
        refine pei_lst ?_ (hl := (by decide : (0 : Nat) ≤ sizeLine))
        exact pai_nil
      · exact pei_var 0
    · refine pssi_cons ?_ ?_
      · refine psi_setF ?_ ?_ FX.hf_colours
        · refine pei_new ?_
          refine pei_lst ?_ (hl := (by decide : (0 : Nat) ≤ sizeLine))
          exact pai_nil
        · exact pei_var 0
      · refine pssi_cons ?_ ?_
        · refine psi_setF ?_ ?_ FX.hf_is_over
          · exact pei_bl
          · exact pei_var 0
        · refine pssi_one ?_
          refine psi_setF ?_ ?_ FX.hf_last
          · exact pei_non
          · exact pei_var 0
def N_Foe_put : List Str := (["self", "lot", "told"] : List Str)
abbrev st_Foe_put : Stmt := inClass (top 25) 1
theorem sc_Foe_put : FnScope N_Foe_put ["self", "lot"] (defScope st_Foe_put) := ⟨rfl, rfl, rfl, by decide +kernel, rfl, by decide +kernel, by decide +kernel⟩
theorem wk_Foe_put (FX : Fx K mg) (DX : Dx P w K mg base (2 * k) Φ) {f : Addr} (cdv : Value) (A : Around) (outer : List Env) (s : Shared) (H : Hp) (E : XK) (hr1 : Room (2 * k + 1) (A.deeper (envOfC "Foe.put" (defScope st_Foe_put) s.heap.objs.size f cdv))) (hG : (A.deeper (envOfC "Foe.put" (defScope st_Foe_put) s.heap.objs.size f cdv)).guards = some []) :
    PSSI (cxOf (L2.CX P w) P w K mg base N_Foe_put "Foe.put" (defScope st_Foe_put) f cdv A outer s H E) (fun cls d _ H => E cls d H) (defBody st_Foe_put) (B_Foe_put Φ) := by
  have hr0 : Room (2 * k) (A.deeper (envOfC "Foe.put" (defScope st_Foe_put) s.heap.objs.size f cdv)) := hr1.mono (Nat.le_succ _)
  have ND : N_Foe_put.Nodup := sc_Foe_put.nd
  refine pssi_cons ?_ ?_
  · refine psi_expr ?_
    refine pei_append ?_ ?_
    · refine pei_fld ?_ FX.hf_comings
      exact pei_var 0
    · refine pai_cons ?_ ?_
      · refine pei_callTy call_tuple_of rfl FX.b_tuple PyProof.Rows.boot_tuple os_tuple ?_
        refine pai_cons ?_ ?_
        · refine pei_callB (CallR.or cr_sortedI cr_sortT) rfl FX.b_sorted PyProof.Rows.boot_sorted os_sorted ?_
          refine pai_cons ?_ ?_
          · exact pei_var 1
          · exact pai_nil
        · exact pai_nil
      · exact pai_nil
  · refine pssi_cons ?_ ?_
    · refine psi_set (i := 2) ND rfl (by first | exact .inl rfl | exact .inr rfl) ?_
      refine pei_callF DX.dv hr0 hG tkF ?_ FX.hf_painter ?_ rfl rfl rfl rfl
      · exact pei_var 0
      · refine pai_cons ?_ ?_
        · refine pei_callTy call_tuple_of rfl FX.b_tuple PyProof.Rows.boot_tuple os_tuple ?_
          refine pai_cons ?_ ?_
          · refine pei_fld ?_ FX.hf_comings
            exact pei_var 0
          · exact pai_nil
        · refine pai_cons ?_ ?_
          · refine pei_callTy call_tuple_of rfl FX.b_tuple PyProof.Rows.boot_tuple os_tuple ?_
            refine pai_cons ?_ ?_
            · refine pei_fld ?_ FX.hf_colours
              exact pei_var 0
            · exact pai_nil
          · exact pai_nil
    · refine pssi_cons ?_ ?_
      · refine psi_if ?_ ?_ ?_
        · refine pti_not ?_
          refine pti_val ?_ ?_
          · refine pei_call DX.d_is_right hr0 hG tkF rfl ?_
            refine pai_cons ?_ ?_
            · exact pei_keep (pei_var 2)
            · refine pai_cons ?_ ?_
              · exact pei_keep (pei_var 1)
              · refine pai_cons ?_ ?_
                · refine pei_fld ?_ FX.hf_colours
                  exact pei_var 0
                · exact pai_nil
          · (intro _; rfl)
        · refine pssi_cons ?_ ?_
          · refine psi_setF ?_ ?_ FX.hf_is_over
            · exact pei_bl
            · exact pei_var 0
          · refine pssi_cons ?_ ?_
            · refine psi_setF ?_ ?_ FX.hf_last
              · exact pei_keep (pei_var 2)
              · exact pei_var 0
            · refine pssi_one ?_
              refine psi_ret ?_
              exact pei_non
        · exact pssi_nil
      · refine pssi_cons ?_ ?_
        · refine psi_expr ?_
          refine pei_append ?_ ?_
          · refine pei_fld ?_ FX.hf_colours
            exact pei_var 0
          · refine pai_cons ?_ ?_
            · exact pei_keep (pei_var 2)
            · exact pai_nil
        · refine pssi_one ?_
          refine psi_ret ?_
          refine pei_sub ?_ ?_
          · refine pei_callB call_len rfl FX.b_len boot_len os_len ?_
            refine pai_cons ?_ ?_
            · refine pei_fld ?_ FX.hf_colours
              exact pei_var 0
            · exact pai_nil
          · exact pei_int
def N_Foe_unlike : List Str := (["self", "many", "first", "second", "known", "others", "place"] : List Str)
abbrev st_Foe_unlike : Stmt := inClass (top 25) 2
theorem sc_Foe_unlike : FnScope N_Foe_unlike ["self", "many"] (defScope st_Foe_unlike) := ⟨rfl, rfl, rfl, by decide +kernel, rfl, by decide +kernel, by decide +kernel⟩
theorem wk_Foe_unlike (FX : Fx K mg) (DX : Dx P w K mg base (2 * k) Φ) {f : Addr} (cdv : Value) (A : Around) (outer : List Env) (s : Shared) (H : Hp) (E : XK) (hr1 : Room (2 * k + 1) (A.deeper (envOfC "Foe.unlike" (defScope st_Foe_unlike) s.heap.objs.size f cdv))) (hG : (A.deeper (envOfC "Foe.unlike" (defScope st_Foe_unlike) s.heap.objs.size f cdv)).guards = some []) :
    PSSI (cxOf (L2.CX P w) P w K mg base N_Foe_unlike "Foe.unlike" (defScope st_Foe_unlike) f cdv A outer s H E) (fun cls d _ H => E cls d H) (defBody st_Foe_unlike) (B_Foe_unlike Φ) := by
  have hr0 : Room (2 * k) (A.deeper (envOfC "Foe.unlike" (defScope st_Foe_unlike) s.heap.objs.size f cdv)) := hr1.mono (Nat.le_succ _)
  have ND : N_Foe_unlike.Nodup := sc_Foe_unlike.nd
  refine pssi_cons ?_ ?_
  · refine psi_if ?_ ?_ ?_
    · refine (pci_eq (by exact rmF hr0) ?_ ?_).t _
      · exact pei_var 1
      · exact pei_int
    · refine pssi_one ?_
      refine psi_ret ?_
      refine pei_lst ?_ (hl := (by decide : (0 : Nat) ≤ sizeLine))
      exact pai_nil
    · exact pssi_nil
  · refine pssi_cons ?_ ?_
    · refine psi_set (i := 2) ND rfl (by first | exact .inl rfl | exact .inr rfl) ?_
      refine pei_meth DX.m_Foe_unlike hr0 hG tkF ?_ ?_ rfl rfl rfl rfl
      · exact pei_var 0
      · refine pai_cons ?_ ?_
        · refine pei_sub ?_ ?_
          · exact pei_var 1
          · exact pei_int
        · exact pai_nil
    · refine pssi_cons ?_ ?_
      · refine psi_set (i := 3) ND rfl (by first | exact .inl rfl | exact .inr rfl) ?_
        refine pei_ifExp ?_ ?_ ?_
        · refine (pci_isN ?_ ?_).t _
          · exact pei_var 2
          · exact pei_non
        · exact pei_non
        · refine pei_meth DX.m_Foe_unlike hr0 hG tkF ?_ ?_ rfl rfl rfl rfl
          · exact pei_var 0
          · refine pai_cons ?_ ?_
            · refine pei_sub ?_ ?_
              · exact pei_var 1
              · exact pei_int
            · exact pai_nil
      · refine pssi_cons ?_ ?_
        · refine psi_if ?_ ?_ ?_
          · refine (pci_isN ?_ ?_).t _
            · exact pei_var 3
            · exact pei_non
          · refine pssi_one ?_
            refine psi_ret ?_
            exact pei_non
          · exact pssi_nil
        · refine pssi_cons ?_ ?_
          · refine psi_set (i := 4) ND rfl (by first | exact .inl rfl | exact .inr rfl) ?_
            refine pei_up ?_
            refine pei_lc (t := .nm 6) rfl ND ?_ (own := [("place", 6)]) (by exact blkOk_of (by kernel_rfl)) (fun _ _ _ _ _ => ?_) (fun _ _ _ _ _ => ?_)
            · refine pii_seq ?_
              exact pei_var 2
            · exact pg_name ND rfl (by first | exact .inl rfl | exact .inr rfl)
            · refine pei_ix ?_ ?_
              · refine pei_fld ?_ FX.hf_colours
                exact pei_var 0
              · exact pei_var 6
          · refine pssi_cons ?_ ?_
            · refine psi_setLci (i := 5) (t := .nm 6) rfl ND rfl rfl rfl ?_ (own := [("place", 6)]) (by exact blkOk_of (by kernel_rfl)) (fun _ _ _ _ _ => ?_) (fun _ _ _ _ _ => ?_) (fun _ _ _ _ _ => ?_)
              · refine pii_seq ?_
                exact pei_var 3
              · exact pg_name ND rfl (by first | exact .inl rfl | exact .inr rfl)
              · refine (pci_notIn (by exact rmF hr0) ?_ ?_).t _
                · refine pei_ix ?_ ?_
                  · refine pei_fld ?_ FX.hf_colours
                    exact pei_var 0
                  · exact pei_var 6
                · exact pei_var 4
              · exact pei_var 6
            · refine pssi_cons ?_ ?_
              · refine psi_if ?_ ?_ ?_
                · refine (pci_gt ?_ ?_).t _
                  · refine pei_callB call_len rfl FX.b_len boot_len os_len ?_
                    refine pai_cons ?_ ?_
                    · exact pei_var 5
                    · exact pai_nil
                  · exact pei_int
                · refine pssi_one ?_
                  refine psi_ret ?_
                  refine pei_add ?_ ?_
                  · exact pei_var 2
                  · refine pei_cut2 ?_ ?_
                    · exact pei_var 5
                    · exact pei_int
                · exact pssi_nil
              · refine pssi_cons ?_ ?_
                · refine psi_set (i := 6) ND rfl (by first | exact .inl rfl | exact .inr rfl) ?_
                  refine pei_meth DX.m_Foe_put hr0 hG tkF ?_ ?_ rfl rfl rfl rfl
                  · exact pei_var 0
                  · refine pai_cons ?_ ?_
                    · exact pei_keep (pei_var 3)
                    · exact pai_nil
                · refine pssi_one ?_
                  refine psi_ret ?_
                  refine pei_ifExp ?_ ?_ ?_
                  · refine (pci_isN ?_ ?_).t _
                    · exact pei_var 6
                    · exact pei_non
                  · exact pei_non
                  · refine pei_add ?_ ?_
                    · exact pei_var 2
                    · refine pei_lst ?_ (hl := (by decide : (1 : Nat) ≤ sizeLine))
                      refine pai_cons ?_ ?_
                      · exact pei_keep (pei_var 6)
                      · exact pai_nil
def N_check_forced : List Str := (["many"] : List Str)
abbrev st_check_forced : Stmt := top 26
theorem sc_check_forced : FnScope N_check_forced ["many"] (defScope st_check_forced) := ⟨rfl, rfl, rfl, by decide +kernel, rfl, by decide +kernel, by decide +kernel⟩
theorem wk_check_forced (FX : Fx K mg) (DX : Dx P w K mg base (2 * k) Φ) {f : Addr} (cdv : Value) (A : Around) (outer : List Env) (s : Shared) (H : Hp) (E : XK) (hr1 : Room (2 * k + 1) (A.deeper (envOfC "check_forced" (defScope st_check_forced) s.heap.objs.size f cdv))) (hG : (A.deeper (envOfC "check_forced" (defScope st_check_forced) s.heap.objs.size f cdv)).guards = some []) :
    PSSI (cxOf (L2.CX P w) P w K mg base N_check_forced "check_forced" (defScope st_check_forced) f cdv A outer s H E) (fun cls d _ H => E cls d H) (defBody st_check_forced) (B_check_forced Φ) := by
  have hr0 : Room (2 * k) (A.deeper (envOfC "check_forced" (defScope st_check_forced) s.heap.objs.size f cdv)) := hr1.mono (Nat.le_succ _)
  have ND : N_check_forced.Nodup := sc_check_forced.nd
  refine pssi_one ?_
  refine psi_if ?_ ?_ ?_
  · refine pti_not ?_
    refine pti_val ?_ ?_
    · refine pei_call DX.d_is_within hr0 hG tkF rfl ?_
      refine pai_cons ?_ ?_
      · exact pei_keep (pei_var 0)
      · refine pai_cons ?_ ?_
        · exact pei_int
        · refine pai_cons ?_ ?_
          · exact pei_gint rfl FX.i_MOST_FORCED
          · exact pai_nil
    · (intro _; rfl)
  · refine pssi_one ?_
    exact psi_stop
  · exact pssi_nil
def N_forest_foe : List Str := (["painter", "many", "foe", "lot"] : List Str)
abbrev st_forest_foe : Stmt := top 27
theorem sc_forest_foe : FnScope N_forest_foe ["painter", "many"] (defScope st_forest_foe) := ⟨rfl, rfl, rfl, by decide +kernel, rfl, by decide +kernel, by decide +kernel⟩
theorem wk_forest_foe (FX : Fx K mg) (DX : Dx P w K mg base (2 * k) Φ) {f : Addr} (cdv : Value) (A : Around) (outer : List Env) (s : Shared) (H : Hp) (E : XK) (hr1 : Room (2 * k + 1) (A.deeper (envOfC "forest_foe" (defScope st_forest_foe) s.heap.objs.size f cdv))) (hG : (A.deeper (envOfC "forest_foe" (defScope st_forest_foe) s.heap.objs.size f cdv)).guards = some []) :
    PSSI (cxOf (L2.CX P w) P w K mg base N_forest_foe "forest_foe" (defScope st_forest_foe) f cdv A outer s H E) (fun cls d _ H => E cls d H) (defBody st_forest_foe) (B_forest_foe Φ) := by
  have hr0 : Room (2 * k) (A.deeper (envOfC "forest_foe" (defScope st_forest_foe) s.heap.objs.size f cdv)) := hr1.mono (Nat.le_succ _)
  have ND : N_forest_foe.Nodup := sc_forest_foe.nd
  refine pssi_cons ?_ ?_
  · refine psi_expr ?_
    refine pei_call DX.d_check_forced hr0 hG tkF rfl ?_
    refine pai_cons ?_ ?_
    · exact pei_keep (pei_var 1)
    · exact pai_nil
  · refine pssi_cons ?_ ?_
    · refine psi_set (i := 2) ND rfl (by first | exact .inl rfl | exact .inr rfl) ?_
      refine pei_make DX.c_Foe hr1 hG tkF rfl ?_
      refine pai_cons ?_ ?_
      · exact pei_keep (pei_var 0)
      · exact pai_nil
    · refine pssi_cons ?_ ?_
      · refine psi_set (i := 3) ND rfl (by first | exact .inl rfl | exact .inr rfl) ?_
        refine pei_meth DX.m_Foe_unlike hr0 hG tkF ?_ ?_ rfl rfl rfl rfl
        · exact pei_var 2
        · refine pai_cons ?_ ?_
          · refine pei_sub ?_ ?_
            · exact pei_var 1
            · exact pei_int
          · exact pai_nil
      · refine pssi_cons ?_ ?_
        · refine psi_if ?_ ?_ ?_
          · refine (pci_notN ?_ ?_).t _
            · exact pei_var 3
            · exact pei_non
          · refine pssi_one ?_
            refine psi_expr ?_
            refine pei_meth DX.m_Foe_put hr0 hG tkF ?_ ?_ rfl rfl rfl rfl
            · exact pei_var 2
            · refine pai_cons ?_ ?_
              · exact pei_keep (pei_var 3)
              · exact pai_nil
          · exact pssi_nil
        · refine pssi_cons ?_ ?_
          · refine psi_if ?_ ?_ ?_
            · refine pti_val ?_ ?_
              · refine pei_fld ?_ FX.hf_is_over
                exact pei_var 2
              · (intro _; rfl)
            · refine pssi_one ?_
              refine psi_ret ?_
              refine pei_tup ?_ (hl := (by decide : (3 : Nat) ≤ sizeLine))
              refine pai_cons ?_ ?_
              · exact pei_str
              · refine pai_cons ?_ ?_
                · refine pei_callTy call_tuple_of rfl FX.b_tuple PyProof.Rows.boot_tuple os_tuple ?_
                  refine pai_cons ?_ ?_
                  · refine pei_fld ?_ FX.hf_comings
                    exact pei_var 2
                  · exact pai_nil
                · refine pai_cons ?_ ?_
                  · refine pei_fld ?_ FX.hf_last
                    exact pei_var 2
                  · exact pai_nil
            · exact pssi_nil
          · refine pssi_one ?_
            refine psi_ret ?_
            refine pei_tup ?_ (hl := (by decide : (3 : Nat) ≤ sizeLine))
            refine pai_cons ?_ ?_
            · exact pei_str
            · refine pai_cons ?_ ?_
              · refine pei_callTy call_tuple_of rfl FX.b_tuple PyProof.Rows.boot_tuple os_tuple ?_
                refine pai_cons ?_ ?_
                · refine pei_fld ?_ FX.hf_comings
                  exact pei_var 2
                · exact pai_nil
              · refine pai_cons ?_ ?_
                · refine pei_callTy call_tuple_of rfl FX.b_tuple PyProof.Rows.boot_tuple os_tuple ?_
                  refine pai_cons ?_ ?_
                  · refine pei_fld ?_ FX.hf_colours
                    exact pei_var 2
                  · exact pai_nil
                · exact pai_nil
def N_least_colours : List Str := (["places", "found"] : List Str)
abbrev st_least_colours : Stmt := top 28
theorem sc_least_colours : FnScope N_least_colours ["places"] (defScope st_least_colours) := ⟨rfl, rfl, rfl, by decide +kernel, rfl, by decide +kernel, by decide +kernel⟩
theorem wk_least_colours (FX : Fx K mg) (DX : Dx P w K mg base (2 * k) Φ) {f : Addr} (cdv : Value) (A : Around) (outer : List Env) (s : Shared) (H : Hp) (E : XK) (hr1 : Room (2 * k + 1) (A.deeper (envOfC "least_colours" (defScope st_least_colours) s.heap.objs.size f cdv))) (hG : (A.deeper (envOfC "least_colours" (defScope st_least_colours) s.heap.objs.size f cdv)).guards = some []) :
    PSSI (cxOf (L2.CX P w) P w K mg base N_least_colours "least_colours" (defScope st_least_colours) f cdv A outer s H E) (fun cls d _ H => E cls d H) (defBody st_least_colours) (B_least_colours Φ) := by
  have hr0 : Room (2 * k) (A.deeper (envOfC "least_colours" (defScope st_least_colours) s.heap.objs.size f cdv)) := hr1.mono (Nat.le_succ _)
  have ND : N_least_colours.Nodup := sc_least_colours.nd
  refine pssi_cons ?_ ?_
  · refine psi_if ?_ ?_ ?_
    · refine pti_not ?_
      refine pti_val ?_ ?_
      · refine pei_call DX.d_is_within hr0 hG tkF rfl ?_
        refine pai_cons ?_ ?_
        · exact pei_keep (pei_var 0)
        · refine pai_cons ?_ ?_
          · exact pei_int
          · refine pai_cons ?_ ?_
            · exact pei_gint rfl FX.i_MOST_COMINGS
            · exact pai_nil
      · (intro _; rfl)
    · refine pssi_one ?_
      exact psi_stop
    · exact pssi_nil
  · refine pssi_cons ?_ ?_
    · refine psi_set (i := 1) ND rfl (by first | exact .inl rfl | exact .inr rfl) ?_
      exact pei_int
    · refine pssi_cons ?_ ?_
      · refine psi_while 1000000 poF ?_ ?_
        · refine (pci_le ?_ ?_).t _
          · refine pei_call DX.d_power hr0 hG tkF rfl ?_
            refine pai_cons ?_ ?_
            · exact pei_int
            · refine pai_cons ?_ ?_
              · exact pei_keep (pei_var 1)
              · exact pai_nil
          · exact pei_var 0
        · refine pssi_one ?_
          refine psi_set (i := 1) ND rfl (by first | exact .inl rfl | exact .inr rfl) ?_
          refine pei_add ?_ ?_
          · exact pei_var 1
          · exact pei_int
      · refine pssi_one ?_
        refine psi_ret ?_
        exact pei_var 1
def N_grown_lot : List Str := (["comings", "place", "colours", "found", "waiting", "here", "colour", "other"] : List Str)
abbrev st_grown_lot : Stmt := top 29
theorem sc_grown_lot : FnScope N_grown_lot ["comings", "place"] (defScope st_grown_lot) := ⟨rfl, rfl, rfl, by decide +kernel, rfl, by decide +kernel, by decide +kernel⟩
theorem wk_grown_lot (FX : Fx K mg) (DX : Dx P w K mg base (2 * k) Φ) {f : Addr} (cdv : Value) (A : Around) (outer : List Env) (s : Shared) (H : Hp) (E : XK) (hr1 : Room (2 * k + 1) (A.deeper (envOfC "grown_lot" (defScope st_grown_lot) s.heap.objs.size f cdv))) (hG : (A.deeper (envOfC "grown_lot" (defScope st_grown_lot) s.heap.objs.size f cdv)).guards = some []) :
    PSSI (cxOf (L2.CX P w) P w K mg base N_grown_lot "grown_lot" (defScope st_grown_lot) f cdv A outer s H E) (fun cls d _ H => E cls d H) (defBody st_grown_lot) (B_grown_lot Φ) := by
  have hr0 : Room (2 * k) (A.deeper (envOfC "grown_lot" (defScope st_grown_lot) s.heap.objs.size f cdv)) := hr1.mono (Nat.le_succ _)
  have ND : N_grown_lot.Nodup := sc_grown_lot.nd
  refine pssi_cons ?_ ?_
  · refine psi_expr ?_
    refine pei_call DX.d_check_comings hr0 hG tkF rfl ?_
    refine pai_cons ?_ ?_
    · exact pei_keep (pei_var 0)
    · exact pai_nil
  · refine pssi_cons ?_ ?_
    · refine psi_if ?_ ?_ ?_
      · refine pti_not ?_
        refine pti_val ?_ ?_
        · refine pei_call DX.d_raw_is_forest hr0 hG tkF rfl ?_
          refine pai_cons ?_ ?_
          · exact pei_keep (pei_var 0)
          · exact pai_nil
        · (intro _; rfl)
      · refine pssi_one ?_
        exact psi_stop
      · exact pssi_nil
    · refine pssi_cons ?_ ?_
      · refine psi_if ?_ ?_ ?_
        · refine pti_not ?_
          refine pti_val ?_ ?_
          · refine pei_call DX.d_is_number hr0 hG tkF rfl ?_
            refine pai_cons ?_ ?_
            · exact pei_keep (pei_var 1)
            · refine pai_cons ?_ ?_
              · refine pei_sub ?_ ?_
                · refine pei_callB call_len rfl FX.b_len boot_len os_len ?_
                  refine pai_cons ?_ ?_
                  · exact pei_var 0
                  · exact pai_nil
                · exact pei_int
              · exact pai_nil
          · (intro _; rfl)
        · refine pssi_one ?_
          exact psi_stop
        · exact pssi_nil
      · refine pssi_cons ?_ ?_
        · refine psi_set (i := 2) ND rfl (by first | exact .inl rfl | exact .inr rfl) ?_
          refine pei_ix ?_ ?_
          · refine pei_call DX.d_raw_led hr0 hG tkF rfl ?_
            refine pai_cons ?_ ?_
            · exact pei_gfn rfl FX.f_first_painter.choose_spec
            · refine pai_cons ?_ ?_
              · exact pei_keep (pei_var 0)
              · exact pai_nil
          · exact pei_int
        · refine pssi_cons ?_ ?_
          · refine psi_par (i := 3) (j := 4) rfl ND rfl rfl  rfl rfl  ?_ rfl
            refine pai_cons ?_ ?_
            · refine pei_lst ?_ (hl := (by decide : (0 : Nat) ≤ sizeLine))
              exact pai_nil
            · refine pai_cons ?_ ?_
              · refine pei_lst ?_ (hl := (by decide : (1 : Nat) ≤ sizeLine))
                refine pai_cons ?_ ?_
                · exact pei_keep (pei_var 1)
                · exact pai_nil
              · exact pai_nil
          · refine pssi_cons ?_ ?_
            · refine psi_while 1000000 poF ?_ ?_
              · refine (pci_gt ?_ ?_).t _
                · refine pei_callB call_len rfl FX.b_len boot_len os_len ?_
                  refine pai_cons ?_ ?_
                  · exact pei_var 4
                  · exact pai_nil
                · exact pei_int
              · refine pssi_cons ?_ ?_
                · refine psi_set (i := 5) ND rfl (by first | exact .inl rfl | exact .inr rfl) ?_
                  refine pei_pop ?_
                  exact pei_var 4
                · refine pssi_cons ?_ ?_
                  · refine psi_expr ?_
                    refine pei_append ?_ ?_
                    · exact pei_var 3
                    · refine pai_cons ?_ ?_
                      · exact pei_keep (pei_var 5)
                      · exact pai_nil
                  · refine pssi_one ?_
                    refine psi_for (t := .nm 6) poF rfl ?_ ?_ ?_
                    · refine pii_range1 rfl FX.b_range ?_
                      refine pai_cons ?_ ?_
                      · refine pei_ix ?_ ?_
                        · exact pei_var 2
                        · exact pei_var 5
                      · exact pai_nil
                    · exact pg_name ND rfl (by first | exact .inl rfl | exact .inr rfl)
                    · refine pssi_one ?_
                      refine psi_expr ?_
                      refine pei_append ?_ ?_
                      · exact pei_var 4
                      · refine pai_cons ?_ ?_
                        · refine pei_callB (cr_minI rfl (by exact rmF hr0)) rfl FX.b_min PyProof.Rows.boot_min os_min ?_
                          refine pai_cons ?_ ?_
                          · refine pei_up ?_
                            refine pei_lci (t := .nm 7) rfl ND ?_ (own := [("other", 7)]) (by exact blkOk_of (by kernel_rfl)) (fun _ _ _ _ _ => ?_) (fun _ _ _ _ _ => ?_) (fun _ _ _ _ _ => ?_)
                            · refine pii_seq ?_
                              refine pei_ix ?_ ?_
                              · exact pei_var 0
                              · exact pei_var 5
                            · exact pg_name ND rfl (by first | exact .inl rfl | exact .inr rfl)
                            · refine (pci_eq (by exact rmF hr0) ?_ ?_).t _
                              · refine pei_ix ?_ ?_
                                · exact pei_var 2
                                · exact pei_var 7
                              · exact pei_var 6
                            · exact pei_var 7
                          · exact pai_nil
                        · exact pai_nil
            · refine pssi_one ?_
              refine psi_ret ?_
              refine pei_callTy call_tuple_of rfl FX.b_tuple PyProof.Rows.boot_tuple os_tuple ?_
              refine pai_cons ?_ ?_
              · refine pei_callB (CallR.or cr_sortedI cr_sortT) rfl FX.b_sorted PyProof.Rows.boot_sorted os_sorted ?_
                refine pai_cons ?_ ?_
                · exact pei_var 3
                · exact pai_nil
              · exact pai_nil
def N__law_pot : List Str := (["script", "cells", "cell"] : List Str)
abbrev st__law_pot : Stmt := top 31
theorem sc__law_pot : FnScope N__law_pot ["script"] (defScope st__law_pot) := ⟨rfl, rfl, rfl, by decide +kernel, rfl, by decide +kernel, by decide +kernel⟩
theorem wk__law_pot (FX : Fx K mg) (DX : Dx P w K mg base (2 * k) Φ) {f : Addr} (cdv : Value) (A : Around) (outer : List Env) (s : Shared) (H : Hp) (E : XK) (hr1 : Room (2 * k + 1) (A.deeper (envOfC "_law_pot" (defScope st__law_pot) s.heap.objs.size f cdv))) (hG : (A.deeper (envOfC "_law_pot" (defScope st__law_pot) s.heap.objs.size f cdv)).guards = some []) :
    PSSI (cxOf (L2.CX P w) P w K mg base N__law_pot "_law_pot" (defScope st__law_pot) f cdv A outer s H E) (fun cls d _ H => E cls d H) (defBody st__law_pot) (B__law_pot Φ) := by
  have hr0 : Room (2 * k) (A.deeper (envOfC "_law_pot" (defScope st__law_pot) s.heap.objs.size f cdv)) := hr1.mono (Nat.le_succ _)
  have ND : N__law_pot.Nodup := sc__law_pot.nd
  refine pssi_cons ?_ ?_
  · refine psi_setLc (i := 1) (t := .nm 2) rfl ND rfl rfl rfl ?_ (own := [("cell", 2)]) (by exact blkOk_of (by kernel_rfl)) (fun _ _ _ _ _ => ?_) (fun _ _ _ _ _ => ?_)
    · refine pii_seq ?_
      refine pei_cut2 ?_ ?_
      · exact pei_var 0
      · exact pei_int
    · exact pg_name ND rfl (by first | exact .inl rfl | exact .inr rfl)
    · refine pei_callB call_abs rfl FX.b_abs PyProof.Rows.boot_abs os_abs ?_
      refine pai_cons ?_ ?_
      · refine pei_callTy call_int1 rfl FX.b_int PyProof.Rows.boot_int os_int ?_
        refine pai_cons ?_ ?_
        · exact pei_var 2
        · exact pai_nil
      · exact pai_nil
  · refine pssi_one ?_
    refine psi_ret ?_
    refine pei_lst ?_ (hl := (by decide : (5 : Nat) ≤ sizeLine))
    refine pai_cons ?_ ?_
    · exact pei_keep (pei_var 1)
    · refine pai_cons ?_ ?_
      · exact pei_int
      · refine pai_cons ?_ ?_
        · exact pei_int
        · refine pai_cons ?_ ?_
          · refine pei_add ?_ ?_
            · exact pei_int
            · refine pei_mul ?_ ?_
              · exact pei_int
              · refine pei_callB call_len rfl FX.b_len boot_len os_len ?_
                refine pai_cons ?_ ?_
                · exact pei_var 1
                · exact pai_nil
          · refine pai_cons ?_ ?_
            · exact pei_int
            · exact pai_nil
def N__law_draw : List Str := (["pot", "many", "number", "cell", "figure"] : List Str)
abbrev st__law_draw : Stmt := top 32
theorem sc__law_draw : FnScope N__law_draw ["pot", "many"] (defScope st__law_draw) := ⟨rfl, rfl, rfl, by decide +kernel, rfl, by decide +kernel, by decide +kernel⟩
theorem wk__law_draw (FX : Fx K mg) (DX : Dx P w K mg base (2 * k) Φ) {f : Addr} (cdv : Value) (A : Around) (outer : List Env) (s : Shared) (H : Hp) (E : XK) (hr1 : Room (2 * k + 1) (A.deeper (envOfC "_law_draw" (defScope st__law_draw) s.heap.objs.size f cdv))) (hG : (A.deeper (envOfC "_law_draw" (defScope st__law_draw) s.heap.objs.size f cdv)).guards = some []) :
    PSSI (cxOf (L2.CX P w) P w K mg base N__law_draw "_law_draw" (defScope st__law_draw) f cdv A outer s H E) (fun cls d _ H => E cls d H) (defBody st__law_draw) (B__law_draw Φ) := by
  have hr0 : Room (2 * k) (A.deeper (envOfC "_law_draw" (defScope st__law_draw) s.heap.objs.size f cdv)) := hr1.mono (Nat.le_succ _)
  have ND : N__law_draw.Nodup := sc__law_draw.nd
  refine pssi_cons ?_ ?_
  · refine psi_if ?_ ?_ ?_
    · refine pwi_pti ?_
      refine pwi_and ?_ ?_
      · refine (pci_eq (by exact rmF hr0) ?_ ?_).t _
        · refine pei_ix ?_ ?_
          · exact pei_var 0
          · exact pei_int
        · exact pei_int
      · refine pwi_and1 ?_
        refine (pci_lt ?_ ?_).t _
        · refine pei_ix ?_ ?_
          · exact pei_var 0
          · exact pei_int
        · refine pei_callB call_len rfl FX.b_len boot_len os_len ?_
          refine pai_cons ?_ ?_
          · refine pei_ix ?_ ?_
            · exact pei_var 0
            · exact pei_int
          · exact pai_nil
    · refine pssi_cons ?_ ?_
      · refine psi_set (i := 3) ND rfl (by first | exact .inl rfl | exact .inr rfl) ?_
        refine pei_ix ?_ ?_
        · refine pei_ix ?_ ?_
          · exact pei_var 0
          · exact pei_int
        · refine pei_ix ?_ ?_
          · exact pei_var 0
          · exact pei_int
      · refine pssi_cons ?_ ?_
        · refine psi_sub ?_ ?_ ?_
          · refine pei_add ?_ ?_
            · refine pei_ix ?_ ?_
              · exact pei_var 0
              · exact pei_int
            · exact pei_int
          · exact pei_var 0
          · exact pei_int
        · refine pssi_cons ?_ ?_
          · refine psi_sub ?_ ?_ ?_
            · refine pei_mod ?_ ?_
              · refine pei_callTy call_int1 rfl FX.b_int PyProof.Rows.boot_int os_int ?_
                refine pai_cons ?_ ?_
                · refine pei_add ?_ ?_
                  · refine pei_add ?_ ?_
                    · refine pei_mul ?_ ?_
                      · refine pei_ix ?_ ?_
                        · exact pei_var 0
                        · exact pei_int
                      · exact pei_int
                    · exact pei_var 3
                  · exact pei_int
                · exact pai_nil
              · exact pei_int
            · exact pei_var 0
            · exact pei_int
          · refine pssi_one ?_
            refine psi_if ?_ ?_ ?_
            · refine (pci_ge ?_ ?_).t _
              · exact pei_var 3
              · refine pei_pow ?_ ?_
                · exact pei_int
                · exact pei_int
            · refine pssi_one ?_
              refine psi_sub ?_ ?_ ?_
              · exact pei_keep (pei_var 3)
              · exact pei_var 0
              · exact pei_int
            · exact pssi_nil
    · exact pssi_nil
  · refine pssi_cons ?_ ?_
    · refine psi_if ?_ ?_ ?_
      · refine (pci_gt ?_ ?_).t _
        · refine pei_ix ?_ ?_
          · exact pei_var 0
          · exact pei_int
        · exact pei_int
      · refine pssi_cons ?_ ?_
        · refine psi_set (i := 4) ND rfl (by first | exact .inl rfl | exact .inr rfl) ?_
          refine pei_mod ?_ ?_
          · refine pei_callTy call_int1 rfl FX.b_int PyProof.Rows.boot_int os_int ?_
            refine pai_cons ?_ ?_
            · refine pei_ix ?_ ?_
              · exact pei_var 0
              · exact pei_int
            · exact pai_nil
          · exact pei_var 1
        · refine pssi_cons ?_ ?_
          · refine psi_sub ?_ ?_ ?_
            · refine pei_div ?_ ?_
              · refine pei_ix ?_ ?_
                · exact pei_var 0
                · exact pei_int
              · exact pei_var 1
            · exact pei_var 0
            · exact pei_int
          · refine pssi_one ?_
            refine psi_ret ?_
            exact pei_var 4
      · exact pssi_nil
    · refine pssi_cons ?_ ?_
      · refine psi_sub ?_ ?_ ?_
        · refine pei_add ?_ ?_
          · refine pei_ix ?_ ?_
            · exact pei_var 0
            · exact pei_int
          · exact pei_int
        · exact pei_var 0
        · exact pei_int
      · refine pssi_cons ?_ ?_
        · refine psi_set (i := 2) ND rfl (by first | exact .inl rfl | exact .inr rfl) ?_
          refine pei_mod ?_ ?_
          · refine pei_callTy call_int1 rfl FX.b_int PyProof.Rows.boot_int os_int ?_
            refine pai_cons ?_ ?_
            · refine pei_mul ?_ ?_
              · refine pei_add ?_ ?_
                · refine pei_ix ?_ ?_
                  · exact pei_var 0
                  · exact pei_int
                · refine pei_mul ?_ ?_
                  · exact pei_int
                  · refine pei_ix ?_ ?_
                    · exact pei_var 0
                    · exact pei_int
              · exact pei_int
            · exact pai_nil
          · exact pei_int
        · refine pssi_cons ?_ ?_
          · refine psi_set (i := 2) ND rfl (by first | exact .inl rfl | exact .inr rfl) ?_
            refine pei_mod ?_ ?_
            · refine pei_callTy call_int1 rfl FX.b_int PyProof.Rows.boot_int os_int ?_
              refine pai_cons ?_ ?_
              · refine pei_mul ?_ ?_
                · exact pei_var 2
                · refine pei_add ?_ ?_
                  · refine pei_div ?_ ?_
                    · exact pei_var 2
                    · exact pei_int
                  · exact pei_int
              · exact pai_nil
            · exact pei_int
          · refine pssi_cons ?_ ?_
            · refine psi_set (i := 2) ND rfl (by first | exact .inl rfl | exact .inr rfl) ?_
              refine pei_mod ?_ ?_
              · refine pei_callTy call_int1 rfl FX.b_int PyProof.Rows.boot_int os_int ?_
                refine pai_cons ?_ ?_
                · refine pei_mul ?_ ?_
                  · exact pei_var 2
                  · refine pei_add ?_ ?_
                    · refine pei_div ?_ ?_
                      · exact pei_var 2
                      · exact pei_int
                    · exact pei_int
                · exact pai_nil
              · exact pei_int
            · refine pssi_one ?_
              refine psi_ret ?_
              refine pei_mod ?_ ?_
              · refine pei_callTy call_int1 rfl FX.b_int PyProof.Rows.boot_int os_int ?_
                refine pai_cons ?_ ?_
                · refine pei_div ?_ ?_
                  · exact pei_var 2
                  · exact pei_int
                · exact pai_nil
              · exact pei_var 1
def N__law_any : List Str := (["pot", "things"] : List Str)
abbrev st__law_any : Stmt := top 33
theorem sc__law_any : FnScope N__law_any ["pot", "things"] (defScope st__law_any) := ⟨rfl, rfl, rfl, by decide +kernel, rfl, by decide +kernel, by decide +kernel⟩
theorem wk__law_any (FX : Fx K mg) (DX : Dx P w K mg base (2 * k) Φ) {f : Addr} (cdv : Value) (A : Around) (outer : List Env) (s : Shared) (H : Hp) (E : XK) (hr1 : Room (2 * k + 1) (A.deeper (envOfC "_law_any" (defScope st__law_any) s.heap.objs.size f cdv))) (hG : (A.deeper (envOfC "_law_any" (defScope st__law_any) s.heap.objs.size f cdv)).guards = some []) :
    PSSI (cxOf (L2.CX P w) P w K mg base N__law_any "_law_any" (defScope st__law_any) f cdv A outer s H E) (fun cls d _ H => E cls d H) (defBody st__law_any) (B__law_any Φ) := by
  have hr0 : Room (2 * k) (A.deeper (envOfC "_law_any" (defScope st__law_any) s.heap.objs.size f cdv)) := hr1.mono (Nat.le_succ _)
  have ND : N__law_any.Nodup := sc__law_any.nd
  refine pssi_one ?_
  refine psi_ret ?_
  refine pei_ix ?_ ?_
  · exact pei_var 1
  · refine pei_call DX.d__law_draw hr0 hG tkF rfl ?_
    refine pai_cons ?_ ?_
    · exact pei_keep (pei_var 0)
    · refine pai_cons ?_ ?_
      · refine pei_callB call_len rfl FX.b_len boot_len os_len ?_
        refine pai_cons ?_ ?_
        · exact pei_var 1
        · exact pai_nil
      · exact pai_nil
def N__law_forests : List Str := (["many", "found", "turn", "later", "comings", "lots", "piece", "more", "lot", "place"] : List Str)
abbrev st__law_forests : Stmt := top 34
theorem sc__law_forests : FnScope N__law_forests ["many"] (defScope st__law_forests) := ⟨rfl, rfl, rfl, by decide +kernel, rfl, by decide +kernel, by decide +kernel⟩
theorem wk__law_forests (FX : Fx K mg) (DX : Dx P w K mg base (2 * k) Φ) {f : Addr} (cdv : Value) (A : Around) (outer : List Env) (s : Shared) (H : Hp) (E : XK) (hr1 : Room (2 * k + 1) (A.deeper (envOfC "_law_forests" (defScope st__law_forests) s.heap.objs.size f cdv))) (hG : (A.deeper (envOfC "_law_forests" (defScope st__law_forests) s.heap.objs.size f cdv)).guards = some []) :
    PSSI (cxOf (L2.CX P w) P w K mg base N__law_forests "_law_forests" (defScope st__law_forests) f cdv A outer s H E) (fun cls d _ H => E cls d H) (defBody st__law_forests) (B__law_forests Φ) := by
  have hr0 : Room (2 * k) (A.deeper (envOfC "_law_forests" (defScope st__law_forests) s.heap.objs.size f cdv)) := hr1.mono (Nat.le_succ _)
  have ND : N__law_forests.Nodup := sc__law_forests.nd
  refine pssi_cons ?_ ?_
  · refine psi_set (i := 1) ND rfl (by first | exact .inl rfl | exact .inr rfl) ?_
    refine pei_lst ?_ (hl := (by decide : (1 : Nat) ≤ sizeLine))
    refine pai_cons ?_ ?_
    · refine pei_tup ?_ (hl := (by decide : (0 : Nat) ≤ sizeLine))
      exact pai_nil
    · exact pai_nil
  · refine pssi_cons ?_ ?_
    · refine psi_for (t := .nm 2) poF rfl ?_ ?_ ?_
      · refine pii_range1 rfl FX.b_range ?_
        refine pai_cons ?_ ?_
        · exact pei_var 0
        · exact pai_nil
      · exact pg_name ND rfl (by first | exact .inl rfl | exact .inr rfl)
      · refine pssi_cons ?_ ?_
        · refine psi_set (i := 3) ND rfl (by first | exact .inl rfl | exact .inr rfl) ?_
          refine pei_lst ?_ (hl := (by decide : (0 : Nat) ≤ sizeLine))
          exact pai_nil
        · refine pssi_cons ?_ ?_
          · refine psi_for (t := .nm 4) poF rfl ?_ ?_ ?_
            · refine pii_seq ?_
              exact pei_var 1
            · exact pg_name ND rfl (by first | exact .inl rfl | exact .inr rfl)
            · refine pssi_cons ?_ ?_
              · refine psi_set (i := 5) ND rfl (by first | exact .inl rfl | exact .inr rfl) ?_
                refine pei_lst ?_ (hl := (by decide : (1 : Nat) ≤ sizeLine))
                refine pai_cons ?_ ?_
                · refine pei_tup ?_ (hl := (by decide : (0 : Nat) ≤ sizeLine))
                  exact pai_nil
                · exact pai_nil
              · refine pssi_cons ?_ ?_
                · refine psi_for (t := .nm 6) poF rfl ?_ ?_ ?_
                  · refine pii_seq ?_
                    refine pei_call DX.d__law_pieces hr0 hG tkF rfl ?_
                    refine pai_cons ?_ ?_
                    · exact pei_keep (pei_var 4)
                    · exact pai_nil
                  · exact pg_name ND rfl (by first | exact .inl rfl | exact .inr rfl)
                  · refine pssi_cons ?_ ?_
                    · refine psi_set (i := 7) ND rfl (by first | exact .inl rfl | exact .inr rfl) ?_
                      refine pei_lst ?_ (hl := (by decide : (0 : Nat) ≤ sizeLine))
                      exact pai_nil
                    · refine pssi_cons ?_ ?_
                      · refine psi_for (t := .nm 8) poF rfl ?_ ?_ ?_
                        · refine pii_seq ?_
                          exact pei_var 5
                        · exact pg_name ND rfl (by first | exact .inl rfl | exact .inr rfl)
                        · refine pssi_one ?_
                          refine psi_expr ?_
                          refine pei_extend ?_ ?_
                          · exact pei_var 7
                          · refine pai_cons ?_ ?_
                            · refine pei_up ?_
                              refine pei_lc (t := .nm 9) rfl ND ?_ (own := [("place", 9)]) (by exact blkOk_of (by kernel_rfl)) (fun _ _ _ _ _ => ?_) (fun _ _ _ _ _ => ?_)
                              · refine pii_seq ?_
                                exact pei_var 6
                              · exact pg_name ND rfl (by first | exact .inl rfl | exact .inr rfl)
                              · refine pei_add ?_ ?_
                                · exact pei_var 8
                                · refine pei_tup ?_ (hl := (by decide : (1 : Nat) ≤ sizeLine))
                                  refine pai_cons ?_ ?_
                                  · exact pei_keep (pei_var 9)
                                  · exact pai_nil
                            · exact pai_nil
                      · refine pssi_one ?_
                        refine psi_set (i := 5) ND rfl (by first | exact .inl rfl | exact .inr rfl) ?_
                        refine pei_add ?_ ?_
                        · exact pei_var 5
                        · exact pei_var 7
                · refine pssi_one ?_
                  refine psi_expr ?_
                  refine pei_extend ?_ ?_
                  · exact pei_var 3
                  · refine pai_cons ?_ ?_
                    · refine pei_up ?_
                      refine pei_lc (t := .nm 8) rfl ND ?_ (own := [("lot", 8)]) (by exact blkOk_of (by kernel_rfl)) (fun _ _ _ _ _ => ?_) (fun _ _ _ _ _ => ?_)
                      · refine pii_seq ?_
                        exact pei_var 5
                      · exact pg_name ND rfl (by first | exact .inl rfl | exact .inr rfl)
                      · refine pei_add ?_ ?_
                        · exact pei_var 4
                        · refine pei_tup ?_ (hl := (by decide : (1 : Nat) ≤ sizeLine))
                          refine pai_cons ?_ ?_
                          · refine pei_callTy call_tuple_of rfl FX.b_tuple PyProof.Rows.boot_tuple os_tuple ?_
                            refine pai_cons ?_ ?_
                            · refine pei_callB (CallR.or cr_sortedI cr_sortT) rfl FX.b_sorted PyProof.Rows.boot_sorted os_sorted ?_
                              refine pai_cons ?_ ?_
                              · exact pei_var 8
                              · exact pai_nil
                            · exact pai_nil
                          · exact pai_nil
                    · exact pai_nil
          · refine pssi_one ?_
            refine psi_set (i := 1) ND rfl (by first | exact .inl rfl | exact .inr rfl) ?_
            exact pei_var 3
    · refine pssi_one ?_
      refine psi_ret ?_
      exact pei_var 1
def N__law_pieces : List Str := (["comings", "pieces", "at", "lot", "mine", "joined", "piece", "place"] : List Str)
abbrev st__law_pieces : Stmt := top 35
theorem sc__law_pieces : FnScope N__law_pieces ["comings"] (defScope st__law_pieces) := ⟨rfl, rfl, rfl, by decide +kernel, rfl, by decide +kernel, by decide +kernel⟩
theorem wk__law_pieces (FX : Fx K mg) (DX : Dx P w K mg base (2 * k) Φ) {f : Addr} (cdv : Value) (A : Around) (outer : List Env) (s : Shared) (H : Hp) (E : XK) (hr1 : Room (2 * k + 1) (A.deeper (envOfC "_law_pieces" (defScope st__law_pieces) s.heap.objs.size f cdv))) (hG : (A.deeper (envOfC "_law_pieces" (defScope st__law_pieces) s.heap.objs.size f cdv)).guards = some []) :
    PSSI (cxOf (L2.CX P w) P w K mg base N__law_pieces "_law_pieces" (defScope st__law_pieces) f cdv A outer s H E) (fun cls d _ H => E cls d H) (defBody st__law_pieces) (B__law_pieces Φ) := by
  have hr0 : Room (2 * k) (A.deeper (envOfC "_law_pieces" (defScope st__law_pieces) s.heap.objs.size f cdv)) := hr1.mono (Nat.le_succ _)
  have ND : N__law_pieces.Nodup := sc__law_pieces.nd
  refine pssi_cons ?_ ?_
  · refine psi_set (i := 1) ND rfl (by first | exact .inl rfl | exact .inr rfl) ?_
    refine pei_lst ?_ (hl := (by decide : (0 : Nat) ≤ sizeLine))
    exact pai_nil
  · refine pssi_cons ?_ ?_
    · refine psi_forE (t := .tp [.nm 2, .nm 3]) poF rfl rfl FX.b_enumerate ?_ ?_ ?_
      · exact pei_var 0
      · refine pg_tup rfl ?_
        refine pgs_cons ?_ ?_
        · exact pg_name ND rfl (by first | exact .inl rfl | exact .inr rfl)
        · refine pgs_cons ?_ ?_
          · exact pg_name ND rfl (by first | exact .inl rfl | exact .inr rfl)
          · exact pgs_nil
      · refine pssi_cons ?_ ?_
        · refine psi_set (i := 4) ND rfl (by first | exact .inl rfl | exact .inr rfl) ?_
          refine pei_up ?_
          refine pei_lci (t := .nm 6) rfl ND ?_ (own := [("piece", 6)]) (by exact blkOk_of (by kernel_rfl)) (fun _ _ _ _ _ => ?_) (fun _ _ _ _ _ => ?_) (fun _ _ _ _ _ => ?_)
          · refine pii_seq ?_
            exact pei_var 1
          · exact pg_name ND rfl (by first | exact .inl rfl | exact .inr rfl)
          · refine pti_val ?_ ?_
            · refine pei_callB (cr_any rfl) rfl FX.b_any PyProof.Rows.boot_any os_any ?_
              refine pai_cons ?_ ?_
              · refine pei_up ?_
                refine pei_lc (t := .nm 7) rfl ND ?_ (own := [("place", 7)]) (by exact blkOk_of (by kernel_rfl)) (fun _ _ _ _ _ => ?_) (fun _ _ _ _ _ => ?_)
                · refine pii_seq ?_
                  exact pei_var 6
                · exact pg_name ND rfl (by first | exact .inl rfl | exact .inr rfl)
                · refine (pci_in (by exact rmF hr0) ?_ ?_).v _
                  · exact pei_var 7
                  · exact pei_var 3
              · exact pai_nil
            · (intro _; rfl)
          · exact pei_var 6
        · refine pssi_cons ?_ ?_
          · refine psi_setLci (i := 1) (t := .nm 6) rfl ND rfl rfl rfl ?_ (own := [("piece", 6)]) (by exact blkOk_of (by kernel_rfl)) (fun _ _ _ _ _ => ?_) (fun _ _ _ _ _ => ?_) (fun _ _ _ _ _ => ?_)
            · refine pii_seq ?_
              exact pei_var 1
            · exact pg_name ND rfl (by first | exact .inl rfl | exact .inr rfl)
            · refine (pci_notIn (by exact rmF hr0) ?_ ?_).t _
              · exact pei_var 6
              · exact pei_var 4
            · exact pei_var 6
          · refine pssi_cons ?_ ?_
            · refine psi_set (i := 5) ND rfl (by first | exact .inl rfl | exact .inr rfl) ?_
              refine pei_lst ?_ (hl := (by decide : (1 : Nat) ≤ sizeLine))
              refine pai_cons ?_ ?_
              · exact pei_keep (pei_var 2)
              · exact pai_nil
            · refine pssi_cons ?_ ?_
              · refine psi_for (t := .nm 6) poF rfl ?_ ?_ ?_
                · refine pii_seq ?_
                  exact pei_var 4
                · exact pg_name ND rfl (by first | exact .inl rfl | exact .inr rfl)
                · refine pssi_one ?_
                  refine psi_expr ?_
                  refine pei_extend ?_ ?_
                  · exact pei_var 5
                  · refine pai_cons ?_ ?_
                    · exact pei_keep (pei_var 6)
                    · exact pai_nil
              · refine pssi_one ?_
                refine psi_expr ?_
                refine pei_append ?_ ?_
                · exact pei_var 1
                · refine pai_cons ?_ ?_
                  · refine pei_callB (CallR.or cr_sortedI cr_sortT) rfl FX.b_sorted PyProof.Rows.boot_sorted os_sorted ?_
                    refine pai_cons ?_ ?_
                    · exact pei_var 5
                    · exact pai_nil
                  · exact pai_nil
    · refine pssi_one ?_
      refine psi_ret ?_
      exact pei_var 1
def N__law_fitted : List Str := (["comings", "colours", "lot", "taken", "colour", "place"] : List Str)
abbrev st__law_fitted : Stmt := top 36
theorem sc__law_fitted : FnScope N__law_fitted ["comings"] (defScope st__law_fitted) := ⟨rfl, rfl, rfl, by decide +kernel, rfl, by decide +kernel, by decide +kernel⟩
theorem wk__law_fitted (FX : Fx K mg) (DX : Dx P w K mg base (2 * k) Φ) {f : Addr} (cdv : Value) (A : Around) (outer : List Env) (s : Shared) (H : Hp) (E : XK) (hr1 : Room (2 * k + 1) (A.deeper (envOfC "_law_fitted" (defScope st__law_fitted) s.heap.objs.size f cdv))) (hG : (A.deeper (envOfC "_law_fitted" (defScope st__law_fitted) s.heap.objs.size f cdv)).guards = some []) :
    PSSI (cxOf (L2.CX P w) P w K mg base N__law_fitted "_law_fitted" (defScope st__law_fitted) f cdv A outer s H E) (fun cls d _ H => E cls d H) (defBody st__law_fitted) (B__law_fitted Φ) := by
  have hr0 : Room (2 * k) (A.deeper (envOfC "_law_fitted" (defScope st__law_fitted) s.heap.objs.size f cdv)) := hr1.mono (Nat.le_succ _)
  have ND : N__law_fitted.Nodup := sc__law_fitted.nd
  refine pssi_cons ?_ ?_
  · refine psi_set (i := 1) ND rfl (by first | exact .inl rfl | exact .inr rfl) ?_
    refine pei_lst ?_ (hl := (by decide : (0 : Nat) ≤ sizeLine))
    exact pai_nil
  · refine pssi_cons ?_ ?_
    · refine psi_for (t := .nm 2) poF rfl ?_ ?_ ?_
      · refine pii_seq ?_
        exact pei_var 0
      · exact pg_name ND rfl (by first | exact .inl rfl | exact .inr rfl)
      · refine pssi_cons ?_ ?_
        · refine psi_par (i := 3) (j := 4) rfl ND rfl rfl  rfl rfl  ?_ rfl
          refine pai_cons ?_ ?_
          · refine pei_up ?_
            refine pei_lc (t := .nm 5) rfl ND ?_ (own := [("place", 5)]) (by exact blkOk_of (by kernel_rfl)) (fun _ _ _ _ _ => ?_) (fun _ _ _ _ _ => ?_)
            · refine pii_seq ?_
              exact pei_var 2
            · exact pg_name ND rfl (by first | exact .inl rfl | exact .inr rfl)
            · refine pei_ix ?_ ?_
              · exact pei_var 1
              · exact pei_var 5
          · refine pai_cons ?_ ?_
            · exact pei_int
            · exact pai_nil
        · refine pssi_cons ?_ ?_
          · refine psi_while 1000000 poF ?_ ?_
            · refine (pci_in (by exact rmF hr0) ?_ ?_).t _
              · exact pei_var 4
              · exact pei_var 3
            · refine pssi_one ?_
              refine psi_set (i := 4) ND rfl (by first | exact .inl rfl | exact .inr rfl) ?_
              refine pei_add ?_ ?_
              · exact pei_var 4
              · exact pei_int
          · refine pssi_one ?_
            refine psi_expr ?_
            refine pei_append ?_ ?_
            · exact pei_var 1
            · refine pai_cons ?_ ?_
              · exact pei_keep (pei_var 4)
              · exact pai_nil
    · refine pssi_one ?_
      refine psi_ret ?_
      refine pei_callTy call_tuple_of rfl FX.b_tuple PyProof.Rows.boot_tuple os_tuple ?_
      refine pai_cons ?_ ?_
      · exact pei_var 1
      · exact pai_nil
def N__law_figures : List Str := (["places", "found"] : List Str)
abbrev st__law_figures : Stmt := top 37
theorem sc__law_figures : FnScope N__law_figures ["places"] (defScope st__law_figures) := ⟨rfl, rfl, rfl, by decide +kernel, rfl, by decide +kernel, by decide +kernel⟩
theorem wk__law_figures (FX : Fx K mg) (DX : Dx P w K mg base (2 * k) Φ) {f : Addr} (cdv : Value) (A : Around) (outer : List Env) (s : Shared) (H : Hp) (E : XK) (hr1 : Room (2 * k + 1) (A.deeper (envOfC "_law_figures" (defScope st__law_figures) s.heap.objs.size f cdv))) (hG : (A.deeper (envOfC "_law_figures" (defScope st__law_figures) s.heap.objs.size f cdv)).guards = some []) :
    PSSI (cxOf (L2.CX P w) P w K mg base N__law_figures "_law_figures" (defScope st__law_figures) f cdv A outer s H E) (fun cls d _ H => E cls d H) (defBody st__law_figures) (B__law_figures Φ) := by
  have hr0 : Room (2 * k) (A.deeper (envOfC "_law_figures" (defScope st__law_figures) s.heap.objs.size f cdv)) := hr1.mono (Nat.le_succ _)
  have ND : N__law_figures.Nodup := sc__law_figures.nd
  refine pssi_cons ?_ ?_
  · refine psi_set (i := 1) ND rfl (by first | exact .inl rfl | exact .inr rfl) ?_
    exact pei_int
  · refine pssi_cons ?_ ?_
    · refine psi_while 1000000 poF ?_ ?_
      · refine (pci_gt ?_ ?_).t _
        · exact pei_var 0
        · exact pei_int
      · refine pssi_one ?_
        refine psi_par (i := 0) (j := 1) rfl ND rfl rfl  rfl rfl  ?_ rfl
        refine pai_cons ?_ ?_
        · refine pei_div ?_ ?_
          · exact pei_var 0
          · exact pei_int
        · refine pai_cons ?_ ?_
          · refine pei_add ?_ ?_
            · exact pei_var 1
            · exact pei_int
          · exact pai_nil
    · refine pssi_one ?_
      refine psi_ret ?_
      exact pei_var 1
def N__law_lot : List Str := (["comings", "colours", "place", "found", "colour", "one"] : List Str)
abbrev st__law_lot : Stmt := top 38
theorem sc__law_lot : FnScope N__law_lot ["comings", "colours", "place"] (defScope st__law_lot) := ⟨rfl, rfl, rfl, by decide +kernel, rfl, by decide +kernel, by decide +kernel⟩
theorem wk__law_lot (FX : Fx K mg) (DX : Dx P w K mg base (2 * k) Φ) {f : Addr} (cdv : Value) (A : Around) (outer : List Env) (s : Shared) (H : Hp) (E : XK) (hr1 : Room (2 * k + 1) (A.deeper (envOfC "_law_lot" (defScope st__law_lot) s.heap.objs.size f cdv))) (hG : (A.deeper (envOfC "_law_lot" (defScope st__law_lot) s.heap.objs.size f cdv)).guards = some []) :
    PSSI (cxOf (L2.CX P w) P w K mg base N__law_lot "_law_lot" (defScope st__law_lot) f cdv A outer s H E) (fun cls d _ H => E cls d H) (defBody st__law_lot) (B__law_lot Φ) := by
  have hr0 : Room (2 * k) (A.deeper (envOfC "_law_lot" (defScope st__law_lot) s.heap.objs.size f cdv)) := hr1.mono (Nat.le_succ _)
  have ND : N__law_lot.Nodup := sc__law_lot.nd
  refine pssi_cons ?_ ?_
  · refine psi_set (i := 3) ND rfl (by first | exact .inl rfl | exact .inr rfl) ?_
    refine pei_lst ?_ (hl := (by decide : (1 : Nat) ≤ sizeLine))
    refine pai_cons ?_ ?_
    · exact pei_keep (pei_var 2)
    · exact pai_nil
  · refine pssi_cons ?_ ?_
    · refine psi_for (t := .nm 4) poF rfl ?_ ?_ ?_
      · refine pii_range1 rfl FX.b_range ?_
        refine pai_cons ?_ ?_
        · refine pei_ix ?_ ?_
          · exact pei_var 1
          · exact pei_var 2
        · exact pai_nil
      · exact pg_name ND rfl (by first | exact .inl rfl | exact .inr rfl)
      · refine pssi_one ?_
        refine psi_expr ?_
        refine pei_extend ?_ ?_
        · exact pei_var 3
        · refine pai_cons ?_ ?_
          · refine pei_call DX.d__law_lot hr0 hG tkF rfl ?_
            refine pai_cons ?_ ?_
            · exact pei_keep (pei_var 0)
            · refine pai_cons ?_ ?_
              · exact pei_keep (pei_var 1)
              · refine pai_cons ?_ ?_
                · refine pei_ix ?_ ?_
                  · refine pei_up ?_
                    refine pei_lci (t := .nm 5) rfl ND ?_ (own := [("one", 5)]) (by exact blkOk_of (by kernel_rfl)) (fun _ _ _ _ _ => ?_) (fun _ _ _ _ _ => ?_) (fun _ _ _ _ _ => ?_)
                    · refine pii_seq ?_
                      refine pei_ix ?_ ?_
                      · exact pei_var 0
                      · exact pei_var 2
                    · exact pg_name ND rfl (by first | exact .inl rfl | exact .inr rfl)
                    · refine (pci_eq (by exact rmF hr0) ?_ ?_).t _
                      · refine pei_ix ?_ ?_
                        · exact pei_var 1
                        · exact pei_var 5
                      · exact pei_var 4
                    · exact pei_var 5
                  · exact pei_int
                · exact pai_nil
          · exact pai_nil
    · refine pssi_one ?_
      refine psi_ret ?_
      exact pei_var 3
def N__law_grown : List Str := (["colour", "lesser", "found", "ends", "begin", "lot", "place"] : List Str)
abbrev st__law_grown : Stmt := top 39
theorem sc__law_grown : FnScope N__law_grown ["colour"] (defScope st__law_grown) := ⟨rfl, rfl, rfl, by decide +kernel, rfl, by decide +kernel, by decide +kernel⟩
theorem wk__law_grown (FX : Fx K mg) (DX : Dx P w K mg base (2 * k) Φ) {f : Addr} (cdv : Value) (A : Around) (outer : List Env) (s : Shared) (H : Hp) (E : XK) (hr1 : Room (2 * k + 1) (A.deeper (envOfC "_law_grown" (defScope st__law_grown) s.heap.objs.size f cdv))) (hG : (A.deeper (envOfC "_law_grown" (defScope st__law_grown) s.heap.objs.size f cdv)).guards = some []) :
    PSSI (cxOf (L2.CX P w) P w K mg base N__law_grown "_law_grown" (defScope st__law_grown) f cdv A outer s H E) (fun cls d _ H => E cls d H) (defBody st__law_grown) (B__law_grown Φ) := by
  have hr0 : Room (2 * k) (A.deeper (envOfC "_law_grown" (defScope st__law_grown) s.heap.objs.size f cdv)) := hr1.mono (Nat.le_succ _)
  have ND : N__law_grown.Nodup := sc__law_grown.nd
  refine pssi_cons ?_ ?_
  · refine psi_par (i := 2) (j := 3) rfl ND rfl rfl  rfl rfl  ?_ rfl
    refine pai_cons ?_ ?_
    · refine pei_lst ?_ (hl := (by decide : (0 : Nat) ≤ sizeLine))
      exact pai_nil
    · refine pai_cons ?_ ?_
      · refine pei_lst ?_ (hl := (by decide : (0 : Nat) ≤ sizeLine))
        exact pai_nil
      · exact pai_nil
  · refine pssi_cons ?_ ?_
    · refine psi_for (t := .nm 1) poF rfl ?_ ?_ ?_
      · refine pii_range1 rfl FX.b_range ?_
        refine pai_cons ?_ ?_
        · exact pei_var 0
        · exact pai_nil
      · exact pg_name ND rfl (by first | exact .inl rfl | exact .inr rfl)
      · refine pssi_cons ?_ ?_
        · refine psi_set (i := 4) ND rfl (by first | exact .inl rfl | exact .inr rfl) ?_
          refine pei_callB call_len rfl FX.b_len boot_len os_len ?_
          refine pai_cons ?_ ?_
          · exact pei_var 2
          · exact pai_nil
        · refine pssi_cons ?_ ?_
          · refine psi_expr ?_
            refine pei_extend ?_ ?_
            · exact pei_var 2
            · refine pai_cons ?_ ?_
              · refine pei_up ?_
                refine pei_lc (t := .nm 5) rfl ND ?_ (own := [("lot", 5)]) (by exact blkOk_of (by kernel_rfl)) (fun _ _ _ _ _ => ?_) (fun _ _ _ _ _ => ?_)
                · refine pii_seq ?_
                  refine pei_call DX.d__law_grown hr0 hG tkF rfl ?_
                  refine pai_cons ?_ ?_
                  · exact pei_keep (pei_var 1)
                  · exact pai_nil
                · exact pg_name ND rfl (by first | exact .inl rfl | exact .inr rfl)
                · refine pei_callTy call_tuple_of rfl FX.b_tuple PyProof.Rows.boot_tuple os_tuple ?_
                  refine pai_cons ?_ ?_
                  · refine pei_up ?_
                    refine pei_lc (t := .nm 6) rfl ND ?_ (own := [("place", 6)]) (by exact blkOk_of (by kernel_rfl)) (fun _ _ _ _ _ => ?_) (fun _ _ _ _ _ => ?_)
                    · refine pii_seq ?_
                      exact pei_var 5
                    · exact pg_name ND rfl (by first | exact .inl rfl | exact .inr rfl)
                    · refine pei_add ?_ ?_
                      · exact pei_var 4
                      · exact pei_var 6
                  · exact pai_nil
              · exact pai_nil
          · refine pssi_one ?_
            refine psi_expr ?_
            refine pei_append ?_ ?_
            · exact pei_var 3
            · refine pai_cons ?_ ?_
              · refine pei_sub ?_ ?_
                · refine pei_callB call_len rfl FX.b_len boot_len os_len ?_
                  refine pai_cons ?_ ?_
                  · exact pei_var 2
                  · exact pai_nil
                · exact pei_int
              · exact pai_nil
    · refine pssi_one ?_
      refine psi_ret ?_
      refine pei_add ?_ ?_
      · exact pei_var 2
      · refine pei_lst ?_ (hl := (by decide : (1 : Nat) ≤ sizeLine))
        refine pai_cons ?_ ?_
        · refine pei_callTy call_tuple_of rfl FX.b_tuple PyProof.Rows.boot_tuple os_tuple ?_
          refine pai_cons ?_ ?_
          · exact pei_var 3
          · exact pai_nil
        · exact pai_nil
def N__law_great : List Str := (["pot", "found", "way", "size", "lot", "place"] : List Str)
abbrev st__law_great : Stmt := top 40
theorem sc__law_great : FnScope N__law_great ["pot"] (defScope st__law_great) := ⟨rfl, rfl, rfl, by decide +kernel, rfl, by decide +kernel, by decide +kernel⟩
theorem wk__law_great (FX : Fx K mg) (DX : Dx P w K mg base (2 * k) Φ) {f : Addr} (cdv : Value) (A : Around) (outer : List Env) (s : Shared) (H : Hp) (E : XK) (hr1 : Room (2 * k + 1) (A.deeper (envOfC "_law_great" (defScope st__law_great) s.heap.objs.size f cdv))) (hG : (A.deeper (envOfC "_law_great" (defScope st__law_great) s.heap.objs.size f cdv)).guards = some []) :
    PSSI (cxOf (L2.CX P w) P w K mg base N__law_great "_law_great" (defScope st__law_great) f cdv A outer s H E) (fun cls d _ H => E cls d H) (defBody st__law_great) (B__law_great Φ) := by
  have hr0 : Room (2 * k) (A.deeper (envOfC "_law_great" (defScope st__law_great) s.heap.objs.size f cdv)) := hr1.mono (Nat.le_succ _)
  have ND : N__law_great.Nodup := sc__law_great.nd
  refine pssi_cons ?_ ?_
  · refine psi_set (i := 1) ND rfl (by first | exact .inl rfl | exact .inr rfl) ?_
    refine pei_call DX.d__law_grown hr0 hG tkF rfl ?_
    refine pai_cons ?_ ?_
    · refine pei_call DX.d__law_draw hr0 hG tkF rfl ?_
      refine pai_cons ?_ ?_
      · exact pei_keep (pei_var 0)
      · refine pai_cons ?_ ?_
        · exact pei_int
        · exact pai_nil
    · exact pai_nil
  · refine pssi_cons ?_ ?_
    · refine psi_asg (t := .tp [.nm 2, .nm 3]) ?_ ?_
      · refine pei_tup ?_ (hl := (by decide : (2 : Nat) ≤ sizeLine))
        refine pai_cons ?_ ?_
        · refine pei_call DX.d__law_draw hr0 hG tkF rfl ?_
          refine pai_cons ?_ ?_
          · exact pei_keep (pei_var 0)
          · refine pai_cons ?_ ?_
            · exact pei_int
            · exact pai_nil
        · refine pai_cons ?_ ?_
          · refine pei_callB call_len rfl FX.b_len boot_len os_len ?_
            refine pai_cons ?_ ?_
            · exact pei_var 1
            · exact pai_nil
          · exact pai_nil
      · refine pg_tup rfl ?_
        refine pgs_cons ?_ ?_
        · exact pg_name ND rfl (by first | exact .inl rfl | exact .inr rfl)
        · refine pgs_cons ?_ ?_
          · exact pg_name ND rfl (by first | exact .inl rfl | exact .inr rfl)
          · exact pgs_nil
    · refine pssi_cons ?_ ?_
      · refine psi_if ?_ ?_ ?_
        · refine (pci_eq (by exact rmF hr0) ?_ ?_).t _
          · exact pei_var 2
          · exact pei_int
        · refine pssi_one ?_
          refine psi_set (i := 1) ND rfl (by first | exact .inl rfl | exact .inr rfl) ?_
          refine pei_add ?_ ?_
          · exact pei_var 1
          · refine pei_lst ?_ (hl := (by decide : (3 : Nat) ≤ sizeLine))
            refine pai_cons ?_ ?_
            · refine pei_tup ?_ (hl := (by decide : (1 : Nat) ≤ sizeLine))
              refine pai_cons ?_ ?_
              · refine pei_sub ?_ ?_
                · exact pei_var 3
                · exact pei_int
              · exact pai_nil
            · refine pai_cons ?_ ?_
              · refine pei_tup ?_ (hl := (by decide : (1 : Nat) ≤ sizeLine))
                refine pai_cons ?_ ?_
                · exact pei_keep (pei_var 3)
                · exact pai_nil
              · refine pai_cons ?_ ?_
                · refine pei_tup ?_ (hl := (by decide : (0 : Nat) ≤ sizeLine))
                  exact pai_nil
                · exact pai_nil
        · exact pssi_nil
      · refine pssi_cons ?_ ?_
        · refine psi_if ?_ ?_ ?_
          · refine pwi_pti ?_
            refine pwi_and ?_ ?_
            · refine (pci_eq (by exact rmF hr0) ?_ ?_).t _
              · exact pei_var 2
              · exact pei_int
            · refine pwi_and1 ?_
              refine (pci_lt ?_ ?_).t _
              · exact pei_var 3
              · exact pei_int
          · refine pssi_cons ?_ ?_
            · refine psi_set (i := 1) ND rfl (by first | exact .inl rfl | exact .inr rfl) ?_
              refine pei_add ?_ ?_
              · exact pei_var 1
              · refine pei_up ?_
                refine pei_lc (t := .nm 4) rfl ND ?_ (own := [("lot", 4)]) (by exact blkOk_of (by kernel_rfl)) (fun _ _ _ _ _ => ?_) (fun _ _ _ _ _ => ?_)
                · refine pii_seq ?_
                  exact pei_var 1
                · exact pg_name ND rfl (by first | exact .inl rfl | exact .inr rfl)
                · refine pei_callTy call_tuple_of rfl FX.b_tuple PyProof.Rows.boot_tuple os_tuple ?_
                  refine pai_cons ?_ ?_
                  · refine pei_up ?_
                    refine pei_lc (t := .nm 5) rfl ND ?_ (own := [("place", 5)]) (by exact blkOk_of (by kernel_rfl)) (fun _ _ _ _ _ => ?_) (fun _ _ _ _ _ => ?_)
                    · refine pii_seq ?_
                      exact pei_var 4
                    · exact pg_name ND rfl (by first | exact .inl rfl | exact .inr rfl)
                    · refine pei_add ?_ ?_
                      · exact pei_var 3
                      · exact pei_var 5
                  · exact pai_nil
            · refine pssi_one ?_
              refine psi_expr ?_
              refine pei_append ?_ ?_
              · exact pei_var 1
              · refine pai_cons ?_ ?_
                · refine pei_tup ?_ (hl := (by decide : (2 : Nat) ≤ sizeLine))
                  refine pai_cons ?_ ?_
                  · refine pei_sub ?_ ?_
                    · exact pei_var 3
                    · exact pei_int
                  · refine pai_cons ?_ ?_
                    · refine pei_sub ?_ ?_
                      · refine pei_mul ?_ ?_
                        · exact pei_int
                        · exact pei_var 3
                      · exact pei_int
                    · exact pai_nil
                · exact pai_nil
          · exact pssi_nil
        · refine pssi_cons ?_ ?_
          · refine psi_if ?_ ?_ ?_
            · refine (pci_eq (by exact rmF hr0) ?_ ?_).t _
              · exact pei_var 2
              · exact pei_int
            · refine pssi_one ?_
              refine psi_set (i := 1) ND rfl (by first | exact .inl rfl | exact .inr rfl) ?_
              refine pei_add ?_ ?_
              · refine pei_add ?_ ?_
                · refine pei_lst ?_ (hl := (by decide : (1 : Nat) ≤ sizeLine))
                  refine pai_cons ?_ ?_
                  · refine pei_tup ?_ (hl := (by decide : (0 : Nat) ≤ sizeLine))
                    exact pai_nil
                  · exact pai_nil
                · refine pei_up ?_
                  refine pei_lc (t := .nm 4) rfl ND ?_ (own := [("lot", 4)]) (by exact blkOk_of (by kernel_rfl)) (fun _ _ _ _ _ => ?_) (fun _ _ _ _ _ => ?_)
                  · refine pii_seq ?_
                    exact pei_var 1
                  · exact pg_name ND rfl (by first | exact .inl rfl | exact .inr rfl)
                  · refine pei_callTy call_tuple_of rfl FX.b_tuple PyProof.Rows.boot_tuple os_tuple ?_
                    refine pai_cons ?_ ?_
                    · refine pei_up ?_
                      refine pei_lc (t := .nm 5) rfl ND ?_ (own := [("place", 5)]) (by exact blkOk_of (by kernel_rfl)) (fun _ _ _ _ _ => ?_) (fun _ _ _ _ _ => ?_)
                      · refine pii_seq ?_
                        exact pei_var 4
                      · exact pg_name ND rfl (by first | exact .inl rfl | exact .inr rfl)
                      · refine pei_add ?_ ?_
                        · exact pei_var 5
                        · exact pei_int
                    · exact pai_nil
              · refine pei_lst ?_ (hl := (by decide : (1 : Nat) ≤ sizeLine))
                refine pai_cons ?_ ?_
                · refine pei_tup ?_ (hl := (by decide : (1 : Nat) ≤ sizeLine))
                  refine pai_cons ?_ ?_
                  · exact pei_int
                  · exact pai_nil
                · exact pai_nil
            · exact pssi_nil
          · refine pssi_one ?_
            refine psi_ret ?_
            refine pei_callTy call_tuple_of rfl FX.b_tuple PyProof.Rows.boot_tuple os_tuple ?_
            refine pai_cons ?_ ?_
            · exact pei_var 1
            · exact pai_nil
def N__law_drawn : List Str := (["pot", "at", "many", "way", "found", "lot", "pieces", "some", "piece"] : List Str)
abbrev st__law_drawn : Stmt := top 41
theorem sc__law_drawn : FnScope N__law_drawn ["pot"] (defScope st__law_drawn) := ⟨rfl, rfl, rfl, by decide +kernel, rfl, by decide +kernel, by decide +kernel⟩
theorem wk__law_drawn (FX : Fx K mg) (DX : Dx P w K mg base (2 * k) Φ) {f : Addr} (cdv : Value) (A : Around) (outer : List Env) (s : Shared) (H : Hp) (E : XK) (hr1 : Room (2 * k + 1) (A.deeper (envOfC "_law_drawn" (defScope st__law_drawn) s.heap.objs.size f cdv))) (hG : (A.deeper (envOfC "_law_drawn" (defScope st__law_drawn) s.heap.objs.size f cdv)).guards = some []) :
    PSSI (cxOf (L2.CX P w) P w K mg base N__law_drawn "_law_drawn" (defScope st__law_drawn) f cdv A outer s H E) (fun cls d _ H => E cls d H) (defBody st__law_drawn) (B__law_drawn Φ) := by
  have hr0 : Room (2 * k) (A.deeper (envOfC "_law_drawn" (defScope st__law_drawn) s.heap.objs.size f cdv)) := hr1.mono (Nat.le_succ _)
  have ND : N__law_drawn.Nodup := sc__law_drawn.nd
  refine pssi_cons ?_ ?_
  · refine psi_par3 (i := 2) (j := 3) (l := 4) rfl ND rfl rfl rfl  rfl rfl rfl  ?_ rfl
    refine pai_cons ?_ ?_
    · refine pei_call DX.d__law_any hr0 hG tkF rfl ?_
      refine pai_cons ?_ ?_
      · exact pei_keep (pei_var 0)
      · refine pai_cons ?_ ?_
        · refine pei_lst ?_ (hl := (by decide : (10 : Nat) ≤ sizeLine))
          refine pai_cons ?_ ?_
          · exact pei_int
          · refine pai_cons ?_ ?_
            · exact pei_int
            · refine pai_cons ?_ ?_
              · exact pei_int
              · refine pai_cons ?_ ?_
                · exact pei_int
                · refine pai_cons ?_ ?_
                  · exact pei_int
                  · refine pai_cons ?_ ?_
                    · exact pei_int
                    · refine pai_cons ?_ ?_
                      · exact pei_int
                      · refine pai_cons ?_ ?_
                        · exact pei_int
                        · refine pai_cons ?_ ?_
                          · exact pei_int
                          · refine pai_cons ?_ ?_
                            · exact pei_int
                            · exact pai_nil
        · exact pai_nil
    · refine pai_cons ?_ ?_
      · refine pei_call DX.d__law_draw hr0 hG tkF rfl ?_
        refine pai_cons ?_ ?_
        · exact pei_keep (pei_var 0)
        · refine pai_cons ?_ ?_
          · exact pei_int
          · exact pai_nil
      · refine pai_cons ?_ ?_
        · refine pei_new ?_
          refine pei_lst ?_ (hl := (by decide : (0 : Nat) ≤ sizeLine))
          exact pai_nil
        · exact pai_nil
  · refine pssi_cons ?_ ?_
    · refine psi_for (t := .nm 1) poF rfl ?_ ?_ ?_
      · refine pii_range1 rfl FX.b_range ?_
        refine pai_cons ?_ ?_
        · exact pei_var 2
        · exact pai_nil
      · exact pg_name ND rfl (by first | exact .inl rfl | exact .inr rfl)
      · refine pssi_cons ?_ ?_
        · refine psi_set (i := 5) ND rfl (by first | exact .inl rfl | exact .inr rfl) ?_
          refine pei_ifExp ?_ ?_ ?_
          · refine (pci_gt ?_ ?_).t _
            · exact pei_var 1
            · exact pei_int
          · refine pei_ix ?_ ?_
            · refine pei_lst ?_ (hl := (by decide : (4 : Nat) ≤ sizeLine))
              refine pai_cons ?_ ?_
              · refine pei_tup ?_ (hl := (by decide : (1 : Nat) ≤ sizeLine))
                refine pai_cons ?_ ?_
                · refine pei_sub ?_ ?_
                  · exact pei_var 1
                  · exact pei_int
                · exact pai_nil
              · refine pai_cons ?_ ?_
                · refine pei_tup ?_ (hl := (by decide : (1 : Nat) ≤ sizeLine))
                  refine pai_cons ?_ ?_
                  · exact pei_int
                  · exact pai_nil
                · refine pai_cons ?_ ?_
                  · refine pei_tup ?_ (hl := (by decide : (1 : Nat) ≤ sizeLine))
                    refine pai_cons ?_ ?_
                    · refine pei_call DX.d__law_draw hr0 hG tkF rfl ?_
                      refine pai_cons ?_ ?_
                      · exact pei_keep (pei_var 0)
                      · refine pai_cons ?_ ?_
                        · refine pei_callB (call_max2 rfl) rfl FX.b_max PyProof.Rows.boot_max os_max2 ?_
                          refine pai_cons ?_ ?_
                          · exact pei_int
                          · refine pai_cons ?_ ?_
                            · exact pei_var 1
                            · exact pai_nil
                        · exact pai_nil
                    · exact pai_nil
                  · refine pai_cons ?_ ?_
                    · refine pei_tup ?_ (hl := (by decide : (0 : Nat) ≤ sizeLine))
                      exact pai_nil
                    · exact pai_nil
            · refine pei_callB (call_min2 rfl) rfl FX.b_min PyProof.Rows.boot_min os_min2 ?_
              refine pai_cons ?_ ?_
              · exact pei_var 3
              · refine pai_cons ?_ ?_
                · exact pei_int
                · exact pai_nil
          · refine pei_tup ?_ (hl := (by decide : (0 : Nat) ≤ sizeLine))
            exact pai_nil
        · refine pssi_cons ?_ ?_
          · refine psi_if ?_ ?_ ?_
            · refine (pci_gt ?_ ?_).t _
              · exact pei_var 3
              · exact pei_int
            · refine pssi_cons ?_ ?_
              · refine psi_set (i := 6) ND rfl (by first | exact .inl rfl | exact .inr rfl) ?_
                refine pei_call DX.d__law_pieces hr0 hG tkF rfl ?_
                refine pai_cons ?_ ?_
                · exact pei_var 4
                · exact pai_nil
              · refine pssi_cons ?_ ?_
                · refine psi_setLci (i := 7) (t := .nm 8) rfl ND rfl rfl rfl ?_ (own := [("piece", 8)]) (by exact blkOk_of (by kernel_rfl)) (fun _ _ _ _ _ => ?_) (fun _ _ _ _ _ => ?_) (fun _ _ _ _ _ => ?_)
                  · refine pii_seq ?_
                    exact pei_var 6
                  · exact pg_name ND rfl (by first | exact .inl rfl | exact .inr rfl)
                  · refine (pci_eq (by exact rmF hr0) ?_ ?_).t _
                    · refine pei_call DX.d__law_draw hr0 hG takes0 rfl ?_
                      refine pai_cons ?_ ?_
                      · exact pei_keep (pei_var 0)
                      · refine pai_cons ?_ ?_
                        · exact pei_int
                        · exact pai_nil
                    · exact pei_int
                  · exact pei_var 8
                · refine pssi_one ?_
                  refine psi_set (i := 5) ND rfl (by first | exact .inl rfl | exact .inr rfl) ?_
                  refine pei_callTy call_tuple_of rfl FX.b_tuple PyProof.Rows.boot_tuple os_tuple ?_
                  refine pai_cons ?_ ?_
                  · refine pei_callB (CallR.or cr_sortedI cr_sortT) rfl FX.b_sorted PyProof.Rows.boot_sorted os_sorted ?_
                    refine pai_cons ?_ ?_
                    · refine pei_up ?_
                      refine pei_lc (t := .nm 8) rfl ND ?_ (own := [("piece", 8)]) (by exact blkOk_of (by kernel_rfl)) (fun _ _ _ _ _ => ?_) (fun _ _ _ _ _ => ?_)
                      · refine pii_seq ?_
                        refine pei_cut2 ?_ ?_
                        · exact pei_var 7
                        · exact pei_int
                      · exact pg_name ND rfl (by first | exact .inl rfl | exact .inr rfl)
                      · refine pei_call DX.d__law_any hr0 hG takes0 rfl ?_
                        refine pai_cons ?_ ?_
                        · exact pei_keep (pei_var 0)
                        · refine pai_cons ?_ ?_
                          · exact pei_keep (pei_var 8)
                          · exact pai_nil
                    · exact pai_nil
                  · exact pai_nil
            · exact pssi_nil
          · refine pssi_one ?_
            refine psi_expr ?_
            refine pei_append ?_ ?_
            · exact pei_var 4
            · refine pai_cons ?_ ?_
              · exact pei_keep (pei_var 5)
              · exact pai_nil
    · refine pssi_one ?_
      refine psi_ret ?_
      refine pei_callTy call_tuple_of rfl FX.b_tuple PyProof.Rows.boot_tuple os_tuple ?_
      refine pai_cons ?_ ?_
      · exact pei_var 4
      · exact pai_nil
def N__law_is_fitted_right : List Str := (["pot", "comings", "most", "colours", "turn", "place", "colour", "due", "size"] : List Str)
abbrev st__law_is_fitted_right : Stmt := top 42
theorem sc__law_is_fitted_right : FnScope N__law_is_fitted_right ["pot", "comings", "most"] (defScope st__law_is_fitted_right) := ⟨rfl, rfl, rfl, by decide +kernel, rfl, by decide +kernel, by decide +kernel⟩
theorem wk__law_is_fitted_right (FX : Fx K mg) (DX : Dx P w K mg base (2 * k) Φ) {f : Addr} (cdv : Value) (A : Around) (outer : List Env) (s : Shared) (H : Hp) (E : XK) (hr1 : Room (2 * k + 1) (A.deeper (envOfC "_law_is_fitted_right" (defScope st__law_is_fitted_right) s.heap.objs.size f cdv))) (hG : (A.deeper (envOfC "_law_is_fitted_right" (defScope st__law_is_fitted_right) s.heap.objs.size f cdv)).guards = some []) :
    PSSI (cxOf (L2.CX P w) P w K mg base N__law_is_fitted_right "_law_is_fitted_right" (defScope st__law_is_fitted_right) f cdv A outer s H E) (fun cls d _ H => E cls d H) (defBody st__law_is_fitted_right) (B__law_is_fitted_right Φ) := by
  have hr0 : Room (2 * k) (A.deeper (envOfC "_law_is_fitted_right" (defScope st__law_is_fitted_right) s.heap.objs.size f cdv)) := hr1.mono (Nat.le_succ _)
  have ND : N__law_is_fitted_right.Nodup := sc__law_is_fitted_right.nd
  refine pssi_cons ?_ ?_
  · refine psi_set (i := 3) ND rfl (by first | exact .inl rfl | exact .inr rfl) ?_
    refine pei_call DX.d__law_fitted hr0 hG tkF rfl ?_
    refine pai_cons ?_ ?_
    · exact pei_keep (pei_var 1)
    · exact pai_nil
  · refine pssi_cons ?_ ?_
    · refine psi_if ?_ ?_ ?_
      · refine pwi_pti ?_
        refine pwi_or ?_ ?_
        · refine (pci_ne (by exact rmF hr0) ?_ ?_).t _
          · refine pei_callB (CallR.or SkE.call_repr_int (cr_reprD (by exact rmF hr0) hG)) rfl FX.b_repr PyProof.Rows.boot_repr os_repr ?_
            refine pai_cons ?_ ?_
            · refine pei_call DX.d_led hr0 hG tkF rfl ?_
              refine pai_cons ?_ ?_
              · exact pei_gfn rfl FX.f_first_painter.choose_spec
              · refine pai_cons ?_ ?_
                · exact pei_keep (pei_var 1)
                · exact pai_nil
            · exact pai_nil
          · refine pei_callB (CallR.or SkE.call_repr_int (cr_reprD (by exact rmF hr0) hG)) rfl FX.b_repr PyProof.Rows.boot_repr os_repr ?_
            refine pai_cons ?_ ?_
            · refine pei_tup ?_ (hl := (by decide : (2 : Nat) ≤ sizeLine))
              refine pai_cons ?_ ?_
              · exact pei_str
              · refine pai_cons ?_ ?_
                · exact pei_keep (pei_var 3)
                · exact pai_nil
            · exact pai_nil
        · refine pwi_or1 ?_
          refine (pci_notB ?_ ?_).t _
          · refine pei_call DX.d_is_forest hr0 hG tkF rfl ?_
            refine pai_cons ?_ ?_
            · exact pei_keep (pei_var 1)
            · exact pai_nil
          · exact pei_bl
      · refine pssi_one ?_
        refine psi_ret ?_
        exact pei_bl
      · exact pssi_nil
    · refine pssi_cons ?_ ?_
      · refine psi_if ?_ ?_ ?_
        · refine (pci_gt ?_ ?_).t _
          · refine pei_add ?_ ?_
            · refine pei_callB (cr_maxI rfl (by exact rmF hr0)) rfl FX.b_max PyProof.Rows.boot_max os_max ?_
              refine pai_cons ?_ ?_
              · exact pei_var 3
              · exact pai_nil
            · exact pei_int
          · refine pei_call DX.d__law_figures hr0 hG tkF rfl ?_
            refine pai_cons ?_ ?_
            · refine pei_callB call_len rfl FX.b_len boot_len os_len ?_
              refine pai_cons ?_ ?_
              · exact pei_var 1
              · exact pai_nil
            · exact pai_nil
        · refine pssi_one ?_
          refine psi_ret ?_
          exact pei_bl
        · exact pssi_nil
      · refine pssi_cons ?_ ?_
        · refine psi_for (t := .nm 4) poF rfl ?_ ?_ ?_
          · refine pii_range1 rfl FX.b_range ?_
            refine pai_cons ?_ ?_
            · refine pei_callB (call_min2 rfl) rfl FX.b_min PyProof.Rows.boot_min os_min2 ?_
              refine pai_cons ?_ ?_
              · exact pei_var 2
              · refine pai_cons ?_ ?_
                · refine pei_callB call_len rfl FX.b_len boot_len os_len ?_
                  refine pai_cons ?_ ?_
                  · exact pei_var 1
                  · exact pai_nil
                · exact pai_nil
            · exact pai_nil
          · exact pg_name ND rfl (by first | exact .inl rfl | exact .inr rfl)
          · refine pssi_cons ?_ ?_
            · refine psi_set (i := 5) ND rfl (by first | exact .inl rfl | exact .inr rfl) ?_
              refine pei_ifExp ?_ ?_ ?_
              · refine (pci_ge ?_ ?_).t _
                · exact pei_var 2
                · refine pei_callB call_len rfl FX.b_len boot_len os_len ?_
                  refine pai_cons ?_ ?_
                  · exact pei_var 1
                  · exact pai_nil
              · exact pei_var 4
              · refine pei_call DX.d__law_draw hr0 hG tkF rfl ?_
                refine pai_cons ?_ ?_
                · exact pei_keep (pei_var 0)
                · refine pai_cons ?_ ?_
                  · refine pei_callB call_len rfl FX.b_len boot_len os_len ?_
                    refine pai_cons ?_ ?_
                    · exact pei_var 1
                    · exact pai_nil
                  · exact pai_nil
            · refine pssi_cons ?_ ?_
              · refine psi_par (i := 7) (j := 8) rfl ND rfl rfl  rfl rfl  ?_ rfl
                refine pai_cons ?_ ?_
                · refine pei_call DX.d__law_lot hr0 hG tkF rfl ?_
                  refine pai_cons ?_ ?_
                  · exact pei_keep (pei_var 1)
                  · refine pai_cons ?_ ?_
                    · exact pei_keep (pei_var 3)
                    · refine pai_cons ?_ ?_
                      · exact pei_keep (pei_var 5)
                      · exact pai_nil
                · refine pai_cons ?_ ?_
                  · exact pei_int
                  · exact pai_nil
              · refine pssi_cons ?_ ?_
                · refine psi_for (t := .nm 6) poF rfl ?_ ?_ ?_
                  · refine pii_range1 rfl FX.b_range ?_
                    refine pai_cons ?_ ?_
                    · refine pei_ix ?_ ?_
                      · exact pei_var 3
                      · exact pei_var 5
                    · exact pai_nil
                  · exact pg_name ND rfl (by first | exact .inl rfl | exact .inr rfl)
                  · refine pssi_one ?_
                    refine psi_set (i := 8) ND rfl (by first | exact .inl rfl | exact .inr rfl) ?_
                    refine pei_mul ?_ ?_
                    · exact pei_int
                    · exact pei_var 8
                · refine pssi_one ?_
                  refine psi_if ?_ ?_ ?_
                  · refine pwi_pti ?_
                    refine pwi_or ?_ ?_
                    · refine (pci_ne (by exact rmF hr0) ?_ ?_).t _
                      · refine pei_lenSet rfl rfl FX.b_len rfl FX.b_set ?_
                        exact pei_var 7
                      · exact pei_var 8
                    · refine pwi_or1 ?_
                      refine (pci_ne (by exact rmF hr0) ?_ ?_).t _
                      · refine pei_callB (CallR.or SkE.call_repr_int (cr_reprD (by exact rmF hr0) hG)) rfl FX.b_repr PyProof.Rows.boot_repr os_repr ?_
                        refine pai_cons ?_ ?_
                        · refine pei_call DX.d_grown_lot hr0 hG tkF rfl ?_
                          refine pai_cons ?_ ?_
                          · exact pei_keep (pei_var 1)
                          · refine pai_cons ?_ ?_
                            · exact pei_keep (pei_var 5)
                            · exact pai_nil
                        · exact pai_nil
                      · refine pei_callB (CallR.or SkE.call_repr_int (cr_reprD (by exact rmF hr0) hG)) rfl FX.b_repr PyProof.Rows.boot_repr os_repr ?_
                        refine pai_cons ?_ ?_
                        · refine pei_callTy call_tuple_of rfl FX.b_tuple PyProof.Rows.boot_tuple os_tuple ?_
                          refine pai_cons ?_ ?_
                          · refine pei_callB (CallR.or cr_sortedI cr_sortT) rfl FX.b_sorted PyProof.Rows.boot_sorted os_sorted ?_
                            refine pai_cons ?_ ?_
                            · exact pei_var 7
                            · exact pai_nil
                          · exact pai_nil
                        · exact pai_nil
                  · refine pssi_one ?_
                    refine psi_ret ?_
                    exact pei_bl
                  · exact pssi_nil
        · refine pssi_one ?_
          refine psi_ret ?_
          exact pei_bl
def N__law_foe_right : List Str := (["many", "turn", "told", "size"] : List Str)
abbrev st__law_foe_right : Stmt := top 43
theorem sc__law_foe_right : FnScope N__law_foe_right ["many"] (defScope st__law_foe_right) := ⟨rfl, rfl, rfl, by decide +kernel, rfl, by decide +kernel, by decide +kernel⟩
theorem wk__law_foe_right (FX : Fx K mg) (DX : Dx P w K mg base (2 * k) Φ) {f : Addr} (cdv : Value) (A : Around) (outer : List Env) (s : Shared) (H : Hp) (E : XK) (hr1 : Room (2 * k + 1) (A.deeper (envOfC "_law_foe_right" (defScope st__law_foe_right) s.heap.objs.size f cdv))) (hG : (A.deeper (envOfC "_law_foe_right" (defScope st__law_foe_right) s.heap.objs.size f cdv)).guards = some []) :
    PSSI (cxOf (L2.CX P w) P w K mg base N__law_foe_right "_law_foe_right" (defScope st__law_foe_right) f cdv A outer s H E) (fun cls d _ H => E cls d H) (defBody st__law_foe_right) (B__law_foe_right Φ) := by
  have hr0 : Room (2 * k) (A.deeper (envOfC "_law_foe_right" (defScope st__law_foe_right) s.heap.objs.size f cdv)) := hr1.mono (Nat.le_succ _)
  have ND : N__law_foe_right.Nodup := sc__law_foe_right.nd
  refine pssi_cons ?_ ?_
  · refine psi_par (i := 2) (j := 3) rfl ND rfl rfl  rfl rfl  ?_ rfl
    refine pai_cons ?_ ?_
    · refine pei_call DX.d_forest_foe hr0 hG tkF rfl ?_
      refine pai_cons ?_ ?_
      · exact pei_gfn rfl FX.f_first_painter.choose_spec
      · refine pai_cons ?_ ?_
        · exact pei_keep (pei_var 0)
        · exact pai_nil
    · refine pai_cons ?_ ?_
      · exact pei_int
      · exact pai_nil
  · refine pssi_cons ?_ ?_
    · refine psi_for (t := .nm 1) poF rfl ?_ ?_ ?_
      · refine pii_range2 rfl FX.b_range ?_
        refine pai_cons ?_ ?_
        · exact pei_int
        · refine pai_cons ?_ ?_
          · exact pei_var 0
          · exact pai_nil
      · exact pg_name ND rfl (by first | exact .inl rfl | exact .inr rfl)
      · refine pssi_one ?_
        refine psi_set (i := 3) ND rfl (by first | exact .inl rfl | exact .inr rfl) ?_
        refine pei_mul ?_ ?_
        · exact pei_int
        · exact pei_var 3
    · refine pssi_cons ?_ ?_
      · refine psi_if ?_ ?_ ?_
        · refine pwi_pti ?_
          refine pwi_or ?_ ?_
          · refine (pci_ne (by exact rmF hr0) ?_ ?_).t _
            · refine pei_ix ?_ ?_
              · exact pei_var 2
              · exact pei_int
            · exact pei_str
          · refine pwi_or ?_ ?_
            · refine (pci_ne (by exact rmF hr0) ?_ ?_).t _
              · refine pei_callB call_len rfl FX.b_len boot_len os_len ?_
                refine pai_cons ?_ ?_
                · refine pei_ix ?_ ?_
                  · exact pei_var 2
                  · exact pei_int
                · exact pai_nil
              · exact pei_var 3
            · refine pwi_or1 ?_
              refine (pci_ne (by exact rmF hr0) ?_ ?_).t _
              · refine pei_lenSet rfl rfl FX.b_len rfl FX.b_set ?_
                refine pei_ix ?_ ?_
                · exact pei_var 2
                · exact pei_int
              · exact pei_var 0
        · refine pssi_one ?_
          refine psi_ret ?_
          exact pei_bl
        · exact pssi_nil
      · refine pssi_one ?_
        refine psi_ret ?_
        refine (pci_eq (by exact rmF hr0) ?_ ?_).v _
        · refine pei_callB (CallR.or SkE.call_repr_int (cr_reprD (by exact rmF hr0) hG)) rfl FX.b_repr PyProof.Rows.boot_repr os_repr ?_
          refine pai_cons ?_ ?_
          · refine pei_ix ?_ ?_
            · exact pei_var 2
            · exact pei_int
          · exact pai_nil
        · refine pei_callB (CallR.or SkE.call_repr_int (cr_reprD (by exact rmF hr0) hG)) rfl FX.b_repr PyProof.Rows.boot_repr os_repr ?_
          refine pai_cons ?_ ?_
          · refine pei_call DX.d__law_fitted hr0 hG tkF rfl ?_
            refine pai_cons ?_ ?_
            · refine pei_ix ?_ ?_
              · exact pei_var 2
              · exact pei_int
            · exact pai_nil
          · exact pai_nil
def N_law : List Str := (["script", "pot", "many", "turn", "places", "comings"] : List Str)
abbrev st_law : Stmt := top 44
theorem sc_law : FnScope N_law ["script"] (defScope st_law) := ⟨rfl, rfl, rfl, by decide +kernel, rfl, by decide +kernel, by decide +kernel⟩
theorem wk_law (FX : Fx K mg) (DX : Dx P w K mg base (2 * k) Φ) {f : Addr} (cdv : Value) (A : Around) (outer : List Env) (s : Shared) (H : Hp) (E : XK) (hr1 : Room (2 * k + 1) (A.deeper (envOfC "law" (defScope st_law) s.heap.objs.size f cdv))) (hG : (A.deeper (envOfC "law" (defScope st_law) s.heap.objs.size f cdv)).guards = some []) :
    PSSI (cxOf (L2.CX P w) P w K mg base N_law "law" (defScope st_law) f cdv A outer s H E) (fun cls d _ H => E cls d H) (defBody st_law) (B_law Φ) := by
  have hr0 : Room (2 * k) (A.deeper (envOfC "law" (defScope st_law) s.heap.objs.size f cdv)) := hr1.mono (Nat.le_succ _)
  have ND : N_law.Nodup := sc_law.nd
  refine pssi_cons ?_ ?_
  · refine psi_set (i := 1) ND rfl (by first | exact .inl rfl | exact .inr rfl) ?_
    refine pei_new ?_
    refine pei_call DX.d__law_pot hr0 hG tkF rfl ?_
    refine pai_cons ?_ ?_
    · exact pei_keep (pei_var 0)
    · exact pai_nil
  · refine pssi_cons ?_ ?_
    · refine psi_for (t := .nm 2) poF rfl ?_ ?_ ?_
      · refine pii_range2 rfl FX.b_range ?_
        refine pai_cons ?_ ?_
        · exact pei_int
        · refine pai_cons ?_ ?_
          · refine pei_ifExp ?_ ?_ ?_
            · refine (pci_gt ?_ ?_).t _
              · refine pei_call DX.d__law_draw hr0 hG tkF rfl ?_
                refine pai_cons ?_ ?_
                · exact pei_var 1
                · refine pai_cons ?_ ?_
                  · exact pei_int
                  · exact pai_nil
              · exact pei_int
            · exact pei_int
            · exact pei_int
          · exact pai_nil
      · exact pg_name ND rfl (by first | exact .inl rfl | exact .inr rfl)
      · refine pssi_one ?_
        refine psi_if ?_ ?_ ?_
        · refine pti_not ?_
          refine pti_val ?_ ?_
          · refine pei_callB (cr_all rfl) rfl FX.b_all PyProof.Rows.boot_all os_all ?_
            refine pai_cons ?_ ?_
            · refine pei_up ?_
              refine pei_lc (t := .nm 5) rfl ND ?_ (own := [("comings", 5)]) (by exact blkOk_of (by kernel_rfl)) (fun _ _ _ _ _ => ?_) (fun _ _ _ _ _ => ?_)
              · refine pii_seq ?_
                refine pei_call DX.d__law_forests hr0 hG tkF rfl ?_
                refine pai_cons ?_ ?_
                · exact pei_keep (pei_var 2)
                · exact pai_nil
              · exact pg_name ND rfl (by first | exact .inl rfl | exact .inr rfl)
              · refine pei_call DX.d__law_is_fitted_right hr0 hG takes0 rfl ?_
                refine pai_cons ?_ ?_
                · exact pei_var 1
                · refine pai_cons ?_ ?_
                  · exact pei_keep (pei_var 5)
                  · refine pai_cons ?_ ?_
                    · exact pei_int
                    · exact pai_nil
            · exact pai_nil
          · (intro _; rfl)
        · refine pssi_one ?_
          refine psi_ret ?_
          exact pei_bl
        · exact pssi_nil
    · refine pssi_cons ?_ ?_
      · refine psi_for (t := .nm 3) poF rfl ?_ ?_ ?_
        · refine pii_range1 rfl FX.b_range ?_
          refine pai_cons ?_ ?_
          · exact pei_int
          · exact pai_nil
        · exact pg_name ND rfl (by first | exact .inl rfl | exact .inr rfl)
        · refine pssi_one ?_
          refine psi_if ?_ ?_ ?_
          · refine pwi_pti ?_
            refine pwi_or ?_ ?_
            · refine pti_not ?_
              refine pti_val ?_ ?_
              · refine pei_call DX.d__law_is_fitted_right hr0 hG tkF rfl ?_
                refine pai_cons ?_ ?_
                · exact pei_var 1
                · refine pai_cons ?_ ?_
                  · refine pei_call DX.d__law_great hr0 hG tkF rfl ?_
                    refine pai_cons ?_ ?_
                    · exact pei_var 1
                    · exact pai_nil
                  · refine pai_cons ?_ ?_
                    · exact pei_int
                    · exact pai_nil
              · (intro _; rfl)
            · refine pwi_or1 ?_
              refine pti_not ?_
              refine pti_val ?_ ?_
              · refine pei_call DX.d__law_is_fitted_right hr0 hG tkF rfl ?_
                refine pai_cons ?_ ?_
                · exact pei_var 1
                · refine pai_cons ?_ ?_
                  · refine pei_call DX.d__law_drawn hr0 hG tkF rfl ?_
                    refine pai_cons ?_ ?_
                    · exact pei_var 1
                    · exact pai_nil
                  · refine pai_cons ?_ ?_
                    · exact pei_int
                    · exact pai_nil
              · (intro _; rfl)
          · refine pssi_one ?_
            refine psi_ret ?_
            exact pei_bl
          · exact pssi_nil
      · refine pssi_cons ?_ ?_
        · refine psi_if ?_ ?_ ?_
          · refine pti_not ?_
            refine pti_val ?_ ?_
            · refine pei_callB (cr_all rfl) rfl FX.b_all PyProof.Rows.boot_all os_all ?_
              refine pai_cons ?_ ?_
              · refine pei_up ?_
                refine pei_lc (t := .nm 4) rfl ND ?_ (own := [("places", 4)]) (by exact blkOk_of (by kernel_rfl)) (fun _ _ _ _ _ => ?_) (fun _ _ _ _ _ => ?_)
                · refine pii_range2 rfl FX.b_range ?_
                  refine pai_cons ?_ ?_
                  · exact pei_int
                  · refine pai_cons ?_ ?_
                    · exact pei_int
                    · exact pai_nil
                · exact pg_name ND rfl (by first | exact .inl rfl | exact .inr rfl)
                · refine (pci_eq (by exact rmF hr0) ?_ ?_).v _
                  · refine pei_callB (CallR.or SkE.call_repr_int (cr_reprD (by exact rmF hr0) hG)) rfl FX.b_repr PyProof.Rows.boot_repr os_repr ?_
                    refine pai_cons ?_ ?_
                    · refine pei_call DX.d_least_colours hr0 hG takes0 rfl ?_
                      refine pai_cons ?_ ?_
                      · exact pei_keep (pei_var 4)
                      · exact pai_nil
                    · exact pai_nil
                  · refine pei_callB (CallR.or SkE.call_repr_int (cr_reprD (by exact rmF hr0) hG)) rfl FX.b_repr PyProof.Rows.boot_repr os_repr ?_
                    refine pai_cons ?_ ?_
                    · refine pei_call DX.d__law_figures hr0 hG takes0 rfl ?_
                      refine pai_cons ?_ ?_
                      · exact pei_keep (pei_var 4)
                      · exact pai_nil
                    · exact pai_nil
              · exact pai_nil
            · (intro _; rfl)
          · refine pssi_one ?_
            refine psi_ret ?_
            exact pei_bl
          · exact pssi_nil
        · refine pssi_one ?_
          refine psi_ret ?_
          refine pei_call DX.d__law_foe_right hr0 hG tkF rfl ?_
          refine pai_cons ?_ ?_
          · refine pei_add ?_ ?_
            · exact pei_int
            · refine pei_call DX.d__law_draw hr0 hG tkF rfl ?_
              refine pai_cons ?_ ?_
              · exact pei_var 1
              · refine pai_cons ?_ ?_
                · exact pei_int
                · exact pai_nil
          · exact pai_nil
end K59
end T_Wk59
section T_Ek59
set_option Elab.async false
set_option linter.all false
set_option maxRecDepth 100000
set_option maxHeartbeats 4000000
namespace K59
open PySem PySem.Spec L2 IL
open PyProof.Rows hiding St
variable {P : Program} {w : World} {K : PySem.W.Frag} {mg : Str → Option Value} {base h : Heap} {k : Nat} {Φ : Nat → FS}
theorem fx (X : K.In h) (G : h.Ns mainGlobals mg) (c : He.SaysD Hd.fa Hd.fn K) : Fx K mg := by
  refine ⟨?_, ?_, ?_, ?_, ?_, ?_, ?_, ?_, ?_, ?_, ?_, ?_, ?_, ?_, ?_, ?_, ?_, ?_, ?_, ?_, ?_, ?_, ?_, ?_, ?_⟩
  · exact He.free_ok X G (c.fact 52 (f := .free "abs") rfl)
  · exact He.free_ok X G (c.fact 53 (f := .free "all") rfl)
  · exact He.free_ok X G (c.fact 54 (f := .free "any") rfl)
  · exact He.free_ok X G (c.fact 55 (f := .free "bool") rfl)
  · exact He.free_ok X G (c.fact 56 (f := .free "enumerate") rfl)
  · exact He.free_ok X G (c.fact 57 (f := .free "int") rfl)
  · exact He.free_ok X G (c.fact 58 (f := .free "isinstance") rfl)
  · exact He.free_ok X G (c.fact 59 (f := .free "len") rfl)
  · exact He.free_ok X G (c.fact 60 (f := .free "max") rfl)
  · exact He.free_ok X G (c.fact 61 (f := .free "min") rfl)
  · exact He.free_ok X G (c.fact 62 (f := .free "range") rfl)
  · exact He.free_ok X G (c.fact 63 (f := .free "repr") rfl)
  · exact He.free_ok X G (c.fact 64 (f := .free "set") rfl)
  · exact He.free_ok X G (c.fact 65 (f := .free "sorted") rfl)
  · exact He.free_ok X G (c.fact 66 (f := .free "tuple") rfl)
  · exact He.free_ok X G (c.fact 67 (f := .free "zip") rfl)
  · exact He.int_ok X G (c.fact 11 (f := .int "MOST_COMINGS" 63) rfl)
  · exact He.int_ok X G (c.fact 13 (f := .int "MOST_FORCED" 6) rfl)
  · exact He.int_ok X G (c.fact 12 (f := .int "MOST_TOLD" 999) rfl)
  · exact ⟨_, He.glo_ok X G (c.fact 21 (f := .glo "first_painter") rfl)⟩
  · exact fun C hC C0 e => by
      rw [List.mem_singleton] at hC
      subst hC
      cases (He.glo_ok X G (c.fact 22 (f := .glo "Foe") rfl)).symm.trans e
      exact ⟨He.cls_ok (c.fact 26 (f := .cls "Foe") rfl), He.noat_ok (c.fact 28 (f := .noat "Foe" "colours") rfl)⟩
  · exact fun C hC C0 e => by
      rw [List.mem_singleton] at hC
      subst hC
      cases (He.glo_ok X G (c.fact 22 (f := .glo "Foe") rfl)).symm.trans e
      exact ⟨He.cls_ok (c.fact 26 (f := .cls "Foe") rfl), He.noat_ok (c.fact 29 (f := .noat "Foe" "comings") rfl)⟩
  · exact fun C hC C0 e => by
      rw [List.mem_singleton] at hC
      subst hC
      cases (He.glo_ok X G (c.fact 22 (f := .glo "Foe") rfl)).symm.trans e
      exact ⟨He.cls_ok (c.fact 26 (f := .cls "Foe") rfl), He.noat_ok (c.fact 30 (f := .noat "Foe" "is_over") rfl)⟩
  · exact fun C hC C0 e => by
      rw [List.mem_singleton] at hC
      subst hC
      cases (He.glo_ok X G (c.fact 22 (f := .glo "Foe") rfl)).symm.trans e
      exact ⟨He.cls_ok (c.fact 26 (f := .cls "Foe") rfl), He.noat_ok (c.fact 31 (f := .noat "Foe" "last") rfl)⟩
  · exact fun C hC C0 e => by
      rw [List.mem_singleton] at hC
      subst hC
      cases (He.glo_ok X G (c.fact 22 (f := .glo "Foe") rfl)).symm.trans e
      exact ⟨He.cls_ok (c.fact 26 (f := .cls "Foe") rfl), He.noat_ok (c.fact 32 (f := .noat "Foe" "painter") rfl)⟩
structure Gx (P : Program) (w : World) (K : PySem.W.Frag) (mg : Str → Option Value) (base : Heap) (k : Nat) (Φ : Nat → FS) : Prop where
  g_0 : FnG P w K mg base k (He.fAd K ("is_integer", none)) 1 (Φ 0)
  g_1 : FnG P w K mg base k (He.fAd K ("is_number", none)) 2 (Φ 1)
  g_2 : FnG P w K mg base k (He.fAd K ("is_within", none)) 3 (Φ 2)
  g_3 : FnG P w K mg base k (He.fAd K ("are_numbers", none)) 2 (Φ 3)
  g_4 : FnG P w K mg base k (He.fAd K ("is_lot", none)) 2 (Φ 4)
  g_5 : FnG P w K mg base k (He.fAd K ("power", none)) 2 (Φ 5)
  g_6 : FnG P w K mg base k (He.fAd K ("is_comings", none)) 1 (Φ 6)
  g_7 : FnG P w K mg base k (He.fAd K ("check_comings", none)) 1 (Φ 7)
  g_8 : FnG P w K mg base k (He.fAd K ("raw_is_forest", none)) 1 (Φ 8)
  g_9 : FnG P w K mg base k (He.fAd K ("is_forest", none)) 1 (Φ 9)
  g_10 : FnG P w K mg base k (He.fAd K ("is_right", none)) 3 (Φ 10)
  g_11 : FnG P w K mg base k (He.fAd K ("raw_led", none)) 2 (Φ 11)
  g_12 : FnG P w K mg base k (He.fAd K ("led", none)) 2 (Φ 12)
  g_13 : FnG P w K mg base k (He.fAd K ("first_painter", none)) 2 (Φ 13)
  g_14 : FnG P w K mg base k (He.fAd K ("Foe", some "__init__")) 2 (Φ 14)
  g_15 : FnG P w K mg base k (He.fAd K ("Foe", some "put")) 2 (Φ 15)
  g_16 : FnG P w K mg base k (He.fAd K ("Foe", some "unlike")) 2 (Φ 16)
  g_17 : FnG P w K mg base k (He.fAd K ("check_forced", none)) 1 (Φ 17)
  g_18 : FnG P w K mg base k (He.fAd K ("forest_foe", none)) 2 (Φ 18)
  g_19 : FnG P w K mg base k (He.fAd K ("least_colours", none)) 1 (Φ 19)
  g_20 : FnG P w K mg base k (He.fAd K ("grown_lot", none)) 2 (Φ 20)
  g_21 : FnG P w K mg base k (He.fAd K ("_law_pot", none)) 1 (Φ 21)
  g_22 : FnG P w K mg base k (He.fAd K ("_law_draw", none)) 2 (Φ 22)
  g_23 : FnG P w K mg base k (He.fAd K ("_law_any", none)) 2 (Φ 23)
  g_24 : FnG P w K mg base k (He.fAd K ("_law_forests", none)) 1 (Φ 24)
  g_25 : FnG P w K mg base k (He.fAd K ("_law_pieces", none)) 1 (Φ 25)
  g_26 : FnG P w K mg base k (He.fAd K ("_law_fitted", none)) 1 (Φ 26)
  g_27 : FnG P w K mg base k (He.fAd K ("_law_figures", none)) 1 (Φ 27)
  g_28 : FnG P w K mg base k (He.fAd K ("_law_lot", none)) 3 (Φ 28)
  g_29 : FnG P w K mg base k (He.fAd K ("_law_grown", none)) 1 (Φ 29)
  g_30 : FnG P w K mg base k (He.fAd K ("_law_great", none)) 1 (Φ 30)
  g_31 : FnG P w K mg base k (He.fAd K ("_law_drawn", none)) 1 (Φ 31)
  g_32 : FnG P w K mg base k (He.fAd K ("_law_is_fitted_right", none)) 3 (Φ 32)
  g_33 : FnG P w K mg base k (He.fAd K ("_law_foe_right", none)) 1 (Φ 33)
  g_34 : FnG P w K mg base k (He.fAd K ("law", none)) 1 (Φ 34)
theorem dx_of (X : K.In h) (G : h.Ns mainGlobals mg) (c : He.SaysD Hd.fa Hd.fn K) (g : Gx P w K mg base k Φ) : Dx P w K mg base k Φ := by
  have d_is_integer : DefOk P w K mg base k "is_integer" 1 (Φ 0) := by
    obtain ⟨fd, D⟩ := c.def_ 0 rfl
    exact ⟨_, He.glo_ok X G (c.fact 0 (f := .glo "is_integer") rfl), D.kp, g.g_0⟩
  have d_is_number : DefOk P w K mg base k "is_number" 2 (Φ 1) := by
    obtain ⟨fd, D⟩ := c.def_ 1 rfl
    exact ⟨_, He.glo_ok X G (c.fact 1 (f := .glo "is_number") rfl), D.kp, g.g_1⟩
  have d_is_within : DefOk P w K mg base k "is_within" 3 (Φ 2) := by
    obtain ⟨fd, D⟩ := c.def_ 2 rfl
    exact ⟨_, He.glo_ok X G (c.fact 2 (f := .glo "is_within") rfl), D.kp, g.g_2⟩
  have d_are_numbers : DefOk P w K mg base k "are_numbers" 2 (Φ 3) := by
    obtain ⟨fd, D⟩ := c.def_ 3 rfl
    exact ⟨_, He.glo_ok X G (c.fact 3 (f := .glo "are_numbers") rfl), D.kp, g.g_3⟩
  have d_is_lot : DefOk P w K mg base k "is_lot" 2 (Φ 4) := by
    obtain ⟨fd, D⟩ := c.def_ 4 rfl
    exact ⟨_, He.glo_ok X G (c.fact 4 (f := .glo "is_lot") rfl), D.kp, g.g_4⟩
  have d_power : DefOk P w K mg base k "power" 2 (Φ 5) := by
    obtain ⟨fd, D⟩ := c.def_ 5 rfl
    exact ⟨_, He.glo_ok X G (c.fact 5 (f := .glo "power") rfl), D.kp, g.g_5⟩
  have d_is_comings : DefOk P w K mg base k "is_comings" 1 (Φ 6) := by
    obtain ⟨fd, D⟩ := c.def_ 6 rfl
    exact ⟨_, He.glo_ok X G (c.fact 14 (f := .glo "is_comings") rfl), D.kp, g.g_6⟩
  have d_check_comings : DefOk P w K mg base k "check_comings" 1 (Φ 7) := by
    obtain ⟨fd, D⟩ := c.def_ 7 rfl
    exact ⟨_, He.glo_ok X G (c.fact 15 (f := .glo "check_comings") rfl), D.kp, g.g_7⟩
  have d_raw_is_forest : DefOk P w K mg base k "raw_is_forest" 1 (Φ 8) := by
    obtain ⟨fd, D⟩ := c.def_ 8 rfl
    exact ⟨_, He.glo_ok X G (c.fact 16 (f := .glo "raw_is_forest") rfl), D.kp, g.g_8⟩
  have d_is_forest : DefOk P w K mg base k "is_forest" 1 (Φ 9) := by
    obtain ⟨fd, D⟩ := c.def_ 9 rfl
    exact ⟨_, He.glo_ok X G (c.fact 17 (f := .glo "is_forest") rfl), D.kp, g.g_9⟩
  have d_is_right : DefOk P w K mg base k "is_right" 3 (Φ 10) := by
    obtain ⟨fd, D⟩ := c.def_ 10 rfl
    exact ⟨_, He.glo_ok X G (c.fact 18 (f := .glo "is_right") rfl), D.kp, g.g_10⟩
  have d_raw_led : DefOk P w K mg base k "raw_led" 2 (Φ 11) := by
    obtain ⟨fd, D⟩ := c.def_ 11 rfl
    exact ⟨_, He.glo_ok X G (c.fact 19 (f := .glo "raw_led") rfl), D.kp, g.g_11⟩
  have d_led : DefOk P w K mg base k "led" 2 (Φ 12) := by
    obtain ⟨fd, D⟩ := c.def_ 12 rfl
    exact ⟨_, He.glo_ok X G (c.fact 20 (f := .glo "led") rfl), D.kp, g.g_12⟩
  have d_first_painter : DefOk P w K mg base k "first_painter" 2 (Φ 13) := by
    obtain ⟨fd, D⟩ := c.def_ 13 rfl
    exact ⟨_, He.glo_ok X G (c.fact 21 (f := .glo "first_painter") rfl), D.kp, g.g_13⟩
  have c_Foe : MakeOk P w K mg base k "Foe" 2 (Φ 14) := ⟨_, _, He.glo_ok X G (c.fact 22 (f := .glo "Foe") rfl), He.mkr_ok (c.fact 27 (f := .mkr "Foe") rfl), g.g_14⟩
  have m_Foe_put : MethOk P w K mg base k "Foe" "put" 2 (Φ 15) := ⟨_, _, He.glo_ok X G (c.fact 22 (f := .glo "Foe") rfl), He.cls_ok (c.fact 26 (f := .cls "Foe") rfl), He.meth_ok (c.fact 24 (f := .meth "Foe" "put") rfl), g.g_15⟩
  have m_Foe_unlike : MethOk P w K mg base k "Foe" "unlike" 2 (Φ 16) := ⟨_, _, He.glo_ok X G (c.fact 22 (f := .glo "Foe") rfl), He.cls_ok (c.fact 26 (f := .cls "Foe") rfl), He.meth_ok (c.fact 25 (f := .meth "Foe" "unlike") rfl), g.g_16⟩
  have d_check_forced : DefOk P w K mg base k "check_forced" 1 (Φ 17) := by
    obtain ⟨fd, D⟩ := c.def_ 17 rfl
    exact ⟨_, He.glo_ok X G (c.fact 33 (f := .glo "check_forced") rfl), D.kp, g.g_17⟩
  have d_forest_foe : DefOk P w K mg base k "forest_foe" 2 (Φ 18) := by
    obtain ⟨fd, D⟩ := c.def_ 18 rfl
    exact ⟨_, He.glo_ok X G (c.fact 34 (f := .glo "forest_foe") rfl), D.kp, g.g_18⟩
  have d_least_colours : DefOk P w K mg base k "least_colours" 1 (Φ 19) := by
    obtain ⟨fd, D⟩ := c.def_ 19 rfl
    exact ⟨_, He.glo_ok X G (c.fact 35 (f := .glo "least_colours") rfl), D.kp, g.g_19⟩
  have d_grown_lot : DefOk P w K mg base k "grown_lot" 2 (Φ 20) := by
    obtain ⟨fd, D⟩ := c.def_ 20 rfl
    exact ⟨_, He.glo_ok X G (c.fact 36 (f := .glo "grown_lot") rfl), D.kp, g.g_20⟩
  have d__law_pot : DefOk P w K mg base k "_law_pot" 1 (Φ 21) := by
    obtain ⟨fd, D⟩ := c.def_ 21 rfl
    exact ⟨_, He.glo_ok X G (c.fact 37 (f := .glo "_law_pot") rfl), D.kp, g.g_21⟩
  have d__law_draw : DefOk P w K mg base k "_law_draw" 2 (Φ 22) := by
    obtain ⟨fd, D⟩ := c.def_ 22 rfl
    exact ⟨_, He.glo_ok X G (c.fact 38 (f := .glo "_law_draw") rfl), D.kp, g.g_22⟩
  have d__law_any : DefOk P w K mg base k "_law_any" 2 (Φ 23) := by
    obtain ⟨fd, D⟩ := c.def_ 23 rfl
    exact ⟨_, He.glo_ok X G (c.fact 39 (f := .glo "_law_any") rfl), D.kp, g.g_23⟩
  have d__law_forests : DefOk P w K mg base k "_law_forests" 1 (Φ 24) := by
    obtain ⟨fd, D⟩ := c.def_ 24 rfl
    exact ⟨_, He.glo_ok X G (c.fact 40 (f := .glo "_law_forests") rfl), D.kp, g.g_24⟩
  have d__law_pieces : DefOk P w K mg base k "_law_pieces" 1 (Φ 25) := by
    obtain ⟨fd, D⟩ := c.def_ 25 rfl
    exact ⟨_, He.glo_ok X G (c.fact 41 (f := .glo "_law_pieces") rfl), D.kp, g.g_25⟩
  have d__law_fitted : DefOk P w K mg base k "_law_fitted" 1 (Φ 26) := by
    obtain ⟨fd, D⟩ := c.def_ 26 rfl
    exact ⟨_, He.glo_ok X G (c.fact 42 (f := .glo "_law_fitted") rfl), D.kp, g.g_26⟩
  have d__law_figures : DefOk P w K mg base k "_law_figures" 1 (Φ 27) := by
    obtain ⟨fd, D⟩ := c.def_ 27 rfl
    exact ⟨_, He.glo_ok X G (c.fact 43 (f := .glo "_law_figures") rfl), D.kp, g.g_27⟩
  have d__law_lot : DefOk P w K mg base k "_law_lot" 3 (Φ 28) := by
    obtain ⟨fd, D⟩ := c.def_ 28 rfl
    exact ⟨_, He.glo_ok X G (c.fact 44 (f := .glo "_law_lot") rfl), D.kp, g.g_28⟩
  have d__law_grown : DefOk P w K mg base k "_law_grown" 1 (Φ 29) := by
    obtain ⟨fd, D⟩ := c.def_ 29 rfl
    exact ⟨_, He.glo_ok X G (c.fact 45 (f := .glo "_law_grown") rfl), D.kp, g.g_29⟩
  have d__law_great : DefOk P w K mg base k "_law_great" 1 (Φ 30) := by
    obtain ⟨fd, D⟩ := c.def_ 30 rfl
    exact ⟨_, He.glo_ok X G (c.fact 46 (f := .glo "_law_great") rfl), D.kp, g.g_30⟩
  have d__law_drawn : DefOk P w K mg base k "_law_drawn" 1 (Φ 31) := by
    obtain ⟨fd, D⟩ := c.def_ 31 rfl
    exact ⟨_, He.glo_ok X G (c.fact 47 (f := .glo "_law_drawn") rfl), D.kp, g.g_31⟩
  have d__law_is_fitted_right : DefOk P w K mg base k "_law_is_fitted_right" 3 (Φ 32) := by
    obtain ⟨fd, D⟩ := c.def_ 32 rfl
    exact ⟨_, He.glo_ok X G (c.fact 48 (f := .glo "_law_is_fitted_right") rfl), D.kp, g.g_32⟩
  have d__law_foe_right : DefOk P w K mg base k "_law_foe_right" 1 (Φ 33) := by
    obtain ⟨fd, D⟩ := c.def_ 33 rfl
    exact ⟨_, He.glo_ok X G (c.fact 49 (f := .glo "_law_foe_right") rfl), D.kp, g.g_33⟩
  have d_law : DefOk P w K mg base k "law" 1 (Φ 34) := by
    obtain ⟨fd, D⟩ := c.def_ 34 rfl
    exact ⟨_, He.glo_ok X G (c.fact 50 (f := .glo "law") rfl), D.kp, g.g_34⟩
  refine ⟨d_is_integer, d_is_number, d_is_within, d_are_numbers, d_is_lot, d_power, d_is_comings, d_check_comings, d_raw_is_forest, d_is_forest, d_is_right, d_raw_led, d_led, d_first_painter, c_Foe, m_Foe_put, m_Foe_unlike, d_check_forced, d_forest_foe, d_least_colours, d_grown_lot, d__law_pot, d__law_draw, d__law_any, d__law_forests, d__law_pieces, d__law_fitted, d__law_figures, d__law_lot, d__law_grown, d__law_great, d__law_drawn, d__law_is_fitted_right, d__law_foe_right, d_law, fun g hg => ?_⟩
  simp only [gsV, List.mem_cons, List.not_mem_nil, or_false] at hg
  subst hg
  exact d_first_painter
theorem gx0 : Gx P w K mg base 0 (callF 0) := by
  have z : ∀ (f : Addr) (n : Nat), FnG P w K mg base 0 f n (fun _ _ => .bad) := fun f n ar out sh hp us vs q x _ _ _ _ hs => by
    obtain ⟨_, _, _, _, _, _, _, hd⟩ := hs
    exact hd.elim
  exact ⟨z _ _, z _ _, z _ _, z _ _, z _ _, z _ _, z _ _, z _ _, z _ _, z _ _, z _ _, z _ _, z _ _, z _ _, z _ _, z _ _, z _ _, z _ _, z _ _, z _ _, z _ _, z _ _, z _ _, z _ _, z _ _, z _ _, z _ _, z _ _, z _ _, z _ _, z _ _, z _ _, z _ _, z _ _, z _ _⟩
theorem gx_up (X : K.In h) (G : h.Ns mainGlobals mg) (c : He.SaysD Hd.fa Hd.fn K) (g : Gx P w K mg base (2 * k) (callF k)) : Gx P w K mg base (2 * (k + 1)) (callF (k + 1)) := by
  have FX := fx X G c
  have DX := dx_of X G c g
  have g_0 : FnG P w K mg base (2 * (k + 1)) (He.fAd K ("is_integer", none)) 1 (callF (k + 1) 0) := by
    obtain ⟨fd, D⟩ := c.def_ 0 rfl
    exact fnG_of D sc_is_integer (D.bindsN fun _ _ _ _ _ _ us hl => match us, hl with | [_], _ => rfl) (.inl rfl) (fun cdv A outer s H E hr hG => wk_is_integer FX DX cdv A outer s H E hr hG)
  have g_1 : FnG P w K mg base (2 * (k + 1)) (He.fAd K ("is_number", none)) 2 (callF (k + 1) 1) := by
    obtain ⟨fd, D⟩ := c.def_ 1 rfl
    exact fnG_of D sc_is_number (D.bindsN fun _ _ _ _ _ _ us hl => match us, hl with | [_, _], _ => rfl) (.inl rfl) (fun cdv A outer s H E hr hG => wk_is_number FX DX cdv A outer s H E hr hG)
  have g_2 : FnG P w K mg base (2 * (k + 1)) (He.fAd K ("is_within", none)) 3 (callF (k + 1) 2) := by
    obtain ⟨fd, D⟩ := c.def_ 2 rfl
    exact fnG_of D sc_is_within (D.bindsN fun _ _ _ _ _ _ us hl => match us, hl with | [_, _, _], _ => rfl) (.inl rfl) (fun cdv A outer s H E hr hG => wk_is_within FX DX cdv A outer s H E hr hG)
  have g_3 : FnG P w K mg base (2 * (k + 1)) (He.fAd K ("are_numbers", none)) 2 (callF (k + 1) 3) := by
    obtain ⟨fd, D⟩ := c.def_ 3 rfl
    exact fnG_of D sc_are_numbers (D.bindsN fun _ _ _ _ _ _ us hl => match us, hl with | [_, _], _ => rfl) (.inl rfl) (fun cdv A outer s H E hr hG => wk_are_numbers FX DX cdv A outer s H E hr hG)
  have g_4 : FnG P w K mg base (2 * (k + 1)) (He.fAd K ("is_lot", none)) 2 (callF (k + 1) 4) := by
    obtain ⟨fd, D⟩ := c.def_ 4 rfl
    exact fnG_of D sc_is_lot (D.bindsN fun _ _ _ _ _ _ us hl => match us, hl with | [_, _], _ => rfl) (.inl rfl) (fun cdv A outer s H E hr hG => wk_is_lot FX DX cdv A outer s H E hr hG)
  have g_5 : FnG P w K mg base (2 * (k + 1)) (He.fAd K ("power", none)) 2 (callF (k + 1) 5) := by
    obtain ⟨fd, D⟩ := c.def_ 5 rfl
    exact fnG_of D sc_power (D.bindsN fun _ _ _ _ _ _ us hl => match us, hl with | [_, _], _ => rfl) (.inl rfl) (fun cdv A outer s H E hr hG => wk_power FX DX cdv A outer s H E hr hG)
  have g_6 : FnG P w K mg base (2 * (k + 1)) (He.fAd K ("is_comings", none)) 1 (callF (k + 1) 6) := by
    obtain ⟨fd, D⟩ := c.def_ 6 rfl
    exact fnG_of D sc_is_comings (D.bindsN fun _ _ _ _ _ _ us hl => match us, hl with | [_], _ => rfl) (.inl rfl) (fun cdv A outer s H E hr hG => wk_is_comings FX DX cdv A outer s H E hr hG)
  have g_7 : FnG P w K mg base (2 * (k + 1)) (He.fAd K ("check_comings", none)) 1 (callF (k + 1) 7) := by
    obtain ⟨fd, D⟩ := c.def_ 7 rfl
    exact fnG_of D sc_check_comings (D.bindsN fun _ _ _ _ _ _ us hl => match us, hl with | [_], _ => rfl) (.inl rfl) (fun cdv A outer s H E hr hG => wk_check_comings FX DX cdv A outer s H E hr hG)
  have g_8 : FnG P w K mg base (2 * (k + 1)) (He.fAd K ("raw_is_forest", none)) 1 (callF (k + 1) 8) := by
    obtain ⟨fd, D⟩ := c.def_ 8 rfl
    exact fnG_of D sc_raw_is_forest (D.bindsN fun _ _ _ _ _ _ us hl => match us, hl with | [_], _ => rfl) (.inl rfl) (fun cdv A outer s H E hr hG => wk_raw_is_forest FX DX cdv A outer s H E hr hG)
  have g_9 : FnG P w K mg base (2 * (k + 1)) (He.fAd K ("is_forest", none)) 1 (callF (k + 1) 9) := by
    obtain ⟨fd, D⟩ := c.def_ 9 rfl
    exact fnG_of D sc_is_forest (D.bindsN fun _ _ _ _ _ _ us hl => match us, hl with | [_], _ => rfl) (.inl rfl) (fun cdv A outer s H E hr hG => wk_is_forest FX DX cdv A outer s H E hr hG)
  have g_10 : FnG P w K mg base (2 * (k + 1)) (He.fAd K ("is_right", none)) 3 (callF (k + 1) 10) := by
    obtain ⟨fd, D⟩ := c.def_ 10 rfl
    exact fnG_of D sc_is_right (D.bindsN fun _ _ _ _ _ _ us hl => match us, hl with | [_, _, _], _ => rfl) (.inl rfl) (fun cdv A outer s H E hr hG => wk_is_right FX DX cdv A outer s H E hr hG)
  have g_11 : FnG P w K mg base (2 * (k + 1)) (He.fAd K ("raw_led", none)) 2 (callF (k + 1) 11) := by
    obtain ⟨fd, D⟩ := c.def_ 11 rfl
    exact fnG_of D sc_raw_led (D.bindsN fun _ _ _ _ _ _ us hl => match us, hl with | [_, _], _ => rfl) (.inl rfl) (fun cdv A outer s H E hr hG => wk_raw_led FX DX cdv A outer s H E hr hG)
  have g_12 : FnG P w K mg base (2 * (k + 1)) (He.fAd K ("led", none)) 2 (callF (k + 1) 12) := by
    obtain ⟨fd, D⟩ := c.def_ 12 rfl
    exact fnG_of D sc_led (D.bindsN fun _ _ _ _ _ _ us hl => match us, hl with | [_, _], _ => rfl) (.inl rfl) (fun cdv A outer s H E hr hG => wk_led FX DX cdv A outer s H E hr hG)
  have g_13 : FnG P w K mg base (2 * (k + 1)) (He.fAd K ("first_painter", none)) 2 (callF (k + 1) 13) := by
    obtain ⟨fd, D⟩ := c.def_ 13 rfl
    exact fnG_of D sc_first_painter (D.bindsN fun _ _ _ _ _ _ us hl => match us, hl with | [_, _], _ => rfl) (.inl rfl) (fun cdv A outer s H E hr hG => wk_first_painter FX DX cdv A outer s H E hr hG)
  have g_14 : FnG P w K mg base (2 * (k + 1)) (He.fAd K ("Foe", some "__init__")) 2 (callF (k + 1) 14) := by
    obtain ⟨fd, D⟩ := c.def_ 14 rfl
    exact fnG_of D sc_Foe___init__ (D.bindsN fun _ _ _ _ _ _ us hl => match us, hl with | [_, _], _ => rfl) (.inl rfl) (fun cdv A outer s H E hr hG => wk_Foe___init__ FX DX cdv A outer s H E hr hG)
  have g_15 : FnG P w K mg base (2 * (k + 1)) (He.fAd K ("Foe", some "put")) 2 (callF (k + 1) 15) := by
    obtain ⟨fd, D⟩ := c.def_ 15 rfl
    exact fnG_of D sc_Foe_put (D.bindsN fun _ _ _ _ _ _ us hl => match us, hl with | [_, _], _ => rfl) (.inl rfl) (fun cdv A outer s H E hr hG => wk_Foe_put FX DX cdv A outer s H E hr hG)
  have g_16 : FnG P w K mg base (2 * (k + 1)) (He.fAd K ("Foe", some "unlike")) 2 (callF (k + 1) 16) := by
    obtain ⟨fd, D⟩ := c.def_ 16 rfl
    exact fnG_of D sc_Foe_unlike (D.bindsN fun _ _ _ _ _ _ us hl => match us, hl with | [_, _], _ => rfl) (.inl rfl) (fun cdv A outer s H E hr hG => wk_Foe_unlike FX DX cdv A outer s H E hr hG)
  have g_17 : FnG P w K mg base (2 * (k + 1)) (He.fAd K ("check_forced", none)) 1 (callF (k + 1) 17) := by
    obtain ⟨fd, D⟩ := c.def_ 17 rfl
    exact fnG_of D sc_check_forced (D.bindsN fun _ _ _ _ _ _ us hl => match us, hl with | [_], _ => rfl) (.inl rfl) (fun cdv A outer s H E hr hG => wk_check_forced FX DX cdv A outer s H E hr hG)
  have g_18 : FnG P w K mg base (2 * (k + 1)) (He.fAd K ("forest_foe", none)) 2 (callF (k + 1) 18) := by
    obtain ⟨fd, D⟩ := c.def_ 18 rfl
    exact fnG_of D sc_forest_foe (D.bindsN fun _ _ _ _ _ _ us hl => match us, hl with | [_, _], _ => rfl) (.inl rfl) (fun cdv A outer s H E hr hG => wk_forest_foe FX DX cdv A outer s H E hr hG)
  have g_19 : FnG P w K mg base (2 * (k + 1)) (He.fAd K ("least_colours", none)) 1 (callF (k + 1) 19) := by
    obtain ⟨fd, D⟩ := c.def_ 19 rfl
    exact fnG_of D sc_least_colours (D.bindsN fun _ _ _ _ _ _ us hl => match us, hl with | [_], _ => rfl) (.inl rfl) (fun cdv A outer s H E hr hG => wk_least_colours FX DX cdv A outer s H E hr hG)
  have g_20 : FnG P w K mg base (2 * (k + 1)) (He.fAd K ("grown_lot", none)) 2 (callF (k + 1) 20) := by
    obtain ⟨fd, D⟩ := c.def_ 20 rfl
    exact fnG_of D sc_grown_lot (D.bindsN fun _ _ _ _ _ _ us hl => match us, hl with | [_, _], _ => rfl) (.inl rfl) (fun cdv A outer s H E hr hG => wk_grown_lot FX DX cdv A outer s H E hr hG)
  have g_21 : FnG P w K mg base (2 * (k + 1)) (He.fAd K ("_law_pot", none)) 1 (callF (k + 1) 21) := by
    obtain ⟨fd, D⟩ := c.def_ 21 rfl
    exact fnG_of D sc__law_pot (D.bindsN fun _ _ _ _ _ _ us hl => match us, hl with | [_], _ => rfl) (.inl rfl) (fun cdv A outer s H E hr hG => wk__law_pot FX DX cdv A outer s H E hr hG)
  have g_22 : FnG P w K mg base (2 * (k + 1)) (He.fAd K ("_law_draw", none)) 2 (callF (k + 1) 22) := by
    obtain ⟨fd, D⟩ := c.def_ 22 rfl
    exact fnG_of D sc__law_draw (D.bindsN fun _ _ _ _ _ _ us hl => match us, hl with | [_, _], _ => rfl) (.inl rfl) (fun cdv A outer s H E hr hG => wk__law_draw FX DX cdv A outer s H E hr hG)
  have g_23 : FnG P w K mg base (2 * (k + 1)) (He.fAd K ("_law_any", none)) 2 (callF (k + 1) 23) := by
    obtain ⟨fd, D⟩ := c.def_ 23 rfl
    exact fnG_of D sc__law_any (D.bindsN fun _ _ _ _ _ _ us hl => match us, hl with | [_, _], _ => rfl) (.inl rfl) (fun cdv A outer s H E hr hG => wk__law_any FX DX cdv A outer s H E hr hG)
  have g_24 : FnG P w K mg base (2 * (k + 1)) (He.fAd K ("_law_forests", none)) 1 (callF (k + 1) 24) := by
    obtain ⟨fd, D⟩ := c.def_ 24 rfl
    exact fnG_of D sc__law_forests (D.bindsN fun _ _ _ _ _ _ us hl => match us, hl with | [_], _ => rfl) (.inl rfl) (fun cdv A outer s H E hr hG => wk__law_forests FX DX cdv A outer s H E hr hG)
  have g_25 : FnG P w K mg base (2 * (k + 1)) (He.fAd K ("_law_pieces", none)) 1 (callF (k + 1) 25) := by
    obtain ⟨fd, D⟩ := c.def_ 25 rfl
    exact fnG_of D sc__law_pieces (D.bindsN fun _ _ _ _ _ _ us hl => match us, hl with | [_], _ => rfl) (.inl rfl) (fun cdv A outer s H E hr hG => wk__law_pieces FX DX cdv A outer s H E hr hG)
  have g_26 : FnG P w K mg base (2 * (k + 1)) (He.fAd K ("_law_fitted", none)) 1 (callF (k + 1) 26) := by
    obtain ⟨fd, D⟩ := c.def_ 26 rfl
    exact fnG_of D sc__law_fitted (D.bindsN fun _ _ _ _ _ _ us hl => match us, hl with | [_], _ => rfl) (.inl rfl) (fun cdv A outer s H E hr hG => wk__law_fitted FX DX cdv A outer s H E hr hG)
  have g_27 : FnG P w K mg base (2 * (k + 1)) (He.fAd K ("_law_figures", none)) 1 (callF (k + 1) 27) := by
    obtain ⟨fd, D⟩ := c.def_ 27 rfl
    exact fnG_of D sc__law_figures (D.bindsN fun _ _ _ _ _ _ us hl => match us, hl with | [_], _ => rfl) (.inl rfl) (fun cdv A outer s H E hr hG => wk__law_figures FX DX cdv A outer s H E hr hG)
  have g_28 : FnG P w K mg base (2 * (k + 1)) (He.fAd K ("_law_lot", none)) 3 (callF (k + 1) 28) := by
    obtain ⟨fd, D⟩ := c.def_ 28 rfl
    exact fnG_of D sc__law_lot (D.bindsN fun _ _ _ _ _ _ us hl => match us, hl with | [_, _, _], _ => rfl) (.inl rfl) (fun cdv A outer s H E hr hG => wk__law_lot FX DX cdv A outer s H E hr hG)
  have g_29 : FnG P w K mg base (2 * (k + 1)) (He.fAd K ("_law_grown", none)) 1 (callF (k + 1) 29) := by
    obtain ⟨fd, D⟩ := c.def_ 29 rfl
    exact fnG_of D sc__law_grown (D.bindsN fun _ _ _ _ _ _ us hl => match us, hl with | [_], _ => rfl) (.inl rfl) (fun cdv A outer s H E hr hG => wk__law_grown FX DX cdv A outer s H E hr hG)
  have g_30 : FnG P w K mg base (2 * (k + 1)) (He.fAd K ("_law_great", none)) 1 (callF (k + 1) 30) := by
    obtain ⟨fd, D⟩ := c.def_ 30 rfl
    exact fnG_of D sc__law_great (D.bindsN fun _ _ _ _ _ _ us hl => match us, hl with | [_], _ => rfl) (.inl rfl) (fun cdv A outer s H E hr hG => wk__law_great FX DX cdv A outer s H E hr hG)
  have g_31 : FnG P w K mg base (2 * (k + 1)) (He.fAd K ("_law_drawn", none)) 1 (callF (k + 1) 31) := by
    obtain ⟨fd, D⟩ := c.def_ 31 rfl
    exact fnG_of D sc__law_drawn (D.bindsN fun _ _ _ _ _ _ us hl => match us, hl with | [_], _ => rfl) (.inr rfl) (fun cdv A outer s H E hr hG => wk__law_drawn FX DX cdv A outer s H E hr hG)
  have g_32 : FnG P w K mg base (2 * (k + 1)) (He.fAd K ("_law_is_fitted_right", none)) 3 (callF (k + 1) 32) := by
    obtain ⟨fd, D⟩ := c.def_ 32 rfl
    exact fnG_of D sc__law_is_fitted_right (D.bindsN fun _ _ _ _ _ _ us hl => match us, hl with | [_, _, _], _ => rfl) (.inl rfl) (fun cdv A outer s H E hr hG => wk__law_is_fitted_right FX DX cdv A outer s H E hr hG)
  have g_33 : FnG P w K mg base (2 * (k + 1)) (He.fAd K ("_law_foe_right", none)) 1 (callF (k + 1) 33) := by
    obtain ⟨fd, D⟩ := c.def_ 33 rfl
    exact fnG_of D sc__law_foe_right (D.bindsN fun _ _ _ _ _ _ us hl => match us, hl with | [_], _ => rfl) (.inl rfl) (fun cdv A outer s H E hr hG => wk__law_foe_right FX DX cdv A outer s H E hr hG)
  have g_34 : FnG P w K mg base (2 * (k + 1)) (He.fAd K ("law", none)) 1 (callF (k + 1) 34) := by
    obtain ⟨fd, D⟩ := c.def_ 34 rfl
    exact fnG_of D sc_law (D.bindsN fun _ _ _ _ _ _ us hl => match us, hl with | [_], _ => rfl) (.inr rfl) (fun cdv A outer s H E hr hG => wk_law FX DX cdv A outer s H E hr hG)
  exact ⟨g_0, g_1, g_2, g_3, g_4, g_5, g_6, g_7, g_8, g_9, g_10, g_11, g_12, g_13, g_14, g_15, g_16, g_17, g_18, g_19, g_20, g_21, g_22, g_23, g_24, g_25, g_26, g_27, g_28, g_29, g_30, g_31, g_32, g_33, g_34⟩
theorem gx (X : K.In h) (G : h.Ns mainGlobals mg) (c : He.SaysD Hd.fa Hd.fn K) : ∀ k, Gx P w K mg base (2 * k) (callF k)
  | 0 => gx0
  | k + 1 => gx_up X G c (gx X G c k)
def LawOk : Prop := ∀ ns : List Int, ns.length ≤ 63 → ∃ G, callF 20 34 [.scr (ns.map .int)] [] = .ret (.val (.bl true)) G
end K59
open PySem PySem.W PySem.Calls PyProof.Rows in
theorem holds_k59 (law : K59.LawOk) : PySem.Challenge.rw_takenjoined_k59_whole_forests_need_so_ma.Holds := by
  w_on; o_law
  refine HandSHeadRun.head_any (r := OpenLaw.row PySem.Challenge.rw_takenjoined_k59_whole_forests_need_so_ma) (q := view (OpenLaw.row PySem.Challenge.rw_takenjoined_k59_whole_forests_need_so_ma).prog [44]) (H := Hd.hk) (ob := Hd.ob) (M := 4000) (loose := Hd.names) (d := HandSHeadRun.topDef (OpenLaw.row PySem.Challenge.rw_takenjoined_k59_whole_forests_need_so_ma).prog 44) (kwd := []) Hd.ob_eq
    (by kernel_rfl) (fun s => by kernel_rfl) Hd.run (by kernel_rfl) (by kernel_rfl) (by kernel_rfl) (by rfl) (by first | assumption | decide +kernel) (by decide +kernel) ⟨rfl, rfl, rfl, rfl, rfl, by decide +kernel⟩ ?hw ?hc
  case hw => w_witness2
  case hc =>
    refine IL.walk_ofG (l := PySem.Challenge.rw_takenjoined_k59_whole_forests_need_so_ma) (n := 63) (k := 2 * 20) (F := K59.callF 20 34) rfl (by decide) (by kernel_rfl) ⟨rfl, by decide, by decide⟩ ?F law
    intro w mg fa h Y G hmg0
    obtain ⟨K, KX, c⟩ := Y
    have hmg : mg ("law" : PySem.Str) = some (.ref fa) := by
      have e : (HandSHeadRun.topDef (OpenLaw.row PySem.Challenge.rw_takenjoined_k59_whole_forests_need_so_ma).prog 44).name = ("law" : PySem.Str) := by kernel_rfl
      rw [← e]
      exact hmg0
    cases hmg.symm.trans (He.glo_ok KX G (c.fact 50 (f := .glo "law") rfl))
    exact ⟨K, KX, fun base _ _ => (K59.gx KX G c 20).g_34⟩
end T_Ek59
theorem PySem.Challenge.cw_takenjoined_k59_whole_forests_need_so_ma_holds : PySem.Challenge.rw_takenjoined_k59_whole_forests_need_so_ma.Holds :=
  holds_k59 K59.law_ok
