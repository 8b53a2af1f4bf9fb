import PyProof.Rows.All
import Wide.All
import OpenK.AllK
import Wide.FinOn
import HandS.ForExc
import HandS.Comp
import HandS.Iter
import HandS.Dict
import HandS.Text
import HandS.Lambda
import HandS.IsInst
import HandS.Wide
import PyProof.EqLayable
import HandS.Deep
import HandS.TupAny
import HandS.TupMul
import HandS.TupLe
import HandS.Conv
import KE.DataMinMax
import HandS.SetFor
import HandS.ExcCtx
import HandS.Strs
import HandS.Zip
import KE.KDictZip
import HandS.TupSets
import HandS.Style
import HandS.HotCalls
import HandS.ExcIs
import HandS.ExcOwn
import HandS.List
import HandS.HeadHook4
import HandS.HeadWalk
import HandS.Head2
import HandS.HeadEnd
import PySem.Challenge.RW_likeranks_k70_whole_parts
section Part_LkA
set_option Elab.async false
set_option linter.all false
set_option maxRecDepth 100000
/-! Lk: plain data over the layer HandS -/
namespace Lk
open PySem PySem.Spec PyProof.Rows L2

abbrev St := L2.St
/-! ### data -/
inductive D where
  | non
  | bl (b : Bool)
  | int (i : Int)
  | str (x : Str)
  | lst (xs : List D)
  | tup (xs : List D)
  | dK (ks : List Key) (xs : List D)
  | dT (ks : List (List Key)) (xs : List D)
  | fn (x : Str)
  | scr (ns : List Int)

/-- what a reckoning comes to: a value, an error by its class's name, or nothing known -/
inductive R (a : Type) where
  | ok (x : a)
  | exc (c : Str)
  | bad
def R.bind {a b : Type} : R a → (a → R b) → R b
  | .ok x, f => f x
  | .exc c, _ => .exc c
  | .bad, _ => .bad
@[simp] theorem R.bind_ok {a b : Type} (x : a) (f : a → R b) : (R.ok x).bind f = f x := rfl
@[simp] theorem R.bind_exc {a b : Type} (c : Str) (f : a → R b) : (R.exc c : R a).bind f = .exc c := rfl
@[simp] theorem R.bind_bad {a b : Type} (f : a → R b) : (R.bad : R a).bind f = .bad := rfl

/-- a name's slot: nothing, shared data, or a list or dict of the frame's own that nothing else holds -/
inductive Slot where
  | no
  | sh (d : D)
  | ow (d : D)
abbrev Env := List Slot

/-! ### how data lie in the heap -/
section
variable (K : PySem.W.Frag) (mg : Str → Option Value)
mutual
inductive Rep (S : Hp) : V → D → Prop
  | non : Rep S .non .non
  | bl (b : Bool) : Rep S (.bl b) (.bl b)
  | int (i : Int) : Rep S (.int i) (.int i)
  | str (x : Str) : Rep S (.str x) (.str x)
  | lst {a : Addr} {vs : List V} {ds : List D} : S a = some (.lst vs) → vs.length ≤ sizeLine → RepL S vs ds → Rep S (.ref a) (.lst ds)
  | tup {a : Addr} {vs : List V} {ds : List D} : SqT K S a vs → vs.length ≤ sizeLine → RepL S vs ds → Rep S (.ref a) (.tup ds)
  | dK {a : Addr} {kvs : List (Key × V)} {ks : List Key} {ds : List D} : S a = some (.dK kvs) → kvs.map (·.1) = ks → kvs.length ≤ sizeLine → RepL S (kvs.map (·.2)) ds → Rep S (.ref a) (.dK ks ds)
  | dT {a : Addr} {kvs : List (List Key × V)} {ks : List (List Key)} {ds : List D} : S a = some (.dT kvs) → kvs.map (·.1) = ks → kvs.length ≤ sizeLine → RepL S (kvs.map (·.2)) ds → Rep S (.ref a) (.dT ks ds)
  | fn {f : Addr} {x : Str} : mg x = some (.ref f) → Rep S (.ref f) (.fn x)
  | scr {a : Addr} {ns : List Int} : SqL K S a (ns.map V.int) → Rep S (.ref a) (.scr ns)
inductive RepL (S : Hp) : List V → List D → Prop
  | nil : RepL S [] []
  | cons {v : V} {vs : List V} {d : D} {ds : List D} : Rep S v d → RepL S vs ds → RepL S (v :: vs) (d :: ds)
end
end

abbrev Ext := LamX.ExtN
theorem Ext.refl (H : Hp) : Ext H H := LamX.ExtN.refl H
theorem Ext.trans {H H1 H2 : Hp} (a : Ext H H1) (b : Ext H1 H2) : Ext H H2 := LamX.ExtN.trans a b
def Sub (S H : Hp) : Prop := ∀ b o, S b = some o → H b = some o
/-- the code objects' tables: as T tells, and all of them shared -/
structure Tb (T : List (Addr × Str)) (S H : Hp) : Prop where
  tabs : LamX.Tabs T H
  tin : ∀ b ps, H b = some (.tbl ps) → S b = some (.tbl ps)
theorem Sub.refl (H : Hp) : Sub H H := fun _ _ h => h
theorem Sub.ext {S H : Hp} (h : Sub S H) : Ext S H := fun b o e _ => h b o e

section
variable {K : PySem.W.Frag} {mg : Str → Option Value} {S S' H : Hp}
theorem Ext.rd {a : Addr} {u : HO} (e : Ext S S') (h : Rd S a u) (n : ∀ ps, u ≠ .tbl ps) : Rd S' a u := by
  rcases h with h | ⟨o, h⟩
  · exact .inl (e _ _ h n)
  · exact .inr ⟨o, e _ _ h (fun ps z => nomatch z)⟩
theorem Ext.sqL {a : Addr} {xs : List V} (e : Ext S S') (h : SqL K S a xs) : SqL K S' a xs := by
  rcases h with h | h
  · exact .inl (e.rd h (fun ps z => nomatch z))
  · exact .inr h
theorem Ext.sqT {a : Addr} {xs : List V} (e : Ext S S') (h : SqT K S a xs) : SqT K S' a xs := by
  rcases h with h | h
  · exact .inl (e.rd h (fun ps z => nomatch z))
  · exact .inr h
mutual
theorem Rep.ext (e : Ext S S') : ∀ {d : D} {v : V}, Rep K mg S v d → Rep K mg S' v d
  | _, _, .non => .non
  | _, _, .bl b => .bl b
  | _, _, .int i => .int i
  | _, _, .str x => .str x
  | _, _, .lst h z r => .lst (e _ _ h (fun ps z => nomatch z)) z (RepL.ext e r)
  | _, _, .tup h z r => .tup (e.sqT h) z (RepL.ext e r)
  | _, _, .dK h k z r => .dK (e _ _ h (fun ps z => nomatch z)) k z (RepL.ext e r)
  | _, _, .dT h k z r => .dT (e _ _ h (fun ps z => nomatch z)) k z (RepL.ext e r)
  | _, _, .fn h => .fn h
  | _, _, .scr h => .scr (e.sqL h)
theorem RepL.ext (e : Ext S S') : ∀ {ds : List D} {vs : List V}, RepL K mg S vs ds → RepL K mg S' vs ds
  | _, _, .nil => .nil
  | _, _, .cons h r => .cons (Rep.ext e h) (RepL.ext e r)
end
theorem RepL.length : ∀ {ds : List D} {vs : List V}, RepL K mg S vs ds → vs.length = ds.length
  | _, _, .nil => rfl
  | _, _, .cons _ r => congrArg (· + 1) (RepL.length r)
theorem RepL.append : ∀ {ds es : List D} {vs us : List V}, RepL K mg S vs ds → RepL K mg S us es → RepL K mg S (vs ++ us) (ds ++ es)
  | _, _, _, _, .nil, r => r
  | _, _, _, _, .cons h t, r => .cons h (RepL.append t r)
theorem RepL.get : ∀ {ds : List D} {vs : List V} {i : Nat} {v : V}, RepL K mg S vs ds → vs[i]? = some v → ∃ d, ds[i]? = some d ∧ Rep K mg S v d
  | _, _, _, _, .nil, e => by simp at e
  | _, _, 0, _, .cons h _, e => by simp at e; subst e; exact ⟨_, rfl, h⟩
  | _, _, i + 1, v, .cons _ t, e => by
    obtain ⟨d, h1, h2⟩ := RepL.get (i := i) (v := v) t (by simpa using e)
    exact ⟨d, by simpa using h1, h2⟩
theorem RepL.getD : ∀ {ds : List D} {vs : List V} {i : Nat} {d : D}, RepL K mg S vs ds → ds[i]? = some d → ∃ v, vs[i]? = some v ∧ Rep K mg S v d
  | _, _, _, _, .nil, e => by simp at e
  | _, _, 0, _, .cons h _, e => by simp at e; subst e; exact ⟨_, rfl, h⟩
  | _, _, i + 1, v, .cons _ t, e => by
    obtain ⟨d, h1, h2⟩ := RepL.getD (i := i) t (by simpa using e)
    exact ⟨d, by simpa using h1, h2⟩
theorem RepL.take : ∀ {ds : List D} {vs : List V} (n : Nat), RepL K mg S vs ds → RepL K mg S (vs.take n) (ds.take n)
  | _, _, 0, _ => .nil
  | _, _, _ + 1, .nil => .nil
  | _, _, n + 1, .cons r t => .cons r (RepL.take n t)
theorem RepL.drop : ∀ {ds : List D} {vs : List V} (n : Nat), RepL K mg S vs ds → RepL K mg S (vs.drop n) (ds.drop n)
  | _, _, 0, r => r
  | _, _, _ + 1, .nil => .nil
  | _, _, n + 1, .cons _ t => RepL.drop n t
theorem RepL.set {v : V} {d : D} (r : Rep K mg S v d) : ∀ {ds : List D} {vs : List V} (i : Nat), RepL K mg S vs ds → RepL K mg S (vs.set i v) (ds.set i d)
  | _, _, _, .nil => .nil
  | _, _, 0, .cons _ t => .cons r t
  | _, _, i + 1, .cons q t => .cons q (RepL.set r i t)
theorem RepL.eraseIdx : ∀ {ds : List D} {vs : List V} (i : Nat), RepL K mg S vs ds → RepL K mg S (vs.eraseIdx i) (ds.eraseIdx i)
  | _, _, _, .nil => .nil
  | _, _, 0, .cons _ t => t
  | _, _, i + 1, .cons q t => .cons q (RepL.eraseIdx i t)
theorem RepL.reverse {ds : List D} {vs : List V} (h : RepL K mg S vs ds) : RepL K mg S vs.reverse ds.reverse := by
  induction vs generalizing ds with
  | nil => cases h; exact .nil
  | cons v vs ih =>
    cases h with
    | cons a t =>
      rw [List.reverse_cons, List.reverse_cons]
      exact (ih t).append (.cons a .nil)
theorem RepL.rep {ds : List D} {vs : List V} (h : RepL K mg S vs ds) : ∀ n, RepL K mg S (List.replicate n vs).flatten (List.replicate n ds).flatten
  | 0 => .nil
  | n + 1 => by
    rw [List.replicate_succ, List.replicate_succ, List.flatten_cons, List.flatten_cons]
    exact h.append (RepL.rep h n)
theorem RepL.ints : ∀ {ns : List Int} {vs : List V}, RepL K mg S vs (ns.map D.int) → vs = ns.map V.int
  | [], _, .nil => rfl
  | n :: ns, _, .cons h t => by
    cases h
    rw [RepL.ints t, List.map_cons]
theorem RepL.ofInts : ∀ {ns : List Int}, RepL K mg S (ns.map V.int) (ns.map D.int)
  | [] => .nil
  | n :: ns => .cons (.int n) RepL.ofInts
theorem RepL.bls : ∀ {ns : List Bool} {vs : List V}, RepL K mg S vs (ns.map D.bl) → vs = ns.map V.bl
  | [], _, .nil => rfl
  | n :: ns, _, .cons h t => by
    cases h
    rw [RepL.bls t, List.map_cons]
end

/-! ### a frame: what is shared (S), its own (the slots ow), the callers' own (F) -/
section
variable (K : PySem.W.Frag) (mg : Str → Option Value) (T : List (Addr × Str))
/-- the frame's own object at a holds d -/
def Own (S H : Hp) (a : Addr) : D → Prop
  | .lst ds => ∃ vs, H a = some (.lst vs) ∧ vs.length ≤ sizeLine ∧ RepL K mg S vs ds
  | .dK ks ds => ∃ kvs : List (Key × V), H a = some (.dK kvs) ∧ kvs.map (·.1) = ks ∧ kvs.length ≤ sizeLine ∧ RepL K mg S (kvs.map (·.2)) ds
  | .dT ks ds => ∃ kvs : List (List Key × V), H a = some (.dT kvs) ∧ kvs.map (·.1) = ks ∧ kvs.length ≤ sizeLine ∧ RepL K mg S (kvs.map (·.2)) ds
  | _ => False
structure ER (F S H : Hp) (σ : St) (ρ : Env) : Prop where
  sub : Sub S H
  dis : ∀ b o, F b = some o → H b = some o ∧ S b = none
  tab : Tb T S H
  len : σ.length = ρ.length
  sl : ∀ (i : Nat) (d : D), ρ[i]? = some (.sh d) → ∃ v, σ[i]? = some (some v) ∧ Rep K mg S v d
  ow : ∀ (i : Nat) (d : D), ρ[i]? = some (.ow d) → ∃ a, σ[i]? = some (some (.ref a)) ∧ S a = none ∧ F a = none ∧ Own K mg S H a d
  inj : ∀ (i j : Nat) (d e : D) (a : Addr), ρ[i]? = some (.ow d) → ρ[j]? = some (.ow e) → σ[i]? = some (some (.ref a)) → σ[j]? = some (some (.ref a)) → i = j
/-- a value that may be one of the frame's own -/
def RB (S : Hp) (σ : St) (ρ : Env) (v : V) (d : D) : Prop := Rep K mg S v d ∨ ∃ i : Nat, ρ[i]? = some (.ow d) ∧ σ[i]? = some (some v)
end

section
variable {K : PySem.W.Frag} {mg : Str → Option Value} {T : List (Addr × Str)} {F S S' H H' : Hp} {σ : St} {ρ : Env} {v : V} {d : D}
theorem Own.get {a : Addr} (h : Own K mg S H a d) : ∃ o, H a = some o ∧ ∀ ps, o ≠ .tbl ps := by
  cases d with
  | lst ds => obtain ⟨vs, e, _⟩ := h; exact ⟨_, e, fun ps z => nomatch z⟩
  | dK ks ds => obtain ⟨vs, e, _⟩ := h; exact ⟨_, e, fun ps z => nomatch z⟩
  | dT ks ds => obtain ⟨vs, e, _⟩ := h; exact ⟨_, e, fun ps z => nomatch z⟩
  | _ => exact h.elim
theorem Own.ext {a : Addr} (h : Own K mg S H a d) (e : Ext S S') (eh : ∀ o, H a = some o → H' a = some o) : Own K mg S' H' a d := by
  cases d with
  | lst ds => obtain ⟨vs, q, z, r⟩ := h; exact ⟨vs, eh _ q, z, r.ext e⟩
  | dK ks ds => obtain ⟨vs, q, k, z, r⟩ := h; exact ⟨vs, eh _ q, k, z, r.ext e⟩
  | dT ks ds => obtain ⟨vs, q, k, z, r⟩ := h; exact ⟨vs, eh _ q, k, z, r.ext e⟩
  | _ => exact h.elim
theorem RB.ext (h : RB K mg S σ ρ v d) (e : Ext S S') : RB K mg S' σ ρ v d := by
  rcases h with h | h
  · exact .inl (h.ext e)
  · exact .inr h
/-- a new shared object -/
theorem ER.new {p : Addr} {o : HO} (E : ER K mg T F S H σ ρ) (hp : H p = none) (ht : ∀ ps, o ≠ .tbl ps) : ER K mg T F (upd S p o) (upd H p o) σ ρ ∧ Ext S (upd S p o) := by
  have sp : S p = none := by
    cases q : S p with
    | none => rfl
    | some u => rw [E.sub _ _ q] at hp; cases hp
  have ex : Ext S (upd S p o) := fun b u e _ => by rw [upd_ne (ne_of_none e sp)]; exact e
  have hh : ∀ b u, H b = some u → upd H p o b = some u := fun b u e => by rw [upd_ne (ne_of_none e hp)]; exact e
  refine ⟨⟨fun b u e => ?_, fun b u e => ?_, ⟨E.tab.tabs.ext hh, fun b ps q => ?_⟩, E.len, fun i d e => ?_, fun i d e => ?_, E.inj⟩, ex⟩
  · by_cases hb : b = p
    · subst hb; rw [upd_same] at e ⊢; exact e
    · rw [upd_ne hb] at e ⊢; exact E.sub _ _ e
  · obtain ⟨h1, h2⟩ := E.dis b u e
    refine ⟨hh _ _ h1, ?_⟩
    rw [upd_ne (ne_of_none h1 hp)]; exact h2
  · by_cases hb : b = p
    · subst hb; rw [upd_same] at q; exact absurd (Option.some.inj q) (ht ps)
    · rw [upd_ne hb] at q ⊢; exact E.tab.tin b ps q
  · obtain ⟨v, h1, h2⟩ := E.sl i d e
    exact ⟨v, h1, h2.ext ex⟩
  · obtain ⟨a, h1, h2, h3, h4⟩ := E.ow i d e
    obtain ⟨o', h5, _⟩ := h4.get
    refine ⟨a, h1, ?_, h3, h4.ext ex fun o q => hh _ _ q⟩
    rw [upd_ne (ne_of_none h5 hp)]; exact h2
/-- a list, a tuple new -/
theorem ER.lst {p : Addr} {vs : List V} {ds : List D} (E : ER K mg T F S H σ ρ) (hp : H p = none) (z : vs.length ≤ sizeLine) (r : RepL K mg S vs ds) :
    ER K mg T F (upd S p (.lst vs)) (upd H p (.lst vs)) σ ρ ∧ Ext S (upd S p (.lst vs)) ∧ Rep K mg (upd S p (.lst vs)) (.ref p) (.lst ds) := by
  obtain ⟨h1, h2⟩ := E.new (o := .lst vs) hp (fun ps z => nomatch z)
  exact ⟨h1, h2, .lst upd_same z (r.ext h2)⟩
theorem ER.tup {p : Addr} {vs : List V} {ds : List D} (E : ER K mg T F S H σ ρ) (hp : H p = none) (z : vs.length ≤ sizeLine) (r : RepL K mg S vs ds) :
    ER K mg T F (upd S p (.tup vs)) (upd H p (.tup vs)) σ ρ ∧ Ext S (upd S p (.tup vs)) ∧ Rep K mg (upd S p (.tup vs)) (.ref p) (.tup ds) := by
  obtain ⟨h1, h2⟩ := E.new (o := .tup vs) hp (fun ps z => nomatch z)
  exact ⟨h1, h2, .tup (.inl (.inl upd_same)) z (r.ext h2)⟩
/-- reading a list or tuple that may be the frame's own -/
theorem ER.seqL {ds : List D} (E : ER K mg T F S H σ ρ) (h : RB K mg S σ ρ v (.lst ds)) : ∃ a vs, v = .ref a ∧ H a = some (.lst vs) ∧ vs.length ≤ sizeLine ∧ RepL K mg S vs ds := by
  rcases h with h | ⟨i, h1, h2⟩
  · cases h with
    | lst hs z r => exact ⟨_, _, rfl, E.sub _ _ hs, z, r⟩
  · obtain ⟨a, q1, q2, q3, vs, q4, q5, q6⟩ := E.ow i _ h1
    rw [h2] at q1; cases q1
    exact ⟨a, vs, rfl, q4, q5, q6⟩
theorem ER.seqT {ds : List D} (E : ER K mg T F S H σ ρ) (h : RB K mg S σ ρ v (.tup ds)) : ∃ a vs, v = .ref a ∧ SqT K H a vs ∧ vs.length ≤ sizeLine ∧ RepL K mg S vs ds := by
  rcases h with h | ⟨i, h1, h2⟩
  · cases h with
    | tup hs z r => exact ⟨_, _, rfl, E.sub.ext.sqT hs, z, r⟩
  · obtain ⟨a, q1, q2, q3, q4⟩ := E.ow i _ h1
    exact q4.elim
theorem ER.atScr {ns : List Int} (E : ER K mg T F S H σ ρ) (h : RB K mg S σ ρ v (.scr ns)) : ∃ a, v = .ref a ∧ SqL K H a (ns.map V.int) := by
  rcases h with h | ⟨j, h1, h2⟩
  · cases h with
    | scr hs => exact ⟨_, rfl, E.sub.ext.sqL hs⟩
  · obtain ⟨a, q1, q2, q3, q4⟩ := E.ow j _ h1
    exact q4.elim
theorem ER.atInt {i : Int} (E : ER K mg T F S H σ ρ) (h : RB K mg S σ ρ v (.int i)) : v = .int i := by
  rcases h with h | ⟨j, h1, h2⟩
  · cases h; rfl
  · obtain ⟨a, q1, q2, q3, q4⟩ := E.ow j _ h1
    exact q4.elim
theorem ER.atBl {i : Bool} (E : ER K mg T F S H σ ρ) (h : RB K mg S σ ρ v (.bl i)) : v = .bl i := by
  rcases h with h | ⟨j, h1, h2⟩
  · cases h; rfl
  · obtain ⟨a, q1, q2, q3, q4⟩ := E.ow j _ h1
    exact q4.elim
theorem ER.atStr {i : Str} (E : ER K mg T F S H σ ρ) (h : RB K mg S σ ρ v (.str i)) : v = .str i := by
  rcases h with h | ⟨j, h1, h2⟩
  · cases h; rfl
  · obtain ⟨a, q1, q2, q3, q4⟩ := E.ow j _ h1
    exact q4.elim
theorem ER.atNon (E : ER K mg T F S H σ ρ) (h : RB K mg S σ ρ v .non) : v = .non := by
  rcases h with h | ⟨j, h1, h2⟩
  · cases h; rfl
  · obtain ⟨a, q1, q2, q3, q4⟩ := E.ow j _ h1
    exact q4.elim
end

/-! ### readings of data -/
section
variable (K : PySem.W.Frag) (mg : Str → Option Value) (T : List (Addr × Str)) (W : WX) (F : Hp)
def Fails (S : Hp) (σ : St) (ρ : Env) (c : Str) : Prop := ∀ S' H', Ext S S' → ER K mg T F S' H' σ ρ → ∃ C, mg c = some (.ref C) ∧ W (.ref C) none σ H'
def PostE (S : Hp) (σ : St) (ρ : Env) (r : R D) (Q : VK) : Prop :=
  match r with
  | .ok d => ∀ v S' H', Ext S S' → ER K mg T F S' H' σ ρ → Rep K mg S' v d → Q v H'
  | .exc c => Fails K mg T W F S σ ρ c
  | .bad => False
def PostB (S : Hp) (σ : St) (ρ : Env) (r : R D) (Q : VK) : Prop :=
  match r with
  | .ok d => ∀ v S' H', Ext S S' → ER K mg T F S' H' σ ρ → RB K mg S' σ ρ v d → Q v H'
  | .exc c => Fails K mg T W F S σ ρ c
  | .bad => False
def PostT (S : Hp) (σ : St) (ρ : Env) (r : R Bool) (Q : Bool → Hp → Prop) : Prop :=
  match r with
  | .ok b => ∀ S' H', Ext S S' → ER K mg T F S' H' σ ρ → Q b H'
  | .exc c => Fails K mg T W F S σ ρ c
  | .bad => False
inductive RBL (S : Hp) (σ : St) (ρ : Env) : List V → List D → Prop
  | nil : RBL S σ ρ [] []
  | cons {v : V} {vs : List V} {d : D} {ds : List D} : RB K mg S σ ρ v d → RBL S σ ρ vs ds → RBL S σ ρ (v :: vs) (d :: ds)
def PostAB (S : Hp) (σ : St) (ρ : Env) (r : R (List D)) (Q : List V → Hp → Prop) : Prop :=
  match r with
  | .ok ds => ∀ vs S' H', Ext S S' → ER K mg T F S' H' σ ρ → RBL K mg S' σ ρ vs ds → Q vs H'
  | .exc c => Fails K mg T W F S σ ρ c
  | .bad => False
def PostA (S : Hp) (σ : St) (ρ : Env) (r : R (List D)) (Q : List V → Hp → Prop) : Prop :=
  match r with
  | .ok ds => ∀ vs S' H', Ext S S' → ER K mg T F S' H' σ ρ → RepL K mg S' vs ds → Q vs H'
  | .exc c => Fails K mg T W F S σ ρ c
  | .bad => False
end
section
variable (K : PySem.W.Frag) (mg : Str → Option Value) (T : List (Addr × Str)) (W : WX)
def tE (f : Env → R D) : TE := fun σ H Q => ∃ F S ρ, ER K mg T F S H σ ρ ∧ PostE K mg T W F S σ ρ (f ρ) Q
def tBr (f : Env → R D) : TE := fun σ H Q => ∃ F S ρ, ER K mg T F S H σ ρ ∧ PostB K mg T W F S σ ρ (f ρ) Q
def tT (f : Env → R Bool) : TT := fun σ H Q => ∃ F S ρ, ER K mg T F S H σ ρ ∧ PostT K mg T W F S σ ρ (f ρ) Q
def tA (f : Env → R (List D)) : TA := fun σ H Q => ∃ F S ρ, ER K mg T F S H σ ρ ∧ PostA K mg T W F S σ ρ (f ρ) Q
def tAB (f : Env → R (List D)) : TA := fun σ H Q => ∃ F S ρ, ER K mg T F S H σ ρ ∧ PostAB K mg T W F S σ ρ (f ρ) Q
end
theorem PE_imp {X : Cx} {e : Expr} {t t' : TE} (h : PE X e t) (i : ∀ σ H Q, t' σ H Q → t σ H Q) : PE X e t' := ⟨fun pins s σ H Q I q => h.run pins s σ H Q I (i σ H Q q)⟩
theorem PT_imp {X : Cx} {e : Expr} {t t' : TT} (h : PT X e t) (i : ∀ σ H Q, t' σ H Q → t σ H Q) : PT X e t' := ⟨fun pins s σ H Q I q => h.run pins s σ H Q I (i σ H Q q)⟩
theorem PW_imp {X : Cx} {e : Expr} {t t' : TT} (h : PW X e t) (i : ∀ σ H Q, t' σ H Q → t σ H Q) : PW X e t' := ⟨fun wh pins s σ H Q I q => h.run wh pins s σ H Q I (i σ H Q q)⟩
theorem PA_imp {X : Cx} {es : List Expr} {t t' : TA} (h : PA X es t) (i : ∀ σ H Q, t' σ H Q → t σ H Q) : PA X es t' := ⟨fun pos pins s σ H Q I q => h.run pos pins s σ H Q I (i σ H Q q)⟩
theorem PS_imp {X : Cx} {e : Stmt} {t t' : TS} (h : PS X e t) (i : ∀ σ H Q, t' Q σ H → t Q σ H) : PS X e t' := ⟨fun pins s σ H Q I q => h.run pins s σ H Q I (i σ H Q q)⟩
theorem PSs_imp {X : Cx} {e : List Stmt} {t t' : TS} (h : PSs X e t) (i : ∀ σ H Q, t' Q σ H → t Q σ H) : PSs X e t' := ⟨fun pins s σ H Q I q => h.run pins s σ H Q I (i σ H Q q)⟩
theorem PI_imp {X : Cx} {tg e : Expr} {t t' : TI} (h : PI X tg e t) (i : ∀ σ H Q, t' σ H Q → t σ H Q) : PI X tg e t' := ⟨fun pins s σ H Q I q => h.run pins s σ H Q I (i σ H Q q)⟩
section
variable {K : PySem.W.Frag} {mg : Str → Option Value} {T : List (Addr × Str)} {W : WX} {F S S' H : Hp} {σ : St} {ρ : Env} {c : Str}
theorem Fails.ext (h : Fails K mg T W F S σ ρ c) (e : Ext S S') : Fails K mg T W F S' σ ρ c := fun S2 H2 e2 => h S2 H2 (e.trans e2)
/-- a clean value serves as a borrowed one -/
theorem tE_br {f : Env → R D} {Q : VK} (h : tBr K mg T W f σ H Q) : tE K mg T W f σ H Q := by
  obtain ⟨F, S, ρ, E, p⟩ := h
  refine ⟨F, S, ρ, E, ?_⟩
  unfold PostB at p
  unfold PostE
  cases q : f ρ with
  | ok d =>
    rw [q] at p
    exact fun v S' H' e E' r => p v S' H' e E' (.inl r)
  | exc c => rw [q] at p; exact p
  | bad => rw [q] at p; exact p
/-- one after the other -/
theorem seqE {f : Env → R D} {β : Type} {k : D → R β} {P : Hp → R β → Prop} {R' : V → Hp → Prop} (E : ER K mg T F S H σ ρ) (hx : ∀ S c, P S (.exc c) → Fails K mg T W F S σ ρ c) (hb : ∀ S, ¬ P S .bad) (h : P S ((f ρ).bind k))
    (step : ∀ d v S' H', f ρ = .ok d → Ext S S' → ER K mg T F S' H' σ ρ → Rep K mg S' v d → P S (k d) → R' v H') : tE K mg T W f σ H R' := by
  refine ⟨F, S, ρ, E, ?_⟩
  unfold PostE
  cases q : f ρ with
  | ok d =>
    rw [q] at h
    exact fun v S' H' e E' r => step d v S' H' q e E' r h
  | exc c => rw [q] at h; exact hx S c h
  | bad => rw [q] at h; exact (hb S h).elim
theorem seqB {f : Env → R D} {β : Type} {k : D → R β} {P : Hp → R β → Prop} {R' : V → Hp → Prop} (E : ER K mg T F S H σ ρ) (hx : ∀ S c, P S (.exc c) → Fails K mg T W F S σ ρ c) (hb : ∀ S, ¬ P S .bad) (h : P S ((f ρ).bind k))
    (step : ∀ d v S' H', f ρ = .ok d → Ext S S' → ER K mg T F S' H' σ ρ → RB K mg S' σ ρ v d → P S (k d) → R' v H') : tBr K mg T W f σ H R' := by
  refine ⟨F, S, ρ, E, ?_⟩
  unfold PostB
  cases q : f ρ with
  | ok d =>
    rw [q] at h
    exact fun v S' H' e E' r => step d v S' H' q e E' r h
  | exc c => rw [q] at h; exact hx S c h
  | bad => rw [q] at h; exact (hb S h).elim
theorem seqT {f : Env → R Bool} {β : Type} {k : Bool → R β} {P : Hp → R β → Prop} {R' : Bool → Hp → Prop} (E : ER K mg T F S H σ ρ) (hx : ∀ S c, P S (.exc c) → Fails K mg T W F S σ ρ c) (hb : ∀ S, ¬ P S .bad) (h : P S ((f ρ).bind k))
    (step : ∀ d S' H', f ρ = .ok d → Ext S S' → ER K mg T F S' H' σ ρ → P S (k d) → R' d H') : tT K mg T W f σ H R' := by
  refine ⟨F, S, ρ, E, ?_⟩
  unfold PostT
  cases q : f ρ with
  | ok d =>
    rw [q] at h
    exact fun S' H' e E' => step d S' H' q e E' h
  | exc c => rw [q] at h; exact hx S c h
  | bad => rw [q] at h; exact (hb S h).elim
theorem seqA {f : Env → R (List D)} {β : Type} {k : List D → R β} {P : Hp → R β → Prop} {R' : List V → Hp → Prop} (E : ER K mg T F S H σ ρ) (hx : ∀ S c, P S (.exc c) → Fails K mg T W F S σ ρ c) (hb : ∀ S, ¬ P S .bad) (h : P S ((f ρ).bind k))
    (step : ∀ d v S' H', f ρ = .ok d → Ext S S' → ER K mg T F S' H' σ ρ → RepL K mg S' v d → P S (k d) → R' v H') : tA K mg T W f σ H R' := by
  refine ⟨F, S, ρ, E, ?_⟩
  unfold PostA
  cases q : f ρ with
  | ok d =>
    rw [q] at h
    exact fun v S' H' e E' r => step d v S' H' q e E' r h
  | exc c => rw [q] at h; exact hx S c h
  | bad => rw [q] at h; exact (hb S h).elim
theorem seqAB {f : Env → R (List D)} {β : Type} {k : List D → R β} {P : Hp → R β → Prop} {R' : List V → Hp → Prop} (E : ER K mg T F S H σ ρ) (hx : ∀ S c, P S (.exc c) → Fails K mg T W F S σ ρ c) (hb : ∀ S, ¬ P S .bad) (h : P S ((f ρ).bind k))
    (step : ∀ d v S' H', f ρ = .ok d → Ext S S' → ER K mg T F S' H' σ ρ → RBL K mg S' σ ρ v d → P S (k d) → R' v H') : tAB K mg T W f σ H R' := by
  refine ⟨F, S, ρ, E, ?_⟩
  unfold PostAB
  cases q : f ρ with
  | ok d =>
    rw [q] at h
    exact fun v S' H' e E' r => step d v S' H' q e E' r h
  | exc c => rw [q] at h; exact hx S c h
  | bad => rw [q] at h; exact (hb S h).elim
theorem RBL.ext {vs : List V} {ds : List D} (h : RBL K mg S σ ρ vs ds) (e : Ext S S') : RBL K mg S' σ ρ vs ds := by
  induction h with
  | nil => exact .nil
  | cons a _ ih => exact .cons (a.ext e) ih
theorem PostE.ext {r : R D} {Q : VK} (h : PostE K mg T W F S σ ρ r Q) (e : Ext S S') : PostE K mg T W F S' σ ρ r Q := by
  unfold PostE at *
  cases r with
  | ok d => exact fun v S2 H2 e2 => h v S2 H2 (e.trans e2)
  | exc c => exact Fails.ext h e
  | bad => exact h
theorem PostT.ext {r : R Bool} {Q : Bool → Hp → Prop} (h : PostT K mg T W F S σ ρ r Q) (e : Ext S S') : PostT K mg T W F S' σ ρ r Q := by
  unfold PostT at *
  cases r with
  | ok d => exact fun S2 H2 e2 => h S2 H2 (e.trans e2)
  | exc c => exact Fails.ext h e
  | bad => exact h
end
end Lk
end Part_LkA
section Part_LkLe
set_option Elab.async false
set_option linter.all false
set_option maxRecDepth 100000
set_option maxHeartbeats 4000000
/-! a lambda is entered -/
namespace Lk
open PySem PySem.Spec PyProof.Rows L2
section
variable {prog : Program} {w : World} {A : Around} {s : Shared} {R : Result → Shared → Prop}
/-- the call of a lambda's object comes to its body in a new frame, whatever it is called with -/
theorem lam_enter {f c' : Addr} {q : Str} {params : Arguments} {body : Expr} {scope : Scope} {clo : List (Str × Addr)} {pm ctv : Value} {us : List Value} {bs : List (Str × Value)} (room : A.depth < recursionLimit) (nl : s.heap.NoLimit)
    (hf : s.heap.get? f = some (PySem.W.kla_obj "<lambda>" q params body scope clo pm c' ctv)) (rec : s.heap.CodeRec (.ref c') q) (names : scope.kind = .function ∧ scope.isCoroutine = false ∧ scope.isGenerator = false ∧ (∀ y ∈ scope.names, y.2 ≠ .cell) ∧ ∀ y ∈ bs, scope.names.lookup y.1 = some .local)
    (bind : bindArgs (PySem.W.kla_fn "<lambda>" q params body scope clo pm (.ref c') ctv) ⟨us, []⟩ = pure bs)
    (go : ∀ h1 : Heap, h1.Ns s.heap.objs.size (fun x => bs.reverse.lookup x) → (∀ b o, s.heap.get? b = some o → h1.get? b = some o) →
      wpAny (model prog w) (A.deeper (PySem.W.envX q scope s.heap.objs.size f (.ref c') clo)) (eval body (PySem.W.envX q scope s.heap.objs.size f (.ref c') clo)) (fun v s' => R (.ok (.ret v)) s')
        (fun e s' => wpAny (model prog w) (A.deeper (PySem.W.envX q scope s.heap.objs.size f (.ref c') clo)) (leaving (PySem.W.envX q scope s.heap.objs.size f (.ref c') clo) e) (fun _ s'' => R (.error e) s'') (fun e' s'' => R (.error e') s'') s') { s with heap := h1, toks := s.toks + bs.length }) :
    codeAny (model prog w) A (.call (.ref f) ⟨us, []⟩) R s := by
  obtain ⟨kind, co, gen, nc, loc⟩ := names
  have binds : wpAny (model prog w) A.in1 (bindArgs (PySem.W.kla_fn "<lambda>" q params body scope clo pm (.ref c') ctv) ⟨us, []⟩) (fun b s' => b = bs ∧ s' = s) (fun _ _ => False) s := by
    rw [bind]
    exact wpAny_pure ⟨rfl, rfl⟩
  refine PySem.W.kla_callFunE room hf rfl co gen rfl rec (wpAny_mono binds ?_ fun _ _ z => z.elim)
  rintro b s' ⟨rfl, rfl⟩
  exact wpAny_newFunctionEnv nc loc (fun h1 ns sb => ⟨nl.fresh _ sb, PySem.W.kla_codeExpr (go h1 ns fun c o e => (sb.2 c (Nat.ne_of_lt (Heap.lt_size e))).trans (Heap.get?_push_of_some _ e))⟩) kind
end
end Lk
end Part_LkLe
section Part_LkB
set_option Elab.async false
set_option linter.all false
set_option maxRecDepth 100000
namespace Lk
open PySem PySem.Spec PyProof.Rows L2

/-! ### the plain language -/
inductive Bop where
  | add | sub | mul | fdiv | mod | pow
  deriving DecidableEq
inductive Cop where
  | eq | ne | lt | le | gt | ge | isin | notin | is | isnot
  deriving DecidableEq
inductive Bi where
  | len | abs | max | min | sum | sorted | all | any | int | list | tuple
  deriving DecidableEq
inductive Mt where
  | index | count
  deriving DecidableEq
inductive IK where
  | seq | rng1 | rng2 | enm | zip
  deriving DecidableEq
inductive Tg where
  | nm (i : Nat)
  | tp (is : List Nat)
  | ntp (i : Nat) (is : List Nat)
  deriving DecidableEq
inductive Cst where
  | non | bl (b : Bool) | int (i : Int) | str (x : Str)
  deriving DecidableEq
mutual
inductive CE where
  | no
  | var (i : Nat)
  | cst (c : Cst)
  | glb (x : Str)
  | lst (es : CL)
  | tup (es : CL)
  | bin (o : Bop) (a b : CE)
  | neg (a : CE)
  | cmp (o : Cop) (a b : CE)
  | chn (o p : Cop) (a b c : CE)
  | and (a b : CE)
  | or (a b : CE)
  | one (a : CE)
  | not (a : CE)
  | ite (c a b : CE)
  | sub (a i : CE)
  | slc (a lo hi : CE)
  | rev (a : CE)
  | cal (f : Str) (es : CL)
  | calv (i : Nat) (fl : List Str) (es : CL)
  | dfn (x : Str)
  | bi (b : Bi) (es : CL)
  | mth (m : Mt) (o a : CE)
  | isi (a : CE) (t : String)
  | lrng (a : CE)
  | trng (a : CE)
  | lzip (a b : CE)
  | sset (a : CE)
  | srt (a : CE)
  | lset (a : CE)
  | lc (k : IK) (a b : CE) (g : Tg) (own : List Nat) (c : CE) (e : CE)
  | told (e : CE)
inductive CL where
  | nil
  | cons (e : CE) (r : CL)
end
mutual
inductive CS where
  | set (i : Nat) (e : CE)
  | setO (i : Nat) (e : CE)
  | setLc (i : Nat) (e : CE)
  | setLcO (i : Nat) (e : CE)
  | par (i j : Nat) (a b : CE)
  | par3 (i j k : Nat) (a b c : CE)
  | opq
  | unp (is : List Nat) (e : CE)
  | expr (e : CE)
  | app (i : Nat) (e : CE)
  | ext (i : Nat) (e : CE)
  | sto (i : Nat) (k v : CE)
  | ret (e : CE)
  | iff (c : CE) (t e : CB)
  | for (k : IK) (a b : CE) (g : Tg) (body : CB)
  | whl (c : CE) (body : CB)
  | rse (c : Str)
inductive CB where
  | nil
  | rel (i : Nat) (r : CB)
  | del (i : Nat) (r : CB)
  | cons (s : CS) (r : CB)
end

/-! ### what it comes to -/
mutual
def toPy : D → Option PyData
  | .non => some .none
  | .bl b => some (.bool b)
  | .int i => some (.int i)
  | .str x => some (.str x)
  | .lst xs => (toPys xs).map .list
  | .tup xs => (toPys xs).map .tuple
  | .scr ns => some (.list (ns.map .int))
  | _ => none
def toPys : List D → Option (List PyData)
  | [] => some []
  | x :: xs => match toPy x, toPys xs with
    | some y, some ys => some (y :: ys)
    | _, _ => none
end
def shp (d : PyData) : Bool := SeqAt.shaped d
def eqD (d e : D) : R Bool :=
  match toPy d, toPy e with
  | some x, some y => if shp x = true ∧ shp y = true then .ok (PyData.eqv x y) else .bad
  | _, _ => .bad
def mulOk (i j : Int) : Bool := (decide (i.natAbs < 2 ^ 63) || decide (j.natAbs < 2 ^ 63)) || (decide (i.natAbs < 2 ^ 1000) && decide (j.natAbs < 2 ^ 1000))
def binD : Bop → D → D → R D
  | .add, .int i, .int j => .ok (.int (i + j))
  | .add, .str x, .str y => if x.length + y.length ≤ 100000 then .ok (.str (x ++ y)) else .bad
  | .add, .lst xs, .lst ys => if xs.length + ys.length ≤ 1000000 then .ok (.lst (xs ++ ys)) else .bad
  | .add, .tup xs, .tup ys => if xs.length + ys.length ≤ 1000000 then .ok (.tup (xs ++ ys)) else .bad
  | .sub, .int i, .int j => .ok (.int (i - j))
  | .mul, .int i, .int j => if mulOk i j = true then .ok (.int (i * j)) else .bad
  | .mul, .tup xs, .int k => if 1 ≤ k ∧ k ≤ 1000 ∧ xs.length ≤ 1000 ∧ xs ≠ [] then .ok (.tup (List.replicate k.toNat xs).flatten) else .bad
  | .mul, .lst xs, .int k => if 0 ≤ k ∧ k ≤ 1000 ∧ xs.length ≤ 1000 then .ok (.lst (List.replicate k.toNat xs).flatten) else .bad
  | .fdiv, .int i, .int j => if 0 < j ∧ j.natAbs < 2 ^ 1000 then .ok (.int (i / j)) else .bad
  | .mod, .int i, .int j => if 0 < j then .ok (.int (i % j)) else .bad
  | .pow, .int i, .int j => if 0 ≤ j ∧ j ≤ 1000 ∧ i.natAbs < 2 ^ 64 then .ok (.int (i ^ j.toNat)) else .bad
  | _, _, _ => .bad
def intsOf : List D → Option (List Int)
  | [] => some []
  | .int i :: r => (intsOf r).map (i :: ·)
  | _ => none
def blsOf : List D → Option (List Bool)
  | [] => some []
  | .bl i :: r => (blsOf r).map (i :: ·)
  | _ => none
def flatD : D → Bool
  | .non | .bl _ | .int _ | .str _ => true
  | _ => false
/-- == of flat things -/
def eqF (d e : D) : Bool :=
  match toPy d, toPy e with
  | some x, some y => PyData.eqv x y
  | _, _ => false
def inD (d : D) : D → R Bool
  | .tup ds => if flatD d = true ∧ ds.all flatD = true then .ok (ds.any fun z => eqF z d) else .bad
  | .lst ds => match toPy d, toPys ds with
    | some x, some ys => if shp x = true ∧ shp (.list ys) = true then .ok (ys.any fun z => PyData.eqv z x) else .bad
    | _, _ => .bad
  | _ => .bad
def R.map {a b : Type} (f : a → b) (r : R a) : R b := r.bind fun x => .ok (f x)
def cmpI (o : Cop) (i j : Int) : R Bool :=
  match o with
  | .lt => .ok (decide (i < j))
  | .le => .ok (decide (i ≤ j))
  | .gt => .ok (decide (j < i))
  | .ge => .ok (decide (j ≤ i))
  | _ => .bad
def cmpT (o : Cop) (ns ms : List Int) : R Bool :=
  match o with
  | .lt => .ok (HT.lexLt ns ms)
  | .le => .ok (!HT.lexLt ms ns)
  | .ge => .ok (!HT.lexLt ns ms)
  | _ => .bad
def ordD (o : Cop) : D → D → R Bool
  | .int i, .int j => cmpI o i j
  | .tup xs, .tup ys => match intsOf xs, intsOf ys with
    | some ns, some ms => cmpT o ns ms
    | _, _ => .bad
  | _, _ => .bad
def isD : D → D → R Bool
  | .bl a, .bl b => .ok (decide (a = b))
  | .non, .non => .ok true
  | .bl _, .non => .ok false
  | .int _, .non => .ok false
  | .str _, .non => .ok false
  | .lst _, .non => .ok false
  | .tup _, .non => .ok false
  | _, _ => .bad
def cmpD (o : Cop) (d e : D) : R Bool :=
  match o with
  | .eq => eqD d e
  | .ne => (eqD d e).map (!·)
  | .isin => inD d e
  | .notin => (inD d e).map (!·)
  | .is => isD d e
  | .isnot => (isD d e).map (!·)
  | o => ordD o d e
def maxI : List Int → Int
  | [] => 0
  | x :: xs => xs.foldl max x
def minI : List Int → Int
  | [] => 0
  | x :: xs => xs.foldl min x
def insI (x : Int) : List Int → List Int
  | [] => [x]
  | y :: r => if x ≤ y then x :: y :: r else y :: insI x r
def sortI : List Int → List Int
  | [] => []
  | x :: r => insI x (sortI r)
def intsIn : D → Option (List Int)
  | .lst xs => intsOf xs
  | .tup xs => intsOf xs
  | _ => none
def onInts (d : D) (f : List Int → R D) : R D :=
  match intsIn d with
  | some ns => f ns
  | none => .bad
def biD : Bi → List D → R D
  | .len, [.lst xs] => .ok (.int xs.length)
  | .len, [.tup xs] => .ok (.int xs.length)
  | .len, [.scr ns] => .ok (.int ns.length)
  | .len, [.str x] => if x.length ≤ 100000 then .ok (.int x.length) else .bad
  | .abs, [.int i] => .ok (.int (if i < 0 then -i else i))
  | .max, [.int i, .int j] => .ok (.int (if j > i then j else i))
  | .min, [.int i, .int j] => .ok (.int (if j < i then j else i))
  | .max, [d] => onInts d fun ns => if ns ≠ [] then .ok (.int (maxI ns)) else .bad
  | .min, [d] => onInts d fun ns => if ns ≠ [] then .ok (.int (minI ns)) else .bad
  | .sum, [.lst xs] => onInts (.lst xs) fun ns => .ok (.int ns.sum)
  | .sorted, [.lst xs] => onInts (.lst xs) fun ns => if ns.length < 64 then .ok (.lst ((sortI ns).map .int)) else .bad
  | .all, [.lst xs] => match blsOf xs with
    | some bs => .ok (.bl (bs.all id))
    | none => .bad
  | .any, [.lst xs] => match blsOf xs with
    | some bs => .ok (.bl (bs.any id))
    | none => .bad
  | .int, [.int i] => .ok (.int i)
  | .int, [.bl b] => .ok (.int (if b then 1 else 0))
  | .list, [.lst xs] => .ok (.lst xs)
  | .list, [.tup xs] => .ok (.lst xs)
  | .tuple, [.lst xs] => .ok (.tup xs)
  | .tuple, [.tup xs] => .ok (.tup xs)
  | _, _ => .bad
def tyD : D → String
  | .non => "NoneType"
  | .bl _ => "bool"
  | .int _ => "int"
  | .str _ => "str"
  | .lst _ => "list"
  | .tup _ => "tuple"
  | .dK _ _ => "dict"
  | .dT _ _ => "dict"
  | .scr _ => "list"
  | .fn _ => ""
def isiD (d : D) (t : String) : R D :=
  match d with
  | .fn _ => .bad
  | d => match kitB (tyD d) t with
    | some b => .ok (.bl b)
    | none => .bad
def mthD : Mt → D → D → R D
  | .index, .lst ds, d => match toPy d, toPys ds with
    | some x, some ys => if shp x = true ∧ shp (.list ys) = true ∧ (ys.any fun z => PyData.eqv z x) = true then .ok (.int (ys.findIdx fun z => PyData.eqv z x)) else .bad
    | _, _ => .bad
  | .count, .lst ds, .int i => match intsOf ds with
    | some ns => .ok (.int (ns.count i))
    | none => .bad
  | _, _, _ => .bad
def isLstB : D → Bool
  | .lst _ => true
  | _ => false
def atD (xs : List D) (i : Int) : R D :=
  match atI xs i with
  | some d => .ok d
  | none => .bad
def subD : D → D → R D
  | .lst xs, .int i => atD xs i
  | .tup xs, .int i => atD xs i
  | .scr ns, .int i => match atI ns i with
    | some n => .ok (.int n)
    | none => .bad
  | .str z, .int i => if z.length ≤ 100000 then (match atI z.cps.toList i with
    | some c => .ok (.str ⟨#[c]⟩)
    | none => .bad) else .bad
  | _, _ => .bad
def cutL {a : Type} (xs : List a) (lo hi : Option Int) : List a := (xs.drop (HT.sIx xs.length 0 lo)).take (HT.sIx xs.length xs.length hi - HT.sIx xs.length 0 lo)
def slcD (d : D) (lo hi : Option Int) : R D :=
  match d with
  | .lst xs => .ok (.lst (cutL xs lo hi))
  | .tup xs => .ok (.tup (cutL xs lo hi))
  | _ => .bad
def revD : D → R D
  | .lst xs => .ok (.lst xs.reverse)
  | _ => .bad
def rngI (lo hi : Int) : List D := (List.range (hi - lo).toNat).map fun (i : Nat) => .int (lo + i)
def bnd (i : Int) : Bool := decide (-1000000 ≤ i) && decide (i ≤ 1000000)
def lrngD : D → R (List D)
  | .int n => if bnd n = true then .ok (rngI 0 n) else .bad
  | _ => .bad
def zipD : List D → List D → List D
  | x :: xs, y :: ys => .tup [x, y] :: zipD xs ys
  | _, _ => []
def enmD : Nat → List D → List D
  | _, [] => []
  | i, x :: xs => .tup [.int i, x] :: enmD (i + 1) xs
def seqOf : D → Option (List D)
  | .lst xs => some xs
  | .tup xs => some xs
  | _ => none
def lzipD (d e : D) : R D := match seqOf d, seqOf e with
  | some xs, some ys => if xs.length ≤ 1000000 then .ok (.lst (zipD xs ys)) else .bad
  | _, _ => .bad
def itemsD : IK → D → D → R (List D)
  | .seq, .lst xs, _ => .ok xs
  | .seq, .tup xs, _ => .ok xs
  | .rng1, .int n, _ => if bnd n = true then .ok (rngI 0 n) else .bad
  | .rng2, .int m, .int n => if bnd m = true ∧ bnd n = true then .ok (rngI m n) else .bad
  | .zip, d, e => (match seqOf d, seqOf e with
    | some xs, some ys => .ok (zipD xs ys)
    | _, _ => .bad)
  | .enm, .lst xs, _ => .ok (enmD 0 xs)
  | _, _, _ => .bad
def dedup {a : Type} [DecidableEq a] : List a → List a
  | [] => []
  | x :: r => if x ∈ r then dedup r else x :: dedup r
/-- tuples of ints -/
def tupI (ns : List Int) : D := .tup (ns.map .int)
def tupsOf : List D → Option (List (List Int))
  | [] => some []
  | .tup xs :: r => match intsOf xs, tupsOf r with
    | some n, some ns => some (n :: ns)
    | _, _ => none
  | _ => none
def tupsIn : D → Option (List (List Int))
  | .lst (x :: xs) => tupsOf (x :: xs)
  | _ => none
def insT (x : List Int) : List (List Int) → List (List Int)
  | [] => [x]
  | y :: r => if HT.lexLt y x = true then y :: insT x r else x :: y :: r
def sortT : List (List Int) → List (List Int)
  | [] => []
  | x :: r => insT x (sortT r)
/-- of one length, no number below nought -/
def okTs (rows : List (List Int)) : Bool := rows.all fun r => decide (r.length = (rows.headD []).length) && decide (1 ≤ r.length) && r.all fun i => decide (0 ≤ i)
def ssetD (d : D) : R D := match tupsIn d with
  | some rows => if rows.length < 64 ∧ okTs rows = true then .ok (.lst ((sortT (dedup rows)).map tupI)) else .bad
  | none => onInts d fun ns => if ns.length < 64 then .ok (.lst ((sortI (dedup ns)).map .int)) else .bad
/-- sorted of tuples, no two alike -/
def srtD (d : D) : R D := match tupsIn d with
  | some rows => if rows.length < 64 ∧ okTs rows = true ∧ dedup rows = rows then .ok (.lst ((sortT rows).map tupI)) else .bad
  | none => .bad
def lsetD (d : D) : R D := match tupsIn d with
  | some rows => if rows.length < 64 then .ok (.int (dedup rows).length) else .bad
  | none => onInts d fun ns => if ns.length < 64 then .ok (.int (dedup ns).length) else .bad

def setL (ρ : Env) (i : Nat) (s : Slot) : R Env := if i < ρ.length then .ok (ρ.set i s) else .bad
def setSh : List Nat → List D → Env → R Env
  | [], [], ρ => .ok ρ
  | i :: is, d :: ds, ρ => (setL ρ i (.sh d)).bind (setSh is ds)
  | _, _, _ => .bad
def bindN (i : Nat) (is : List Nat) : D → Env → R Env
  | .tup [d, .tup ds], ρ => (setL ρ i (.sh d)).bind (setSh is ds)
  | _, _ => .bad
def bindG : Tg → D → Env → R Env
  | .nm i, d, ρ => setL ρ i (.sh d)
  | .tp is, .tup ds, ρ => setSh is ds ρ
  | .ntp i is, d, ρ => bindN i is d ρ
  | _, _, _ => .bad
def wipeE (ρ : Env) : List Nat → Env
  | [] => ρ
  | v :: vs => (wipeE ρ vs).set v .no
def isOwL : Option Slot → Bool
  | some (.ow (.lst _)) => true
  | _ => false
def isOw : Option Slot → Bool
  | some (.ow _) => true
  | _ => false
def ownFree (ρ : Env) (own : List Nat) : Bool := own.all fun i => !isOw ρ[i]?
def noX {a : Type} : R a → R a
  | .exc _ => .bad
  | r => r
def lcM (f : D → R (Option D)) : List D → R (List D)
  | [] => .ok []
  | d :: ds => (noX (f d)).bind fun y => (lcM f ds).bind fun ys => .ok (match y with
    | some z => z :: ys
    | none => ys)
def asB : D → R Bool
  | .bl b => .ok b
  | _ => .bad
def cstD : Cst → D
  | .non => .non
  | .bl b => .bl b
  | .int i => .int i
  | .str x => .str x
def brw (e : CE) (ρ : Env) (r : R D) : R D :=
  match e with
  | .var i => (match ρ[i]? with
    | some (.sh d) => .ok d
    | some (.ow d) => .ok d
    | _ => .bad)
  | _ => r
def asI : D → R Int
  | .int i => .ok i
  | _ => .bad
def isNo : CE → Bool
  | .no => true
  | _ => false
def optI (e : CE) (r : R D) : R (Option Int) := if isNo e = true then .ok none else r.bind fun d => (asI d).bind fun i => .ok (some i)
/-- the answer of a told deed -/
def toldR (C : Str → Option D) : R D → R D
  | .exc c => (match C c with
    | some (.fn x) => if x = c then .ok (.str c) else .bad
    | _ => .bad)
  | r => r

section
variable (Φ : Str → List D → R D) (C : Str → Option D)
mutual
def evE : CE → Env → R D
  | .no, _ => .bad
  | .var i, ρ => (match ρ[i]? with
    | some (.sh d) => .ok d
    | _ => .bad)
  | .cst c, _ => .ok (cstD c)
  | .dfn x, _ => .ok (.fn x)
  | .glb x, _ => (match C x with
    | some d => .ok d
    | none => .bad)
  | .lst es, ρ => (evL es ρ).bind fun ds => .ok (.lst ds)
  | .tup es, ρ => (evL es ρ).bind fun ds => .ok (.tup ds)
  | .bin o a b, ρ => (brw a ρ (evE a ρ)).bind fun x => (brw b ρ (evE b ρ)).bind fun y => binD o x y
  | .neg a, ρ => (evE a ρ).bind fun x => (asI x).bind fun i => .ok (.int (-i))
  | .cmp o a b, ρ => (brw a ρ (evE a ρ)).bind fun x => (brw b ρ (evE b ρ)).bind fun y => (cmpD o x y).map .bl
  | .chn o p a b c, ρ => (brw a ρ (evE a ρ)).bind fun x => (brw b ρ (evE b ρ)).bind fun y => (cmpD o x y).bind fun t =>
      if t = true then (brw c ρ (evE c ρ)).bind fun z => (cmpD p y z).map .bl else .ok (.bl false)
  | .and a b, ρ => (evE a ρ).bind fun x => (asB x).bind fun t => if t = true then evE b ρ else .ok (.bl false)
  | .or a b, ρ => (evE a ρ).bind fun x => (asB x).bind fun t => if t = true then .ok (.bl true) else evE b ρ
  | .one a, ρ => evE a ρ
  | .not a, ρ => (evE a ρ).bind fun x => (asB x).bind fun t => .ok (.bl (!t))
  | .ite c a b, ρ => (evE c ρ).bind fun x => (asB x).bind fun t => if t = true then evE a ρ else evE b ρ
  | .sub a i, ρ => (brw a ρ (evE a ρ)).bind fun x => (brw i ρ (evE i ρ)).bind fun y => subD x y
  | .slc a lo hi, ρ => (brw a ρ (evE a ρ)).bind fun x => (optI lo (evE lo ρ)).bind fun l => (optI hi (evE hi ρ)).bind fun h => slcD x l h
  | .rev a, ρ => (brw a ρ (evE a ρ)).bind revD
  | .cal f es, ρ => (evL es ρ).bind fun ds => Φ f ds
  | .calv i fl es, ρ => (match ρ[i]? with
    | some (.sh (.fn f)) => if f ∈ fl then (evL es ρ).bind fun ds => Φ f ds else .bad
    | _ => .bad)
  | .bi b es, ρ => (evLB es ρ).bind fun ds => biD b ds
  | .mth m o a, ρ => (brw o ρ (evE o ρ)).bind fun x => if isLstB x = true then (brw a ρ (evE a ρ)).bind fun y => mthD m x y else .bad
  | .isi a t, ρ => (brw a ρ (evE a ρ)).bind fun x => isiD x t
  | .lrng a, ρ => (evE a ρ).bind fun x => (lrngD x).map .lst
  | .trng a, ρ => (evE a ρ).bind fun x => (lrngD x).map .tup
  | .lzip a b, ρ => (brw a ρ (evE a ρ)).bind fun x => (brw b ρ (evE b ρ)).bind fun y => lzipD x y
  | .sset a, ρ => (brw a ρ (evE a ρ)).bind ssetD
  | .srt a, ρ => (brw a ρ (evE a ρ)).bind srtD
  | .lset a, ρ => (brw a ρ (evE a ρ)).bind lsetD
  | .lc k a b g own c e, ρ => if ownFree ρ own = true then (evE a ρ).bind fun x => (if isNo b = true then .ok .non else evE b ρ).bind fun y => (itemsD k x y).bind fun ds =>
      (lcM (fun d => (bindG g d (wipeE ρ own)).bind fun ρ' => (if isNo c = true then .ok true else (evE c ρ').bind asB).bind fun t => if t = true then (evE e ρ').bind fun z => .ok (some z) else .ok none) ds).bind fun ys => .ok (.lst ys) else .bad
  | .told e, ρ => toldR C (evE e ρ)
def evL : CL → Env → R (List D)
  | .nil, _ => .ok []
  | .cons e r, ρ => (evE e ρ).bind fun d => (evL r ρ).bind fun ds => .ok (d :: ds)
def evLB : CL → Env → R (List D)
  | .nil, _ => .ok []
  | .cons e r, ρ => (brw e ρ (evE e ρ)).bind fun d => (evLB r ρ).bind fun ds => .ok (d :: ds)
end

/-! ### statements -/
inductive Out where
  | nx (ρ : Env)
  | rt (d : D)
  | xc (c : Str) (ρ : Env)
  | bad
def Out.andThen : Out → (Env → Out) → Out
  | .nx ρ, k => k ρ
  | o, _ => o
/-- from a reckoning at ρ -/
def onR {a : Type} (ρ : Env) (r : R a) (k : a → Out) : Out :=
  match r with
  | .ok x => k x
  | .exc c => .xc c ρ
  | .bad => .bad
def relE (ρ : Env) (i : Nat) : Env :=
  match ρ[i]? with
  | some (.ow d) => ρ.set i (.sh d)
  | _ => ρ
def setO (ρ : Env) (i : Nat) (s : Slot) : Out :=
  match setL ρ i s with
  | .ok ρ' => .nx ρ'
  | _ => .bad
def ownable : D → Bool
  | .lst _ => true
  | .dK _ _ => true
  | .dT _ _ => true
  | _ => false
def forM (f : D → Env → Out) : List D → Env → Out
  | [], ρ => .nx ρ
  | d :: ds, ρ => (f d ρ).andThen (forM f ds)
def whlM (c : Env → R Bool) (f : Env → Out) : Nat → Env → Out
  | 0, _ => .bad
  | n + 1, ρ => onR ρ (c ρ) fun t => if t = true then (f ρ).andThen (whlM c f n) else .nx ρ
def appD (ρ : Env) (i : Nat) (d : D) : Out :=
  match ρ[i]? with
  | some (.ow (.lst ds)) => if ds.length < 1000000 then .nx (ρ.set i (.ow (.lst (ds ++ [d])))) else .bad
  | _ => .bad
def extD (ρ : Env) (i : Nat) (d : D) : Out :=
  match ρ[i]?, d with
  | some (.ow (.lst ds)), .lst es => if ds.length + es.length < 1000000 then .nx (ρ.set i (.ow (.lst (ds ++ es)))) else .bad
  | _, _ => .bad
def stoD (ρ : Env) (i : Nat) (k v : D) : Out :=
  match ρ[i]?, k with
  | some (.ow (.lst ds)), .int j => (match ixN ds.length j with
    | some n => .nx (ρ.set i (.ow (.lst (ds.set n v))))
    | none => .bad)
  | _, _ => .bad
def unpD (is : List Nat) (d : D) (ρ : Env) : Out :=
  match d with
  | .tup ds => (match setSh is ds ρ with
    | .ok ρ' => .nx ρ'
    | _ => .bad)
  | .lst ds => (match setSh is ds ρ with
    | .ok ρ' => .nx ρ'
    | _ => .bad)
  | _ => .bad
def bindO (g : Tg) (d : D) (ρ : Env) (k : Env → Out) : Out :=
  match bindG g d ρ with
  | .ok ρ' => k ρ'
  | _ => .bad
def fuel : Nat := 100000
mutual
def exS : CS → Env → Out
  | .set i e, ρ => onR ρ (evE Φ C e ρ) fun d => setO ρ i (.sh d)
  | .setO i e, ρ => onR ρ (evE Φ C e ρ) fun d => if ownable d = true then setO ρ i (.ow d) else .bad
  | .setLc i e, ρ => onR ρ (evE Φ C e ρ) fun d => setO ρ i (.sh d)
  | .setLcO i e, ρ => onR ρ (evE Φ C e ρ) fun d => if ownable d = true then setO ρ i (.ow d) else .bad
  | .par i j a b, ρ => onR ρ (evE Φ C a ρ) fun x => onR ρ (evE Φ C b ρ) fun y => (setO ρ i (.sh x)).andThen fun ρ' => setO ρ' j (.sh y)
  | .par3 i j k a b c, ρ => onR ρ (evE Φ C a ρ) fun x => onR ρ (evE Φ C b ρ) fun y => onR ρ (evE Φ C c ρ) fun z => (setO ρ i (.sh x)).andThen fun ρ' => (setO ρ' j (.sh y)).andThen fun ρ'' => setO ρ'' k (.sh z)
  | .opq, _ => .bad
  | .unp is e, ρ => onR ρ (evE Φ C e ρ) fun d => unpD is d ρ
  | .expr e, ρ => onR ρ (evE Φ C e ρ) fun _ => .nx ρ
  | .app i e, ρ => if isOwL ρ[i]? = true then onR ρ (evE Φ C e ρ) fun d => appD ρ i d else .bad
  | .ext i e, ρ => if isOwL ρ[i]? = true then onR ρ (evE Φ C e ρ) fun d => extD ρ i d else .bad
  | .sto i k v, ρ => if isOwL ρ[i]? = true then onR ρ (evE Φ C v ρ) fun y => onR ρ (evE Φ C k ρ) fun x => stoD ρ i x y else .bad
  | .ret e, ρ => onR ρ (evE Φ C e ρ) fun d => .rt d
  | .iff c t e, ρ => onR ρ ((evE Φ C c ρ).bind asB) fun b => if b = true then exB t ρ else exB e ρ
  | .for k a b g body, ρ => onR ρ ((evE Φ C a ρ).bind fun x => (if isNo b = true then .ok .non else evE Φ C b ρ).bind fun y => itemsD k x y) fun ds =>
      forM (fun d ρ => bindO g d ρ fun ρ' => exB body ρ') ds ρ
  | .whl c body, ρ => whlM (fun ρ => (evE Φ C c ρ).bind asB) (fun ρ => exB body ρ) fuel ρ
  | .rse c, ρ => .xc c ρ
def exB : CB → Env → Out
  | .nil, ρ => .nx ρ
  | .rel i r, ρ => exB r (relE ρ i)
  | .del i r, ρ => exB r (ρ.set i .no)
  | .cons s r, ρ => (exS s ρ).andThen fun ρ' => exB r ρ'
end
end
/-- a def: its names by slot, how many parameters, its body -/
structure CD where
  nm : List Str
  ps : List Str
  body : CB
def startE (n : Nat) (ds : List D) : Env := ds.map Slot.sh ++ List.replicate (n - ds.length) .no
def outR : Out → R D
  | .nx _ => .ok .non
  | .rt d => .ok d
  | .xc c _ => .exc c
  | .bad => .bad
def runD (Φ : Str → List D → R D) (C : Str → Option D) (cd : CD) (ds : List D) : R D :=
  if ds.length = cd.ps.length then outR (exB Φ C cd.body (startE cd.nm.length ds)) else .bad
def Phi (G : Str → Option CD) (C : Str → Option D) : Nat → Str → List D → R D
  | 0, _, _ => .bad
  | n + 1, f, ds => match G f with
    | some cd => runD (Phi G C n) C cd ds
    | none => .bad
end Lk
end Part_LkB
section Part_LkC
set_option Elab.async false
set_option linter.all false
set_option maxRecDepth 100000
namespace Lk
open PySem PySem.Spec PyProof.Rows L2

/-! ### the check: does the plain text say what the given one says -/
def kindB (sc : Scope) (x : Str) (k : NameKind) : Bool := decide (sc.names.lookup x = some k)
def isVarB (sc : Scope) (N : List Str) (i : Nat) (x : Str) : Bool :=
  decide (N[i]? = some x) && (kindB sc x .local || kindB sc x .cell || kindB sc x .free) && !(x == ("__debug__" : Str)) && !(x == ("__classdict__" : Str))
def isLocB (sc : Scope) (N : List Str) (i : Nat) (x : Str) : Bool := decide (N[i]? = some x) && (kindB sc x .local || kindB sc x .cell)
def isGlB (sc : Scope) (x : Str) : Bool := kindB sc x .globalImplicit && !(x == ("__debug__" : Str)) && !decide (x = ("__name__" : Str))
def bopA : Bop → Operator
  | .add => .Add
  | .sub => .Sub
  | .mul => .Mult
  | .fdiv => .FloorDiv
  | .mod => .Mod
  | .pow => .Pow
def copA : Cop → CmpOp
  | .eq => .Eq
  | .ne => .NotEq
  | .lt => .Lt
  | .le => .LtE
  | .gt => .Gt
  | .ge => .GtE
  | .isin => .In
  | .notin => .NotIn
  | .is => .Is
  | .isnot => .IsNot
def biN : Bi → Str
  | .len => "len"
  | .abs => "abs"
  | .max => "max"
  | .min => "min"
  | .sum => "sum"
  | .sorted => "sorted"
  | .all => "all"
  | .any => "any"
  | .int => "int"
  | .list => "list"
  | .tuple => "tuple"
def mtN : Mt → Str
  | .index => "index"
  | .count => "count"
/-- the built-in names that are taken as such -/
def blts : List Str := ["len", "abs", "max", "min", "sum", "sorted", "all", "any", "int", "list", "tuple", "isinstance", "range", "set", "zip", "enumerate", "bool", "str", "dict"]
/-- may stand as a test -/
def tOk : CE → Bool
  | .ite _ _ _ => false
  | .no => false
  | _ => true
def isLc : CE → Bool
  | .lc _ _ _ _ _ _ _ => true
  | _ => false
def ownS (N : List Str) (own : List Nat) : List (Str × Nat) := own.map fun i => (N.getD i "", i)
def chkNm (scope : Scope) (N : List Str) (i : Nat) : Expr → Bool
  | .Name x _ => isLocB scope N i x
  | _ => false
def chkNms (scope : Scope) (N : List Str) : List Nat → List Expr → Bool
  | [], [] => true
  | i :: is, e :: es => chkNm scope N i e && chkNms scope N is es
  | _, _ => false
def chkG (scope : Scope) (N : List Str) : Tg → Expr → Bool
  | .nm i, e => chkNm scope N i e
  | .tp is, .Tuple es _ _ => chkNms scope N is es
  | .ntp i is, .Tuple [e, .Tuple es _ _] _ _ => chkNm scope N i e && chkNms scope N is es
  | _, _ => false
def tgIn (own : List Nat) : Tg → Bool
  | .nm i => own.contains i
  | .tp is => is.all own.contains
  | .ntp i is => own.contains i && is.all own.contains
def isTupE : Expr → Bool
  | .Tuple _ _ _ => true
  | _ => false
def attrOk : Expr → Bool
  | .Name _ _ => true
  | .List _ _ => true
  | .Constant _ _ _ => true
  | _ => false
section
variable (N fs : List Str)
mutual
def chk (lm : Bool) (sc : Scope) : CE → Expr → Bool
  | .var i, .Name x _ => isVarB sc N i x
  | .cst .non, .Constant .none _ _ => true
  | .cst (.bl b), .Constant (.bool c) _ _ => b == c
  | .cst (.int b), .Constant (.int c) _ _ => decide (b = c)
  | .cst (.str b), .Constant (.str c) _ _ => decide (b = c)
  | .glb x, .Name y _ => decide (x = y) && isGlB sc y
  | .dfn x, .Name y _ => decide (x = y) && isGlB sc y && decide (x ∈ fs)
  | .lst es, .List xs _ => chkL lm sc es xs && decide (xs.length ≤ 1000)
  | .tup es, .Tuple xs _ _ => chkL lm sc es xs && decide (xs.length ≤ 1000)
  | .bin o a b, .BinOp x p y _ => decide (bopA o = p) && chk lm sc a x && chk lm sc b y
  | .neg a, .UnaryOp .USub x _ => chk lm sc a x
  | .cmp o a b, .Compare x [p] [y] _ => decide (copA o = p) && chk lm sc a x && chk lm sc b y
  | .chn o o' a b c, .Compare x [p, p'] [y, z] _ => decide (copA o = p) && decide (copA o' = p') && chk lm sc a x && chk lm sc b y && chk lm sc c z
  | .and a b, .BoolOp .And (x :: y :: r) pos => chk lm sc a x && tOk a && chk lm sc b (.BoolOp .And (y :: r) pos)
  | .or a b, .BoolOp .Or (x :: y :: r) pos => chk lm sc a x && tOk a && chk lm sc b (.BoolOp .Or (y :: r) pos)
  | .one a, .BoolOp _ [x] _ => chk lm sc a x && tOk a
  | .not a, .UnaryOp .Not x _ => chk lm sc a x && tOk a
  | .ite c a b, .IfExp z x y _ => chk lm sc c z && tOk c && chk lm sc a x && chk lm sc b y
  | .sub a i, .Subscript x y _ => chk lm sc a x && chk lm sc i y
  | .slc a lo hi, .Subscript x (.Slice l h none _) _ => chk lm sc a x &&
      (match l with | none => isNo lo | some e => !isNo lo && chk lm sc lo e) && (match h with | none => isNo hi | some e => !isNo hi && chk lm sc hi e)
  | .rev a, .Subscript x (.Slice none none (some (.UnaryOp .USub (.Constant (.int 1) _ _) _)) _) _ => chk lm sc a x
  | .cal f (.cons a r), .Call (.Name x _) (e :: es) [] _ => decide (f = x) && decide (f ∈ fs) && isGlB sc x && chk lm sc a e && chkL lm sc r es
  | .calv i fl (.cons a r), .Call (.Name x _) (e :: es) [] _ => isVarB sc N i x && (fl.all fun f => decide (f ∈ fs)) && chk lm sc a e && chkL lm sc r es
  | .lzip a b, .Call (.Name f _) [.Call (.Name g _) [x, y] [] _] [] _ => decide (f = ("list" : Str)) && isGlB sc f && decide (g = ("zip" : Str)) && isGlB sc g && chk lm sc a x && chk lm sc b y
  | .bi b (.cons a r), .Call (.Name x _) (e :: es) [] _ => decide (biN b = x) && isGlB sc x && chk lm sc a e && chkL lm sc r es
  | .mth m o a, .Call (.Attribute x n ap) [y] [] cp => decide (mtN m = n) && (ap.endLine == cp.line) && attrOk x && chk lm sc o x && chk lm sc a y
  | .isi a t, .Call (.Name f _) [x, .Name y _] [] _ => decide (f = ("isinstance" : Str)) && isGlB sc f && chk lm sc a x && decide (y = Str.ofString t) && isGlB sc y && ["int", "bool", "str", "list", "tuple", "dict"].contains t
  | .lrng a, .Call (.Name f _) [.Call (.Name g _) [x] [] _] [] _ => decide (f = ("list" : Str)) && isGlB sc f && decide (g = ("range" : Str)) && isGlB sc g && chk lm sc a x
  | .trng a, .Call (.Name f _) [.Call (.Name g _) [x] [] _] [] _ => decide (f = ("tuple" : Str)) && isGlB sc f && decide (g = ("range" : Str)) && isGlB sc g && chk lm sc a x
  | .sset a, .Call (.Name f _) [.Call (.Name g _) [x] [] _] [] _ => decide (f = ("sorted" : Str)) && isGlB sc f && decide (g = ("set" : Str)) && isGlB sc g && chk lm sc a x
  | .srt a, .Call (.Name f _) [x] [] _ => decide (f = ("sorted" : Str)) && isGlB sc f && chk lm sc a x
  | .lset a, .Call (.Name f _) [.Call (.Name g _) [x] [] _] [] _ => decide (f = ("len" : Str)) && isGlB sc f && decide (g = ("set" : Str)) && isGlB sc g && chk lm sc a x
  | .lc k a b g own c e, .ListComp elt [⟨tg, iter, ifs, as⟩] scope _ => decide (as = 0) && blkC N sc scope (ownS N own) && chkG scope N g tg && tgIn own g &&
      (match k, iter with
        | .seq, x => chk lm sc a x && isNo b
        | .rng1, .Call (.Name f _) [x] [] _ => decide (f = ("range" : Str)) && isGlB sc f && chk lm sc a x && isNo b
        | .rng2, .Call (.Name f _) [x, y] [] _ => decide (f = ("range" : Str)) && isGlB sc f && chk lm sc a x && chk lm sc b y
        | .zip, .Call (.Name f _) [x, y] [] _ => decide (f = ("zip" : Str)) && isGlB sc f && chk lm sc a x && chk lm sc b y && isTupE tg
        | .enm, .Call (.Name f _) [x] [] _ => decide (f = ("enumerate" : Str)) && isGlB sc f && chk lm sc a x && isNo b && isTupE tg
        | _, _ => false) &&
      (match ifs with | [] => isNo c | [z] => chk false (relS scope sc) c z && tOk c | _ => false) && chk false (relS scope sc) e elt
  | .told e, .Call (.Name f _) [.Lambda ⟨[], [], none, [], [], none, []⟩ body scope _] [] _ => decide (f = ("_law_told" : Str)) && isGlB sc f && lm && LamX.lamSB sc scope && chk false scope e body
  | _, _ => false
def chkL (lm : Bool) (sc : Scope) : CL → List Expr → Bool
  | .nil, [] => true
  | .cons e r, x :: xs => chk lm sc e x && chkL lm sc r xs
  | _, _ => false
end
/-- stores are not swapped -/
def noSwB (sc : Scope) (ts : List Expr) : Expr → Bool
  | .Tuple vs _ _ => vs.all (foldedForSure 8) || decide ((ts.filterMap fun
      | .Name id _ => if decide (sc.names.lookup id = some .local) = true then some id else none
      | _ => none).length < ts.length)
  | _ => true
/-- which texts make a new list -/
def isNew : CE → Bool
  | .lst _ => true
  | .lc _ _ _ _ _ _ _ => true
  | .lrng _ => true
  | .bin .add _ (.lst _) => true
  | .bin .mul (.lst _) _ => true
  | _ => false
/-- a name's store that the comprehension itself does -/
def swB (sc : Scope) (v : Expr) (x : Str) (py : Pos) : Bool :=
  match v with
  | .ListComp _ _ s p => kindB sc x .local && (py.line == p.line) && !(s.names.any fun (n, k) => n == x && (k == .local || k == .cell))
  | _ => false
def chkI (lm : Bool) (sc : Scope) (k : IK) (a b : CE) (tg iter : Expr) : Bool :=
  match k, iter with
  | .seq, x => chk N fs lm sc a x && isNo b
  | .rng1, .Call (.Name f _) [x] [] _ => decide (f = ("range" : Str)) && isGlB sc f && chk N fs lm sc a x && isNo b
  | .rng2, .Call (.Name f _) [x, y] [] _ => decide (f = ("range" : Str)) && isGlB sc f && chk N fs lm sc a x && chk N fs lm sc b y
  | .zip, .Call (.Name f _) [x, y] [] _ => decide (f = ("zip" : Str)) && isGlB sc f && chk N fs lm sc a x && chk N fs lm sc b y && isTupE tg
  | .enm, .Call (.Name f _) [x] [] _ => decide (f = ("enumerate" : Str)) && isGlB sc f && chk N fs lm sc a x && isNo b && isTupE tg
  | _, _ => false
section
variable (xs : List Str) (lm : Bool)
mutual
def chkS (sc : Scope) : CS → Stmt → Bool
  | .set i e, .Assign [.Name x py] v _ => isLocB sc N i x && chk N fs lm sc e v && (!swB sc v x py || isLc e)
  | .setO i e, .Assign [.Name x py] v _ => isLocB sc N i x && chk N fs lm sc e v && (!swB sc v x py || isLc e) && isNew e
  | .setLc i e, .Assign [.Name x py] v _ => isLocB sc N i x && isLc e && chk N fs lm sc e v && swB sc v x py
  | .setLcO i e, .Assign [.Name x py] v _ => isLocB sc N i x && isLc e && chk N fs lm sc e v && swB sc v x py
  | .par i j a b, .Assign [.Tuple [.Name x px, .Name y py] _ _] (.Tuple [v, w] _ _) _ => isLocB sc N i x && kindB sc x .local && isLocB sc N j y && kindB sc y .local && decide (i ≠ j) && (py.line == px.line) && chk N fs lm sc a v && chk N fs lm sc b w &&
      !([v, w].all (foldedForSure 8)) && !([v, w].all (constantsAlone 8))
  | .par3 i j k a b c, .Assign [.Tuple [.Name x px, .Name y py, .Name z pz] _ _] (.Tuple [u, v, w] _ _) _ => isLocB sc N i x && kindB sc x .local && isLocB sc N j y && kindB sc y .local && isLocB sc N k z && kindB sc z .local && decide (i ≠ j) && decide (i ≠ k) && decide (j ≠ k) && (py.line == px.line) && (pz.line == px.line) && chk N fs lm sc a u && chk N fs lm sc b v && chk N fs lm sc c w &&
      !([u, v, w].all (foldedForSure 8)) && !([u, v, w].all (constantsAlone 8))
  | .opq, _ => true
  | .unp is e, .Assign [.Tuple es _ _] v _ => chkNms sc N is es && chk N fs lm sc e v && noSwB sc es v
  | .expr e, .Expr v _ => chk N fs lm sc e v && !isLc e
  | .app i e, .Expr (.Call (.Attribute (.Name x _) m ap) [v] [] cp) _ => (ap.endLine == cp.line) && isVarB sc N i x && decide (m = ("append" : Str)) && chk N fs lm sc e v
  | .ext i e, .Expr (.Call (.Attribute (.Name x _) m ap) [v] [] cp) _ => (ap.endLine == cp.line) && isVarB sc N i x && decide (m = ("extend" : Str)) && chk N fs lm sc e v
  | .sto i k v, .Assign [.Subscript (.Name x _) y _] w _ => isVarB sc N i x && chk N fs lm sc k y && chk N fs lm sc v w && !isLc v
  | .ret e, .Return (some v) _ => chk N fs lm sc e v
  | .iff c t e, .If z xs ys _ => chk N fs lm sc c z && tOk c && chkB sc t xs && chkB sc e ys
  | .for k a b g body, .For tg iter xs [] _ => chkI N fs lm sc k a b tg iter && chkG sc N g tg && chkB sc body xs
  | .whl c body, .While z xs [] _ => chk N fs lm sc c z && tOk c && chkB sc body xs
  | .rse c, .Raise (some (.Call (.Name x _) [.Constant (.str _) _ _] [] _)) none _ => decide (c = x) && decide (c ∈ xs) && isGlB sc x
  | _, _ => false
def chkB (sc : Scope) : CB → List Stmt → Bool
  | .nil, [] => true
  | .rel _ r, xs => chkB sc r xs
  | .del _ r, xs => chkB sc r xs
  | .cons s r, x :: xs => chkS sc s x && chkB sc r xs
  | _, _ => false
end
end
end
end Lk
end Part_LkC
section Part_LkD
set_option Elab.async false
set_option linter.all false
set_option maxRecDepth 100000
set_option maxHeartbeats 1000000
namespace Lk
open PySem PySem.Spec PyProof.Rows L2

/-! ### values as they may be read in H, what they hold in S -/
section
variable (K : PySem.W.Frag) (mg : Str → Option Value)
def RH (S H : Hp) (v : V) : D → Prop
  | .lst ds => ∃ a vs, v = .ref a ∧ H a = some (.lst vs) ∧ vs.length ≤ sizeLine ∧ RepL K mg S vs ds
  | .dK ks ds => ∃ a, ∃ kvs : List (Key × V), v = .ref a ∧ H a = some (.dK kvs) ∧ kvs.map (·.1) = ks ∧ kvs.length ≤ sizeLine ∧ RepL K mg S (kvs.map (·.2)) ds
  | .dT ks ds => ∃ a, ∃ kvs : List (List Key × V), v = .ref a ∧ H a = some (.dT kvs) ∧ kvs.map (·.1) = ks ∧ kvs.length ≤ sizeLine ∧ RepL K mg S (kvs.map (·.2)) ds
  | d => Rep K mg S v d
inductive RHL (S H : Hp) : List V → List D → Prop
  | nil : RHL S H [] []
  | cons {v : V} {vs : List V} {d : D} {ds : List D} : RH K mg S H v d → RHL S H vs ds → RHL S H (v :: vs) (d :: ds)
end
section
variable {K : PySem.W.Frag} {mg : Str → Option Value} {T : List (Addr × Str)} {F S S' H H' : Hp} {σ : St} {ρ : Env} {v : V} {d : D}
theorem RH.of_rep (h : Rep K mg S v d) (sb : Sub S H) : RH K mg S H v d := by
  cases h with
  | lst h z r => exact ⟨_, _, rfl, sb _ _ h, z, r⟩
  | dK h k z r => exact ⟨_, _, rfl, sb _ _ h, k, z, r⟩
  | dT h k z r => exact ⟨_, _, rfl, sb _ _ h, k, z, r⟩
  | non => exact .non
  | bl b => exact .bl b
  | int b => exact .int b
  | str b => exact .str b
  | tup h z r => exact .tup h z r
  | fn h => exact .fn h
  | scr h => exact .scr h
theorem ER.rh (E : ER K mg T F S H σ ρ) (h : RB K mg S σ ρ v d) : RH K mg S H v d := by
  rcases h with h | ⟨i, h1, h2⟩
  · exact .of_rep h E.sub
  · obtain ⟨a, q1, q2, q3, q4⟩ := E.ow i d h1
    rw [h2] at q1
    cases q1
    cases d with
    | lst ds => obtain ⟨vs, e, z, r⟩ := q4; exact ⟨a, vs, rfl, e, z, r⟩
    | dK ks ds => obtain ⟨vs, e, k, z, r⟩ := q4; exact ⟨a, vs, rfl, e, k, z, r⟩
    | dT ks ds => obtain ⟨vs, e, k, z, r⟩ := q4; exact ⟨a, vs, rfl, e, k, z, r⟩
    | _ => exact q4.elim
theorem RH.int {i : Int} (h : RH K mg S H v (.int i)) : v = .int i := by cases (show Rep K mg S v (.int i) from h); rfl
theorem RH.bl {i : Bool} (h : RH K mg S H v (.bl i)) : v = .bl i := by cases (show Rep K mg S v (.bl i) from h); rfl
theorem RH.str {i : Str} (h : RH K mg S H v (.str i)) : v = .str i := by cases (show Rep K mg S v (.str i) from h); rfl
theorem RH.non (h : RH K mg S H v .non) : v = .non := by cases (show Rep K mg S v .non from h); rfl
theorem RH.tup {ds : List D} (h : RH K mg S H v (.tup ds)) (sb : Sub S H) : ∃ a vs, v = .ref a ∧ SqT K H a vs ∧ vs.length ≤ sizeLine ∧ RepL K mg S vs ds ∧ Rep K mg S v (.tup ds) := by
  have h' : Rep K mg S v (.tup ds) := h
  cases h' with
  | tup a b c => exact ⟨_, _, rfl, sb.ext.sqT a, b, c, .tup a b c⟩
theorem RH.scr {ns : List Int} (h : RH K mg S H v (.scr ns)) (sb : Sub S H) : ∃ a, v = .ref a ∧ SqL K H a (ns.map V.int) := by
  have h' : Rep K mg S v (.scr ns) := h
  cases h' with
  | scr a => exact ⟨_, rfl, sb.ext.sqL a⟩
theorem RHL.length : ∀ {vs : List V} {ds : List D}, RHL K mg S H vs ds → vs.length = ds.length
  | _, _, .nil => rfl
  | _, _, .cons _ r => congrArg (· + 1) (RHL.length r)
theorem RHL.of : ∀ {vs : List V} {ds : List D}, RepL K mg S vs ds → Sub S H → RHL K mg S H vs ds
  | _, _, .nil, _ => .nil
  | _, _, .cons h r, sb => .cons (.of_rep h sb) (RHL.of r sb)
mutual
theorem dp_of (sb : Sub S H) : ∀ {d : D} {v : V} {p : PyData}, Rep K mg S v d → toPy d = some p → Dp K H v p
  | _, _, _, .non, e => by simp only [toPy] at e; cases e; exact .non
  | _, _, _, .bl b, e => by simp only [toPy] at e; cases e; exact .bl b
  | _, _, _, .int b, e => by simp only [toPy] at e; cases e; exact .int b
  | _, _, _, .str b, e => by simp only [toPy] at e; cases e; exact .str b
  | .lst ds, _, _, .lst h z r, e => by
    simp only [toPy] at e
    cases q : toPys ds with
    | none => rw [q] at e; cases e
    | some ps => rw [q] at e; cases e; exact .lst (.inl (.inl (sb _ _ h))) (dps_of sb r q)
  | .tup ds, _, _, .tup h z r, e => by
    simp only [toPy] at e
    cases q : toPys ds with
    | none => rw [q] at e; cases e
    | some ps => rw [q] at e; cases e; exact .tup (sb.ext.sqT h) (dps_of sb r q)
  | _, _, _, .dK _ _ _ _, e => by simp only [toPy] at e; cases e
  | _, _, _, .dT _ _ _ _, e => by simp only [toPy] at e; cases e
  | _, _, _, .fn _, e => by simp only [toPy] at e; cases e
  | .scr ns, _, _, .scr h, e => by
    simp only [toPy] at e; cases e
    refine .lst (sb.ext.sqL h) ?_
    clear h
    induction ns with
    | nil => exact .nil
    | cons n ns ih => exact .cons (.int n) ih
theorem dps_of (sb : Sub S H) : ∀ {ds : List D} {vs : List V} {ps : List PyData}, RepL K mg S vs ds → toPys ds = some ps → DpAll K H vs ps
  | _, _, _, .nil, e => by simp only [toPys] at e; cases e; exact .nil
  | d :: ds, _, _, .cons h r, e => by
    simp only [toPys] at e
    cases q1 : toPy d with
    | none => rw [q1] at e; cases e
    | some p =>
      cases q2 : toPys ds with
      | none => rw [q1, q2] at e; cases e
      | some ps => rw [q1, q2] at e; cases e; exact .cons (dp_of sb h q1) (dps_of sb r q2)
end
theorem RH.dp {p : PyData} (h : RH K mg S H v d) (sb : Sub S H) (e : toPy d = some p) : Dp K H v p := by
  cases d with
  | lst ds =>
    obtain ⟨a, vs, rfl, h1, z, r⟩ := h
    simp only [toPy] at e
    cases q : toPys ds with
    | none => rw [q] at e; cases e
    | some ps => rw [q] at e; cases e; exact .lst (.inl (.inl h1)) (dps_of sb r q)
  | dK ks ds => simp only [toPy] at e; cases e
  | dT ks ds => simp only [toPy] at e; cases e
  | _ => exact dp_of sb h e
end

/-! ### operations told of data -/
section
variable (K : PySem.W.Frag) (mg : Str → Option Value)
/-- the two ends of an operation: a value that stands, or a new object -/
def EndsD (S H : Hp) (z : D) (Q : VK) : Prop :=
  (∀ v, Rep K mg S v z → Q v H) ∧ ∀ p o, H p = none → (∀ ps, o ≠ .tbl ps) → Rep K mg (upd S p o) (.ref p) z → Q (.ref p) (upd H p o)
def OpS (g : D → D → R D) (r : R2) : Prop := ∀ (S H : Hp) (x y : V) (d e z : D) (Q : VK), Sub S H → RH K mg S H x d → RH K mg S H y e → g d e = .ok z → EndsD K mg S H z Q → r x y H Q
def CaS (g : List D → R D) (r : List V → Hp → VK → Prop) : Prop := ∀ (S H : Hp) (xs : List V) (ds : List D) (z : D) (Q : VK), Sub S H → RHL K mg S H xs ds → g ds = .ok z → EndsD K mg S H z Q → r xs H Q
end
def NoX2 (g : D → D → R D) : Prop := ∀ d e c, g d e ≠ .exc c
def NoX1 (g : List D → R D) : Prop := ∀ d c, g d ≠ .exc c
theorem ne_tbl_lst (vs : List V) : ∀ ps, HO.lst vs ≠ .tbl ps := fun ps z => nomatch z
theorem ne_tbl_tup (vs : List V) : ∀ ps, HO.tup vs ≠ .tbl ps := fun ps z => nomatch z
section
variable {K : PySem.W.Frag} {mg : Str → Option Value} {S H : Hp} {z : D} {Q : VK}
theorem sub_free (sb : Sub S H) {p : Addr} (hp : H p = none) : S p = none := by
  cases q : S p with
  | none => rfl
  | some u => rw [sb _ _ q] at hp; cases hp
theorem ext_upd (sb : Sub S H) {p : Addr} (hp : H p = none) (o : HO) : Ext S (upd S p o) := fun b u e _ => by
  rw [upd_ne (ne_of_none e (sub_free sb hp))]; exact e
theorem EndsD.int {i : Int} (h : EndsD K mg S H (.int i) Q) : Q (.int i) H := h.1 _ (.int i)
theorem EndsD.bl {i : Bool} (h : EndsD K mg S H (.bl i) Q) : Q (.bl i) H := h.1 _ (.bl i)
theorem EndsD.str {i : Str} (h : EndsD K mg S H (.str i) Q) : Q (.str i) H := h.1 _ (.str i)
theorem EndsD.lst {ds : List D} {vs : List V} (h : EndsD K mg S H (.lst ds) Q) (sb : Sub S H) (r : RepL K mg S vs ds) (zl : vs.length ≤ sizeLine) (p : Addr) (hp : H p = none) : Q (.ref p) (upd H p (.lst vs)) :=
  h.2 p _ hp (ne_tbl_lst _) (.lst upd_same zl (r.ext (ext_upd sb hp _)))
theorem EndsD.tup {ds : List D} {vs : List V} (h : EndsD K mg S H (.tup ds) Q) (sb : Sub S H) (r : RepL K mg S vs ds) (zl : vs.length ≤ sizeLine) (p : Addr) (hp : H p = none) : Q (.ref p) (upd H p (.tup vs)) :=
  h.2 p _ hp (ne_tbl_tup _) (.tup (.inl (.inl upd_same)) zl (r.ext (ext_upd sb hp _)))
end
theorem small6 {n : Nat} (h : n ≤ 1000000) : n ≤ sizeLine := by rw [sizeLine_eq]; omega

/-! ### two-place operations -/
section
variable {X : Cx}
theorem OpR_imp {f : Value → Value → Sem Value} {r r' : R2} (h : OpR X f r) (i : ∀ x y H Q, r' x y H Q → r x y H Q) : OpR X f r' := fun pins s σ H x y v u Q I rx ry q => h pins s σ H x y v u Q I rx ry (i x y H Q q)
def rAddD (K : PySem.W.Frag) : R2 := fun x y H Q => rI0 (fun i j => .int (i + j)) x y H Q ∨ (∃ i j, x = .str i ∧ y = .str j ∧ i.length + j.length ≤ sizeLine ∧ Q (.str (i ++ j)) H) ∨ rCat x y H Q ∨ rCatA K x y H Q
theorem or_add : OpR X (binaryOp .Add) (rAddD X.K) := op_add.or (op_add_str.or (op_cat.or op_catA))
theorem os_add {K : PySem.W.Frag} {mg : Str → Option Value} : OpS K mg (binD .add) (rAddD K) := by
  intro S H x y d e z Q sb hx hy hg hQ
  cases d <;> cases e <;> simp only [binD] at hg <;> try (cases hg)
  case int.int i j =>
    rw [hx.int, hy.int]
    exact .inl ⟨i, j, rfl, rfl, hQ.int⟩
  case str.str i j =>
    split at hg <;> cases hg
    rename_i hl
    rw [hx.str, hy.str]
    exact .inr (.inl ⟨i, j, rfl, rfl, small6 (by omega), hQ.str⟩)
  case lst.lst xs ys =>
    split at hg <;> cases hg
    rename_i hl
    obtain ⟨a, vs, rfl, h1, z1, r1⟩ := hx
    obtain ⟨b, us, rfl, h2, z2, r2⟩ := hy
    have e1 := r1.length
    have e2 := r2.length
    refine .inr (.inr (.inl ⟨a, b, vs, us, rfl, rfl, h1, h2, small6 (by omega), fun p hp => ?_⟩))
    exact hQ.lst sb (r1.append r2) (by rw [List.length_append]; exact small6 (by omega)) p hp
  case tup.tup xs ys =>
    split at hg <;> cases hg
    rename_i hl
    obtain ⟨a, vs, rfl, h1, z1, r1, p1⟩ := hx.tup sb
    obtain ⟨b, us, rfl, h2, z2, r2, p2⟩ := hy.tup sb
    have e1 := r1.length
    have e2 := r2.length
    refine .inr (.inr (.inr ⟨a, b, vs, us, rfl, rfl, h1, h2, small6 (by omega), fun ev => ?_, fun ev eu => ?_, fun ev eu p hp => ?_⟩))
    · subst ev
      cases r1
      exact hQ.1 _ p2
    · subst eu
      cases r2
      rw [List.append_nil] at hQ
      exact hQ.1 _ p1
    · exact hQ.tup sb (r1.append r2) (by rw [List.length_append]; exact small6 (by omega)) p hp
theorem os_sub {K : PySem.W.Frag} {mg : Str → Option Value} : OpS K mg (binD .sub) (rI0 fun i j => .int (i - j)) := by
  intro S H x y d e z Q sb hx hy hg hQ
  cases d <;> cases e <;> simp only [binD] at hg <;> try (cases hg)
  case int.int i j =>
    rw [hx.int, hy.int]
    exact ⟨i, j, rfl, rfl, hQ.int⟩
/-- tuple * 1 is the tuple -/
theorem log2_lt {n k : Nat} (h : n < 2 ^ k) (hk : 0 < k) : n.log2 < k := by
  by_cases e : n = 0
  · subst e; simpa using hk
  · exact (Nat.log2_lt e).mpr h
def rMulD (K : PySem.W.Frag) : R2 := fun x y H Q => rI CMul (fun i j => .int (i * j)) x y H Q ∨ rI CMulW (fun i j => .int (i * j)) x y H Q ∨ rRep x y H Q ∨ rRepT K x y H Q
theorem or_mul : OpR X (binaryOp .Mult) (rMulD X.K) := op_mul.or (op_mulW.or (op_rep.or op_repT))
def rDivD : R2 := rI CDivW fun i j => .int (i / j)
theorem os_div {K : PySem.W.Frag} {mg : Str → Option Value} : OpS K mg (binD .fdiv) rDivD := by
  intro S H x y d e z Q sb hx hy hg hQ
  cases d <;> cases e <;> simp only [binD] at hg <;> try (cases hg)
  case int.int i j =>
    split at hg <;> cases hg
    rename_i hl
    rw [hx.int, hy.int]
    exact ⟨i, j, rfl, rfl, wide_div (b := 1000) hl.1 hl.2 (by decide) (by decide), hQ.int⟩
theorem os_mod {K : PySem.W.Frag} {mg : Str → Option Value} : OpS K mg (binD .mod) (rI (fun _ j => 0 < j) fun i j => .int (i % j)) := by
  intro S H x y d e z Q sb hx hy hg hQ
  cases d <;> cases e <;> simp only [binD] at hg <;> try (cases hg)
  case int.int i j =>
    split at hg <;> cases hg
    rename_i hl
    rw [hx.int, hy.int]
    exact ⟨i, j, rfl, rfl, hl, hQ.int⟩
theorem os_pow {K : PySem.W.Frag} {mg : Str → Option Value} : OpS K mg (binD .pow) (rI CPow fun i j => .int (i ^ j.toNat)) := by
  intro S H x y d e z Q sb hx hy hg hQ
  cases d <;> cases e <;> simp only [binD] at hg <;> try (cases hg)
  case int.int i j =>
    split at hg <;> cases hg
    rename_i hl
    rw [hx.int, hy.int]
    exact ⟨i, j, rfl, rfl, ⟨hl.1, by have := hl.2.1; omega, hl.2.2⟩, hQ.int⟩
end
end Lk
end Part_LkD
section Part_LkE
set_option Elab.async false
set_option linter.all false
set_option maxRecDepth 100000
set_option maxHeartbeats 4000000
namespace Lk
open PySem PySem.Spec PyProof.Rows L2
/-- a tuple times 1 is that tuple itself -/
theorem tuple_mul1 (l : Addr) (items : Array Value) (n : Nat) (dd : Option Addr) (sl : Array (Option Value)) (u : Tok) :
    Meets (Builtin.«tuple.__mul__» ⟨[.ref l, .int 1 u], []⟩) (fun _ R s => s.heap.get? l = some { cls := .type "tuple", dict := dd, data := .seq items n, slots := sl } ∧
      R (.ok (.ret (Value.ref l))) s) :=
  .of_wp fun _ _ _ _ ⟨_, _, _, _, _⟩ ⟨at_l, q⟩ => by
    have idx := AutoSeq1.idx_int
    wp_walk using wpAny_loadPart' at_l
    exact ⟨_, rfl, q⟩
section
variable {X : Cx}
def rRepT1 (K : PySem.W.Frag) : R2 := fun x y H Q => ∃ l xs, x = .ref l ∧ y = .int 1 ∧ SqT K H l xs ∧ Q (.ref l) H
theorem op_repT1 : OpR X (binaryOp .Mult) (rRepT1 X.K) := fun pins s σ H x y v u Q I rx ry ⟨l, xs, ex, ey, tup, q⟩ => by
  subst ex ey
  obtain rfl : v = .ref l := rx
  obtain ⟨tk, rfl⟩ : ∃ tk, u = .int 1 tk := ry
  obtain ⟨its, _, ⟨⟨_, dd, _, sl⟩, at_l, rfl, n, rfl⟩, _⟩ := I.tuple tup
  have ty : s.TypeIs (.ref l) "tuple" := ⟨_, at_l, rfl⟩
  have itself : wpAny (model X.prog X.w) X.A (call (.builtin "tuple.__mul__") [.ref l, .int 1 tk]) (EP X pins σ Q) X.xe s :=
    call_meets F.slot_tuple_mul ty F.entry_tuple_mul (F.args_tuple_mul_2 _ _) (tuple_mul1 l its.toArray n dd sl tk) ⟨at_l, .ref l, H, I, rfl, q⟩
  refine wpAny_binaryOp_repeat_ref (by decide) ty (fun s' => typeIs_int s' 1 tk) noFill_tuple_mul F.fills_int_mul F.slot_int_rmul repeat_tuple F.slot_int_index.lookup ?_
  exact call_meets F.slot_int_rmul (typeIs_int s 1 tk) F.entry_int_rmul (F.args_int_rmul_2 _ _) (int_rmul_tuple 1 tk l its.toArray n dd sl) ⟨at_l, rfl, ty, itself⟩
def rMulE (K : PySem.W.Frag) : R2 := fun x y H Q => rMulD K x y H Q ∨ rRepT1 K x y H Q
theorem or_mulE : OpR X (binaryOp .Mult) (rMulE X.K) := or_mul.or op_repT1
theorem rep_len {α : Type} (xs : List α) (k : Nat) : (List.replicate k xs).flatten.length = k * xs.length := by
  induction k with
  | zero => simp
  | succ k ih => rw [List.replicate_succ, List.flatten_cons, List.length_append, ih, Nat.succ_mul]; omega
theorem os_mul {K : PySem.W.Frag} {mg : Str → Option Value} : OpS K mg (binD .mul) (rMulE K) := by
  intro S H x y d e z Q sb hx hy hg hQ
  cases d <;> cases e <;> simp only [binD] at hg <;> try (cases hg)
  case int.int i j =>
    split at hg <;> cases hg
    rename_i hl
    rw [hx.int, hy.int]
    unfold mulOk at hl
    simp only [Bool.or_eq_true, Bool.and_eq_true, decide_eq_true_eq] at hl
    have two : (2 : Nat) ^ 63 < 2 ^ 64 := by decide
    rcases hl with (hl | hl) | ⟨h1, h2⟩
    · refine .inl (.inl ⟨i, j, rfl, rfl, .inl ⟨?_, ?_⟩, hQ.int⟩) <;> omega
    · refine .inl (.inl ⟨i, j, rfl, rfl, .inr ⟨?_, ?_⟩, hQ.int⟩) <;> omega
    · exact .inl (.inr (.inl ⟨i, j, rfl, rfl, wide_mul h1 h2 (by decide) (by decide) (by decide), hQ.int⟩))
  case lst.int xs k =>
    split at hg <;> cases hg
    rename_i hl
    obtain ⟨h0, h1, h2⟩ := hl
    obtain ⟨a, vs, rfl, q1, z1, r1⟩ := hx
    rw [hy.int]
    have e1 := r1.length
    have a1 : k.toNat * vs.length ≤ 1000 * 1000 := Nat.mul_le_mul (by omega) (by omega)
    refine .inl (.inr (.inr (.inl ⟨a, k, vs, rfl, rfl, q1, by omega, by omega, ?_, fun p hp => ?_⟩)))
    · rw [Nat.mul_comm]; exact small6 (by omega)
    · exact hQ.lst sb (r1.rep k.toNat) (by rw [rep_len]; exact small6 (by omega)) p hp
  case tup.int xs k =>
    split at hg <;> cases hg
    rename_i hl
    obtain ⟨h0, h1, h2, h3⟩ := hl
    obtain ⟨a, vs, rfl, q1, z1, r1, p1⟩ := hx.tup sb
    rw [hy.int]
    have e1 := r1.length
    have hne : vs ≠ [] := fun z => by
      subst z
      exact h3 (List.eq_nil_of_length_eq_zero e1.symm)
    by_cases h : k = 1
    · subst h
      refine .inr ⟨a, vs, rfl, rfl, q1, ?_⟩
      have : (List.replicate (1 : Int).toNat xs).flatten = xs := by simp
      rw [this] at hQ
      exact hQ.1 _ p1
    · have a1 : k.toNat * vs.length ≤ 1000 * 1000 := Nat.mul_le_mul (by omega) (by omega)
      refine .inl (.inr (.inr (.inr ⟨a, k, vs, rfl, rfl, q1, hne, by omega, by omega, by omega, fun p hp => ?_⟩)))
      exact hQ.tup sb (r1.rep k.toNat) (by rw [rep_len]; exact small6 (by omega)) p hp
/-- the operator's rule -/
def rBin (K : PySem.W.Frag) : Bop → R2
  | .add => rAddD K
  | .sub => rI0 fun i j => .int (i - j)
  | .mul => rMulE K
  | .fdiv => rDivD
  | .mod => rI (fun _ j => 0 < j) fun i j => .int (i % j)
  | .pow => rI CPow fun i j => .int (i ^ j.toNat)
theorem or_bin (o : Bop) : OpR X (binaryOp (bopA o)) (rBin X.K o) := by
  cases o with
  | add => exact or_add
  | sub => exact op_sub
  | mul => exact or_mulE
  | fdiv => exact op_fdivW
  | mod => exact op_mod
  | pow => exact op_pow
theorem os_bin {K : PySem.W.Frag} {mg : Str → Option Value} (o : Bop) : OpS K mg (binD o) (rBin K o) := by
  cases o with
  | add => exact os_add
  | sub => exact os_sub
  | mul => exact os_mul
  | fdiv => exact os_div
  | mod => exact os_mod
  | pow => exact os_pow
theorem noX_bin (o : Bop) : NoX2 (binD o) := by
  intro d e c h
  cases o <;> cases d <;> cases e <;> simp only [binD] at h <;> first | (cases h; done) | (split at h <;> cases h)

/-! ### comparisons -/
def CmS (K : PySem.W.Frag) (mg : Str → Option Value) (g : D → D → R Bool) (r : R2) : Prop := ∀ (S H : Hp) (x y : V) (d e : D) (b : Bool) (Q : VK), Sub S H → RH K mg S H x d → RH K mg S H y e → g d e = .ok b → Q (.bl b) H → r x y H Q
theorem intsOf_eq : ∀ {ds : List D} {ns : List Int}, intsOf ds = some ns → ds = ns.map D.int
  | [], ns, h => by simp only [intsOf] at h; cases h; rfl
  | .int i :: ds, ns, h => by
    simp only [intsOf] at h
    cases q : intsOf ds with
    | none => rw [q] at h; cases h
    | some ms => rw [q] at h; cases h; rw [intsOf_eq q]; rfl
  | .non :: _, _, h => by simp [intsOf] at h
  | .bl _ :: _, _, h => by simp [intsOf] at h
  | .str _ :: _, _, h => by simp [intsOf] at h
  | .lst _ :: _, _, h => by simp [intsOf] at h
  | .tup _ :: _, _, h => by simp [intsOf] at h
  | .dK _ _ :: _, _, h => by simp [intsOf] at h
  | .dT _ _ :: _, _, h => by simp [intsOf] at h
  | .fn _ :: _, _, h => by simp [intsOf] at h
  | .scr _ :: _, _, h => by simp [intsOf] at h
@[simp] theorem intsOf_map (ns : List Int) : intsOf (ns.map D.int) = some ns := by
  induction ns with
  | nil => rfl
  | cons n ns ih => simp only [List.map_cons, intsOf, ih]; rfl
theorem blsOf_eq : ∀ {ds : List D} {ns : List Bool}, blsOf ds = some ns → ds = ns.map D.bl
  | [], ns, h => by simp only [blsOf] at h; cases h; rfl
  | .bl i :: ds, ns, h => by
    simp only [blsOf] at h
    cases q : blsOf ds with
    | none => rw [q] at h; cases h
    | some ms => rw [q] at h; cases h; rw [blsOf_eq q]; rfl
  | .non :: _, _, h => by simp [blsOf] at h
  | .int _ :: _, _, h => by simp [blsOf] at h
  | .str _ :: _, _, h => by simp [blsOf] at h
  | .lst _ :: _, _, h => by simp [blsOf] at h
  | .tup _ :: _, _, h => by simp [blsOf] at h
  | .dK _ _ :: _, _, h => by simp [blsOf] at h
  | .dT _ _ :: _, _, h => by simp [blsOf] at h
  | .fn _ :: _, _, h => by simp [blsOf] at h
  | .scr _ :: _, _, h => by simp [blsOf] at h
@[simp] theorem blsOf_map (ns : List Bool) : blsOf (ns.map D.bl) = some ns := by
  induction ns with
  | nil => rfl
  | cons n ns ih => simp only [List.map_cons, blsOf, ih]; rfl
theorem eqD_ok {d e : D} {b : Bool} (h : eqD d e = .ok b) : ∃ x y, toPy d = some x ∧ toPy e = some y ∧ SeqAt.shaped x = true ∧ SeqAt.shaped y = true ∧ b = PyData.eqv x y := by
  unfold eqD at h
  cases q1 : toPy d with
  | none => rw [q1] at h; cases h
  | some x =>
    cases q2 : toPy e with
    | none => rw [q1, q2] at h; cases h
    | some y =>
      rw [q1, q2] at h
      simp only at h
      split at h <;> cases h
      rename_i hs
      exact ⟨x, y, rfl, rfl, hs.1, hs.2, rfl⟩
theorem cs_eq {K : PySem.W.Frag} {mg : Str → Option Value} : CmS K mg (cmpD .eq) (rEqD K) := by
  intro S H x y d e b Q sb hx hy hg hQ
  obtain ⟨p, q, e1, e2, s1, s2, rfl⟩ := eqD_ok (show eqD d e = .ok b from hg)
  exact ⟨p, q, hx.dp sb e1, hy.dp sb e2, s1, s2, hQ⟩
theorem R.map_ok {a b : Type} {f : a → b} {r : R a} {y : b} (h : r.map f = .ok y) : ∃ x, r = .ok x ∧ y = f x := by
  cases r with
  | ok x => cases h; exact ⟨x, rfl, rfl⟩
  | exc c => cases h
  | bad => cases h
theorem cs_ne {K : PySem.W.Frag} {mg : Str → Option Value} : CmS K mg (cmpD .ne) (rNeD K) := by
  intro S H x y d e b Q sb hx hy hg hQ
  obtain ⟨b', hg2, rfl⟩ := R.map_ok (show (eqD d e).map (!·) = .ok b from hg)
  obtain ⟨p, q, e1, e2, s1, s2, rfl⟩ := eqD_ok hg2
  exact ⟨p, q, hx.dp sb e1, hy.dp sb e2, s1, s2, hQ⟩
/-- order of ints, of tuples of ints -/
def rLtD (K : PySem.W.Frag) : R2 := fun x y H Q => rI0 (fun i j => .bl (decide (i < j))) x y H Q ∨ rLtT K x y H Q
theorem or_ltD (hu : X.A.units < cLine) : OpR X (compareOp .Lt) (rLtD X.K) := op_lt.or (op_ltT hu)
theorem cs_lt {K : PySem.W.Frag} {mg : Str → Option Value} : CmS K mg (cmpD .lt) (rLtD K) := by
  intro S H x y d e b Q sb hx hy hg hQ
  simp only [cmpD] at hg
  cases d <;> cases e <;> simp only [ordD] at hg <;> try (cases hg)
  case int.int i j =>
    rw [hx.int, hy.int]
    exact .inl ⟨i, j, rfl, rfl, hQ⟩
  case tup.tup xs ys =>
    cases q1 : intsOf xs with
    | none => rw [q1] at hg; cases hg
    | some ns =>
      cases q2 : intsOf ys with
      | none => rw [q1, q2] at hg; cases hg
      | some ms =>
        rw [q1, q2] at hg
        simp only [cmpT] at hg
        cases hg
        have e1 := intsOf_eq q1
        have e2 := intsOf_eq q2
        subst e1 e2
        obtain ⟨a, vs, rfl, h1, z1, r1, _⟩ := hx.tup sb
        obtain ⟨b, us, rfl, h2, z2, r2, _⟩ := hy.tup sb
        rw [r1.ints] at h1
        rw [r2.ints] at h2
        exact .inr ⟨a, b, ns, ms, rfl, rfl, h1, h2, hQ⟩
theorem lexAt_shift (e r : Nat → Bool) (z : Bool) : ∀ (k i : Nat), Ob.lexAt (fun j => e (j + 1)) (fun j => r (j + 1)) z i k = Ob.lexAt e r z (i + 1) k
  | 0, _ => rfl
  | k + 1, i => by rw [Ob.lexAt_succ, Ob.lexAt_succ, lexAt_shift e r z k (i + 1)]
theorem lexLe_eq : ∀ (ns ms : List Int), Ob.lexAt (fun j => decide (ns.getD j 0 = ms.getD j 0)) (fun j => decide (ns.getD j 0 ≤ ms.getD j 0)) (decide (ns.length ≤ ms.length)) 0 (min ns.length ms.length) = !HT.lexLt ms ns
  | [], [] => rfl
  | [], _ :: _ => rfl
  | _ :: _, [] => rfl
  | x :: xs, y :: ys => by
    have ih := lexLe_eq xs ys
    rw [show min (x :: xs).length (y :: ys).length = min xs.length ys.length + 1 by simp only [List.length_cons]; omega, Ob.lexAt_succ]
    have sh := lexAt_shift (fun j => decide ((x :: xs).getD j 0 = (y :: ys).getD j 0)) (fun j => decide ((x :: xs).getD j 0 ≤ (y :: ys).getD j 0)) (decide ((x :: xs).length ≤ (y :: ys).length)) (min xs.length ys.length) 0
    rw [← sh, HT.lexLt_cons]
    have zl : decide ((x :: xs).length ≤ (y :: ys).length) = decide (xs.length ≤ ys.length) := by simp
    rw [zl]
    simp only [List.getD_cons_zero, List.getD_cons_succ, decide_eq_true_eq]
    by_cases q : x = y
    · rw [if_pos q, if_pos q.symm]; exact ih
    · rw [if_neg q, if_neg (Ne.symm q)]
      by_cases l : x ≤ y
      · rw [decide_eq_true l, decide_eq_false (by omega)]; rfl
      · rw [decide_eq_false l, decide_eq_true (by omega)]; rfl
theorem lexGe_eq : ∀ (ns ms : List Int), Ob.lexAt (fun j => decide (ns.getD j 0 = ms.getD j 0)) (fun j => decide (ms.getD j 0 ≤ ns.getD j 0)) (decide (ns.length ≥ ms.length)) 0 (min ns.length ms.length) = !HT.lexLt ns ms
  | [], [] => rfl
  | [], _ :: _ => rfl
  | _ :: _, [] => rfl
  | x :: xs, y :: ys => by
    have ih := lexGe_eq xs ys
    rw [show min (x :: xs).length (y :: ys).length = min xs.length ys.length + 1 by simp only [List.length_cons]; omega, Ob.lexAt_succ]
    have sh := lexAt_shift (fun j => decide ((x :: xs).getD j 0 = (y :: ys).getD j 0)) (fun j => decide ((y :: ys).getD j 0 ≤ (x :: xs).getD j 0)) (decide ((x :: xs).length ≥ (y :: ys).length)) (min xs.length ys.length) 0
    rw [← sh, HT.lexLt_cons]
    have zl : decide ((x :: xs).length ≥ (y :: ys).length) = decide (xs.length ≥ ys.length) := by simp
    rw [zl]
    simp only [List.getD_cons_zero, List.getD_cons_succ, decide_eq_true_eq]
    by_cases q : x = y
    · rw [if_pos q, if_pos q]; exact ih
    · rw [if_neg q, if_neg q]
      by_cases l : y ≤ x
      · rw [decide_eq_true l, decide_eq_false (by omega)]; rfl
      · rw [decide_eq_false l, decide_eq_true (by omega)]; rfl
def rGeT (K : PySem.W.Frag) : R2 := fun x y H Q => ∃ (a b : Addr) (ns ms : List Int), x = .ref a ∧ y = .ref b ∧ SqT K H a (ns.map V.int) ∧ SqT K H b (ms.map V.int) ∧ Q (.bl (!HT.lexLt ns ms)) H
/-- the j-th of some ints -/
theorem nth_int {vs : List Value} {ns : List Int} (h : IntsAre vs ns) {j : Nat} (hj : j < vs.toArray.size) : ∃ t, vs.toArray[j] = .int (ns.getD j 0) t :=
  PyProof.Rows.IntsAre.int_at h j _ (by rw [List.getElem_toArray]; exact List.getElem?_eq_getElem (by simpa using hj))
/-- two tuples of ints, held against each other by >= -/
theorem ge_ints {prog : Program} {w : World} {A : Around} {E : Value → Shared → Prop} {s : Shared} {Q : Value → Shared → Prop} {a b : Addr} {vs us : List Value} {ns ms : List Int} (hu : A.units < cLine) (pa : IsTup s.heap a vs.toArray) (pb : IsTup s.heap b us.toArray) (ia : IntsAre vs ns) (ib : IntsAre us ms)
    (h : Q (.bool (!HT.lexLt ns ms)) s) : wpAny (model prog w) A (compareOp .GtE (.ref a) (.ref b)) Q E s := by
  have key := Ob.RcOp.tuples_ge (A := A) (s := s) (e := fun j => decide (ns.getD j 0 = ms.getD j 0)) (r := fun j => decide (ms.getD j 0 ≤ ns.getD j 0)) pa pb hu
    (fun j h1 h2 => by
      obtain ⟨⟨t, e⟩, t', e'⟩ := And.intro (nth_int ia h1) (nth_int ib h2)
      have d : decide (ns.getD j 0 = ms.getD j 0) = (ns.getD j 0 == ms.getD j 0) := (Bool.beq_eq_decide_eq _ _).symm
      show SeqAt.EqAt _ _ _ _ (decide (ns.getD j 0 = ms.getD j 0))
      rw [e, e', d]
      exact SeqAt.EqAt.int_int _ _ _ _)
    (fun j h1 h2 _ => by
      obtain ⟨⟨t, e⟩, t', e'⟩ := And.intro (nth_int ia h1) (nth_int ib h2)
      rw [e, e']
      exact Ob.RcOp.ge_int _ _ _ _)
  have l1 : vs.toArray.size = ns.length := (List.size_toArray ..).trans ia.length
  have l2 : us.toArray.size = ms.length := (List.size_toArray ..).trans ib.length
  rw [l1, l2, lexGe_eq] at key
  exact key prog w E Q h
theorem op_geT {X : Cx} (hu : X.A.units < cLine) : OpR X (compareOp .GtE) (rGeT X.K) := fun pins s σ H x y v u Q I rx ry h => by
  obtain ⟨a, b, ns, ms, rfl, rfl, ha, hb, q⟩ := h
  obtain ⟨rfl, rfl⟩ : v = .ref a ∧ u = .ref b := ⟨rx, ry⟩
  obtain ⟨us, ru, pu, _⟩ := I.tuple ha
  obtain ⟨ws, rw', pw, _⟩ := I.tuple hb
  exact ge_ints hu pu pw ru.ints rw'.ints ⟨.bl _, H, I, rfl, q⟩
/-- <= -/
def rLeD (K : PySem.W.Frag) : R2 := fun x y H Q => rI0 (fun i j => .bl (decide (i ≤ j))) x y H Q ∨ rLeT K x y H Q
theorem or_leD (hu : X.A.units < cLine) : OpR X (compareOp .LtE) (rLeD X.K) := op_le.or (op_leT hu)
theorem cs_le {K : PySem.W.Frag} {mg : Str → Option Value} : CmS K mg (cmpD .le) (rLeD K) := by
  intro S H x y d e b Q sb hx hy hg hQ
  simp only [cmpD] at hg
  cases d <;> cases e <;> simp only [ordD] at hg <;> try (cases hg)
  case int.int i j =>
    rw [hx.int, hy.int]
    exact .inl ⟨i, j, rfl, rfl, hQ⟩
  case tup.tup xs ys =>
    cases q1 : intsOf xs with
    | none => rw [q1] at hg; cases hg
    | some ns =>
      cases q2 : intsOf ys with
      | none => rw [q1, q2] at hg; cases hg
      | some ms =>
        rw [q1, q2] at hg
        simp only [cmpT] at hg
        cases hg
        have e1 := intsOf_eq q1
        have e2 := intsOf_eq q2
        subst e1 e2
        obtain ⟨a, vs, rfl, h1, z1, r1, _⟩ := hx.tup sb
        obtain ⟨b, us, rfl, h2, z2, r2, _⟩ := hy.tup sb
        rw [r1.ints] at h1
        rw [r2.ints] at h2
        exact .inr ⟨a, b, ns, ms, rfl, rfl, h1, h2, by rw [lexLe_eq]; exact hQ⟩
/-- >= -/
def rGeD (K : PySem.W.Frag) : R2 := fun x y H Q => rI0 (fun i j => .bl (decide (j ≤ i))) x y H Q ∨ rGeT K x y H Q
theorem or_geD (hu : X.A.units < cLine) : OpR X (compareOp .GtE) (rGeD X.K) := op_ge.or (op_geT hu)
theorem cs_ge {K : PySem.W.Frag} {mg : Str → Option Value} : CmS K mg (cmpD .ge) (rGeD K) := by
  intro S H x y d e b Q sb hx hy hg hQ
  simp only [cmpD] at hg
  cases d <;> cases e <;> simp only [ordD] at hg <;> try (cases hg)
  case int.int i j =>
    rw [hx.int, hy.int]
    exact .inl ⟨i, j, rfl, rfl, hQ⟩
  case tup.tup xs ys =>
    cases q1 : intsOf xs with
    | none => rw [q1] at hg; cases hg
    | some ns =>
      cases q2 : intsOf ys with
      | none => rw [q1, q2] at hg; cases hg
      | some ms =>
        rw [q1, q2] at hg
        simp only [cmpT] at hg
        cases hg
        have e1 := intsOf_eq q1
        have e2 := intsOf_eq q2
        subst e1 e2
        obtain ⟨a, vs, rfl, h1, z1, r1, _⟩ := hx.tup sb
        obtain ⟨b, us, rfl, h2, z2, r2, _⟩ := hy.tup sb
        rw [r1.ints] at h1
        rw [r2.ints] at h2
        exact .inr ⟨a, b, ns, ms, rfl, rfl, h1, h2, hQ⟩
theorem cs_ord {K : PySem.W.Frag} {mg : Str → Option Value} {o : Cop} {f : Int → Int → Bool} (ho : o = .gt) (hf : ∀ i j, cmpI o i j = .ok (f i j)) : CmS K mg (cmpD o) (rI0 fun i j => .bl (f i j)) := by
  intro S H x y d e b Q sb hx hy hg hQ
  have hg' : ordD o d e = .ok b := by subst ho; exact hg
  cases d <;> cases e <;> simp only [ordD] at hg' <;> try (cases hg')
  case int.int i j =>
    rw [hf] at hg'
    cases hg'
    rw [hx.int, hy.int]
    exact ⟨i, j, rfl, rfl, hQ⟩
  case tup.tup xs ys =>
    cases q1 : intsOf xs with
    | none => rw [q1] at hg'; cases hg'
    | some ns =>
      cases q2 : intsOf ys with
      | none => rw [q1, q2] at hg'; cases hg'
      | some ms =>
        rw [q1, q2] at hg'
        subst ho; simp only [cmpT] at hg'; cases hg'
/-- in, not in -/
theorem flat_of {K : PySem.W.Frag} {mg : Str → Option Value} {S : Hp} {d : D} {v : V} (h : Rep K mg S v d) (f : flatD d = true) : flatV v = true := by
  cases h <;> first | rfl | (simp [flatD] at f)
theorem flats_of {K : PySem.W.Frag} {mg : Str → Option Value} {S : Hp} : ∀ {ds : List D} {vs : List V}, RepL K mg S vs ds → ds.all flatD = true → vs.all flatV = true
  | _, _, .nil, _ => rfl
  | _, _, .cons h r, f => by
    rw [List.all_cons, Bool.and_eq_true] at f
    rw [List.all_cons, flat_of h f.1, flats_of r f.2]
    rfl
theorem eqF_of {K : PySem.W.Frag} {mg : Str → Option Value} {S : Hp} {d e : D} {v u : V} (h : Rep K mg S v d) (h' : Rep K mg S u e) (f : flatD d = true) (f' : flatD e = true) : eqV v u = eqF d e := by
  cases h <;> first
    | (simp [flatD] at f; done)
    | (cases h' <;> first
      | (simp [flatD] at f'; done)
      | (simp only [eqV, eqF, toPy, PyData.eqv]; done)
      | rfl)
end
end Lk
end Part_LkE
section Part_LkF
set_option Elab.async false
set_option linter.all false
set_option maxRecDepth 100000
set_option maxHeartbeats 4000000
namespace Lk
open PySem PySem.Spec PyProof.Rows L2
section
variable {X : Cx} {K : PySem.W.Frag} {mg : Str → Option Value}
/-! ### in, is -/
def rInS (K : PySem.W.Frag) : R2 := fun x y H Q => rIn K false x y H Q ∨ rInD K x y H Q
def rNotInS (K : PySem.W.Frag) : R2 := fun x y H Q => rIn K true x y H Q ∨ rNotInD K x y H Q
theorem or_in (hu : X.A.units + 65 < cLine) : OpR X (compareOp .In) (rInS X.K) := op_in_seq.or (op_inD hu)
theorem or_notin (hu : X.A.units + 65 < cLine) : OpR X (compareOp .NotIn) (rNotInS X.K) := op_notIn_seq.or (op_notInD hu)
theorem inV_eq {S : Hp} {d : D} {v : V} (h : Rep K mg S v d) (f : flatD d = true) : ∀ {ds : List D} {vs : List V}, RepL K mg S vs ds → ds.all flatD = true → (vs.any fun y => eqV y v) = ds.any fun z => eqF z d
  | _, _, .nil, _ => rfl
  | _, _, .cons h' r, g => by
    rw [List.all_cons, Bool.and_eq_true] at g
    rw [List.any_cons, List.any_cons, eqF_of h' h g.1 f, inV_eq h f r g.2]
theorem in_cases {S H : Hp} {x y : V} {d e : D} {b : Bool} (sb : Sub S H) (hx : RH K mg S H x d) (hy : RH K mg S H y e) (hg : inD d e = .ok b) :
    (∃ p xs, y = .ref p ∧ SqT K H p xs ∧ flatV x = true ∧ xs.all flatV = true ∧ inV x xs = b) ∨
    ∃ p ps, Dp K H x p ∧ Dp K H y (.list ps) ∧ SeqAt.shaped p = true ∧ SeqAt.shaped (.list ps) = true ∧ (ps.any fun z => PyData.eqv z p) = b := by
  cases e <;> simp only [inD] at hg <;> try (cases hg)
  case tup ds =>
    split at hg <;> cases hg
    rename_i hf
    obtain ⟨a, vs, rfl, h1, z1, r1, _⟩ := hy.tup sb
    have hx' : Rep K mg S x d := by
      cases d <;> first | exact hx | (simp [flatD] at hf)
    exact .inl ⟨a, vs, rfl, h1, flat_of hx' hf.1, flats_of r1 hf.2, inV_eq hx' hf.1 r1 hf.2⟩
  case lst ds =>
    cases q1 : toPy d with
    | none => rw [q1] at hg; cases hg
    | some p =>
      cases q2 : toPys ds with
      | none => rw [q1, q2] at hg; cases hg
      | some ps =>
        rw [q1, q2] at hg
        simp only at hg
        split at hg <;> cases hg
        rename_i hs
        exact .inr ⟨p, ps, hx.dp sb q1, hy.dp sb (by simp only [toPy, q2]; rfl), hs.1, hs.2, rfl⟩
theorem cs_in : CmS K mg (cmpD .isin) (rInS K) := by
  intro S H x y d e b Q sb hx hy hg hQ
  rcases in_cases sb hx hy (show inD d e = .ok b from hg) with ⟨p, xs, rfl, h1, h2, h3, rfl⟩ | ⟨p, ps, h1, h2, h3, h4, rfl⟩
  · exact .inl ⟨p, xs, rfl, .inr h1, h2, h3, hQ⟩
  · exact .inr ⟨p, ps, h1, h2, h3, h4, hQ⟩
theorem cs_notin : CmS K mg (cmpD .notin) (rNotInS K) := by
  intro S H x y d e b Q sb hx hy hg hQ
  obtain ⟨c, hc, rfl⟩ := R.map_ok (show (inD d e).map (!·) = .ok b from hg)
  rcases in_cases sb hx hy hc with ⟨p, xs, rfl, h1, h2, h3, rfl⟩ | ⟨p, ps, h1, h2, h3, h4, rfl⟩
  · exact .inl ⟨p, xs, rfl, .inr h1, h2, h3, hQ⟩
  · exact .inr ⟨p, ps, h1, h2, h3, h4, hQ⟩
def rIsS : R2 := fun x y H Q => (y = .non ∧ Q (.bl (decide (x = .non))) H) ∨ ∃ a b, x = .bl a ∧ y = .bl b ∧ Q (.bl (decide (a = b))) H
def rIsNotS : R2 := fun x y H Q => (y = .non ∧ Q (.bl (!decide (x = .non))) H) ∨ ∃ a b, x = .bl a ∧ y = .bl b ∧ Q (.bl (!decide (a = b))) H
theorem or_is : OpR X (compareOp .Is) rIsS := op_isN.or op_is_bl
theorem or_isnot : OpR X (compareOp .IsNot) rIsNotS := op_notN.or op_isnot_bl
theorem is_cases {S H : Hp} {x y : V} {d e : D} {b : Bool} (sb : Sub S H) (hx : RH K mg S H x d) (hy : RH K mg S H y e) (hg : isD d e = .ok b) :
    (y = .non ∧ decide (x = .non) = b) ∨ ∃ a c, x = .bl a ∧ y = .bl c ∧ decide (a = c) = b := by
  cases d <;> cases e <;> simp only [isD] at hg <;> try (cases hg)
  case non.non => rw [hx.non, hy.non]; exact .inl ⟨rfl, rfl⟩
  case bl.bl a c => rw [hx.bl, hy.bl]; exact .inr ⟨a, c, rfl, rfl, rfl⟩
  case bl.non a => rw [hx.bl, hy.non]; exact .inl ⟨rfl, rfl⟩
  case int.non a => rw [hx.int, hy.non]; exact .inl ⟨rfl, rfl⟩
  case str.non a => rw [hx.str, hy.non]; exact .inl ⟨rfl, rfl⟩
  case lst.non a =>
    obtain ⟨p, vs, rfl, _⟩ := hx
    rw [hy.non]; exact .inl ⟨rfl, rfl⟩
  case tup.non a =>
    obtain ⟨p, vs, rfl, _⟩ := hx.tup sb
    rw [hy.non]; exact .inl ⟨rfl, rfl⟩
theorem cs_is : CmS K mg (cmpD .is) rIsS := by
  intro S H x y d e b Q sb hx hy hg hQ
  rcases is_cases sb hx hy (show isD d e = .ok b from hg) with ⟨rfl, rfl⟩ | ⟨a, c, rfl, rfl, rfl⟩
  · exact .inl ⟨rfl, hQ⟩
  · exact .inr ⟨a, c, rfl, rfl, hQ⟩
theorem cs_isnot : CmS K mg (cmpD .isnot) rIsNotS := by
  intro S H x y d e b Q sb hx hy hg hQ
  obtain ⟨c, hc, rfl⟩ := R.map_ok (show (isD d e).map (!·) = .ok b from hg)
  rcases is_cases sb hx hy hc with ⟨rfl, rfl⟩ | ⟨a, c, rfl, rfl, rfl⟩
  · exact .inl ⟨rfl, hQ⟩
  · exact .inr ⟨a, c, rfl, rfl, hQ⟩
def rCmp (K : PySem.W.Frag) : Cop → R2
  | .eq => rEqD K
  | .ne => rNeD K
  | .lt => rLtD K
  | .le => rLeD K
  | .gt => rI0 fun i j => .bl (decide (j < i))
  | .ge => rGeD K
  | .isin => rInS K
  | .notin => rNotInS K
  | .is => rIsS
  | .isnot => rIsNotS
theorem or_cmp {k : Nat} (hr : Room k X.A) (o : Cop) : OpR X (compareOp (copA o)) (rCmp X.K o) := by
  have h1 := hr.un
  cases o with
  | eq => exact op_eqD (by omega)
  | ne => exact op_neD (by omega)
  | lt => exact or_ltD (by omega)
  | le => exact or_leD (by omega)
  | gt => exact op_gt
  | ge => exact or_geD (by omega)
  | isin => exact or_in (by omega)
  | notin => exact or_notin (by omega)
  | is => exact or_is
  | isnot => exact or_isnot
theorem cs_cmp (o : Cop) : CmS K mg (cmpD o) (rCmp K o) := by
  cases o with
  | eq => exact cs_eq
  | ne => exact cs_ne
  | lt => exact cs_lt
  | le => exact cs_le
  | gt => exact cs_ord rfl fun _ _ => rfl
  | ge => exact cs_ge
  | isin => exact cs_in
  | notin => exact cs_notin
  | is => exact cs_is
  | isnot => exact cs_isnot
theorem noX_eqD {d e : D} {c : Str} : eqD d e ≠ .exc c := by
  intro h
  unfold eqD at h
  split at h
  · split at h <;> cases h
  · cases h
theorem noX_inD {d e : D} {c : Str} : inD d e ≠ .exc c := by
  intro h
  cases e <;> simp only [inD] at h <;> try (cases h)
  · split at h
    · split at h <;> cases h
    · cases h
  · split at h <;> cases h
theorem noX_isD {d e : D} {c : Str} : isD d e ≠ .exc c := by
  intro h
  cases d <;> cases e <;> simp only [isD] at h <;> cases h
theorem R.map_exc {a b : Type} {f : a → b} {r : R a} {c : Str} (h : r.map f = .exc c) : r = .exc c := by
  cases r with
  | ok x => cases h
  | exc c => cases h; rfl
  | bad => cases h
theorem noX_ord {o : Cop} {d e : D} {c : Str} : ordD o d e ≠ .exc c := by
  intro h
  cases d <;> cases e <;> simp only [ordD] at h <;> try (cases h)
  · cases o <;> simp only [cmpI] at h <;> cases h
  · split at h
    · cases o <;> simp only [cmpT] at h <;> cases h
    · cases h
theorem noX_cmp (o : Cop) (d e : D) (c : Str) : cmpD o d e ≠ .exc c := by
  intro h
  cases o <;> simp only [cmpD] at h
  · exact noX_eqD h
  · exact noX_eqD (R.map_exc h)
  · exact noX_ord h
  · exact noX_ord h
  · exact noX_ord h
  · exact noX_ord h
  · exact noX_inD h
  · exact noX_inD (R.map_exc h)
  · exact noX_isD h
  · exact noX_isD (R.map_exc h)
end
end Lk
end Part_LkF
section Part_LkG
set_option Elab.async false
set_option linter.all false
set_option maxRecDepth 100000
set_option maxHeartbeats 4000000
namespace Lk
open PySem PySem.Spec PyProof.Rows L2
section
variable {X : Cx} {K : PySem.W.Frag} {mg : Str → Option Value}
theorem reads_ints {h : Heap} : ∀ {ns : List Int} {us : List Value}, Vals (ns.map V.int) us → ∃ as, ReadsAll h us (ns.map PyData.int) as
  | [], _, .nil => ⟨_, .nil⟩
  | n :: ns, _, .cons r t => by
    obtain ⟨tk, rfl⟩ := r
    obtain ⟨as, q⟩ := reads_ints (h := h) t
    exact ⟨_, .cons (.int n tk) q⟩
theorem alike_ints (ns : List Int) : PySem.W.AlikeAll (ns.map PyData.int) := by
  refine ⟨fun x hx y hy => ?_, fun x hx => ?_⟩
  · obtain ⟨a, _, rfl⟩ := List.mem_map.mp hx
    obtain ⟨b, _, rfl⟩ := List.mem_map.mp hy
    simp [PySem.W.alike]
  · obtain ⟨a, _, rfl⟩ := List.mem_map.mp hx
    exact fun z => nomatch z
theorem depth_ints (ns : List Int) : PyData.depthAll (ns.map PyData.int) = 0 := by
  induction ns with
  | nil => simp [PyData.depthAll]
  | cons n ns ih => simp [PyData.depthAll, PyData.depth, ih]
def rMaxT (K : PySem.W.Frag) : List V → Hp → VK → Prop := fun vs H Q => ∃ (a : Addr) (ns : List Int), vs = [V.ref a] ∧ SqT K H a (ns.map V.int) ∧ ns ≠ [] ∧ Q (.int (maxI ns)) H
def rMinT (K : PySem.W.Frag) : List V → Hp → VK → Prop := fun vs H Q => ∃ (a : Addr) (ns : List Int), vs = [V.ref a] ∧ SqT K H a (ns.map V.int) ∧ ns ≠ [] ∧ Q (.int (minI ns)) H
theorem cr_maxT (hc : X.calm = true) (hu : X.A.units + 1 < cLine) : CallR X (.builtin "max") (rMaxT X.K) := by
  intro pins s σ H vs us Q I r h
  obtain ⟨a, ns, rfl, hs, hne, q⟩ := h
  obtain ⟨its, rv, ht, _⟩ := I.tuple hs
  rw [Vals.ref1 r]
  obtain ⟨as, hr⟩ := reads_ints (h := s.heap) rv
  cases ns with
  | nil => exact absurd rfl hne
  | cons n ns =>
    refine PySem.W.max_tuple_data (vs := its.toArray) (x := .int n) (xs := ns.map .int) (as := as) (I.ok.hd hc) ht hr (alike_ints (n :: ns)) (by rw [show PyData.depthAll (PyData.int n :: ns.map PyData.int) = 0 from depth_ints (n :: ns)]; omega) fun i v h' tk bs hv hr' hk => ?_
    rw [PySem.W.maxD_ints] at hr'
    cases hr' with
    | int _ t => exact ⟨.int _, H, I.kept hk, ⟨t, rfl⟩, q⟩
theorem cr_minT (hc : X.calm = true) (hu : X.A.units + 1 < cLine) : CallR X (.builtin "min") (rMinT X.K) := by
  intro pins s σ H vs us Q I r h
  obtain ⟨a, ns, rfl, hs, hne, q⟩ := h
  obtain ⟨its, rv, ht, _⟩ := I.tuple hs
  rw [Vals.ref1 r]
  obtain ⟨as, hr⟩ := reads_ints (h := s.heap) rv
  cases ns with
  | nil => exact absurd rfl hne
  | cons n ns =>
    refine PySem.W.min_tuple_data (vs := its.toArray) (x := .int n) (xs := ns.map .int) (as := as) (I.ok.hd hc) ht hr (alike_ints (n :: ns)) (by rw [show PyData.depthAll (PyData.int n :: ns.map PyData.int) = 0 from depth_ints (n :: ns)]; omega) fun i v h' tk bs hv hr' hk => ?_
    rw [PySem.W.minD_ints] at hr'
    cases hr' with
    | int _ t => exact ⟨.int _, H, I.kept hk, ⟨t, rfl⟩, q⟩
/-! ### the plain lists -/
theorem maxI_spec : ∀ {ns : List Int}, ns ≠ [] → maxI ns ∈ ns ∧ ∀ y ∈ ns, y ≤ maxI ns
  | [], h => absurd rfl h
  | x :: xs, _ => by
    have gen : ∀ (xs : List Int) (x : Int), (xs.foldl max x = x ∨ xs.foldl max x ∈ xs) ∧ x ≤ xs.foldl max x ∧ ∀ y ∈ xs, y ≤ xs.foldl max x := by
      intro xs
      induction xs with
      | nil => intro x; exact ⟨.inl rfl, Int.le_refl _, fun y hy => by cases hy⟩
      | cons z zs ih =>
        intro x
        rw [List.foldl_cons]
        obtain ⟨h1, h2, h3⟩ := ih (max x z)
        refine ⟨?_, by omega, fun y hy => ?_⟩
        · rcases h1 with h1 | h1
          · rw [h1]
            rcases Int.le_total x z with h | h
            · rw [Int.max_eq_right h]; exact .inr (.head _)
            · rw [Int.max_eq_left h]; exact .inl rfl
          · exact .inr (.tail _ h1)
        · rcases List.mem_cons.mp hy with rfl | hy
          · omega
          · exact h3 y hy
    obtain ⟨h1, h2, h3⟩ := gen xs x
    refine ⟨?_, fun y hy => ?_⟩
    · show xs.foldl max x ∈ x :: xs
      rcases h1 with h1 | h1
      · rw [h1]; exact .head _
      · exact .tail _ h1
    · rcases List.mem_cons.mp hy with rfl | hy
      · exact h2
      · exact h3 y hy
theorem minI_spec : ∀ {ns : List Int}, ns ≠ [] → minI ns ∈ ns ∧ ∀ y ∈ ns, minI ns ≤ y
  | [], h => absurd rfl h
  | x :: xs, _ => by
    have gen : ∀ (xs : List Int) (x : Int), (xs.foldl min x = x ∨ xs.foldl min x ∈ xs) ∧ xs.foldl min x ≤ x ∧ ∀ y ∈ xs, xs.foldl min x ≤ y := by
      intro xs
      induction xs with
      | nil => intro x; exact ⟨.inl rfl, Int.le_refl _, fun y hy => by cases hy⟩
      | cons z zs ih =>
        intro x
        rw [List.foldl_cons]
        obtain ⟨h1, h2, h3⟩ := ih (min x z)
        refine ⟨?_, by omega, fun y hy => ?_⟩
        · rcases h1 with h1 | h1
          · rw [h1]
            rcases Int.le_total x z with h | h
            · rw [Int.min_eq_left h]; exact .inl rfl
            · rw [Int.min_eq_right h]; exact .inr (.head _)
          · exact .inr (.tail _ h1)
        · rcases List.mem_cons.mp hy with rfl | hy
          · omega
          · exact h3 y hy
    obtain ⟨h1, h2, h3⟩ := gen xs x
    refine ⟨?_, fun y hy => ?_⟩
    · show xs.foldl min x ∈ x :: xs
      rcases h1 with h1 | h1
      · rw [h1]; exact .head _
      · exact .tail _ h1
    · rcases List.mem_cons.mp hy with rfl | hy
      · exact h2
      · exact h3 y hy
theorem insI_perm (x : Int) : ∀ l, (insI x l).Perm (x :: l)
  | [] => .refl _
  | y :: r => by
    unfold insI
    split
    · exact .refl _
    · exact ((insI_perm x r).cons y).trans (.swap x y r)
theorem sortI_perm : ∀ l, (sortI l).Perm l
  | [] => .refl _
  | x :: r => (insI_perm x (sortI r)).trans ((sortI_perm r).cons x)
theorem insI_sorted (x : Int) : ∀ l : List Int, l.Pairwise (· ≤ ·) → (insI x l).Pairwise (· ≤ ·)
  | [], _ => by simp [insI]
  | y :: r, h => by
    have h' := List.pairwise_cons.mp h
    unfold insI
    split
    · rename_i hxy
      refine List.pairwise_cons.mpr ⟨fun z hz => ?_, h⟩
      rcases List.mem_cons.mp hz with rfl | hz
      · exact hxy
      · exact Int.le_trans hxy (h'.1 z hz)
    · rename_i hxy
      refine List.pairwise_cons.mpr ⟨fun z hz => ?_, insI_sorted x r h'.2⟩
      rcases List.mem_cons.mp ((insI_perm x r).mem_iff.mp hz) with rfl | hz
      · omega
      · exact h'.1 z hz
theorem sortI_sorted : ∀ l, (sortI l).Pairwise (· ≤ ·)
  | [] => .nil
  | x :: r => insI_sorted x _ (sortI_sorted r)
theorem sortI_unique {l l' : List Int} (hp : l'.Perm l) (hs : l'.Pairwise (· ≤ ·)) : l' = sortI l :=
  List.Perm.eq_of_pairwise (fun a b _ _ h1 h2 => Int.le_antisymm h1 h2) hs (sortI_sorted l) (hp.trans (sortI_perm l).symm)
theorem dedup_mem {a : Type} [DecidableEq a] {x : a} : ∀ {l : List a}, x ∈ dedup l ↔ x ∈ l
  | [] => Iff.rfl
  | y :: r => by
    unfold dedup
    split
    · rename_i h
      rw [dedup_mem]
      exact ⟨.tail _, fun h' => by
        rcases List.mem_cons.mp h' with rfl | h'
        · exact h
        · exact h'⟩
    · rw [List.mem_cons, List.mem_cons, dedup_mem]
theorem dedup_nodup {a : Type} [DecidableEq a] : ∀ (l : List a), (dedup l).Nodup
  | [] => .nil
  | y :: r => by
    unfold dedup
    split
    · exact dedup_nodup r
    · rename_i h
      exact List.nodup_cons.mpr ⟨fun h' => h (dedup_mem.mp h'), dedup_nodup r⟩
theorem dedup_length {a : Type} [DecidableEq a] : ∀ (l : List a), (dedup l).length ≤ l.length
  | [] => Nat.le_refl _
  | y :: r => by
    unfold dedup
    split
    · exact Nat.le_trans (dedup_length r) (Nat.le_succ _)
    · exact Nat.succ_le_succ (dedup_length r)
/-- the one strictly rising list of what a list holds -/
theorem sset_unique {l l' : List Int} (hs : l'.Pairwise (· < ·)) (hm : ∀ k, k ∈ l' ↔ k ∈ l) : l' = sortI (dedup l) := by
  have nd : l'.Nodup := hs.imp fun h e => by omega
  refine sortI_unique ?_ (hs.imp fun h => by omega)
  exact (List.perm_ext_iff_of_nodup nd (dedup_nodup l)).mpr fun a => by rw [hm, dedup_mem]
/-! ### the built-ins, by data -/
def rBi (K : PySem.W.Frag) : Bi → List V → Hp → VK → Prop
  | .len => fun xs H Q => (∃ p ys, xs = [.ref p] ∧ (SqL K H p ys ∨ SqT K H p ys) ∧ Q (.int ys.length) H) ∨ ∃ z, xs = [.str z] ∧ z.length ≤ sizeLine ∧ Q (.int z.length) H
  | .abs => fun xs H Q => ∃ i, xs = [.int i] ∧ Q (.int (if i < 0 then -i else i)) H
  | .max => fun xs H Q => (∃ i j, xs = [.int i, .int j] ∧ Q (.int (if j > i then j else i)) H) ∨ rMax K xs H Q ∨ rMaxT K xs H Q
  | .min => fun xs H Q => (∃ i j, xs = [.int i, .int j] ∧ Q (.int (if j < i then j else i)) H) ∨ rMin K xs H Q ∨ rMinT K xs H Q
  | .sum => rSum K
  | .sorted => rSorted K
  | .all => rAll K
  | .any => rAny K
  | .int => fun xs H Q => (∃ i, xs = [.int i] ∧ Q (.int i) H) ∨ ∃ k, xs = [.bl k] ∧ Q (.int (if k then 1 else 0)) H
  | .list => fun xs H Q => ∃ p ys, xs = [.ref p] ∧ (SqL K H p ys ∨ SqT K H p ys) ∧ ∀ l, H l = none → Q (.ref l) (upd H l (.lst ys))
  | .tuple => fun xs H Q => ∃ p ys, xs = [.ref p] ∧ ((SqL K H p ys ∧ ∀ l, H l = none → Q (.ref l) (upd H l (.tup ys))) ∨ (SqT K H p ys ∧ Q (.ref p) H))
def biV : Bi → Value
  | .len => .builtin "len"
  | .abs => .builtin "abs"
  | .max => .builtin "max"
  | .min => .builtin "min"
  | .sum => .builtin "sum"
  | .sorted => .builtin "sorted"
  | .all => .builtin "all"
  | .any => .builtin "any"
  | .int => .type "int"
  | .list => .type "list"
  | .tuple => .type "tuple"
theorem cr_bi {k : Nat} (hr : Room k X.A) (hc : X.calm = true) (b : Bi) : CallR X (biV b) (rBi X.K b) := by
  have h1 := hr.un
  cases b with
  | len => exact call_len_seq.or call_len_str
  | abs => exact call_abs
  | max => exact (call_max2 hc).or ((cr_max hc).or (cr_maxT hc (by omega)))
  | min => exact (call_min2 hc).or ((cr_min hc).or (cr_minT hc (by omega)))
  | sum => exact cr_sum hc
  | sorted => exact cr_sorted
  | all => exact cr_all hc
  | any => exact cr_any hc
  | int => exact call_int1
  | list => exact call_list_of
  | tuple => exact call_tuple_of
theorem RHL.one {S H : Hp} {vs : List V} {d : D} (h : RHL K mg S H vs [d]) : ∃ v, vs = [v] ∧ RH K mg S H v d := by
  cases h with
  | cons a t => cases t; exact ⟨_, rfl, a⟩
theorem RHL.two {S H : Hp} {vs : List V} {d e : D} (h : RHL K mg S H vs [d, e]) : ∃ v w, vs = [v, w] ∧ RH K mg S H v d ∧ RH K mg S H w e := by
  cases h with
  | cons a t =>
    obtain ⟨w, rfl, b⟩ := t.one
    exact ⟨_, w, rfl, a, b⟩
theorem onInts_ok {d : D} {f : List Int → R D} {z : D} (h : onInts d f = .ok z) : ∃ ns, f ns = .ok z ∧ (d = .lst (ns.map .int) ∨ d = .tup (ns.map .int)) := by
  unfold onInts at h
  cases q : intsIn d with
  | none => rw [q] at h; cases h
  | some ns =>
    rw [q] at h
    refine ⟨ns, h, ?_⟩
    cases d <;> simp only [intsIn] at q <;> try (cases q)
    · exact .inl (by rw [intsOf_eq q])
    · exact .inr (by rw [intsOf_eq q])
theorem RH.ints {S H : Hp} {v : V} {ns : List Int} (h : RH K mg S H v (.lst (ns.map .int))) : ∃ a, v = .ref a ∧ H a = some (.lst (ns.map V.int)) ∧ (ns.map V.int).length ≤ sizeLine := by
  obtain ⟨a, vs, rfl, h1, z, r⟩ := h
  rw [r.ints] at h1 z
  exact ⟨a, rfl, h1, z⟩
theorem RH.intsT {S H : Hp} {v : V} {ns : List Int} (h : RH K mg S H v (.tup (ns.map .int))) (sb : Sub S H) : ∃ a, v = .ref a ∧ SqT K H a (ns.map V.int) := by
  obtain ⟨a, vs, rfl, h1, z, r, _⟩ := h.tup sb
  rw [r.ints] at h1
  exact ⟨a, rfl, h1⟩
theorem ca_bi (b : Bi) : CaS K mg (biD b) (rBi K b) := by
  intro S H xs ds z Q sb hx hg hQ
  unfold biD at hg
  split at hg <;> try (cases hg; done)
  · cases hg
    obtain ⟨v, rfl, h⟩ := hx.one
    obtain ⟨a, vs, rfl, h1, z, r⟩ := h
    exact .inl ⟨a, vs, rfl, .inl (.inl (.inl h1)), by rw [r.length]; exact hQ.int⟩
  · cases hg
    obtain ⟨v, rfl, h⟩ := hx.one
    obtain ⟨a, vs, rfl, h1, z, r, _⟩ := h.tup sb
    exact .inl ⟨a, vs, rfl, .inr h1, by rw [r.length]; exact hQ.int⟩
  · cases hg
    obtain ⟨v, rfl, h⟩ := hx.one
    obtain ⟨a, rfl, h1⟩ := h.scr sb
    exact .inl ⟨a, _, rfl, .inl h1, by rw [List.length_map]; exact hQ.int⟩
  · split at hg <;> cases hg
    rename_i hl
    obtain ⟨v, rfl, h⟩ := hx.one
    rw [h.str]
    exact .inr ⟨_, rfl, small6 (by omega), hQ.int⟩
  · cases hg
    obtain ⟨v, rfl, h⟩ := hx.one
    rw [h.int]
    exact ⟨_, rfl, hQ.int⟩
  · cases hg
    obtain ⟨v, w, rfl, h, h'⟩ := hx.two
    rw [h.int, h'.int]
    exact .inl ⟨_, _, rfl, hQ.int⟩
  · cases hg
    obtain ⟨v, w, rfl, h, h'⟩ := hx.two
    rw [h.int, h'.int]
    exact .inl ⟨_, _, rfl, hQ.int⟩
  · obtain ⟨ns, hn, hd⟩ := onInts_ok hg
    split at hn <;> cases hn
    rename_i hne
    obtain ⟨v, rfl, h⟩ := hx.one
    rcases hd with rfl | rfl
    · obtain ⟨a, rfl, h1, z⟩ := h.ints
      refine .inr (.inl ⟨a, ns, rfl, .inl (.inl h1), List.length_pos_iff.mpr hne, fun m hm hy => ?_⟩)
      obtain ⟨g1, g2⟩ := maxI_spec hne
      rw [Int.le_antisymm (g2 m hm) (hy _ g1)]
      exact hQ.int
    · obtain ⟨a, rfl, h1⟩ := h.intsT sb
      exact .inr (.inr ⟨a, ns, rfl, h1, hne, hQ.int⟩)
  · obtain ⟨ns, hn, hd⟩ := onInts_ok hg
    split at hn <;> cases hn
    rename_i hne
    obtain ⟨v, rfl, h⟩ := hx.one
    rcases hd with rfl | rfl
    · obtain ⟨a, rfl, h1, z⟩ := h.ints
      refine .inr (.inl ⟨a, ns, rfl, .inl (.inl h1), List.length_pos_iff.mpr hne, fun m hm hy => ?_⟩)
      obtain ⟨g1, g2⟩ := minI_spec hne
      rw [Int.le_antisymm (hy _ g1) (g2 m hm)]
      exact hQ.int
    · obtain ⟨a, rfl, h1⟩ := h.intsT sb
      exact .inr (.inr ⟨a, ns, rfl, h1, hne, hQ.int⟩)
  · obtain ⟨ns, hn, hd⟩ := onInts_ok hg
    cases hn
    obtain ⟨v, rfl, h⟩ := hx.one
    rcases hd with e | e <;> cases e
    obtain ⟨a, rfl, h1, z⟩ := h.ints
    exact ⟨a, ns, rfl, .inl (.inl h1), hQ.int⟩
  · obtain ⟨ns, hn, hd⟩ := onInts_ok hg
    split at hn <;> cases hn
    rename_i hl
    obtain ⟨v, rfl, h⟩ := hx.one
    rcases hd with e | e <;> cases e
    obtain ⟨a, rfl, h1, z⟩ := h.ints
    refine ⟨a, ns, rfl, .inl (.inl h1), hl, fun ns' p hp hs hn => ?_⟩
    rw [sortI_unique hp hs]
    exact hQ.lst sb RepL.ofInts (by rw [List.length_map, (sortI_perm ns).length_eq]; exact small64 hl) p hn
  · split at hg <;> cases hg
    rename_i bs hb
    obtain ⟨v, rfl, h⟩ := hx.one
    obtain ⟨a, vs, rfl, h1, z, r⟩ := h
    rw [blsOf_eq hb] at r
    rw [r.bls] at h1
    exact ⟨a, bs, rfl, .inl (.inl h1), hQ.bl⟩
  · split at hg <;> cases hg
    rename_i bs hb
    obtain ⟨v, rfl, h⟩ := hx.one
    obtain ⟨a, vs, rfl, h1, z, r⟩ := h
    rw [blsOf_eq hb] at r
    rw [r.bls] at h1
    exact ⟨a, bs, rfl, .inl (.inl h1), hQ.bl⟩
  · cases hg
    obtain ⟨v, rfl, h⟩ := hx.one
    rw [h.int]
    exact .inl ⟨_, rfl, hQ.int⟩
  · cases hg
    obtain ⟨v, rfl, h⟩ := hx.one
    rw [h.bl]
    exact .inr ⟨_, rfl, hQ.int⟩
  · cases hg
    obtain ⟨v, rfl, h⟩ := hx.one
    obtain ⟨a, vs, rfl, h1, z, r⟩ := h
    exact ⟨a, vs, rfl, .inl (.inl (.inl h1)), fun l hl => hQ.lst sb r z l hl⟩
  · cases hg
    obtain ⟨v, rfl, h⟩ := hx.one
    obtain ⟨a, vs, rfl, h1, z, r, _⟩ := h.tup sb
    exact ⟨a, vs, rfl, .inr h1, fun l hl => hQ.lst sb r z l hl⟩
  · cases hg
    obtain ⟨v, rfl, h⟩ := hx.one
    obtain ⟨a, vs, rfl, h1, z, r⟩ := h
    exact ⟨a, vs, rfl, .inl ⟨.inl (.inl h1), fun l hl => hQ.tup sb r z l hl⟩⟩
  · cases hg
    obtain ⟨v, rfl, h⟩ := hx.one
    obtain ⟨a, vs, rfl, h1, z, r, p⟩ := h.tup sb
    exact ⟨a, vs, rfl, .inr ⟨h1, hQ.1 _ p⟩⟩
theorem noX_onInts {d : D} {f : List Int → R D} {c : Str} (h : onInts d f = .exc c) : ∃ ns, f ns = .exc c := by
  unfold onInts at h
  split at h
  · exact ⟨_, h⟩
  · cases h
theorem noX_bi (b : Bi) : NoX1 (biD b) := by
  intro ds c h
  unfold biD at h
  split at h <;> first
    | (cases h; done)
    | (split at h <;> cases h; done)
    | (obtain ⟨ns, h⟩ := noX_onInts h
       first | (cases h; done) | (split at h <;> cases h))
end
end Lk
end Part_LkG
section Part_LkH
set_option Elab.async false
set_option linter.all false
set_option maxRecDepth 100000
set_option maxHeartbeats 4000000
namespace Lk
open PySem PySem.Spec PyProof.Rows L2
/-! ### the shapes that the check lets by -/
def good : Expr → Bool
  | .Starred _ _ => false
  | .Slice _ _ _ _ => false
  | .Set _ _ _ => false
  | .SetComp _ _ _ _ => false
  | .DictComp _ _ _ _ _ => false
  | _ => true
def isLcE : Expr → Bool
  | .ListComp _ _ _ _ => true
  | _ => false
section
variable {N fs : List Str} {lm : Bool} {sc : Scope} {ce : CE} {e : Expr}
theorem chk_good (h : chk N fs lm sc ce e = true) : good e = true := by
  cases e <;> first | rfl | (cases ce <;> simp [chk] at h; done) | (cases ce <;> first | (simp [chk] at h; done) | (rename_i c; cases c <;> simp [chk] at h))
theorem chk_lc (h : chk N fs lm sc ce e = true) : isLcE e = isLc ce := by
  cases e <;> first
    | (cases ce <;> first | rfl | (simp [chk] at h; done) | (rename_i c; cases c <;> simp [chk] at h; done))
theorem star_ok {env : PySem.Env} {es : List Expr} (g : good e = true) : starEach (e :: es) env = (false, eval e env) :: starEach es env := by
  cases e <;> first | rfl | (simp [good] at g)
theorem chkL_good : ∀ {cl : CL} {es : List Expr}, chkL N fs lm sc cl es = true → ∀ x ∈ es, good x = true
  | .nil, [], _, x, hx => by cases hx
  | .nil, _ :: _, h, _, _ => by simp [chkL] at h
  | .cons _ _, [], h, _, _ => by simp [chkL] at h
  | .cons c r, y :: ys, h, x, hx => by
    simp only [chkL, Bool.and_eq_true] at h
    rcases List.mem_cons.mp hx with rfl | hx
    · exact chk_good h.1
    · exact chkL_good h.2 x hx
theorem back_ok {env : PySem.Env} {pos : Pos} : ∀ {es : List Expr}, (∀ x ∈ es, good x = true) → (backTo pos (starEach es env)).any (·.1) = false
  | [], _ => rfl
  | e :: es, h => by
    rw [star_ok (h e (.head _))]
    show (false || (backTo pos (starEach es env)).any (·.1)) = false
    rw [back_ok fun x hx => h x (.tail _ hx)]
    rfl
theorem plainIx_ok (g : good e = true) : PlainIx e := by
  intro o i
  cases e <;> first | rfl | (simp [good] at g)
theorem mark_ok (g : good e = true) (op : CmpOp) : behindInMarks op e = false := by
  cases e <;> first | rfl | (simp [good] at g)
theorem folded_ok {env : PySem.Env} (g : good e = true) : ∀ x, foldedSetIterable e env x = pure x := by
  intro x
  cases e <;> first | rfl | (simp [good] at g)
theorem swap_none {env : PySem.Env} {l : Nat} (g : good e = true) (n : isLcE e = false) (t : Option Expr) : swapsWith e t l env = pure false := by
  cases e <;> first | rfl | (simp [good] at g; done) | (simp [isLcE] at n)
end
/-! ### items, slices, classes, places -/
section
variable {X : Cx} {K : PySem.W.Frag} {mg : Str → Option Value}
theorem atD_ok {xs : List D} {i : Int} {z : D} (h : atD xs i = .ok z) : atI xs i = some z := by
  unfold atD at h
  split at h <;> cases h
  assumption
theorem RepL.atI {S : Hp} {vs : List V} {ds : List D} {i : Int} {z : D} (r : RepL K mg S vs ds) (h : atI ds i = some z) : ∃ v, L2.atI vs i = some v ∧ Rep K mg S v z := by
  unfold L2.atI at h ⊢
  rw [r.length]
  cases q : ixN ds.length i with
  | none => rw [q] at h; cases h
  | some j =>
    rw [q] at h
    exact r.getD h
theorem os_sub_ix : OpS K mg subD (rIx K) := by
  intro S H x y d e z Q sb hx hy hg hQ
  cases d <;> cases e <;> simp only [subD] at hg <;> try (cases hg; done)
  case str.int s i =>
    split at hg
    · split at hg <;> cases hg
      rename_i hl c hc
      rw [hx.str, hy.int]
      exact .inr (.inr ⟨_, _, c, rfl, rfl, small6 (by omega), hc, hQ.str⟩)
    · cases hg
  case lst.int xs i =>
    obtain ⟨a, vs, rfl, h1, z1, r⟩ := hx
    obtain ⟨v, h2, h3⟩ := r.atI (atD_ok hg)
    rw [hy.int]
    exact .inl ⟨a, vs, i, v, rfl, rfl, .inl (.inl h1), h2, hQ.1 _ h3⟩
  case tup.int xs i =>
    obtain ⟨a, vs, rfl, h1, z1, r, _⟩ := hx.tup sb
    obtain ⟨v, h2, h3⟩ := r.atI (atD_ok hg)
    rw [hy.int]
    exact .inr (.inl ⟨a, vs, i, v, rfl, rfl, h1, h2, hQ.1 _ h3⟩)
  case scr.int ns i =>
    split at hg <;> cases hg
    rename_i n hn
    obtain ⟨a, rfl, h1⟩ := hx.scr sb
    rw [hy.int]
    refine .inl ⟨a, _, i, .int n, rfl, rfl, h1, ?_, hQ.int⟩
    unfold L2.atI at hn ⊢
    rw [List.length_map]
    cases q : ixN ns.length i with
    | none => rw [q] at hn; cases hn
    | some j =>
      rw [q] at hn
      show (ns.map V.int)[j]? = some (.int n)
      rw [List.getElem?_map, show ns[j]? = some n from hn]
      rfl
theorem noX_sub : NoX2 subD := by
  intro d e c h
  cases d <;> cases e <;> simp only [subD] at h <;> try (cases h; done)
  · split at h
    · split at h <;> cases h
    · cases h
  · unfold atD at h; split at h <;> cases h
  · unfold atD at h; split at h <;> cases h
  · split at h <;> cases h
def rSlS (K : PySem.W.Frag) : V → Option Int → Option Int → Hp → VK → Prop := fun x lo hi H Q => rSlL K x lo hi H Q ∨ rSlA K x lo hi H Q
theorem sl_all : SlR X (rSlS X.K) := sl_list.or sl_tupA
theorem cut_rep {S : Hp} {vs : List V} {ds : List D} {lo hi : Option Int} (r : RepL K mg S vs ds) : RepL K mg S (cutV vs lo hi) (cutL ds lo hi) := by
  unfold cutV cutL
  rw [r.length]
  exact (r.drop _).take _
theorem sl_ok {S H : Hp} {x : V} {d z : D} {lo hi : Option Int} {Q : VK} (sb : Sub S H) (hx : RH K mg S H x d) (hg : slcD d lo hi = .ok z) (hQ : EndsD K mg S H z Q) : rSlS K x lo hi H Q := by
  cases d <;> simp only [slcD] at hg <;> try (cases hg; done)
  case lst xs =>
    cases hg
    obtain ⟨a, vs, rfl, h1, z1, r⟩ := hx
    refine .inl ⟨a, vs, rfl, .inl (.inl h1), fun p hp => ?_⟩
    exact hQ.lst sb (cut_rep r) (Nat.le_trans (cutV_length _ _ _) z1) p hp
  case tup xs =>
    cases hg
    obtain ⟨a, vs, rfl, h1, z1, r, pr⟩ := hx.tup sb
    refine .inr ⟨a, vs, rfl, h1, fun hw => ?_, fun hw p hp => ?_⟩
    · have e : cutL xs lo hi = xs := by
        unfold cutL
        rw [← r.length, hw.1, hw.2, List.drop_zero, Nat.sub_zero, r.length, List.take_length]
      rw [e] at hQ
      exact hQ.1 _ pr
    · exact hQ.tup sb (cut_rep r) (Nat.le_trans (cutV_length _ _ _) z1) p hp
theorem noX_slc {d : D} {lo hi : Option Int} {c : Str} : slcD d lo hi ≠ .exc c := by
  intro h
  cases d <;> simp only [slcD] at h <;> cases h
/-- isinstance -/
theorem ty_of {S H : Hp} {v : V} {d : D} (sb : Sub S H) (h : RH K mg S H v d) (hf : ∀ f, d ≠ .fn f) : TyX K H v (.type (tyD d)) := by
  cases d with
  | non => rw [h.non]; exact .base .non
  | bl b => rw [h.bl]; exact .base (.bl b)
  | int b => rw [h.int]; exact .base (.int b)
  | str b => rw [h.str]; exact .base (.str b)
  | lst ds => obtain ⟨a, vs, rfl, h1, _⟩ := h; exact .base (.lst h1)
  | tup ds =>
    obtain ⟨a, vs, rfl, h1, _⟩ := h.tup sb
    rcases h1 with (h1 | ⟨o, h1⟩) | ⟨o, its, n, hk, hc, _⟩
    · exact .base (.tup h1)
    · exact .fTuple h1
    · exact .kTuple hk hc
  | dK ks ds => obtain ⟨a, vs, rfl, h1, _⟩ := h; exact .base (.dK h1)
  | dT ks ds => obtain ⟨a, vs, rfl, h1, _⟩ := h; exact .base (.dT h1)
  | fn f => exact absurd rfl (hf f)
  | scr ns =>
    obtain ⟨a, rfl, h1⟩ := h.scr sb
    rcases h1 with (h1 | ⟨o, h1⟩) | ⟨o, its, n, hk, hc, _⟩
    · exact .base (.lst h1)
    · exact .base (.frz h1)
    · exact .kList hk hc
theorem isi_ok {S H : Hp} {x : V} {d z : D} {t : String} {Q : VK} (sb : Sub S H) (hx : RH K mg S H x d) (hg : isiD d t = .ok z) (hQ : EndsD K mg S H z Q) : rIsi K [x, .ty t] H Q := by
  have hf : ∀ f, d ≠ .fn f := fun f e => by subst e; simp only [isiD] at hg; cases hg
  have hg' : (match kitB (tyD d) t with | some b => R.ok (D.bl b) | none => .bad) = .ok z := by
    cases d <;> first | exact hg | (simp only [isiD] at hg; cases hg)
  split at hg' <;> cases hg'
  rename_i b hb
  exact ⟨x, .ty t, _, _, b, rfl, .ty t, ty_of sb hx hf, kit_ty hb, hQ.bl⟩
theorem noX_isi {d : D} {t : String} {c : Str} : isiD d t ≠ .exc c := by
  intro h
  unfold isiD at h
  split at h
  · cases h
  · split at h <;> cases h
/-- the methods -/
def rMt (K : PySem.W.Frag) : Mt → V → List V → Hp → VK → Prop
  | .index => rIndexD K
  | .count => rCntI K
theorem findIdx_spec {α : Type} {p : α → Bool} : ∀ {l : List α}, l.any p = true → ∃ z, l[l.findIdx p]? = some z ∧ p z = true ∧ ∀ (m : Nat) z', m < l.findIdx p → l[m]? = some z' → p z' = false
  | [], h => by simp at h
  | x :: r, h => by
    rw [List.findIdx_cons]
    cases q : p x with
    | true => exact ⟨x, rfl, q, fun m z' hm => by simp at hm⟩
    | false =>
      rw [List.any_cons, q, Bool.false_or] at h
      obtain ⟨z, h1, h2, h3⟩ := findIdx_spec (p := p) h
      refine ⟨z, ?_, h2, fun m z' hm hz => ?_⟩
      · simpa using h1
      · cases m with
        | zero => cases hz; exact q
        | succ m => exact h3 m z' (by simpa using hm) (by simpa using hz)
theorem mt_ok {m : Mt} {S H : Hp} {x y : V} {d e z : D} {Q : VK} (sb : Sub S H) (hx : RH K mg S H x d) (hy : RH K mg S H y e) (hg : mthD m d e = .ok z) (hQ : EndsD K mg S H z Q) : tyV K "list" x H ∧ rMt K m x [y] H Q := by
  cases m with
  | index =>
    cases d <;> simp only [mthD] at hg <;> try (cases hg; done)
    rename_i ds
    obtain ⟨a, vs, rfl, h1, z1, r⟩ := id hx
    refine ⟨.inl ⟨rfl, _, .inl (.inl h1)⟩, ?_⟩
    cases q1 : toPy e with
    | none => rw [q1] at hg; cases hg
    | some p =>
      cases q2 : toPys ds with
      | none => rw [q1, q2] at hg; cases hg
      | some ps =>
        rw [q1, q2] at hg
        simp only at hg
        split at hg <;> cases hg
        rename_i hs
        obtain ⟨w, w1, w2, w3⟩ := findIdx_spec hs.2.2
        exact ⟨a, y, p, ps, _, w, rfl, rfl, hx.dp sb (by simp only [toPy, q2]; rfl), hy.dp sb q1, hs.2.1, hs.1, w1, w2, w3, hQ.int⟩
  | count =>
    cases d <;> cases e <;> simp only [mthD] at hg <;> try (cases hg; done)
    rename_i ds i
    split at hg <;> cases hg
    rename_i ns hn
    rw [intsOf_eq hn] at hx
    obtain ⟨a, rfl, h1, z1⟩ := hx.ints
    rw [hy.int]
    exact ⟨.inl ⟨rfl, _, .inl (.inl h1)⟩, a, ns, i, rfl, rfl, .inl (.inl h1), hQ.int⟩
theorem noX_mth (m : Mt) : NoX2 (mthD m) := by
  intro d e c h
  cases m with
  | index =>
    cases d <;> simp only [mthD] at h <;> try (cases h; done)
    split at h
    · split at h <;> cases h
    · cases h
  | count =>
    cases d <;> cases e <;> simp only [mthD] at h <;> try (cases h; done)
    split at h <;> cases h
end
end Lk
end Part_LkH
section Part_LkI
set_option Elab.async false
set_option linter.all false
set_option maxRecDepth 100000
set_option maxHeartbeats 4000000
namespace Lk
open PySem PySem.Spec PyProof.Rows L2
/-- the context of a lambda's body, its exceptions with no context of their own -/
def lamN (X : Cx) (A : Around) (outer : List PySem.Env) (s : Shared) (H : Hp) (E : XK) (scope : Scope) (f c' : Addr) : Cx :=
  (LamX.lamCx X A outer s H E scope f c').wish fun e s' => wpAny (model X.prog X.w) (A.deeper (LamX.lamEnv X scope s.heap.objs.size f c')) (leaving (LamX.lamEnv X scope s.heap.objs.size f c') e) (fun _ s'' => L2N.CX X.prog X.w outer H s E e s'') (fun e' s'' => L2N.CX X.prog X.w outer H s E e' s'') s'
theorem takesN0 {X : Cx} : L2N.Takes X (fun _ _ _ _ => False) := fun _ _ x => by
  obtain ⟨_, _, _, _, _, _, _, _, _, _, _, _, _, _, _, _, z⟩ := x
  exact z.elim
/-! ### what a def promises, told of data -/
def spF (K : PySem.W.Frag) (mg : Str → Option Value) (T : List (Addr × Str)) (Φ : Str → List D → R D) (f : Str) (n : Nat) : Sp := fun vs H Q E => vs.length = n ∧ ∃ S ds, Sub S H ∧ Tb T S H ∧ RepL K mg S vs ds ∧
  match Φ f ds with
  | .ok d => ∀ v S' H', Ext S S' → Sub S' H' → Tb T S' H' → (∀ b o, S b = none → H b = some o → H' b = some o ∧ S' b = none) → Rep K mg S' v d → Q v H'
  | .exc c => ∀ S' H', Ext S S' → Sub S' H' → Tb T S' H' → (∀ b o, S b = none → H b = some o → H' b = some o ∧ S' b = none) → ∃ C, mg c = some (.ref C) ∧ E (.ref C) none H'
  | .bad => False
def FnsOk (X : Cx) (T : List (Addr × Str)) (Φ : Str → List D → R D) (fs : List Str) (n : Nat) : Prop := ∀ f ∈ fs, ∃ fa fd ps, X.mg f = some (.ref fa) ∧ PySem.W.keepIn X.K (.ref fa) = true ∧ Binds X.K fd ps [] ∧ (∀ ds, Φ f ds ≠ .bad → ds.length = ps.length) ∧
  FnOk X.prog X.w X.K X.mg X.base (L2N.CX X.prog X.w) (3 * n) fa fd ps (spF X.K X.mg T Φ f ps.length)
structure Cxt (N fs : List Str) (T : List (Addr × Str)) (Φ : Str → List D → R D) (C : Str → Option D) (n : Nat) (lm : Bool) (W : WX) (sc : Scope) (X : Cx) : Prop where
  hN : X.N = N
  nd : X.N.Nodup
  hsc : X.env.scope = sc
  kind : X.env.scope.kind = .function
  calm : X.calm = true
  room : Room (3 * n) X.A
  tk : L2N.Takes X W
  nb : ∀ x ∈ blts, X.mg x = none
  gl : ∀ x d, C x = some d → ∃ v u, X.mg x = some u ∧ RelV v u ∧ ∀ S, Rep X.K X.mg S v d
  fns : FnsOk X T Φ fs n
  lam : lm = true → ∀ (f : Env → R D) (params : Arguments) (body : Expr) (scope : Scope) (x : Str) (p lp pos : Pos), x = ("_law_told" : Str) → Gl X x → params = ⟨[], [], none, [], [], none, []⟩ → LamX.lamSB sc scope = true →
    (∀ (A : Around) (outer : List PySem.Env) (s : Shared) (H : Hp) (E : XK) (fa c' : Addr), Room (3 * n) (A.deeper (LamX.lamEnv X scope s.heap.objs.size fa c')) → PE (lamN X A outer s H E scope fa c') body (tE X.K X.mg T (fun cls d _ H => E cls d H) f)) →
    PE X (.Call (.Name x p) [.Lambda params body scope lp] [] pos) (tE X.K X.mg T W fun ρ => toldR C (f ρ))
section
variable {K : PySem.W.Frag} {mg : Str → Option Value} {T : List (Addr × Str)} {W : WX} {F S S' H H' : Hp} {σ : St} {ρ : Env}
/-- behind a call -/
theorem ER.called (E : ER K mg T F S H σ ρ) (e : Ext S S') (sb : Sub S' H') (tb : Tb T S' H') (k : ∀ b o, S b = none → H b = some o → H' b = some o ∧ S' b = none) : ER K mg T F S' H' σ ρ := by
  refine ⟨sb, fun b o h => ?_, tb, E.len, fun i d h => ?_, fun i d h => ?_, E.inj⟩
  · obtain ⟨h1, h2⟩ := E.dis b o h
    exact k b o h2 h1
  · obtain ⟨v, h1, h2⟩ := E.sl i d h
    exact ⟨v, h1, h2.ext e⟩
  · obtain ⟨a, h1, h2, h3, h4⟩ := E.ow i d h
    obtain ⟨o, h5, _⟩ := h4.get
    refine ⟨a, h1, (k a o h2 h5).2, h3, h4.ext e fun o' q => (k a o' h2 q).1⟩
theorem PostE.ends {z : D} {Q : VK} (p : PostE K mg T W F S σ ρ (.ok z) Q) (E : ER K mg T F S H σ ρ) : EndsD K mg S H z Q := by
  refine ⟨fun v r => p v S H (.refl _) E r, fun q o hq ht r => ?_⟩
  obtain ⟨E', e⟩ := E.new (o := o) hq ht
  exact p _ _ _ e E' r
theorem RBL.rhl (E : ER K mg T F S H σ ρ) {vs : List V} {ds : List D} (h : RBL K mg S σ ρ vs ds) : RHL K mg S H vs ds := by
  induction h with
  | nil => exact .nil
  | cons a _ ih => exact .cons (E.rh a) ih
end
section
variable {N fs : List Str} {T : List (Addr × Str)} {Φ : Str → List D → R D} {C : Str → Option D} {n : Nat} {lm : Bool} {W : WX} {sc : Scope} {X : Cx} (c : Cxt N fs T Φ C n lm W sc X) {pos p : Pos}
include c
theorem Cxt.gl_ok {x : Str} (h : isGlB sc x = true) : Gl X x ∧ (x == ("__debug__" : Str)) = false ∧ x ≠ ("__name__" : Str) := by
  unfold isGlB kindB at h
  simp only [Bool.and_eq_true, decide_eq_true_eq, Bool.not_eq_true', decide_eq_false_iff_not] at h
  refine ⟨?_, h.1.2, h.2⟩
  show X.env.scope.names.lookup x = _
  rw [c.hsc]
  exact h.1.1
theorem Cxt.var_ok {i : Nat} {x : Str} (h : isVarB sc N i x = true) : X.N[i]? = some x ∧ Vis X.env.scope x ∧ (x == ("__debug__" : Str)) = false ∧ (x == ("__classdict__" : Str)) = false := by
  unfold isVarB kindB at h
  simp only [Bool.and_eq_true, Bool.or_eq_true, decide_eq_true_eq, Bool.not_eq_true'] at h
  refine ⟨by rw [c.hN]; exact h.1.1.1, ?_, h.1.2, h.2⟩
  unfold Vis
  rw [c.hsc]
  rcases h.1.1.2 with (h | h) | h
  · exact .inl h
  · exact .inr (.inl h)
  · exact .inr (.inr h)
theorem snd_var {i : Nat} {x : Str} (h : isVarB sc N i x = true) : PE X (.Name x p) (tE X.K X.mg T W (evE Φ C (.var i))) := by
  obtain ⟨h1, h2, h3, h4⟩ := c.var_ok h
  refine PE_imp (pe_var h1 h2 h3 h4) ?_
  rintro σ H Q ⟨F, S, ρ, E, p⟩
  simp only [evE] at p
  split at p
  · rename_i d hd
    obtain ⟨v, h5, h6⟩ := E.sl i d hd
    exact ⟨v, h5, p v S H (.refl _) E h6⟩
  · exact p.elim
theorem snd_varB {i : Nat} {x : Str} (h : isVarB sc N i x = true) : PE X (.Name x p) (tBr X.K X.mg T W fun ρ => brw (.var i) ρ (evE Φ C (.var i) ρ)) := by
  obtain ⟨h1, h2, h3, h4⟩ := c.var_ok h
  refine PE_imp (pe_var h1 h2 h3 h4) ?_
  rintro σ H Q ⟨F, S, ρ, E, p⟩
  simp only [brw] at p
  split at p
  · rename_i d hd
    obtain ⟨v, h5, h6⟩ := E.sl i d hd
    exact ⟨v, h5, p v S H (.refl _) E (.inl h6)⟩
  · rename_i d hd
    obtain ⟨a, h5, h6⟩ := E.ow i d hd
    exact ⟨_, h5, p _ S H (.refl _) E (.inr ⟨i, hd, h5⟩)⟩
  · exact p.elim
omit c in
theorem brw_eq {ce : CE} (h : ∀ i, ce ≠ .var i) (ρ : Env) (r : R D) : brw ce ρ r = r := by
  cases ce <;> first | rfl | exact absurd rfl (h _)
/-- a part that may be borrowed -/
theorem snd_brw {ce : CE} {e : Expr} (h : chk N fs lm sc ce e = true) (ih : PE X e (tE X.K X.mg T W (evE Φ C ce))) : PE X e (tBr X.K X.mg T W fun ρ => brw ce ρ (evE Φ C ce ρ)) := by
  by_cases hv : ∃ i, ce = .var i
  · obtain ⟨i, rfl⟩ := hv
    cases e <;> try (simp [chk] at h; done)
    exact snd_varB c (by simpa [chk] using h)
  · have e1 : (fun ρ => brw ce ρ (evE Φ C ce ρ)) = evE Φ C ce := by
      funext ρ
      exact brw_eq (fun i z => hv ⟨i, z⟩) _ _
    rw [e1]
    exact PE_imp ih fun σ H Q q => tE_br q
omit c in
theorem snd_cst {d : D} {v : V} {e : Expr} (h : PE X e (tC v)) (hr : ∀ S, Rep X.K X.mg S v d) (f : Env → R D) (hf : ∀ ρ, f ρ = .ok d) : PE X e (tE X.K X.mg T W f) := by
  refine PE_imp h ?_
  rintro σ H Q ⟨F, S, ρ, E, p⟩
  rw [hf] at p
  exact p v S H (.refl _) E (hr S)
theorem snd_glb {x : Str} (h : isGlB sc x = true) : PE X (.Name x p) (tE X.K X.mg T W (evE Φ C (.glb x))) := by
  obtain ⟨h1, h2, h3⟩ := c.gl_ok h
  cases q : C x with
  | none =>
    refine ⟨fun pins s σ H Q I q' => ?_⟩
    obtain ⟨F, S, ρ, E, p⟩ := q'
    simp only [evE, q] at p
    exact p.elim
  | some d =>
    obtain ⟨v, u, g1, g2, g3⟩ := c.gl x d q
    exact snd_cst (pe_glob h1 g1 g2 h2) g3 _ fun ρ => by simp only [evE, q]
theorem snd_dfn {x : Str} (h : isGlB sc x = true) (hx : x ∈ fs) : PE X (.Name x p) (tE X.K X.mg T W (evE Φ C (.dfn x))) := by
  obtain ⟨h1, h2, h3⟩ := c.gl_ok h
  obtain ⟨fa, fd, ps, hm, _⟩ := c.fns x hx
  exact snd_cst (v := .ref fa) (pe_glob (v := .ref fa) h1 hm rfl h2) (fun S => .fn hm) _ fun ρ => by simp only [evE]
/-- arguments -/
theorem snd_nil : PA X [] (tA X.K X.mg T W (evL Φ C .nil)) := by
  refine PA_imp pa_nil ?_
  rintro σ H Q ⟨F, S, ρ, E, p⟩
  simp only [evL] at p
  exact p [] S H (.refl _) E .nil
theorem snd_cons {ce : CE} {r : CL} {e : Expr} {es : List Expr} (g : good e = true) (ih : PE X e (tE X.K X.mg T W (evE Φ C ce))) (ihr : PA X es (tA X.K X.mg T W (evL Φ C r))) : PA X (e :: es) (tA X.K X.mg T W (evL Φ C (.cons ce r))) := by
  refine PA_imp (pa_cons ih ihr (star_ok g)) ?_
  rintro σ H Q ⟨F, S, ρ, E, p⟩
  simp only [evL] at p
  refine seqE (P := fun S r => PostA X.K X.mg T W F S σ ρ r Q) E (fun _ _ h => h) (fun _ h => h) p fun d v S1 H1 q1 e1 E1 r1 p1 => ?_
  refine ⟨F, S1, ρ, E1, ?_⟩
  unfold PostA
  cases q : evL Φ C r ρ with
  | ok ds =>
    rw [q] at p1
    exact fun vs S2 H2 e2 E2 r2 => p1 (v :: vs) S2 H2 (e1.trans e2) E2 (.cons (r1.ext e2) r2)
  | exc x => rw [q] at p1; exact Fails.ext p1 e1
  | bad => rw [q] at p1; exact p1
end
end Lk
end Part_LkI
section Part_LkJ
set_option Elab.async false
set_option linter.all false
set_option maxRecDepth 100000
set_option maxHeartbeats 4000000
namespace Lk
open PySem PySem.Spec PyProof.Rows L2
section
variable {N fs : List Str} {T : List (Addr × Str)} {Φ : Str → List D → R D} {C : Str → Option D} {n : Nat} {lm : Bool} {W : WX} {sc : Scope} {X : Cx} (c : Cxt N fs T Φ C n lm W sc X) {pos p : Pos}
theorem snd_nilB : PA X [] (tAB X.K X.mg T W (evLB Φ C .nil)) := by
  refine PA_imp pa_nil ?_
  rintro σ H Q ⟨F, S, ρ, E, p⟩
  simp only [evLB] at p
  exact p [] S H (.refl _) E .nil
theorem snd_consB {ce : CE} {r : CL} {e : Expr} {es : List Expr} (g : good e = true) (ih : PE X e (tBr X.K X.mg T W fun ρ => brw ce ρ (evE Φ C ce ρ))) (ihr : PA X es (tAB X.K X.mg T W (evLB Φ C r))) : PA X (e :: es) (tAB X.K X.mg T W (evLB Φ C (.cons ce r))) := by
  refine PA_imp (pa_cons ih ihr (star_ok g)) ?_
  rintro σ H Q ⟨F, S, ρ, E, p⟩
  simp only [evLB] at p
  refine seqB (P := fun S r => PostAB X.K X.mg T W F S σ ρ r Q) E (fun _ _ h => h) (fun _ h => h) p fun d v S1 H1 q1 e1 E1 r1 p1 => ?_
  refine ⟨F, S1, ρ, E1, ?_⟩
  unfold PostAB
  cases q : evLB Φ C r ρ with
  | ok ds =>
    rw [q] at p1
    exact fun vs S2 H2 e2 E2 r2 => p1 (v :: vs) S2 H2 (e1.trans e2) E2 (.cons (r1.ext e2) r2)
  | exc x => rw [q] at p1; exact Fails.ext p1 e1
  | bad => rw [q] at p1; exact p1
theorem snd_lst {es : CL} {xs : List Expr} (ih : PA X xs (tA X.K X.mg T W (evL Φ C es))) (hl : ∀ ρ ds, evL Φ C es ρ = .ok ds → ds.length ≤ 1000) : PE X (.List xs pos) (tE X.K X.mg T W (evE Φ C (.lst es))) := by
  refine PE_imp (pe_lst ih) ?_
  rintro σ H Q ⟨F, S, ρ, E, p⟩
  simp only [evE] at p
  refine seqA (P := fun S r => PostE X.K X.mg T W F S σ ρ r Q) E (fun _ _ h => h) (fun _ h => h) p fun ds vs S1 H1 q1 e1 E1 r1 p1 => ?_
  have z : vs.length ≤ sizeLine := by rw [r1.length]; exact small6 (Nat.le_trans (hl ρ ds q1) (by decide))
  refine ⟨z, fun q hq => ?_⟩
  obtain ⟨E2, e2, r2⟩ := E1.lst hq z r1
  exact p1 _ _ _ (e1.trans e2) E2 r2
theorem snd_tup {es : CL} {xs : List Expr} {k : Nat} (ih : PA X xs (tA X.K X.mg T W (evL Φ C es))) (hl : ∀ ρ ds, evL Φ C es ρ = .ok ds → ds.length ≤ 1000) : PE X (.Tuple xs k pos) (tE X.K X.mg T W (evE Φ C (.tup es))) := by
  refine PE_imp (pe_tup ih) ?_
  rintro σ H Q ⟨F, S, ρ, E, p⟩
  simp only [evE] at p
  refine seqA (P := fun S r => PostE X.K X.mg T W F S σ ρ r Q) E (fun _ _ h => h) (fun _ h => h) p fun ds vs S1 H1 q1 e1 E1 r1 p1 => ?_
  have z : vs.length ≤ sizeLine := by rw [r1.length]; exact small6 (Nat.le_trans (hl ρ ds q1) (by decide))
  refine ⟨z, fun q hq => ?_⟩
  obtain ⟨E2, e2, r2⟩ := E1.tup hq z r1
  exact p1 _ _ _ (e1.trans e2) E2 r2
/-- two parts, then an operation -/
theorem two_ok {fa fb : Env → R D} {g : D → D → R D} {r : R2} (os : OpS X.K X.mg g r) (nx : NoX2 g) {σ : St} {H : Hp} {Q : VK} (h : tE X.K X.mg T W (fun ρ => (fa ρ).bind fun x => (fb ρ).bind fun y => g x y) σ H Q) : tOp r (tBr X.K X.mg T W fa) (tBr X.K X.mg T W fb) σ H Q := by
  obtain ⟨F, S, ρ, E, p⟩ := h
  refine seqB (P := fun S r => PostE X.K X.mg T W F S σ ρ r Q) E (fun _ _ h => h) (fun _ h => h) p fun d v S1 H1 q1 e1 E1 r1 p1 => ?_
  refine seqB (P := fun S r => PostE X.K X.mg T W F S σ ρ r Q) E1 (fun _ _ h => h) (fun _ h => h) (PostE.ext p1 e1) fun d2 v2 S2 H2 q2 e2 E2 r2 p2 => ?_
  cases q : g d d2 with
  | ok z =>
    rw [q] at p2
    exact os S2 H2 v v2 d d2 z Q E2.sub (E2.rh (r1.ext e2)) (E2.rh r2) q (PostE.ends (PostE.ext p2 e2) E2)
  | exc x => exact absurd q (nx d d2 x)
  | bad => rw [q] at p2; exact p2.elim
theorem snd_bin {o : Bop} {a b : CE} {x y : Expr} (iha : PE X x (tBr X.K X.mg T W fun ρ => brw a ρ (evE Φ C a ρ))) (ihb : PE X y (tBr X.K X.mg T W fun ρ => brw b ρ (evE Φ C b ρ))) : PE X (.BinOp x (bopA o) y pos) (tE X.K X.mg T W (evE Φ C (.bin o a b))) := by
  refine PE_imp (pe_op (or_bin o) iha ihb) fun σ H Q h => ?_
  simp only [evE] at h
  exact two_ok (os_bin o) (noX_bin o) h
theorem snd_sub {a b : CE} {x y : Expr} (g : good y = true) (iha : PE X x (tBr X.K X.mg T W fun ρ => brw a ρ (evE Φ C a ρ))) (ihb : PE X y (tBr X.K X.mg T W fun ρ => brw b ρ (evE Φ C b ρ))) : PE X (.Subscript x y pos) (tE X.K X.mg T W (evE Φ C (.sub a b))) := by
  refine PE_imp (pe_ix ix_seq iha ihb (plainIx_ok g)) fun σ H Q h => ?_
  simp only [evE] at h
  exact two_ok os_sub_ix noX_sub h
theorem cmp_os {o : Cop} {K : PySem.W.Frag} {mg : Str → Option Value} : OpS K mg (fun x y => (cmpD o x y).map .bl) (rCmp K o) := by
  intro S H x y d e z Q sb hx hy hg hQ
  obtain ⟨b, hb, rfl⟩ := R.map_ok hg
  exact cs_cmp o S H x y d e b Q sb hx hy hb hQ.bl
theorem noX_cmp2 (o : Cop) : NoX2 fun x y => (cmpD o x y).map .bl := fun d e x h => noX_cmp o d e x (R.map_exc h)
include c
theorem snd_cmp {o : Cop} {a b : CE} {x y : Expr} (g : good y = true) (iha : PE X x (tBr X.K X.mg T W fun ρ => brw a ρ (evE Φ C a ρ))) (ihb : PE X y (tBr X.K X.mg T W fun ρ => brw b ρ (evE Φ C b ρ))) : PE X (.Compare x [copA o] [y] pos) (tE X.K X.mg T W (evE Φ C (.cmp o a b))) := by
  refine PE_imp (pe_cmpR (or_cmp c.room o) iha ihb (mark_ok g _)) fun σ H Q h => ?_
  simp only [evE] at h
  exact two_ok cmp_os (noX_cmp2 o) h
omit c in
/-- a test by its value -/
theorem test_ok {f : Env → R D} {t : TE} (ht : ∀ σ H Q, tE X.K X.mg T W f σ H Q → t σ H Q) {σ : St} {H : Hp} {Q : Bool → Hp → Prop} (h : tT X.K X.mg T W (fun ρ => (f ρ).bind asB) σ H Q) : tTest t σ H Q := by
  obtain ⟨F, S, ρ, E, p⟩ := h
  refine ht _ _ _ ⟨F, S, ρ, E, ?_⟩
  unfold PostE
  dsimp only at p
  cases q : f ρ with
  | ok d =>
    rw [q] at p
    intro v S' H' e E' r
    cases d <;> simp only [R.bind_ok, asB] at p <;> try (exact p.elim)
    cases r
    exact ⟨_, rfl, p S' H' e E'⟩
  | exc x => rw [q] at p; exact p
  | bad => rw [q] at p; exact p
theorem sndT_cmp {o : Cop} {a b : CE} {x y : Expr} (g : good y = true) (iha : PE X x (tBr X.K X.mg T W fun ρ => brw a ρ (evE Φ C a ρ))) (ihb : PE X y (tBr X.K X.mg T W fun ρ => brw b ρ (evE Φ C b ρ))) : PT X (.Compare x [copA o] [y] pos) (tT X.K X.mg T W fun ρ => (evE Φ C (.cmp o a b) ρ).bind asB) := by
  refine PT_imp (pt_cmpR (or_cmp c.room o) iha ihb (mark_ok g _)) fun σ H Q h => test_ok (fun σ H Q h => ?_) h
  simp only [evE] at h
  exact two_ok cmp_os (noX_cmp2 o) h
omit c in
theorem sndT_val {e : Expr} {f : Env → R D} (ih : PE X e (tE X.K X.mg T W f)) (he : ∀ whole, isTrue e X.env whole = (do let v ← whole; standAt e.pos; holding [v] (truthy v))) : PT X e (tT X.K X.mg T W fun ρ => (f ρ).bind asB) :=
  PT_imp (pt_val ih he) fun σ H Q h => test_ok (fun _ _ _ h => h) h
omit c in
/-- a chain of two -/
theorem chain_ok {o o' : Cop} {fa fb fc : Env → R D} {σ : St} {H : Hp} {Q : VK}
    (h : tE X.K X.mg T W (fun ρ => (fa ρ).bind fun x => (fb ρ).bind fun y => (cmpD o x y).bind fun t => if t = true then (fc ρ).bind fun z => (cmpD o' y z).map .bl else .ok (.bl false)) σ H Q) :
    tChain (rCmp X.K o) (rCmp X.K o') (tBr X.K X.mg T W fa) (tBr X.K X.mg T W fb) (tBr X.K X.mg T W fc) σ H Q := by
  obtain ⟨F, S, ρ, E, p⟩ := h
  refine seqB (P := fun S r => PostE X.K X.mg T W F S σ ρ r Q) E (fun _ _ h => h) (fun _ h => h) p fun d v S1 H1 q1 e1 E1 r1 p1 => ?_
  refine seqB (P := fun S r => PostE X.K X.mg T W F S σ ρ r Q) E1 (fun _ _ h => h) (fun _ h => h) (PostE.ext p1 e1) fun d2 v2 S2 H2 q2 e2 E2 r2 p2 => ?_
  cases q : cmpD o d d2 with
  | exc x => exact absurd q (noX_cmp o d d2 x)
  | bad => rw [q] at p2; exact p2.elim
  | ok t =>
    rw [q] at p2
    refine cs_cmp o S2 H2 v v2 d d2 t _ E2.sub (E2.rh (r1.ext e2)) (E2.rh r2) q ⟨t, rfl, ?_⟩
    simp only [R.bind_ok] at p2
    cases t with
    | false =>
      simp only [Bool.false_eq_true, if_false] at p2 ⊢
      exact p2 _ _ _ e2 E2 (.bl false)
    | true =>
      simp only [if_true] at p2 ⊢
      refine seqB (P := fun S r => PostE X.K X.mg T W F S σ ρ r Q) E2 (fun _ _ h => h) (fun _ h => h) (PostE.ext p2 e2) fun d3 v3 S3 H3 q3 e3 E3 r3 p3 => ?_
      cases q' : cmpD o' d2 d3 with
      | exc x => exact absurd q' (noX_cmp o' d2 d3 x)
      | bad => rw [q'] at p3; exact p3.elim
      | ok t' =>
        rw [q'] at p3
        exact cs_cmp o' S3 H3 v2 v3 d2 d3 t' Q E3.sub (E3.rh (r2.ext e3)) (E3.rh r3) q' (p3 _ _ _ e3 E3 (.bl t'))
theorem snd_chn {o o' : Cop} {a b d : CE} {x y z : Expr} (g : good z = true) (iha : PE X x (tBr X.K X.mg T W fun ρ => brw a ρ (evE Φ C a ρ))) (ihb : PE X y (tBr X.K X.mg T W fun ρ => brw b ρ (evE Φ C b ρ))) (ihc : PE X z (tBr X.K X.mg T W fun ρ => brw d ρ (evE Φ C d ρ))) :
    PE X (.Compare x [copA o, copA o'] [y, z] pos) (tE X.K X.mg T W (evE Φ C (.chn o o' a b d))) := by
  refine PE_imp (pe_chain (or_cmp c.room o) (or_cmp c.room o') iha ihb ihc (by show behindInMarks _ z = false; exact mark_ok g _)) fun σ H Q h => ?_
  simp only [evE] at h
  exact chain_ok h
theorem sndT_chn {o o' : Cop} {a b d : CE} {x y z : Expr} (g : good z = true) (iha : PE X x (tBr X.K X.mg T W fun ρ => brw a ρ (evE Φ C a ρ))) (ihb : PE X y (tBr X.K X.mg T W fun ρ => brw b ρ (evE Φ C b ρ))) (ihc : PE X z (tBr X.K X.mg T W fun ρ => brw d ρ (evE Φ C d ρ))) :
    PT X (.Compare x [copA o, copA o'] [y, z] pos) (tT X.K X.mg T W fun ρ => (evE Φ C (.chn o o' a b d) ρ).bind asB) := by
  refine PT_imp (pt_chain (or_cmp c.room o) (or_cmp c.room o') iha ihb ihc (by show behindInMarks _ z = false; exact mark_ok g _)) fun σ H Q h => test_ok (fun σ H Q h => ?_) h
  simp only [evE] at h
  exact chain_ok h
omit c in
/-- and, or, not -/
theorem snd_and {a b : CE} {x y : Expr} {r : List Expr} (iha : PE X x (tE X.K X.mg T W (evE Φ C a))) (ihb : PE X (.BoolOp .And (y :: r) pos) (tE X.K X.mg T W (evE Φ C b))) : PE X (.BoolOp .And (x :: y :: r) pos) (tE X.K X.mg T W (evE Φ C (.and a b))) := by
  refine PE_imp (pe_and iha ihb) ?_
  rintro σ H Q ⟨F, S, ρ, E, p⟩
  simp only [evE] at p
  refine seqE (P := fun S r => PostE X.K X.mg T W F S σ ρ r Q) E (fun _ _ h => h) (fun _ h => h) p fun d v S1 H1 q1 e1 E1 r1 p1 => ?_
  cases d <;> simp only [asB, R.bind_ok, R.bind_bad] at p1 <;> try (exact p1.elim)
  rename_i t
  cases r1
  refine ⟨t, rfl, ?_⟩
  cases t with
  | true =>
    simp only [if_true] at p1 ⊢
    exact ⟨F, S1, ρ, E1, PostE.ext p1 e1⟩
  | false =>
    simp only [Bool.false_eq_true, if_false] at p1 ⊢
    exact p1 _ _ _ e1 E1 (.bl false)
omit c in
theorem snd_or {a b : CE} {x y : Expr} {r : List Expr} (iha : PE X x (tE X.K X.mg T W (evE Φ C a))) (ihb : PE X (.BoolOp .Or (y :: r) pos) (tE X.K X.mg T W (evE Φ C b))) : PE X (.BoolOp .Or (x :: y :: r) pos) (tE X.K X.mg T W (evE Φ C (.or a b))) := by
  refine PE_imp (pe_or iha ihb) ?_
  rintro σ H Q ⟨F, S, ρ, E, p⟩
  simp only [evE] at p
  refine seqE (P := fun S r => PostE X.K X.mg T W F S σ ρ r Q) E (fun _ _ h => h) (fun _ h => h) p fun d v S1 H1 q1 e1 E1 r1 p1 => ?_
  cases d <;> simp only [asB, R.bind_ok, R.bind_bad] at p1 <;> try (exact p1.elim)
  rename_i t
  cases r1
  refine ⟨t, rfl, ?_⟩
  cases t with
  | false =>
    simp only [Bool.false_eq_true, if_false] at p1 ⊢
    exact ⟨F, S1, ρ, E1, PostE.ext p1 e1⟩
  | true =>
    simp only [if_true] at p1 ⊢
    exact p1 _ _ _ e1 E1 (.bl true)
omit c in
theorem R.bind_assoc {a b d : Type} (r : R a) (f : a → R b) (g : b → R d) : (r.bind f).bind g = r.bind fun x => (f x).bind g := by cases r <;> rfl
omit c in
theorem sndW_and {a b : CE} {x y : Expr} {r : List Expr} (iha : PT X x (tT X.K X.mg T W fun ρ => (evE Φ C a ρ).bind asB)) (ihb : PW X (.BoolOp .And (y :: r) pos) (tT X.K X.mg T W fun ρ => (evE Φ C b ρ).bind asB)) : PW X (.BoolOp .And (x :: y :: r) pos) (tT X.K X.mg T W fun ρ => (evE Φ C (.and a b) ρ).bind asB) := by
  refine PW_imp (pw_and iha ihb) ?_
  rintro σ H Q ⟨F, S, ρ, E, p⟩
  simp only [evE, R.bind_assoc] at p
  rw [← R.bind_assoc] at p
  refine seqT (f := fun ρ => (evE Φ C a ρ).bind asB) (P := fun S r => PostT X.K X.mg T W F S σ ρ r Q) E (fun _ _ h => h) (fun _ h => h) p fun t S1 H1 q1 e1 E1 p1 => ?_
  cases t with
  | true =>
    simp only [if_true] at p1 ⊢
    exact ⟨F, S1, ρ, E1, PostT.ext p1 e1⟩
  | false =>
    simp only [Bool.false_eq_true, if_false] at p1 ⊢
    exact p1 _ _ e1 E1
omit c in
theorem sndW_or {a b : CE} {x y : Expr} {r : List Expr} (iha : PT X x (tT X.K X.mg T W fun ρ => (evE Φ C a ρ).bind asB)) (ihb : PW X (.BoolOp .Or (y :: r) pos) (tT X.K X.mg T W fun ρ => (evE Φ C b ρ).bind asB)) : PW X (.BoolOp .Or (x :: y :: r) pos) (tT X.K X.mg T W fun ρ => (evE Φ C (.or a b) ρ).bind asB) := by
  refine PW_imp (pw_or iha ihb) ?_
  rintro σ H Q ⟨F, S, ρ, E, p⟩
  simp only [evE, R.bind_assoc] at p
  rw [← R.bind_assoc] at p
  refine seqT (f := fun ρ => (evE Φ C a ρ).bind asB) (P := fun S r => PostT X.K X.mg T W F S σ ρ r Q) E (fun _ _ h => h) (fun _ h => h) p fun t S1 H1 q1 e1 E1 p1 => ?_
  cases t with
  | false =>
    simp only [Bool.false_eq_true, if_false] at p1 ⊢
    exact ⟨F, S1, ρ, E1, PostT.ext p1 e1⟩
  | true =>
    simp only [if_true] at p1 ⊢
    exact p1 _ _ e1 E1
omit c in
theorem snd_not {a : CE} {x : Expr} (iha : PE X x (tE X.K X.mg T W (evE Φ C a))) : PE X (.UnaryOp .Not x pos) (tE X.K X.mg T W (evE Φ C (.not a))) := by
  refine PE_imp (pe_not iha) ?_
  rintro σ H Q ⟨F, S, ρ, E, p⟩
  simp only [evE] at p
  refine seqE (P := fun S r => PostE X.K X.mg T W F S σ ρ r Q) E (fun _ _ h => h) (fun _ h => h) p fun d v S1 H1 q1 e1 E1 r1 p1 => ?_
  cases d <;> simp only [asB, R.bind_ok, R.bind_bad] at p1 <;> try (exact p1.elim)
  cases r1
  exact ⟨_, rfl, p1 _ _ _ e1 E1 (.bl _)⟩
omit c in
theorem sndT_not {a : CE} {x : Expr} (iha : PT X x (tT X.K X.mg T W fun ρ => (evE Φ C a ρ).bind asB)) : PT X (.UnaryOp .Not x pos) (tT X.K X.mg T W fun ρ => (evE Φ C (.not a) ρ).bind asB) := by
  refine PT_imp (pt_not iha) ?_
  rintro σ H Q ⟨F, S, ρ, E, p⟩
  simp only [evE, R.bind_assoc] at p
  rw [← R.bind_assoc] at p
  exact seqT (f := fun ρ => (evE Φ C a ρ).bind asB) (P := fun S r => PostT X.K X.mg T W F S σ ρ r Q) E (fun _ _ h => h) (fun _ h => h) p fun t S1 H1 q1 e1 E1 p1 => p1 _ _ e1 E1
omit c in
theorem snd_ite {d a b : CE} {z x y : Expr} (ihc : PT X z (tT X.K X.mg T W fun ρ => (evE Φ C d ρ).bind asB)) (iha : PE X x (tE X.K X.mg T W (evE Φ C a))) (ihb : PE X y (tE X.K X.mg T W (evE Φ C b))) : PE X (.IfExp z x y pos) (tE X.K X.mg T W (evE Φ C (.ite d a b))) := by
  refine PE_imp (pe_ifExp ihc iha ihb) ?_
  rintro σ H Q ⟨F, S, ρ, E, p⟩
  simp only [evE] at p
  rw [← R.bind_assoc] at p
  refine seqT (f := fun ρ => (evE Φ C d ρ).bind asB) (P := fun S r => PostE X.K X.mg T W F S σ ρ r Q) E (fun _ _ h => h) (fun _ h => h) p fun t S1 H1 q1 e1 E1 p1 => ?_
  cases t with
  | false =>
    simp only [Bool.false_eq_true, if_false] at p1 ⊢
    exact ⟨F, S1, ρ, E1, PostE.ext p1 e1⟩
  | true =>
    simp only [if_true] at p1 ⊢
    exact ⟨F, S1, ρ, E1, PostE.ext p1 e1⟩
omit c in
theorem snd_neg {a : CE} {x : Expr} (iha : PE X x (tE X.K X.mg T W (evE Φ C a))) : PE X (.UnaryOp .USub x pos) (tE X.K X.mg T W (evE Φ C (.neg a))) := by
  refine PE_imp (pe_un un_neg iha) ?_
  rintro σ H Q ⟨F, S, ρ, E, p⟩
  simp only [evE] at p
  refine seqE (P := fun S r => PostE X.K X.mg T W F S σ ρ r Q) E (fun _ _ h => h) (fun _ h => h) p fun d v S1 H1 q1 e1 E1 r1 p1 => ?_
  cases d <;> simp only [asI, R.bind_ok, R.bind_bad] at p1 <;> try (exact p1.elim)
  cases r1
  exact ⟨_, rfl, p1 _ _ _ e1 E1 (.int _)⟩
omit c in
theorem po_no {lo : CE} (h : isNo lo = true) : PO X none (fun σ H Q => ∃ F S ρ, ER X.K X.mg T F S H σ ρ ∧ (match optI lo (evE Φ C lo ρ) with
    | .ok i => ∀ S' H', Ext S S' → ER X.K X.mg T F S' H' σ ρ → Q i H'
    | .exc x => Fails X.K X.mg T W F S σ ρ x
    | .bad => False)) := by
  refine ⟨fun pins s σ H Q I h' => po_none.run pins s σ H Q I ?_⟩
  obtain ⟨F, S, ρ, E, p⟩ := h'
  simp only [optI, h, if_true] at p
  exact p S H (.refl _) E
omit c in
theorem po_yes {lo : CE} {e : Expr} (h : isNo lo = false) (ih : PE X e (tE X.K X.mg T W (evE Φ C lo))) : PO X (some e) (fun σ H Q => ∃ F S ρ, ER X.K X.mg T F S H σ ρ ∧ (match optI lo (evE Φ C lo ρ) with
    | .ok i => ∀ S' H', Ext S S' → ER X.K X.mg T F S' H' σ ρ → Q i H'
    | .exc x => Fails X.K X.mg T W F S σ ρ x
    | .bad => False)) := by
  refine ⟨fun pins s σ H Q I h' => (po_some ih).run pins s σ H Q I ?_⟩
  obtain ⟨F, S, ρ, E, p⟩ := h'
  simp only [optI, h, Bool.false_eq_true, if_false] at p
  refine ⟨F, S, ρ, E, ?_⟩
  unfold PostE
  cases q : evE Φ C lo ρ with
  | ok d =>
    rw [q] at p
    intro v S' H' e E' r
    cases d <;> simp only [asI, R.bind_ok, R.bind_bad] at p <;> try (exact p.elim)
    cases r
    exact ⟨_, rfl, p S' H' e E'⟩
  | exc x => rw [q] at p; exact p
  | bad => rw [q] at p; exact p
omit c in
theorem snd_slc {a lo hi : CE} {x : Expr} {l h : Option Expr} {p2 : Pos} {tl th : TO}
    (iha : PE X x (tBr X.K X.mg T W fun ρ => brw a ρ (evE Φ C a ρ)))
    (ihl : PO X l (fun σ H Q => ∃ F S ρ, ER X.K X.mg T F S H σ ρ ∧ (match optI lo (evE Φ C lo ρ) with
      | .ok i => ∀ S' H', Ext S S' → ER X.K X.mg T F S' H' σ ρ → Q i H'
      | .exc x => Fails X.K X.mg T W F S σ ρ x
      | .bad => False)))
    (ihh : PO X h (fun σ H Q => ∃ F S ρ, ER X.K X.mg T F S H σ ρ ∧ (match optI hi (evE Φ C hi ρ) with
      | .ok i => ∀ S' H', Ext S S' → ER X.K X.mg T F S' H' σ ρ → Q i H'
      | .exc x => Fails X.K X.mg T W F S σ ρ x
      | .bad => False))) : PE X (.Subscript x (.Slice l h none p2) pos) (tE X.K X.mg T W (evE Φ C (.slc a lo hi))) := by
  refine PE_imp (pe_slice sl_all iha ihl ihh) ?_
  rintro σ H Q ⟨F, S, ρ, E, p⟩
  simp only [evE] at p
  refine seqB (P := fun S r => PostE X.K X.mg T W F S σ ρ r Q) E (fun _ _ h => h) (fun _ h => h) p fun d v S1 H1 q1 e1 E1 r1 p1 => ?_
  refine ⟨F, S1, ρ, E1, ?_⟩
  cases ql : optI lo (evE Φ C lo ρ) with
  | bad => rw [ql] at p1; exact p1.elim
  | exc x => rw [ql] at p1; exact Fails.ext p1 e1
  | ok i =>
    rw [ql] at p1
    intro S2 H2 e2 E2
    refine ⟨F, S2, ρ, E2, ?_⟩
    simp only [R.bind_ok] at p1
    cases qh : optI hi (evE Φ C hi ρ) with
    | bad => rw [qh] at p1; exact p1.elim
    | exc x => rw [qh] at p1; exact Fails.ext p1 (e1.trans e2)
    | ok j =>
      rw [qh] at p1
      intro S3 H3 e3 E3
      simp only [R.bind_ok] at p1
      cases q : slcD d i j with
      | exc x => exact absurd q noX_slc
      | bad => rw [q] at p1; exact p1.elim
      | ok z =>
        rw [q] at p1
        exact sl_ok E3.sub (E3.rh (r1.ext (e2.trans e3))) q (PostE.ends (PostE.ext p1 (e1.trans (e2.trans e3))) E3)
end
end Lk
end Part_LkJ
section Part_LkS
set_option Elab.async false
set_option linter.all false
set_option maxRecDepth 100000
set_option maxHeartbeats 4000000
namespace Lk
open PySem PySem.Spec PyProof.Rows L2
section
variable {P : Program} {w : World} {A : Around} {E : Value → Shared → Prop} {s : Shared}
/-- what set() begins with -/
abbrev emptySet (w : World) : Obj := { cls := .type "set", dict := none, data := .set #[] 0 (.fresh 0 0 (!w.params.followText "set-order")) }
/-- set.__init__ of a list: it is walked -/
theorem init_walks {a l : Addr} {items : Array Value} {Q : Fin → Shared → Prop} (ha : s.heap.get? a = some (emptySet w)) (hl : s.heap.IsList l items)
    (h : codeAny (model P w) A (.builtin "set.update.loop" ⟨[.ref a, .ref s.heap.objs.size], []⟩) (fun r s' => (∃ v, r = .ok (.ret v)) ∧ Q (.done (.ret .none)) s')
      { s with heap := s.heap.push { cls := .type "list_iterator", data := .fields #[.ref l, .int 0 0] } }) :
    wpAny (model P w) A (Builtin.«set.__init__» ⟨[.ref a, .ref l], []⟩) Q E s := by
  have ty : s.TypeIs (.ref a) "set" := ⟨_, ha, rfl⟩
  have hl' := hl
  obtain ⟨⟨_, d, _, sl⟩, g, rfl, n, rfl⟩ := hl
  have k1 := F.sub_list_set
  have k2 := F.sub_list_frozenset
  have k3 : (Value.type "list" == Value.type "dict") = false := by decide
  unfold Builtin.«set.__init__» noKeywords Builtin.Frozenset.updateFrom
  generalize ePI : pyIter = PI
  wp_walk
  rw [← ePI]
  refine wpAny_pyIter_list hl' (wpAny_bind (wpAny_runValue (codeAny_mono h fun r s' ⟨⟨_, e⟩, q⟩ => by subst e; exact wpAny_pure (wpAny_pure q))))
/-- set(l) of a list l: the new set as the loop over the list leaves it -/
theorem set_by_loop {l : Addr} {items : Array Value} {Good : Shared → Prop} {Q : Value → Shared → Prop} (hl : s.heap.IsList l items)
    (loop : ∀ R : Result → Shared → Prop, (∀ s', Good s' → R (.ok (.ret .none)) s') → codeAny (model P w) A.in1.in1 (.builtin "set.update.loop" ⟨[.ref s.heap.objs.size, .ref (s.heap.objs.size + 1)], []⟩) R
      { s with heap := (s.heap.push (emptySet w)).push { cls := .type "list_iterator", data := .fields #[.ref l, .int 0 0] } })
    (h : ∀ s', Good s' → Q (.ref s.heap.objs.size) s') : wpAny (model P w) A (call (.type "set") [.ref l]) Q E s := by
  obtain ⟨_, _, mro⟩ := F.called_set.mro
  have facts := And.intro F.called_set.made (And.intro F.called_set.sub (And.intro F.called_set.notType (And.intro F.called_set.canCreate (F.typeCall_set_1 (.ref l)))))
  obtain ⟨f1, f2, f3, f4, f5⟩ := facts
  refine wpAny_call (codeAny_of_tree ?_)
  show wpAny _ _ (callAny (.type "set") _) _ _ _
  refine wpAny_pure ⟨Code.quiet_builtin _ (by decide +kernel), codeAny_builtin F.entry_type_call ?_⟩
  rw [Around.under_plain (weight_type_call_type "set" [.ref l] []) rfl]
  repeat (any_goals (first | assumption | wp_step))
  have new := code_set_led1 (P := P) (w := w) (A := A.in1) (s := s) (.ref l) (E := E) (Q₁ := fun v s' => v = .ref s.heap.objs.size ∧ s' = { s with heap := s.heap.push (emptySet w) }) ⟨rfl, rfl⟩
  refine codeAny_mono new fun r s' z => ?_
  match r, s', z with
  | .error _, _, z => exact z
  | .ok .next, _, z | .ok .brk, _, z | .ok .cont, _, z => exact z
  | .ok (.ret _), _, ⟨rfl, rfl⟩ =>
    have ha : (s.heap.push (emptySet w)).get? s.heap.objs.size = some (emptySet w) := Heap.get?_push_size _ rfl
    have ty : Shared.TypeIs { s with heap := s.heap.push (emptySet w) } (.ref s.heap.objs.size) "set" := ⟨_, ha, rfl⟩
    have g1 := F.called_set.init.lookup
    have g2 := F.called_set.init.bind (.ref s.heap.objs.size)
    repeat (any_goals (first | assumption | wp_step))
    have init : codeAny (model P w) A.in1 (.call (.builtin "set.__init__") ⟨[.ref s.heap.objs.size, .ref l], []⟩) (wants (fun v s' => v = .none ∧ Good s') E) { s with heap := s.heap.push (emptySet w) } :=
      codeAny_call_builtin F.called_set.init.plain F.entry_set_init (check_set_init_1 ty (init_walks ha (hl.push _) (by rw [Heap.size_push]; exact loop _ fun s' g => ⟨⟨_, rfl⟩, rfl, g⟩)))
    refine codeAny_mono init fun r s' z => ?_
    match r, s', z with
    | .error _, _, z => exact z
    | .ok .next, _, z | .ok .brk, _, z | .ok .cont, _, z => exact z
    | .ok (.ret _), _, ⟨rfl, g⟩ =>
      repeat (any_goals (first | assumption | wp_step))
      exact h _ g
/-- a list's address lies in the heap -/
theorem list_lt {h : Heap} {l : Addr} {items : Array Value} (hl : h.IsList l items) : l < h.objs.size := hl.elim fun _ z => Heap.lt_size z.1
/-- the new set is neither the list nor its new iterator -/
theorem set_apart {n l : Nat} (h : l < n) : n ∉ [n + 1, l] := fun z => by
  rcases List.mem_cons.mp z with z | z
  · omega
  · have := List.mem_singleton.mp z
    omega
/-- the new set and the list's new iterator: what stood before is kept by whatever moves these two alone -/
theorem moved_two {o1 o2 : Obj} {s' : Shared} (m : Moved [s.heap.objs.size, s.heap.objs.size + 1] (fun a b => b = a) { s with heap := (s.heap.push o1).push o2 } s') :
    s' = { s with heap := s'.heap, toks := s'.toks } ∧ ∀ b o, s.heap.get? b = some o → s'.heap.get? b = some o := by
  refine ⟨?_, fun b o e => m.heap b o (fun z => ?_) (Heap.get?_push_of_some _ (Heap.get?_push_of_some _ e))⟩
  · obtain ⟨h', g', d', t', os'⟩ := s'
    obtain ⟨_, mg, md, mo, _⟩ := m
    dsimp only at mg md mo
    rw [mg, md, mo]
  · have lt := Heap.lt_size e
    rcases List.mem_cons.mp z with z | z
    · exact Nat.ne_of_lt lt z
    · exact Nat.ne_of_lt (Nat.lt_succ_of_lt lt) (List.mem_singleton.mp z)
theorem set_call_list {l : Addr} {items : Array Value} (ns : List Int) {Q : Value → Shared → Prop} (hh : A.handled = none) (hl : s.heap.IsList l items) (hit : IntsAre items.toList ns) (hb : ns.length + 1 < scanBound)
    (h : ∀ (h' : Heap) (tk m : Nat), SetR w h' s.heap.objs.size (fun j => decide (j ∈ ns)) m → m ≤ ns.length → (∀ b o, s.heap.get? b = some o → h'.get? b = some o) → Q (.ref s.heap.objs.size) { s with heap := h', toks := tk }) :
    wpAny (model P w) A (call (.type "set") [.ref l]) Q E s := by
  have n : items.size = ns.length := by rw [← Array.length_toList]; exact hit.length
  have lt := list_lt hl
  refine set_by_loop hl (Good := fun s' => ∃ m, Moved [s.heap.objs.size, s.heap.objs.size + 1] (fun a b => b = a) { s with heap := (s.heap.push (emptySet w)).push { cls := .type "list_iterator", data := .fields #[.ref l, .int 0 0] } } s' ∧ m ≤ items.size ∧ SetR w s'.heap s.heap.objs.size (fun j => decide (j ∈ ns)) m)
    (fun R hR => ?_) fun s' ⟨m, mv, hm, hS⟩ => ?_
  · have W := (Walks.list (prog := P) (w := w) (A := A.in1.in1.in1) (by simp [hh]) (s.heap.objs.size + 1) l (Nat.ne_of_lt (Nat.lt_succ_of_lt lt)) items).toS
    refine set_update_ints W s.heap.objs.size (set_apart lt) ns n hb (fun i v hv => ?_) items.size 0 _ rfl (Nat.zero_le _)
      ⟨⟨_, by rw [← Heap.size_push]; exact Heap.get?_push_size _ rfl, rfl, rfl⟩, (hl.push _).push _⟩ ⟨0, Nat.le_refl 0, setR_new_at (Heap.get?_push_of_some _ (Heap.get?_push_size _ rfl))⟩ fun s' m mv hm hS => hR s' ⟨m, mv, hm, hS⟩
    obtain ⟨t, e⟩ := hit.int_at i v (by rw [Array.getElem?_toList]; exact hv)
    have hi : i < ns.length := n ▸ (Array.getElem?_eq_some_iff.mp hv).1
    exact ⟨ns[i], t, List.getElem?_eq_getElem hi, by rw [e, List.getD_eq_getElem?_getD, List.getElem?_eq_getElem hi]; rfl⟩
  · obtain ⟨e, keep⟩ := moved_two mv
    rw [e]
    exact h s'.heap s'.toks m hS (n ▸ hm) keep
end
end Lk
end Part_LkS
section Part_LkZp
set_option Elab.async false
set_option linter.all false
set_option maxRecDepth 100000
set_option maxHeartbeats 4000000
/-! zip over two sequences, each a list or a tuple: its next -/
namespace Lk.Zp
open PySem PySem.Spec PyProof.Rows
/-- an iterator of a tuple (t), or of a list -/
def ItA (t : Bool) (h : Heap) (it l : Addr) (i : Nat) : Prop := match t with
  | true => h.IsTupleIter it l i
  | false => h.IsListIter it l i
def SqA (t : Bool) (h : Heap) (l : Addr) (xs : Array Value) : Prop := match t with
  | true => h.IsTuple l xs
  | false => h.IsList l xs
section
variable {t : Bool} {h h' : Heap} {it l a : Addr} {i : Nat} {xs : Array Value}
theorem ItA.up (x : ItA t h it l i) (e : ∀ o, h.get? it = some o → h'.get? it = some o) : ItA t h' it l i := by
  cases t
  · exact Heap.IsListIter.at x e
  · exact Heap.IsTupleIter.at x e
theorem SqA.up (x : SqA t h l xs) (e : ∀ o, h.get? l = some o → h'.get? l = some o) : SqA t h' l xs := by
  cases t
  · exact Heap.IsList.at x e
  · exact Heap.IsTuple.at x e
theorem ItA.ob (x : ItA t h it l i) : ∃ o, h.get? it = some o ∧ ∀ v, o.data ≠ .prim v := by
  cases t
  · obtain ⟨o, e, _, d⟩ := x; exact ⟨o, e, fun v z => by rw [d] at z; cases z⟩
  · obtain ⟨o, e, _, d⟩ := x; exact ⟨o, e, fun v z => by rw [d] at z; cases z⟩
end
/-- all but what lies at these places stays -/
def Kept (ks : List Addr) (h h' : Heap) : Prop := ∀ c, c ∉ ks → ∀ o, h.get? c = some o → h'.get? c = some o
section
variable {ks ls : List Addr} {h h' h'' : Heap} {a : Addr}
theorem Kept.then (p : Kept ks h h') (q : Kept ls h' h'') : Kept (ks ++ ls) h h'' := fun c n o e => q c (fun z => n (List.mem_append_right _ z)) o (p c (fun z => n (List.mem_append_left _ z)) o e)
theorem Kept.wide (p : Kept ks h h') (w : ∀ c ∈ ks, c ∈ ls) : Kept ls h h' := fun c n => p c fun z => n (w c z)
theorem Kept.upd {f : Obj → Obj} : Kept [a] h (h.update a f) := fun c n o e => (Heap.get?_update_other _ _ fun z => n (List.mem_singleton.mpr z.symm)).trans e
theorem Kept.put {o : Obj} : Kept [] h (h.push o) := fun c _ _ e => Heap.get?_push_of_some _ e
theorem Kept.of (p : Heap.SameBut a h h') : Kept [a] h h' := fun c n o e => (p.2 c fun z => n (List.mem_singleton.mpr z)).trans e
theorem Kept.ofE (p : Heap.ExtBut a h h') : Kept [a] h h' := fun c n o e => p c o (fun z => n (List.mem_singleton.mpr z)) e
end
/-- e is a StopIteration -/
def IsStop (h : Heap) (e : Addr) : Prop := ∃ o, h.get? e = some o ∧ o.cls = .type "StopIteration"
/-- one side of a zip: an iterator that stands ahead of the k-th of xs -/
structure Side (t : Bool) (h : Heap) (it l : Addr) (k : Nat) (xs : Array Value) : Prop where
  stands : ItA t h it l k
  holds : SqA t h l xs
theorem Side.on {t : Bool} {h h' : Heap} {it l : Addr} {k : Nat} {xs : Array Value} {ks : List Addr} (S : Side t h it l k xs) (K : Kept ks h h') (n1 : it ∉ ks) (n2 : l ∉ ks) : Side t h' it l k xs := ⟨S.stands.up (K it n1), S.holds.up (K l n2)⟩
theorem IsStop.upd {h : Heap} {e z : Addr} {o : Obj} {f : Obj → Obj} (p : IsStop h e) (hz : h.get? z = some o) (n : o.cls ≠ .type "StopIteration") : IsStop (h.update z f) e := by
  obtain ⟨u, hu, hc⟩ := p
  refine ⟨u, (Heap.get?_update_other _ _ fun q => n ?_).trans hu, hc⟩
  rw [q, hu] at hz
  cases hz
  exact hc
section
variable {prog : Program} {w : World} {A : Around} {E : Value → Shared → Prop} {s : Shared} {t t1 t2 : Bool}
variable {z TI TO i1 i2 l1 l2 T it l : Addr} {k k1 k2 : Nat} {xs ys : Array Value} {x y a b : Value} {f : Bool} {oT : Obj}
/-- a side is asked for its next -/
theorem Side.ask {h : Heap} {Q : Value → Shared → Prop} (S : Side t h it l k xs) (ne : l ≠ it) (bare : xs[k]? = none → A.handled = none)
    (next : ∀ x h', xs[k]? = some x → Side t h' it l (k + 1) xs → Kept [it] h h' → h'.objs.size = h.objs.size → Q x { s with heap := h' })
    (stop : ∀ e h', xs[k]? = none → Kept [it] h h' → IsStop h' e → E (.ref e) { s with heap := h' }) : wpAny (model prog w) A (Builtin.SmallTypes.nextOf (.ref it)) Q E { s with heap := h } := by
  have go : wpAny (model prog w) A (Builtin.SmallTypes.nextOf (.ref it)) Q E { s with heap := h } := by
    cases hx : xs[k]? with
    | some x =>
      cases t
      · exact wpAny_nextOf_list_item (s := { s with heap := h }) S.stands S.holds hx fun h' p q => next x h' hx ⟨p, S.holds.up ((Kept.of q) l (by simp [ne]))⟩ (.of q) q.1
      · exact RZ.nextOf_tuple_item (s := { s with heap := h }) S.stands S.holds hx fun h' p q => next x h' hx ⟨p, S.holds.up ((Kept.of q) l (by simp [ne]))⟩ (.of q) q.1
    | none =>
      cases t
      · exact wpAny_nextOf_list_end (s := { s with heap := h }) (bare hx) S.stands S.holds hx fun h' e p q => stop e h' hx (.ofE p) q
      · exact RZ.nextOf_tuple_end (s := { s with heap := h }) (bare hx) S.stands S.holds hx fun h' e p q => stop e h' hx (.ofE p) q
  exact go
/-- a loop over two -/
theorem for_two {β : Type} {M : Model} {u v : Value} {b0 : β} {g : Value → β → Sem (ForInStep β)} {Q : β → Shared → Prop}
    (h : wpAny M A (g u b0) (fun r s' => match r with | .done b => Q b s' | .yield b => wpAny M A (g v b) (fun r s' => match r with | .done b => Q b s' | .yield b => Q b s') E s') E s) : wpAny M A (forIn #[u, v] b0 g) Q E s := by
  have e : forIn #[u, v] b0 g = forIn [u, v] b0 g := (Array.forIn_toList (xs := #[u, v])).symm
  rw [e, List.forIn_cons]
  refine wpAny_bind (wpAny_mono h (fun r s' q => ?_) fun _ _ q => q)
  cases r with
  | done c => exact wpAny_pure q
  | yield c =>
    show wpAny M A (forIn [v] c g) Q E s'
    rw [List.forIn_cons]
    refine wpAny_bind (wpAny_mono q (fun r s' q => ?_) fun _ _ q => q)
    cases r <;> exact wpAny_pure q
/-- the next of a zip that has given out nothing that is still held -/
theorem next_free {Q : Option Value → Shared → Prop} (D : ZipApart z TI TO i1 i2 l1 l2) (hz : IsZip s.heap z TI TO .none) (hTI : IsPair s.heap TI (.ref i1) (.ref i2)) (hTO : IsPair s.heap TO a b)
    (S1 : Side t1 s.heap i1 l1 k1 xs) (S2 : Side t2 s.heap i2 l2 k2 ys)
    (both : ∀ x y h', xs[k1]? = some x → ys[k2]? = some y → IsZip h' z TI TO (rawInt s.heap.objs.size) → IsPair h' TO x y → Side t1 h' i1 l1 (k1 + 1) xs → Side t2 h' i2 l2 (k2 + 1) ys →
      IsPair h' s.heap.objs.size x y → Kept [z, TO, i1, i2] s.heap h' → Q (some (.ref s.heap.objs.size)) { s with heap := h' })
    (over : xs[k1]? = none ∨ ys[k2]? = none → A.handled = none ∧ ∀ h', Kept [z, TO, i1, i2] s.heap h' → Q none { s with heap := h' }) :
    wpAny (model prog w) A (pyNext (.ref z)) Q E s := by
  have ty : s.TypeIs (.ref z) "zip" := ⟨_, hz, rfl⟩
  have ask1 : ∀ {h : Heap} {A' : Around} {Q' E'}, _ := @fun h A' Q' E' S bare next stop => Side.ask (prog := prog) (w := w) (A := A') (E := E') (s := s) (t := t1) (it := i1) (l := l1) (k := k1) (xs := xs) (h := h) (Q := Q') S D.l1i1 bare next stop
  have ask2 : ∀ {h : Heap} {A' : Around} {Q' E'}, _ := @fun h A' Q' E' S bare next stop => Side.ask (prog := prog) (w := w) (A := A') (E := E') (s := s) (t := t2) (it := i2) (l := l2) (k := k2) (xs := ys) (h := h) (Q := Q') S D.l2i2 bare next stop
  have isS : ∀ {h : Heap} {e : Addr} {A' : Around} {E'} {Q' : Bool → Shared → Prop}, IsStop h e → Q' true { s with heap := h } → wpAny (model prog w) A' (isInstance (.ref e) (.type "StopIteration")) Q' E' { s with heap := h } := fun ⟨o, ho, hc⟩ q =>
    wpAny_isInstance (T := "StopIteration") (b := true) ⟨o, ho, hc⟩ isSubtype_stop q
  have ne1 := D.TOz
  unfold pyNext
  refine wpAny_bind (wpAny_attempt (wpAny_callSpecial?_slot (name := Str.ofString "__next__") ty F.slot_zip_next (wpAny_call_entry F.slot_zip_next ty F.entry_zip_next ?_ (F.args_zip_next_1 _))))
  have za := Heap.get?_update_self (Obj.mapFields fun x => x.setIfInBounds 0 Value.ellipsis) hz rfl
  have ka : Kept [z] s.heap (s.heap.update z (Obj.mapFields fun x => x.setIfInBounds 0 Value.ellipsis)) := .upd
  wp_walk using wpAny_onRaise, ask1
  · exact S1.on ka (by simp [D.i1z]) (by simp [D.l1z])
  · exact fun e => (over (.inl e)).1
  · intro x hb hx S1b kb sb
    have zb := kb z (by simp [D.i1z.symm]) _ za
    have kb' := ka.then kb
    have TOb : IsPair hb TO a b := kb' TO (by simp [D.TOz, D.TOi1]) _ hTO
    wp_walk using wpAny_onRaise, ask2
    · exact S2.on (kb'.then (.upd (a := TO))) (by simp [D.i2z, D.i12.symm, D.TOi2.symm]) (by simp [D.l2z, D.l2i1, D.l2TO])
    · exact fun e => (over (.inr e)).1
    · intro y hd hy S2d kd sd
      have TOd := kd TO (by simp [D.TOi2]) _ (Heap.get?_update_self (Obj.mapSeq fun v => v.setIfInBounds 0 x) TOb rfl)
      have zd : IsZip hd z TI TO .ellipsis := kd z (by simp [D.i2z.symm]) _ ((Kept.upd (a := TO)) z (by simp [D.TOz.symm]) _ zb)
      have kd' := (kb'.then (.upd (a := TO) (f := Obj.mapSeq fun v => v.setIfInBounds 0 x))).then kd
      wp_walk
      have size : (hd.update TO (Obj.mapSeq fun v => v.setIfInBounds (0 + 1) y)).objs.size = s.heap.objs.size := by
        rw [Heap.size_after_update, sd, Heap.size_after_update, sb, Heap.size_after_update]
      have TOe := Heap.get?_update_self (Obj.mapSeq fun v => v.setIfInBounds (0 + 1) y) TOd rfl
      have ke := kd'.then (Kept.upd (a := TO) (f := Obj.mapSeq fun v => v.setIfInBounds (0 + 1) y))
      have S1e := S1b.on (((Kept.upd (a := TO) (f := Obj.mapSeq fun v => v.setIfInBounds 0 x)).then kd).then (Kept.upd (a := TO) (f := Obj.mapSeq fun v => v.setIfInBounds (0 + 1) y))) (by simp [D.TOi1.symm, D.i12]) (by simp [D.l1TO, D.l1i2])
      have S2e := S2d.on (Kept.upd (a := TO) (f := Obj.mapSeq fun v => v.setIfInBounds (0 + 1) y)) (by simp [D.TOi2.symm]) (by simp [D.l2TO])
      have ze := (Kept.upd (a := TO) (f := Obj.mapSeq fun v => v.setIfInBounds (0 + 1) y)) z (by simp [D.TOz.symm]) _ zd
      refine ⟨_, rfl, wpAny_pure ?_⟩
      generalize hd.update TO (Obj.mapSeq fun v => v.setIfInBounds (0 + 1) y) = he at *
      have nz : he.objs.size ≠ z := fun e => absurd (Heap.lt_size ze) (by rw [e]; exact Nat.lt_irrefl _)
      have kf : ∀ {o : Obj} {f1 f2 : Obj → Obj}, Kept [z] he (((he.push o).update z f1).update z f2) := fun {o f1 f2} => ((Kept.put.then .upd).then .upd).wide (by simp)
      rw [← size] at both
      refine both x y _ hx hy (Heap.get?_update_self _ (Heap.get?_update_self _ (Heap.get?_push_of_some _ ze) rfl) rfl) (kf TO (by simp [D.TOz]) _ TOe) (S1e.on kf (by simp [D.i1z]) (by simp [D.l1z])) (S2e.on kf (by simp [D.i2z]) (by simp [D.l2z]))
        ((Kept.upd.then Kept.upd) _ (by simp [nz]) _ (Heap.get?_push_size _ rfl)) ((ke.then kf).wide (by simp))
    · intro e hd hy kd st
      have zd : IsZip hd z TI TO .ellipsis := kd z (by simp [D.i2z.symm]) _ ((Kept.upd (a := TO)) z (by simp [D.TOz.symm]) _ zb)
      wp_walk using isS
      · exact st.upd zd (by simp)
      · wp_walk
        exact (over (.inr hy)).2 _ ((((kb'.then (.upd (a := TO))).then kd).then (.upd (a := z))).wide (by simp))
  · intro e hb hx kb st
    have zb : IsZip hb z TI TO .ellipsis := kb z (by simp [D.i1z.symm]) _ za
    wp_walk using isS
    · exact st.upd zb (by simp)
    · wp_walk
      exact (over (.inl hx)).2 _ (((ka.then kb).then (.upd (a := z))).wide (by simp))
/-- the next of a zip whose last tuple is still there -/
theorem next_held {Q : Option Value → Shared → Prop} (D : ZipApart z TI TO i1 i2 l1 l2) (hz : IsZipHeld s.heap z TI TO T f) (hT : s.heap.get? T = some oT) (hTI : IsPair s.heap TI (.ref i1) (.ref i2))
    (S1 : Side t1 s.heap i1 l1 k1 xs) (S2 : Side t2 s.heap i2 l2 k2 ys)
    (both : ∀ x y h', xs[k1]? = some x → ys[k2]? = some y → IsZipHeld h' z TI TO T true → Side t1 h' i1 l1 (k1 + 1) xs → Side t2 h' i2 l2 (k2 + 1) ys →
      IsPair h' s.heap.objs.size x y → Kept [z, i1, i2] s.heap h' → Q (some (.ref s.heap.objs.size)) { s with heap := h' })
    (over : xs[k1]? = none ∨ ys[k2]? = none → A.handled = none ∧ ∀ h', Kept [z, i1, i2] s.heap h' → Q none { s with heap := h' }) :
    wpAny (model prog w) A (pyNext (.ref z)) Q E s := by
  have ty : s.TypeIs (.ref z) "zip" := ⟨_, hz, rfl⟩
  have ask1 : ∀ {h : Heap} {A' : Around} {Q' E'}, _ := @fun h A' Q' E' S bare next stop => Side.ask (prog := prog) (w := w) (A := A') (E := E') (s := s) (t := t1) (it := i1) (l := l1) (k := k1) (xs := xs) (h := h) (Q := Q') S D.l1i1 bare next stop
  have ask2 : ∀ {h : Heap} {A' : Around} {Q' E'}, _ := @fun h A' Q' E' S bare next stop => Side.ask (prog := prog) (w := w) (A := A') (E := E') (s := s) (t := t2) (it := i2) (l := l2) (k := k2) (xs := ys) (h := h) (Q := Q') S D.l2i2 bare next stop
  have isS : ∀ {h : Heap} {e : Addr} {A' : Around} {E'} {Q' : Bool → Shared → Prop}, IsStop h e → Q' true { s with heap := h } → wpAny (model prog w) A' (isInstance (.ref e) (.type "StopIteration")) Q' E' { s with heap := h } := fun ⟨o, ho, hc⟩ q =>
    wpAny_isInstance (T := "StopIteration") (b := true) ⟨o, ho, hc⟩ isSubtype_stop q
  unfold pyNext
  refine wpAny_bind (wpAny_attempt (wpAny_callSpecial?_slot (name := Str.ofString "__next__") ty F.slot_zip_next (wpAny_call_entry F.slot_zip_next ty F.entry_zip_next ?_ (F.args_zip_next_1 _))))
  wp_walk using wpAny_tupleHeld_zip hz hT
  intro ha sa0 za
  have ka := Kept.of za
  wp_walk using for_two, ask1
  · exact S1.on ka (by simp [D.i1z]) (by simp [D.l1z])
  · exact fun e => (over (.inl e)).1
  · intro x hb hx S1b kb sb
    have kb' := ka.then kb
    wp_walk using ask2
    · exact S2.on kb' (by simp [D.i2z, D.i12.symm]) (by simp [D.l2z, D.l2i1])
    · exact fun e => (over (.inr e)).1
    · intro y hc hy S2c kc sc
      have kc' := kb'.then kc
      wp_walk
      refine ⟨_, rfl, wpAny_pure ?_⟩
      have size : hc.objs.size = s.heap.objs.size := by rw [sc, sb, za.1]
      have zc := (kb.then kc) z (by simp [D.i1z.symm, D.i2z.symm]) _ sa0
      rw [← size] at both
      exact both x y _ hx hy (Kept.put z (by simp) _ zc) ((S1b.on kc (by simp [D.i12]) (by simp [D.l1i2])).on .put (by simp) (by simp)) (S2c.on .put (by simp) (by simp)) (Heap.get?_push_size _ rfl) ((kc'.then .put).wide (by simp))
    · intro e hc hy kc st
      wp_walk using isS
      · exact st
      · wp_walk
        exact (over (.inr hy)).2 _ ((kb'.then kc).wide (by simp))
  · intro e hb hx kb st
    wp_walk using isS
    · exact st
    · wp_walk
      exact (over (.inl hx)).2 _ ((ka.then kb).wide (by simp))
end
end Lk.Zp
end Part_LkZp
section Part_LkZp2
set_option Elab.async false
set_option linter.all false
set_option maxRecDepth 100000
set_option maxHeartbeats 4000000
namespace Lk.Zp
open PySem PySem.Spec PyProof.Rows L2
open PySem.Sem (wp)
/-! zip(a, b) -/
def itO (t : Bool) (l : Addr) : Obj := { cls := .type (if t then "tuple_iterator" else "list_iterator"), data := .fields #[.ref l, .int 0 0] }
abbrev zA (h : Heap) (t1 : Bool) (l1 : Addr) : Heap := h.push (itO t1 l1)
abbrev zB (h : Heap) (t1 t2 : Bool) (l1 l2 : Addr) : Heap := (zA h t1 l1).push (itO t2 l2)
abbrev zC (h : Heap) (t1 t2 : Bool) (l1 l2 : Addr) : Heap := (zB h t1 t2 l1 l2).push { cls := .type "tuple", data := .seq #[.ref h.objs.size, .ref (zA h t1 l1).objs.size] }
abbrev zD (h : Heap) (t1 t2 : Bool) (l1 l2 : Addr) : Heap := (zC h t1 t2 l1 l2).push { cls := .type "tuple", data := .seq #[.none, .none] }
abbrev zE (h : Heap) (t1 t2 : Bool) (l1 l2 : Addr) : Heap := (zD h t1 t2 l1 l2).push { cls := .type "zip", data := .fields #[.none, .bool false, .bool false, .ref (zB h t1 t2 l1 l2).objs.size, .ref (zC h t1 t2 l1 l2).objs.size] }
theorem meets_new (t1 t2 : Bool) (l1 l2 : Addr) (xs ys : Array Value) :
    Meets (Builtin.«zip.__new__» ⟨[.type "zip", .ref l1, .ref l2], []⟩) (fun _ R s => SqA t1 s.heap l1 xs ∧ SqA t2 s.heap l2 ys ∧ R (.ok (.ret (.ref (zD s.heap t1 t2 l1 l2).objs.size))) { s with heap := zE s.heap t1 t2 l1 l2 }) :=
  .of_wp fun prog w A R s h => by
    obtain ⟨hp, g, d, tk, os⟩ := s
    obtain ⟨a1, a2, h⟩ := h
    have hsub := sub_zip
    cases t1 <;> cases t2
    · have b1 : Heap.IsList (Shared.heap ⟨hp, g, d, tk, os⟩) l1 xs := a1
      have b2 : Heap.IsList (Shared.heap ⟨hp.push { cls := .type "list_iterator", data := .fields #[.ref l1, .int 0 0] }, g, d, tk, os⟩) l2 ys := Heap.IsList.push a2 _
      wp_walk using wpAny_pyIter_list b1, wpAny_pyIter_list b2
      exact ⟨_, rfl, h⟩
    · have b1 : Heap.IsList (Shared.heap ⟨hp, g, d, tk, os⟩) l1 xs := a1
      have b2 : Heap.IsTuple (Shared.heap ⟨hp.push { cls := .type "list_iterator", data := .fields #[.ref l1, .int 0 0] }, g, d, tk, os⟩) l2 ys := Heap.IsTuple.push a2 _
      wp_walk using wpAny_pyIter_list b1, wpAny_pyIter_tuple b2
      exact ⟨_, rfl, h⟩
    · have b1 : Heap.IsTuple (Shared.heap ⟨hp, g, d, tk, os⟩) l1 xs := a1
      have b2 : Heap.IsList (Shared.heap ⟨hp.push { cls := .type "tuple_iterator", data := .fields #[.ref l1, .int 0 0] }, g, d, tk, os⟩) l2 ys := Heap.IsList.push a2 _
      wp_walk using wpAny_pyIter_tuple b1, wpAny_pyIter_list b2
      exact ⟨_, rfl, h⟩
    · have b1 : Heap.IsTuple (Shared.heap ⟨hp, g, d, tk, os⟩) l1 xs := a1
      have b2 : Heap.IsTuple (Shared.heap ⟨hp.push { cls := .type "tuple_iterator", data := .fields #[.ref l1, .int 0 0] }, g, d, tk, os⟩) l2 ys := Heap.IsTuple.push a2 _
      wp_walk using wpAny_pyIter_tuple b1, wpAny_pyIter_tuple b2
      exact ⟨_, rfl, h⟩
theorem itA_of {t : Bool} {h : Heap} {it l : Addr} (e : h.get? it = some (itO t l)) : ItA t h it l 0 := by
  cases t
  · exact ⟨_, e, rfl, rfl⟩
  · exact ⟨_, e, rfl, rfl⟩
section
variable {prog : Program} {w : World} {A : Around} {E : Value → Shared → Prop} {s : Shared} {t1 t2 : Bool}
/-- objects laid one behind the other -/
def lay (h : Heap) : List Obj → Heap
  | [] => h
  | o :: r => lay (h.push o) r
theorem lay_kept {c : Addr} {u : Obj} : ∀ {os : List Obj} {h : Heap}, h.get? c = some u → (lay h os).get? c = some u
  | [], _, e => e
  | o :: r, h, e => lay_kept (os := r) (h := h.push o) (Heap.get?_push_of_some _ e)
theorem lay_size : ∀ {os : List Obj} {h : Heap}, (lay h os).objs.size = h.objs.size + os.length
  | [], _ => rfl
  | o :: r, h => by
    show (lay (h.push o) r).objs.size = _
    rw [lay_size, Heap.size_push, List.length_cons]
    omega
/-- the k-th of them lies k places behind the old end -/
theorem lay_get {u : Obj} (f : u.isFreed = false) : ∀ {os : List Obj} {h : Heap} {k : Nat}, os[k]? = some u → (lay h os).get? (h.objs.size + k) = some u
  | o :: r, h, 0, e => by
    cases e
    exact lay_kept (os := r) (h := h.push u) (Heap.get?_push_size _ f)
  | o :: r, h, k + 1, e => by
    have := lay_get f (os := r) (h := h.push o) (k := k) e
    rwa [Heap.size_push, show h.objs.size + 1 + k = h.objs.size + (k + 1) from by omega] at this
/-- what zip(a, b) lays -/
def fiveO (n : Nat) (t1 t2 : Bool) (l1 l2 : Addr) : List Obj :=
  [itO t1 l1, itO t2 l2, { cls := .type "tuple", data := .seq #[.ref n, .ref (n + 1)] }, { cls := .type "tuple", data := .seq #[.none, .none] }, { cls := .type "zip", data := .fields #[.none, .bool false, .bool false, .ref (n + 2), .ref (n + 3)] }]
theorem zE_lay (h : Heap) (t1 t2 : Bool) (l1 l2 : Addr) : zE h t1 t2 l1 l2 = lay h (fiveO h.objs.size t1 t2 l1 l2) ∧ (zD h t1 t2 l1 l2).objs.size = h.objs.size + 4 := by
  constructor
  · simp only [zE, zD, zC, zB, zA, lay, fiveO, Heap.size_push]
  · simp only [zD, zC, zB, zA, Heap.size_push]
theorem call_zipG {l1 l2 : Addr} {xs ys : Array Value} {Q : Value → Shared → Prop} (a1 : SqA t1 s.heap l1 xs) (a2 : SqA t2 s.heap l2 ys)
    (h : ∀ h', IsZip h' (s.heap.objs.size + 4) (s.heap.objs.size + 2) (s.heap.objs.size + 3) .none → IsPair h' (s.heap.objs.size + 2) (.ref s.heap.objs.size) (.ref (s.heap.objs.size + 1)) →
      IsPair h' (s.heap.objs.size + 3) .none .none → ItA t1 h' s.heap.objs.size l1 0 → ItA t2 h' (s.heap.objs.size + 1) l2 0 → h'.objs.size = s.heap.objs.size + 5 →
      (∀ c o, s.heap.get? c = some o → h'.get? c = some o) → Q (.ref (s.heap.objs.size + 4)) { s with heap := h' }) :
    wpAny (model prog w) A (call (.type "zip") [.ref l1, .ref l2]) Q E s := by
  obtain ⟨e, n⟩ := zE_lay s.heap t1 t2 l1 l2
  have live : ∀ t l, (itO t l).isFreed = false := fun t l => by cases t <;> rfl
  have at4 := lay_get (h := s.heap) (k := 4) rfl (rfl : (fiveO s.heap.objs.size t1 t2 l1 l2)[4]? = _)
  refine callType_new F.called_zip (by decide) (F.typeCall_zip_2 _ _) (F.newCall_zip_2 _ _) (fun obj => F.args_object_init_3 obj _ _) F.entry_zip_new (meets_new t1 t2 l1 l2 xs ys) ⟨a1, a2, ?_⟩
  rw [e, n]
  exact ⟨⟨_, at4, rfl⟩, h _ at4 (lay_get (k := 2) rfl rfl) (lay_get (k := 3) rfl rfl) (itA_of (lay_get (k := 0) (live t1 l1) rfl)) (itA_of (lay_get (k := 1) (live t2 l2) rfl)) lay_size fun c o q => lay_kept q⟩
theorem hint_zip {z TI TO : Addr} {Q : Bool → Shared → Prop} (hz : IsZip s.heap z TI TO .none) (h : Q true s) : wpAny (model prog w) A (Builtin.List.listLengthHint (.ref z)) Q E s := by
  have n1 : typeLookup (.type "zip") "__len__" = pure none := am_miss_of_fast (by decide +kernel)
  have n2 : typeLookup (.type "zip") "__length_hint__" = pure none := am_miss_of_fast (by decide +kernel)
  have hT : s.TypeIs (.ref z) "zip" := ⟨_, hz, rfl⟩
  unfold Builtin.List.listLengthHint
  wp_walk
  exact h
end
end Lk.Zp
end Part_LkZp2
section Part_LkZp3
set_option Elab.async false
set_option linter.all false
set_option maxRecDepth 100000
set_option maxHeartbeats 4000000
namespace Lk.Zp
open PySem PySem.Spec PyProof.Rows L2
open PySem.Sem (wp)
/-- tuples laid one behind the other -/
def layT (H : Hp) : List (Addr × V × V) → Hp
  | [] => H
  | p :: r => upd (layT H r) p.1 (.tup [p.2.1, p.2.2])
/-- a list or a tuple of values -/
def SqV (t : Bool) (K : PySem.W.Frag) (H : Hp) (a : Addr) (xs : List V) : Prop := match t with
  | true => SqT K H a xs
  | false => SqL K H a xs
section
variable {X : Cx} {pins : List (Addr × Obj)} {σ : L2.St} {H : Hp} {s : Shared}
theorem Inv.sqv {t : Bool} {a : Addr} {xs : List V} (I : Inv X pins σ H s) (h : SqV t X.K H a xs) : ∃ its : List Value, Vals xs its ∧ SqA t s.heap a its.toArray ∧ xs.length ≤ sizeLine ∧ a < s.heap.objs.size := by
  cases t
  · obtain ⟨its, rv, p, hz⟩ := I.list h
    exact ⟨its, rv, p.isList, hz, p.lt⟩
  · obtain ⟨its, rv, p, hz⟩ := I.tuple h
    obtain ⟨o, ho, _⟩ := id p
    exact ⟨its, rv, p, hz, Heap.lt_size ho⟩
/-- where the walk stands -/
def At (S : Addr) (t1 t2 : Bool) (z TI TO i1 i2 l1 l2 : Addr) (xs ys : Array Value) (i : Nat) (h : Heap) : Prop :=
  IsPair h TI (.ref i1) (.ref i2) ∧ ItA t1 h i1 l1 i ∧ ItA t2 h i2 l2 i ∧ SqA t1 h l1 xs ∧ SqA t2 h l2 ys ∧ (∃ a b, IsPair h TO a b) ∧
    (IsZip h z TI TO .none ∨ ∃ T f oT, IsZipHeld h z TI TO T f ∧ h.get? T = some oT ∧ T ≠ z ∧ T ≠ i1 ∧ T ≠ i2 ∧ T ≠ S)
/-- the zip's next, wherever the walk stands -/
theorem at_next {prog : Program} {w : World} {A : Around} {E : Value → Shared → Prop} {Q : Option Value → Shared → Prop} {s : Shared} {t1 t2 : Bool} {z TI TO i1 i2 l1 l2 S : Addr} {xs ys : Array Value} {i : Nat} (D : ZipApart z TI TO i1 i2 l1 l2)
    (st : At S t1 t2 z TI TO i1 i2 l1 l2 xs ys i s.heap) (nS : s.heap.objs.size ≠ S)
    (both : ∀ x y h', xs[i]? = some x → ys[i]? = some y → At S t1 t2 z TI TO i1 i2 l1 l2 xs ys (i + 1) h' → IsPair h' s.heap.objs.size x y → Kept [z, TI, TO, i1, i2] s.heap h' → Q (some (.ref s.heap.objs.size)) { s with heap := h' })
    (over : xs[i]? = none ∨ ys[i]? = none → A.handled = none ∧ ∀ h', Kept [z, TI, TO, i1, i2] s.heap h' → Q none { s with heap := h' }) : wpAny (model prog w) A (pyNext (.ref z)) Q E s := by
  obtain ⟨hTI, h1, h2, hl1, hl2, ⟨a, b, hTO⟩, st⟩ := st
  have below : ∀ {c : Addr} {o : Obj}, s.heap.get? c = some o → s.heap.objs.size ≠ c := fun e => Nat.ne_of_gt (Heap.lt_size e)
  have m1 : s.heap.objs.size ≠ i1 := let ⟨_, e, _⟩ := h1.ob; below e
  have m2 : s.heap.objs.size ≠ i2 := let ⟨_, e, _⟩ := h2.ob; below e
  rcases st with hz | ⟨T, f, oT, hz, hT, n1, n2, n3, n4⟩
  · refine next_free D hz hTI hTO ⟨h1, hl1⟩ ⟨h2, hl2⟩ (fun x y h' hx hy hz' hTO' s1 s2 p k => both x y h' hx hy ⟨k TI ?_ _ hTI, s1.stands, s2.stands, s1.holds, s2.holds, ⟨_, _, hTO'⟩, .inr ⟨_, _, _, hz', p, below hz, m1, m2, nS⟩⟩ p (k.wide (by simp))) fun e => ⟨(over e).1, fun h' k => (over e).2 h' (k.wide (by simp))⟩
    simp [D.TIz, D.TITO, D.TIi1, D.TIi2]
  · refine next_held D hz hT hTI ⟨h1, hl1⟩ ⟨h2, hl2⟩ (fun x y h' hx hy hz' s1 s2 p k => both x y h' hx hy ⟨k TI ?_ _ hTI, s1.stands, s2.stands, s1.holds, s2.holds, ⟨a, b, k TO ?_ _ hTO⟩, .inr ⟨T, true, oT, hz', k T ?_ _ hT, n1, n2, n3, n4⟩⟩ p (k.wide (by simp))) fun e => ⟨(over e).1, fun h' k => (over e).2 h' (k.wide (by simp))⟩
    · simp [D.TIz, D.TIi1, D.TIi2]
    · simp [D.TOz, D.TOi1, D.TOi2]
    · simp [n1, n2, n3]
theorem upd_swap {H : Hp} {S T : Addr} {a b t : HO} (h : T ≠ S) : upd (upd (upd H S a) T t) S b = upd (upd H T t) S b := by
  funext c
  by_cases e : c = S
  · subst e; rw [upd_same, upd_same]
  · rw [upd_ne e, upd_ne e]
    by_cases e2 : c = T
    · subst e2; rw [upd_same, upd_same]
    · rw [upd_ne e2, upd_ne e2, upd_ne e]
theorem updT_fresh {H : Hp} {S T : Addr} {a : HO} {Ts : List (Addr × V × V)} (h : upd (layT H Ts) S a T = none) : T ≠ S ∧ layT H Ts T = none := by
  by_cases e : T = S
  · subst e; rw [upd_same] at h; cases h
  · rw [upd_ne e] at h; exact ⟨e, h⟩
/-- the loop of list.extend over such a zip -/
theorem ext_loop {A : Around} {t1 t2 : Bool} {z TI TO i1 i2 l1 l2 S : Addr} {us vs : List V} {xs ys : List Value} {n : Nat} (hh : A.handled = none) (D : ZipApart z TI TO i1 i2 l1 l2) (ru : Vals us xs) (rv : Vals vs ys) (hn : n = min us.length vs.length) (hz : n ≤ 1000000)
    (hS : S ≠ z ∧ S ≠ TI ∧ S ≠ TO ∧ S ≠ i1 ∧ S ≠ i2 ∧ S ≠ l1 ∧ S ≠ l2) {R : Result → Shared → Prop} (H0 : Hp)
    (hR : ∀ (Ts : List (Addr × V × V)) s', Inv X pins σ (upd (layT H0 Ts) S (.lst (Ts.reverse.map fun p => V.ref p.1))) s' → Ts.reverse.map (·.2) = us.zip vs → (∀ r p l, Ts = l ++ p :: r → upd (layT H0 r) S (.lst []) p.1 = none) → R (.ok (.ret .none)) s') :
    ∀ (k i : Nat) (Ts : List (Addr × V × V)) (s : Shared), n - i = k → i ≤ n → Ts.length = i → Ts.reverse.map (·.2) = (us.zip vs).take i → (∀ r p l, Ts = l ++ p :: r → upd (layT H0 r) S (.lst []) p.1 = none) → Inv X pins σ (upd (layT H0 Ts) S (.lst (Ts.reverse.map fun p => V.ref p.1))) s →
      (∀ b ∈ [z, TI, TO, i1, i2], FpOk X pins (upd (layT H0 Ts) S (.lst (Ts.reverse.map fun p => V.ref p.1))) b) → At S t1 t2 z TI TO i1 i2 l1 l2 xs.toArray ys.toArray i s.heap →
      codeAny (model X.prog X.w) A (.builtin "list.extend.loop" ⟨[.ref S, .ref z, .none], []⟩) R s := by
  have lx : xs.length = us.length := ru.length.symm
  have ly : ys.length = vs.length := rv.length.symm
  intro k
  induction k with
  | zero =>
    intro i Ts s hk hi hl hT hfr I hf st
    have ein : i = n := by omega
    subst ein
    refine codeAny_builtin F.entry_extend_loop ?_
    rw [Around.under_plainId F.plain_extend_loop _]
    show wpAny _ A.in1 (pyNext (.ref z) >>= _) _ _ s
    have all : Ts.reverse.map (·.2) = us.zip vs := by rw [hT, List.take_of_length_le (by rw [List.length_zip]; omega)]
    have neS : s.heap.objs.size ≠ S := (updT_fresh (I.hok.fresh (Nat.le_refl s.heap.objs.size))).1
    refine wpAny_bind (at_next D st neS (fun x y h' hx hy => ?_) fun _ => ⟨hh, fun h' hk => wpAny_pure (hR Ts _ (I.turnedL (t' := s.toks) (ch := [z, TI, TO, i1, i2]) (fun c o hb q => hk c hb o q) hf) all hfr)⟩)
    have p1 := (Array.getElem?_eq_some_iff.mp hx).1
    have p2 := (Array.getElem?_eq_some_iff.mp hy).1
    rw [List.size_toArray] at p1 p2
    omega
  | succ k ih =>
    intro i Ts s hk hi hl hT hfr I hf st
    have hlt : i < n := by omega
    refine codeAny_builtin F.entry_extend_loop ?_
    rw [Around.under_plainId F.plain_extend_loop _]
    show wpAny _ A.in1 (pyNext (.ref z) >>= _) _ _ s
    obtain ⟨u, hu⟩ : ∃ u, us[i]? = some u := ⟨us[i], List.getElem?_eq_getElem (by omega)⟩
    obtain ⟨v, hv⟩ : ∃ v, vs[i]? = some v := ⟨vs[i], List.getElem?_eq_getElem (by omega)⟩
    obtain ⟨x, hx, rx⟩ := ru.get hu
    obtain ⟨y, hy, ry⟩ := rv.get hv
    have hx' : xs.toArray[i]? = some x := by simpa using hx
    have hy' : ys.toArray[i]? = some y := by simpa using hy
    have HS : upd (layT H0 Ts) S (.lst (Ts.reverse.map fun p => V.ref p.1)) S = some (.lst (Ts.reverse.map fun p => V.ref p.1)) := upd_same
    -- what follows, whatever way the pair came
    have rest : ∀ h', At S t1 t2 z TI TO i1 i2 l1 l2 xs.toArray ys.toArray (i + 1) h' → IsPair h' s.heap.objs.size x y → (∀ c o, c ∉ [z, TI, TO, i1, i2] → s.heap.get? c = some o → h'.get? c = some o) →
        wpAny (model X.prog X.w) A.in1 (updateSeq S (·.push (.ref s.heap.objs.size)) >>= fun _ => again (.builtin "list.extend.loop" ⟨[.ref S, .ref z, .none], []⟩)) (fun fin s' => match fin with | .done f => R (.ok f) s' | .again c' => c'.quiet = true ∧ codeAny (model X.prog X.w) A c' R s') (fun e s' => R (.error e) s') { s with heap := h' } := by
      intro h' st' hp kp
      have new : ObjOk X.prog X.w (upd (upd (layT H0 Ts) S (.lst (Ts.reverse.map fun p => V.ref p.1))) s.heap.objs.size (.tup [u, v])) h' s.heap.objs.size (.tup [u, v]) := ⟨by show 2 ≤ sizeLine; decide, [x, y], .cons rx (.cons ry .nil), ⟨_, hp, rfl, _, rfl⟩⟩
      have fr := I.hok.fresh (Nat.le_refl s.heap.objs.size)
      have I1 := I.turnedNew (t' := s.toks) (ch := [z, TI, TO, i1, i2]) kp hf (Nat.le_refl _) new
      have neS : s.heap.objs.size ≠ S := (updT_fresh fr).1
      have HS1 : upd (upd (layT H0 Ts) S (.lst (Ts.reverse.map fun p => V.ref p.1))) s.heap.objs.size (.tup [u, v]) S = some (.lst (Ts.reverse.map fun p => V.ref p.1)) := by rw [upd_ne (Ne.symm neS)]; exact HS
      obtain ⟨lz, its, cap, ri, li, eS⟩ := I1.lstM HS1
      have lits : its.length = i := by rw [← li, List.length_map, List.length_reverse, hl]
      have I2 := I1.lset (its' := its ++ [.ref s.heap.objs.size]) (f := fun a => a.push (.ref s.heap.objs.size)) (t' := s.toks) HS1 eS (by simp) (ri.append (.cons (show RelV (.ref s.heap.objs.size) (.ref s.heap.objs.size) from rfl) .nil)) (by rw [List.length_append, List.length_map, List.length_reverse, hl, sizeLine_eq]; simp only [List.length_cons, List.length_nil]; omega)
      rw [upd_swap neS] at I2
      have e1 : (Ts.reverse.map fun p => V.ref p.1) ++ [V.ref s.heap.objs.size] = (((s.heap.objs.size, u, v) :: Ts).reverse.map fun p => V.ref p.1) := by rw [List.reverse_cons, List.map_append]; rfl
      rw [e1] at I2
      have other : ∀ b o, b ≠ S → h'.get? b = some o → (h'.update S (Obj.mapSeq fun a => a.push (.ref s.heap.objs.size))).get? b = some o := fun b o hb q => (Heap.get?_update_other _ _ (Ne.symm hb)).trans q
      refine wpAny_bind (wpAny_updateSeq eS rfl (wpAny_pure ⟨plainId_quiet F.plain_extend_loop _, ih (i + 1) ((s.heap.objs.size, u, v) :: Ts) _ (by omega) hlt (by rw [List.length_cons, hl]) ?_ ?_ I2 ?_ ?_⟩) (by rw [List.size_toArray, lits, sizeLine_eq]; omega) (by rw [Array.size_push, List.size_toArray, lits, sizeLine_eq]; omega))
      · rw [List.reverse_cons, List.map_append, hT, List.take_succ, List.getElem?_zip_eq_some.mpr (show us[i]? = some (u, v).1 ∧ vs[i]? = some (u, v).2 from ⟨hu, hv⟩)]
        rfl
      · intro r p l e
        cases l with
        | nil =>
          cases e
          refine (?_ : upd (layT H0 Ts) S (.lst []) s.heap.objs.size = none)
          rw [upd_ne neS]
          exact (updT_fresh fr).2
        | cons q l =>
          cases e
          exact hfr r p l rfl
      · intro b hb
        obtain ⟨f0, f1⟩ := hf b hb
        have nb : b ≠ S := fun e => by
          obtain ⟨s1, s2, s3, s4, s5, _⟩ := hS
          simp only [List.mem_cons, List.not_mem_nil, or_false] at hb
          rcases hb with q | q | q | q | q
          · exact s1 (e ▸ q)
          · exact s2 (e ▸ q)
          · exact s3 (e ▸ q)
          · exact s4 (e ▸ q)
          · exact s5 (e ▸ q)
        refine ⟨?_, f1⟩
        rw [upd_ne nb]
        show upd (layT H0 Ts) s.heap.objs.size (.tup [u, v]) b = none
        have lb : b ≠ s.heap.objs.size := fun e => by
          have old : ∃ o, s.heap.get? b = some o := by
            obtain ⟨hTI, h1, h2, _, _, ⟨_, _, hTO⟩, st⟩ := st
            simp only [List.mem_cons, List.not_mem_nil, or_false] at hb
            rcases hb with q | q | q | q | q
            · rw [q]
              rcases st with w1 | ⟨_, _, _, w1, _⟩
              · exact ⟨_, w1⟩
              · exact ⟨_, w1⟩
            · rw [q]; exact ⟨_, hTI⟩
            · rw [q]; exact ⟨_, hTO⟩
            · rw [q]; obtain ⟨o, w, _⟩ := h1.ob; exact ⟨o, w⟩
            · rw [q]; obtain ⟨o, w, _⟩ := h2.ob; exact ⟨o, w⟩
          obtain ⟨o, w⟩ := old
          exact absurd (Heap.lt_size w) (by rw [e]; exact Nat.lt_irrefl _)
        rw [upd_ne lb]
        rw [upd_ne nb] at f0
        exact f0
      · obtain ⟨a1, a2, a3, a4, a5, ⟨c, d, a6⟩, a7⟩ := st'
        obtain ⟨s1, s2, s3, s4, s5, s6, s7⟩ := hS
        refine ⟨other _ _ (Ne.symm s2) a1, a2.up fun o q => other _ o (Ne.symm s4) q, a3.up fun o q => other _ o (Ne.symm s5) q, a4.up fun o q => other _ o (Ne.symm s6) q, a5.up fun o q => other _ o (Ne.symm s7) q, ⟨c, d, other _ _ (Ne.symm s3) a6⟩, ?_⟩
        rcases a7 with w | ⟨T, f, oT, w1, w2, w3, w4, w5, w6⟩
        · exact .inl (other _ _ (Ne.symm s1) w)
        · exact .inr ⟨T, f, oT, other _ _ (Ne.symm s1) w1, other _ _ w6 w2, w3, w4, w5, w6⟩
    have neS : s.heap.objs.size ≠ S := (updT_fresh (I.hok.fresh (Nat.le_refl s.heap.objs.size))).1
    refine wpAny_bind (at_next D st neS (fun x' y' h' ex ey st' hp kp => ?_) fun e => ?_)
    · rw [hx'] at ex
      rw [hy'] at ey
      cases ex
      cases ey
      exact rest h' st' hp fun c o hb q => kp c hb o q
    · rw [hx', hy'] at e
      rcases e with e | e <;> cases e
end
end Lk.Zp
end Part_LkZp3
section Part_LkZp4
set_option Elab.async false
set_option linter.all false
set_option maxRecDepth 100000
set_option maxHeartbeats 4000000
namespace Lk.Zp
open PySem PySem.Spec PyProof.Rows L2
open PySem.Sem (wp)
section
variable {X : Cx} {pins : List (Addr × Obj)} {σ : L2.St} {H : Hp} {s : Shared}
/-- list(z) of a zip that has just been made -/
theorem call_list_zip {E : Value → Shared → Prop} {Q : Value → Shared → Prop} {t1 t2 : Bool} {z TI TO i1 i2 l1 l2 : Addr} {us vs : List V} {xs ys : List Value} (hh : X.A.handled = none) (D : ZipApart z TI TO i1 i2 l1 l2) (ru : Vals us xs) (rv : Vals vs ys) (hz : us.length ≤ 1000000)
    (I : Inv X pins σ H s) (hf : ∀ b ∈ [z, TI, TO, i1, i2], FpOk X pins H b) (zz : IsZip s.heap z TI TO .none) (zTI : IsPair s.heap TI (.ref i1) (.ref i2)) (zTO : IsPair s.heap TO .none .none) (z1 : ItA t1 s.heap i1 l1 0) (z2 : ItA t2 s.heap i2 l2 0) (q1 : SqA t1 s.heap l1 xs.toArray) (q2 : SqA t2 s.heap l2 ys.toArray) (b1 : l1 < s.heap.objs.size) (b2 : l2 < s.heap.objs.size)
    (hQ : ∀ (S : Addr) (Ts : List (Addr × V × V)) s', Inv X pins σ (upd (layT H Ts) S (.lst (Ts.reverse.map fun p => V.ref p.1))) s' → Ts.reverse.map (·.2) = us.zip vs → (∀ r p l, Ts = l ++ p :: r → upd (layT H r) S (.lst []) p.1 = none) → H S = none → Q (.ref S) s') :
    wpAny (model X.prog X.w) X.A (call (.type "list") [.ref z]) Q E s := by
  refine callType_codes (Q₁ := fun obj s₁ => obj = .ref s.heap.objs.size ∧ s₁ = { s with heap := s.heap.push { cls := .type "list", data := .seq #[] } }) F.called_list (F.typeCall_list_1 _) F.entry_list_init
    (code_list_new _ ⟨rfl, rfl⟩) fun obj sa ha => ?_
  obtain ⟨rfl, rfl⟩ := ha
  have hS : (s.heap.push { cls := .type "list", data := .seq #[] }).get? s.heap.objs.size = some { cls := .type "list", data := .seq #[] } := Heap.get?_push_size _ rfl
  refine ⟨⟨_, hS, rfl⟩, F.args_list_init_2 _ _, ?_⟩
  have hn : H s.heap.objs.size = none := I.hok.fresh (Nat.le_refl _)
  have lt : ∀ b ∈ [z, TI, TO, i1, i2], b < s.heap.objs.size := fun b hb => by
    simp only [List.mem_cons, List.not_mem_nil, or_false] at hb
    rcases hb with e | e | e | e | e
    · rw [e]; exact Heap.lt_size zz
    · rw [e]; exact Heap.lt_size zTI
    · rw [e]; exact Heap.lt_size zTO
    · rw [e]; obtain ⟨o, w, _⟩ := z1.ob; exact Heap.lt_size w
    · rw [e]; obtain ⟨o, w, _⟩ := z2.ob; exact Heap.lt_size w
  have nS : s.heap.objs.size ≠ z ∧ s.heap.objs.size ≠ TI ∧ s.heap.objs.size ≠ TO ∧ s.heap.objs.size ≠ i1 ∧ s.heap.objs.size ≠ i2 ∧ s.heap.objs.size ≠ l1 ∧ s.heap.objs.size ≠ l2 :=
    ⟨Ne.symm (Nat.ne_of_lt (lt z (by simp))), Ne.symm (Nat.ne_of_lt (lt TI (by simp))), Ne.symm (Nat.ne_of_lt (lt TO (by simp))), Ne.symm (Nat.ne_of_lt (lt i1 (by simp))), Ne.symm (Nat.ne_of_lt (lt i2 (by simp))), Ne.symm (Nat.ne_of_lt b1), Ne.symm (Nat.ne_of_lt b2)⟩
  generalize hSS : s.heap.objs.size = S at hS hn nS ⊢
  -- how the heap goes on: all but S stay
  have go : ∀ (R : Result → Shared → Prop) (h : Heap) (c : Nat), (∀ s', Q (.ref S) s' → R (.ok (.ret .none)) s') → (∀ b o, b ≠ S → s.heap.get? b = some o → h.get? b = some o) → h.get? S = some { cls := .type "list", data := .seq #[] c } →
      codeAny (model X.prog X.w) X.A.in1 (.builtin "list.extend.loop" ⟨[.ref S, .ref z, .none], []⟩) R { s with heap := h } := by
    intro R h c hR kp hl
    have I1 : Inv X pins σ (upd H S (.lst [])) { s with heap := h } := by
      refine I.call' (s' := { s with heap := h }) (ch := []) rfl (Un.laid (fun b o e => ?_) (Nat.le_of_eq hSS) hn) (I.hok.laid (fun b o e => ?_) (Nat.le_of_eq hSS) ⟨Nat.zero_le _, [], c, .nil, hl⟩) I.bare (fun _ q => nomatch q)
      · exact kp b o (fun q => by subst q; exact absurd (Heap.lt_size e) (by rw [hSS]; exact Nat.lt_irrefl _)) e
      · exact kp b o (fun q => by subst q; exact absurd (Heap.lt_size e) (by rw [hSS]; exact Nat.lt_irrefl _)) e
    refine ext_loop (A := X.A.in1) (X := X) (pins := pins) (σ := σ) (t1 := t1) (t2 := t2) hh D ru rv rfl (Nat.le_trans (Nat.min_le_left _ _) hz) nS H (fun Ts s' I' e1 e2 => hR _ (hQ S Ts s' I' e1 e2 hn)) (min us.length vs.length) 0 [] _ rfl (Nat.zero_le _) rfl rfl (fun r p l e => by cases l <;> cases e) I1 (fun b hb => ?_) ?_
    · obtain ⟨f0, f1⟩ := hf b hb
      refine ⟨?_, f1⟩
      show upd H S (.lst []) b = none
      rw [upd_ne (by have := lt b hb; rw [hSS] at this; exact Nat.ne_of_lt this)]
      exact f0
    · obtain ⟨n1, n2, n3, n4, n5, n6, n7⟩ := nS
      exact ⟨kp _ _ (Ne.symm n2) zTI, z1.up fun o q => kp _ o (Ne.symm n4) q, z2.up fun o q => kp _ o (Ne.symm n5) q, q1.up fun o q => kp _ o (Ne.symm n6) q, q2.up fun o q => kp _ o (Ne.symm n7) q, ⟨_, _, kp _ _ (Ne.symm n3) zTO⟩, .inl (kp _ _ (Ne.symm n1) zz)⟩
  have e1 : Builtin.List.listSameRef (.ref S) (.ref z) = false := by simp [Builtin.List.listSameRef, nS.1]
  have za : IsZip (Shared.heap { s with heap := (s.heap.push { cls := .type "list", data := .seq #[] }).update S (Obj.mapSeq fun _ => #[]) }) z TI TO .none := (Kept.put.then (Kept.upd (a := S))) z (by simp [Ne.symm nS.1]) _ zz
  have ne := nS.1
  have ne2 := Ne.symm nS.1
  wp_walk using wpAny_pyIter_zip za, hint_zip za
  have kf : ∀ {f1 f2 f3 : Obj → Obj}, Kept [S] s.heap ((((s.heap.push { cls := .type "list", data := .seq #[] }).update S f1).update S f2).update S f3) := fun {f1 f2 f3} => (((Kept.put.then .upd).then .upd).then .upd).wide (by simp)
  exact ⟨plainId_quiet F.plain_extend_loop _, go _ _ _ (fun s' q => ⟨rfl, q⟩) (fun b o hb e => kf b (by simp [hb]) o e) (Heap.get?_update_self _ (Heap.get?_update_self _ (Heap.get?_update_self _ hS rfl) rfl) rfl)⟩
end
end Lk.Zp
end Part_LkZp4
section Part_LkZp5
set_option Elab.async false
set_option linter.all false
set_option maxRecDepth 100000
set_option maxHeartbeats 4000000
/-! a walk over zip of two sequences, each a list or a tuple -/
namespace Lk.Zp
open PySem PySem.Spec PyProof.Rows L2
theorem sqv_one {X : Cx} {pins : List (Addr × Obj)} {σ : L2.St} {H : Hp} {s : Shared} {t : Bool} {a : Addr} {xs ys : List V} (I : Inv X pins σ H s) (h : SqV t X.K H a xs) (k : SqV t X.K H a ys) : xs = ys := match t, h, k with
  | false, h, k => I.list_inj h k
  | true, h, k => I.tuple_inj h k
theorem it_cell {t : Bool} {h : Heap} {it l : Addr} {i : Nat} (x : ItA t h it l i) : ∃ o, h.get? it = some o ∧ ∀ v, o.data ≠ .cell v := match t, x with
  | false, ⟨o, e, _, d⟩ => ⟨o, e, fun v z => by rw [d] at z; cases z⟩
  | true, ⟨o, e, _, d⟩ => ⟨o, e, fun v z => by rw [d] at z; cases z⟩
/-- the walk, told by what lies at a and b -/
def ItzG (K : PySem.W.Frag) (t1 t2 : Bool) (a b : Addr) : It where
  go i H := ∃ us vs, (SqV t1 K H a us ∧ SqV t2 K H b vs) ∧ i < us.length ∧ i < vs.length
  yld i H v H' := ∃ (T : Addr) (p : V × V), v = .ref T ∧ H T = none ∧ H' = upd H T (.tup [p.1, p.2]) ∧ ∀ us vs, SqV t1 K H a us → SqV t2 K H b vs → us[i]? = some p.1 ∧ vs[i]? = some p.2
  stop i H := ∃ us vs, (SqV t1 K H a us ∧ SqV t2 K H b vs) ∧ min us.length vs.length ≤ i
/-- the five objects of a zip that has given out nothing that is still held -/
structure Z5 (t1 t2 : Bool) (a b z TI TO i1 i2 : Addr) (i : Nat) (h : Heap) : Prop where
  zz : IsZip h z TI TO .none
  ti : IsPair h TI (.ref i1) (.ref i2)
  to : ∃ p : Value × Value, IsPair h TO p.1 p.2
  j1 : ItA t1 h i1 a i
  j2 : ItA t2 h i2 b i
abbrev five (z TI TO i1 i2 : Addr) : List Addr := [z, TI, TO, i1, i2]
theorem five_all {z TI TO i1 i2 : Addr} {P : Addr → Prop} (h : P z ∧ P TI ∧ P TO ∧ P i1 ∧ P i2) : ∀ c ∈ five z TI TO i1 i2, P c := by
  intro c hc
  simp only [five, List.mem_cons, List.not_mem_nil, or_false] at hc
  rcases hc with rfl | rfl | rfl | rfl | rfl
  · exact h.1
  · exact h.2.1
  · exact h.2.2.1
  · exact h.2.2.2.1
  · exact h.2.2.2.2
section
variable {t1 t2 : Bool} {a b z TI TO i1 i2 : Addr} {i : Nat} {h h' : Heap}
theorem Z5.ob (st : Z5 t1 t2 a b z TI TO i1 i2 i h) : ∀ c ∈ five z TI TO i1 i2, ∃ o, h.get? c = some o ∧ ∀ v, o.data ≠ .cell v := by
  obtain ⟨p, hp⟩ := st.to
  exact five_all ⟨⟨_, st.zz, fun _ q => (nomatch q)⟩, ⟨_, st.ti, fun _ q => (nomatch q)⟩, ⟨_, hp, fun _ q => (nomatch q)⟩, it_cell st.j1, it_cell st.j2⟩
theorem Z5.move (st : Z5 t1 t2 a b z TI TO i1 i2 i h) (k : ∀ c ∈ five z TI TO i1 i2, ∀ o, h.get? c = some o → h'.get? c = some o) : Z5 t1 t2 a b z TI TO i1 i2 i h' := by
  have m := fun c hc => k c hc
  obtain ⟨p, hp⟩ := st.to
  refine ⟨m z ?_ _ st.zz, m TI ?_ _ st.ti, ⟨p, m TO ?_ _ hp⟩, st.j1.up (m i1 ?_), st.j2.up (m i2 ?_)⟩ <;> simp [five]
theorem Z5.small (st : Z5 t1 t2 a b z TI TO i1 i2 i h) : ∀ c ∈ five z TI TO i1 i2, c < h.objs.size := fun c hc => by
  obtain ⟨o, e, _⟩ := st.ob c hc
  exact Heap.lt_size e
end
/-- one turn, told of the heap alone -/
theorem zip_turn {prog : Program} {w : World} {A : Around} {E : Value → Shared → Prop} {Q : Option Value → Shared → Prop} {s : Shared} {t1 t2 : Bool} {a b z TI TO i1 i2 : Addr} {i : Nat} {xs ys : Array Value} {x y : Value} (D : ZipApart z TI TO i1 i2 a b) (st : Z5 t1 t2 a b z TI TO i1 i2 i s.heap)
    (q1 : SqA t1 s.heap a xs) (q2 : SqA t2 s.heap b ys) (hx : xs[i]? = some x) (hy : ys[i]? = some y)
    (hQ : ∀ h1, IsZip h1 z TI TO (rawInt s.heap.objs.size) → (∀ h2, IsZip h2 z TI TO .none → Heap.SameBut z h1 h2 → Z5 t1 t2 a b z TI TO i1 i2 (i + 1) h2 ∧ h2.get? s.heap.objs.size = some { cls := .type "tuple", data := .seq #[x, y] } ∧ ∀ c, c ∉ five z TI TO i1 i2 → ∀ o, s.heap.get? c = some o → h2.get? c = some o) →
      Q (some (.ref s.heap.objs.size)) { s with heap := h1 }) : wpAny (model prog w) A (pyNext (.ref z)) Q E s := by
  obtain ⟨p, hp⟩ := st.to
  have zlt := st.small z (by simp [five])
  refine next_free D st.zz st.ti hp ⟨st.j1, q1⟩ ⟨st.j2, q2⟩ (fun x' y' h1 ex ey z1 TO1 u1 u2 T1 k1 => ?_) fun e => ?_
  · rw [hx] at ex
    rw [hy] at ey
    cases ex
    cases ey
    have go : ∀ h2, Heap.SameBut z h1 h2 → Kept [z] h1 h2 := fun h2 sb => .of sb
    refine hQ h1 z1 fun h2 z2 sb => ⟨⟨z2, ?_, ⟨(x, y), go h2 sb TO (by simp [D.TOz]) _ TO1⟩, (u1.on (go h2 sb) (by simp [D.i1z]) (by simp [D.l1z])).stands, (u2.on (go h2 sb) (by simp [D.i2z]) (by simp [D.l2z])).stands⟩, go h2 sb _ (by simp [Nat.ne_of_gt zlt]) _ T1, fun c hc => ((k1.then (go h2 sb)).wide (by simp [five])) c hc⟩
    exact (k1.then (go h2 sb)) TI (by simp [D.TIz, D.TITO, D.TIi1, D.TIi2]) _ st.ti
  · rw [hx, hy] at e
    rcases e with e | e <;> cases e
theorem turn_zipG {P : Program} {w : World} {K : PySem.W.Frag} {t1 t2 : Bool} {elts : List Expr} {kk : Nat} {tpos : Pos} {a b z TI TO i1 i2 : Addr} (D : ZipApart z TI TO i1 i2 a b) :
    Turn P w K (.Tuple elts kk tpos) (ItzG K t1 t2 a b) (five z TI TO i1 i2) z (Z5 t1 t2 a b z TI TO i1 i2) where
  mem := List.mem_cons_self
  obj := fun _ _ st => st.ob
  keep := fun _ _ _ st k => st.move k
  self := fun _ _ _ _ _ st h => wpAny_pyIter_zip st.zz h
  item := by
    rintro X rfl rfl rfl hc i pins s σ H E I hf st hgo
    obtain ⟨us, vs, ⟨s1, s2⟩, l1, l2⟩ := hgo
    obtain ⟨us', r1, p1, _⟩ := Inv.sqv I s1
    obtain ⟨vs', r2, p2, _⟩ := Inv.sqv I s2
    obtain ⟨x, hx, rx⟩ := r1.get (List.getElem?_eq_getElem l1)
    obtain ⟨y, hy, ry⟩ := r2.get (List.getElem?_eq_getElem l2)
    refine zip_turn D st p1 p2 (by simpa using hx) (by simpa using hy) fun h1 z1 go => ⟨_, rfl, wpAny_letOwnedTupleGo_zip (s := { s with heap := h1 }) z1 fun h2 z2 sb => ?_⟩
    obtain ⟨st2, T2, k2⟩ := go h2 z2 sb
    have fresh := I.hok.fresh (Nat.le_refl s.heap.objs.size)
    have made := I.turnedNew (t' := s.toks) (ch := five z TI TO i1 i2) (fun c o hb q => k2 c hb o q) hf (Nat.le_refl _)
      (show ObjOk X.prog X.w (upd H s.heap.objs.size (.tup [us[i], vs[i]])) h2 s.heap.objs.size (.tup [us[i], vs[i]]) from ⟨by show 2 ≤ sizeLine; decide, [x, y], .cons rx (.cons ry .nil), ⟨_, T2, rfl, _, rfl⟩⟩)
    refine ⟨.ref s.heap.objs.size, _, made, rfl, ⟨_, (us[i], vs[i]), rfl, fresh, rfl, fun us2 vs2 g1 g2 => ?_⟩, st2, fun c hcm => ?_⟩
    · rw [sqv_one I g1 s1, sqv_one I g2 s2]
      exact ⟨List.getElem?_eq_getElem l1, List.getElem?_eq_getElem l2⟩
    · show upd H s.heap.objs.size _ c = none
      rw [upd_ne (Nat.ne_of_lt (st.small c hcm))]
      exact (hf c hcm).1
  done := by
    rintro X rfl rfl rfl hc i pins s σ H E I hf st hst
    obtain ⟨us, vs, ⟨s1, s2⟩, hend⟩ := hst
    obtain ⟨us', r1, p1, _⟩ := Inv.sqv I s1
    obtain ⟨vs', r2, p2, _⟩ := Inv.sqv I s2
    obtain ⟨p, hp⟩ := st.to
    refine next_free D st.zz st.ti hp ⟨st.j1, p1⟩ ⟨st.j2, p2⟩ (fun x y h' hx hy => ?_) fun _ => ⟨I.ok.hd hc, fun h' k => ⟨rfl, I.turnedL (t' := s.toks) (fun c o hb q => (k.wide (by simp [five])) c hb o q) hf⟩⟩
    have n1 := r1.length
    have n2 := r2.length
    have m1 := (Array.getElem?_eq_some_iff.mp hx).1
    have m2 := (Array.getElem?_eq_some_iff.mp hy).1
    rw [List.size_toArray] at m1 m2
    omega
def iZipG (K : PySem.W.Frag) (ta : TA) : TI := fun σ H R => ta σ H fun vs H1 => ∃ t1 t2 a b, vs = [.ref a, .ref b] ∧ (∃ us ws, SqV t1 K H1 a us ∧ SqV t2 K H1 b ws) ∧ R (ItzG K t1 t2 a b) H1
theorem pi_zipG {X : Cx} {e e2 : Expr} {ta : TA} {p pos tpos : Pos} {elts : List Expr} {kk : Nat} (hg : Gl X "zip") (hm : X.mg "zip" = none) (ha : PA X [e, e2] ta)
    (hs : starEach [e, e2] X.env = (false, eval e X.env) :: starEach [e2] X.env) (hpl : (backTo pos (starEach [e2] X.env)).any (·.1) = false) :
    PI X (.Tuple elts kk tpos) (.Call (.Name "zip" p) [e, e2] [] pos) (iZipG X.K ta) := ⟨fun pins s σ H R I h => by
  have args := ha.run pos pins s σ H _ I h
  refine Call_ (ld_blt I hg hm PyProof.Rows.boot_zip (PyProof.Rows.callWith_type1 (thn args fun us s1 q => ?_) hs hpl))
  obtain ⟨vs, H1, I1, r1, t1, t2, a, b, rfl, ⟨us1, us2, g1, g2⟩, go⟩ := q
  obtain ⟨u, v, rfl, rfl, rfl⟩ : ∃ u v, us = [u, v] ∧ u = .ref a ∧ v = .ref b := by
    cases r1 with
    | cons ra rr =>
      cases rr with
      | cons rb rn =>
        cases rn
        exact ⟨_, _, rfl, ra, rb⟩
  obtain ⟨_, _, p1, _, la⟩ := Inv.sqv I1 g1
  obtain ⟨_, _, p2, _, lb⟩ := Inv.sqv I1 g2
  refine call_zipG p1 p2 fun h' zz hTI hTO j1 j2 _ hk => wpAny_pyIter_zip zz ⟨s1.heap.objs.size + 4, five (s1.heap.objs.size + 4) (s1.heap.objs.size + 2) (s1.heap.objs.size + 3) s1.heap.objs.size (s1.heap.objs.size + 1), _, _, H1, rfl, I1.kept (t' := s1.toks) hk, turn_zipG (PySem.W.ktu_apart s1.heap.objs.size a b la lb), ⟨zz, hTI, ⟨(.none, .none), hTO⟩, j1, j2⟩, ?_, go⟩
  have new : ∀ c, s1.heap.objs.size ≤ c → FpOk X pins H1 c := fun c hc => I1.fpOk hc (I1.hok.fresh hc)
  exact five_all ⟨new _ (by omega), new _ (by omega), new _ (by omega), new _ (Nat.le_refl _), new _ (by omega)⟩⟩
end Lk.Zp
end Part_LkZp5
section Part_LkT
set_option Elab.async false
set_option linter.all false
set_option maxRecDepth 100000
set_option maxHeartbeats 4000000
namespace Lk
open PySem PySem.Spec PyProof.Rows L2
section
variable {X : Cx} {K : PySem.W.Frag} {mg : Str → Option Value}
/-- a list or tuple of fewer than 64 ints -/
def Few (K : PySem.W.Frag) (H : Hp) (x : V) (ns : List Int) : Prop := ∃ a, x = .ref a ∧ (SqL K H a (ns.map V.int) ∨ SqT K H a (ns.map V.int)) ∧ ns.length < 64
/-- set(x), the set itself not tracked -/
theorem set_made {pins : List (Addr × Obj)} {s : Shared} {σ : St} {H : Hp} {x : V} {u : Value} {ns : List Int} {Q : Value → Shared → Prop} {E : Value → Shared → Prop} (hc : X.calm = true) (I : Inv X pins σ H s) (r : RelV x u) (f : Few X.K H x ns)
    (h : ∀ a s' m, Inv X pins σ H s' → SetR X.w s'.heap a (fun j => decide (j ∈ ns)) m → m ≤ ns.length → Q (.ref a) s') : wpAny (model X.prog X.w) X.A (call (.type "set") [u]) Q E s := by
  obtain ⟨a, rfl, hs, hl⟩ := f
  cases r
  have sb : ns.length + 1 < scanBound := by unfold scanBound; omega
  rcases hs with hs | hs
  · obtain ⟨its, rv, hp, _⟩ := I.list hs
    exact set_call_list ns (I.ok.hd hc) hp.isList rv.ints sb fun h' tk m hS hm hk => h _ _ m (I.kept hk) hS hm
  · obtain ⟨its, rv, ht, _⟩ := I.tuple hs
    exact call_set_tupI ns (I.ok.hd hc) ht rv.ints sb fun h' tk m hS hm hk => h _ _ m (I.kept hk) hS hm
theorem set_size {w : World} {h : Heap} {a : Addr} {ns : List Int} {m : Nat} (R : SetR w h a (fun j => decide (j ∈ ns)) m) : m = (dedup ns).length := by
  obtain ⟨o, es, ep, t, _, _, _, _, nd, hm, _, _, hn, _⟩ := R
  have q : (es.toList.map keyOf).Perm (dedup ns) := (List.perm_ext_iff_of_nodup nd (dedup_nodup ns)).mpr fun k => by
    rw [← hm, dedup_mem]
    exact decide_eq_true_iff
  rw [← q.length_eq, List.length_map, Array.length_toList, hn]
variable {a : Expr} {ta : TE} {p p2 q pos : Pos}
def tLenS (K : PySem.W.Frag) (ta : TE) : TE := fun σ H Q => ta σ H fun x H1 => ∃ ns, Few K H1 x ns ∧ Q (.int (dedup ns).length) H1
def tSortS (K : PySem.W.Frag) (ta : TE) : TE := fun σ H Q => ta σ H fun x H1 => ∃ ns, Few K H1 x ns ∧ ∀ l, H1 l = none → Q (.ref l) (upd H1 l (.lst ((sortI (dedup ns)).map V.int)))
theorem pe_lenS (hc : X.calm = true) (hg : Gl X "len") (hm : X.mg "len" = none) (hg2 : Gl X "set") (hm2 : X.mg "set" = none) (ha : PE X a ta) (g : good a = true) :
    PE X (.Call (.Name "len" p) [.Call (.Name "set" p2) [a] [] q] [] pos) (tLenS X.K ta) := by
  refine ⟨fun pins s σ H Q I h => ?_⟩
  refine Call_ (ld_blt I hg hm boot_len (PyProof.Rows.callWith_builtin1 (PyProof.Rows.args_cons (Call_ (ld_blt I hg2 hm2 boot_set ?_)) rfl) rfl rfl))
  refine PyProof.Rows.callWith_type1 (PyProof.Rows.args_cons (thn (ha.run pins s σ H _ I h) fun v s1 ⟨x, H1, I1, r1, ns, f, q1⟩ => PyProof.Rows.args_nil ?_) (star_ok g)) (star_ok g) rfl
  refine set_made hc I1 r1 f fun b s2 m I2 hS hm => PyProof.Rows.args_nil ?_
  have em := set_size hS
  obtain ⟨o, es, ep, t, ho, hex, hd, _, _, _, hb, hf, hn, _⟩ := hS
  obtain ⟨_, _, _, hl⟩ := f
  exact call_len_set ho hex hd hf (by omega) ⟨.int _, H1, I2.tok _, ⟨_, by rw [hn, em]⟩, q1⟩
theorem pe_sortS (hc : X.calm = true) (hg : Gl X "sorted") (hm : X.mg "sorted" = none) (hg2 : Gl X "set") (hm2 : X.mg "set" = none) (ha : PE X a ta) (g : good a = true) :
    PE X (.Call (.Name "sorted" p) [.Call (.Name "set" p2) [a] [] q] [] pos) (tSortS X.K ta) := by
  refine ⟨fun pins s σ H Q I h => ?_⟩
  refine Call_ (ld_blt I hg hm boot_sorted (PyProof.Rows.callWith_builtin1 (PyProof.Rows.args_cons (Call_ (ld_blt I hg2 hm2 boot_set ?_)) rfl) rfl rfl))
  refine PyProof.Rows.callWith_type1 (PyProof.Rows.args_cons (thn (ha.run pins s σ H _ I h) fun v s1 ⟨x, H1, I1, r1, ns, f, q1⟩ => PyProof.Rows.args_nil ?_) (star_ok g)) (star_ok g) rfl
  refine set_made hc I1 r1 f fun b s2 m I2 hS hm => PyProof.Rows.args_nil ?_
  obtain ⟨_, _, _, hl⟩ := f
  refine sorted_set hS (I2.ok.hd hc) (by omega) fun s3 l out c ms k eg eo hp hgt hi hs hmem hlen => ?_
  have e1 : ms = sortI (dedup ns) := sset_unique hs fun z => by rw [hmem]; exact decide_eq_true_iff
  have fr : H1 l = none := I2.hok.fresh hp
  have zl : (ms.map V.int).length ≤ sizeLine := by rw [List.length_map, hlen]; exact small64 (by omega)
  have J : Inv X pins σ (upd H1 l (.lst (ms.map V.int))) s3 := I2.call' (ch := []) eo (Un.laid k hp fr) (I2.hok.laid k hp ⟨zl, out.toList, c, vals_of_ints hi, hgt⟩) (by rw [eg]; exact I2.bare) (fun _ z => nomatch z)
  refine ⟨.ref l, _, J, rfl, ?_⟩
  rw [e1]
  exact q1 l fr
end
/-! sets of tuples of ints -/
def FewT (K : PySem.W.Frag) (H : Hp) (x : V) (ks : List (Addr × List Int)) : Prop := ∃ a, x = .ref a ∧ SqL K H a (ks.map fun p => V.ref p.1) ∧ (∀ p ∈ ks, SqT K H p.1 (p.2.map V.int)) ∧ ks.length < 64
section
variable {X : Cx} {K : PySem.W.Frag} {mg : Str → Option Value} {a : Expr} {ta : TE} {p p2 q pos : Pos}
def tLenS2 (K : PySem.W.Frag) (ta : TE) : TE := fun σ H Q => ta σ H fun x H1 => (∃ ns, Few K H1 x ns ∧ Q (.int (dedup ns).length) H1) ∨ ∃ ks, FewT K H1 x ks ∧ Q (.int (dedup (ks.map (·.2))).length) H1
theorem got_len {ks L : List (Addr × List Int)} (g : Got ks ks.length L) (nd : (L.map (·.2)).Nodup) : L.length = (dedup (ks.map (·.2))).length := by
  have q : (L.map (·.2)).Perm (dedup (ks.map (·.2))) := (List.perm_ext_iff_of_nodup nd (dedup_nodup _)).mpr fun k => by
    rw [dedup_mem]
    constructor
    · intro h
      obtain ⟨p, hp, rfl⟩ := List.mem_map.mp h
      exact List.mem_map.mpr ⟨p, List.mem_of_mem_take (g.sub p hp), rfl⟩
    · intro h
      obtain ⟨p, hp, rfl⟩ := List.mem_map.mp h
      exact g.all p (by rw [List.take_length]; exact hp)
  rw [← q.length_eq, List.length_map]
/-- set(list of tuples), the set itself not tracked -/
theorem set_madeT {pins : List (Addr × Obj)} {s : Shared} {σ : St} {H : Hp} {x : V} {u : Value} {ks : List (Addr × List Int)} {Q : Value → Shared → Prop} {E : Value → Shared → Prop} (hc : X.calm = true) (hu : X.A.units + 3 < cLine) (I : Inv X pins σ H s) (r : RelV x u) (f : FewT X.K H x ks)
    (h : ∀ a s' L es ep t, Inv X pins σ H s' → SetTR X.prog X.w s'.heap a L es ep t → Got ks ks.length L → Q (.ref a) s') : wpAny (model X.prog X.w) X.A (call (.type "set") [u]) Q E s := by
  obtain ⟨a, rfl, hs, ht, hl⟩ := f
  cases r
  obtain ⟨its, rv, pl, hz⟩ := I.list hs
  exact call_set_tups (P := X.prog) (w := X.w) ks (I.ok.hd hc) pl.isList (by simpa using refs_of_vals rv) (fun p hp => I.isT (ht p hp)) hl hu fun h' tk L es ep t R g k => h _ _ L es ep t (I.kept k) R g
theorem pe_lenS2 (hc : X.calm = true) (hu : X.A.units + 3 < cLine) (hg : Gl X "len") (hm : X.mg "len" = none) (hg2 : Gl X "set") (hm2 : X.mg "set" = none) (ha : PE X a ta) (g : good a = true) :
    PE X (.Call (.Name "len" p) [.Call (.Name "set" p2) [a] [] q] [] pos) (tLenS2 X.K ta) := by
  refine ⟨fun pins s σ H Q I h => ?_⟩
  refine Call_ (ld_blt I hg hm boot_len (PyProof.Rows.callWith_builtin1 (PyProof.Rows.args_cons (Call_ (ld_blt I hg2 hm2 boot_set ?_)) rfl) rfl rfl))
  refine PyProof.Rows.callWith_type1 (PyProof.Rows.args_cons (thn (ha.run pins s σ H _ I h) fun v s1 ⟨x, H1, I1, r1, z⟩ => PyProof.Rows.args_nil ?_) (star_ok g)) (star_ok g) rfl
  rcases z with ⟨ns, f, q1⟩ | ⟨ks, f, q1⟩
  · refine set_made hc I1 r1 f fun b s2 m I2 hS hm => PyProof.Rows.args_nil ?_
    have em := set_size hS
    obtain ⟨o, es, ep, t, ho, hex, hd, _, _, _, hb, hf, hn, _⟩ := hS
    obtain ⟨_, _, _, hl⟩ := f
    exact call_len_set ho hex hd hf (by omega) ⟨.int _, H1, I2.tok _, ⟨_, by rw [hn, em]⟩, q1⟩
  · refine set_madeT hc hu I1 r1 f fun b s2 L es ep t I2 R g => PyProof.Rows.args_nil ?_
    obtain ⟨o, ho, hex, hd⟩ := R.ob
    have ez := R.size
    have fw := R.few
    exact call_len_set ho hex hd R.fits (by omega) ⟨.int _, H1, I2.tok _, ⟨_, by rw [ez, got_len g R.nd]⟩, q1⟩
/-! the order of tuples of one length, by their codes -/
theorem code_lt {B : Int} (hB : 1 ≤ B) : ∀ {ns ms : List Int}, ns.length = ms.length → TS.Bd B ns → TS.Bd B ms → HT.lexLt ns ms = true → TS.code B ns < TS.code B ms
  | [], [], _, _, _, h => by simp [HT.lexLt] at h
  | [], _ :: _, l, _, _, _ => by simp at l
  | _ :: _, [], l, _, _, _ => by simp at l
  | x :: ns, y :: ms, l, b1, b2, h => by
    have l' : ns.length = ms.length := by simpa using l
    rw [HT.lexLt_cons] at h
    simp only [TS.code, l']
    by_cases e : x = y
    · rw [if_pos e] at h
      have := code_lt hB l' b1.tail b2.tail h
      rw [e]
      omega
    · rw [if_neg e] at h
      have c1 := code_bd hB b1.tail
      have c2 := code_bd hB b2.tail
      rw [l'] at c1
      exact TS.num2 c1.1 c1.2 c2.1 (of_decide_eq_true h)
where
  code_bd {B : Int} (hB : 1 ≤ B) : ∀ {ns : List Int}, TS.Bd B ns → 0 ≤ TS.code B ns ∧ TS.code B ns < B ^ ns.length
    | [], _ => ⟨Int.le_refl _, by simp [TS.code]⟩
    | x :: ns, b => by
      have ih := code_bd hB b.tail
      have hx := b.head
      have := TS.num1 (P := B ^ ns.length) (d := x) (B := B) ih.1 ih.2 hx.1 hx.2
      simp only [TS.code, List.length_cons, Int.pow_succ]
      exact this
theorem lex_tri : ∀ {ns ms : List Int}, ns.length = ms.length → ns ≠ ms → HT.lexLt ns ms = true ∨ HT.lexLt ms ns = true
  | [], [], _, h => absurd rfl h
  | [], _ :: _, l, _ => by simp at l
  | _ :: _, [], l, _ => by simp at l
  | x :: ns, y :: ms, l, h => by
    rw [HT.lexLt_cons, HT.lexLt_cons]
    by_cases e : x = y
    · rw [if_pos e, if_pos e.symm]
      exact lex_tri (by simpa using l) fun z => h (by rw [e, z])
    · rw [if_neg e, if_neg (Ne.symm e)]
      by_cases q : x < y
      · exact .inl (decide_eq_true q)
      · exact .inr (decide_eq_true (by omega))
theorem lex_trans : ∀ {a b c : List Int}, HT.lexLt a b = true → HT.lexLt b c = true → HT.lexLt a c = true
  | [], [], _, h, _ => by simp [HT.lexLt] at h
  | _ :: _, [], _, h, _ => by simp [HT.lexLt] at h
  | [], _ :: _, [], _, h => by simp [HT.lexLt] at h
  | [], _ :: _, _ :: _, _, _ => rfl
  | _ :: _, _ :: _, [], _, h => by simp [HT.lexLt] at h
  | x :: a, y :: b, z :: c, h1, h2 => by
    rw [HT.lexLt_cons] at h1 h2 ⊢
    by_cases e1 : x = y
    · rw [if_pos e1] at h1
      by_cases e2 : y = z
      · rw [if_pos e2] at h2
        rw [if_pos (e1.trans e2)]
        exact lex_trans h1 h2
      · rw [if_neg e2] at h2
        rw [if_neg (by omega)]
        have := of_decide_eq_true h2
        exact decide_eq_true (by omega)
    · rw [if_neg e1] at h1
      have := of_decide_eq_true h1
      by_cases e2 : y = z
      · rw [if_neg (by omega)]
        exact decide_eq_true (by omega)
      · rw [if_neg e2] at h2
        have := of_decide_eq_true h2
        rw [if_neg (by omega)]
        exact decide_eq_true (by omega)
theorem lex_irr : ∀ (a : List Int), HT.lexLt a a = false
  | [] => rfl
  | x :: a => by rw [HT.lexLt_cons, if_pos rfl]; exact lex_irr a
theorem insT_perm (x : List Int) : ∀ l, (insT x l).Perm (x :: l)
  | [] => .refl _
  | y :: r => by
    unfold insT
    split
    · exact (List.Perm.cons y (insT_perm x r)).trans (.swap x y r)
    · exact .refl _
theorem sortT_perm : ∀ l, (sortT l).Perm l
  | [] => .refl _
  | x :: r => (insT_perm x (sortT r)).trans ((sortT_perm r).cons x)
abbrev LexP (l : List (List Int)) : Prop := l.Pairwise fun a b => HT.lexLt a b = true
theorem insT_lt {x : List Int} : ∀ {l : List (List Int)}, LexP l → (∀ y ∈ l, y.length = x.length) → x ∉ l → LexP (insT x l)
  | [], _, _, _ => List.pairwise_singleton _ _
  | y :: r, h, hl, hn => by
    unfold insT
    have h' := List.pairwise_cons.mp h
    split
    · rename_i q
      refine List.pairwise_cons.mpr ⟨fun z hz => ?_, insT_lt h'.2 (fun z hz => hl z (List.mem_cons_of_mem _ hz)) fun z => hn (List.mem_cons_of_mem _ z)⟩
      rcases List.mem_cons.mp ((insT_perm x r).mem_iff.mp hz) with e | e
      · rw [e]; exact q
      · exact h'.1 z e
    · rename_i q
      have xy : HT.lexLt x y = true := by
        rcases lex_tri (hl y List.mem_cons_self) (fun e => hn (e ▸ List.mem_cons_self)) with z | z
        · exact absurd z q
        · exact z
      refine List.pairwise_cons.mpr ⟨fun z hz => ?_, h⟩
      rcases List.mem_cons.mp hz with e | e
      · rw [e]; exact xy
      · exact lex_trans xy (h'.1 z e)
theorem sortT_lt {d : Nat} : ∀ {l : List (List Int)}, l.Nodup → (∀ y ∈ l, y.length = d) → LexP (sortT l)
  | [], _, _ => List.Pairwise.nil
  | x :: r, nd, hl => by
    have nd' := List.nodup_cons.mp nd
    refine insT_lt (sortT_lt nd'.2 fun y hy => hl y (List.mem_cons_of_mem _ hy)) (fun y hy => ?_) fun z => nd'.1 ((sortT_perm r).mem_iff.mp z)
    rw [hl y (List.mem_cons_of_mem _ ((sortT_perm r).mem_iff.mp hy)), hl x List.mem_cons_self]
theorem lex_unique : ∀ {l m : List (List Int)}, LexP l → LexP m → l.Perm m → l = m
  | [], m, _, _, p => (List.Perm.eq_nil p.symm).symm
  | x :: l, [], _, _, p => nomatch (List.Perm.eq_nil p)
  | x :: l, y :: m, hl, hm, p => by
    have hl' := List.pairwise_cons.mp hl
    have hm' := List.pairwise_cons.mp hm
    have e : x = y := by
      apply Classical.byContradiction
      intro ne
      have a : x ∈ m := (List.mem_cons.mp (p.mem_iff.mp List.mem_cons_self)).resolve_left ne
      have b : y ∈ l := (List.mem_cons.mp (p.mem_iff.mpr List.mem_cons_self)).resolve_left (Ne.symm ne)
      have := lex_trans (hl'.1 y b) (hm'.1 x a)
      rw [lex_irr] at this
      cases this
    subst e
    rw [lex_unique hl'.2 hm'.2 (List.Perm.cons_inv p)]
def tSortS2 (K : PySem.W.Frag) (ta : TE) : TE := fun σ H Q => ta σ H fun x H1 => (∃ ns, Few K H1 x ns ∧ ∀ l, H1 l = none → Q (.ref l) (upd H1 l (.lst ((sortI (dedup ns)).map V.int)))) ∨
  ∃ ks, FewT K H1 x ks ∧ okTs (ks.map (·.2)) = true ∧ ∀ (L' : List (Addr × List Int)) l, (∀ p ∈ L', p ∈ ks) → L'.map (·.2) = sortT (dedup (ks.map (·.2))) → H1 l = none → Q (.ref l) (upd H1 l (.lst (L'.map fun p => V.ref p.1)))
theorem le_all {ns : List Int} : ∀ {m : Int}, m ∈ ns → m ≤ ns.foldl max 0 := by
  have key : ∀ (l : List Int) (x : Int), x ≤ l.foldl max x ∧ ∀ y ∈ l, y ≤ l.foldl max x := by
    intro l
    induction l with
    | nil => intro x; exact ⟨Int.le_refl _, fun y hy => nomatch hy⟩
    | cons a l ih =>
      intro x
      rw [List.foldl_cons]
      obtain ⟨h1, h2⟩ := ih (max x a)
      refine ⟨Int.le_trans (Int.le_max_left x a) h1, fun y hy => ?_⟩
      rcases List.mem_cons.mp hy with e | e
      · rw [e]; exact Int.le_trans (Int.le_max_right x a) h1
      · exact h2 y e
  intro m hm
  exact (key ns 0).2 m hm
theorem pe_sortS2 (hc : X.calm = true) (hu : X.A.units + 3 < cLine) (hg : Gl X "sorted") (hm : X.mg "sorted" = none) (hg2 : Gl X "set") (hm2 : X.mg "set" = none) (ha : PE X a ta) (g : good a = true) :
    PE X (.Call (.Name "sorted" p) [.Call (.Name "set" p2) [a] [] q] [] pos) (tSortS2 X.K ta) := by
  refine ⟨fun pins s σ H Q I h => ?_⟩
  refine Call_ (ld_blt I hg hm boot_sorted (PyProof.Rows.callWith_builtin1 (PyProof.Rows.args_cons (Call_ (ld_blt I hg2 hm2 boot_set ?_)) rfl) rfl rfl))
  refine PyProof.Rows.callWith_type1 (PyProof.Rows.args_cons (thn (ha.run pins s σ H _ I h) fun v s1 ⟨x, H1, I1, r1, z⟩ => PyProof.Rows.args_nil ?_) (star_ok g)) (star_ok g) rfl
  rcases z with ⟨ns, f, q1⟩ | ⟨ks, f, hok, q1⟩
  · refine set_made hc I1 r1 f fun b s2 m I2 hS hm => PyProof.Rows.args_nil ?_
    obtain ⟨_, _, _, hl⟩ := f
    refine sorted_set hS (I2.ok.hd hc) (by omega) fun s3 l out c ms k eg eo hp hgt hi hs hmem hlen => ?_
    have e1 : ms = sortI (dedup ns) := sset_unique hs fun z => by rw [hmem]; exact decide_eq_true_iff
    have fr : H1 l = none := I2.hok.fresh hp
    have zl : (ms.map V.int).length ≤ sizeLine := by rw [List.length_map, hlen]; exact small64 (by omega)
    have J : Inv X pins σ (upd H1 l (.lst (ms.map V.int))) s3 := I2.call' (ch := []) eo (Un.laid k hp fr) (I2.hok.laid k hp ⟨zl, out.toList, c, vals_of_ints hi, hgt⟩) (by rw [eg]; exact I2.bare) (fun _ z => nomatch z)
    refine ⟨.ref l, _, J, rfl, ?_⟩
    rw [e1]
    exact q1 l fr
  · refine set_madeT hc hu I1 r1 f fun b s2 L es ep t I2 R g => PyProof.Rows.args_nil ?_
    have hok' : ∀ r ∈ ks.map (·.2), r.length = ((ks.map (·.2)).headD []).length ∧ 1 ≤ r.length ∧ ∀ i ∈ r, 0 ≤ i := by
      intro r hr
      unfold okTs at hok
      have := List.all_eq_true.mp hok r hr
      simp only [Bool.and_eq_true, decide_eq_true_eq, List.all_eq_true] at this
      exact ⟨this.1.1, this.1.2, this.2⟩
    generalize hd : ((ks.map (·.2)).headD []).length = d at hok'
    generalize hB : (ks.map (·.2)).flatten.foldl max 0 + 1 = B
    have sub : ∀ p ∈ L, p ∈ ks := fun p hp => List.mem_of_mem_take (g.sub p hp)
    have bd : ∀ p ∈ ks, p.2.length = d ∧ TS.Bd B p.2 := fun p hp => by
      have hr : p.2 ∈ ks.map (·.2) := List.mem_map.mpr ⟨p, hp, rfl⟩
      obtain ⟨h1, h2, h3⟩ := hok' p.2 hr
      refine ⟨h1, fun m hm => ⟨h3 m hm, ?_⟩⟩
      have := le_all (List.mem_flatten.mpr ⟨p.2, hr, hm⟩)
      omega
    by_cases hne : ks = []
    · -- nothing
      subst hne
      have e0 : L = [] := by
        cases L with
        | nil => rfl
        | cons p _ => exact nomatch (sub p List.mem_cons_self)
      refine sorted_setT R (I2.ok.hd hc) (d := 1) (B := B) (Nat.le_refl _) (fun p hp => by rw [e0] at hp; exact nomatch hp) fun s3 l out c L' k eg eo hp hgt ho pm pw => ?_
      rw [e0] at pm
      have e1 : L' = [] := pm.eq_nil
      subst e1
      have fr : H1 l = none := I2.hok.fresh hp
      have J : Inv X pins σ (upd H1 l (.lst [])) s3 := I2.call' (ch := []) eo (Un.laid k hp fr) (I2.hok.laid k hp ⟨Nat.zero_le _, out.toList, c, by rw [ho]; exact .nil, hgt⟩) (by rw [eg]; exact I2.bare) (fun _ z => nomatch z)
      exact ⟨.ref l, _, J, rfl, q1 [] l (fun p hp => nomatch hp) rfl fr⟩
    · obtain ⟨p0, hp0⟩ := List.exists_mem_of_ne_nil ks hne
      have hd1 : 1 ≤ d := by
        have := (hok' p0.2 (List.mem_map.mpr ⟨p0, hp0, rfl⟩))
        omega
      have hB1 : 1 ≤ B := by
        have key : ∀ (l : List Int), (0 : Int) ≤ l.foldl max 0 := by
          intro l
          have : ∀ (l : List Int) (x : Int), x ≤ l.foldl max x := by
            intro l
            induction l with
            | nil => intro x; exact Int.le_refl _
            | cons a l ih => intro x; rw [List.foldl_cons]; exact Int.le_trans (Int.le_max_left x a) (ih _)
          exact this l 0
        have := key (ks.map (·.2)).flatten
        omega
      refine sorted_setT R (I2.ok.hd hc) (d := d) (B := B) hd1 (fun p hp => bd p (sub p hp)) fun s3 l out c L' k eg eo hp hgt ho pm pw => ?_
      have nd' : (L'.map (·.2)).Nodup := ((pm.map (·.2)).nodup_iff.mpr R.nd)
      have len : ∀ y ∈ L'.map (·.2), y.length = d ∧ TS.Bd B y := fun y hy => by
        obtain ⟨p, hp, rfl⟩ := List.mem_map.mp hy
        exact bd p (sub p (pm.mem_iff.mp hp))
      have lx : LexP (L'.map (·.2)) := by
        have pw2 : (L'.map (·.2)).Pairwise fun a b => TS.code B a ≤ TS.code B b := by rw [List.pairwise_map]; exact pw
        have both := pw2.and nd'
        refine List.Pairwise.imp_of_mem (fun {x y} hx hy h => ?_) both
        rcases lex_tri ((len x hx).1.trans (len y hy).1.symm) h.2 with z | z
        · exact z
        · have := code_lt hB1 ((len y hy).1.trans (len x hx).1.symm) (len y hy).2 (len x hx).2 z
          have := h.1
          omega
      have q : (L.map (·.2)).Perm (dedup (ks.map (·.2))) := (List.perm_ext_iff_of_nodup R.nd (dedup_nodup _)).mpr fun k => by
        rw [dedup_mem]
        constructor
        · intro h
          obtain ⟨p, hp, rfl⟩ := List.mem_map.mp h
          exact List.mem_map.mpr ⟨p, sub p hp, rfl⟩
        · intro h
          obtain ⟨p, hp, rfl⟩ := List.mem_map.mp h
          exact g.all p (by rw [List.take_length]; exact hp)
      have e1 : L'.map (·.2) = sortT (dedup (ks.map (·.2))) := lex_unique lx (sortT_lt (d := d) (dedup_nodup _) fun y hy => by
        obtain ⟨p, hp, rfl⟩ := List.mem_map.mp ((dedup_mem).mp hy)
        exact (bd p hp).1) (((pm.map (·.2)).trans q).trans (sortT_perm _).symm)
      have fr : H1 l = none := I2.hok.fresh hp
      have zl : (L'.map fun q => V.ref q.1).length ≤ sizeLine := by rw [List.length_map, pm.length_eq]; exact small64 R.few
      have hv : Vals (L'.map fun q => V.ref q.1) out.toList := by rw [ho]; exact vals_of_refs L'
      have J : Inv X pins σ (upd H1 l (.lst (L'.map fun q => V.ref q.1))) s3 := I2.call' (ch := []) eo (Un.laid k hp fr) (I2.hok.laid k hp ⟨zl, out.toList, c, hv, hgt⟩) (by rw [eg]; exact I2.bare) (fun _ z => nomatch z)
      exact ⟨.ref l, _, J, rfl, q1 L' l (fun p hp => sub p (pm.mem_iff.mp hp)) e1 fr⟩
end
/-! data that are tuples of ints -/
theorem tupsOf_eq : ∀ {xs : List D} {rows : List (List Int)}, tupsOf xs = some rows → xs = rows.map tupI
  | [], _, h => by cases h; rfl
  | .tup ys :: r, rows, h => by
    simp only [tupsOf] at h
    split at h
    · rename_i n ns h1 h2
      cases h
      rw [intsOf_eq h1, tupsOf_eq h2]
      rfl
    · cases h
  | .non :: _, _, h => by cases h
  | .bl _ :: _, _, h => by cases h
  | .int _ :: _, _, h => by cases h
  | .str _ :: _, _, h => by cases h
  | .lst _ :: _, _, h => by cases h
  | .dK _ _ :: _, _, h => by cases h
  | .dT _ _ :: _, _, h => by cases h
  | .fn _ :: _, _, h => by cases h
  | .scr _ :: _, _, h => by cases h
theorem tupsIn_eq {d : D} {rows : List (List Int)} (h : tupsIn d = some rows) : d = .lst (rows.map tupI) := by
  unfold tupsIn at h
  split at h
  · rw [tupsOf_eq h]
  · cases h
theorem rep_tups {K : PySem.W.Frag} {mg : Str → Option Value} {S : Hp} : ∀ {rows : List (List Int)} {vs : List V}, RepL K mg S vs (rows.map tupI) → ∃ ks : List (Addr × List Int), vs = ks.map (fun p => V.ref p.1) ∧ ks.map (·.2) = rows ∧ ∀ p ∈ ks, SqT K S p.1 (p.2.map V.int) ∧ Rep K mg S (.ref p.1) (tupI p.2)
  | [], _, .nil => ⟨[], rfl, rfl, fun p hp => nomatch hp⟩
  | r :: rows, _, .cons h t => by
    obtain ⟨ks, e1, e2, e3⟩ := rep_tups t
    have h0 := h
    cases h with
    | tup hs hz rl =>
      rename_i a vs
      have e := rl.ints
      subst e
      refine ⟨(a, r) :: ks, by rw [e1]; rfl, by rw [List.map_cons, e2], fun p hp => ?_⟩
      rcases List.mem_cons.mp hp with e | e
      · rw [e]; exact ⟨hs, h0⟩
      · exact e3 p e
section
variable {N fs : List Str} {T : List (Addr × Str)} {Φ : Str → List D → R D} {C : Str → Option D} {n : Nat} {lm : Bool} {W : WX} {sc : Scope} {X : Cx} (c : Cxt N fs T Φ C n lm W sc X) {pos p p2 q : Pos}
theorem few_of {K : PySem.W.Frag} {mg : Str → Option Value} {S H : Hp} {v : V} {d : D} {ns : List Int} (sb : Sub S H) (h : RH K mg S H v d) (hd : d = .lst (ns.map .int) ∨ d = .tup (ns.map .int)) (hl : ns.length < 64) : Few K H v ns := by
  rcases hd with rfl | rfl
  · obtain ⟨a, rfl, h1, _⟩ := h.ints
    exact ⟨a, rfl, .inl (.inl (.inl h1)), hl⟩
  · obtain ⟨a, rfl, h1⟩ := h.intsT sb
    exact ⟨a, rfl, .inr h1, hl⟩
include c
theorem snd_lset {a : CE} {x : Expr} {f g : Str} (hf : f = "len") (hg : g = "set") (gf : isGlB sc f = true) (gg : isGlB sc g = true) (go : good x = true) (ih : PE X x (tBr X.K X.mg T W fun ρ => brw a ρ (evE Φ C a ρ))) :
    PE X (.Call (.Name f p) [.Call (.Name g p2) [x] [] q] [] pos) (tE X.K X.mg T W (evE Φ C (.lset a))) := by
  subst hf hg
  refine PE_imp (pe_lenS2 c.calm (by have := c.room.un; omega) (c.gl_ok gf).1 (c.nb _ (by decide +kernel)) (c.gl_ok gg).1 (c.nb _ (by decide +kernel)) ih go) ?_
  rintro σ H Q ⟨F, S, ρ, E, p⟩
  simp only [evE] at p
  refine seqB (P := fun S r => PostE X.K X.mg T W F S σ ρ r Q) E (fun _ _ h => h) (fun _ h => h) p fun d v S1 H1 q1 e1 E1 r1 p1 => ?_
  unfold lsetD at p1
  cases tn : tupsIn d with
  | some rows =>
    rw [tn] at p1
    have e := tupsIn_eq tn
    subst e
    simp only at p1
    split at p1
    · rename_i hl
      obtain ⟨b, vs, rfl, h1, _, rl⟩ := (E1.rh r1)
      obtain ⟨ks, e1', e2', e3'⟩ := rep_tups rl
      refine .inr ⟨ks, ⟨b, rfl, .inl (.inl (by rw [← e1']; exact h1)), fun p hp => E1.sub.ext.sqT (e3' p hp).1, by rw [← List.length_map (f := (·.2)), e2']; exact hl⟩, ?_⟩
      rw [e2']
      exact p1 _ _ _ e1 E1 (.int _)
    · exact p1.elim
  | none =>
  rw [tn] at p1
  simp only at p1
  cases e : onInts d fun ns => if ns.length < 64 then R.ok (D.int (dedup ns).length) else .bad with
  | bad => rw [e] at p1; exact p1.elim
  | exc y =>
    obtain ⟨ns, z⟩ := noX_onInts e
    split at z <;> cases z
  | ok z =>
    obtain ⟨ns, hz, hd⟩ := onInts_ok e
    split at hz <;> cases hz
    rename_i hl
    rw [e] at p1
    exact .inl ⟨ns, few_of E1.sub (E1.rh r1) hd hl, p1 _ _ _ e1 E1 (.int _)⟩
theorem snd_sset {a : CE} {x : Expr} {f g : Str} (hf : f = "sorted") (hg : g = "set") (gf : isGlB sc f = true) (gg : isGlB sc g = true) (go : good x = true) (ih : PE X x (tBr X.K X.mg T W fun ρ => brw a ρ (evE Φ C a ρ))) :
    PE X (.Call (.Name f p) [.Call (.Name g p2) [x] [] q] [] pos) (tE X.K X.mg T W (evE Φ C (.sset a))) := by
  subst hf hg
  refine PE_imp (pe_sortS2 c.calm (by have := c.room.un; omega) (c.gl_ok gf).1 (c.nb _ (by decide +kernel)) (c.gl_ok gg).1 (c.nb _ (by decide +kernel)) ih go) ?_
  rintro σ H Q ⟨F, S, ρ, E, p⟩
  simp only [evE] at p
  refine seqB (P := fun S r => PostE X.K X.mg T W F S σ ρ r Q) E (fun _ _ h => h) (fun _ h => h) p fun d v S1 H1 q1 e1 E1 r1 p1 => ?_
  unfold ssetD at p1
  cases tn : tupsIn d with
  | some rows =>
    rw [tn] at p1
    have e := tupsIn_eq tn
    subst e
    simp only at p1
    split at p1
    · rename_i hl
      obtain ⟨b, vs, rfl, h1, _, rl⟩ := (E1.rh r1)
      obtain ⟨ks, e1', e2', e3'⟩ := rep_tups rl
      refine .inr ⟨ks, ⟨b, rfl, .inl (.inl (by rw [← e1']; exact h1)), fun p hp => E1.sub.ext.sqT (e3' p hp).1, by rw [← List.length_map (f := (·.2)), e2']; exact hl.1⟩, by rw [e2']; exact hl.2, fun L' l hL he hn => ?_⟩
      rw [e2'] at he
      have rl' : RepL X.K X.mg S1 (L'.map fun p => V.ref p.1) ((sortT (dedup rows)).map tupI) := by
        rw [← he, List.map_map]
        clear he hn
        induction L' with
        | nil => exact .nil
        | cons p L' ih => exact .cons (e3' p (hL p List.mem_cons_self)).2 (ih fun q hq => hL q (List.mem_cons_of_mem _ hq))
      have lz : (L'.map fun p => V.ref p.1).length < 64 := by
        have := congrArg List.length he
        rw [List.length_map, (sortT_perm _).length_eq] at this
        rw [List.length_map, this]
        exact Nat.lt_of_le_of_lt (dedup_length rows) hl.1
      obtain ⟨E2, e2, r2⟩ := E1.lst hn (small64 lz) rl'
      exact p1 _ _ _ (e1.trans e2) E2 r2
    · exact p1.elim
  | none =>
  rw [tn] at p1
  simp only at p1
  cases e : onInts d fun ns => if ns.length < 64 then R.ok (D.lst ((sortI (dedup ns)).map .int)) else .bad with
  | bad => rw [e] at p1; exact p1.elim
  | exc y =>
    obtain ⟨ns, z⟩ := noX_onInts e
    split at z <;> cases z
  | ok z =>
    obtain ⟨ns, hz, hd⟩ := onInts_ok e
    split at hz <;> cases hz
    rename_i hl
    rw [e] at p1
    refine .inl ⟨ns, few_of E1.sub (E1.rh r1) hd hl, fun l hn => ?_⟩
    obtain ⟨E2, e2, r2⟩ := E1.lst hn (by rw [List.length_map, (sortI_perm _).length_eq]; exact small64 (Nat.lt_of_le_of_lt (dedup_length ns) hl)) (RepL.ofInts (ns := sortI (dedup ns)))
    exact p1 _ _ _ (e1.trans e2) E2 r2
/-- calls -/
theorem snd_cal {f : Str} {a : CE} {r : CL} {e : Expr} {es : List Expr} (hf : f ∈ fs) (gf : isGlB sc f = true) (ge : good e = true) (gs : ∀ x ∈ es, good x = true) (ih : PA X (e :: es) (tA X.K X.mg T W (evL Φ C (.cons a r)))) :
    PE X (.Call (.Name f p) (e :: es) [] pos) (tE X.K X.mg T W (evE Φ C (.cal f (.cons a r)))) := by
  obtain ⟨h1, h2, h3⟩ := c.gl_ok gf
  obtain ⟨fa, fd, ps, hm, hk, hbind, hlen, F0⟩ := c.fns f hf
  refine PE_imp (pe_callS F0 c.room h1 hm hk hbind (fun σ => L2N.passAt c.tk σ) ih h2 (star_ok ge) (back_ok gs)) ?_
  rintro σ H Q ⟨F, S, ρ, E, p⟩
  simp only [evE] at p
  refine seqA (P := fun S r => PostE X.K X.mg T W F S σ ρ r Q) E (fun _ _ h => h) (fun _ h => h) p fun ds vs S1 H1 q1 e1 E1 r1 p1 => ?_
  have p2 := PostE.ext p1 e1
  refine ⟨?_, S1, ds, E1.sub, E1.tab, r1, ?_⟩
  · rw [r1.length]
    refine hlen ds fun z => ?_
    rw [z] at p2
    exact p2.elim
  · cases q : Φ f ds with
    | bad => rw [q] at p2; exact p2.elim
    | ok d =>
      rw [q] at p2
      intro v S' H' e' sb tb kp rv
      exact p2 v S' H' e' (E1.called e' sb tb kp) rv
    | exc x =>
      rw [q] at p2
      intro S' H' e' sb tb kp
      exact p2 S' H' e' (E1.called e' sb tb kp)
omit c in
theorem boot_bi (b : Bi) : bootBuiltins (biN b) = some (biV b) := by cases b <;> decide +kernel
theorem snd_bi {b : Bi} {x : Str} {a : CE} {r : CL} {e : Expr} {es : List Expr} (hx : biN b = x) (gf : isGlB sc x = true) (ge : good e = true) (gs : ∀ x ∈ es, good x = true) (ih : PA X (e :: es) (tAB X.K X.mg T W (evLB Φ C (.cons a r)))) :
    PE X (.Call (.Name x p) (e :: es) [] pos) (tE X.K X.mg T W (evE Φ C (.bi b (.cons a r)))) := by
  obtain ⟨h1, h2, h3⟩ := c.gl_ok gf
  have hm : X.mg x = none := c.nb x (by rw [← hx]; cases b <;> decide +kernel)
  have hv : bootBuiltins x = some (biV b) := by rw [← hx]; exact boot_bi b
  have cr := cr_bi c.room c.calm b
  have key : PE X (.Call (.Name x p) (e :: es) [] pos) (tCB (rBi X.K b) (tAB X.K X.mg T W (evLB Φ C (.cons a r)))) := by
    cases b <;> first
      | exact pe_callB cr h1 hm hv ih h3 h2 (star_ok ge) (back_ok gs)
      | exact pe_callTy cr h1 hm hv ih h3 h2 (star_ok ge) (back_ok gs)
  refine PE_imp key ?_
  rintro σ H Q ⟨F, S, ρ, E, p⟩
  simp only [evE] at p
  refine seqAB (P := fun S r => PostE X.K X.mg T W F S σ ρ r Q) E (fun _ _ h => h) (fun _ h => h) p fun ds vs S1 H1 q1 e1 E1 r1 p1 => ?_
  have p2 := PostE.ext p1 e1
  cases q : biD b ds with
  | bad => rw [q] at p2; exact p2.elim
  | exc x => exact absurd q (noX_bi b ds x)
  | ok z =>
    rw [q] at p2
    exact ca_bi b S1 H1 vs ds z Q E1.sub (r1.rhl E1) q (PostE.ends p2 E1)
omit c in
theorem tyIn {t : String} (h : ["int", "bool", "str", "list", "tuple", "dict"].contains t = true) : Str.ofString t ∈ blts ∧ bootBuiltins (Str.ofString t) = some (.type t) := by
  simp only [List.contains_cons, List.contains_nil, Bool.or_false, Bool.or_eq_true, beq_iff_eq] at h
  rcases h with rfl | rfl | rfl | rfl | rfl | rfl <;> exact ⟨by decide +kernel, by decide +kernel⟩
theorem snd_isi {a : CE} {t : String} {x : Expr} {f y : Str} (hf : f = "isinstance") (gf : isGlB sc f = true) (hy : y = Str.ofString t) (gy : isGlB sc y = true) (ht : ["int", "bool", "str", "list", "tuple", "dict"].contains t = true) (go : good x = true)
    (ih : PE X x (tBr X.K X.mg T W fun ρ => brw a ρ (evE Φ C a ρ))) : PE X (.Call (.Name f p) [x, .Name y p2] [] pos) (tE X.K X.mg T W (evE Φ C (.isi a t))) := by
  subst hf hy
  obtain ⟨h1, h2, h3⟩ := c.gl_ok gf
  obtain ⟨g1, g2, g3⟩ := c.gl_ok gy
  obtain ⟨t1, t2⟩ := tyIn ht
  have pt : PE X (.Name (Str.ofString t) p2) (tC (.ty t)) := pe_bltn g1 (c.nb _ t1) t2 rfl g3 g2
  refine PE_imp (pe_callB call_isi h1 (c.nb _ (by decide +kernel)) boot_isinstance (pa_cons ih (pa_cons pt pa_nil (star_ok rfl)) (star_ok go)) h3 h2 (star_ok go) (back_ok fun z hz => by rw [List.mem_singleton.mp hz]; rfl)) ?_
  rintro σ H Q ⟨F, S, ρ, E, p⟩
  simp only [evE] at p
  refine seqB (P := fun S r => PostE X.K X.mg T W F S σ ρ r Q) E (fun _ _ h => h) (fun _ h => h) p fun d v S1 H1 q1 e1 E1 r1 p1 => ?_
  have p2 := PostE.ext p1 e1
  cases q : isiD d t with
  | bad => rw [q] at p2; exact p2.elim
  | exc x => exact absurd q noX_isi
  | ok z =>
    rw [q] at p2
    exact isi_ok E1.sub (E1.rh r1) q (PostE.ends p2 E1)
omit c in
theorem rep_rng {K : PySem.W.Frag} {mg : Str → Option Value} {S : Hp} (a b : Int) : RepL K mg S (rgV a b) (rngI a b) := by
  unfold rgV rngI
  generalize List.range (b - a).toNat = l
  induction l with
  | nil => exact .nil
  | cons i l ih => exact .cons (.int _) ih
omit c in
theorem bnd_ok {i : Int} (h : bnd i = true) : -1000000 ≤ i ∧ i ≤ 1000000 := by
  unfold bnd at h
  simpa using h
theorem snd_lrng {a : CE} {x : Expr} {f g : Str} (hf : f = "list") (hg : g = "range") (gf : isGlB sc f = true) (gg : isGlB sc g = true) (go : good x = true) (ih : PE X x (tE X.K X.mg T W (evE Φ C a))) :
    PE X (.Call (.Name f p) [.Call (.Name g p2) [x] [] q] [] pos) (tE X.K X.mg T W (evE Φ C (.lrng a))) := by
  subst hf hg
  refine PE_imp (pe_listRg c.calm (c.gl_ok gf).1 (c.nb _ (by decide +kernel)) (prg_1 (c.gl_ok gg).1 (c.nb _ (by decide +kernel)) ih (star_ok go))) ?_
  rintro σ H Q ⟨F, S, ρ, E, p⟩
  simp only [evE] at p
  refine seqE (P := fun S r => PostE X.K X.mg T W F S σ ρ r Q) E (fun _ _ h => h) (fun _ h => h) p fun d v S1 H1 q1 e1 E1 r1 p1 => ?_
  cases d <;> simp only [lrngD] at p1 <;> try (exact p1.elim)
  rename_i i
  cases r1
  split at p1
  · rename_i hb
    obtain ⟨b1, b2⟩ := bnd_ok hb
    refine ⟨i, rfl, ⟨by decide, by decide, by omega, by omega, by omega⟩, fun l hl => ?_⟩
    obtain ⟨E2, e2, r2⟩ := E1.lst hl (by rw [rgV_length]; exact small6 (by omega)) (rep_rng 0 i)
    exact p1 _ _ _ (e1.trans e2) E2 r2
  · exact p1.elim
theorem snd_trng {a : CE} {x : Expr} {f g : Str} (hf : f = "tuple") (hg : g = "range") (gf : isGlB sc f = true) (gg : isGlB sc g = true) (go : good x = true) (ih : PE X x (tE X.K X.mg T W (evE Φ C a))) :
    PE X (.Call (.Name f p) [.Call (.Name g p2) [x] [] q] [] pos) (tE X.K X.mg T W (evE Φ C (.trng a))) := by
  subst hf hg
  refine PE_imp (pe_tupRg c.calm (c.gl_ok gf).1 (c.nb _ (by decide +kernel)) (prg_1 (c.gl_ok gg).1 (c.nb _ (by decide +kernel)) ih (star_ok go))) ?_
  rintro σ H Q ⟨F, S, ρ, E, p⟩
  simp only [evE] at p
  refine seqE (P := fun S r => PostE X.K X.mg T W F S σ ρ r Q) E (fun _ _ h => h) (fun _ h => h) p fun d v S1 H1 q1 e1 E1 r1 p1 => ?_
  cases d <;> simp only [lrngD] at p1 <;> try (exact p1.elim)
  rename_i i
  cases r1
  split at p1
  · rename_i hb
    obtain ⟨b1, b2⟩ := bnd_ok hb
    refine ⟨i, rfl, ⟨by decide, by decide, by omega, by omega, by omega⟩, fun l hl => ?_⟩
    obtain ⟨E2, e2, r2⟩ := E1.tup hl (by rw [rgV_length]; exact small6 (by omega)) (rep_rng 0 i)
    exact p1 _ _ _ (e1.trans e2) E2 r2
  · exact p1.elim
omit c in
theorem attr_ok {e : Expr} {f : Str} {env : PySem.Env} {w : Sem Value} (h : attrOk e = true) : attributeBase e f env w = w := by
  cases e <;> first | rfl | (simp [attrOk] at h)
theorem snd_mth {m : Mt} {o a : CE} {x y : Expr} {nm : Str} {ap cp : Pos} (hn : mtN m = nm) (hl : (ap.endLine == cp.line) = true) (ha : attrOk x = true) (gy : good y = true)
    (iho : PE X x (tBr X.K X.mg T W fun ρ => brw o ρ (evE Φ C o ρ))) (iha : PE X y (tBr X.K X.mg T W fun ρ => brw a ρ (evE Φ C a ρ))) : PE X (.Call (.Attribute x nm ap) [y] [] cp) (tE X.K X.mg T W (evE Φ C (.mth m o a))) := by
  have hu := c.room.un
  have pa : PA X [y] (tCons (tBr X.K X.mg T W fun ρ => brw a ρ (evE Φ C a ρ)) tNil) := pa_cons iha pa_nil (star_ok gy)
  have few : ((backTo cp (starEach [y] X.env)).all (fun x => !x.1) && (backToKw cp (keywordEach [] X.env)).all (fun x => x.1.isSome) && decide ([y].length + ([] : List Keyword).length + (if ([] : List Keyword).isEmpty then 0 else 1) < 30)) = true := by
    rw [star_ok gy]
    rfl
  have key : PE X (.Call (.Attribute x nm ap) [y] [] cp) (tBM X.K "list" (rMt X.K m) (tBr X.K X.mg T W fun ρ => brw o ρ (evE Φ C o ρ)) (tCons (tBr X.K X.mg T W fun ρ => brw a ρ (evE Φ C a ρ)) tNil)) := by
    subst hn
    cases m with
    | index => exact pe_bm PySem.F.plainAttrs_list PySem.F.slot_list_index PySem.F.type_list_index (mt_indexD (by omega)) iho pa (attr_ok ha) few hl (star_ok gy) rfl
    | count => exact pe_bm PySem.F.plainAttrs_list PySem.F.slot_list_count PySem.F.type_list_count mt_lcount iho pa (attr_ok ha) few hl (star_ok gy) rfl
  refine PE_imp key ?_
  rintro σ H Q ⟨F, S, ρ, E, p⟩
  simp only [evE] at p
  refine seqB (P := fun S r => PostE X.K X.mg T W F S σ ρ r Q) E (fun _ _ h => h) (fun _ h => h) p fun d v S1 H1 q1 e1 E1 r1 p1 => ?_
  split at p1
  · rename_i hl
    have ty : tyV X.K "list" v H1 := by
      cases d <;> try (simp [isLstB] at hl; done)
      obtain ⟨b, vs, rfl, h1, _⟩ := E1.rh r1
      exact .inl ⟨rfl, _, .inl (.inl h1)⟩
    refine ⟨ty, ?_⟩
    refine seqB (P := fun S r => PostE X.K X.mg T W F S σ ρ r Q) E1 (fun _ _ h => h) (fun _ h => h) (PostE.ext p1 e1) fun d2 v2 S2 H2 q2 e2 E2 r2 p2 => ?_
    have p3 := PostE.ext p2 e2
    cases q : mthD m d d2 with
    | bad => rw [q] at p3; exact p3.elim
    | exc x => exact absurd q (noX_mth m d d2 x)
    | ok z =>
      rw [q] at p3
      exact (mt_ok E2.sub (E2.rh (r1.ext e2)) (E2.rh r2) q (PostE.ends p3 E2)).2
  · exact p1.elim
end
end Lk
end Part_LkT
section Part_LkT3
set_option Elab.async false
set_option linter.all false
set_option maxRecDepth 100000
set_option maxHeartbeats 4000000
namespace Lk
open PySem PySem.Spec PyProof.Rows L2
open Lk.Zp
section
variable {X : Cx} {e e2 : Expr} {ta : TA} {p p2 q pos : Pos}
def tListZip (K : PySem.W.Frag) (ta : TA) : TE := fun σ H Q => ta σ H fun ws H1 => ∃ t1 t2 a b us vs, ws = [.ref a, .ref b] ∧ SqV t1 K H1 a us ∧ SqV t2 K H1 b vs ∧ us.length ≤ 1000000 ∧
  ∀ S Ts, Ts.reverse.map (·.2) = us.zip vs → (∀ r p l, Ts = l ++ p :: r → upd (layT H1 r) S (.lst []) p.1 = none) → H1 S = none → Q (.ref S) (upd (layT H1 Ts) S (.lst (Ts.reverse.map fun p => V.ref p.1)))
theorem pe_listZip (hc : X.calm = true) (hg : Gl X "list") (hm : X.mg "list" = none) (hg2 : Gl X "zip") (hm2 : X.mg "zip" = none) (ha : PA X [e, e2] ta)
    (hs : starEach [e, e2] X.env = (false, eval e X.env) :: starEach [e2] X.env) (hpl : (backTo q (starEach [e2] X.env)).any (·.1) = false) :
    PE X (.Call (.Name "list" p) [.Call (.Name "zip" p2) [e, e2] [] q] [] pos) (tListZip X.K ta) := by
  refine ⟨fun pins s σ H Q I h => ?_⟩
  have boot_list : bootBuiltins ("list" : Str) = some (.type "list") := by decide +kernel
  refine Call_ (ld_blt I hg hm boot_list (PyProof.Rows.callWith_type1 (PyProof.Rows.args_cons (Call_ (ld_blt I hg2 hm2 PyProof.Rows.boot_zip ?_)) rfl) rfl rfl))
  refine PyProof.Rows.callWith_type1 (thn (ha.run q pins s σ H _ I h) fun us0 s1 ⟨ws, H1, I1, r1, z⟩ => ?_) hs hpl
  obtain ⟨t1, t2, a, b, us, vs, rfl, hqx, hqy, hz, q1⟩ := z
  cases r1 with
  | cons r rr =>
    cases rr with
    | cons r' rr =>
      cases rr
      cases r
      cases r'
      obtain ⟨xs, rx, sx, lx, bx⟩ := Inv.sqv I1 hqx
      obtain ⟨ys, ry, sy, ly, by'⟩ := Inv.sqv I1 hqy
      refine call_zipG sx sy fun h' hz' hTI hTO h1 h2 hsz hk => PyProof.Rows.args_nil ?_
      have I2 : Inv X pins σ H1 { s1 with heap := h' } := I1.kept (t' := s1.toks) hk
      have new : ∀ c, s1.heap.objs.size ≤ c → FpOk X pins H1 c := fun c h => I1.fpOk h (I1.hok.fresh h)
      have all5 : ∀ c ∈ five (s1.heap.objs.size + 4) (s1.heap.objs.size + 2) (s1.heap.objs.size + 3) s1.heap.objs.size (s1.heap.objs.size + 1), FpOk X pins H1 c := five_all ⟨new _ (by omega), new _ (by omega), new _ (by omega), new _ (Nat.le_refl _), new _ (by omega)⟩
      exact call_list_zip (X := X) (t1 := t1) (t2 := t2) (I.ok.hd hc) (PySem.W.ktu_apart s1.heap.objs.size a b bx by') rx ry hz I2 all5 hz' hTI hTO h1 h2 (sx.up fun o w => hk _ o w) (sy.up fun o w => hk _ o w) (by rw [hsz]; exact Nat.lt_add_right _ bx) (by rw [hsz]; exact Nat.lt_add_right _ by') fun S Ts s' I' e1 e2 e3 => ⟨.ref S, _, I', rfl, q1 S Ts e1 e2 e3⟩
end
section
variable {K : PySem.W.Frag} {mg : Str → Option Value} {T : List (Addr × Str)} {F S H : Hp} {σ : St} {ρ : Env}
theorem rep_sqv {v : V} {d : D} {ds : List D} (sb : Sub S H) (h : RH K mg S H v d) (hd : seqOf d = some ds) : ∃ t a us, v = .ref a ∧ SqV t K H a us ∧ RepL K mg S us ds := by
  cases d with
  | lst xs =>
    cases hd
    obtain ⟨b, vs, rfl, h1, _, rl⟩ := h
    exact ⟨false, b, vs, rfl, .inl (.inl h1), rl⟩
  | tup xs =>
    cases hd
    obtain ⟨a, vs, rfl, h1, _, r1, _⟩ := RH.tup h sb
    exact ⟨true, a, vs, rfl, h1, r1⟩
  | _ => cases hd
/-- tuples laid, shared -/
theorem ER.layT (E : ER K mg T F S H σ ρ) : ∀ {Ts : List (Addr × V × V)}, (∀ r p l, Ts = l ++ p :: r → Zp.layT H r p.1 = none) → (∀ p ∈ Ts, ∃ d e, Rep K mg S p.2.1 d ∧ Rep K mg S p.2.2 e) → ∃ S', Ext S S' ∧ ER K mg T F S' (Zp.layT H Ts) σ ρ ∧ ∀ p ∈ Ts, ∀ d e, Rep K mg S p.2.1 d → Rep K mg S p.2.2 e → Rep K mg S' (.ref p.1) (.tup [d, e])
  | [], _, _ => ⟨S, .refl _, E, fun p hp => nomatch hp⟩
  | p :: r, hf, hr => by
    obtain ⟨S1, e1, E1, q1⟩ := ER.layT E (Ts := r) (fun r' p' l e => hf r' p' (p :: l) (by rw [e]; rfl)) fun p' hp' => hr p' (List.mem_cons_of_mem _ hp')
    have fr : Zp.layT H r p.1 = none := hf r p [] rfl
    obtain ⟨d, e, hd, he⟩ := hr p List.mem_cons_self
    obtain ⟨E2, e2⟩ := E1.new (o := .tup [p.2.1, p.2.2]) fr (fun ps z => nomatch z)
    refine ⟨_, e1.trans e2, E2, fun p' hp' d' e' hd' he' => ?_⟩
    rcases List.mem_cons.mp hp' with w | w
    · rw [w] at hd' he' ⊢
      exact .tup (.inl (.inl upd_same)) (by show 2 ≤ sizeLine; decide) (.cons ((hd'.ext e1).ext e2) (.cons ((he'.ext e1).ext e2) .nil))
    · exact (q1 p' w d' e' hd' he').ext e2
theorem zip_rep {K : PySem.W.Frag} {mg : Str → Option Value} {S S' : Hp} : ∀ {Ts : List (Addr × V × V)} {us vs : List V} {xs ys : List D}, Ts.map (·.2) = us.zip vs → RepL K mg S us xs → RepL K mg S vs ys → (∀ p ∈ Ts, ∀ d e, Rep K mg S p.2.1 d → Rep K mg S p.2.2 e → Rep K mg S' (.ref p.1) (.tup [d, e])) → RepL K mg S' (Ts.map fun p => V.ref p.1) (zipD xs ys)
  | [], us, vs, xs, ys, e, ru, rv, h => by
    cases ru with
    | nil => exact .nil
    | cons a ru =>
      cases rv with
      | nil => exact .nil
      | cons b rv => simp at e
  | p :: Ts, us, vs, xs, ys, e, ru, rv, h => by
    cases ru with
    | nil => simp at e
    | cons a ru =>
      cases rv with
      | nil => simp at e
      | cons b rv =>
        rw [List.map_cons, List.zip_cons_cons] at e
        injection e with e1 e2
        refine .cons (h p List.mem_cons_self _ _ (by rw [e1]; exact a) (by rw [e1]; exact b)) (zip_rep e2 ru rv fun q hq => h q (List.mem_cons_of_mem _ hq))
end
section
variable {N fs : List Str} {T : List (Addr × Str)} {Φ : Str → List D → R D} {C : Str → Option D} {n : Nat} {lm : Bool} {W : WX} {sc : Scope} {X : Cx} (c : Cxt N fs T Φ C n lm W sc X) {pos p p2 q : Pos}
include c
theorem snd_lzip {a b : CE} {x y : Expr} {f g : Str} (hf : f = "list") (hg : g = "zip") (gf : isGlB sc f = true) (gg : isGlB sc g = true) (gx : good x = true) (gy : good y = true) (iha : PE X x (tBr X.K X.mg T W fun ρ => brw a ρ (evE Φ C a ρ))) (ihb : PE X y (tBr X.K X.mg T W fun ρ => brw b ρ (evE Φ C b ρ))) :
    PE X (.Call (.Name f p) [.Call (.Name g p2) [x, y] [] q] [] pos) (tE X.K X.mg T W (evE Φ C (.lzip a b))) := by
  subst hf hg
  refine PE_imp (pe_listZip c.calm (c.gl_ok gf).1 (c.nb _ (by decide +kernel)) (c.gl_ok gg).1 (c.nb _ (by decide +kernel)) (pa_cons iha (pa_cons ihb pa_nil (star_ok gy)) (star_ok gx)) (star_ok gx) (back_ok fun z hz => by rw [List.mem_singleton.mp hz]; exact gy)) ?_
  rintro σ H Q ⟨F, S, ρ, E, p⟩
  simp only [evE] at p
  refine seqB (P := fun S r => PostE X.K X.mg T W F S σ ρ r Q) E (fun _ _ h => h) (fun _ h => h) p fun d v S1 H1 q1 e1 E1 r1 p1 => ?_
  refine seqB (P := fun S r => PostE X.K X.mg T W F S σ ρ r Q) E1 (fun _ _ h => h) (fun _ h => h) (PostE.ext p1 e1) fun d2 v2 S2 H2 q2 e2 E2 r2 p2 => ?_
  have p3 := PostE.ext p2 e2
  unfold lzipD at p3
  cases h1 : seqOf d with
  | none => rw [h1] at p3; exact p3.elim
  | some xs =>
    cases h2 : seqOf d2 with
    | none => rw [h1, h2] at p3; exact p3.elim
    | some ys =>
      rw [h1, h2] at p3
      simp only at p3
      split at p3
      · rename_i hl
        obtain ⟨t1, a1, us, rfl, s1, ru⟩ := rep_sqv E2.sub (E2.rh (r1.ext e2)) h1
        obtain ⟨t2, a2, vs, rfl, s2, rv⟩ := rep_sqv E2.sub (E2.rh r2) h2
        refine ⟨t1, t2, a1, a2, us, vs, rfl, s1, s2, by rw [ru.length]; exact hl, fun L Ts hT hfr hn => ?_⟩
        have mem : ∀ p ∈ Ts, (p.2.1 ∈ us) ∧ p.2.2 ∈ vs := fun p hp => by
          have : p.2 ∈ us.zip vs := by rw [← hT]; exact List.mem_map.mpr ⟨p, List.mem_reverse.mpr hp, rfl⟩
          exact List.of_mem_zip this
        have inRep : ∀ {us : List V} {xs : List D} {u : V}, RepL X.K X.mg S2 us xs → u ∈ us → ∃ d, Rep X.K X.mg S2 u d := by
          intro us xs u r hu
          obtain ⟨i, hi⟩ := List.getElem?_of_mem hu
          obtain ⟨d, _, h⟩ := r.get hi
          exact ⟨d, h⟩
        obtain ⟨S3, e3, E3, q3⟩ := ER.layT E2 (Ts := Ts) (fun r p l e => (updT_fresh (hfr r p l e)).2) fun p hp => by
          obtain ⟨d, hd⟩ := inRep ru (mem p hp).1
          obtain ⟨e, he⟩ := inRep rv (mem p hp).2
          exact ⟨d, e, hd, he⟩
        have fr : Zp.layT H2 Ts L = none := by
          have key : ∀ (Ts : List (Addr × V × V)), (∀ r p l, Ts = l ++ p :: r → upd (Zp.layT H2 r) L (.lst []) p.1 = none) → Zp.layT H2 Ts L = none := by
            intro Ts
            induction Ts with
            | nil => intro _; exact hn
            | cons p r ih =>
              intro h
              show upd (Zp.layT H2 r) p.1 _ L = none
              rw [upd_ne (Ne.symm (updT_fresh (h r p [] rfl)).1)]
              exact ih fun r' p' l e => h r' p' (p :: l) (by rw [e]; rfl)
          exact key Ts hfr
        have rl : RepL X.K X.mg S3 (Ts.reverse.map fun p => V.ref p.1) (zipD xs ys) := zip_rep hT ru rv fun p hp => q3 p (List.mem_reverse.mp hp)
        have lz : (Ts.reverse.map fun p => V.ref p.1).length ≤ sizeLine := by
          have := congrArg List.length hT
          rw [List.length_map, List.length_zip] at this
          rw [List.length_map, this, ru.length, sizeLine_eq]
          omega
        obtain ⟨E4, e4, r4⟩ := E3.lst fr lz rl
        exact p3 _ _ _ (e3.trans e4) E4 r4
      · exact p3.elim
omit c in
theorem snd_rev {a : CE} {x : Expr} {k : Nat} {p1 p3 p4 : Pos} (iha : PE X x (tBr X.K X.mg T W fun ρ => brw a ρ (evE Φ C a ρ))) :
    PE X (.Subscript x (.Slice none none (some (.UnaryOp .USub (.Constant (.int 1) k p1) p3)) p4) pos) (tE X.K X.mg T W (evE Φ C (.rev a))) := by
  refine PE_imp (pe_revL iha) ?_
  rintro σ H Q ⟨F, S, ρ, E, p⟩
  simp only [evE] at p
  refine seqB (P := fun S r => PostE X.K X.mg T W F S σ ρ r Q) E (fun _ _ h => h) (fun _ h => h) p fun d v S1 H1 q1 e1 E1 r1 p1 => ?_
  cases d <;> simp only [revD] at p1 <;> try (exact p1.elim)
  rename_i ds
  obtain ⟨b, vs, rfl, h1, hz, rl⟩ := E1.rh r1
  refine ⟨b, vs, rfl, .inl (.inl h1), fun l hl => ?_⟩
  obtain ⟨E2, e2, r2⟩ := E1.lst hl (by rw [List.length_reverse]; exact hz) rl.reverse
  exact p1 _ _ _ (e1.trans e2) E2 r2
/-- a call of a local name that holds a def -/
theorem snd_calv {i : Nat} {x : Str} {fl : List Str} {a : CE} {r : CL} {e : Expr} {es : List Expr} (hx : isVarB sc N i x = true) (hf : ∀ f ∈ fl, f ∈ fs) (ge : good e = true) (gs : ∀ x ∈ es, good x = true) (ih : PA X (e :: es) (tA X.K X.mg T W (evL Φ C (.cons a r)))) :
    PE X (.Call (.Name x p) (e :: es) [] pos) (tE X.K X.mg T W (evE Φ C (.calv i fl (.cons a r)))) := by
  obtain ⟨h1, h2, h3, h4⟩ := c.var_ok hx
  refine ⟨fun pins s σ H Q I h => ?_⟩
  obtain ⟨F, S, ρ, E, p⟩ := h
  simp only [evE] at p
  split at p
  · rename_i f hsl
    split at p
    · rename_i hfl
      obtain ⟨v, g1, g2⟩ := E.sl i _ hsl
      cases g2 with
      | fn hm =>
        rename_i fa
        obtain ⟨fa', fd, ps, hm', hk, hbind, hlen, F0⟩ := c.fns f (hf f hfl)
        rw [hm] at hm'
        cases hm'
        refine wpAny_Call_Name_kw (thn ((pe_var (pos := _) (i := i) h1 h2 h3 h4).run pins s σ H (fun v H1 => v = .ref fa ∧ H1 = H) I ⟨.ref fa, g1, rfl, rfl⟩) fun u s1 ⟨v, H1, I1, r1, ev, eH⟩ => ?_)
        subst ev
        rw [eH] at I1
        cases r1
        refine PySem.W.callWith_K (h₀ := X.base) I.ok.mod.kin hk (thn (ih.run pos pins s1 σ H (fun vs H1 => spF X.K X.mg T Φ f ps.length vs H1 Q (fun cls d H => W cls d σ H)) I1 ⟨F, S, ρ, E, ?_⟩) fun us s2 ⟨vs, H2, I2, r, q⟩ => ⟨I2.kIn, ?_⟩) (star_ok ge) (back_ok gs)
        · unfold PostA
          cases q0 : evL Φ C (.cons a r) ρ with
          | bad => rw [q0] at p; exact p.elim
          | exc y => rw [q0] at p; exact p
          | ok ds =>
            rw [q0] at p
            intro vs S1 H1 e1 E1 r1
            simp only [R.bind_ok] at p
            have p2 := PostE.ext p e1
            refine ⟨?_, S1, ds, E1.sub, E1.tab, r1, ?_⟩
            · rw [r1.length]
              refine hlen ds fun z => ?_
              rw [z] at p2
              exact p2.elim
            · cases q : Φ f ds with
              | bad => rw [q] at p2; exact p2.elim
              | ok d =>
                rw [q] at p2
                intro v S' H' e' sb tb kp rv
                exact p2 v S' H' e' (E1.called e' sb tb kp) rv
              | exc x =>
                rw [q] at p2
                intro S' H' e' sb tb kp
                exact p2 S' H' e' (E1.called e' sb tb kp)
        · exact run_fnS F0 c.room hbind (L2N.passAt c.tk σ) I2 r q
    · exact p.elim
  · exact p.elim
end
end Lk
end Part_LkT3
section Part_LkT4
set_option Elab.async false
set_option linter.all false
set_option maxRecDepth 100000
set_option maxHeartbeats 4000000
/-! sorted(list of tuples of ints), no two alike -/
namespace Lk
open PySem PySem.Spec PyProof.Rows L2
theorem perm_map {α β : Type} {f : α → β} {l k : List β} (h : l.Perm k) : ∀ {m : List α}, k = m.map f → ∃ m' : List α, m'.Perm m ∧ l = m'.map f := by
  induction h with
  | nil => intro m e; exact ⟨[], by rw [List.map_eq_nil_iff.mp e.symm], rfl⟩
  | cons x _ ih =>
    intro m e
    cases m with
    | nil => cases e
    | cons a m =>
      injection e with e1 e2
      obtain ⟨m', p, q⟩ := ih e2
      exact ⟨a :: m', p.cons a, by rw [List.map_cons, ← e1, q]⟩
  | swap x y l =>
    intro m e
    match m, e with
    | [], e => cases e
    | [_], e => cases e
    | a :: b :: m, e =>
      injection e with e1 e2
      injection e2 with e2 e3
      exact ⟨b :: a :: m, .swap _ _ _, by rw [List.map_cons, List.map_cons, ← e1, ← e2, ← e3]⟩
  | trans _ _ ih1 ih2 =>
    intro m e
    obtain ⟨m2, p2, q2⟩ := ih2 e
    obtain ⟨m1, p1, q1⟩ := ih1 q2
    exact ⟨m1, p1.trans p2, q1⟩
section
variable {X : Cx} {K : PySem.W.Frag} {mg : Str → Option Value} {a : Expr} {ta : TE} {p p2 q pos : Pos}
def tSortT (K : PySem.W.Frag) (ta : TE) : TE := fun σ H Q => ta σ H fun x H1 => ∃ ks, FewT K H1 x ks ∧ okTs (ks.map (·.2)) = true ∧ dedup (ks.map (·.2)) = ks.map (·.2) ∧ ks ≠ [] ∧
  ∀ (L' : List (Addr × List Int)) l, (∀ p ∈ L', p ∈ ks) → L'.map (·.2) = sortT (ks.map (·.2)) → H1 l = none → Q (.ref l) (upd H1 l (.lst (L'.map fun p => V.ref p.1)))
theorem pe_sortT (hg : Gl X "sorted") (hm : X.mg "sorted" = none) (ha : PE X a ta) (g : good a = true) :
    PE X (.Call (.Name "sorted" p) [a] [] pos) (tSortT X.K ta) := by
  refine ⟨fun pins s σ H Q I h => ?_⟩
  refine Call_ (ld_blt I hg hm boot_sorted (PyProof.Rows.callWith_builtin1 (PyProof.Rows.args_cons (thn (ha.run pins s σ H _ I h) fun v s1 ⟨x, H1, I1, r1, z⟩ => PyProof.Rows.args_nil ?_) (star_ok g)) (star_ok g) rfl))
  obtain ⟨ks, ⟨b, rfl, hs, ht, hl⟩, hok, hdd, hne, q1⟩ := z
  cases r1
  obtain ⟨its, rv, pl, hz⟩ := I1.list hs
  have hits : its = ks.map fun p => Value.ref p.1 := by simpa using refs_of_vals rv
  have hok' : ∀ r ∈ ks.map (·.2), r.length = ((ks.map (·.2)).headD []).length ∧ 1 ≤ r.length ∧ ∀ i ∈ r, 0 ≤ i := by
    intro r hr
    unfold okTs at hok
    have := List.all_eq_true.mp hok r hr
    simp only [Bool.and_eq_true, decide_eq_true_eq, List.all_eq_true] at this
    exact ⟨this.1.1, this.1.2, this.2⟩
  generalize hd : ((ks.map (·.2)).headD []).length = d at hok'
  generalize hB : (ks.map (·.2)).flatten.foldl max 0 + 1 = B
  have bd : ∀ p ∈ ks, p.2.length = d ∧ TS.Bd B p.2 := fun p hp => by
    have hr : p.2 ∈ ks.map (·.2) := List.mem_map.mpr ⟨p, hp, rfl⟩
    obtain ⟨h1, h2, h3⟩ := hok' p.2 hr
    refine ⟨h1, fun m hm => ⟨h3 m hm, ?_⟩⟩
    have := le_all (List.mem_flatten.mpr ⟨p.2, hr, hm⟩)
    omega
  obtain ⟨p0, hp0⟩ := List.exists_mem_of_ne_nil ks hne
  have hd1 : 1 ≤ d := by
    have := (hok' p0.2 (List.mem_map.mpr ⟨p0, hp0, rfl⟩))
    omega
  have hB1 : 1 ≤ B := by
    have key : ∀ (l : List Int), (0 : Int) ≤ l.foldl max 0 := by
      intro l
      have : ∀ (l : List Int) (x : Int), x ≤ l.foldl max x := by
        intro l
        induction l with
        | nil => intro x; exact Int.le_refl _
        | cons a l ih => intro x; rw [List.foldl_cons]; exact Int.le_trans (Int.le_max_left x a) (ih _)
      exact this l 0
    have := key (ks.map (·.2)).flatten
    omega
  have hi : ∀ p ∈ ks, TS.TupInts s1.heap (.ref p.1) p.2 := fun p hp => tupInts_of (I1.isT (ht p hp))
  refine TS.sorted_tups (d := d) (B := B) pl.isList (by rw [hits, List.length_map]; exact hl) hd1 (fun v hv => ?_) fun out pm pw => ?_
  · rw [hits] at hv
    obtain ⟨p, hp, rfl⟩ := List.mem_map.mp hv
    exact ⟨p.2, hi p hp, bd p hp⟩
  · obtain ⟨L', pL, ho⟩ := perm_map pm hits
    have nd : (ks.map (·.2)).Nodup := by rw [← hdd]; exact dedup_nodup _
    have nd' : (L'.map (·.2)).Nodup := (pL.map (·.2)).nodup_iff.mpr nd
    have len : ∀ y ∈ L'.map (·.2), y.length = d ∧ TS.Bd B y := fun y hy => by
      obtain ⟨p, hp, rfl⟩ := List.mem_map.mp hy
      exact bd p (pL.mem_iff.mp hp)
    have lx : LexP (L'.map (·.2)) := by
      have pw2 : (L'.map (·.2)).Pairwise fun a b => TS.code B a ≤ TS.code B b := by
        rw [ho, List.pairwise_map] at pw
        rw [List.pairwise_map]
        refine List.Pairwise.imp_of_mem (fun {x y} hx hy h => ?_) pw
        have e1 := (hi x (pL.mem_iff.mp hx)).ints
        have e2 := (hi y (pL.mem_iff.mp hy)).ints
        rw [e1, e2] at h
        exact h
      have both := pw2.and nd'
      refine List.Pairwise.imp_of_mem (fun {x y} hx hy h => ?_) both
      rcases lex_tri ((len x hx).1.trans (len y hy).1.symm) h.2 with z | z
      · exact z
      · have := code_lt hB1 ((len y hy).1.trans (len x hx).1.symm) (len y hy).2 (len x hx).2 z
        have := h.1
        omega
    have e1 : L'.map (·.2) = sortT (ks.map (·.2)) := lex_unique lx (sortT_lt (d := d) nd fun y hy => by
      obtain ⟨p, hp, rfl⟩ := List.mem_map.mp hy
      exact (bd p hp).1) ((pL.map (·.2)).trans (sortT_perm _).symm)
    obtain ⟨ep, he'⟩ := PyProof.Rows.sortedAll_at s1.heap its out
    have hlen : (L'.map fun q => V.ref q.1).length ≤ sizeLine := by rw [List.length_map, pL.length_eq]; exact small64 hl
    have hv : Vals (L'.map fun q => V.ref q.1) out.toList := by rw [ho]; exact vals_of_refs L'
    exact ⟨.ref _, upd H1 (s1.heap.objs.size + 1) (.lst (L'.map fun q => V.ref q.1)), I1.laid (t' := s1.toks) (fun _ _ => PyProof.Rows.sortedAll_old) (Nat.le_succ _) ⟨hlen, out.toList, ep, hv, he'⟩, rfl,
      q1 L' _ (fun p hp => pL.mem_iff.mp hp) e1 (I1.hok.fresh (Nat.le_succ _))⟩
end
section
variable {N fs : List Str} {T : List (Addr × Str)} {Φ : Str → List D → R D} {C : Str → Option D} {n : Nat} {lm : Bool} {W : WX} {sc : Scope} {X : Cx} (c : Cxt N fs T Φ C n lm W sc X) {pos p p2 q : Pos}
include c
theorem snd_srt {a : CE} {x : Expr} {f : Str} (hf : f = "sorted") (gf : isGlB sc f = true) (go : good x = true) (ih : PE X x (tBr X.K X.mg T W fun ρ => brw a ρ (evE Φ C a ρ))) :
    PE X (.Call (.Name f p) [x] [] pos) (tE X.K X.mg T W (evE Φ C (.srt a))) := by
  subst hf
  refine PE_imp (pe_sortT (c.gl_ok gf).1 (c.nb _ (by decide +kernel)) ih go) ?_
  rintro σ H Q ⟨F, S, ρ, E, p⟩
  simp only [evE] at p
  refine seqB (P := fun S r => PostE X.K X.mg T W F S σ ρ r Q) E (fun _ _ h => h) (fun _ h => h) p fun d v S1 H1 q1 e1 E1 r1 p1 => ?_
  unfold srtD at p1
  cases tn : tupsIn d with
  | none => rw [tn] at p1; exact p1.elim
  | some rows =>
    rw [tn] at p1
    have e := tupsIn_eq tn
    have nr : rows ≠ [] := by
      rintro rfl
      rw [e] at tn
      cases tn
    subst e
    simp only at p1
    split at p1
    · rename_i hl
      obtain ⟨b, vs, rfl, h1, _, rl⟩ := (E1.rh r1)
      obtain ⟨ks, e1', e2', e3'⟩ := rep_tups rl
      refine ⟨ks, ⟨b, rfl, .inl (.inl (by rw [← e1']; exact h1)), fun p hp => E1.sub.ext.sqT (e3' p hp).1, by rw [← List.length_map (f := (·.2)), e2']; exact hl.1⟩, by rw [e2']; exact hl.2.1, by rw [e2']; exact hl.2.2, fun z => nr (by rw [← e2', z]; rfl), fun L' l hL he hn => ?_⟩
      rw [e2'] at he
      have rl' : RepL X.K X.mg S1 (L'.map fun p => V.ref p.1) ((sortT rows).map tupI) := by
        rw [← he, List.map_map]
        clear he hn
        induction L' with
        | nil => exact .nil
        | cons p L' ih => exact .cons (e3' p (hL p List.mem_cons_self)).2 (ih fun q hq => hL q (List.mem_cons_of_mem _ hq))
      have lz : (L'.map fun p => V.ref p.1).length < 64 := by
        have := congrArg List.length he
        rw [List.length_map, (sortT_perm _).length_eq] at this
        rw [List.length_map, this]
        exact hl.1
      obtain ⟨E2, e2, r2⟩ := E1.lst hn (small64 lz) rl'
      exact p1 _ _ _ (e1.trans e2) E2 r2
    · exact p1.elim
end
end Lk
end Part_LkT4
section Part_LkU
set_option Elab.async false
set_option linter.all false
set_option maxRecDepth 100000
set_option maxHeartbeats 4000000
namespace Lk
open PySem PySem.Spec PyProof.Rows L2
/-! ### slots wiped -/
theorem wipeE_get (ρ : Env) : ∀ (own : List Nat) (j : Nat), (wipeE ρ own)[j]? = if j ∈ own then (ρ[j]?).map fun _ => Slot.no else ρ[j]?
  | [], j => by simp [wipeE]
  | v :: vs, j => by
    have ih := wipeE_get ρ vs j
    unfold wipeE
    by_cases h : v = j
    · subst h
      rw [List.getElem?_set_self']
      rw [ih]
      simp only [List.mem_cons, true_or, if_true]
      split <;> cases ρ[v]? <;> rfl
    · rw [List.getElem?_set_ne h, ih]
      simp only [List.mem_cons, Ne.symm h, false_or]
theorem wipe_get (σ : St) : ∀ (own : List Nat) (j : Nat), (wipe σ own)[j]? = if j ∈ own then (σ[j]?).map fun _ => none else σ[j]?
  | [], j => by simp [wipe]
  | v :: vs, j => by
    have ih := wipe_get σ vs j
    unfold wipe
    by_cases h : v = j
    · subst h
      rw [List.getElem?_set_self']
      rw [ih]
      simp only [List.mem_cons, true_or, if_true]
      split <;> cases σ[v]? <;> rfl
    · rw [List.getElem?_set_ne h, ih]
      simp only [List.mem_cons, Ne.symm h, false_or]
theorem wipe_set {σ : St} {own : List Nat} {i : Nat} (h : i ∈ own) (v : Option V) : wipe (σ.set i v) own = wipe σ own := by
  apply List.ext_getElem?
  intro j
  rw [wipe_get, wipe_get]
  by_cases hj : j ∈ own
  · simp only [hj, if_true]
    by_cases e : i = j
    · subst e; rw [List.getElem?_set_self']; cases σ[i]? <;> rfl
    · rw [List.getElem?_set_ne e]
  · simp only [hj, if_false]
    rw [List.getElem?_set_ne (fun e : i = j => hj (by rw [← e]; exact h))]
theorem wipe_twice (σ : St) (own : List Nat) : wipe (wipe σ own) own = wipe σ own := by
  apply List.ext_getElem?
  intro j
  rw [wipe_get, wipe_get]
  by_cases hj : j ∈ own
  · simp only [hj, if_true]; cases σ[j]? <;> rfl
  · simp only [hj, if_false]
theorem wipeE_set {ρ : Env} {own : List Nat} {i : Nat} (h : i ∈ own) (v : Slot) : wipeE (ρ.set i v) own = wipeE ρ own := by
  apply List.ext_getElem?
  intro j
  rw [wipeE_get, wipeE_get]
  by_cases hj : j ∈ own
  · simp only [hj, if_true]
    by_cases e : i = j
    · subst e; rw [List.getElem?_set_self']; cases ρ[i]? <;> rfl
    · rw [List.getElem?_set_ne e]
  · simp only [hj, if_false]
    rw [List.getElem?_set_ne (fun e : i = j => hj (by rw [← e]; exact h))]
theorem wipeE_twice (ρ : Env) (own : List Nat) : wipeE (wipeE ρ own) own = wipeE ρ own := by
  apply List.ext_getElem?
  intro j
  rw [wipeE_get, wipeE_get]
  by_cases hj : j ∈ own
  · simp only [hj, if_true]; cases ρ[j]? <;> rfl
  · simp only [hj, if_false]
theorem wipeE_length (ρ : Env) : ∀ own : List Nat, (wipeE ρ own).length = ρ.length
  | [] => rfl
  | v :: vs => by unfold wipeE; rw [List.length_set, wipeE_length ρ vs]
section
variable {K : PySem.W.Frag} {mg : Str → Option Value} {T : List (Addr × Str)} {W : WX} {F S S' H H' : Hp} {σ σ' : St} {ρ ρ' : Env}
theorem ER.wipe (E : ER K mg T F S H σ ρ) (own : List Nat) : ER K mg T F S H (L2.wipe σ own) (wipeE ρ own) := by
  have key : ∀ (i : Nat) (s : Slot), (wipeE ρ own)[i]? = some s → ((∀ d, s ≠ .sh d) ∧ (∀ d, s ≠ .ow d)) ∨ (ρ[i]? = some s ∧ (L2.wipe σ own)[i]? = σ[i]?) := by
    intro i s h
    rw [wipeE_get] at h
    by_cases hi : i ∈ own
    · simp only [hi, if_true] at h
      cases q : ρ[i]? with
      | none => rw [q] at h; cases h
      | some z => rw [q] at h; cases h; exact .inl ⟨(fun d z => nomatch z), (fun d z => nomatch z)⟩
    · simp only [hi, if_false] at h
      refine .inr ⟨h, ?_⟩
      rw [wipe_get]
      simp only [hi, if_false]
  refine ⟨E.sub, E.dis, E.tab, by rw [wipe_length, wipeE_length]; exact E.len, fun i d h => ?_, fun i d h => ?_, fun i j d e a h1 h2 h3 h4 => ?_⟩
  · rcases key i _ h with z | ⟨z1, z2⟩
    · exact absurd rfl (z.1 d)
    · rw [z2]; exact E.sl i d z1
  · rcases key i _ h with z | ⟨z1, z2⟩
    · exact absurd rfl (z.2 d)
    · rw [z2]; exact E.ow i d z1
  · rcases key i _ h1 with z | ⟨z1, z2⟩
    · exact absurd rfl (z.2 d)
    · rcases key j _ h2 with y | ⟨y1, y2⟩
      · exact absurd rfl (y.2 e)
      · rw [z2] at h3
        rw [y2] at h4
        exact E.inj i j d e a z1 y1 h3 h4
/-- a new object that is held for the while -/
theorem ER.hold {p : Addr} {o : HO} (E : ER K mg T F S H σ ρ) (hp : H p = none) (ht : ∀ ps, o ≠ .tbl ps) : ER K mg T (upd F p o) S (upd H p o) σ ρ := by
  have sp := sub_free E.sub hp
  have hh : ∀ b u, H b = some u → upd H p o b = some u := fun b u e => by rw [upd_ne (ne_of_none e hp)]; exact e
  refine ⟨fun b u e => hh _ _ (E.sub _ _ e), fun b u e => ?_, ⟨E.tab.tabs.ext hh, fun b ps q => ?_⟩, E.len, E.sl, fun i d e => ?_, E.inj⟩
  · by_cases hb : b = p
    · subst hb
      rw [upd_same] at e ⊢
      exact ⟨e, sp⟩
    · rw [upd_ne hb] at e
      exact ⟨hh _ _ (E.dis b u e).1, (E.dis b u e).2⟩
  · by_cases hb : b = p
    · subst hb; rw [upd_same] at q; exact absurd (Option.some.inj q) (ht ps)
    · rw [upd_ne hb] at q; exact E.tab.tin b ps q
  · obtain ⟨a, h1, h2, h3, h4⟩ := E.ow i d e
    obtain ⟨o', h5, _⟩ := h4.get
    have ne : a ≠ p := ne_of_none h5 hp
    exact ⟨a, h1, h2, by rw [upd_ne ne]; exact h3, h4.ext (.refl _) fun o q => hh _ _ q⟩
/-- what is held is changed -/
theorem ER.rehold {p : Addr} {o o' : HO} (E : ER K mg T (upd F p o) S H σ ρ) (ht : ∀ ps, o ≠ .tbl ps) (hx : ∀ φ, o ≠ .ext φ) (ht' : ∀ ps, o' ≠ .tbl ps) : ER K mg T (upd F p o') S (upd H p o') σ ρ := by
  obtain ⟨hp, sp⟩ := E.dis p o upd_same
  have hne : ∀ b u, H b = some u → u ≠ o → b ≠ p := fun b u e n z => by rw [z, hp] at e; cases e; exact n rfl
  refine ⟨fun b u e => ?_, fun b u e => ?_, ?_, E.len, E.sl, fun i d e => ?_, E.inj⟩
  · have nb : b ≠ p := fun z => by rw [z, sp] at e; cases e
    rw [upd_ne nb]; exact E.sub _ _ e
  · by_cases hb : b = p
    · subst hb
      rw [upd_same] at e ⊢
      exact ⟨e, sp⟩
    · rw [upd_ne hb] at e
      rw [upd_ne hb]
      exact E.dis b u (by rw [upd_ne hb]; exact e)
  · refine ⟨?_, fun b ps q => ?_⟩
    rotate_left
    · by_cases hb : b = p
      · subst hb; rw [upd_same] at q; exact absurd (Option.some.inj q) (ht' ps)
      · rw [upd_ne hb] at q; exact E.tab.tin b ps q
    intro t htm
    obtain ⟨ps, h1, h2, h3⟩ := E.tab.tabs t htm
    refine ⟨ps, ?_, h2, fun pos cv hc => ?_⟩
    · rw [upd_ne (hne _ _ h1 (fun z => ht ps z.symm))]; exact h1
    · obtain ⟨cc, e1, e2⟩ := h3 pos cv hc
      refine ⟨cc, e1, ?_⟩
      by_cases hb : cc = p
      · rw [hb, hp] at e2
        exact absurd (Option.some.inj e2) (hx _)
      · rw [upd_ne hb]; exact e2
  · obtain ⟨a, h1, h2, h3, h4⟩ := E.ow i d e
    have ne : a ≠ p := fun z => by rw [z, upd_same] at h3; cases h3
    rw [upd_ne ne] at h3
    exact ⟨a, h1, h2, by rw [upd_ne ne]; exact h3, h4.ext (.refl _) fun o q => by rw [upd_ne ne]; exact q⟩
/-- what was held is shared from now on, with the slots as they were -/
theorem ER.share {p : Addr} {o : HO} {own : List Nat} (E0 : ER K mg T F S H σ ρ) (e : Ext S S') (E : ER K mg T (upd F p o) S' H' (L2.wipe σ own) (wipeE ρ own)) (fp : F p = none) (ht : ∀ ps, o ≠ .tbl ps) (fr : ownFree ρ own = true) : ER K mg T F (upd S' p o) H' σ ρ ∧ Ext S' (upd S' p o) := by
  obtain ⟨hp, sp⟩ := E.dis p o upd_same
  have ex : Ext S' (upd S' p o) := fun b u q _ => by rw [upd_ne (ne_of_none q sp)]; exact q
  have notIn : ∀ (i : Nat) d, ρ[i]? = some (.ow d) → i ∉ own := fun i d h hi => by
    unfold ownFree at fr
    have := List.all_eq_true.mp fr i hi
    rw [h] at this
    simp [isOw] at this
  refine ⟨⟨fun b u q => ?_, fun b u q => ?_, ⟨E.tab.tabs, fun b ps q => by rw [upd_ne (ne_of_none (E.tab.tin b ps q) sp)]; exact E.tab.tin b ps q⟩, E0.len, fun i d h => ?_, fun i d h => ?_, E0.inj⟩, ex⟩
  · by_cases hb : b = p
    · subst hb; rw [upd_same] at q; rw [← q]; exact hp
    · rw [upd_ne hb] at q; exact E.sub _ _ q
  · have nb : b ≠ p := fun z => by rw [z, fp] at q; cases q
    obtain ⟨h1, h2⟩ := E.dis b u (by rw [upd_ne nb]; exact q)
    exact ⟨h1, by rw [upd_ne nb]; exact h2⟩
  · obtain ⟨v, h1, h2⟩ := E0.sl i d h
    exact ⟨v, h1, (h2.ext e).ext ex⟩
  · have hi := notIn i d h
    obtain ⟨a, h1, h2, h3, h4⟩ := E.ow i d (by rw [wipeE_get]; simp only [hi, if_false]; exact h)
    rw [wipe_get] at h1
    simp only [hi, if_false] at h1
    have na : a ≠ p := fun z => by rw [z, upd_same] at h3; cases h3
    rw [upd_ne na] at h3
    exact ⟨a, h1, by rw [upd_ne na]; exact h2, h3, h4.ext ex fun o q => q⟩
/-- a name's slot set to shared data -/
theorem ER.setSh {i : Nat} {v : V} {d : D} (E : ER K mg T F S H σ ρ) (hi : i < ρ.length) (r : Rep K mg S v d) : ER K mg T F S H (σ.set i (some v)) (ρ.set i (.sh d)) := by
  have hs : i < σ.length := by rw [E.len]; exact hi
  refine ⟨E.sub, E.dis, E.tab, by rw [List.length_set, List.length_set]; exact E.len, fun j e h => ?_, fun j e h => ?_, fun j k e e' a h1 h2 h3 h4 => ?_⟩
  · by_cases hj : i = j
    · subst hj
      rw [List.getElem?_set_self hi] at h
      cases h
      exact ⟨v, List.getElem?_set_self hs, r⟩
    · rw [List.getElem?_set_ne hj] at h
      rw [List.getElem?_set_ne hj]
      exact E.sl j e h
  · by_cases hj : i = j
    · subst hj
      rw [List.getElem?_set_self hi] at h
      cases h
    · rw [List.getElem?_set_ne hj] at h
      rw [List.getElem?_set_ne hj]
      exact E.ow j e h
  · have nj : i ≠ j := fun z => by
      subst z
      rw [List.getElem?_set_self hi] at h1
      cases h1
    have nk : i ≠ k := fun z => by
      subst z
      rw [List.getElem?_set_self hi] at h2
      cases h2
    rw [List.getElem?_set_ne nj] at h1 h3
    rw [List.getElem?_set_ne nk] at h2 h4
    exact E.inj j k e e' a h1 h2 h3 h4
end
/-! ### targets -/
def gD (K : PySem.W.Frag) (mg : Str → Option Value) (T : List (Addr × Str)) (g : Tg) : TG := fun v σ H Q => ∃ F S ρ d, ER K mg T F S H σ ρ ∧ Rep K mg S v d ∧
  match bindG g d ρ with
  | .ok ρ' => ∀ σ', ER K mg T F S H σ' ρ' → (∀ own, tgIn own g = true → wipe σ' own = wipe σ own) → Q σ' H
  | _ => False
theorem setL_ok {ρ ρ' : Env} {i : Nat} {s : Slot} (h : setL ρ i s = .ok ρ') : i < ρ.length ∧ ρ' = ρ.set i s := by
  unfold setL at h
  split at h <;> cases h
  rename_i hi
  exact ⟨hi, rfl⟩
/-- names that may be stored -/
def AsgOk (X : Cx) (scope : Scope) : Prop := ∀ x, (scope.names.lookup x = some .local ∨ scope.names.lookup x = some .cell) → Loc X.env.scope x ∧ (X.fn x = true ∨ X.env.scope.names.lookup x = some .local)
section
variable {N : List Str} {T : List (Addr × Str)} {scope : Scope} {X : Cx} (hN : X.N = N) (nd : X.N.Nodup) (as : AsgOk X scope)
include hN nd as
theorem pg_nm {i : Nat} {e : Expr} (h : chkNm scope N i e = true) : PG X e (gName i) := by
  cases e <;> try (simp [chkNm] at h; done)
  rename_i x p
  simp only [chkNm, isLocB, kindB, Bool.and_eq_true, Bool.or_eq_true, decide_eq_true_eq] at h
  obtain ⟨h1, h2⟩ := as x h.2
  exact pg_name nd (by rw [hN]; exact h.1) h1 h2
theorem snd_nm {i : Nat} {e : Expr} (h : chkNm scope N i e = true) : PG X e (gD X.K X.mg T (.nm i)) := by
  refine ⟨fun pins s σ H v u Q I r q => (pg_nm hN nd as h).run pins s σ H v u Q I r ?_⟩
  obtain ⟨F, S, ρ, d, E, rv, p⟩ := q
  simp only [bindG] at p
  cases z : setL ρ i (.sh d) with
  | bad => rw [z] at p; exact p.elim
  | exc c => rw [z] at p; exact p.elim
  | ok ρ' =>
    rw [z] at p
    obtain ⟨h1, rfl⟩ := setL_ok z
    refine p _ (E.setSh h1 rv) fun own ho => ?_
    exact wipe_set (by simpa [tgIn] using ho) _
/-- several names -/
def gsD (K : PySem.W.Frag) (mg : Str → Option Value) (T : List (Addr × Str)) (is : List Nat) : TGs := fun vs σ H Q => ∃ F S ρ ds, ER K mg T F S H σ ρ ∧ RepL K mg S vs ds ∧
  match setSh is ds ρ with
  | .ok ρ' => ∀ σ', ER K mg T F S H σ' ρ' → (∀ own : List Nat, is.all own.contains = true → wipe σ' own = wipe σ own) → Q σ' H
  | _ => False
omit hN nd as in
theorem nm_good {i : Nat} {e : Expr} (h : chkNm scope N i e = true) : ∃ x p, e = .Name x p := by
  cases e <;> try (simp [chkNm] at h; done)
  exact ⟨_, _, rfl⟩
theorem snd_nms : ∀ {is : List Nat} {es : List Expr}, chkNms scope N is es = true → PGs X es (gsD X.K X.mg T is)
  | [], [], _ => by
    refine ⟨fun pins s σ H vs us Q I r q => pgs_nil.run pins s σ H vs us Q I r ?_⟩
    obtain ⟨F, S, ρ, ds, E, rv, p⟩ := q
    cases ds with
    | nil =>
      cases rv
      simp only [setSh] at p
      exact ⟨rfl, p σ E fun own _ => rfl⟩
    | cons d ds => simp only [setSh] at p
  | [], _ :: _, h => by simp [chkNms] at h
  | _ :: _, [], h => by simp [chkNms] at h
  | i :: is, e :: es, h => by
    simp only [chkNms, Bool.and_eq_true] at h
    obtain ⟨x, p0, rfl⟩ := nm_good h.1
    have ih := snd_nms (is := is) (es := es) h.2
    refine ⟨fun pins s σ H vs us Q I r q => (pgs_cons (pg_nm hN nd as h.1) ih rfl).run pins s σ H vs us Q I r ?_⟩
    obtain ⟨F, S, ρ, ds, E, rv, p⟩ := q
    cases rv with
    | nil => simp only [setSh] at p
    | @cons v vs d ds r1 r2 =>
      simp only [setSh] at p
      cases z : setL ρ i (.sh d) with
      | bad => rw [z] at p; exact p.elim
      | exc c => rw [z] at p; exact p.elim
      | ok ρ' =>
        rw [z] at p
        obtain ⟨h1, rfl⟩ := setL_ok z
        simp only [R.bind_ok] at p
        refine ⟨v, vs, rfl, F, S, _, ds, E.setSh h1 r1, r2, ?_⟩
        cases y : setSh is ds (ρ.set i (.sh d)) with
        | bad => rw [y] at p; exact p.elim
        | exc c => rw [y] at p; exact p.elim
        | ok ρ'' =>
          rw [y] at p
          intro σ' E' hw
          refine p σ' E' fun own ho => ?_
          rw [List.all_cons, Bool.and_eq_true] at ho
          rw [hw own ho.2, wipe_set (by simpa using ho.1)]
end
end Lk
end Part_LkU
section Part_LkV
set_option Elab.async false
set_option linter.all false
set_option maxRecDepth 100000
set_option maxHeartbeats 4000000
namespace Lk
open PySem PySem.Spec PyProof.Rows L2
section
variable {N : List Str} {T : List (Addr × Str)} {scope : Scope} {X : Cx} (hN : X.N = N) (nd : X.N.Nodup) (as : AsgOk X scope)
theorem nms_each {env : PySem.Env} : ∀ {is : List Nat} {es : List Expr}, chkNms scope N is es = true → (assignEach es env).length = is.length ∧ (assignEach es env).findIdx? (·.1) = none
  | [], [], _ => ⟨rfl, rfl⟩
  | [], _ :: _, h => by simp [chkNms] at h
  | _ :: _, [], h => by simp [chkNms] at h
  | i :: is, e :: es, h => by
    simp only [chkNms, Bool.and_eq_true] at h
    obtain ⟨x, p0, rfl⟩ := nm_good h.1
    obtain ⟨h1, h2⟩ := nms_each (env := env) (is := is) (es := es) h.2
    refine ⟨by show (assignEach es env).length + 1 = _; rw [h1]; rfl, ?_⟩
    show List.findIdx? (·.1) ((false, assign (.Name x p0) env) :: assignEach es env) = none
    rw [List.findIdx?_cons, h2]
    rfl
theorem setSh_len : ∀ {is : List Nat} {ds : List D} {ρ ρ' : Env}, setSh is ds ρ = .ok ρ' → ds.length = is.length
  | [], [], _, _, _ => rfl
  | [], _ :: _, _, _, h => by simp [setSh] at h
  | _ :: _, [], _, _, h => by simp [setSh] at h
  | i :: is, d :: ds, ρ, ρ', h => by
    simp only [setSh] at h
    cases z : setL ρ i (.sh d) with
    | bad => rw [z] at h; cases h
    | exc c => rw [z] at h; cases h
    | ok r => rw [z] at h; exact congrArg (· + 1) (setSh_len h)
include hN nd as
theorem snd_tp (hc : X.calm = true) {is : List Nat} {es : List Expr} {k : Nat} {pos : Pos} (h : chkNms scope N is es = true) : PG X (.Tuple es k pos) (gD X.K X.mg T (.tp is)) := by
  obtain ⟨n1, n2⟩ := nms_each (env := X.env) h
  refine ⟨fun pins s σ H v u Q I r q => (pg_tup hc (snd_nms hN nd as (T := T) h) n1 n2).run pins s σ H v u Q I r ?_⟩
  obtain ⟨F, S, ρ, d, E, rv, p⟩ := q
  cases rv <;> simp only [bindG] at p
  rename_i a vs ds sq z rl
  cases y : setSh is ds ρ with
  | bad => rw [y] at p; exact p.elim
  | exc c => rw [y] at p; exact p.elim
  | ok ρ' =>
    rw [y] at p
    refine ⟨a, vs, rfl, E.sub.ext.sqT sq, by rw [rl.length]; exact setSh_len y, F, S, ρ, ds, E, rl, ?_⟩
    rw [y]
    exact p
theorem snd_ntp (hc : X.calm = true) {i : Nat} {is : List Nat} {e : Expr} {es : List Expr} {k k2 : Nat} {pos p2 : Pos} (h0 : chkNm scope N i e = true) (h : chkNms scope N is es = true) : PG X (.Tuple [e, .Tuple es k2 p2] k pos) (gD X.K X.mg T (.ntp i is)) := by
  obtain ⟨n1, n2⟩ := nms_each (env := X.env) h
  obtain ⟨x, p0, rfl⟩ := nm_good h0
  refine ⟨fun pins s σ H v u Q I r q => (pg_tup hc (pgs_cons (pg_nm hN nd as h0) (pgs_cons (pg_tup hc (snd_nms hN nd as (T := T) h) n1 n2) pgs_nil rfl) rfl) rfl rfl).run pins s σ H v u Q I r ?_⟩
  obtain ⟨F, S, ρ, d, E, rv, p⟩ := q
  cases rv <;> try (simp only [bindG, bindN] at p; done)
  rename_i a vs ds sq z rl
  cases rl with
  | nil => simp only [bindG, bindN] at p
  | @cons v1 vs1 d1 ds1 r1 rl1 =>
    cases rl1 with
    | nil => cases d1 <;> simp only [bindG, bindN] at p
    | @cons v2 vs2 d2 ds2 r2 rl2 =>
      cases rl2 with
      | cons _ _ => cases d2 <;> simp only [bindG, bindN] at p
      | nil =>
        cases r2 <;> try (simp only [bindG, bindN] at p; done)
        rename_i b us es2 sq2 z2 rl3
        simp only [bindG, bindN] at p
        cases y1 : setL ρ i (.sh d1) with
        | bad => rw [y1] at p; exact p.elim
        | exc c => rw [y1] at p; exact p.elim
        | ok ρ1 =>
          rw [y1] at p
          obtain ⟨l1, rfl⟩ := setL_ok y1
          simp only [R.bind_ok] at p
          cases y : setSh is es2 (ρ.set i (.sh d1)) with
          | bad => rw [y] at p; exact p.elim
          | exc c => rw [y] at p; exact p.elim
          | ok ρ' =>
            rw [y] at p
            refine ⟨a, [v1, .ref b], rfl, E.sub.ext.sqT sq, rfl, v1, [.ref b], rfl, .ref b, [], rfl, b, us, rfl, E.sub.ext.sqT sq2, by rw [rl3.length]; exact setSh_len y, F, S, _, es2, E.setSh l1 r1, rl3, ?_⟩
            rw [y]
            intro σ' E' hw
            refine ⟨rfl, p σ' E' fun own ho => ?_⟩
            simp only [tgIn, Bool.and_eq_true] at ho
            rw [hw own ho.2, wipe_set (by simpa using ho.1)]
theorem snd_g (hc : X.calm = true) {g : Tg} {tg : Expr} (h : chkG scope N g tg = true) : PG X tg (gD X.K X.mg T g) := by
  cases g with
  | nm i => exact snd_nm hN nd as (by simpa [chkG] using h)
  | tp is =>
    cases tg <;> try (simp [chkG] at h; done)
    exact snd_tp hN nd as hc (by simpa [chkG] using h)
  | ntp i is =>
    unfold chkG at h
    split at h
    · rename_i heq; exact nomatch heq
    · rename_i heq; exact nomatch heq
    · rename_i heq
      injection heq with e1 e2
      subst e1 e2
      rw [Bool.and_eq_true] at h
      exact snd_ntp hN nd as hc h.1 h.2
    · cases h
end
/-! ### what is walked -/
def ItD (K : PySem.W.Frag) (mg : Str → Option Value) (S : Hp) (J : It) (ds : List D) : Prop := ∀ S2 H2, Ext S S2 → Sub S2 H2 → (∀ i, i < ds.length → J.go i H2) ∧ J.stop ds.length H2 ∧
  ∀ i x H3, i < ds.length → J.yld i H2 x H3 → ∃ d, ds[i]? = some d ∧ ((H3 = H2 ∧ Rep K mg S2 x d) ∨ ∃ p o, H2 p = none ∧ H3 = upd H2 p o ∧ (∀ ps, o ≠ .tbl ps) ∧ x = .ref p ∧ Rep K mg (upd S2 p o) x d)
def iD (K : PySem.W.Frag) (mg : Str → Option Value) (T : List (Addr × Str)) (W : WX) (f : Env → R (List D)) : TI := fun σ H R' => ∃ F S ρ, ER K mg T F S H σ ρ ∧
  match f ρ with
  | .ok ds => ∀ J S' H', Ext S S' → ER K mg T F S' H' σ ρ → ItD K mg S' J ds → ds.length ≤ sizeLine → R' J H'
  | .exc x => Fails K mg T W F S σ ρ x
  | .bad => False
section
variable {K : PySem.W.Frag} {mg : Str → Option Value} {S : Hp}
theorem itd_list {a : Addr} {vs : List V} {ds : List D} (h : S a = some (.lst vs)) (r : RepL K mg S vs ds) : ItD K mg S (Itl K a) ds := by
  intro S2 H2 e sb
  have hs : SqL K H2 a vs := .inl (.inl (sb _ _ (e _ _ h (ne_tbl_lst _))))
  refine ⟨fun i hi => ?_, ⟨vs, hs, by rw [r.length]; exact Nat.le_refl _⟩, fun i x H3 hi y => ?_⟩
  · have hv : i < vs.length := by rw [r.length]; exact hi
    exact ⟨vs, vs[i], hs, List.getElem?_eq_getElem hv⟩
  · obtain ⟨rfl, y⟩ := y
    obtain ⟨d, h1, h2⟩ := r.get (y vs hs)
    exact ⟨d, h1, .inl ⟨rfl, h2.ext e⟩⟩
theorem itd_tup {a : Addr} {vs : List V} {ds : List D} (h : SqT K S a vs) (r : RepL K mg S vs ds) : ItD K mg S (Itt K a) ds := by
  intro S2 H2 e sb
  have hs : SqT K H2 a vs := sb.ext.sqT (e.sqT h)
  refine ⟨fun i hi => ?_, ⟨vs, hs, by rw [r.length]; exact Nat.le_refl _⟩, fun i x H3 hi y => ?_⟩
  · have hv : i < vs.length := by rw [r.length]; exact hi
    exact ⟨vs, vs[i], hs, List.getElem?_eq_getElem hv⟩
  · obtain ⟨rfl, y⟩ := y
    obtain ⟨d, h1, h2⟩ := r.get (y vs hs)
    exact ⟨d, h1, .inl ⟨rfl, h2.ext e⟩⟩
theorem rngI_length (a b : Int) : (rngI a b).length = (b - a).toNat := by unfold rngI; rw [List.length_map, List.length_range]
theorem rngI_get {a b : Int} {i : Nat} (h : i < (b - a).toNat) : (rngI a b)[i]? = some (.int (a + i)) := by
  unfold rngI
  rw [List.getElem?_map, List.getElem?_range h]
  rfl
theorem itd_rng (a b : Int) : ItD K mg S (Itr a (b - a).toNat) (rngI a b) := by
  intro S2 H2 e sb
  rw [rngI_length]
  refine ⟨fun i hi => hi, Nat.le_refl _, fun i x H3 hi y => ?_⟩
  obtain ⟨rfl, rfl⟩ := y
  exact ⟨_, rngI_get hi, .inl ⟨rfl, .int _⟩⟩
end
section
variable {N fs : List Str} {T : List (Addr × Str)} {Φ : Str → List D → R D} {C : Str → Option D} {n : Nat} {lm : Bool} {W : WX} {sc : Scope} {X : Cx} (c : Cxt N fs T Φ C n lm W sc X) {pos p : Pos} {tg : Expr}
/-- the items of a walk, reckoned -/
def itF (Φ : Str → List D → R D) (C : Str → Option D) (k : IK) (a b : CE) : Env → R (List D) := fun ρ => (evE Φ C a ρ).bind fun x => (if isNo b = true then .ok .non else evE Φ C b ρ).bind fun y => itemsD k x y
theorem snd_seq {a b : CE} {x : Expr} (hb : isNo b = true) (ih : PE X x (tE X.K X.mg T W (evE Φ C a))) : PI X tg x (iD X.K X.mg T W (itF Φ C .seq a b)) := by
  refine ⟨fun pins s σ H R' I h => ?_⟩
  obtain ⟨F, S, ρ, E, p⟩ := h
  simp only [itF, hb, if_true, R.bind_ok] at p
  cases q : evE Φ C a ρ with
  | bad => rw [q] at p; exact p.elim
  | exc y =>
    rw [q] at p
    refine (pi_list ih).run pins s σ H R' I ⟨F, S, ρ, E, ?_⟩
    unfold PostE
    rw [q]
    exact p
  | ok d =>
    rw [q] at p
    simp only [R.bind_ok] at p
    cases d with
    | lst ds =>
      simp only [itemsD] at p
      refine (pi_list ih).run pins s σ H R' I ⟨F, S, ρ, E, ?_⟩
      unfold PostE
      rw [q]
      intro v S' H' e E' r
      cases r with
      | lst h z rl => exact ⟨_, rfl, ⟨_, .inl (.inl (E'.sub _ _ h))⟩, p _ S' H' e E' (itd_list h rl) (by rw [← rl.length]; exact z)⟩
    | tup ds =>
      simp only [itemsD] at p
      refine (pi_tup ih).run pins s σ H R' I ⟨F, S, ρ, E, ?_⟩
      unfold PostE
      rw [q]
      intro v S' H' e E' r
      cases r with
      | tup h z rl => exact ⟨_, rfl, ⟨_, E'.sub.ext.sqT h⟩, p _ S' H' e E' (itd_tup h rl) (by rw [← rl.length]; exact z)⟩
    | _ => simp only [itemsD] at p
include c
theorem snd_rng1 {a b : CE} {x : Expr} {f : Str} (hf : f = "range") (gf : isGlB sc f = true) (hb : isNo b = true) (go : good x = true) (ih : PE X x (tE X.K X.mg T W (evE Φ C a))) : PI X tg (.Call (.Name f p) [x] [] pos) (iD X.K X.mg T W (itF Φ C .rng1 a b)) := by
  subst hf
  refine PI_imp (pi_range1 (c.gl_ok gf).1 (c.nb _ (by decide +kernel)) (pa_cons ih pa_nil (star_ok go)) (star_ok go)) ?_
  rintro σ H R' ⟨F, S, ρ, E, p⟩
  simp only [itF, hb, if_true, R.bind_ok] at p
  refine ⟨F, S, ρ, E, ?_⟩
  unfold PostE
  cases q : evE Φ C a ρ with
  | bad => rw [q] at p; exact p.elim
  | exc y => rw [q] at p; exact p
  | ok d =>
    rw [q] at p
    simp only [R.bind_ok] at p
    intro v S' H' e E' r
    cases d <;> simp only [itemsD] at p
    rename_i i
    cases r
    split at p
    · rename_i ds hds
      split at hds <;> cases hds
      rename_i hbd
      obtain ⟨b1, b2⟩ := bnd_ok hbd
      refine ⟨i, rfl, by omega, by omega, ?_⟩
      have := p (Itr 0 (i - 0).toNat) S' H' e E' (itd_rng 0 i) (by rw [rngI_length]; exact small6 (by omega))
      simpa using this
    · rename_i hds
      split at hds <;> cases hds
    · exact p.elim
theorem snd_rng2 {a b : CE} {x y : Expr} {f : Str} (hf : f = "range") (gf : isGlB sc f = true) (hb : isNo b = false) (go : good x = true) (gy : good y = true) (ih : PE X x (tE X.K X.mg T W (evE Φ C a))) (ihb : PE X y (tE X.K X.mg T W (evE Φ C b))) : PI X tg (.Call (.Name f p) [x, y] [] pos) (iD X.K X.mg T W (itF Φ C .rng2 a b)) := by
  subst hf
  refine PI_imp (pi_range2 (c.gl_ok gf).1 (c.nb _ (by decide +kernel)) (pa_cons ih (pa_cons ihb pa_nil (star_ok gy)) (star_ok go)) (by rw [star_ok go, star_ok gy]; rfl) (star_ok gy)) ?_
  rintro σ H R' ⟨F, S, ρ, E, p⟩
  simp only [itF, hb, Bool.false_eq_true, if_false] at p
  refine ⟨F, S, ρ, E, ?_⟩
  unfold PostE
  cases q : evE Φ C a ρ with
  | bad => rw [q] at p; exact p.elim
  | exc y => rw [q] at p; exact p
  | ok d =>
    rw [q] at p
    simp only [R.bind_ok] at p
    intro v S1 H1 e1 E1 r1
    refine ⟨F, S1, ρ, E1, ?_⟩
    unfold PostE
    cases q2 : evE Φ C b ρ with
    | bad => rw [q2] at p; exact p.elim
    | exc y => rw [q2] at p; exact Fails.ext p e1
    | ok d2 =>
      rw [q2] at p
      simp only [R.bind_ok] at p
      intro v2 S2 H2 e2 E2 r2
      cases d <;> cases d2 <;> simp only [itemsD] at p
      rename_i i j
      cases r1
      cases r2
      split at p
      · rename_i ds hds
        split at hds <;> cases hds
        rename_i hbd
        obtain ⟨b1, b2⟩ := bnd_ok hbd.1
        obtain ⟨b3, b4⟩ := bnd_ok hbd.2
        exact ⟨i, j, rfl, ⟨by omega, by omega, by omega, by omega⟩, p (Itr i (j - i).toNat) S2 H2 (e1.trans e2) E2 (itd_rng i j) (by rw [rngI_length, sizeLine_eq]; omega)⟩
      · rename_i hds
        split at hds <;> cases hds
      · exact p.elim
end
end Lk
end Part_LkV
section Part_LkV2
set_option Elab.async false
set_option linter.all false
set_option maxRecDepth 100000
set_option maxHeartbeats 4000000
namespace Lk
open PySem PySem.Spec PyProof.Rows L2
theorem zipD_length : ∀ xs ys : List D, (zipD xs ys).length = min xs.length ys.length
  | [], _ => by simp [zipD]
  | _ :: _, [] => by simp [zipD]
  | x :: xs, y :: ys => by
    simp only [zipD, List.length_cons, zipD_length xs ys]
    omega
theorem zipD_get : ∀ {xs ys : List D} {i : Nat} {d e : D}, xs[i]? = some d → ys[i]? = some e → (zipD xs ys)[i]? = some (.tup [d, e])
  | [], _, _, _, _, h, _ => by simp at h
  | _ :: _, [], _, _, _, _, h => by simp at h
  | x :: xs, y :: ys, 0, d, e, h, k => by
    simp at h k
    subst h k
    rfl
  | x :: xs, y :: ys, i + 1, d, e, h, k => by
    simp only [zipD, List.getElem?_cons_succ] at h k ⊢
    exact zipD_get h k
theorem enmD_length : ∀ (k : Nat) (xs : List D), (enmD k xs).length = xs.length
  | _, [] => rfl
  | k, x :: xs => by simp only [enmD, List.length_cons, enmD_length (k + 1) xs]
theorem enmD_get : ∀ {xs : List D} {k i : Nat} {d : D}, xs[i]? = some d → (enmD k xs)[i]? = some (.tup [.int ((k + i : Nat) : Int), d])
  | [], _, _, _, h => by simp at h
  | x :: xs, k, 0, d, h => by
    simp at h
    subst h
    rfl
  | x :: xs, k, i + 1, d, h => by
    simp only [enmD, List.getElem?_cons_succ] at h ⊢
    rw [enmD_get h, show k + 1 + i = k + (i + 1) by omega]
section
variable {K : PySem.W.Frag} {mg : Str → Option Value} {S : Hp}
theorem ext_updN {S : Hp} {p : Addr} {o : HO} (h : S p = none) : Ext S (upd S p o) := fun b u e _ => by
  have : b ≠ p := fun z => by rw [z, h] at e; cases e
  rw [upd_ne this]
  exact e
theorem rep_seq {v : V} {d : D} {xs : List D} (r : Rep K mg S v d) (h : seqOf d = some xs) : ∃ t a us, v = .ref a ∧ (∀ S2 H2, Ext S S2 → Sub S2 H2 → Zp.SqV t K H2 a us) ∧ RepL K mg S us xs ∧ us.length ≤ sizeLine := by
  cases r <;> simp only [seqOf] at h <;> try (cases h; done)
  · rename_i a vs ds h1 z rl
    cases h
    exact ⟨false, a, vs, rfl, fun S2 H2 e sb => .inl (.inl (sb _ _ (e _ _ h1 (ne_tbl_lst _)))), rl, z⟩
  · rename_i a vs ds h1 z rl
    cases h
    exact ⟨true, a, vs, rfl, fun S2 H2 e sb => sb.ext.sqT (e.sqT h1), rl, z⟩
theorem itd_zip {t1 t2 : Bool} {a b : Addr} {us vs : List V} {xs ys : List D} (h1 : ∀ S2 H2, Ext S S2 → Sub S2 H2 → Zp.SqV t1 K H2 a us) (h2 : ∀ S2 H2, Ext S S2 → Sub S2 H2 → Zp.SqV t2 K H2 b vs) (r1 : RepL K mg S us xs) (r2 : RepL K mg S vs ys) :
    ItD K mg S (Zp.ItzG K t1 t2 a b) (zipD xs ys) := by
  intro S2 H2 e sb
  have s1 := h1 S2 H2 e sb
  have s2 := h2 S2 H2 e sb
  have l1 := r1.length
  have l2 := r2.length
  rw [zipD_length]
  refine ⟨fun i hi => ⟨us, vs, ⟨s1, s2⟩, by omega, by omega⟩, ⟨us, vs, ⟨s1, s2⟩, by omega⟩, fun i x H3 hi y => ?_⟩
  obtain ⟨T, ⟨u, v⟩, rfl, hT, rfl, g⟩ := y
  obtain ⟨g1, g2⟩ := g us vs s1 s2
  obtain ⟨d, hd, rd⟩ := r1.get g1
  obtain ⟨f, hf, rf⟩ := r2.get g2
  have nT : S2 T = none := by
    cases q : S2 T with
    | none => rfl
    | some o => rw [sb _ _ q] at hT; cases hT
  have ex : Ext S (upd S2 T (.tup [u, v])) := e.trans (ext_updN nT)
  refine ⟨_, zipD_get hd hf, .inr ⟨T, .tup [u, v], hT, rfl, (fun ps z => nomatch z), rfl, .tup (.inl (.inl (upd_same ..))) (by show 2 ≤ sizeLine; decide) (.cons (rd.ext ex) (.cons (rf.ext ex) .nil))⟩⟩
theorem itd_enm {a : Addr} {us : List V} {xs : List D} (h : S a = some (.lst us)) (r : RepL K mg S us xs) : ItD K mg S (Ite K a) (enmD 0 xs) := by
  intro S2 H2 e sb
  have hs : SqL K H2 a us := .inl (.inl (sb _ _ (e _ _ h (ne_tbl_lst _))))
  have l1 := r.length
  rw [enmD_length]
  refine ⟨fun i hi => ?_, ⟨us, hs, by omega⟩, fun i x H3 hi y => ?_⟩
  · have k1 : i < us.length := by omega
    exact ⟨us, us[i], hs, List.getElem?_eq_getElem k1⟩
  · obtain ⟨T, u, rfl, hT, rfl, g1⟩ := y
    obtain ⟨d, hd, rd⟩ := r.get (g1 us hs)
    have nT : S2 T = none := by
      cases q : S2 T with
      | none => rfl
      | some o => rw [sb _ _ q] at hT; cases hT
    have ex : Ext S (upd S2 T (.tup [.int (i : Nat), u])) := e.trans (ext_updN nT)
    have g := enmD_get (k := 0) hd
    rw [Nat.zero_add] at g
    refine ⟨_, g, .inr ⟨T, .tup [.int (i : Nat), u], hT, rfl, (fun ps z => nomatch z), rfl, .tup (.inl (.inl (upd_same ..))) (by show 2 ≤ sizeLine; decide) (.cons (.int _) (.cons (rd.ext ex) .nil))⟩⟩
end
section
variable {N fs : List Str} {T : List (Addr × Str)} {Φ : Str → List D → R D} {C : Str → Option D} {n : Nat} {lm : Bool} {W : WX} {sc : Scope} {X : Cx} (c : Cxt N fs T Φ C n lm W sc X) {pos p tpos : Pos} {elts : List Expr} {kk : Nat}
include c
theorem snd_zip {a b : CE} {x y : Expr} {f : Str} (hf : f = "zip") (gf : isGlB sc f = true) (hb : isNo b = false) (go : good x = true) (gy : good y = true) (ih : PE X x (tE X.K X.mg T W (evE Φ C a))) (ihb : PE X y (tE X.K X.mg T W (evE Φ C b))) : PI X (.Tuple elts kk tpos) (.Call (.Name f p) [x, y] [] pos) (iD X.K X.mg T W (itF Φ C .zip a b)) := by
  subst hf
  refine PI_imp (Zp.pi_zipG (c.gl_ok gf).1 (c.nb _ (by decide +kernel)) (pa_cons ih (pa_cons ihb pa_nil (star_ok gy)) (star_ok go)) (star_ok go) (back_ok fun z hz => by rw [List.mem_singleton.mp hz]; exact gy)) ?_
  rintro σ H R' ⟨F, S, ρ, E, p⟩
  simp only [itF, hb, Bool.false_eq_true, if_false] at p
  refine ⟨F, S, ρ, E, ?_⟩
  unfold PostE
  cases q : evE Φ C a ρ with
  | bad => rw [q] at p; exact p.elim
  | exc y => rw [q] at p; exact p
  | ok d =>
    rw [q] at p
    simp only [R.bind_ok] at p
    intro v S1 H1 e1 E1 r1
    refine ⟨F, S1, ρ, E1, ?_⟩
    unfold PostE
    cases q2 : evE Φ C b ρ with
    | bad => rw [q2] at p; exact p.elim
    | exc y => rw [q2] at p; exact Fails.ext p e1
    | ok d2 =>
      rw [q2] at p
      simp only [R.bind_ok] at p
      intro v2 S2 H2 e2 E2 r2
      simp only [itemsD] at p
      cases h1 : seqOf d with
      | none => rw [h1] at p; exact p.elim
      | some xs =>
        cases h2 : seqOf d2 with
        | none => rw [h1, h2] at p; exact p.elim
        | some ys =>
          rw [h1, h2] at p
          simp only at p
          obtain ⟨t1, a1, us, rfl, s1, ru, zu⟩ := rep_seq (r1.ext e2) h1
          obtain ⟨t2, a2, vs, rfl, s2, rv, zv⟩ := rep_seq r2 h2
          refine ⟨t1, t2, a1, a2, rfl, ⟨us, vs, s1 S2 H2 (.refl _) E2.sub, s2 S2 H2 (.refl _) E2.sub⟩, ?_⟩
          refine p _ S2 H2 (e1.trans e2) E2 (itd_zip s1 s2 ru rv) ?_
          rw [zipD_length, ← ru.length]
          exact Nat.le_trans (Nat.min_le_left _ _) zu
theorem snd_enm {a b : CE} {x : Expr} {f : Str} (hf : f = "enumerate") (gf : isGlB sc f = true) (hb : isNo b = true) (go : good x = true) (ih : PE X x (tE X.K X.mg T W (evE Φ C a))) : PI X (.Tuple elts kk tpos) (.Call (.Name f p) [x] [] pos) (iD X.K X.mg T W (itF Φ C .enm a b)) := by
  subst hf
  refine PI_imp (pi_enum (c.gl_ok gf).1 (c.nb _ (by decide +kernel)) (pa_cons ih pa_nil (star_ok go)) (star_ok go)) ?_
  rintro σ H R' ⟨F, S, ρ, E, p⟩
  simp only [itF, hb, if_true, R.bind_ok] at p
  refine ⟨F, S, ρ, E, ?_⟩
  unfold PostE
  cases q : evE Φ C a ρ with
  | bad => rw [q] at p; exact p.elim
  | exc y => rw [q] at p; exact p
  | ok d =>
    rw [q] at p
    simp only [R.bind_ok] at p
    intro v S' H' e E' r
    cases d <;> simp only [itemsD] at p
    cases r with
    | lst h z rl =>
      refine ⟨_, _, rfl, .inl (.inl (E'.sub _ _ h)), p _ S' H' e E' (itd_enm h rl) ?_⟩
      rw [enmD_length, ← rl.length]
      exact z
end
end Lk
end Part_LkV2
section Part_LkW
set_option Elab.async false
set_option linter.all false
set_option maxRecDepth 100000
set_option maxHeartbeats 4000000
namespace Lk
open PySem PySem.Spec PyProof.Rows L2
/-! ### comprehensions -/
def outD (f : D → R (Option D)) (d : D) : Option D :=
  match f d with
  | .ok o => o
  | _ => none
theorem lcM_ok {f : D → R (Option D)} : ∀ {ds ys : List D}, lcM f ds = .ok ys → (∀ (i : Nat) d, ds[i]? = some d → ∃ o, f d = .ok o) ∧ ys = ds.filterMap (outD f)
  | [], ys, h => by
    simp only [lcM] at h
    cases h
    exact ⟨fun i d e => by simp at e, rfl⟩
  | d :: ds, ys, h => by
    simp only [lcM] at h
    cases q : f d with
    | bad => rw [q] at h; cases h
    | exc c => rw [q] at h; cases h
    | ok o =>
      rw [q] at h
      simp only [noX, R.bind_ok] at h
      cases q2 : lcM f ds with
      | bad => rw [q2] at h; cases h
      | exc c => rw [q2] at h; cases h
      | ok zs =>
        rw [q2] at h
        obtain ⟨h1, h2⟩ := lcM_ok q2
        refine ⟨fun i e he => ?_, ?_⟩
        · cases i with
          | zero => cases he; exact ⟨o, q⟩
          | succ i => exact h1 i e (by simpa using he)
        · rw [List.filterMap_cons]
          have e1 : outD f d = o := by unfold outD; rw [q]
          rw [e1, ← h2]
          cases o <;> (cases h; rfl)
theorem lcM_noX {f : D → R (Option D)} {c : Str} : ∀ {ds : List D}, lcM f ds ≠ .exc c
  | [] => by simp [lcM]
  | d :: ds => by
    intro h
    simp only [lcM] at h
    cases q : f d with
    | bad => rw [q] at h; cases h
    | exc c => rw [q] at h; cases h
    | ok o =>
      rw [q] at h
      simp only [noX, R.bind_ok] at h
      cases q2 : lcM f ds with
      | bad => rw [q2] at h; cases h
      | exc c => exact lcM_noX q2
      | ok zs => rw [q2] at h; cases h
theorem setSh_wipe {own : List Nat} : ∀ {is : List Nat} {ds : List D} {ρ ρ' : Env}, setSh is ds ρ = .ok ρ' → is.all own.contains = true → wipeE ρ' own = wipeE ρ own
  | [], [], ρ, ρ', h, _ => by simp only [setSh] at h; cases h; rfl
  | [], _ :: _, _, _, h, _ => by simp [setSh] at h
  | _ :: _, [], _, _, h, _ => by simp [setSh] at h
  | i :: is, d :: ds, ρ, ρ', h, ho => by
    simp only [setSh] at h
    rw [List.all_cons, Bool.and_eq_true] at ho
    cases z : setL ρ i (.sh d) with
    | bad => rw [z] at h; cases h
    | exc c => rw [z] at h; cases h
    | ok r =>
      rw [z] at h
      obtain ⟨_, rfl⟩ := setL_ok z
      rw [setSh_wipe h ho.2, wipeE_set (by simpa using ho.1)]
theorem bindG_wipe {g : Tg} {d : D} {own : List Nat} {ρ ρ' : Env} (h : bindG g d ρ = .ok ρ') (ho : tgIn own g = true) : wipeE ρ' own = wipeE ρ own := by
  cases g with
  | nm i =>
    simp only [bindG] at h
    obtain ⟨_, rfl⟩ := setL_ok h
    exact wipeE_set (by simpa [tgIn] using ho) _
  | tp is =>
    cases d <;> simp only [bindG] at h <;> try (cases h; done)
    exact setSh_wipe h ho
  | ntp i is =>
    simp only [tgIn, Bool.and_eq_true] at ho
    simp only [bindG] at h
    unfold bindN at h
    split at h
    · rename_i d1 ds1
      cases z : setL ρ i (.sh d1) with
      | bad => rw [z] at h; cases h
      | exc c => rw [z] at h; cases h
      | ok r =>
        rw [z] at h
        obtain ⟨_, rfl⟩ := setL_ok z
        rw [setSh_wipe h ho.2, wipeE_set (by simpa using ho.1)]
    · cases h
section
variable {N fs : List Str} {T : List (Addr × Str)} {Φ : Str → List D → R D} {C : Str → Option D} {n : Nat} {lm : Bool} {W : WX} {sc : Scope} {X : Cx} (c : Cxt N fs T Φ C n lm W sc X) {pos p : Pos}
abbrev W0 : WX := fun _ _ _ _ => False
/-- the block's body: target, test, element -/
def bodyF (Φ : Str → List D → R D) (C : Str → Option D) (g : Tg) (own : List Nat) (c e : CE) (ρ : Env) (d : D) : R (Option D) :=
  (bindG g d (wipeE ρ own)).bind fun ρ' => (if isNo c = true then .ok true else (evE Φ C c ρ').bind asB).bind fun t => if t = true then (evE Φ C e ρ').bind fun z => .ok (some z) else .ok none
theorem ownS_snd (N : List Str) (own : List Nat) : (ownS N own).map (·.2) = own := by
  unfold ownS
  rw [List.map_map]
  exact List.map_id _
/-- the list that a comprehension makes -/
def lcF (Φ : Str → List D → R D) (C : Str → Option D) (k : IK) (a b : CE) (g : Tg) (own : List Nat) (ct ce : CE) : Env → R (List D) := fun ρ => if ownFree ρ own = true then (itF Φ C k a b ρ).bind fun ds => lcM (bodyF Φ C g own ct ce ρ) ds else .bad
theorem evE_lc (k : IK) (a b : CE) (g : Tg) (own : List Nat) (ct ce : CE) (ρ : Env) : evE Φ C (.lc k a b g own ct ce) ρ = (lcF Φ C k a b g own ct ce ρ).bind fun ys => .ok (.lst ys) := by
  simp only [evE, lcF]
  split
  · unfold itF
    rw [R.bind_assoc, R.bind_assoc]
    congr 1
    funext x
    rw [R.bind_assoc]
    rfl
  · rfl
def PostLc (K : PySem.W.Frag) (mg : Str → Option Value) (T : List (Addr × Str)) (W : WX) (F S : Hp) (σ : St) (ρ : Env) (own : List Nat) (r : R (List D)) (Q : VK) : Prop :=
  match r with
  | .ok ys => ownFree ρ own = true → ∀ l S1 H1 S2 vs H2, Ext S S1 → ER K mg T F S1 H1 σ ρ → H1 l = none → Ext S1 S2 → ER K mg T (upd F l (.lst vs)) S2 H2 (wipe σ own) (wipeE ρ own) → RepL K mg S2 vs ys → vs.length ≤ sizeLine → F l = none → Q (.ref l) H2
  | .exc c => Fails K mg T W F S σ ρ c
  | .bad => False
theorem lc_gen {K : PySem.W.Frag} {mg : Str → Option Value} {k : IK} {a b ce ct : CE} {g : Tg} {own : List Nat} {σ : St} {ρ : Env} {F S H : Hp} {Q : VK} (ho : tgIn own g = true) (E : ER K mg T F S H σ ρ)
    (p : PostLc K mg T W F S σ ρ own (lcF Φ C k a b g own ct ce ρ) Q) :
    tLc (iD K mg T W (itF Φ C k a b)) (gD K mg T g) (tT K mg T W0 fun ρ => if isNo ct = true then .ok true else (evE Φ C ct ρ).bind asB) (tE K mg T W0 (evE Φ C ce)) own σ H Q := by
  unfold lcF at p
  by_cases fr : ownFree ρ own = true
  case neg => rw [if_neg fr] at p; exact p.elim
  rw [if_pos fr] at p
  refine ⟨F, S, ρ, E, ?_⟩
  cases q : itF Φ C k a b ρ with
  | bad => rw [q] at p; exact p.elim
  | exc x => rw [q] at p; exact p
  | ok ds =>
    rw [q] at p
    simp only [R.bind_ok] at p
    intro J S1 H1 e1 E1 itd hz D hD
    cases ql : lcM (bodyF Φ C g own ct ce ρ) ds with
    | bad => rw [ql] at p; exact p.elim
    | exc x => exact absurd ql lcM_noX
    | ok ys =>
      rw [ql] at p
      obtain ⟨hall, hys⟩ := lcM_ok ql
      have fD : F D = none := by
        cases z : F D with
        | none => rfl
        | some o => rw [(E1.dis D o z).1] at hD; cases hD
      refine ⟨fun i m H => m = ds.length - i ∧ i ≤ ds.length ∧ ∃ S2 vs, Ext S1 S2 ∧ ER K mg T (upd F D (.lst vs)) S2 H (wipe σ own) (wipeE ρ own) ∧ RepL K mg S2 vs ((ds.take i).filterMap (outD (bodyF Φ C g own ct ce ρ))) ∧ vs.length ≤ i,
        ⟨ds.length, by simp, Nat.zero_le _, S1, [], .refl _, (E1.hold hD (ne_tbl_lst _)).wipe own, by simpa using RepL.nil, Nat.le_refl _⟩, ?_⟩
      rintro i m H2 ⟨rfl, hi, S2, vs, e2, E2, r2, hv⟩
      obtain ⟨g1, g2, g3⟩ := itd S2 H2 e2 E2.sub
      by_cases hlt : i < ds.length
      · refine .inr ⟨g1 i hlt, fun H' => ∃ S2 vs, Ext S1 S2 ∧ ER K mg T (upd F D (.lst vs)) S2 H' (wipe σ own) (wipeE ρ own) ∧ RepL K mg S2 vs ((ds.take (i + 1)).filterMap (outD (bodyF Φ C g own ct ce ρ))) ∧ vs.length ≤ i + 1,
          fun H' hN => ⟨ds.length - (i + 1), by omega, rfl, hlt, hN⟩, fun x H3 hy => ?_⟩
        obtain ⟨d, hd, hrep⟩ := g3 i x H3 hlt hy
        -- the state at the target
        have st : ∃ S3, Ext S2 S3 ∧ ER K mg T (upd F D (.lst vs)) S3 H3 (wipe σ own) (wipeE ρ own) ∧ Rep K mg S3 x d := by
          rcases hrep with ⟨rfl, hr⟩ | ⟨q1, o, hq, rfl, ht, rfl, hr⟩
          · exact ⟨S2, .refl _, E2, hr⟩
          · obtain ⟨E3, e3⟩ := E2.new (o := o) hq ht
            exact ⟨_, e3, E3, hr⟩
        obtain ⟨S3, e3, E3, r3⟩ := st
        obtain ⟨o, ho'⟩ := hall i d hd
        have etake : (ds.take (i + 1)).filterMap (outD (bodyF Φ C g own ct ce ρ)) = (ds.take i).filterMap (outD (bodyF Φ C g own ct ce ρ)) ++ (match o with | some z => [z] | none => []) := by
          rw [List.take_add_one, hd, List.filterMap_append]
          congr 1
          show List.filterMap _ [d] = _
          have : outD (bodyF Φ C g own ct ce ρ) d = o := by unfold outD; rw [ho']
          rw [List.filterMap_cons, this]
          cases o <;> rfl
        rw [etake]
        unfold bodyF at ho'
        refine ⟨upd F D (.lst vs), S3, wipeE ρ own, d, E3, r3, ?_⟩
        cases qg : bindG g d (wipeE ρ own) with
        | bad => rw [qg] at ho'; cases ho'
        | exc x => rw [qg] at ho'; cases ho'
        | ok ρ' =>
          rw [qg] at ho'
          simp only [R.bind_ok] at ho'
          intro σ' E4 hw
          have w1 : wipe σ' own = wipe σ own := by rw [hw own ho, wipe_twice]
          have w2 : wipeE ρ' own = wipeE ρ own := by rw [bindG_wipe qg ho, wipeE_twice]
          refine ⟨w1, ?_⟩
          refine ⟨upd F D (.lst vs), S3, ρ', E4, ?_⟩
          unfold PostT
          dsimp only
          cases qt : (if isNo ct = true then R.ok true else (evE Φ C ct ρ').bind asB) with
          | bad => rw [qt] at ho'; cases ho'
          | exc x => rw [qt] at ho'; cases ho'
          | ok t =>
            rw [qt] at ho'
            simp only [R.bind_ok] at ho'
            intro S5 H5 e5 E5
            cases t with
            | false =>
              simp only [Bool.false_eq_true, if_false] at ho' ⊢
              cases ho'
              have E6 := E5.wipe own
              rw [w1, w2] at E6
              exact ⟨S5, vs, e2.trans (e3.trans e5), E6, by rw [List.append_nil]; exact r2.ext (e3.trans e5), by omega⟩
            | true =>
              simp only [if_true] at ho' ⊢
              refine ⟨upd F D (.lst vs), S5, ρ', E5, ?_⟩
              unfold PostE
              cases qe : evE Φ C ce ρ' with
              | bad => rw [qe] at ho'; cases ho'
              | exc x => rw [qe] at ho'; cases ho'
              | ok z =>
                rw [qe] at ho'
                cases ho'
                intro y S6 H6 e6 E6 r6
                refine ⟨vs, (E6.dis D _ upd_same).1, ?_, ?_⟩
                · exact Nat.lt_of_le_of_lt hv (Nat.lt_of_lt_of_le hlt hz)
                · have E7 := (E6.rehold (o' := .lst (vs ++ [y])) (ne_tbl_lst _) (fun φ z => nomatch z) (ne_tbl_lst _)).wipe own
                  rw [w1, w2] at E7
                  refine ⟨S6, vs ++ [y], e2.trans (e3.trans (e5.trans e6)), E7, ?_, by rw [List.length_append]; simpa using hv⟩
                  exact (r2.ext (e3.trans (e5.trans e6))).append (.cons r6 .nil)
      · have ei : i = ds.length := by omega
        subst ei
        refine .inl ⟨g2, ?_⟩
        rw [List.take_length, ← hys] at r2
        exact p fr D S1 H1 S2 vs H2 e1 E1 hD e2 E2 r2 (Nat.le_trans hv hz) fD
theorem lc_read {K : PySem.W.Frag} {mg : Str → Option Value} {k : IK} {a b ce ct : CE} {g : Tg} {own : List Nat} {σ : St} {H : Hp} {Q : VK} (ho : tgIn own g = true)
    (h : tE K mg T W (evE Φ C (.lc k a b g own ct ce)) σ H Q) :
    tLc (iD K mg T W (itF Φ C k a b)) (gD K mg T g) (tT K mg T W0 fun ρ => if isNo ct = true then .ok true else (evE Φ C ct ρ).bind asB) (tE K mg T W0 (evE Φ C ce)) own σ H Q := by
  obtain ⟨F, S, ρ, E, p⟩ := h
  refine lc_gen ho E ?_
  rw [evE_lc] at p
  unfold PostLc
  cases q : lcF Φ C k a b g own ct ce ρ with
  | bad => rw [q] at p; exact p
  | exc x => rw [q] at p; exact p
  | ok ys =>
    rw [q] at p
    intro fr l S1 H1 S2 vs H2 e1 E1 hD e2 E2 r2 hz fD
    obtain ⟨E3, e3⟩ := E1.share e2 E2 fD (ne_tbl_lst _) fr
    exact p (.ref l) _ H2 (e1.trans (e2.trans e3)) E3 (.lst upd_same hz (r2.ext e3))
end
end Lk
end Part_LkW
section Part_LkX
set_option Elab.async false
set_option linter.all false
set_option maxRecDepth 100000
set_option maxHeartbeats 4000000
namespace Lk
open PySem PySem.Spec PyProof.Rows L2
def isBp : CE → Bool
  | .and _ _ => true
  | .or _ _ => true
  | .one _ => true
  | _ => false
section
variable {N fs : List Str} {T : List (Addr × Str)} {Φ : Str → List D → R D} {C : Str → Option D} {n : Nat} {lm : Bool} {W : WX} {sc : Scope} {X : Cx}
theorem evL_len : ∀ {cl : CL} {es : List Expr} {ρ : Env} {ds : List D}, chkL N fs lm sc cl es = true → evL Φ C cl ρ = .ok ds → ds.length = es.length
  | .nil, [], _, _, _, h => by simp only [evL] at h; cases h; rfl
  | .nil, _ :: _, _, _, h, _ => by simp [chkL] at h
  | .cons _ _, [], _, _, h, _ => by simp [chkL] at h
  | .cons e r, x :: xs, ρ, ds, h, q => by
    simp only [chkL, Bool.and_eq_true] at h
    simp only [evL] at q
    cases q1 : evE Φ C e ρ with
    | bad => rw [q1] at q; cases q
    | exc c => rw [q1] at q; cases q
    | ok d =>
      rw [q1] at q
      simp only [R.bind_ok] at q
      cases q2 : evL Φ C r ρ with
      | bad => rw [q2] at q; cases q
      | exc c => rw [q2] at q; cases q
      | ok es =>
        rw [q2] at q
        cases q
        exact congrArg (· + 1) (evL_len h.2 q2)
/-- the block of a comprehension -/
theorem Cxt.blk (c : Cxt N fs T Φ C n lm W sc X) {own : List (Str × Nat)} {scope : Scope} (ok : BlkOk X.N X.env.scope scope own) (s : Shared) (H : Hp) (Ca : Addr) (cl : List (Str × Addr)) (fp : List Addr) :
    Cxt N fs T Φ C n false W0 (relS scope sc) (X.blk s H scope (compEnvC scope cl Ca X.env) fp) := by
  have hs : (compEnvC scope cl Ca X.env).scope = relS scope X.env.scope := rfl
  refine ⟨c.hN, c.nd, ?_, ?_, c.calm, c.room, takesN0, c.nb, c.gl, c.fns, fun z => nomatch z⟩
  · show (compEnvC scope cl Ca X.env).scope = relS scope sc
    rw [hs, c.hsc]
  · show (compEnvC scope cl Ca X.env).scope.kind = .function
    rw [hs]
    exact ok.kind
theorem asg_blk {scope : Scope} (s : Shared) (H : Hp) (Ca : Addr) (cl : List (Str × Addr)) (fp : List Addr) : AsgOk (X.blk s H scope (compEnvC scope cl Ca X.env) fp) scope := by
  intro x hx
  have hs : (compEnvC scope cl Ca X.env).scope = relS scope X.env.scope := rfl
  have keep : ∀ k, k ≠ NameKind.free → scope.names.lookup x = some k → (compEnvC scope cl Ca X.env).scope.names.lookup x = some k := fun k hk h => by
    rw [hs]
    exact lookup_relS_keep hk h
  rcases hx with h | h
  · exact ⟨.inl (keep _ (by decide) h), .inr (keep _ (by decide) h)⟩
  · refine ⟨.inr (keep _ (by decide) h), .inl ?_⟩
    show (scope.names.lookup x == some .cell) = true
    rw [h]
    rfl
theorem PTs_imp {ifs : List Expr} {t t' : TT} (h : PTs X ifs t) (i : ∀ σ H Q, t' σ H Q → t σ H Q) : PTs X ifs t' := ⟨fun pins s σ H Q I q => h.run pins s σ H Q I (i σ H Q q)⟩
/-- the body of a lambda -/
theorem Cxt.lamb (c : Cxt N fs T Φ C n lm W sc X) {scope : Scope} (hl : LamX.lamSB sc scope = true) (A : Around) (outer : List PySem.Env) (s : Shared) (H : Hp) (E : XK) (f c' : Addr) (hr : Room (3 * n) (A.deeper (LamX.lamEnv X scope s.heap.objs.size f c'))) :
    Cxt N fs T Φ C n false (fun cls d _ H => E cls d H) scope (lamN X A outer s H E scope f c') := by
  have L := LamX.lamS_by hl
  exact ⟨c.hN, c.nd, rfl, L.kind, rfl, hr, L2N.takes_of rfl rfl rfl rfl, c.nb, c.gl, c.fns, fun z => nomatch z⟩
def SndE (ce : CE) : Prop := ∀ {N fs : List Str} {T : List (Addr × Str)} {Φ : Str → List D → R D} {C : Str → Option D} {n : Nat} {lm : Bool} {W : WX} {sc : Scope} {X : Cx} {e : Expr}, Cxt N fs T Φ C n lm W sc X → chk N fs lm sc ce e = true →
  PE X e (tE X.K X.mg T W (evE Φ C ce)) ∧ (tOk ce = true → PT X e (tT X.K X.mg T W fun ρ => (evE Φ C ce ρ).bind asB)) ∧ (isBp ce = true → PW X e (tT X.K X.mg T W fun ρ => (evE Φ C ce ρ).bind asB))
def SndL (cl : CL) : Prop := ∀ {N fs : List Str} {T : List (Addr × Str)} {Φ : Str → List D → R D} {C : Str → Option D} {n : Nat} {lm : Bool} {W : WX} {sc : Scope} {X : Cx} {es : List Expr}, Cxt N fs T Φ C n lm W sc X → chkL N fs lm sc cl es = true →
  PA X es (tA X.K X.mg T W (evL Φ C cl)) ∧ PA X es (tAB X.K X.mg T W (evLB Φ C cl))
theorem SndE.br {ce : CE} (h : SndE ce) {e : Expr} (c : Cxt N fs T Φ C n lm W sc X) (k : chk N fs lm sc ce e = true) : PE X e (tBr X.K X.mg T W fun ρ => brw ce ρ (evE Φ C ce ρ)) := snd_brw c k (h c k).1
/-- a value as it is, also as a test -/
theorem plainE {ce : CE} {e : Expr} (h : PE X e (tE X.K X.mg T W (evE Φ C ce))) (hb : isBp ce = false) (he : ∀ whole, isTrue e X.env whole = (do let v ← whole; standAt e.pos; holding [v] (truthy v))) :
    PE X e (tE X.K X.mg T W (evE Φ C ce)) ∧ (tOk ce = true → PT X e (tT X.K X.mg T W fun ρ => (evE Φ C ce ρ).bind asB)) ∧ (isBp ce = true → PW X e (tT X.K X.mg T W fun ρ => (evE Φ C ce ρ).bind asB)) :=
  ⟨h, fun _ => sndT_val h he, fun z => by rw [hb] at z; cases z⟩
theorem sE_no : SndE .no := by
  intro N fs T Φ C n lm W sc X e c h
  cases e <;> simp [chk] at h
theorem sE_var (i : Nat) : SndE (.var i) := by
  intro N fs T Φ C n lm W sc X e c h
  cases e <;> try (simp [chk] at h; done)
  exact plainE (snd_var c (by simpa [chk] using h)) rfl fun _ => rfl
theorem sE_cst (k : Cst) : SndE (.cst k) := by
  intro N fs T Φ C n lm W sc X e c h
  cases e <;> try (cases k <;> simp [chk] at h; done)
  rename_i v j p
  cases k <;> cases v <;> try (simp [chk] at h; done)
  · exact plainE (snd_cst pe_non (fun S => .non) _ fun ρ => by simp only [evE]; rfl) rfl fun _ => rfl
  · simp only [chk, beq_iff_eq] at h
    subst h
    exact plainE (snd_cst pe_bl (fun S => .bl _) _ fun ρ => by simp only [evE]; rfl) rfl fun _ => rfl
  · simp only [chk, decide_eq_true_eq] at h
    subst h
    exact plainE (snd_cst pe_int (fun S => .int _) _ fun ρ => by simp only [evE]; rfl) rfl fun _ => rfl
  · simp only [chk, decide_eq_true_eq] at h
    subst h
    exact plainE (snd_cst pe_str (fun S => .str _) _ fun ρ => by simp only [evE]; rfl) rfl fun _ => rfl
theorem sE_glb (x : Str) : SndE (.glb x) := by
  intro N fs T Φ C n lm W sc X e c h
  cases e <;> try (simp [chk] at h; done)
  simp only [chk, Bool.and_eq_true, decide_eq_true_eq] at h
  obtain ⟨rfl, h⟩ := h
  exact plainE (snd_glb c h) rfl fun _ => rfl
theorem sE_dfn (x : Str) : SndE (.dfn x) := by
  intro N fs T Φ C n lm W sc X e c h
  cases e <;> try (simp [chk] at h; done)
  simp only [chk, Bool.and_eq_true, decide_eq_true_eq] at h
  obtain ⟨⟨rfl, h⟩, h'⟩ := h
  exact plainE (snd_dfn c h h') rfl fun _ => rfl
theorem sE_lst {es : CL} (ih : SndL es) : SndE (.lst es) := by
  intro N fs T Φ C n lm W sc X e c h
  cases e <;> try (simp [chk] at h; done)
  simp only [chk, Bool.and_eq_true, decide_eq_true_eq] at h
  exact plainE (snd_lst (ih c h.1).1 fun ρ ds q => by rw [evL_len h.1 q]; exact h.2) rfl fun _ => rfl
theorem sE_tup {es : CL} (ih : SndL es) : SndE (.tup es) := by
  intro N fs T Φ C n lm W sc X e c h
  cases e <;> try (simp [chk] at h; done)
  simp only [chk, Bool.and_eq_true, decide_eq_true_eq] at h
  exact plainE (snd_tup (ih c h.1).1 fun ρ ds q => by rw [evL_len h.1 q]; exact h.2) rfl fun _ => rfl
theorem sE_bin {o : Bop} {a b : CE} (iha : SndE a) (ihb : SndE b) : SndE (.bin o a b) := by
  intro N fs T Φ C n lm W sc X e c h
  cases e <;> try (simp [chk] at h; done)
  simp only [chk, Bool.and_eq_true, decide_eq_true_eq] at h
  obtain ⟨⟨rfl, h1⟩, h2⟩ := h
  exact plainE (snd_bin (iha.br c h1) (ihb.br c h2)) rfl fun _ => rfl
theorem sE_neg {a : CE} (iha : SndE a) : SndE (.neg a) := by
  intro N fs T Φ C n lm W sc X e c h
  cases e <;> try (simp [chk] at h; done)
  rename_i op x p
  cases op <;> try (simp [chk] at h; done)
  simp only [chk] at h
  exact plainE (snd_neg (iha c h).1) rfl fun _ => rfl
theorem sE_cmp {o : Cop} {a b : CE} (iha : SndE a) (ihb : SndE b) : SndE (.cmp o a b) := by
  intro N fs T Φ C n lm W sc X e c h
  cases e <;> try (simp [chk] at h; done)
  rename_i x ops ys p
  match ops, ys, h with
  | [q], [y], h =>
    simp only [chk, Bool.and_eq_true, decide_eq_true_eq] at h
    obtain ⟨⟨rfl, h1⟩, h2⟩ := h
    have g := chk_good h2
    exact ⟨snd_cmp c g (iha.br c h1) (ihb.br c h2), fun _ => sndT_cmp c g (iha.br c h1) (ihb.br c h2), fun z => nomatch z⟩
  | [], _, h => simp [chk] at h
  | _ :: _ :: _, _, h => simp [chk] at h
  | [_], [], h => simp [chk] at h
  | [_], _ :: _ :: _, h => simp [chk] at h
theorem sE_chn {o o' : Cop} {a b d : CE} (iha : SndE a) (ihb : SndE b) (ihd : SndE d) : SndE (.chn o o' a b d) := by
  intro N fs T Φ C n lm W sc X e c h
  cases e <;> try (simp [chk] at h; done)
  rename_i x ops ys p
  match ops, ys, h with
  | [q, q'], [y, z], h =>
    simp only [chk, Bool.and_eq_true, decide_eq_true_eq] at h
    obtain ⟨⟨⟨⟨rfl, rfl⟩, h1⟩, h2⟩, h3⟩ := h
    have g := chk_good h3
    exact ⟨snd_chn c g (iha.br c h1) (ihb.br c h2) (ihd.br c h3), fun _ => sndT_chn c g (iha.br c h1) (ihb.br c h2) (ihd.br c h3), fun z => nomatch z⟩
  | [], _, h => simp [chk] at h
  | [_], _, h => simp [chk] at h
  | _ :: _ :: _ :: _, _, h => simp [chk] at h
  | [_, _], [], h => simp [chk] at h
  | [_, _], [_], h => simp [chk] at h
  | [_, _], _ :: _ :: _ :: _, h => simp [chk] at h
theorem tail_bp {b : CE} {op : BoolOp} {y : Expr} {r : List Expr} {pos : Pos} (h : chk N fs lm sc b (.BoolOp op (y :: r) pos) = true) : isBp b = true := by
  cases b <;> first | rfl | (simp [chk] at h; done) | (rename_i k; cases k <;> simp [chk] at h)
theorem sE_and {a b : CE} (iha : SndE a) (ihb : SndE b) : SndE (.and a b) := by
  intro N fs T Φ C n lm W sc X e c h
  cases e <;> try (simp [chk] at h; done)
  rename_i op vs p
  match op, vs, h with
  | .And, x :: y :: r, h =>
    simp only [chk, Bool.and_eq_true] at h
    obtain ⟨⟨h1, h2⟩, h3⟩ := h
    have w := sndW_and ((iha c h1).2.1 h2) ((ihb c h3).2.2 (tail_bp h3))
    exact ⟨snd_and (iha c h1).1 (ihb c h3).1, fun _ => w.pt, fun _ => w⟩
  | .And, [], h => simp [chk] at h
  | .And, [_], h => simp [chk] at h
  | .Or, _, h => simp [chk] at h
theorem sE_or {a b : CE} (iha : SndE a) (ihb : SndE b) : SndE (.or a b) := by
  intro N fs T Φ C n lm W sc X e c h
  cases e <;> try (simp [chk] at h; done)
  rename_i op vs p
  match op, vs, h with
  | .Or, x :: y :: r, h =>
    simp only [chk, Bool.and_eq_true] at h
    obtain ⟨⟨h1, h2⟩, h3⟩ := h
    have w := sndW_or ((iha c h1).2.1 h2) ((ihb c h3).2.2 (tail_bp h3))
    exact ⟨snd_or (iha c h1).1 (ihb c h3).1, fun _ => w.pt, fun _ => w⟩
  | .Or, [], h => simp [chk] at h
  | .Or, [_], h => simp [chk] at h
  | .And, _, h => simp [chk] at h
theorem sE_one {a : CE} (iha : SndE a) : SndE (.one a) := by
  intro N fs T Φ C n lm W sc X e c h
  cases e <;> try (simp [chk] at h; done)
  rename_i op vs p
  match vs, h with
  | [x], h =>
    simp only [chk, Bool.and_eq_true] at h
    have w : PW X (.BoolOp op [x] p) (tT X.K X.mg T W fun ρ => (evE Φ C (.one a) ρ).bind asB) := by
      have ht := (iha c h.1).2.1 h.2
      have e1 : (fun ρ => (evE Φ C (.one a) ρ).bind asB) = fun ρ => (evE Φ C a ρ).bind asB := by funext ρ; simp only [evE]
      rw [e1]
      cases op with
      | And => exact pw_and1 ht
      | Or => exact pw_or1 ht
    have e2 : evE Φ C (.one a) = evE Φ C a := by funext ρ; simp only [evE]
    refine ⟨?_, fun _ => w.pt, fun _ => w⟩
    rw [e2]
    exact pe_one (iha c h.1).1
  | [], h => simp [chk] at h
  | _ :: _ :: _, h => simp [chk] at h
theorem sE_not {a : CE} (iha : SndE a) : SndE (.not a) := by
  intro N fs T Φ C n lm W sc X e c h
  cases e <;> try (simp [chk] at h; done)
  rename_i op x p
  cases op <;> try (simp [chk] at h; done)
  simp only [chk, Bool.and_eq_true] at h
  exact ⟨snd_not (iha c h.1).1, fun _ => sndT_not ((iha c h.1).2.1 h.2), fun z => nomatch z⟩
theorem sE_ite {d a b : CE} (ihd : SndE d) (iha : SndE a) (ihb : SndE b) : SndE (.ite d a b) := by
  intro N fs T Φ C n lm W sc X e c h
  cases e <;> try (simp [chk] at h; done)
  simp only [chk, Bool.and_eq_true] at h
  obtain ⟨⟨⟨h1, h2⟩, h3⟩, h4⟩ := h
  exact ⟨snd_ite ((ihd c h1).2.1 h2) (iha c h3).1 (ihb c h4).1, (fun z => nomatch z), (fun z => nomatch z)⟩
theorem sE_sub {a b : CE} (iha : SndE a) (ihb : SndE b) : SndE (.sub a b) := by
  intro N fs T Φ C n lm W sc X e c h
  cases e <;> try (simp [chk] at h; done)
  simp only [chk, Bool.and_eq_true] at h
  exact plainE (snd_sub (chk_good h.2) (iha.br c h.1) (ihb.br c h.2)) rfl fun _ => rfl
theorem sE_slc {a lo hi : CE} (iha : SndE a) (ihl : SndE lo) (ihh : SndE hi) : SndE (.slc a lo hi) := by
  intro N fs T Φ C n lm W sc X e c h
  cases e <;> try (simp [chk] at h; done)
  rename_i x sl p
  cases sl <;> try (simp [chk] at h; done)
  rename_i l u st p2
  cases st <;> try (simp [chk] at h; done)
  simp only [chk, Bool.and_eq_true] at h
  obtain ⟨⟨h1, h2⟩, h3⟩ := h
  have pl : ∀ {o : CE} {r : Option Expr}, SndE o → (match r with | none => isNo o | some e => !isNo o && chk N fs lm sc o e) = true → PO X r (fun σ H Q => ∃ F S ρ, ER X.K X.mg T F S H σ ρ ∧ (match optI o (evE Φ C o ρ) with
      | .ok i => ∀ S' H', Ext S S' → ER X.K X.mg T F S' H' σ ρ → Q i H'
      | .exc x => Fails X.K X.mg T W F S σ ρ x
      | .bad => False)) := by
    intro o r ih hk
    cases r with
    | none => exact po_no hk
    | some e =>
      simp only [Bool.and_eq_true, Bool.not_eq_true'] at hk
      exact po_yes hk.1 (ih c hk.2).1
  exact plainE (snd_slc (tl := fun _ _ _ => True) (th := fun _ _ _ => True) (iha.br c h1) (pl ihl h2) (pl ihh h3)) rfl fun _ => rfl
theorem sE_cal {f : Str} {es : CL} (ih : SndL es) : SndE (.cal f es) := by
  intro N fs T Φ C n lm W sc X e c h
  cases es with
  | nil => cases e <;> simp [chk] at h
  | cons a r =>
    cases e <;> try (simp [chk] at h; done)
    rename_i fn args kws p
    cases fn <;> try (simp [chk] at h; done)
    rename_i x p1
    match args, kws, h with
    | e :: es, [], h =>
      simp only [chk, Bool.and_eq_true, decide_eq_true_eq] at h
      obtain ⟨⟨⟨⟨rfl, h1⟩, h2⟩, h3⟩, h4⟩ := h
      have hl : chkL N fs lm sc (.cons a r) (e :: es) = true := by simp only [chkL, Bool.and_eq_true]; exact ⟨h3, h4⟩
      exact plainE (snd_cal c h1 h2 (chk_good h3) (chkL_good h4) (ih c hl).1) rfl fun _ => rfl
    | [], _, h => simp [chk] at h
    | _ :: _, _ :: _, h => simp [chk] at h
theorem sE_bi {b : Bi} {es : CL} (ih : SndL es) : SndE (.bi b es) := by
  intro N fs T Φ C n lm W sc X e c h
  cases es with
  | nil => cases e <;> simp [chk] at h
  | cons a r =>
    cases e <;> try (simp [chk] at h; done)
    rename_i fn args kws p
    cases fn <;> try (simp [chk] at h; done)
    rename_i x p1
    match args, kws, h with
    | e :: es, [], h =>
      simp only [chk, Bool.and_eq_true, decide_eq_true_eq] at h
      obtain ⟨⟨⟨h1, h2⟩, h3⟩, h4⟩ := h
      have hl : chkL N fs lm sc (.cons a r) (e :: es) = true := by simp only [chkL, Bool.and_eq_true]; exact ⟨h3, h4⟩
      exact plainE (snd_bi c h1 h2 (chk_good h3) (chkL_good h4) (ih c hl).2) rfl fun _ => rfl
    | [], _, h => simp [chk] at h
    | _ :: _, _ :: _, h => simp [chk] at h
theorem sE_mth {m : Mt} {o a : CE} (iho : SndE o) (iha : SndE a) : SndE (.mth m o a) := by
  intro N fs T Φ C n lm W sc X e c h
  cases e <;> try (simp [chk] at h; done)
  rename_i fn args kws p
  cases fn <;> try (simp [chk] at h; done)
  rename_i x nm ap
  match args, kws, h with
  | [y], [], h =>
    simp only [chk, Bool.and_eq_true, decide_eq_true_eq] at h
    obtain ⟨⟨⟨⟨h1, h2⟩, h3⟩, h4⟩, h5⟩ := h
    exact plainE (snd_mth c h1 h2 h3 (chk_good h5) (iho.br c h4) (iha.br c h5)) rfl fun _ => rfl
  | [], _, h => simp [chk] at h
  | [_], _ :: _, h => simp [chk] at h
  | _ :: _ :: _, _, h => simp [chk] at h
theorem sE_rev {a : CE} (iha : SndE a) : SndE (.rev a) := by
  intro N fs T Φ C n lm W sc X e c h
  unfold chk at h
  split at h <;> try (first | (rename_i heq; cases heq; done) | (cases h; done))
  rename_i heq
  injection heq with e1
  subst e1
  exact plainE (snd_rev (iha.br c h)) rfl fun _ => rfl
theorem sE_lzip {a b : CE} (iha : SndE a) (ihb : SndE b) : SndE (.lzip a b) := by
  intro N fs T Φ C n lm W sc X e c h
  unfold chk at h
  split at h <;> try (first | (rename_i heq; cases heq; done) | (cases h; done))
  rename_i heq
  injection heq with e1 e2
  subst e1 e2
  simp only [Bool.and_eq_true, decide_eq_true_eq] at h
  obtain ⟨⟨⟨⟨⟨h1, h2⟩, h3⟩, h4⟩, h5⟩, h6⟩ := h
  exact plainE (snd_lzip c h1 h3 h2 h4 (chk_good h5) (chk_good h6) (iha.br c h5) (ihb.br c h6)) rfl fun _ => rfl
theorem sE_calv {i : Nat} {fl : List Str} {es : CL} (ih : SndL es) : SndE (.calv i fl es) := by
  intro N fs T Φ C n lm W sc X e c h
  cases es with
  | nil => cases e <;> simp [chk] at h
  | cons a r =>
    cases e <;> try (simp [chk] at h; done)
    rename_i fn args kws p
    cases fn <;> try (simp [chk] at h; done)
    rename_i x p1
    match args, kws, h with
    | e :: es, [], h =>
      simp only [chk, Bool.and_eq_true, List.all_eq_true, decide_eq_true_eq] at h
      obtain ⟨⟨⟨h1, h2⟩, h3⟩, h4⟩ := h
      have hl : chkL N fs lm sc (.cons a r) (e :: es) = true := by simp only [chkL, Bool.and_eq_true]; exact ⟨h3, h4⟩
      exact plainE (snd_calv c h1 h2 (chk_good h3) (chkL_good h4) (ih c hl).1) rfl fun _ => rfl
    | [], _, h => simp [chk] at h
    | _ :: _, _ :: _, h => simp [chk] at h
theorem sL_nil : SndL .nil := by
  intro N fs T Φ C n lm W sc X es c h
  cases es with
  | nil => exact ⟨snd_nil c, snd_nilB⟩
  | cons _ _ => simp [chkL] at h
theorem sL_cons {e : CE} {r : CL} (ihe : SndE e) (ihr : SndL r) : SndL (.cons e r) := by
  intro N fs T Φ C n lm W sc X es c h
  cases es with
  | nil => simp [chkL] at h
  | cons x xs =>
    simp only [chkL, Bool.and_eq_true] at h
    exact ⟨snd_cons c (chk_good h.1) (ihe c h.1).1 (ihr c h.2).1, snd_consB (chk_good h.1) (ihe.br c h.1) (ihr c h.2).2⟩
theorem sE_lrng {a : CE} (iha : SndE a) : SndE (.lrng a) := by
  intro N fs T Φ C n lm W sc X e c h
  unfold chk at h
  split at h <;> try (first | (rename_i heq; cases heq; done) | (cases h; done))
  rename_i heq
  injection heq with e1
  subst e1
  simp only [Bool.and_eq_true, decide_eq_true_eq] at h
  obtain ⟨⟨⟨⟨h1, h2⟩, h3⟩, h4⟩, h5⟩ := h
  exact plainE (snd_lrng c h1 h3 h2 h4 (chk_good h5) (iha c h5).1) rfl fun _ => rfl
theorem sE_trng {a : CE} (iha : SndE a) : SndE (.trng a) := by
  intro N fs T Φ C n lm W sc X e c h
  unfold chk at h
  split at h <;> try (first | (rename_i heq; cases heq; done) | (cases h; done))
  rename_i heq
  injection heq with e1
  subst e1
  simp only [Bool.and_eq_true, decide_eq_true_eq] at h
  obtain ⟨⟨⟨⟨h1, h2⟩, h3⟩, h4⟩, h5⟩ := h
  exact plainE (snd_trng c h1 h3 h2 h4 (chk_good h5) (iha c h5).1) rfl fun _ => rfl
theorem sE_sset {a : CE} (iha : SndE a) : SndE (.sset a) := by
  intro N fs T Φ C n lm W sc X e c h
  unfold chk at h
  split at h <;> try (first | (rename_i heq; cases heq; done) | (cases h; done))
  rename_i heq
  injection heq with e1
  subst e1
  simp only [Bool.and_eq_true, decide_eq_true_eq] at h
  obtain ⟨⟨⟨⟨h1, h2⟩, h3⟩, h4⟩, h5⟩ := h
  exact plainE (snd_sset c h1 h3 h2 h4 (chk_good h5) (iha.br c h5)) rfl fun _ => rfl
theorem sE_lset {a : CE} (iha : SndE a) : SndE (.lset a) := by
  intro N fs T Φ C n lm W sc X e c h
  unfold chk at h
  split at h <;> try (first | (rename_i heq; cases heq; done) | (cases h; done))
  rename_i heq
  injection heq with e1
  subst e1
  simp only [Bool.and_eq_true, decide_eq_true_eq] at h
  obtain ⟨⟨⟨⟨h1, h2⟩, h3⟩, h4⟩, h5⟩ := h
  exact plainE (snd_lset c h1 h3 h2 h4 (chk_good h5) (iha.br c h5)) rfl fun _ => rfl
theorem sE_srt {a : CE} (iha : SndE a) : SndE (.srt a) := by
  intro N fs T Φ C n lm W sc X e c h
  unfold chk at h
  split at h <;> try (first | (rename_i heq; cases heq; done) | (cases h; done))
  rename_i heq
  injection heq with e1
  subst e1
  simp only [Bool.and_eq_true, decide_eq_true_eq] at h
  obtain ⟨⟨h1, h2⟩, h3⟩ := h
  exact plainE (snd_srt c h1 h2 (chk_good h3) (iha.br c h3)) rfl fun _ => rfl
theorem sE_isi {a : CE} {t : String} (iha : SndE a) : SndE (.isi a t) := by
  intro N fs T Φ C n lm W sc X e c h
  unfold chk at h
  split at h <;> try (first | (rename_i heq; cases heq; done) | (cases h; done))
  rename_i heq
  injection heq with e1 e2
  subst e1 e2
  simp only [Bool.and_eq_true, decide_eq_true_eq] at h
  obtain ⟨⟨⟨⟨⟨h1, h2⟩, h3⟩, h4⟩, h5⟩, h6⟩ := h
  exact plainE (snd_isi c h1 h2 h4 h5 h6 (chk_good h3) (iha.br c h3)) rfl fun _ => rfl
theorem sE_told {a : CE} (iha : SndE a) : SndE (.told a) := by
  intro N fs T Φ C n lm W sc X e c h
  unfold chk at h
  split at h <;> try (first | (rename_i heq; cases heq; done) | (cases h; done))
  rename_i heq
  injection heq with e1
  subst e1
  simp only [Bool.and_eq_true, decide_eq_true_eq] at h
  obtain ⟨⟨⟨⟨h1, h2⟩, h3⟩, h4⟩, h5⟩ := h
  refine plainE ?_ rfl fun _ => rfl
  have e2 : evE Φ C (.told a) = fun ρ => toldR C (evE Φ C a ρ) := by funext ρ; simp only [evE]
  rw [e2]
  exact c.lam h3 (evE Φ C a) _ _ _ _ _ _ _ h1 (c.gl_ok h2).1 rfl h4 fun A outer s H E fa c' hr => (iha (c.lamb h4 A outer s H E fa c' hr) h5).1
/-- the walk of a for or a comprehension -/
theorem snd_it {k : IK} {a b : CE} {tg iter : Expr} (iha : SndE a) (ihb : SndE b) (c : Cxt N fs T Φ C n lm W sc X)
    (h : (match k, iter with
        | .seq, x => chk N fs lm sc a x && isNo b
        | .rng1, .Call (.Name f _) [x] [] _ => decide (f = ("range" : Str)) && isGlB sc f && chk N fs lm sc a x && isNo b
        | .rng2, .Call (.Name f _) [x, y] [] _ => decide (f = ("range" : Str)) && isGlB sc f && chk N fs lm sc a x && chk N fs lm sc b y
        | .zip, .Call (.Name f _) [x, y] [] _ => decide (f = ("zip" : Str)) && isGlB sc f && chk N fs lm sc a x && chk N fs lm sc b y && isTupE tg
        | .enm, .Call (.Name f _) [x] [] _ => decide (f = ("enumerate" : Str)) && isGlB sc f && chk N fs lm sc a x && isNo b && isTupE tg
        | _, _ => false) = true) : PI X tg iter (iD X.K X.mg T W (itF Φ C k a b)) ∧ good iter = true := by
  have nob : ∀ {e : Expr}, chk N fs lm sc b e = true → isNo b = false := fun {e} hb => by
    cases b <;> first | rfl | (cases e <;> simp [chk] at hb)
  split at h
  · simp only [Bool.and_eq_true] at h
    exact ⟨snd_seq h.2 (iha c h.1).1, chk_good h.1⟩
  · simp only [Bool.and_eq_true, decide_eq_true_eq] at h
    obtain ⟨⟨⟨h1, h2⟩, h3⟩, h4⟩ := h
    exact ⟨snd_rng1 c h1 h2 h4 (chk_good h3) (iha c h3).1, rfl⟩
  · simp only [Bool.and_eq_true, decide_eq_true_eq] at h
    obtain ⟨⟨⟨h1, h2⟩, h3⟩, h4⟩ := h
    exact ⟨snd_rng2 c h1 h2 (nob h4) (chk_good h3) (chk_good h4) (iha c h3).1 (ihb c h4).1, rfl⟩
  · simp only [Bool.and_eq_true, decide_eq_true_eq] at h
    obtain ⟨⟨⟨⟨h1, h2⟩, h3⟩, h4⟩, h5⟩ := h
    cases tg <;> try (cases h5; done)
    exact ⟨snd_zip c h1 h2 (nob h4) (chk_good h3) (chk_good h4) (iha c h3).1 (ihb c h4).1, rfl⟩
  · simp only [Bool.and_eq_true, decide_eq_true_eq] at h
    obtain ⟨⟨⟨⟨h1, h2⟩, h3⟩, h4⟩, h5⟩ := h
    cases tg <;> try (cases h5; done)
    exact ⟨snd_enm c h1 h2 h4 (chk_good h3) (iha c h3).1, rfl⟩
  · cases h
theorem sE_lc {k : IK} {a b : CE} {g : Tg} {own : List Nat} {ct ce : CE} (iha : SndE a) (ihb : SndE b) (ihc : SndE ct) (ihe : SndE ce) : SndE (.lc k a b g own ct ce) := by
  intro N fs T Φ C n lm W sc X e c h
  cases e <;> try (simp [chk] at h; done)
  rename_i elt gens scope p
  match gens, h with
  | [⟨tg, iter, ifs, as⟩], h =>
    unfold chk at h
    simp only [Bool.and_eq_true, decide_eq_true_eq] at h
    obtain ⟨⟨⟨⟨⟨⟨h0, h1⟩, h2⟩, h3⟩, h4⟩, h5⟩, h6⟩ := h
    subst h0
    have ok : BlkOk X.N X.env.scope scope (ownS N own) := by rw [c.hN, c.hsc]; exact blkOk_by h1
    obtain ⟨hi, gi⟩ := snd_it (tg := tg) iha ihb c h4
    refine plainE ?_ rfl fun _ => rfl
    have key := pe_lc (pos := p) (elt := elt) (ifs := ifs) (g := gD X.K X.mg T g) (tt := tT X.K X.mg T W0 fun ρ => if isNo ct = true then .ok true else (evE Φ C ct ρ).bind asB) (te := tE X.K X.mg T W0 (evE Φ C ce)) c.calm c.nd hi ok
      (fun s H Ca cl fp => snd_g (X := X.blk s H scope (compEnvC scope cl Ca X.env) fp) c.hN c.nd (asg_blk s H Ca cl fp) c.calm h2)
      (fun s H Ca cl fp => ?_)
      (fun s H Ca cl fp => (ihe (c.blk ok s H Ca cl fp) h6).1) (folded_ok gi)
    · rw [ownS_snd] at key
      exact PE_imp key fun σ H Q q => lc_read h3 q
    · match ifs, h5 with
      | [], h5 =>
        refine PTs_imp pts_nil ?_
        rintro σ H Q ⟨F, S, ρ, E, p⟩
        rw [show isNo ct = true from h5] at p
        exact p S H (.refl _) E
      | [z], h5 =>
        simp only [Bool.and_eq_true] at h5
        have nc : isNo ct = false := by cases ct <;> first | rfl | (simp [tOk] at h5)
        have e1 : (fun ρ => if isNo ct = true then R.ok true else (evE Φ C ct ρ).bind asB) = fun ρ => (evE Φ C ct ρ).bind asB := by
          funext ρ
          rw [nc]
          rfl
        rw [e1]
        exact pts_one ((ihc (c.blk ok s H Ca cl fp) h5.1).2.1 h5.2)
      | _ :: _ :: _, h5 => cases h5
  | [], h => simp [chk] at h
  | _ :: _ :: _, h => simp [chk] at h
end
mutual
theorem snd_E : ∀ ce : CE, SndE ce
  | .no => sE_no
  | .var i => sE_var i
  | .cst k => sE_cst k
  | .glb x => sE_glb x
  | .dfn x => sE_dfn x
  | .lst es => sE_lst (snd_Ls es)
  | .tup es => sE_tup (snd_Ls es)
  | .bin o a b => sE_bin (snd_E a) (snd_E b)
  | .neg a => sE_neg (snd_E a)
  | .cmp o a b => sE_cmp (snd_E a) (snd_E b)
  | .chn o p a b c => sE_chn (snd_E a) (snd_E b) (snd_E c)
  | .and a b => sE_and (snd_E a) (snd_E b)
  | .or a b => sE_or (snd_E a) (snd_E b)
  | .one a => sE_one (snd_E a)
  | .not a => sE_not (snd_E a)
  | .ite c a b => sE_ite (snd_E c) (snd_E a) (snd_E b)
  | .sub a i => sE_sub (snd_E a) (snd_E i)
  | .slc a lo hi => sE_slc (snd_E a) (snd_E lo) (snd_E hi)
  | .rev a => sE_rev (snd_E a)
  | .cal f es => sE_cal (snd_Ls es)
  | .calv i fl es => sE_calv (snd_Ls es)
  | .bi b es => sE_bi (snd_Ls es)
  | .mth m o a => sE_mth (snd_E o) (snd_E a)
  | .isi a t => sE_isi (snd_E a)
  | .lrng a => sE_lrng (snd_E a)
  | .trng a => sE_trng (snd_E a)
  | .lzip a b => sE_lzip (snd_E a) (snd_E b)
  | .sset a => sE_sset (snd_E a)
  | .srt a => sE_srt (snd_E a)
  | .lset a => sE_lset (snd_E a)
  | .lc k a b g own c e => sE_lc (snd_E a) (snd_E b) (snd_E c) (snd_E e)
  | .told e => sE_told (snd_E e)
theorem snd_Ls : ∀ cl : CL, SndL cl
  | .nil => sL_nil
  | .cons e r => sL_cons (snd_E e) (snd_Ls r)
end
end Lk
end Part_LkX
section Part_LkY
set_option Elab.async false
set_option linter.all false
set_option maxRecDepth 100000
set_option maxHeartbeats 4000000
namespace Lk
open PySem PySem.Spec PyProof.Rows L2
/-! ### statements told of data -/
section
variable (K : PySem.W.Frag) (mg : Str → Option Value) (T : List (Addr × Str)) (W : WX)
def PostS (F S : Hp) (o : Out) (Q : Ends) : Prop :=
  match o with
  | .nx ρ' => ∀ S' σ' H', Ext S S' → ER K mg T F S' H' σ' ρ' → Q.nx σ' H'
  | .rt d => ∀ v S' σ' ρ' H', Ext S S' → ER K mg T F S' H' σ' ρ' → Rep K mg S' v d → Q.rt v H'
  | .xc c ρ' => ∀ S' σ' H', Ext S S' → ER K mg T F S' H' σ' ρ' → ∃ C, mg c = some (.ref C) ∧ W (.ref C) none σ' H'
  | .bad => False
def tS (f : Env → Out) : TS := fun Q σ H => ∃ F S ρ, ER K mg T F S H σ ρ ∧ PostS K mg T W F S (f ρ) Q
end
section
variable {K : PySem.W.Frag} {mg : Str → Option Value} {T : List (Addr × Str)} {W : WX} {F S S' H H' : Hp} {σ σ' : St} {ρ ρ' : Env}
theorem PostS.ext {o : Out} {Q : Ends} (h : PostS K mg T W F S o Q) (e : Ext S S') : PostS K mg T W F S' o Q := by
  unfold PostS at *
  cases o with
  | nx ρ' => exact fun S2 σ2 H2 e2 => h S2 σ2 H2 (e.trans e2)
  | rt d => exact fun v S2 σ2 ρ2 H2 e2 => h v S2 σ2 ρ2 H2 (e.trans e2)
  | xc c ρ' => exact fun S2 σ2 H2 e2 => h S2 σ2 H2 (e.trans e2)
  | bad => exact h
/-- a reckoning ahead of a statement's end -/
theorem onE {f : Env → R D} {k : D → Out} {Q : Ends} {R' : V → Hp → Prop} (E : ER K mg T F S H σ ρ) (h : PostS K mg T W F S (onR ρ (f ρ) k) Q)
    (step : ∀ d v S' H', f ρ = .ok d → Ext S S' → ER K mg T F S' H' σ ρ → Rep K mg S' v d → PostS K mg T W F S (k d) Q → R' v H') : tE K mg T W f σ H R' := by
  refine ⟨F, S, ρ, E, ?_⟩
  unfold PostE
  cases q : f ρ with
  | ok d =>
    rw [q] at h
    exact fun v S' H' e E' r => step d v S' H' q e E' r h
  | exc c =>
    rw [q] at h
    exact fun S' H' e E' => h S' σ H' e E'
  | bad => rw [q] at h; exact h
theorem onT {f : Env → R Bool} {k : Bool → Out} {Q : Ends} {R' : Bool → Hp → Prop} (E : ER K mg T F S H σ ρ) (h : PostS K mg T W F S (onR ρ (f ρ) k) Q)
    (step : ∀ d S' H', f ρ = .ok d → Ext S S' → ER K mg T F S' H' σ ρ → PostS K mg T W F S (k d) Q → R' d H') : tT K mg T W f σ H R' := by
  refine ⟨F, S, ρ, E, ?_⟩
  unfold PostT
  cases q : f ρ with
  | ok d =>
    rw [q] at h
    exact fun S' H' e E' => step d S' H' q e E' h
  | exc c =>
    rw [q] at h
    exact fun S' H' e E' => h S' σ H' e E'
  | bad => rw [q] at h; exact h
theorem setO_nx {ρ ρ' : Env} {i : Nat} {s : Slot} {Q : Ends} (h : PostS K mg T W F S (setO ρ i s) Q) : i < ρ.length ∧ PostS K mg T W F S (.nx (ρ.set i s)) Q := by
  unfold setO at h
  cases q : setL ρ i s with
  | ok r =>
    obtain ⟨h1, rfl⟩ := setL_ok q
    rw [q] at h
    exact ⟨h1, h⟩
  | exc c => rw [q] at h; exact h.elim
  | bad => rw [q] at h; exact h.elim
/-- a new object that is the frame's own -/
theorem ER.alloc {p : Addr} {o : HO} (E : ER K mg T F S H σ ρ) (hp : H p = none) (ht : ∀ ps, o ≠ .tbl ps) : ER K mg T F S (upd H p o) σ ρ := by
  have hh : ∀ b u, H b = some u → upd H p o b = some u := fun b u e => by rw [upd_ne (ne_of_none e hp)]; exact e
  refine ⟨fun b u e => hh _ _ (E.sub _ _ e), fun b u e => ⟨hh _ _ (E.dis b u e).1, (E.dis b u e).2⟩, ⟨E.tab.tabs.ext hh, fun b ps q => ?_⟩, E.len, E.sl, fun i d e => ?_, E.inj⟩
  · by_cases hb : b = p
    · subst hb; rw [upd_same] at q; exact absurd (Option.some.inj q) (ht ps)
    · rw [upd_ne hb] at q; exact E.tab.tin b ps q
  obtain ⟨a, h1, h2, h3, h4⟩ := E.ow i d e
  exact ⟨a, h1, h2, h3, h4.ext (.refl _) fun o q => hh _ _ q⟩
/-- an object that nothing else holds -/
structure Lone (F S H : Hp) (σ : St) (ρ : Env) (p : Addr) (d : D) : Prop where
  s : S p = none
  f : F p = none
  o : Own K mg S H p d
  n : ∀ (i : Nat) (e : D), ρ[i]? = some (.ow e) → σ[i]? ≠ some (some (.ref p))
theorem ER.lone {p : Addr} {o : HO} {d : D} (E : ER K mg T F S H σ ρ) (hp : H p = none) (ho : Own K mg S (upd H p o) p d) : Lone (K := K) (mg := mg) F S (upd H p o) σ ρ p d := by
  refine ⟨sub_free E.sub hp, ?_, ho, fun i e h z => ?_⟩
  · cases q : F p with
    | none => rfl
    | some u => rw [(E.dis p u q).1] at hp; cases hp
  · obtain ⟨a, h1, h2, h3, h4⟩ := E.ow i e h
    rw [h1] at z
    cases z
    obtain ⟨o', h5, _⟩ := h4.get
    rw [h5] at hp
    cases hp
theorem ER.setOw {i : Nat} {p : Addr} {d : D} (E : ER K mg T F S H σ ρ) (hi : i < ρ.length) (l : Lone (K := K) (mg := mg) F S H σ ρ p d) : ER K mg T F S H (σ.set i (some (.ref p))) (ρ.set i (.ow d)) := by
  have hs : i < σ.length := by rw [E.len]; exact hi
  refine ⟨E.sub, E.dis, E.tab, by rw [List.length_set, List.length_set]; exact E.len, fun j e h => ?_, fun j e h => ?_, fun j k e e' a h1 h2 h3 h4 => ?_⟩
  · by_cases hj : i = j
    · subst hj
      rw [List.getElem?_set_self hi] at h
      cases h
    · rw [List.getElem?_set_ne hj] at h
      rw [List.getElem?_set_ne hj]
      exact E.sl j e h
  · by_cases hj : i = j
    · subst hj
      rw [List.getElem?_set_self hi] at h
      cases h
      exact ⟨p, List.getElem?_set_self hs, l.s, l.f, l.o⟩
    · rw [List.getElem?_set_ne hj] at h
      rw [List.getElem?_set_ne hj]
      exact E.ow j e h
  · by_cases nj : i = j
    · by_cases nk : i = k
      · rw [← nj, ← nk]
      · subst nj
        rw [List.getElem?_set_self hs] at h3
        cases h3
        rw [List.getElem?_set_ne nk] at h2 h4
        exact absurd h4 (l.n k e' h2)
    · by_cases nk : i = k
      · subst nk
        rw [List.getElem?_set_self hs] at h4
        cases h4
        rw [List.getElem?_set_ne nj] at h1 h3
        exact absurd h3 (l.n j e h1)
      · rw [List.getElem?_set_ne nj] at h1 h3
        rw [List.getElem?_set_ne nk] at h2 h4
        exact E.inj j k e e' a h1 h2 h3 h4
/-- the frame's own object is changed -/
theorem ER.change {i : Nat} {a : Addr} {d d' : D} {o' : HO} (E : ER K mg T F S H σ ρ) (hi : ρ[i]? = some (.ow d)) (ha : σ[i]? = some (some (.ref a))) (ht : ∀ o, H a = some o → (∀ ps, o ≠ .tbl ps) ∧ ∀ φ, o ≠ .ext φ) (ho : Own K mg S (upd H a o') a d') :
    ER K mg T F S (upd H a o') σ (ρ.set i (.ow d')) := by
  obtain ⟨b, h1, h2, h3, h4⟩ := E.ow i d hi
  rw [ha] at h1
  cases h1
  obtain ⟨o, h5, _⟩ := h4.get
  obtain ⟨t1, t2⟩ := ht o h5
  have il : i < ρ.length := (List.getElem?_eq_some_iff.mp hi).1
  have hne : ∀ c u, H c = some u → c ≠ a → upd H a o' c = some u := fun c u e n => by rw [upd_ne n]; exact e
  refine ⟨fun c u e => ?_, fun c u e => ?_, ?_, by rw [List.length_set]; exact E.len, fun j e h => ?_, fun j e h => ?_, fun j k e e' c q1 q2 q3 q4 => ?_⟩
  · exact hne _ _ (E.sub _ _ e) (fun z => by rw [z, h2] at e; cases e)
  · exact ⟨hne _ _ (E.dis c u e).1 (fun z => by rw [z, h3] at e; cases e), (E.dis c u e).2⟩
  · refine ⟨?_, fun b ps q => ?_⟩
    rotate_left
    · by_cases hb : b = a
      · obtain ⟨o2, y1, y2⟩ := ho.get
        subst hb
        rw [y1] at q
        exact absurd (Option.some.inj q) (y2 ps)
      · rw [upd_ne hb] at q; exact E.tab.tin b ps q
    intro t htm
    obtain ⟨ps, g1, g2, g3⟩ := E.tab.tabs t htm
    refine ⟨ps, hne _ _ g1 (fun z => by rw [z, h5] at g1; cases g1; exact t1 _ rfl), g2, fun pos cv hc => ?_⟩
    obtain ⟨cc, e1, e2⟩ := g3 pos cv hc
    exact ⟨cc, e1, hne _ _ e2 (fun z => by rw [z, h5] at e2; exact t2 _ (Option.some.inj e2))⟩
  · by_cases hj : i = j
    · subst hj
      rw [List.getElem?_set_self il] at h
      cases h
    · rw [List.getElem?_set_ne hj] at h
      exact E.sl j e h
  · by_cases hj : i = j
    · subst hj
      rw [List.getElem?_set_self il] at h
      cases h
      exact ⟨a, ha, h2, h3, ho⟩
    · rw [List.getElem?_set_ne hj] at h
      obtain ⟨c, g1, g2, g3, g4⟩ := E.ow j e h
      have nc : c ≠ a := fun z => hj (E.inj i j d e a hi h ha (by rw [← z]; exact g1))
      exact ⟨c, g1, g2, g3, g4.ext (.refl _) fun u q => hne _ _ q nc⟩
  · have f : ∀ (m : Nat) (x : D), (ρ.set i (.ow d'))[m]? = some (.ow x) → ∃ y, ρ[m]? = some (.ow y) := fun m x h => by
      by_cases hm : i = m
      · subst hm; exact ⟨d, hi⟩
      · rw [List.getElem?_set_ne hm] at h; exact ⟨x, h⟩
    obtain ⟨y1, r1⟩ := f j e q1
    obtain ⟨y2, r2⟩ := f k e' q2
    exact E.inj j k y1 y2 c r1 r2 q3 q4
/-- an own object is let go -/
theorem ER.rel (E : ER K mg T F S H σ ρ) (i : Nat) : ∃ S', Ext S S' ∧ ER K mg T F S' H σ (relE ρ i) := by
  unfold relE
  split
  · rename_i d hd
    obtain ⟨a, h1, h2, h3, h4⟩ := E.ow i d hd
    obtain ⟨o, h5, h6⟩ := h4.get
    have il : i < ρ.length := (List.getElem?_eq_some_iff.mp hd).1
    have ex : Ext S (upd S a o) := fun b u e _ => by rw [upd_ne (ne_of_none e h2)]; exact e
    refine ⟨upd S a o, ex, fun b u e => ?_, fun b u e => ?_, ⟨E.tab.tabs, fun b ps q => by rw [upd_ne (ne_of_none (E.tab.tin b ps q) h2)]; exact E.tab.tin b ps q⟩, by rw [List.length_set]; exact E.len, fun j e h => ?_, fun j e h => ?_, fun j k e e' c q1 q2 q3 q4 => ?_⟩
    · by_cases hb : b = a
      · subst hb; rw [upd_same] at e; rw [← e]; exact h5
      · rw [upd_ne hb] at e; exact E.sub _ _ e
    · have nb : b ≠ a := fun z => by rw [z, h3] at e; cases e
      exact ⟨(E.dis b u e).1, by rw [upd_ne nb]; exact (E.dis b u e).2⟩
    · by_cases hj : i = j
      · subst hj
        rw [List.getElem?_set_self il] at h
        cases h
        refine ⟨_, h1, ?_⟩
        cases d with
        | lst ds => obtain ⟨vs, q, z, r⟩ := h4; rw [h5] at q; cases q; exact .lst upd_same z (r.ext ex)
        | dK ks ds => obtain ⟨vs, q, k, z, r⟩ := h4; rw [h5] at q; cases q; exact .dK upd_same k z (r.ext ex)
        | dT ks ds => obtain ⟨vs, q, k, z, r⟩ := h4; rw [h5] at q; cases q; exact .dT upd_same k z (r.ext ex)
        | _ => exact h4.elim
      · rw [List.getElem?_set_ne hj] at h
        obtain ⟨v, g1, g2⟩ := E.sl j e h
        exact ⟨v, g1, g2.ext ex⟩
    · by_cases hj : i = j
      · subst hj
        rw [List.getElem?_set_self il] at h
        cases h
      · rw [List.getElem?_set_ne hj] at h
        obtain ⟨c, g1, g2, g3, g4⟩ := E.ow j e h
        have nc : c ≠ a := fun z => hj (E.inj i j d e a hd h h1 (by rw [← z]; exact g1))
        exact ⟨c, g1, by rw [upd_ne nc]; exact g2, g3, g4.ext ex fun u q => q⟩
    · have f : ∀ (m : Nat) (x : D), (ρ.set i (.sh d))[m]? = some (.ow x) → ρ[m]? = some (.ow x) := fun m x h => by
        by_cases hm : i = m
        · subst hm; rw [List.getElem?_set_self il] at h; cases h
        · rw [List.getElem?_set_ne hm] at h; exact h
      exact E.inj j k e e' c (f j e q1) (f k e' q2) q3 q4
  · exact ⟨S, .refl _, E⟩
end
end Lk
end Part_LkY
section Part_LkZ
set_option Elab.async false
set_option linter.all false
set_option maxRecDepth 100000
set_option maxHeartbeats 4000000
namespace Lk
open PySem PySem.Spec PyProof.Rows L2
/-! ### new objects that are to be a frame's own -/
section
variable (K : PySem.W.Frag) (mg : Str → Option Value) (T : List (Addr × Str)) (W : WX)
def tF (f : Env → R D) : TE := fun σ H Q => ∃ F S ρ, ER K mg T F S H σ ρ ∧
  match f ρ with
  | .ok d => ∀ p S' H', Ext S S' → ER K mg T F S' H' σ ρ → Lone (K := K) (mg := mg) F S' H' σ ρ p d → Q (.ref p) H'
  | .exc c => Fails K mg T W F S σ ρ c
  | .bad => False
end
section
variable {K : PySem.W.Frag} {mg : Str → Option Value} {T : List (Addr × Str)} {W : WX} {F S S' H H' : Hp} {σ σ' : St} {ρ ρ' : Env}
theorem own_lst {p : Addr} {vs : List V} {ds : List D} (z : vs.length ≤ sizeLine) (r : RepL K mg S vs ds) : Own K mg S (upd H p (.lst vs)) p (.lst ds) := ⟨vs, upd_same, z, r⟩
/-- what was held becomes one's own -/
theorem ER.unhold {p : Addr} {o : HO} {own : List Nat} (E0 : ER K mg T F S H σ ρ) (e : Ext S S') (E : ER K mg T (upd F p o) S' H' (L2.wipe σ own) (wipeE ρ own)) (fp : F p = none) (fr : ownFree ρ own = true) : ER K mg T F S' H' σ ρ := by
  obtain ⟨hp, sp⟩ := E.dis p o upd_same
  have notIn : ∀ (i : Nat) d, ρ[i]? = some (.ow d) → i ∉ own := fun i d h hi => by
    unfold ownFree at fr
    have := List.all_eq_true.mp fr i hi
    rw [h] at this
    simp [isOw] at this
  refine ⟨E.sub, fun b u q => ?_, E.tab, E0.len, fun i d h => ?_, fun i d h => ?_, E0.inj⟩
  · have nb : b ≠ p := fun z => by rw [z, fp] at q; cases q
    exact E.dis b u (by rw [upd_ne nb]; exact q)
  · obtain ⟨v, h1, h2⟩ := E0.sl i d h
    exact ⟨v, h1, h2.ext e⟩
  · have hi := notIn i d h
    obtain ⟨a, h1, h2, h3, h4⟩ := E.ow i d (by rw [wipeE_get]; simp only [hi, if_false]; exact h)
    rw [wipe_get] at h1
    simp only [hi, if_false] at h1
    have na : a ≠ p := fun z => by rw [z, upd_same] at h3; cases h3
    rw [upd_ne na] at h3
    exact ⟨a, h1, h2, h3, h4⟩
end
section
variable {N fs : List Str} {T : List (Addr × Str)} {Φ : Str → List D → R D} {C : Str → Option D} {n : Nat} {lm : Bool} {W : WX} {sc : Scope} {X : Cx}
theorem new_lst (c : Cxt N fs T Φ C n lm W sc X) {es : CL} {xs : List Expr} {pos : Pos} (h : chkL N fs lm sc es xs = true) (hl : xs.length ≤ 1000) : PE X (.List xs pos) (tF X.K X.mg T W (evE Φ C (.lst es))) := by
  refine PE_imp (pe_lst (snd_Ls es c h).1) ?_
  rintro σ H Q ⟨F, S, ρ, E, p⟩
  simp only [evE] at p
  refine ⟨F, S, ρ, E, ?_⟩
  unfold PostA
  cases q : evL Φ C es ρ with
  | bad => rw [q] at p; exact p
  | exc x => rw [q] at p; exact p
  | ok ds =>
    rw [q] at p
    intro vs S1 H1 e1 E1 r1
    have z : vs.length ≤ sizeLine := by rw [r1.length, evL_len h q]; exact small6 (Nat.le_trans hl (by decide))
    refine ⟨z, fun a ha => ?_⟩
    exact p a S1 _ e1 (E1.alloc ha (ne_tbl_lst _)) (E1.lone ha (own_lst z r1))
theorem new_lrng (c : Cxt N fs T Φ C n lm W sc X) {a : CE} {x : Expr} {f g : Str} {p p2 q pos : Pos} (hf : f = "list") (hg : g = "range") (gf : isGlB sc f = true) (gg : isGlB sc g = true) (h : chk N fs lm sc a x = true) :
    PE X (.Call (.Name f p) [.Call (.Name g p2) [x] [] q] [] pos) (tF X.K X.mg T W (evE Φ C (.lrng a))) := by
  subst hf hg
  refine PE_imp (pe_listRg c.calm (c.gl_ok gf).1 (c.nb _ (by decide +kernel)) (prg_1 (c.gl_ok gg).1 (c.nb _ (by decide +kernel)) (snd_E a c h).1 (star_ok (chk_good h)))) ?_
  rintro σ H Q ⟨F, S, ρ, E, p⟩
  simp only [evE] at p
  refine ⟨F, S, ρ, E, ?_⟩
  unfold PostE
  cases q : evE Φ C a ρ with
  | bad => rw [q] at p; exact p
  | exc x => rw [q] at p; exact p
  | ok d =>
    rw [q] at p
    intro v S1 H1 e1 E1 r1
    simp only [R.bind_ok] at p
    cases d <;> simp only [lrngD] at p <;> try (exact p.elim)
    rename_i i
    cases r1
    by_cases hb : bnd i = true
    · rw [if_pos hb] at p
      obtain ⟨b1, b2⟩ := bnd_ok hb
      refine ⟨i, rfl, ⟨by decide, by decide, by omega, by omega, by omega⟩, fun l hl => ?_⟩
      exact p l S1 _ e1 (E1.alloc hl (ne_tbl_lst _)) (E1.lone hl (own_lst (by rw [rgV_length]; exact small6 (by omega)) (rep_rng 0 i)))
    · rw [if_neg hb] at p
      exact p.elim
end
/-! ### what stands around statements -/
/-- a class of error that may be raised -/
structure RaiseOk (X : Cx) (x : Str) : Prop where
  ex : ∃ C, X.mg x = some (.ref C) ∧ PySem.W.excIn X.K C [.type "ValueError", .type "Exception", .type "BaseException", .type "object"] "ValueError.__new__" = true ∧ PySem.W.keepIn X.K (.ref C) = true ∧ Raises X (.ref C)
structure SCxt (N fs xs : List Str) (T : List (Addr × Str)) (Φ : Str → List D → R D) (C : Str → Option D) (n : Nat) (lm : Bool) (W : WX) (sc : Scope) (X : Cx) : Prop where
  c : Cxt N fs T Φ C n lm W sc X
  asg : AsgOk X sc
  own : PassesOwn (model X.prog X.w) X.A X.env X.xe
  rse : ∀ x ∈ xs, RaiseOk X x
section
variable {N fs xs : List Str} {T : List (Addr × Str)} {Φ : Str → List D → R D} {C : Str → Option D} {n : Nat} {lm : Bool} {W : WX} {sc : Scope} {X : Cx} (s : SCxt N fs xs T Φ C n lm W sc X) {pos p py : Pos}
include s
theorem SCxt.loc {i : Nat} {x : Str} (h : isLocB sc N i x = true) : X.N[i]? = some x ∧ Loc X.env.scope x ∧ (X.fn x = true ∨ X.env.scope.names.lookup x = some .local) := by
  simp only [isLocB, kindB, Bool.and_eq_true, Bool.or_eq_true, decide_eq_true_eq] at h
  obtain ⟨h1, h2⟩ := s.asg x h.2
  exact ⟨by rw [s.c.hN]; exact h.1, h1, h2⟩
theorem SCxt.sw {v : Expr} {x : Str} (g : good v = true) (h : swB sc v x py = false) (l : Nat) : swapsWith v (some (.Name x py)) l X.env = pure false := by
  by_cases hl : isLcE v = true
  · cases v <;> try (simp [isLcE] at hl; done)
    rename_i elt gens scope ps
    unfold swB kindB at h
    have hb : X.env.blockKind = .function := by unfold PySem.Env.blockKind; rw [s.c.kind]; rfl
    have e1 : (X.env.kindOf x == some .local) = decide (sc.names.lookup x = some .local) := by
      show (X.env.scope.names.lookup x == some .local) = _
      rw [s.c.hsc]
      cases q : sc.names.lookup x with
      | none => rfl
      | some k => cases k <;> rfl
    unfold swapsWith
    simp only [hb, Expr.pos]
    show pure ((ScopeKind.function == ScopeKind.function) && (X.env.kindOf x == some .local) && _ && _) = _
    rw [e1]
    simp only [Bool.and_assoc] at h ⊢
    show pure (true && _) = _
    rw [Bool.true_and, h]
  · exact swap_none g (by simpa using hl) _
end
end Lk
end Part_LkZ
section Part_LkZ2
set_option Elab.async false
set_option linter.all false
set_option maxRecDepth 100000
set_option maxHeartbeats 4000000
namespace Lk
open PySem PySem.Spec PyProof.Rows L2
section
variable {N fs xs : List Str} {T : List (Addr × Str)} {Φ : Str → List D → R D} {C : Str → Option D} {n : Nat} {lm : Bool} {W : WX} {sc : Scope} {X : Cx} (s : SCxt N fs xs T Φ C n lm W sc X) {pos p py : Pos}
theorem read_set {f : Env → R D} {i : Nat} {σ : St} {H : Hp} {Q : Ends} (h : tS X.K X.mg T W (fun ρ => onR ρ (f ρ) fun d => setO ρ i (.sh d)) Q σ H) : tAsg (tE X.K X.mg T W f) (gName i) Q σ H := by
  obtain ⟨F, S, ρ, E, p⟩ := h
  refine onE E p fun d v S1 H1 q1 e1 E1 r1 p1 => ?_
  obtain ⟨hi, p2⟩ := setO_nx (ρ' := ρ) p1
  exact p2 S1 _ H1 e1 (E1.setSh hi r1)
theorem read_setO {f : Env → R D} {i : Nat} {σ : St} {H : Hp} {Q : Ends} (h : tS X.K X.mg T W (fun ρ => onR ρ (f ρ) fun d => if ownable d = true then setO ρ i (.ow d) else .bad) Q σ H) : tAsg (tF X.K X.mg T W f) (gName i) Q σ H := by
  obtain ⟨F, S, ρ, E, p⟩ := h
  refine ⟨F, S, ρ, E, ?_⟩
  cases q : f ρ with
  | bad => simp only [q, onR] at p; exact p
  | exc x =>
    simp only [q, onR] at p
    exact fun S' H' e E' => p S' σ H' e E'
  | ok d =>
    simp only [q, onR] at p
    intro a S1 H1 e1 E1 l1
    by_cases ho : ownable d = true
    · rw [if_pos ho] at p
      obtain ⟨hi, p2⟩ := setO_nx (ρ' := ρ) p
      exact p2 S1 _ H1 e1 (E1.setOw hi l1)
    · rw [if_neg ho] at p
      exact p.elim
include s
theorem st_set {i : Nat} {e : CE} {x : Str} {v : Expr} (hx : isLocB sc N i x = true) (hv : chk N fs lm sc e v = true) (hs : swB sc v x py = false) : PS X (.Assign [.Name x py] v pos) (tS X.K X.mg T W (exS Φ C (.set i e))) := by
  obtain ⟨h1, h2, h3⟩ := s.loc hx
  refine PS_imp (ps_set s.c.nd h1 h2 (snd_E e s.c hv).1 (s.sw (chk_good hv) hs _) h3) fun σ H Q q => ?_
  have q' : tS X.K X.mg T W (fun ρ => onR ρ (evE Φ C e ρ) fun d => setO ρ i (.sh d)) Q σ H := by
    have e1 : exS Φ C (.set i e) = fun ρ => onR ρ (evE Φ C e ρ) fun d => setO ρ i (.sh d) := by funext ρ; simp only [exS]
    rw [← e1]; exact q
  exact read_set q'
omit s in
theorem lc_inv {lm : Bool} {e : CE} {v : Expr} (h : chk N fs lm sc e v = true) (hl : isLc e = true) : ∃ k a b g own ct ce elt tg iter ifs scope ps, e = .lc k a b g own ct ce ∧ v = .ListComp elt [⟨tg, iter, ifs, 0⟩] scope ps ∧ blkC N sc scope (ownS N own) = true ∧ chkG scope N g tg = true ∧ tgIn own g = true ∧
    (match k, iter with
        | .seq, x => chk N fs lm sc a x && isNo b
        | .rng1, .Call (.Name f _) [x] [] _ => decide (f = ("range" : Str)) && isGlB sc f && chk N fs lm sc a x && isNo b
        | .rng2, .Call (.Name f _) [x, y] [] _ => decide (f = ("range" : Str)) && isGlB sc f && chk N fs lm sc a x && chk N fs lm sc b y
        | .zip, .Call (.Name f _) [x, y] [] _ => decide (f = ("zip" : Str)) && isGlB sc f && chk N fs lm sc a x && chk N fs lm sc b y && isTupE tg
        | .enm, .Call (.Name f _) [x] [] _ => decide (f = ("enumerate" : Str)) && isGlB sc f && chk N fs lm sc a x && isNo b && isTupE tg
        | _, _ => false) = true ∧ (match ifs with | [] => isNo ct | [z] => chk N fs false (relS scope sc) ct z && tOk ct | _ => false) = true ∧ chk N fs false (relS scope sc) ce elt = true := by
  cases e <;> try (simp [isLc] at hl; done)
  rename_i k a b g own ct ce
  cases v <;> try (simp [chk] at h; done)
  rename_i elt gens scope ps
  match gens, h with
  | [⟨tg, iter, ifs, as⟩], h =>
    unfold chk at h
    simp only [Bool.and_eq_true, decide_eq_true_eq] at h
    obtain ⟨⟨⟨⟨⟨⟨h0, h1⟩, h2⟩, h3⟩, h4⟩, h5⟩, h6⟩ := h
    subst h0
    exact ⟨k, a, b, g, own, ct, ce, elt, tg, iter, ifs, scope, ps, rfl, rfl, h1, h2, h3, h4, h5, h6⟩
  | [], h => simp [chk] at h
  | _ :: _ :: _, h => simp [chk] at h
omit s in
theorem lc_tests {lm : Bool} {W : WX} (c : Cxt N fs T Φ C n lm W sc X) {scope : Scope} {ct : CE} {ifs : List Expr} {own : List (Str × Nat)} (ok : BlkOk X.N X.env.scope scope own) (h5 : (match ifs with | [] => isNo ct | [z] => chk N fs false (relS scope sc) ct z && tOk ct | _ => false) = true)
    (sh : Shared) (H : Hp) (Ca : Addr) (cl : List (Str × Addr)) (fp : List Addr) : PTs (X.blk sh H scope (compEnvC scope cl Ca X.env) fp) ifs (tT X.K X.mg T W0 fun ρ => if isNo ct = true then .ok true else (evE Φ C ct ρ).bind asB) := by
  match ifs, h5 with
  | [], h5 =>
    refine PTs_imp pts_nil ?_
    rintro σ H Q ⟨F, S, ρ, E, p⟩
    rw [show isNo ct = true from h5] at p
    exact p S H (.refl _) E
  | [z], h5 =>
    simp only [Bool.and_eq_true] at h5
    have nc : isNo ct = false := by cases ct <;> first | rfl | (simp [tOk] at h5)
    have e1 : (fun ρ => if isNo ct = true then R.ok true else (evE Φ C ct ρ).bind asB) = fun ρ => (evE Φ C ct ρ).bind asB := by
      funext ρ
      rw [nc]
      rfl
    rw [e1]
    exact pts_one ((snd_E ct (c.blk ok sh H Ca cl fp) h5.1).2.1 h5.2)
  | _ :: _ :: _, h5 => cases h5
theorem st_setLc {i : Nat} {e : CE} {x : Str} {v : Expr} (hx : isLocB sc N i x = true) (hl : isLc e = true) (hv : chk N fs lm sc e v = true) (hs : swB sc v x py = true) : PS X (.Assign [.Name x py] v pos) (tS X.K X.mg T W (exS Φ C (.setLc i e))) := by
  obtain ⟨k, a, b, g, own, ct, ce, elt, tg, iter, ifs, scope, ps, rfl, rfl, h1, h2, h3, h4, h5, h6⟩ := lc_inv hv hl
  obtain ⟨g1, g2, g3⟩ := s.loc hx
  have ok : BlkOk X.N X.env.scope scope (ownS N own) := by rw [s.c.hN, s.c.hsc]; exact blkOk_by h1
  obtain ⟨hi, gi⟩ := snd_it (tg := tg) (snd_E a) (snd_E b) s.c h4
  simp only [swB, kindB, Bool.and_eq_true, decide_eq_true_eq, Bool.not_eq_true'] at hs
  have hloc : X.env.scope.names.lookup x = some .local := by rw [s.c.hsc]; exact hs.1.1
  have key := ps_setLc (spos := pos) (elt := elt) (ifs := ifs) (g := gD X.K X.mg T g) (te := tE X.K X.mg T W0 (evE Φ C ce)) s.c.calm s.c.nd g1 hloc (sw_true s.c.kind hloc hs.1.2 hs.2) hi ok
    (fun sh H Ca cl fp => snd_g (X := X.blk sh H scope (compEnvC scope cl Ca X.env) fp) s.c.hN s.c.nd (asg_blk sh H Ca cl fp) s.c.calm h2)
    (fun sh H Ca cl fp => lc_tests s.c ok h5 sh H Ca cl fp)
    (fun sh H Ca cl fp => (snd_E ce (s.c.blk ok sh H Ca cl fp) h6).1) (folded_ok gi)
  rw [ownS_snd] at key
  refine PS_imp key fun σ H Q q => ?_
  have q' : tS X.K X.mg T W (fun ρ => onR ρ (evE Φ C (.lc k a b g own ct ce) ρ) fun d => setO ρ i (.sh d)) Q σ H := by
    have e1 : exS Φ C (.setLc i (.lc k a b g own ct ce)) = fun ρ => onR ρ (evE Φ C (.lc k a b g own ct ce) ρ) fun d => setO ρ i (.sh d) := by funext ρ; simp only [exS]
    rw [← e1]; exact q
  exact lc_read h3 (read_set q')
theorem st_expr {e : CE} {v : Expr} (hv : chk N fs lm sc e v = true) (hl : isLc e = false) : PS X (.Expr v pos) (tS X.K X.mg T W (exS Φ C (.expr e))) := by
  refine PS_imp (ps_expr (snd_E e s.c hv).1 (swap_none (chk_good hv) (by rw [chk_lc hv]; exact hl) _)) ?_
  rintro σ H Q ⟨F, S, ρ, E, p⟩
  simp only [exS] at p
  exact onE E p fun d v S1 H1 q1 e1 E1 r1 p1 => p1 S1 σ H1 e1 E1
theorem st_ret {e : CE} {v : Expr} (hv : chk N fs lm sc e v = true) : PS X (.Return (some v) pos) (tS X.K X.mg T W (exS Φ C (.ret e))) := by
  refine PS_imp (ps_ret (snd_E e s.c hv).1) ?_
  rintro σ H Q ⟨F, S, ρ, E, p⟩
  simp only [exS] at p
  exact onE E p fun d v S1 H1 q1 e1 E1 r1 p1 => p1 v S1 σ ρ H1 e1 E1 r1
omit s in
theorem st_iff {c : CE} {t e : CB} {z : Expr} {as bs : List Stmt} (hc : PT X z (tT X.K X.mg T W fun ρ => (evE Φ C c ρ).bind asB)) (ht : PSs X as (tS X.K X.mg T W (exB Φ C t))) (he : PSs X bs (tS X.K X.mg T W (exB Φ C e))) : PS X (.If z as bs pos) (tS X.K X.mg T W (exS Φ C (.iff c t e))) := by
  refine PS_imp (ps_if hc ht he) ?_
  rintro σ H Q ⟨F, S, ρ, E, p⟩
  simp only [exS] at p
  refine onT (f := fun ρ => (evE Φ C c ρ).bind asB) E p fun d S1 H1 q1 e1 E1 p1 => ?_
  cases d with
  | true =>
    simp only [if_true] at p1 ⊢
    exact ⟨F, S1, ρ, E1, p1.ext e1⟩
  | false =>
    simp only [Bool.false_eq_true, if_false] at p1 ⊢
    exact ⟨F, S1, ρ, E1, p1.ext e1⟩
/-- for -/
theorem st_for {k : IK} {a b : CE} {g : Tg} {body : CB} {tg iter : Expr} {sts : List Stmt} (hi : PI X tg iter (iD X.K X.mg T W (itF Φ C k a b))) (gi : good iter = true) (hg : PG X tg (gD X.K X.mg T g)) (hb : PSs X sts (tS X.K X.mg T W (exB Φ C body))) :
    PS X (.For tg iter sts [] pos) (tS X.K X.mg T W (exS Φ C (.for k a b g body))) := by
  refine PS_imp (ps_for s.own s.c.calm hi hg hb (folded_ok gi)) ?_
  rintro σ H Q ⟨F, S, ρ, E, p⟩
  simp only [exS] at p
  refine ⟨F, S, ρ, E, ?_⟩
  have p : PostS X.K X.mg T W F S (onR ρ (itF Φ C k a b ρ) fun ds => forM (fun d ρ => bindO g d ρ fun ρ' => exB Φ C body ρ') ds ρ) Q := p
  cases q : itF Φ C k a b ρ with
  | bad => rw [q] at p; exact p
  | exc x => rw [q] at p; exact fun S' H' e E' => p S' σ H' e E'
  | ok ds =>
    rw [q] at p
    simp only [onR] at p
    intro J S1 H1 e1 E1 itd hz
    refine ⟨fun i m σ2 H2 => m = ds.length - i ∧ i ≤ ds.length ∧ ∃ S2 ρ2, Ext S1 S2 ∧ ER X.K X.mg T F S2 H2 σ2 ρ2 ∧ PostS X.K X.mg T W F S2 (forM (fun d ρ => bindO g d ρ fun ρ' => exB Φ C body ρ') (ds.drop i) ρ2) Q,
      ⟨ds.length, by simp, Nat.zero_le _, S1, ρ, .refl _, E1, by simpa using p.ext e1⟩, ?_⟩
    rintro i m σ2 H2 ⟨rfl, hi2, S2, ρ2, e2, E2, p2⟩
    obtain ⟨g1, g2, g3⟩ := itd S2 H2 e2 E2.sub
    by_cases hlt : i < ds.length
    · refine .inr ⟨g1 i hlt, fun σ' H' => ∃ S2 ρ2, Ext S1 S2 ∧ ER X.K X.mg T F S2 H' σ' ρ2 ∧ PostS X.K X.mg T W F S2 (forM (fun d ρ => bindO g d ρ fun ρ' => exB Φ C body ρ') (ds.drop (i + 1)) ρ2) Q,
        fun σ' H' hN => ⟨ds.length - (i + 1), by omega, rfl, hlt, hN⟩, fun x H3 hy => ?_⟩
      obtain ⟨d, hd, hrep⟩ := g3 i x H3 hlt hy
      have st : ∃ S3, Ext S2 S3 ∧ ER X.K X.mg T F S3 H3 σ2 ρ2 ∧ Rep X.K X.mg S3 x d := by
        rcases hrep with ⟨rfl, hr⟩ | ⟨q1, o, hq, rfl, ht, rfl, hr⟩
        · exact ⟨S2, .refl _, E2, hr⟩
        · obtain ⟨E3, e3⟩ := E2.new (o := o) hq ht
          exact ⟨_, e3, E3, hr⟩
      obtain ⟨S3, e3, E3, r3⟩ := st
      have ed : ds.drop i = d :: ds.drop (i + 1) := by
        rw [List.drop_eq_getElem_cons hlt]
        congr 1
        rw [List.getElem?_eq_getElem hlt] at hd
        exact Option.some.inj hd
      rw [ed] at p2
      simp only [forM] at p2
      refine ⟨F, S3, ρ2, d, E3, r3, ?_⟩
      have p3 := p2.ext e3
      cases qg : bindG g d ρ2 with
      | bad => simp only [bindO, qg, Out.andThen] at p3; exact p3
      | exc x => simp only [bindO, qg, Out.andThen] at p3; exact p3
      | ok ρ3 =>
        simp only [bindO, qg] at p3
        intro σ' E4 _
        refine ⟨F, S3, ρ3, E4, ?_⟩
        cases qb : exB Φ C body ρ3 with
        | bad => rw [qb] at p3; exact p3
        | rt d => rw [qb] at p3; exact p3
        | xc x ρx => rw [qb] at p3; exact p3
        | nx ρ4 =>
          rw [qb] at p3
          exact fun S5 σ5 H5 e5 E5 => ⟨S5, ρ4, e2.trans (e3.trans e5), E5, PostS.ext p3 e5⟩
    · have ei : i = ds.length := by omega
      subst ei
      refine .inl ⟨g2, ?_⟩
      rw [List.drop_length] at p2
      exact p2 S2 σ2 H2 (.refl _) E2
/-- while -/
theorem st_whl {c : CE} {body : CB} {z : Expr} {sts : List Stmt} (hc : PT X z (tT X.K X.mg T W fun ρ => (evE Φ C c ρ).bind asB)) (hb : PSs X sts (tS X.K X.mg T W (exB Φ C body))) : PS X (.While z sts [] pos) (tS X.K X.mg T W (exS Φ C (.whl c body))) := by
  refine PS_imp (ps_while s.own hc hb) ?_
  rintro σ H Q ⟨F, S, ρ, E, p⟩
  simp only [exS] at p
  refine ⟨fun m σ2 H2 => ∃ S2 ρ2, ER X.K X.mg T F S2 H2 σ2 ρ2 ∧ PostS X.K X.mg T W F S2 (whlM (fun ρ => (evE Φ C c ρ).bind asB) (fun ρ => exB Φ C body ρ) m ρ2) Q, ⟨fuel, S, ρ, E, p⟩, ?_⟩
  rintro m σ2 H2 ⟨S2, ρ2, E2, p2⟩
  cases m with
  | zero => exact p2.elim
  | succ m =>
    simp only [whlM] at p2
    refine onT (f := fun ρ => (evE Φ C c ρ).bind asB) E2 p2 fun d S3 H3 q3 e3 E3 p3 => ?_
    cases d with
    | false =>
      simp only [Bool.false_eq_true, if_false] at p3 ⊢
      exact p3 S3 σ2 H3 e3 E3
    | true =>
      simp only [if_true] at p3 ⊢
      refine ⟨fun σ' H' => ∃ S2 ρ2, ER X.K X.mg T F S2 H' σ' ρ2 ∧ PostS X.K X.mg T W F S2 (whlM (fun ρ => (evE Φ C c ρ).bind asB) (fun ρ => exB Φ C body ρ) m ρ2) Q, fun σ' H' hN => ⟨m, Nat.lt_succ_self m, hN⟩, F, S3, ρ2, E3, ?_⟩
      have p4 := p3.ext e3
      cases qb : exB Φ C body ρ2 with
      | bad => rw [qb] at p4; exact p4
      | rt d => rw [qb] at p4; exact p4
      | xc x ρx => rw [qb] at p4; exact p4
      | nx ρ4 =>
        rw [qb] at p4
        exact fun S5 σ5 H5 e5 E5 => ⟨S5, ρ4, E5, PostS.ext p4 e5⟩
theorem st_rse {c x : Str} {m : Str} {j : Nat} {p1 p2 p3 : Pos} (hc : c = x) (hx : c ∈ xs) (gx : isGlB sc x = true) : PS X (.Raise (some (.Call (.Name x p1) [.Constant (.str m) j p2] [] p3)) none pos) (tS X.K X.mg T W (exS Φ C (.rse c))) := by
  subst hc
  obtain ⟨h1, h2, h3⟩ := s.c.gl_ok gx
  obtain ⟨Ca, g1, g2, g3, g4⟩ := (s.rse c hx).ex
  refine PS_imp (L2N.ps_raise s.c.calm s.c.tk (L2N.pmk_own PySem.F.excBase_ValueError g2 g1 g3 g4 h1 h2)) ?_
  rintro σ H Q ⟨F, S, ρ, E, p⟩
  simp only [exS] at p
  obtain ⟨C', e1, e2⟩ := p S σ H (.refl _) E
  rw [g1] at e1
  cases e1
  exact e2
omit s in
theorem bl_nil : PSs X [] (tS X.K X.mg T W (exB Φ C .nil)) := by
  refine PSs_imp pss_nil ?_
  rintro σ H Q ⟨F, S, ρ, E, p⟩
  simp only [exB] at p
  exact p S σ H (.refl _) E
omit s in
theorem bl_cons {st : CS} {r : CB} {x : Stmt} {ys : List Stmt} (h1 : PS X x (tS X.K X.mg T W (exS Φ C st))) (h2 : PSs X ys (tS X.K X.mg T W (exB Φ C r))) : PSs X (x :: ys) (tS X.K X.mg T W (exB Φ C (.cons st r))) := by
  refine PSs_imp (pss_cons h1 h2) ?_
  rintro σ H Q ⟨F, S, ρ, E, p⟩
  simp only [exB] at p
  refine ⟨F, S, ρ, E, ?_⟩
  cases q : exS Φ C st ρ with
  | bad => rw [q] at p; exact p
  | rt d => rw [q] at p; exact p
  | xc x ρx => rw [q] at p; exact p
  | nx ρ4 =>
    rw [q] at p
    exact fun S5 σ5 H5 e5 E5 => ⟨F, S5, ρ4, E5, PostS.ext p e5⟩
omit s in
theorem ER.forget {K : PySem.W.Frag} {mg : Str → Option Value} {F S H : Hp} {σ : St} {ρ : Env} (E : ER K mg T F S H σ ρ) (i : Nat) : ER K mg T F S H σ (ρ.set i .no) := by
  have get : ∀ (j : Nat) (t : Slot), t ≠ .no → (ρ.set i .no)[j]? = some t → ρ[j]? = some t := fun j t ht h => by
    rw [List.getElem?_set] at h
    split at h
    · split at h
      · exact absurd (Option.some.inj h).symm ht
      · cases h
    · exact h
  refine ⟨E.sub, E.dis, E.tab, by rw [List.length_set]; exact E.len, fun j d h => E.sl j d (get j _ (fun z => nomatch z) h), fun j d h => E.ow j d (get j _ (fun z => nomatch z) h), fun j k d e a h1 h2 => E.inj j k d e a (get j _ (fun z => nomatch z) h1) (get k _ (fun z => nomatch z) h2)⟩
omit s in
theorem bl_del {i : Nat} {r : CB} {ys : List Stmt} (h2 : PSs X ys (tS X.K X.mg T W (exB Φ C r))) : PSs X ys (tS X.K X.mg T W (exB Φ C (.del i r))) := by
  refine PSs_imp h2 ?_
  rintro σ H Q ⟨F, S, ρ, E, p⟩
  simp only [exB] at p
  exact ⟨F, S, _, ER.forget E i, p⟩
omit s in
theorem st_opq {st : Stmt} : PS X st (tS X.K X.mg T W (exS Φ C .opq)) := by
  refine ⟨fun pins s σ H Q I h => ?_⟩
  obtain ⟨F, S, ρ, E, p⟩ := h
  simp only [exS] at p
  exact p.elim
omit s in
theorem bl_rel {i : Nat} {r : CB} {ys : List Stmt} (h2 : PSs X ys (tS X.K X.mg T W (exB Φ C r))) : PSs X ys (tS X.K X.mg T W (exB Φ C (.rel i r))) := by
  refine PSs_imp h2 ?_
  rintro σ H Q ⟨F, S, ρ, E, p⟩
  simp only [exB] at p
  obtain ⟨S', e, E'⟩ := E.rel i
  exact ⟨F, S', _, E', p.ext e⟩
end
end Lk
end Part_LkZ2
section Part_LkZ3
set_option Elab.async false
set_option linter.all false
set_option maxRecDepth 100000
set_option maxHeartbeats 4000000
namespace Lk
open PySem PySem.Spec PyProof.Rows L2
section
variable {N fs xs : List Str} {T : List (Addr × Str)} {Φ : Str → List D → R D} {C : Str → Option D} {n : Nat} {lm : Bool} {W : WX} {sc : Scope} {X : Cx} (s : SCxt N fs xs T Φ C n lm W sc X) {pos p py : Pos}
theorem lc_readF {K : PySem.W.Frag} {mg : Str → Option Value} {k : IK} {a b ce ct : CE} {g : Tg} {own : List Nat} {σ : St} {H : Hp} {Q : VK} (ho : tgIn own g = true)
    (h : tF K mg T W (evE Φ C (.lc k a b g own ct ce)) σ H Q) :
    tLc (iD K mg T W (itF Φ C k a b)) (gD K mg T g) (tT K mg T W0 fun ρ => if isNo ct = true then .ok true else (evE Φ C ct ρ).bind asB) (tE K mg T W0 (evE Φ C ce)) own σ H Q := by
  obtain ⟨F, S, ρ, E, p⟩ := h
  refine lc_gen ho E ?_
  rw [evE_lc] at p
  unfold PostLc
  cases q : lcF Φ C k a b g own ct ce ρ with
  | bad => rw [q] at p; exact p
  | exc x => rw [q] at p; exact p
  | ok ys =>
    rw [q] at p
    intro fr l S1 H1 S2 vs H2 e1 E1 hD e2 E2 r2 hz fD
    have E3 := E1.unhold e2 E2 fD fr
    obtain ⟨hp, sp⟩ := E2.dis l _ upd_same
    refine p l S2 H2 (e1.trans e2) E3 ⟨sp, fD, ⟨vs, hp, hz, r2⟩, fun i e hi z => ?_⟩
    obtain ⟨a', g1, g2, g3, g4⟩ := E1.ow i e hi
    rw [g1] at z
    cases z
    obtain ⟨o, g5, _⟩ := g4.get
    rw [g5] at hD
    cases hD
include s
theorem st_setLcO {i : Nat} {e : CE} {x : Str} {v : Expr} (hx : isLocB sc N i x = true) (hl : isLc e = true) (hv : chk N fs lm sc e v = true) (hs : swB sc v x py = true) : PS X (.Assign [.Name x py] v pos) (tS X.K X.mg T W (exS Φ C (.setLcO i e))) := by
  obtain ⟨k, a, b, g, own, ct, ce, elt, tg, iter, ifs, scope, ps, rfl, rfl, h1, h2, h3, h4, h5, h6⟩ := lc_inv hv hl
  obtain ⟨g1, g2, g3⟩ := s.loc hx
  have ok : BlkOk X.N X.env.scope scope (ownS N own) := by rw [s.c.hN, s.c.hsc]; exact blkOk_by h1
  obtain ⟨hi, gi⟩ := snd_it (tg := tg) (snd_E a) (snd_E b) s.c h4
  simp only [swB, kindB, Bool.and_eq_true, decide_eq_true_eq, Bool.not_eq_true'] at hs
  have hloc : X.env.scope.names.lookup x = some .local := by rw [s.c.hsc]; exact hs.1.1
  have key := ps_setLc (spos := pos) (elt := elt) (ifs := ifs) (g := gD X.K X.mg T g) (te := tE X.K X.mg T W0 (evE Φ C ce)) s.c.calm s.c.nd g1 hloc (sw_true s.c.kind hloc hs.1.2 hs.2) hi ok
    (fun sh H Ca cl fp => snd_g (X := X.blk sh H scope (compEnvC scope cl Ca X.env) fp) s.c.hN s.c.nd (asg_blk sh H Ca cl fp) s.c.calm h2)
    (fun sh H Ca cl fp => lc_tests s.c ok h5 sh H Ca cl fp)
    (fun sh H Ca cl fp => (snd_E ce (s.c.blk ok sh H Ca cl fp) h6).1) (folded_ok gi)
  rw [ownS_snd] at key
  refine PS_imp key fun σ H Q q => ?_
  have q' : tS X.K X.mg T W (fun ρ => onR ρ (evE Φ C (.lc k a b g own ct ce) ρ) fun d => if ownable d = true then setO ρ i (.ow d) else .bad) Q σ H := by
    have e1 : exS Φ C (.setLcO i (.lc k a b g own ct ce)) = fun ρ => onR ρ (evE Φ C (.lc k a b g own ct ce) ρ) fun d => if ownable d = true then setO ρ i (.ow d) else .bad := by funext ρ; simp only [exS]
    rw [← e1]; exact q
  exact lc_readF h3 (read_setO q')
omit s in
/-- what a fresh list is for -/
def PostF (K : PySem.W.Frag) (mg : Str → Option Value) (T : List (Addr × Str)) (W : WX) (F : Hp) (σ : St) (ρ : Env) (Q : VK) (S : Hp) : R D → Prop
  | .ok d => ∀ p S' H', Ext S S' → ER K mg T F S' H' σ ρ → Lone (K := K) (mg := mg) F S' H' σ ρ p d → Q (.ref p) H'
  | .exc c => Fails K mg T W F S σ ρ c
  | .bad => False
omit s in
theorem PostF.ext {K : PySem.W.Frag} {mg : Str → Option Value} {T : List (Addr × Str)} {W : WX} {F S S' : Hp} {σ : St} {ρ : Env} {Q : VK} {r : R D} (h : PostF K mg T W F σ ρ Q S r) (e : Ext S S') : PostF K mg T W F σ ρ Q S' r := by
  cases r with
  | ok d => exact fun p S2 H2 e2 => h p S2 H2 (e.trans e2)
  | exc c => exact Fails.ext h e
  | bad => exact h
omit s in
theorem brw_lst {es : CL} {ρ : Env} {d : D} (h : brw (.lst es) ρ (evE Φ C (.lst es) ρ) = .ok d) : ∃ ds, d = .lst ds := by
  simp only [brw, evE] at h
  cases q : evL Φ C es ρ with
  | ok ds => rw [q] at h; cases h; exact ⟨ds, rfl⟩
  | exc c => rw [q] at h; cases h
  | bad => rw [q] at h; cases h
omit s in
theorem new_cat {lm : Bool} {W : WX} (c : Cxt N fs T Φ C n lm W sc X) {a : CE} {es : CL} {x y : Expr} (h1 : chk N fs lm sc a x = true) (h2 : chk N fs lm sc (.lst es) y = true) : PE X (.BinOp x .Add y pos) (tF X.K X.mg T W (evE Φ C (.bin .add a (.lst es)))) := by
  refine PE_imp (pe_op (or_bin .add) (SndE.br (snd_E a) c h1) (SndE.br (snd_E (.lst es)) c h2)) ?_
  rintro σ H Q ⟨F, S, ρ, E, p⟩
  have p : PostF X.K X.mg T W F σ ρ Q S (evE Φ C (.bin .add a (.lst es)) ρ) := by
    unfold PostF
    exact p
  rw [evE] at p
  refine seqB (P := fun S r => PostF X.K X.mg T W F σ ρ Q S r) E (fun _ _ h => h) (fun _ h => h) p fun d v S1 H1 q1 e1 E1 r1 p1 => ?_
  refine seqB (P := fun S r => PostF X.K X.mg T W F σ ρ Q S r) E1 (fun _ _ h => h) (fun _ h => h) (PostF.ext p1 e1) fun d2 v2 S2 H2 q2 e2 E2 r2 p2 => ?_
  have p3 := PostF.ext p2 e2
  obtain ⟨ys, rfl⟩ := brw_lst q2
  cases d <;> simp only [binD] at p3 <;> try (exact p3.elim)
  rename_i xs
  split at p3
  · rename_i hl
    obtain ⟨a', vs, rfl, g1, z1, l1⟩ := (E2.rh (r1.ext e2))
    obtain ⟨b', us, rfl, g2, z2, l2⟩ := (E2.rh r2)
    have n1 := l1.length
    have n2 := l2.length
    refine .inr (.inr (.inl ⟨a', b', vs, us, rfl, rfl, g1, g2, small6 (by omega), fun p hp => ?_⟩))
    exact p3 p S2 _ (.refl _) (E2.alloc hp (ne_tbl_lst _)) (E2.lone hp (own_lst (by rw [List.length_append]; exact small6 (by omega)) (l1.append l2)))
  · exact p3.elim
omit s in
theorem new_rep {lm : Bool} {W : WX} (c : Cxt N fs T Φ C n lm W sc X) {b : CE} {es : CL} {x y : Expr} (h1 : chk N fs lm sc (.lst es) x = true) (h2 : chk N fs lm sc b y = true) : PE X (.BinOp x .Mult y pos) (tF X.K X.mg T W (evE Φ C (.bin .mul (.lst es) b))) := by
  refine PE_imp (pe_op (or_bin .mul) (SndE.br (snd_E (.lst es)) c h1) (SndE.br (snd_E b) c h2)) ?_
  rintro σ H Q ⟨F, S, ρ, E, p⟩
  have p : PostF X.K X.mg T W F σ ρ Q S (evE Φ C (.bin .mul (.lst es) b) ρ) := by
    unfold PostF
    exact p
  rw [evE] at p
  refine seqB (P := fun S r => PostF X.K X.mg T W F σ ρ Q S r) E (fun _ _ h => h) (fun _ h => h) p fun d v S1 H1 q1 e1 E1 r1 p1 => ?_
  refine seqB (P := fun S r => PostF X.K X.mg T W F σ ρ Q S r) E1 (fun _ _ h => h) (fun _ h => h) (PostF.ext p1 e1) fun d2 v2 S2 H2 q2 e2 E2 r2 p2 => ?_
  have p3 := PostF.ext p2 e2
  obtain ⟨xs, rfl⟩ := brw_lst q1
  cases d2 <;> simp only [binD] at p3 <;> try (exact p3.elim)
  rename_i k
  split at p3
  · rename_i hl
    obtain ⟨h0, hk1, hk2⟩ := hl
    obtain ⟨a', vs, rfl, g1, z1, l1⟩ := (E2.rh (r1.ext e2))
    have ek := (E2.rh r2).int
    rw [ek]
    have n1 := l1.length
    have a1 : k.toNat * vs.length ≤ 1000 * 1000 := Nat.mul_le_mul (by omega) (by omega)
    refine .inl (.inr (.inr (.inl ⟨a', k, vs, rfl, rfl, g1, by omega, by omega, ?_, fun p hp => ?_⟩)))
    · rw [Nat.mul_comm]; exact small6 (by omega)
    · exact p3 p S2 _ (.refl _) (E2.alloc hp (ne_tbl_lst _)) (E2.lone hp (own_lst (by rw [rep_len]; exact small6 (by omega)) (l1.rep k.toNat)))
  · exact p3.elim
omit s in
theorem new_ok {lm : Bool} {W : WX} (c : Cxt N fs T Φ C n lm W sc X) {e : CE} {v : Expr} (hv : chk N fs lm sc e v = true) (hn : isNew e = true) : PE X v (tF X.K X.mg T W (evE Φ C e)) := by
  cases e <;> try (simp [isNew] at hn; done)
  case lst es =>
    cases v <;> try (simp [chk] at hv; done)
    simp only [chk, Bool.and_eq_true, decide_eq_true_eq] at hv
    exact new_lst c hv.1 hv.2
  case bin o a b =>
    cases v <;> try (simp [chk] at hv; done)
    simp only [chk, Bool.and_eq_true, decide_eq_true_eq] at hv
    obtain ⟨⟨rfl, h1⟩, h2⟩ := hv
    cases o <;> try (simp [isNew] at hn; done)
    · cases b <;> try (simp [isNew] at hn; done)
      exact new_cat c h1 h2
    · cases a <;> try (simp [isNew] at hn; done)
      exact new_rep c h1 h2
  case lrng a =>
    unfold chk at hv
    split at hv <;> try (first | (rename_i heq; cases heq; done) | (cases hv; done))
    rename_i heq
    injection heq with e1
    subst e1
    simp only [Bool.and_eq_true, decide_eq_true_eq] at hv
    obtain ⟨⟨⟨⟨h1, h2⟩, h3⟩, h4⟩, h5⟩ := hv
    exact new_lrng c h1 h3 h2 h4 h5
  case lc k a b g own ct ce =>
    obtain ⟨k, a, b, g, own, ct, ce, elt, tg, iter, ifs, scope, ps, e0, rfl, h1, h2, h3, h4, h5, h6⟩ := lc_inv hv rfl
    injection e0 with z1 z2 z3 z4 z5 z6 z7
    subst z1 z2 z3 z4 z5 z6 z7
    have ok : BlkOk X.N X.env.scope scope (ownS N own) := by rw [c.hN, c.hsc]; exact blkOk_by h1
    obtain ⟨hi, gi⟩ := snd_it (tg := tg) (snd_E a) (snd_E b) c h4
    have key := pe_lc (pos := ps) (elt := elt) (ifs := ifs) (g := gD X.K X.mg T g) (te := tE X.K X.mg T W0 (evE Φ C ce)) c.calm c.nd hi ok
      (fun sh H Ca cl fp => snd_g (X := X.blk sh H scope (compEnvC scope cl Ca X.env) fp) c.hN c.nd (asg_blk sh H Ca cl fp) c.calm h2)
      (fun sh H Ca cl fp => lc_tests c ok h5 sh H Ca cl fp)
      (fun sh H Ca cl fp => (snd_E ce (c.blk ok sh H Ca cl fp) h6).1) (folded_ok gi)
    rw [ownS_snd] at key
    exact PE_imp key fun σ H Q q => lc_readF h3 q
theorem st_setO {i : Nat} {e : CE} {x : Str} {v : Expr} (hx : isLocB sc N i x = true) (hv : chk N fs lm sc e v = true) (hs : swB sc v x py = false) (hn : isNew e = true) : PS X (.Assign [.Name x py] v pos) (tS X.K X.mg T W (exS Φ C (.setO i e))) := by
  obtain ⟨h1, h2, h3⟩ := s.loc hx
  refine PS_imp (ps_set s.c.nd h1 h2 (new_ok s.c hv hn) (s.sw (chk_good hv) hs _) h3) fun σ H Q q => ?_
  have q' : tS X.K X.mg T W (fun ρ => onR ρ (evE Φ C e ρ) fun d => if ownable d = true then setO ρ i (.ow d) else .bad) Q σ H := by
    have e1 : exS Φ C (.setO i e) = fun ρ => onR ρ (evE Φ C e ρ) fun d => if ownable d = true then setO ρ i (.ow d) else .bad := by funext ρ; simp only [exS]
    rw [← e1]; exact q
  exact read_setO q'
omit s in
theorem owL_inv {o : Option Slot} (h : isOwL o = true) : ∃ ds, o = some (.ow (.lst ds)) := by
  cases o with
  | none => cases h
  | some t =>
    cases t with
    | no => cases h
    | sh d => cases h
    | ow d => cases d <;> first | exact ⟨_, rfl⟩ | cases h
omit s in
theorem lst_plain {o : HO} {vs : List V} (h : o = .lst vs) : (∀ ps, o ≠ .tbl ps) ∧ ∀ φ, o ≠ .ext φ := by
  subst h
  exact ⟨(fun _ z => nomatch z), (fun _ z => nomatch z)⟩
/-- the reading of a method's call upon one of the frame's own lists -/
theorem own_meth {i : Nat} {e : CE} {x m : Str} {v : Expr} {ap cp p1 : Pos} {id : String} {r : V → List V → Hp → VK → Prop} (slot : PySem.Slot "list" m id) (hty : typeOf (.builtin id) = pure (.type "method_descriptor")) (hm : MtR X id r)
    (hx : isVarB sc N i x = true) (hl : (ap.endLine == cp.line) = true) (hv : chk N fs lm sc e v = true) :
    PS X (.Expr (.Call (.Attribute (.Name x p1) m ap) [v] [] cp) pos) (tDrop (tBM X.K "list" r (tVar i) (tCons (tE X.K X.mg T W (evE Φ C e)) tNil))) := by
  obtain ⟨h1, h2, h3, h4⟩ := s.c.var_ok hx
  have gv := chk_good hv
  have few : ((backTo cp (starEach [v] X.env)).all (fun x => !x.1) && (backToKw cp (keywordEach [] X.env)).all (fun x => x.1.isSome) && decide ([v].length + ([] : List Keyword).length + (if ([] : List Keyword).isEmpty then 0 else 1) < 30)) = true := by
    rw [star_ok gv]
    rfl
  exact ps_expr (pe_bm PySem.F.plainAttrs_list slot hty hm (pe_var h1 h2 h3 h4) (pa_cons (snd_E e s.c hv).1 pa_nil (star_ok gv)) rfl few hl (star_ok gv) rfl) rfl
theorem st_app {i : Nat} {e : CE} {x m : Str} {v : Expr} {ap cp p1 : Pos} (hm : m = "append") (hx : isVarB sc N i x = true) (hl : (ap.endLine == cp.line) = true) (hv : chk N fs lm sc e v = true) : PS X (.Expr (.Call (.Attribute (.Name x p1) m ap) [v] [] cp) pos) (tS X.K X.mg T W (exS Φ C (.app i e))) := by
  subst hm
  refine PS_imp (own_meth s PySem.F.slot_list_append PySem.F.type_list_append mt_append hx hl hv) ?_
  rintro σ H Q ⟨F, S, ρ, E, p⟩
  simp only [exS] at p
  by_cases ho : isOwL ρ[i]? = true
  case neg => rw [if_neg ho] at p; exact p.elim
  rw [if_pos ho] at p
  obtain ⟨ds, hd⟩ := owL_inv ho
  obtain ⟨a, g1, g2, g3, vs, g4, g5, g6⟩ := E.ow i _ hd
  refine ⟨.ref a, g1, .inl ⟨rfl, _, .inl (.inl g4)⟩, ?_⟩
  refine onE E p fun d v S1 H1 q1 e1 E1 r1 p1 => ?_
  obtain ⟨a', k1, k2, k3, us, k4, k5, k6⟩ := E1.ow i _ hd
  rw [g1] at k1
  cases k1
  simp only [appD, hd] at p1
  by_cases hlen : ds.length < 1000000
  case neg => rw [if_neg hlen] at p1; exact p1.elim
  rw [if_pos hlen] at p1
  have el := k6.length
  refine ⟨a, us, v, rfl, rfl, k4, Nat.lt_of_lt_of_le (by omega : us.length < 1000000) (small6 (Nat.le_refl _)), ?_⟩
  exact p1 S1 σ _ e1 (E1.change hd g1 (fun o ho => lst_plain (by rw [k4] at ho; cases ho; rfl)) (own_lst (by rw [List.length_append]; exact small6 (by show us.length + 1 ≤ _; omega)) (k6.append (.cons r1 .nil))))
theorem st_ext {i : Nat} {e : CE} {x m : Str} {v : Expr} {ap cp p1 : Pos} (hm : m = "extend") (hx : isVarB sc N i x = true) (hl : (ap.endLine == cp.line) = true) (hv : chk N fs lm sc e v = true) : PS X (.Expr (.Call (.Attribute (.Name x p1) m ap) [v] [] cp) pos) (tS X.K X.mg T W (exS Φ C (.ext i e))) := by
  subst hm
  refine PS_imp (own_meth s PySem.F.slot_list_extend PySem.F.type_list_extend mt_extend hx hl hv) ?_
  rintro σ H Q ⟨F, S, ρ, E, p⟩
  simp only [exS] at p
  by_cases ho : isOwL ρ[i]? = true
  case neg => rw [if_neg ho] at p; exact p.elim
  rw [if_pos ho] at p
  obtain ⟨ds, hd⟩ := owL_inv ho
  obtain ⟨a, g1, g2, g3, vs, g4, g5, g6⟩ := E.ow i _ hd
  refine ⟨.ref a, g1, .inl ⟨rfl, _, .inl (.inl g4)⟩, ?_⟩
  refine onE E p fun d v S1 H1 q1 e1 E1 r1 p1 => ?_
  obtain ⟨a', k1, k2, k3, us, k4, k5, k6⟩ := E1.ow i _ hd
  rw [g1] at k1
  cases k1
  cases d <;> simp only [extD, hd] at p1 <;> try (exact p1.elim)
  rename_i es
  cases r1 with
  | @lst b ws _ h z rl =>
    by_cases hlen : ds.length + es.length < 1000000
    case neg => rw [if_neg hlen] at p1; exact p1.elim
    rw [if_pos hlen] at p1
    have el := k6.length
    have el2 := rl.length
    have zz : (us ++ ws).length ≤ sizeLine := by rw [List.length_append]; exact small6 (by omega)
    refine ⟨a, b, us, ws, rfl, rfl, k4, E1.sub _ _ h, by rw [← List.length_append]; exact zz, ?_⟩
    exact p1 S1 σ _ e1 (E1.change hd g1 (fun o ho => lst_plain (by rw [k4] at ho; cases ho; rfl)) (own_lst zz (k6.append rl)))
theorem st_sto {i : Nat} {k v : CE} {x : Str} {y w : Expr} {p1 p2 : Pos} (hx : isVarB sc N i x = true) (hk : chk N fs lm sc k y = true) (hv : chk N fs lm sc v w = true) (hl : isLc v = false) : PS X (.Assign [.Subscript (.Name x p1) y p2] w pos) (tS X.K X.mg T W (exS Φ C (.sto i k v))) := by
  obtain ⟨h1, h2, h3, h4⟩ := s.c.var_ok hx
  have gy := chk_good hk
  have gw := chk_good hv
  have ha : ∀ v, assign (.Subscript (.Name x p1) y p2) X.env v = (do
      let ov ← holding [v] (eval (.Name x p1) X.env)
      let iv ← holding [v, ov] (eval y X.env)
      standAt p2
      holding [v, ov, iv] (setItem ov iv v)
      release [v, ov, iv] []) := by
    intro v
    cases y <;> first | rfl | (simp [good] at gy)
  have hsw : swappedStores [.Subscript (.Name x p1) y p2] w X.env = pure none := by cases w <;> rfl
  refine PS_imp (ps_asg (snd_E v s.c hv).1 (pg_sub (pe_var h1 h2 h3 h4) (snd_E k s.c hk).1 set_list ha) (swap_none (l := pos.line) (env := X.env) gw (by rw [chk_lc hv]; exact hl) (some (.Subscript (.Name x p1) y p2))) hsw rfl) ?_
  rintro σ H Q ⟨F, S, ρ, E, p⟩
  simp only [exS] at p
  by_cases ho : isOwL ρ[i]? = true
  case neg => rw [if_neg ho] at p; exact p.elim
  rw [if_pos ho] at p
  obtain ⟨ds, hd⟩ := owL_inv ho
  refine onE E p fun d1 v1 S1 H1 q1 e1 E1 r1 p1 => ?_
  obtain ⟨a, g1, g2, g3, vs, g4, g5, g6⟩ := E1.ow i _ hd
  refine ⟨.ref a, g1, ?_⟩
  refine onE E1 (p1.ext e1) fun d2 v2 S2 H2 q2 e2 E2 r2 p2 => ?_
  obtain ⟨a', k1, k2, k3, us, k4, k5, k6⟩ := E2.ow i _ hd
  rw [g1] at k1
  cases k1
  cases d2 <;> simp only [stoD, hd] at p2 <;> try (exact p2.elim)
  rename_i j
  cases r2
  cases qi : ixN ds.length j with
  | none => rw [qi] at p2; exact p2.elim
  | some m =>
    rw [qi] at p2
    refine ⟨a, us, j, m, rfl, rfl, k4, by rw [k6.length]; exact qi, ?_⟩
    exact p2 S2 σ _ e2 (E2.change hd g1 (fun o ho => lst_plain (by rw [k4] at ho; cases ho; rfl)) (own_lst (by rw [List.length_set]; exact k5) (k6.set (r1.ext e2) m)))
theorem st_par {i j : Nat} {a b : CE} {x y : Str} {v w : Expr} {px py2 pt pt2 : Pos} {kt k2 : Nat} (hx : isLocB sc N i x = true) (lx : kindB sc x .local = true) (hy : isLocB sc N j y = true) (ly : kindB sc y .local = true) (hij : i ≠ j) (hline : (py2.line == px.line) = true)
    (hv : chk N fs lm sc a v = true) (hw : chk N fs lm sc b w = true) (hf : [v, w].all (foldedForSure 8) = false) (hc : [v, w].all (constantsAlone 8) = false) :
    PS X (.Assign [.Tuple [.Name x px, .Name y py2] kt pt] (.Tuple [v, w] k2 pt2) pos) (tS X.K X.mg T W (exS Φ C (.par i j a b))) := by
  obtain ⟨g1, g2, g3⟩ := s.loc hx
  obtain ⟨k1, k3, k4⟩ := s.loc hy
  have l1 : X.env.scope.names.lookup x = some .local := by rw [s.c.hsc]; exact of_decide_eq_true lx
  have l2 : X.env.scope.names.lookup y = some .local := by rw [s.c.hsc]; exact of_decide_eq_true ly
  have gv := chk_good hv
  have gw := chk_good hw
  have nxy : x ≠ y := fun z => hij (nodup_ix s.c.nd g1 (z ▸ k1))
  have sws : swappedStores [.Tuple [.Name x px, .Name y py2] kt pt] (.Tuple [v, w] k2 pt2) X.env = pure (some [x, y]) := by
    have hb : X.env.blockKind = .function := by unfold PySem.Env.blockKind; rw [s.c.kind]; rfl
    have e1 : X.env.kindOf x = some .local := l1
    have e2 : X.env.kindOf y = some .local := l2
    unfold swappedStores
    simp only [List.length_cons, List.length_nil, hb, hf, hc, List.head?_cons, Option.map_some, Option.getD_some, Expr.pos, List.filterMap_cons, List.filterMap_nil, e1, e2, beq_self_eq_true, Bool.true_and, hline, if_true]
    have ed : [x, y].eraseDups = [x, y] := by
      rw [List.eraseDups_cons, List.filter_cons]
      have : (!y == x) = true := by simp [Ne.symm nxy]
      rw [this]
      simp [List.eraseDups_cons]
    rw [ed, if_neg (by decide), if_neg ?_, if_neg (by simp)]
    · rfl
    · intro h
      rw [List.any_eq_true] at h
      obtain ⟨z, hz, h⟩ := h
      have gz : good z = true := by
        rcases List.mem_cons.mp hz with rfl | hz
        · exact gv
        · rw [List.mem_singleton.mp hz]; exact gw
      cases z <;> first | (simp [good] at gz; done) | (cases h; done)
  refine PS_imp (ps_par s.c.calm s.c.nd g1 k1 hij l1 l2 (pa_cons (snd_E a s.c hv).1 (pa_cons (snd_E b s.c hw).1 pa_nil (star_ok gw)) (star_ok gv)) sws rfl) ?_
  rintro σ H Q ⟨F, S, ρ, E, p⟩
  simp only [exS] at p
  refine onE E p fun d1 v1 S1 H1 q1 e1 E1 r1 p1 => ?_
  refine onE E1 (p1.ext e1) fun d2 v2 S2 H2 q2 e2 E2 r2 p2 => ?_
  refine ⟨v1, v2, rfl, ?_⟩
  have p3 := p2
  unfold setO at p3
  cases z : setL ρ i (.sh d1) with
  | bad => rw [z] at p3; exact p3.elim
  | exc c => rw [z] at p3; exact p3.elim
  | ok ρ1 =>
    rw [z] at p3
    obtain ⟨l3, rfl⟩ := setL_ok z
    simp only [Out.andThen] at p3
    cases z2 : setL (ρ.set i (.sh d1)) j (.sh d2) with
    | bad => rw [z2] at p3; exact p3.elim
    | exc c => rw [z2] at p3; exact p3.elim
    | ok ρ2 =>
      rw [z2] at p3
      obtain ⟨l4, rfl⟩ := setL_ok z2
      exact p3 S2 _ H2 e2 ((E2.setSh l3 (r1.ext e2)).setSh l4 r2)
theorem SCxt.no_swap {es : List Expr} {v : Expr} {k : Nat} {pt : Pos} (g : good v = true) (ht : noSwB sc es v = true) : swappedStores [.Tuple es k pt] v X.env = pure none := by
  cases v <;> try rfl
  rename_i vs k2 p2
  unfold noSwB at ht
  unfold swappedStores
  simp only [Bool.or_eq_true, decide_eq_true_eq] at ht
  split
  · rename_i ts ws heq
    cases heq
    split
    · rfl
    · split
      · rfl
      · dsimp only
        rcases ht with ht | ht
        · rw [if_pos ht]
          split <;> rfl
        · rw [if_pos ?_]
          · rename_i h1 h2
            simp only [Bool.or_eq_true, bne_iff_ne, ne_eq]
            refine .inl fun z => ?_
            have le : (es.filterMap fun
              | .Name id pos => if X.env.kindOf id == some .local && pos.line == (es.head?.map (·.pos.line)).getD 0 then some id else none
              | _ => none).length ≤ (es.filterMap fun
              | .Name id _ => if sc.names.lookup id = some .local then some id else none
              | _ => none).length := by
              generalize (es.head?.map (·.pos.line)).getD 0 = ln
              clear h1 h2 z ht
              induction es with
              | nil => exact Nat.le_refl _
              | cons e es ih =>
                cases e <;> simp only [List.filterMap_cons] <;> try exact ih
                rename_i id pos
                have e1 : X.env.kindOf id = sc.names.lookup id := by show X.env.scope.names.lookup id = _; rw [s.c.hsc]
                rw [e1]
                by_cases q : sc.names.lookup id = some .local
                · rw [if_pos q]
                  simp only [q, beq_self_eq_true, Bool.true_and]
                  by_cases l : (pos.line == ln) = true
                  · rw [if_pos l]
                    exact Nat.succ_le_succ ih
                  · rw [if_neg l]
                    exact Nat.le_succ_of_le ih
                · have zz : (sc.names.lookup id == some NameKind.local) = false := by
                    cases z : sc.names.lookup id with
                    | none => rfl
                    | some kk => cases kk <;> first | rfl | exact absurd z q
                  rw [if_neg q]
                  simp only [zz, Bool.false_and, Bool.false_eq_true, if_false]
                  exact ih
            exact Nat.lt_irrefl _ (Nat.lt_of_le_of_lt (Nat.le_trans (Nat.le_of_eq z.symm) le) ht)
  · rename_i h
    exact (h _ _ rfl).elim
theorem st_par3 {i j l : Nat} {a b c : CE} {x y z : Str} {u v w : Expr} {px py2 pz pt pt2 : Pos} {kt k2 : Nat} (hx : isLocB sc N i x = true) (lx : kindB sc x .local = true) (hy : isLocB sc N j y = true) (ly : kindB sc y .local = true) (hz : isLocB sc N l z = true) (lz : kindB sc z .local = true)
    (hij : i ≠ j) (hil : i ≠ l) (hjl : j ≠ l) (hline : (py2.line == px.line) = true) (hline2 : (pz.line == px.line) = true)
    (hu : chk N fs lm sc a u = true) (hv : chk N fs lm sc b v = true) (hw : chk N fs lm sc c w = true) (hf : [u, v, w].all (foldedForSure 8) = false) (hc : [u, v, w].all (constantsAlone 8) = false) :
    PS X (.Assign [.Tuple [.Name x px, .Name y py2, .Name z pz] kt pt] (.Tuple [u, v, w] k2 pt2) pos) (tS X.K X.mg T W (exS Φ C (.par3 i j l a b c))) := by
  obtain ⟨g1, g2, g3⟩ := s.loc hx
  obtain ⟨k1, k3, k4⟩ := s.loc hy
  obtain ⟨m1, m3, m4⟩ := s.loc hz
  have l1 : X.env.scope.names.lookup x = some .local := by rw [s.c.hsc]; exact of_decide_eq_true lx
  have l2 : X.env.scope.names.lookup y = some .local := by rw [s.c.hsc]; exact of_decide_eq_true ly
  have l3 : X.env.scope.names.lookup z = some .local := by rw [s.c.hsc]; exact of_decide_eq_true lz
  have gu := chk_good hu
  have gv := chk_good hv
  have gw := chk_good hw
  have nxy : x ≠ y := fun q => hij (nodup_ix s.c.nd g1 (q ▸ k1))
  have nxz : x ≠ z := fun q => hil (nodup_ix s.c.nd g1 (q ▸ m1))
  have nyz : y ≠ z := fun q => hjl (nodup_ix s.c.nd k1 (q ▸ m1))
  have sws : swappedStores [.Tuple [.Name x px, .Name y py2, .Name z pz] kt pt] (.Tuple [u, v, w] k2 pt2) X.env = pure (some [x, y, z]) := by
    have hb : X.env.blockKind = .function := by unfold PySem.Env.blockKind; rw [s.c.kind]; rfl
    have e1 : X.env.kindOf x = some .local := l1
    have e2 : X.env.kindOf y = some .local := l2
    have e3 : X.env.kindOf z = some .local := l3
    unfold swappedStores
    simp only [List.length_cons, List.length_nil, hb, hf, hc, List.head?_cons, Option.map_some, Option.getD_some, Expr.pos, List.filterMap_cons, List.filterMap_nil, e1, e2, e3, beq_self_eq_true, Bool.true_and, hline, hline2, if_true]
    have ed : [x, y, z].eraseDups = [x, y, z] := by
      have a1 : (!y == x) = true := by simp [Ne.symm nxy]
      have a2 : (!z == x) = true := by simp [Ne.symm nxz]
      have a3 : (!z == y) = true := by simp [Ne.symm nyz]
      rw [List.eraseDups_cons, List.filter_cons, if_pos a1, List.filter_cons, if_pos a2, List.filter_nil, List.eraseDups_cons, List.filter_cons, if_pos a3, List.filter_nil, List.eraseDups_cons, List.filter_nil, List.eraseDups_nil]
    rw [ed, if_neg (by decide), if_neg ?_, if_neg (by simp)]
    · rfl
    · intro h
      rw [List.any_eq_true] at h
      obtain ⟨q, hq, h⟩ := h
      have gz : good q = true := by
        rcases List.mem_cons.mp hq with rfl | hq
        · exact gu
        · rcases List.mem_cons.mp hq with rfl | hq
          · exact gv
          · rw [List.mem_singleton.mp hq]; exact gw
      cases q <;> first | (simp [good] at gz; done) | (cases h; done)
  refine PS_imp (ps_par3 s.c.calm s.c.nd g1 k1 m1 hij hil hjl l1 l2 l3 (pa_cons (snd_E a s.c hu).1 (pa_cons (snd_E b s.c hv).1 (pa_cons (snd_E c s.c hw).1 pa_nil (star_ok gw)) (star_ok gv)) (star_ok gu)) sws rfl) ?_
  rintro σ H Q ⟨F, S, ρ, E, p⟩
  simp only [exS] at p
  refine onE E p fun d1 v1 S1 H1 q1 e1 E1 r1 p1 => ?_
  refine onE E1 (p1.ext e1) fun d2 v2 S2 H2 q2 e2 E2 r2 p2 => ?_
  refine onE E2 (p2.ext e2) fun d3 v3 S3 H3 q3 e3 E3 r3 p3 => ?_
  refine ⟨v1, v2, v3, rfl, ?_⟩
  have p4 := p3
  unfold setO at p4
  cases z : setL ρ i (.sh d1) with
  | bad => rw [z] at p4; exact p4.elim
  | exc c => rw [z] at p4; exact p4.elim
  | ok ρ1 =>
    rw [z] at p4
    obtain ⟨l3, rfl⟩ := setL_ok z
    simp only [Out.andThen] at p4
    cases z2 : setL (ρ.set i (.sh d1)) j (.sh d2) with
    | bad => rw [z2] at p4; exact p4.elim
    | exc c => rw [z2] at p4; exact p4.elim
    | ok ρ2 =>
      rw [z2] at p4
      obtain ⟨l4, rfl⟩ := setL_ok z2
      simp only at p4
      cases z3 : setL ((ρ.set i (.sh d1)).set j (.sh d2)) l (.sh d3) with
      | bad => rw [z3] at p4; exact p4.elim
      | exc c => rw [z3] at p4; exact p4.elim
      | ok ρ3 =>
        rw [z3] at p4
        obtain ⟨l5, rfl⟩ := setL_ok z3
        exact p4 S3 _ H3 e3 (((E3.setSh l3 ((r1.ext e2).ext e3)).setSh l4 (r2.ext e3)).setSh l5 r3)
theorem st_unp {is : List Nat} {e : CE} {es : List Expr} {v : Expr} {k : Nat} {pt : Pos} (hn : chkNms sc N is es = true) (hv : chk N fs lm sc e v = true) (ht : noSwB sc es v = true) : PS X (.Assign [.Tuple es k pt] v pos) (tS X.K X.mg T W (exS Φ C (.unp is e))) := by
  obtain ⟨n1, n2⟩ := nms_each (env := X.env) hn
  have gv := chk_good hv
  have hsw : swappedStores [.Tuple es k pt] v X.env = pure none := s.no_swap gv ht
  have hs : swapsWithSole [.Tuple es k pt] v pos.line X.env = pure false := by cases v <;> first | rfl | (simp [good] at gv)
  have pgT := pg_tup (pos := pt) (k := k) s.c.calm (snd_nms (T := T) s.c.hN s.c.nd s.asg hn) n1 n2
  have pgL := pg_lst (pos := pt) (k := k) s.c.calm (snd_nms (T := T) s.c.hN s.c.nd s.asg hn) n1 n2
  have pg : PG X (.Tuple es k pt) (fun v σ H Q => gTup X.K is.length (gsD X.K X.mg T is) v σ H Q ∨ gLst X.K is.length (gsD X.K X.mg T is) v σ H Q) :=
    ⟨fun pins sh σ H v u Q I r h => h.elim (fun h => pgT.run pins sh σ H v u Q I r h) fun h => pgL.run pins sh σ H v u Q I r h⟩
  refine PS_imp (ps_asg (snd_E e s.c hv).1 pg hs hsw rfl) ?_
  rintro σ H Q ⟨F, S, ρ, E, p⟩
  simp only [exS] at p
  refine onE E p fun d v S1 H1 q1 e1 E1 r1 p1 => ?_
  cases r1 <;> simp only [unpD] at p1 <;> try (exact p1.elim)
  · rename_i a vs ds h z rl
    cases y : setSh is ds ρ with
    | bad => rw [y] at p1; exact p1.elim
    | exc c => rw [y] at p1; exact p1.elim
    | ok ρ' =>
      rw [y] at p1
      refine .inr ⟨a, vs, rfl, .inl (.inl (E1.sub _ _ h)), by rw [rl.length]; exact setSh_len y, F, S1, ρ, ds, E1, rl, ?_⟩
      rw [y]
      exact fun σ' E' _ => p1 S1 σ' H1 e1 E'
  · rename_i a vs ds h z rl
    cases y : setSh is ds ρ with
    | bad => rw [y] at p1; exact p1.elim
    | exc c => rw [y] at p1; exact p1.elim
    | ok ρ' =>
      rw [y] at p1
      refine .inl ⟨a, vs, rfl, E1.sub.ext.sqT h, by rw [rl.length]; exact setSh_len y, F, S1, ρ, ds, E1, rl, ?_⟩
      rw [y]
      exact fun σ' E' _ => p1 S1 σ' H1 e1 E'
end
end Lk
end Part_LkZ3
section Part_LkZ4
set_option Elab.async false
set_option linter.all false
set_option maxRecDepth 100000
set_option maxHeartbeats 4000000
namespace Lk
open PySem PySem.Spec PyProof.Rows L2
def SndS (cs : CS) : Prop := ∀ {N fs xs : List Str} {T : List (Addr × Str)} {Φ : Str → List D → R D} {C : Str → Option D} {n : Nat} {lm : Bool} {W : WX} {sc : Scope} {X : Cx} {st : Stmt}, SCxt N fs xs T Φ C n lm W sc X → chkS N fs xs lm sc cs st = true → PS X st (tS X.K X.mg T W (exS Φ C cs))
def SndB (cb : CB) : Prop := ∀ {N fs xs : List Str} {T : List (Addr × Str)} {Φ : Str → List D → R D} {C : Str → Option D} {n : Nat} {lm : Bool} {W : WX} {sc : Scope} {X : Cx} {sts : List Stmt}, SCxt N fs xs T Φ C n lm W sc X → chkB N fs xs lm sc cb sts = true → PSs X sts (tS X.K X.mg T W (exB Φ C cb))
theorem sS_set {i : Nat} {e : CE} : SndS (.set i e) := by
  intro N fs xs T Φ C n lm W sc X st s h
  unfold chkS at h
  split at h <;> try (first | (rename_i heq; cases heq; done) | (cases h; done))
  rename_i heq
  injection heq with e1 e2
  subst e1 e2
  simp only [Bool.and_eq_true, Bool.or_eq_true, Bool.not_eq_true'] at h
  obtain ⟨⟨h1, h2⟩, h3⟩ := h
  rename_i x py v _
  cases hs : swB sc v x py with
  | false => exact st_set s h1 h2 hs
  | true =>
    have hl : isLc e = true := h3.resolve_left (by rw [hs]; decide)
    have eq : exS Φ C (.set i e) = exS Φ C (.setLc i e) := by funext ρ; simp only [exS]
    rw [eq]
    exact st_setLc s h1 hl h2 hs
theorem sS_setO {i : Nat} {e : CE} : SndS (.setO i e) := by
  intro N fs xs T Φ C n lm W sc X st s h
  unfold chkS at h
  split at h <;> try (first | (rename_i heq; cases heq; done) | (cases h; done))
  rename_i heq
  injection heq with e1 e2
  subst e1 e2
  simp only [Bool.and_eq_true, Bool.or_eq_true, Bool.not_eq_true'] at h
  obtain ⟨⟨⟨h1, h2⟩, h3⟩, h4⟩ := h
  rename_i x py v _
  cases hs : swB sc v x py with
  | false => exact st_setO s h1 h2 hs h4
  | true =>
    have hl : isLc e = true := h3.resolve_left (by rw [hs]; decide)
    have eq : exS Φ C (.setO i e) = exS Φ C (.setLcO i e) := by funext ρ; simp only [exS]
    rw [eq]
    exact st_setLcO s h1 hl h2 hs
theorem sS_setLc {i : Nat} {e : CE} : SndS (.setLc i e) := by
  intro N fs xs T Φ C n lm W sc X st s h
  unfold chkS at h
  split at h <;> try (first | (rename_i heq; cases heq; done) | (cases h; done))
  rename_i heq
  injection heq with e1 e2
  subst e1 e2
  simp only [Bool.and_eq_true] at h
  exact st_setLc s h.1.1.1 h.1.1.2 h.1.2 h.2
theorem sS_setLcO {i : Nat} {e : CE} : SndS (.setLcO i e) := by
  intro N fs xs T Φ C n lm W sc X st s h
  unfold chkS at h
  split at h <;> try (first | (rename_i heq; cases heq; done) | (cases h; done))
  rename_i heq
  injection heq with e1 e2
  subst e1 e2
  simp only [Bool.and_eq_true] at h
  exact st_setLcO s h.1.1.1 h.1.1.2 h.1.2 h.2
/-- splitting a check by its one row -/
theorem sS_par {i j : Nat} {a b : CE} : SndS (.par i j a b) := by
  intro N fs xs T Φ C n lm W sc X st s h
  unfold chkS at h
  split at h <;> try (first | (rename_i heq; cases heq; done) | (cases h; done))
  rename_i heq
  injection heq with e1 e2 e3 e4
  subst e1 e2 e3 e4
  simp only [Bool.and_eq_true, Bool.not_eq_true', decide_eq_true_eq] at h
  obtain ⟨⟨⟨⟨⟨⟨⟨⟨⟨h1, h2⟩, h3⟩, h4⟩, h5⟩, h6⟩, h7⟩, h8⟩, h9⟩, h10⟩ := h
  exact st_par s h1 h2 h3 h4 h5 h6 h7 h8 h9 h10
theorem sS_unp {is : List Nat} {e : CE} : SndS (.unp is e) := by
  intro N fs xs T Φ C n lm W sc X st s h
  unfold chkS at h
  split at h <;> try (first | (rename_i heq; cases heq; done) | (cases h; done))
  rename_i heq
  injection heq with e1 e2
  subst e1 e2
  simp only [Bool.and_eq_true, Bool.not_eq_true'] at h
  exact st_unp s h.1.1 h.1.2 h.2
theorem sS_expr {e : CE} : SndS (.expr e) := by
  intro N fs xs T Φ C n lm W sc X st s h
  cases st <;> try (simp [chkS] at h; done)
  simp only [chkS, Bool.and_eq_true, Bool.not_eq_true'] at h
  exact st_expr s h.1 h.2
theorem sS_app {i : Nat} {e : CE} : SndS (.app i e) := by
  intro N fs xs T Φ C n lm W sc X st s h
  unfold chkS at h
  split at h <;> try (first | (rename_i heq; cases heq; done) | (cases h; done))
  rename_i heq
  injection heq with e1 e2
  subst e1 e2
  simp only [Bool.and_eq_true, decide_eq_true_eq] at h
  obtain ⟨⟨⟨h1, h2⟩, h3⟩, h4⟩ := h
  exact st_app s h3 h2 h1 h4
theorem sS_ext {i : Nat} {e : CE} : SndS (.ext i e) := by
  intro N fs xs T Φ C n lm W sc X st s h
  unfold chkS at h
  split at h <;> try (first | (rename_i heq; cases heq; done) | (cases h; done))
  rename_i heq
  injection heq with e1 e2
  subst e1 e2
  simp only [Bool.and_eq_true, decide_eq_true_eq] at h
  obtain ⟨⟨⟨h1, h2⟩, h3⟩, h4⟩ := h
  exact st_ext s h3 h2 h1 h4
theorem sS_sto {i : Nat} {k v : CE} : SndS (.sto i k v) := by
  intro N fs xs T Φ C n lm W sc X st s h
  unfold chkS at h
  split at h <;> try (first | (rename_i heq; cases heq; done) | (cases h; done))
  rename_i heq
  injection heq with e1 e2 e3
  subst e1 e2 e3
  simp only [Bool.and_eq_true, Bool.not_eq_true'] at h
  obtain ⟨⟨⟨h1, h2⟩, h3⟩, h4⟩ := h
  exact st_sto s h1 h2 h3 h4
theorem sS_ret {e : CE} : SndS (.ret e) := by
  intro N fs xs T Φ C n lm W sc X st s h
  cases st <;> try (simp [chkS] at h; done)
  rename_i v p
  cases v with
  | none => simp [chkS] at h
  | some v =>
    simp only [chkS] at h
    exact st_ret s h
theorem sS_iff {c : CE} {t e : CB} (iht : SndB t) (ihe : SndB e) : SndS (.iff c t e) := by
  intro N fs xs T Φ C n lm W sc X st s h
  cases st <;> try (simp [chkS] at h; done)
  simp only [chkS, Bool.and_eq_true] at h
  obtain ⟨⟨⟨h1, h2⟩, h3⟩, h4⟩ := h
  exact st_iff ((snd_E c s.c h1).2.1 h2) (iht s h3) (ihe s h4)
theorem sS_for {k : IK} {a b : CE} {g : Tg} {body : CB} (ih : SndB body) : SndS (.for k a b g body) := by
  intro N fs xs T Φ C n lm W sc X st s h
  cases st <;> try (simp [chkS] at h; done)
  rename_i tg iter bd oe p
  cases oe with
  | cons _ _ => simp [chkS] at h
  | nil =>
    simp only [chkS, Bool.and_eq_true] at h
    obtain ⟨⟨h1, h2⟩, h3⟩ := h
    unfold chkI at h1
    obtain ⟨hi, gi⟩ := snd_it (tg := tg) (snd_E a) (snd_E b) s.c h1
    exact st_for s hi gi (snd_g s.c.hN s.c.nd s.asg s.c.calm h2) (ih s h3)
theorem sS_whl {c : CE} {body : CB} (ih : SndB body) : SndS (.whl c body) := by
  intro N fs xs T Φ C n lm W sc X st s h
  cases st <;> try (simp [chkS] at h; done)
  rename_i z bd oe p
  cases oe with
  | cons _ _ => simp [chkS] at h
  | nil =>
    simp only [chkS, Bool.and_eq_true] at h
    obtain ⟨⟨h1, h2⟩, h3⟩ := h
    exact st_whl s ((snd_E c s.c h1).2.1 h2) (ih s h3)
theorem sS_rse {c : Str} : SndS (.rse c) := by
  intro N fs xs T Φ C n lm W sc X st s h
  unfold chkS at h
  split at h <;> try (first | (rename_i heq; cases heq; done) | (cases h; done))
  rename_i heq
  injection heq with e1
  subst e1
  simp only [Bool.and_eq_true, decide_eq_true_eq] at h
  obtain ⟨⟨h1, h2⟩, h3⟩ := h
  exact st_rse s h1 h2 h3
theorem sB_nil : SndB .nil := by
  intro N fs xs T Φ C n lm W sc X sts s h
  cases sts with
  | nil => exact bl_nil
  | cons _ _ => simp [chkB] at h
theorem sB_rel {i : Nat} {r : CB} (ih : SndB r) : SndB (.rel i r) := by
  intro N fs xs T Φ C n lm W sc X sts s h
  simp only [chkB] at h
  exact bl_rel (ih s h)
theorem sB_del {i : Nat} {r : CB} (ih : SndB r) : SndB (.del i r) := by
  intro N fs xs T Φ C n lm W sc X sts s h
  simp only [chkB] at h
  exact bl_del (ih s h)
theorem sS_opq : SndS .opq := by
  intro N fs xs T Φ C n lm W sc X st s h
  exact st_opq
theorem sS_par3 {i j k : Nat} {a b c : CE} : SndS (.par3 i j k a b c) := by
  intro N fs xs T Φ C n lm W sc X st s h
  unfold chkS at h
  split at h <;> try (first | (rename_i heq; cases heq; done) | (cases h; done))
  rename_i heq
  injection heq with e1 e2 e3 e4 e5 e6
  subst e1 e2 e3 e4 e5 e6
  simp only [Bool.and_eq_true, Bool.not_eq_true', decide_eq_true_eq] at h
  obtain ⟨⟨⟨⟨⟨⟨⟨⟨⟨⟨⟨⟨⟨⟨⟨h1, h2⟩, h3⟩, h4⟩, h5⟩, h6⟩, h7⟩, h8⟩, h9⟩, h10⟩, h11⟩, h12⟩, h13⟩, h14⟩, h15⟩, h16⟩ := h
  exact st_par3 s h1 h2 h3 h4 h5 h6 h7 h8 h9 h10 h11 h12 h13 h14 h15 h16
theorem sB_cons {st : CS} {r : CB} (ihs : SndS st) (ih : SndB r) : SndB (.cons st r) := by
  intro N fs xs T Φ C n lm W sc X sts s h
  cases sts with
  | nil => simp [chkB] at h
  | cons x ys =>
    simp only [chkB, Bool.and_eq_true] at h
    exact bl_cons (ihs s h.1) (ih s h.2)
mutual
theorem snd_S : ∀ cs : CS, SndS cs
  | .set i e => sS_set
  | .setO i e => sS_setO
  | .setLc i e => sS_setLc
  | .setLcO i e => sS_setLcO
  | .par i j a b => sS_par
  | .par3 i j k a b c => sS_par3
  | .opq => sS_opq
  | .unp is e => sS_unp
  | .expr e => sS_expr
  | .app i e => sS_app
  | .ext i e => sS_ext
  | .sto i k v => sS_sto
  | .ret e => sS_ret
  | .iff c t e => sS_iff (snd_Bk t) (snd_Bk e)
  | .for k a b g body => sS_for (snd_Bk body)
  | .whl c body => sS_whl (snd_Bk body)
  | .rse c => sS_rse
theorem snd_Bk : ∀ cb : CB, SndB cb
  | .nil => sB_nil
  | .rel i r => sB_rel (snd_Bk r)
  | .del i r => sB_del (snd_Bk r)
  | .cons s r => sB_cons (snd_S s) (snd_Bk r)
end
/-! ### defs -/
def fnScB (N P : List Str) (sc : Scope) : Bool :=
  decide (sc.kind = .function) && !sc.isCoroutine && !sc.isGenerator && decide N.Nodup && decide (N.take P.length = P) && (P.all fun x => kindB sc x .local || kindB sc x .cell) && sc.names.all fun y => !decide (y.2 = .free)
theorem fnSc_ok {N P : List Str} {sc : Scope} (h : fnScB N P sc = true) : FnScope N P sc := by
  simp only [fnScB, kindB, Bool.and_eq_true, decide_eq_true_eq, Bool.not_eq_true', List.all_eq_true, Bool.or_eq_true, decide_eq_false_iff_not] at h
  obtain ⟨⟨⟨⟨⟨⟨h1, h2⟩, h3⟩, h4⟩, h5⟩, h6⟩, h7⟩ := h
  exact ⟨h1, h2, h3, h4, h5, h6, h7⟩
def chkD (fs xs : List Str) (lm : Bool) (cd : CD) (st : Stmt) : Bool := fnScB cd.nm cd.ps (defScope st) && chkB cd.nm fs xs lm (defScope st) cd.body (defBody st)
section
variable {P : Program} {w : World} {K : PySem.W.Frag} {mg : Str → Option Value} {base : Heap} {T : List (Addr × Str)} {Φ : Str → List D → R D} {C : Str → Option D}
/-- what holds of every def's body -/
structure TopOk (P : Program) (w : World) (K : PySem.W.Frag) (mg : Str → Option Value) (C : Str → Option D) (xs : List Str) : Prop where
  nb : ∀ x ∈ blts, mg x = none
  gl : ∀ x d, C x = some d → ∃ v u, mg x = some u ∧ RelV v u ∧ ∀ S, Rep K mg S v d
  rse : ∀ x ∈ xs, ∃ Ca, mg x = some (.ref Ca) ∧ PySem.W.excIn K Ca [.type "ValueError", .type "Exception", .type "BaseException", .type "object"] "ValueError.__new__" = true ∧ PySem.W.keepIn K (.ref Ca) = true ∧ PySem.W.subIn K (.ref Ca) (.type "BaseException") = some true ∧ PySem.W.typeIn K (.ref Ca) = some (.type "type")
def FnsOk' (P : Program) (w : World) (K : PySem.W.Frag) (mg : Str → Option Value) (base : Heap) (T : List (Addr × Str)) (Φ : Str → List D → R D) (fs : List Str) (n : Nat) : Prop := ∀ f ∈ fs, ∃ fa fd ps, mg f = some (.ref fa) ∧ PySem.W.keepIn K (.ref fa) = true ∧ Binds K fd ps [] ∧ (∀ ds, Φ f ds ≠ .bad → ds.length = ps.length) ∧
  FnOk P w K mg base (L2N.CX P w) (3 * n) fa fd ps (spF K mg T Φ f ps.length)
theorem er_start {S H : Hp} {vs : List V} {ds : List D} {N : List Str} (sb : Sub S H) (tb : Tb T S H) (r : RepL K mg S vs ds) : ER K mg T (fun b => match S b with | some _ => none | none => H b) S H (L2.start N vs) (startE N.length ds) := by
  have el := r.length
  have key : ∀ (i : Nat) (t : Slot), (startE N.length ds)[i]? = some t → (∃ d, ds[i]? = some d ∧ t = .sh d) ∨ t = .no := by
    intro i t h
    unfold startE at h
    by_cases hi : i < ds.length
    · rw [List.getElem?_append_left (by rw [List.length_map]; exact hi), List.getElem?_map, List.getElem?_eq_getElem hi] at h
      cases h
      exact .inl ⟨_, List.getElem?_eq_getElem hi, rfl⟩
    · rw [List.getElem?_append_right (by rw [List.length_map]; omega)] at h
      exact .inr (List.eq_of_mem_replicate (List.mem_of_getElem? h))
  refine ⟨sb, fun b o h => ?_, tb, ?_, fun i d h => ?_, fun i d h => ?_, fun i j d e a h => ?_⟩
  · split at h
    · cases h
    · exact ⟨h, by assumption⟩
  · unfold L2.start startE
    rw [List.length_append, List.length_append, List.length_map, List.length_map, List.length_replicate, List.length_replicate, el]
  · rcases key i _ h with ⟨d', h1, h2⟩ | h1
    · cases h2
      obtain ⟨v, h3, h4⟩ := r.getD h1
      refine ⟨v, ?_, h4⟩
      unfold L2.start
      have hv : i < vs.length := (List.getElem?_eq_some_iff.mp h3).1
      rw [List.getElem?_append_left (by rw [List.length_map]; exact hv), List.getElem?_map, h3]
      rfl
    · cases h1
  · rcases key i _ h with ⟨d', h1, h2⟩ | h1
    · cases h2
    · cases h1
  · rcases key i _ h with ⟨d', h1, h2⟩ | h1
    · cases h2
    · cases h1
theorem def_ok {x : Str} {st : Stmt} {f : Addr} {fd : FuncData} {cd : CD} {fs xs : List Str} {n : Nat} {lm : Bool} (F : Fun K x x st f fd) (hc : chkD fs xs lm cd st = true) (tp : TopOk P w K mg C xs) (fo : FnsOk' P w K mg base T Φ fs n)
    (Ψ : Str → List D → R D) (hΨ : ∀ ds, Ψ x ds = runD Φ C cd ds)
    (lam : lm = true → ∀ (cdv : Value), (∃ oc od osl, K.lookup f = some ⟨oc, od, .func fd, osl⟩ ∧ fd.code = cdv ∧ PySem.W.codeIn K cdv x = true) → ∀ (A : Around) (outer : List PySem.Env) (s : Shared) (H : Hp) (E : XK), Room (3 * n + 2) (A.deeper (envOfC x (defScope st) s.heap.objs.size f cdv)) →
      ∀ (fn : Env → R D) (params : Arguments) (body : Expr) (scope : Scope) (y : Str) (p lp pos : Pos), y = ("_law_told" : Str) → Gl (cxOf (L2N.CX P w) P w K mg base cd.nm x (defScope st) f cdv A outer s H E) y → params = ⟨[], [], none, [], [], none, []⟩ → LamX.lamSB (defScope st) scope = true →
      (∀ (A' : Around) (outer' : List PySem.Env) (s' : Shared) (H' : Hp) (E' : XK) (fa c' : Addr), Room (3 * n) (A'.deeper (LamX.lamEnv (cxOf (L2N.CX P w) P w K mg base cd.nm x (defScope st) f cdv A outer s H E) scope s'.heap.objs.size fa c')) →
        PE (lamN (cxOf (L2N.CX P w) P w K mg base cd.nm x (defScope st) f cdv A outer s H E) A' outer' s' H' E' scope fa c') body (tE K mg T (fun cls d _ H => E' cls d H) fn)) →
      PE (cxOf (L2N.CX P w) P w K mg base cd.nm x (defScope st) f cdv A outer s H E) (.Call (.Name y p) [.Lambda params body scope lp] [] pos) (tE K mg T (fun cls d _ H => E cls d H) fun ρ => toldR C (fn ρ))) :
    FnOk P w K mg base (L2N.CX P w) (3 * (n + 1)) f fd cd.ps (spF K mg T Ψ x cd.ps.length) := by
  unfold chkD at hc
  rw [Bool.and_eq_true] at hc
  have Sc := fnSc_ok hc.1
  obtain ⟨oc, od, kV, doc, pm, an, cdv, ct, osl, rfl, lk, hcd⟩ := F.ex
  refine fn_of (k := 3 * n + 2) lk hcd Sc (fun vs H Q E h => h.1) fun A outer s H vs Q E hr h => ?_
  obtain ⟨hl, S, ds, sb, tb, rl, post⟩ := h
  have cx : SCxt cd.nm fs xs T Φ C n lm (fun cls d _ H => E cls d H) (defScope st) (cxOf (L2N.CX P w) P w K mg base cd.nm x (defScope st) f cdv A outer s H E) := by
    refine ⟨⟨rfl, Sc.nd, rfl, Sc.kind, rfl, hr.mono (by omega), L2N.takes_of rfl rfl rfl rfl, tp.nb, tp.gl, fo, fun hlm => lam hlm cdv ⟨oc, od, osl, lk, rfl, hcd⟩ A outer s H E hr⟩, ?_, passes_of rfl, fun y hy => ?_⟩
    · intro y hy
      exact ⟨hy, .inl rfl⟩
    · obtain ⟨Ca, h1, h2, h3, h4, h5⟩ := tp.rse y hy
      exact ⟨Ca, h1, h2, h3, raises_own h4 h5⟩
  refine ⟨_, snd_Bk cd.body cx hc.2, _, S, startE cd.nm.length ds, er_start sb tb rl, ?_⟩
  rw [hΨ] at post
  unfold runD at post
  have elen : ds.length = cd.ps.length := by rw [← rl.length]; exact hl
  rw [if_pos elen] at post
  have fin : ∀ {S' : Hp} {σ' : St} {ρ' : Env} {H' : Hp}, ER K mg T (fun b => match S b with | some _ => none | none => H b) S' H' σ' ρ' → ∀ b o, S b = none → H b = some o → H' b = some o ∧ S' b = none := fun {S' σ' ρ' H'} E' b o h1 h2 => by
    refine E'.dis b o ?_
    show (match S b with | some _ => none | none => H b) = some o
    rw [h1]
    exact h2
  show PostS K mg T (fun cls d _ H => E cls d H) _ S (exB Φ C cd.body (startE cd.nm.length ds)) _
  cases q : exB Φ C cd.body (startE cd.nm.length ds) with
  | bad => rw [q] at post; exact post
  | nx ρ' =>
    rw [q] at post
    exact fun S' σ' H' e E' => post .non S' H' e E'.sub E'.tab (fin E') .non
  | rt d =>
    rw [q] at post
    exact fun v S' σ' ρ' H' e E' r => post v S' H' e E'.sub E'.tab (fin E') r
  | xc c ρ' =>
    rw [q] at post
    exact fun S' σ' H' e E' => post S' H' e E'.sub E'.tab (fin E')
end
end Lk
end Part_LkZ4
section Part_LkH1
set_option Elab.async false
set_option linter.all false
set_option maxRecDepth 100000
set_option maxHeartbeats 4000000
namespace Lk
open PySem PySem.Spec PyProof.Rows L2 HotX
section
variable {prog : Program} {w : World} {A : Around} {E : Value → Shared → Prop} {s : Shared}
/-- what is handled stays, wherever its object stays -/
theorem hot_kept {a : Addr} {h h' : Heap} (hot : HotAt A a h) (k : ∀ o, h.get? a = some o → h'.get? a = some o) : HotAt A a h' :=
  ⟨hot.1, let ⟨o, vs, e, r⟩ := hot.2; ⟨o, vs, k o e, r⟩⟩
/-- an object that is laid at a heap's end and written to there takes nothing away -/
theorem ext_last {a : Addr} {h h' : Heap} {o : Obj} (f : Obj → Obj) (x : Heap.ExtBut a h h') : Heap.ExtBut a h ((h'.push o).update h'.objs.size f) := fun b ob hb e => by
  have e' := x b ob hb e
  rw [Heap.get?_update_other _ _ (Nat.ne_of_gt (Heap.lt_size e'))]
  exact Heap.get?_push_of_some _ e'
/-- a list's iterator at its end, while an exception is handled -/
theorem list_end_hot {it l x1 : Addr} {i : Nat} {items : Array Value} {Q : Option Value → Shared → Prop} (hot : HotAt A x1 s.heap) (hne : x1 ≠ it) (hit : s.heap.IsListIter it l i) (hl : s.heap.IsList l items) (hx : items[i]? = none)
    (hQ : ∀ h', Heap.ExtBut it s.heap h' → Q none { s with heap := h' }) : wpAny (model prog w) A (pyNext (.ref it)) Q E s := by
  have ty := hit.typeIs
  obtain ⟨⟨_, d1, _, s1⟩, ho, rfl, rfl⟩ := hit
  obtain ⟨⟨_, d2, _, s2⟩, hol, rfl, n, rfl⟩ := hl
  have go : ∀ h' : Heap, Heap.ExtBut it s.heap h' → HotAt A x1 h' := fun h' k => hot_kept hot fun o e => k x1 o hne e
  unfold pyNext
  refine wpAny_bind (wpAny_attempt (wpAny_callSpecial?_slot (name := Str.ofString "__next__") ty slot_listiter_next (wpAny_call_entry slot_listiter_next ty entry_listiter_next ?_ (args_listiter_next _))))
  wp_walk using wpAny_loadPart' ho, wpAny_loadPart' hol
  rw [Int.toNat_natCast, hx]
  wp_walk using wpAny_loadPart' ho, wpAny_updatePart' ho
  have k1 : Heap.ExtBut it s.heap ((s.heap.update it (Obj.mapFields fun x => x.setIfInBounds 0 Value.none)).push { cls := Value.type "tuple", data := Data.seq #[] }) := (Heap.SameBut.update ..).extBut.push _
  obtain ⟨_, _, _, at1, _⟩ := go _ k1
  refine raiseNew_hot (go _ (k1.push _)) (Nat.ne_of_lt (Heap.lt_size at1)) (Heap.get?_push_size _ rfl) rfl (by rw [Array.size_append]; exact Nat.lt_of_lt_of_le (show 2 < 6 from by decide) (Nat.le_add_right _ _)) ?_
  exact wpAny_bind (wpAny_isInstance (b := true) ⟨_, Heap.get?_update_self _ (Heap.get?_push_size _ rfl) rfl, rfl⟩ isSubtype_stop (wpAny_pure (hQ _ (ext_last _ k1))))
/-- the walk over a list, while an exception is handled -/
theorem walks_hot {I ax x1 : Addr} (hx : A.handled = some (.ref x1)) (hne : ax ≠ I) (hn1 : x1 ≠ I) (items : Array Value) :
    Walks prog w A I [I, ax, x1] [I] items.size (fun i v => items[i]? = some v) (fun i h => h.IsListIter I ax i ∧ h.IsList ax items ∧ HotAt A x1 h) where
  sub := fun b hb => by simp at hb; simp [hb]
  frame := fun i h h' st hk => ⟨st.1.at fun o e => hk I (by simp) o e, st.2.1.at fun o e => hk ax (by simp) o e, by
    obtain ⟨q, o, vs, e1, e2, e3⟩ := st.2.2
    exact ⟨q, o, vs, hk x1 (by simp) o e1, e2, e3⟩⟩
  item := fun i s Q E hi st hQ => by
    refine wpAny_pyNext_list_item st.1 st.2.1 (x := items[i]) (by simp [hi]) fun h' hit' hs' => ?_
    refine hQ _ h' s.toks (by simp [hi]) ⟨hit', st.2.1.extBut hs'.extBut hne, ?_⟩ fun b o hb e => hs'.extBut b o (fun h => hb (by simp [h])) e
    obtain ⟨q, o, vs, e1, e2, e3⟩ := st.2.2
    exact ⟨q, o, vs, hs'.extBut x1 o hn1 e1, e2, e3⟩
  done := fun s Q E st hQ => list_end_hot st.2.2 hn1 st.1 st.2.1 (by simp) fun h' he' => hQ h' s.toks fun b o hb e => he' b o (fun h => hb (by simp [h])) e
  self := fun i s Q E st hQ => wpAny_pyIter_listiter st.1 hQ
end
theorem bls_ints : ∀ {bs : List Bool} {yl : List Value}, Paired (fun (v y : Value) => ∃ (b : Bool) (t : Tok), v = .bool b ∧ y = .int (if b then 1 else 0) t) (bs.map Value.bool) yl → Vals (bs.map fun b => V.int (if b then 1 else 0)) yl
  | [], _, h => by
    cases h
    exact .nil
  | b :: bs, _, h => by
    rw [List.map_cons] at h ⊢
    cases h with
    | cons r t =>
      obtain ⟨b', k, e1, e2⟩ := r
      cases e1
      exact .cons ⟨k, e2⟩ (bls_ints t)
/-- laid at a place that held nothing -/
theorem laid0 {X : Cx} {pins : List (Addr × Obj)} {σ : L2.St} {H : Hp} {s : Shared} {h' : Heap} {a : Addr} {o : HO} {t' : Nat} (I : Inv X pins σ H s) (k : ∀ b u, s.heap.get? b = some u → h'.get? b = some u) (hp : s.heap.get? a = none) (hn : H a = none)
    (new : ObjOk X.prog X.w (upd H a o) h' a o) : Inv X pins σ (upd H a o) { s with heap := h', toks := t' } := by
  have away : ∀ {c : Addr} {u : HO}, H c = some u → upd H a o c = some u := fun {c u} q => by rw [upd_ne (ne_of_none q hn)]; exact q
  refine I.un ⟨fun b u q _ _ _ => k b u q, fun b u q _ _ _ => ⟨u.slots, k b u q⟩, fun b u q n _ => ?_, fun b u q _ => ⟨u, k b u q⟩, fun _ _ q => away q, fun _ _ _ q => away q, fun b ps q => ⟨#[], by rw [away q]; simp⟩⟩ fun b u e => ?_
  · rw [upd_ne (fun z => by rw [z, hp] at q; cases q)]
    exact n
  · by_cases hb : b = a
    · subst hb
      rw [upd_same] at e
      cases e
      exact new
    · rw [upd_ne hb] at e
      exact (I.hok b u e).stay (fun c v _ q => k c v q) (fun c q => away q) fun c xs q => away q
section
variable {X : Cx}
theorem cr_sum_hot (hc : L2H.HotC X) : CallR X (.builtin "sum") (rSum X.K) := by
  intro pins s σ H vs us Q I r h
  obtain ⟨a, ns, rfl, hs, q⟩ := h
  obtain ⟨its, rv, hl, _⟩ := I.list hs
  rw [Vals.ref1 r]
  obtain ⟨x1, hot⟩ := hc.at I
  obtain ⟨xs, e⟩ := rv.ints.allInts.items
  have hn : numsOf (intItems xs).toList = ns := by rw [← e]; exact rv.ints.numsOf
  rw [nums_intItems] at hn
  have hl' := hl.isList
  rw [e] at hl'
  have lt : x1 < s.heap.objs.size := by
    obtain ⟨_, o, _, z, _⟩ := hot
    exact Heap.lt_size z
  refine call_sum_walkG (iter_intList hl' fun s2 e2 st hfp hlI => ?_)
  subst e2
  refine ⟨_, _, _, _, _, _, numAt xs, rfl, walks_hot (A := X.A.in1) hot.1 hlI (Nat.ne_of_lt lt) (intItems xs), ⟨st.1, st.2, ?_⟩, ?_, fun _ _ => intItems_at, fun h' tk t' hk => ?_⟩
  · obtain ⟨q1, o, vs, e1, e2, e3⟩ := hot
    exact ⟨q1, o, vs, Heap.get?_push_of_some _ e1, e2, e3⟩
  · intro b hb
    by_cases hb1 : b = x1
    · subst hb1
      show _ < (s.heap.push _).objs.size
      rw [Heap.size_push]
      exact Nat.lt_succ_of_lt lt
    · refine hfp b ?_
      simp only [List.mem_cons, List.not_mem_nil, or_false] at hb ⊢
      rcases hb with hb | hb | hb
      · exact .inl hb
      · exact .inr hb
      · exact absurd hb hb1
  · have hk' := old_kept hk
    have e4 : preSum (numAt xs) (intItems xs).size = ns.sum := by
      rw [show (intItems xs).size = xs.size by simp [intItems], preSum_eq, List.take_of_length_le (by simp), hn]
    rw [e4]
    exact ⟨.int _, H, I.kept hk', ⟨_, rfl⟩, q⟩
def tLcInt (K : PySem.W.Frag) (j : Nat) : TE := fun σ H Q => ∃ (a : Addr) (bs : List Bool), σ[j]? = some (some (.ref a)) ∧ SqL K H a (bs.map V.bl) ∧ bs.length ≤ 1000 ∧ ∀ D, H D = none → Q (.ref D) (upd H D (.lst (bs.map fun b => V.int (if b then 1 else 0))))
/-- [int(f) for f in g], g a list of bools, while an exception is handled -/
theorem pe_lcInt_hot {j : Nat} {f g : Str} {scope : Scope} {p1 p2 p3 p4 p5 pos : Pos} (hc : L2H.HotC X) (hN : X.N[j]? = some g) (hv : Vis X.env.scope g) (hd1 : (g == ("__debug__" : Str)) = false) (hd2 : (g == ("__classdict__" : Str)) = false)
    (hfree : ∀ y ∈ scope.names, y.2 ≠ .free) (hcell : ∀ y ∈ scope.names, y.2 ≠ .cell) (hkind : scope.kind = .function) (hnames : ∀ y ∈ scope.names, y.2 = .local → scope.names.lookup y.1 = some .local) (hx : scope.names.lookup f = some .local)
    (hi : scope.names.lookup ("int" : Str) = some .globalImplicit) (hm : X.mg "int" = none) (hf1 : (f == ("__debug__" : Str)) = false) :
    PE X (.ListComp (.Call (.Name "int" p1) [.Name f p2] [] p3) [⟨.Name f p4, .Name g p5, [], 0⟩] scope pos) (tLcInt X.K j) := by
  refine ⟨fun pins s σ H Q I h => ?_⟩
  obtain ⟨a, bs, h1, h2, h3, q⟩ := h
  refine wpAny_ListComp_walk (fun _ => true) (fun v y => ∃ b t, v = .bool b ∧ y = .int (if b then 1 else 0) t) hfree hcell hkind hnames hx
    (thn ((pe_var (pos := p5) hN hv hd1 hd2).run pins s σ H (fun v H' => v = .ref a ∧ H' = H) I ⟨.ref a, h1, rfl, rfl⟩) fun u s1 ⟨v, H1, I1, r1, e1, e2⟩ => ?_)
  subst e1 e2
  obtain rfl : u = Value.ref a := r1
  obtain ⟨its, rv, hl, hz⟩ := I1.list h2
  obtain ⟨x1, hot⟩ := hc.at I1
  have lt : x1 < s1.heap.objs.size := by
    obtain ⟨_, o, _, z, _⟩ := hot
    exact Heap.lt_size z
  have lta : a < s1.heap.objs.size := by
    obtain ⟨o, z, _⟩ := hl.isList
    exact Heap.lt_size z
  have ei : its = bs.map Value.bool := rv.bls
  have hL : s1.heap.IsList a its.toArray := hl.isList
  refine wpAny_pyIter_list hL ?_
  generalize hs2 : ({ s1 with heap := s1.heap.push { cls := .type "list_iterator", data := .fields #[.ref a, .int 0 0] } } : Shared) = s2
  have hk2 : ∀ b o, s1.heap.get? b = some o → s2.heap.get? b = some o := fun b o e => by
    rw [← hs2]
    exact Heap.get?_push_of_some _ e
  have hsz : s2.heap.objs.size = s1.heap.objs.size + 1 := by
    rw [← hs2]
    exact Heap.size_push _ _
  have itO : s2.heap.IsListIter s1.heap.objs.size a 0 := by
    rw [← hs2]
    exact ⟨_, Heap.get?_push_size _ rfl, rfl, rfl⟩
  have I2 : Inv X pins σ H1 s2 := by
    rw [← hs2]
    exact I1.kept (t' := s1.toks) fun b o e => Heap.get?_push_of_some _ e
  refine ⟨_, _, _, _, _, _, rfl, walks_hot (A := X.A) hot.1 (Nat.ne_of_lt lta) (Nat.ne_of_lt lt) its.toArray, ?_, ⟨itO, hL.at fun o e => hk2 _ _ e, ?_⟩, ?_, ⟨?_, ?_⟩, ?_⟩
  · rw [ei]
    simp only [List.size_toArray, List.length_map]
    exact Nat.le_trans h3 (by decide)
  · obtain ⟨q1, o, vs, e1, e2, e3⟩ := hot
    exact ⟨q1, o, vs, hk2 _ _ e1, e2, e3⟩
  · intro b hb
    rw [hsz]
    simp only [List.mem_cons, List.not_mem_nil, or_false] at hb
    rcases hb with hb | hb | hb
    · subst hb; exact Nat.lt_succ_self _
    · subst hb; exact Nat.lt_succ_of_lt lta
    · subst hb; exact Nat.lt_succ_of_lt lt
  · intro C i v s3 m3 E' hP hn hm3 hk htk
    exact wpAny_pure ⟨rfl, s3.heap, s3.toks, rfl, fun _ _ e => e⟩
  · intro C i v s3 m3 E' hP hp hn hm3 hk htk
    obtain ⟨b, hb⟩ : ∃ b, v = .bool b := by
      rw [ei] at hP
      simp only [List.getElem?_toArray, List.getElem?_map, Option.map_eq_some_iff] at hP
      obtain ⟨b, _, e⟩ := hP
      exact ⟨b, e.symm⟩
    subst hb
    have base3 : ∀ b o, X.base.get? b = some o → s3.heap.get? b = some o := fun b o e => by
      refine hk b o ?_ (I2.bk b o e)
      intro hm
      simp only [List.mem_cons, List.not_mem_nil, or_false] at hm
      have := Heap.lt_size (I1.bk b o e)
      rw [hm] at this
      exact Nat.lt_irrefl _ this
    obtain ⟨mb, g1, g2⟩ := I2.mod.blt
    refine wpAny_Call_Name_kw (Calls.Name_function_global hkind hi (Calls.loadGlobal_builtin (mg := X.mg) (mb := mb) (v := .type "int") ?_ hm ?_ ((g2 "int" (by decide)).trans (by decide +kernel)) ?_) (by decide))
    · show s3.heap.Ns X.env.globals _
      rw [I2.ok.glob]
      exact I2.mod.glob.keeps base3
    · show s3.heap.Ns X.env.builtins _
      rw [I2.ok.blt]
      exact g1.keeps base3
    · refine Pv.callWith_type1 (rest := []) ?_
      show wpAny _ _ (spliced ((false, eval (.Name f p2) (compEnv scope C X.env)) :: backTo p3 (starEach [] (compEnv scope C X.env)))) _ _ s3
      refine Calls.spliced_cons (wpAny_Name (wpAny_loadName_local (m := m3) hkind hx hn hm3 ?_) hf1)
      refine Calls.spliced_nil (call_int_bool ⟨⟨b, _, rfl, rfl⟩, s3.heap, s3.toks + 1, rfl, fun _ _ e => e⟩)
  · intro D h' tk ys vs hD hl' hpl hlen hP hF hk
    have hkk : ∀ b o, s1.heap.get? b = some o → h'.get? b = some o := fun b o e => by
      refine hk b o ?_ (hk2 b o e)
      intro hm
      simp only [List.mem_cons, List.not_mem_nil, or_false] at hm
      have := Heap.lt_size e
      rw [hm] at this
      exact Nat.lt_irrefl _ this
    have hD1 : s1.heap.get? D = none := by
      cases e : s1.heap.get? D with
      | none => rfl
      | some o => rw [hk2 D o e] at hD; cases hD
    have hDn : H1 D = none := by
      cases e : H1 D with
      | none => rfl
      | some o =>
        obtain ⟨u, z⟩ := objOk_get (I1.hok D o e)
        rw [hD1] at z
        cases z
    have eys : Vals (bs.map fun b => V.int (if b then 1 else 0)) ys.toList := by
      have ev : vs = bs.map Value.bool := by
        refine List.ext_getElem? fun j => ?_
        cases e : vs[j]? with
        | some v =>
          have := hP j v e
          rw [ei] at this
          rw [← this]
          simp
        | none =>
          have hlen' : vs.length = bs.length := by
            rw [hlen, ei]
            simp
          rw [List.getElem?_eq_none_iff] at e
          rw [eq_comm, List.getElem?_eq_none_iff, List.length_map]
          omega
      rw [List.filter_eq_self.mpr (fun _ _ => rfl), ev] at hF
      exact bls_ints hF
    have fin : Inv X pins σ (upd H1 D (.lst (bs.map fun b => V.int (if b then 1 else 0)))) { s2 with heap := h', toks := tk } := by
      rw [← hs2]
      show Inv X pins σ _ { s1 with heap := h', toks := tk }
      refine laid0 (t' := tk) I1 hkk hD1 hDn (show ObjOk _ _ _ _ _ (HO.lst _) from ⟨?_, ys.toList, ?_⟩)
      · rw [List.length_map]
        exact Nat.le_trans h3 (by decide)
      · obtain ⟨n, e⟩ := hpl
        exact ⟨n, eys, by rw [e]⟩
    exact ⟨.ref D, _, fin, rfl, q D hDn⟩
end
end Lk
end Part_LkH1
section Part_LkH2
set_option Elab.async false
set_option linter.all false
set_option maxRecDepth 100000
set_option maxHeartbeats 4000000
namespace Lk
open PySem PySem.Spec PyProof.Rows L2 HotX
/-! ### the word of an exception, by its class -/
def wordN : List Str := ["e", "flags"]
def isiB (sc : Scope) (c : Str) : Expr → Bool
  | .Call (.Name f _) [.Name x _, .Name y _] [] _ => decide (f = ("isinstance" : Str)) && isGlB sc f && isVarB sc wordN 0 x && decide (y = c) && isGlB sc y
  | _ => false
def isiL (sc : Scope) : List Str → List Expr → Bool
  | [], [] => true
  | c :: cs, e :: es => isiB sc c e && isiL sc cs es
  | _, _ => false
def strL : List Str → List Expr → Bool
  | [], [] => true
  | c :: cs, .Constant (.str x) _ _ :: es => decide (c = x) && strL cs es
  | _, _ => false
def blkB (lsc : Scope) (g : Str) : Bool :=
  lsc.names.all (fun y => !decide (y.2 = .free)) && lsc.names.all (fun y => !decide (y.2 = .cell)) && decide (lsc.kind = .function) && lsc.names.all (fun y => !decide (y.2 = .local) || decide (lsc.names.lookup y.1 = some .local)) &&
  decide (lsc.names.lookup g = some .local) && decide (lsc.names.lookup ("int" : Str) = some .globalImplicit) && !(g == ("__debug__" : Str))
def chkWord (cs1 cs2 : List Str) (sc : Scope) : List Stmt → Bool
  | [.Assign [.Name f1 _] (.List es1 _) _, .Assign [.Name f2 _] (.BinOp (.Name f3 _) .Add (.List es2 _) _) _,
     .If (.BoolOp .Or [.Compare (.Call (.Name s _) [.ListComp (.Call (.Name i _) [.Name g1 _] [] _) [⟨.Name g2 _, .Name f4 _, [], ay⟩] lsc _] [] _) [.NotEq] [.Constant (.int k) _ _] _, .UnaryOp .Not isv _] _) [.Return (some (.Constant (.str _) _ _)) _] [] _,
     .Return (some (.Subscript (.List wds _) (.Call (.Attribute (.Name f5 _) m ap) [.Constant (.bool t) _ _] [] cp) _)) _] =>
    isLocB sc wordN 1 f1 && isLocB sc wordN 1 f2 && isVarB sc wordN 1 f3 && isVarB sc wordN 1 f4 && isVarB sc wordN 1 f5 && isiL sc cs1 es1 && isiL sc cs2 es2 && decide (s = ("sum" : Str)) && isGlB sc s && decide (i = ("int" : Str)) &&
    decide (ay = 0) && decide (k = 1) && t && decide (m = ("index" : Str)) && (ap.endLine == cp.line) && isiB sc "ValueError" isv && decide (g1 = g2) && blkB lsc g2 && strL (cs1 ++ cs2) wds && decide ((cs1 ++ cs2).length ≤ 20)
  | _ => false
/-- the class D says w -/
structure WordOk (K : PySem.W.Frag) (mg : Str → Option Value) (cs : List Str) (D : Addr) (w : Str) : Prop where
  ex : ExcC K D
  flg : ∀ c ∈ cs, ∃ C, mg c = some (.ref C) ∧ PySem.W.kitOne K (.ref D) (.ref C) = some (decide (c = w))
  vE : mg "ValueError" = none
  vK : PySem.W.kitOne K (.ref D) (.type "ValueError") = some true
  nd : cs.Nodup
  mem : w ∈ cs
  shp : SeqAt.shaped (.list ((cs.map fun c => decide (c = w)).map PyData.bool)) = true
section
variable {X : Cx} {D a : Addr} {oe : Obj}
/-- an exception's own record -/
theorem inst_of {h : Heap} (e : h.get? a = some oe) (hz : Zc (.ref D) none oe) (hf : ∃ vs, oe.data = .fields vs) : PySem.W.InstAt h a oe D none := by
  obtain ⟨oc, od, dt, sl⟩ := oe
  obtain ⟨z1, z2⟩ := hz
  obtain ⟨vs, z3⟩ := hf
  dsimp only at z1 z2 z3
  subst z1 z2 z3
  exact ⟨e, rfl, rfl, trivial⟩
theorem call_isH (C : ExcC X.K D) (hp : (a, oe) ∈ X.pn) (hz : Zc (.ref D) none oe) (hf : ∃ vs, oe.data = .fields vs) : CallR X (.builtin "isinstance") (rIsE X.K D a) := fun pins s σ H xs us Q I r ⟨c, cv, b, hx, hcv, hk, q⟩ => by
  subst hx
  obtain ⟨u1, u2, rfl, q1, q2⟩ : ∃ u1 u2, us = [u1, u2] ∧ RelV (.ref a) u1 ∧ RelV c u2 := by
    cases r with
    | cons ra r => cases r with
      | cons rb r => cases r; exact ⟨_, _, rfl, ra, rb⟩
  obtain rfl : u1 = .ref a := q1
  obtain rfl := hcv _ q2
  exact PySem.W.kia_one (PySem.W.handS_kitx_exc C.hg C.hk C.hs C.hd C.ha C.hn C.ht C.hm) I.kIn (inst_of (I.pin (a, oe) (List.mem_append_left _ hp)).1 hz hf) hk (fun z => nomatch z) fun tk => ⟨.bl b, H, I.kept (t' := tk) fun _ _ e => e, rfl, q⟩
end
structure HotAll (X : Cx) (a D : Addr) (oe : Obj) (cs : List Str) (w : Str) (sc : Scope) : Prop where
  hN : X.N = wordN
  hsc : X.env.scope = sc
  pin : (a, oe) ∈ X.pn
  hd : X.A.handled = some (.ref a)
  fld : ∃ vs, oe.data = .fields vs ∧ vs[2]? = some .none
  zc : Zc (.ref D) none oe
  wd : WordOk X.K X.mg cs D w
  nb : ∀ x ∈ blts, X.mg x = none
  un : X.A.units + 65 < cLine
  fn : ∀ y, X.fn y = true
section
variable {X : Cx} {D a : Addr} {oe : Obj} {cs : List Str} {w : Str} {sc : Scope} (c : HotAll X a D oe cs w sc)
include c
theorem HotAll.hot : L2H.HotC X := ⟨(a, oe), ⟨c.hd, c.fld⟩, c.pin⟩
theorem HotAll.gl {x : Str} (h : isGlB sc x = true) : Gl X x ∧ (x == ("__debug__" : Str)) = false ∧ x ≠ ("__name__" : Str) := by
  unfold isGlB kindB at h
  simp only [Bool.and_eq_true, decide_eq_true_eq, Bool.not_eq_true', decide_eq_false_iff_not] at h
  refine ⟨?_, h.1.2, h.2⟩
  show X.env.scope.names.lookup x = _
  rw [c.hsc]
  exact h.1.1
theorem HotAll.var {i : Nat} {x : Str} (h : isVarB sc wordN i x = true) : X.N[i]? = some x ∧ Vis X.env.scope x ∧ (x == ("__debug__" : Str)) = false ∧ (x == ("__classdict__" : Str)) = false := by
  unfold isVarB kindB at h
  simp only [Bool.and_eq_true, Bool.or_eq_true, decide_eq_true_eq, Bool.not_eq_true'] at h
  refine ⟨by rw [c.hN]; exact h.1.1.1, ?_, h.1.2, h.2⟩
  unfold Vis
  rw [c.hsc]
  rcases h.1.1.2 with (h | h) | h
  · exact .inl h
  · exact .inr (.inl h)
  · exact .inr (.inr h)
def tIsi (a : Addr) (b : Bool) : TE := fun σ H Q => σ[0]? = some (some (.ref a)) ∧ Q (.bl b) H
theorem isi_ty {ex : Expr} (h : isiB sc ("ValueError" : Str) ex = true) : PT X ex (tB (tIsi a true)) := by
  unfold isiB at h
  split at h <;> try (cases h; done)
  rename_i f p1 x p2 y p3 p4
  simp only [Bool.and_eq_true, decide_eq_true_eq] at h
  obtain ⟨⟨⟨⟨h1, h2⟩, h3⟩, h4⟩, h5⟩ := h
  subst h1 h4
  obtain ⟨g1, g2, g3⟩ := c.gl h2
  obtain ⟨k1, k2, k3⟩ := c.gl h5
  obtain ⟨v1, v2, v3, v4⟩ := c.var h3
  have py : PE X (.Name "ValueError" p3) (tC (.ty "ValueError")) := pe_bltn k1 c.wd.vE (by decide +kernel) rfl k3 k2
  refine pt_val (PE_imp (pe_callB (call_isH c.wd.ex c.pin c.zc (let ⟨vs, e, _⟩ := c.fld; ⟨vs, e⟩)) g1 (c.nb _ (by decide +kernel)) boot_isinstance (pa_cons (pe_var v1 v2 v3 v4) (pa_cons py pa_nil (star_ok rfl)) (star_ok rfl)) g3 g2 (star_ok rfl) (back_ok fun z hz => by rw [List.mem_singleton.mp hz]; rfl)) ?_)
  rintro σ H Q ⟨e1, q⟩
  exact ⟨.ref a, e1, .ty "ValueError", .type "ValueError", true, rfl, fun u hu => hu, c.wd.vK, q⟩
theorem isi_cl {ex : Expr} {k : Str} (hk : k ∈ cs) (h : isiB sc k ex = true) : PE X ex (tIsi a (decide (k = w))) ∧ good ex = true := by
  unfold isiB at h
  split at h <;> try (cases h; done)
  rename_i f p1 x p2 y p3 p4
  simp only [Bool.and_eq_true, decide_eq_true_eq] at h
  obtain ⟨⟨⟨⟨h1, h2⟩, h3⟩, h4⟩, h5⟩ := h
  subst h1 h4
  obtain ⟨g1, g2, g3⟩ := c.gl h2
  obtain ⟨k1, k2, k3⟩ := c.gl h5
  obtain ⟨v1, v2, v3, v4⟩ := c.var h3
  obtain ⟨C, m1, m2⟩ := c.wd.flg _ hk
  have py : PE X (.Name y p3) (tC (.ref C)) := pe_glob k1 m1 rfl k2
  refine ⟨PE_imp (pe_callB (call_isH c.wd.ex c.pin c.zc (let ⟨vs, e, _⟩ := c.fld; ⟨vs, e⟩)) g1 (c.nb _ (by decide +kernel)) boot_isinstance (pa_cons (pe_var v1 v2 v3 v4) (pa_cons py pa_nil (star_ok rfl)) (star_ok rfl)) g3 g2 (star_ok rfl) (back_ok fun z hz => by rw [List.mem_singleton.mp hz]; rfl)) ?_, rfl⟩
  rintro σ H Q ⟨e1, q⟩
  exact ⟨.ref a, e1, .ref C, .ref C, _, rfl, fun u hu => hu, m2, q⟩
def tIsiL (a : Addr) (bs : List Bool) : TA := fun σ H Q => σ[0]? = some (some (.ref a)) ∧ Q (bs.map V.bl) H
theorem isi_list : ∀ {ks : List Str} {es : List Expr}, (∀ k ∈ ks, k ∈ cs) → isiL sc ks es = true → PA X es (tIsiL a (ks.map fun k => decide (k = w)))
  | [], [], _, _ => PA_imp pa_nil fun σ H Q h => h.2
  | [], _ :: _, _, h => by simp [isiL] at h
  | _ :: _, [], _, h => by simp [isiL] at h
  | k :: ks, e :: es, hk, h => by
    simp only [isiL, Bool.and_eq_true] at h
    obtain ⟨p, g⟩ := isi_cl c (hk k List.mem_cons_self) h.1
    refine PA_imp (pa_cons p (isi_list (fun z hz => hk z (List.mem_cons_of_mem _ hz)) h.2) (star_ok g)) ?_
    rintro σ H Q ⟨e1, q⟩
    exact ⟨e1, e1, q⟩
end
end Lk
end Part_LkH2
section Part_LkH3
set_option Elab.async false
set_option linter.all false
set_option maxRecDepth 100000
set_option maxHeartbeats 4000000
namespace Lk
open PySem PySem.Spec PyProof.Rows L2 HotX
/-! ### flags: just one is true -/
theorem flag_sum {w : Str} : ∀ {cs : List Str}, cs.Nodup → w ∈ cs → (cs.map fun c => if (decide (c = w)) = true then (1 : Int) else 0).sum = 1
  | [], _, h => by cases h
  | c :: cs, nd, h => by
    rw [List.nodup_cons] at nd
    by_cases e : c = w
    · subst e
      have z : (cs.map fun d => if (decide (d = c)) = true then (1 : Int) else 0) = cs.map fun _ => 0 := by
        refine List.map_congr_left fun d hd => ?_
        rw [if_neg]
        simp only [decide_eq_true_eq]
        intro q
        subst q
        exact nd.1 hd
      rw [List.map_cons, z]
      have y : (cs.map fun _ => (0 : Int)).sum = 0 := by
        clear z nd h
        induction cs with
        | nil => rfl
        | cons _ _ ih => simp [ih]
      simp [y]
    · have h' : w ∈ cs := by
        rcases List.mem_cons.mp h with q | q
        · exact absurd q.symm e
        · exact q
      rw [List.map_cons, List.sum_cons, flag_sum nd.2 h']
      simp [e]
theorem flag_ix {w : Str} : ∀ {cs : List Str}, w ∈ cs → ∃ j : Nat, cs[j]? = some w ∧ (cs.map fun c => decide (c = w))[j]? = some true ∧ ∀ m : Nat, m < j → (cs.map fun c => decide (c = w))[m]? = some false
  | [], h => by cases h
  | c :: cs, h => by
    by_cases e : c = w
    · subst e
      exact ⟨0, rfl, by simp, fun m hm => absurd hm (Nat.not_lt_zero _)⟩
    · have h' : w ∈ cs := by
        rcases List.mem_cons.mp h with q | q
        · exact absurd q.symm e
        · exact q
      obtain ⟨j, h1, h2, h3⟩ := flag_ix h'
      refine ⟨j + 1, by simpa using h1, by simpa using h2, fun m hm => ?_⟩
      cases m with
      | zero => simp [e]
      | succ m => simpa using h3 m (by omega)
theorem dpAll_bl {K : PySem.W.Frag} {H : Hp} : ∀ {bs : List Bool}, DpAll K H (bs.map V.bl) (bs.map PyData.bool)
  | [] => .nil
  | b :: bs => .cons (.bl b) dpAll_bl
section
variable {X : Cx} {D a : Addr} {oe : Obj} {cs1 cs2 : List Str} {w : Str} {sc : Scope}
theorem strs_ok : ∀ {ks : List Str} {es : List Expr}, strL ks es = true → PA X es (fun σ H Q => Q (ks.map V.str) H)
  | [], [], _ => PA_imp pa_nil fun σ H Q h => h
  | [], _ :: _, h => by simp [strL] at h
  | _ :: _, [], h => by simp [strL] at h
  | k :: ks, e :: es, h => by
    unfold strL at h
    split at h
    · rename_i heq _; cases heq
    · rename_i c cs x j p es' h1 h2
      cases h1
      cases h2
      simp only [Bool.and_eq_true, decide_eq_true_eq] at h
      obtain ⟨h1, h2⟩ := h
      subst h1
      exact PA_imp (pa_cons pe_str (strs_ok h2) (star_ok rfl)) fun σ H Q q => q
    · cases h
theorem word_body (c : HotAll X a D oe (cs1 ++ cs2) w sc) {body : List Stmt} (h : chkWord cs1 cs2 sc body = true) :
    PSs X body (fun Dk σ H => σ[0]? = some (some (.ref a)) ∧ σ.length = 2 ∧ ∀ H', (∀ b o, H b = some o → H' b = some o) → Dk.rt (.str w) H') := by
  unfold chkWord at h
  split at h <;> try (cases h; done)
  simp only [Bool.and_eq_true, decide_eq_true_eq] at h
  obtain ⟨⟨⟨⟨⟨⟨⟨⟨⟨⟨⟨⟨⟨⟨⟨⟨⟨⟨⟨hf1, hf2⟩, hf3⟩, hf4⟩, hf5⟩, hi1⟩, hi2⟩, hs⟩, gs⟩, hi⟩, hay⟩, hk⟩, ht⟩, hm⟩, hln⟩, hve⟩, hg⟩, hblk⟩, hst⟩, hlen⟩ := h
  subst hs hi hay hk hm hg ht
  have nd : X.N.Nodup := by rw [c.hN]; decide
  have loc : ∀ {x : Str}, isLocB sc wordN 1 x = true → X.N[1]? = some x ∧ Loc X.env.scope x := fun {x} h => by
    simp only [isLocB, kindB, Bool.and_eq_true, Bool.or_eq_true, decide_eq_true_eq] at h
    refine ⟨by rw [c.hN]; exact h.1, ?_⟩
    unfold L2.Loc
    rw [c.hsc]
    exact h.2
  obtain ⟨l1, l1'⟩ := loc hf1
  obtain ⟨l2, l2'⟩ := loc hf2
  obtain ⟨a3, b3, c3, d3⟩ := c.var hf3
  obtain ⟨a4, b4, c4, d4⟩ := c.var hf4
  obtain ⟨a5, b5, c5, d5⟩ := c.var hf5
  obtain ⟨g1, g2, g3⟩ := c.gl gs
  simp only [blkB, Bool.and_eq_true, List.all_eq_true, decide_eq_true_eq, Bool.not_eq_true', decide_eq_false_iff_not, Bool.or_eq_true] at hblk
  obtain ⟨⟨⟨⟨⟨⟨k1, k2⟩, k3⟩, k4⟩, k5⟩, k6⟩, k7⟩ := hblk
  have hu := c.un
  refine PSs_imp (pss_cons (ps_set nd l1 l1' (pe_lst (isi_list c (fun k hk => List.mem_append_left _ hk) hi1)) rfl (.inl (c.fn _)))
    (pss_cons (ps_set nd l2 l2' (pe_op op_cat (pe_var a3 b3 c3 d3) (pe_lst (isi_list c (fun k hk => List.mem_append_right _ hk) hi2))) rfl (.inl (c.fn _)))
      (pss_cons (ps_if (PW.pt (pw_or (pt_cmpR op_ne (pe_callB (cr_sum_hot c.hot) g1 (c.nb _ (by decide +kernel)) (by decide +kernel) (pa_cons (pe_lcInt_hot (X := X) (j := 1) c.hot a4 b4 c4 d4 (fun y hy => k1 y hy) (fun y hy => k2 y hy) k3 (fun y hy e => (k4 y hy).resolve_left fun z => z e) k5 k6 (c.nb _ (by decide +kernel)) k7) pa_nil (star_ok rfl)) g3 g2) pe_int rfl) (pw_or1 (pt_not (isi_ty c hve))))) (pss_one (ps_ret pe_str)) pss_nil)
        (pss_one (ps_ret (pe_ix ix_seq (pe_lst (strs_ok hst)) (pe_bm PySem.F.plainAttrs_list PySem.F.slot_list_index PySem.F.type_list_index (mt_indexD hu) (pe_var a5 b5 c5 d5) (pa_cons pe_bl pa_nil (star_ok rfl)) (attr_ok rfl) rfl hln (star_ok rfl) rfl) (plainIx_ok rfl))))))) ?_
  rintro σ H Dk ⟨e0, el, q⟩
  have len20 : ∀ {n : Nat}, n ≤ (cs1 ++ cs2).length → n ≤ sizeLine := fun {n} h => Nat.le_trans h (Nat.le_trans hlen (by decide))
  have s0 : ∀ {v : V} {τ : L2.St}, τ[0]? = some (some (.ref a)) → (τ.set 1 (some v))[0]? = some (some (.ref a)) := fun {v τ} e => by
    rw [List.getElem?_set_ne (by decide)]
    exact e
  have s1 : ∀ {v : V} {τ : L2.St}, τ.length = 2 → (τ.set 1 (some v))[1]? = some (some v) := fun {v τ} e => by
    rw [List.getElem?_set_self (by omega)]
  have sl : ∀ {v : V} {τ : L2.St}, τ.length = 2 → (τ.set 1 (some v)).length = 2 := fun {v τ} e => by rw [List.length_set]; exact e
  have flg : (cs1.map fun k => decide (k = w)) ++ (cs2.map fun k => decide (k = w)) = (cs1 ++ cs2).map fun k => decide (k = w) := by rw [List.map_append]
  refine ⟨e0, len20 (by simp), fun p hp => ?_⟩
  refine ⟨.ref p, s1 el, s0 e0, len20 (by simp), fun p2 hp2 => ?_⟩
  have n2 : p ≠ p2 := fun z => by
    rw [← z, upd_same] at hp2
    cases hp2
  refine ⟨p, p2, _, _, rfl, rfl, by rw [upd_ne n2]; exact upd_same, upd_same, len20 (by simp), fun p3 hp3 => ?_⟩
  rw [← List.map_append, flg]
  have E3 : ∀ b o, H b = some o → (upd (upd (upd H p (.lst ((cs1.map fun k => decide (k = w)).map V.bl))) p2 (.lst ((cs2.map fun k => decide (k = w)).map V.bl))) p3 (.lst (((cs1 ++ cs2).map fun k => decide (k = w)).map V.bl))) b = some o := fun b o hb => by
    have h1 : b ≠ p := ne_of_none hb hp
    have h2 : b ≠ p2 := fun z => by
      subst z
      rw [upd_ne h1, hb] at hp2
      cases hp2
    have h3 : b ≠ p3 := fun z => by
      subst z
      rw [upd_ne h2, upd_ne h1, hb] at hp3
      cases hp3
    rw [upd_ne h3, upd_ne h2, upd_ne h1]
    exact hb
  generalize hH3 : (upd (upd (upd H p (.lst ((cs1.map fun k => decide (k = w)).map V.bl))) p2 (.lst ((cs2.map fun k => decide (k = w)).map V.bl))) p3 (.lst (((cs1 ++ cs2).map fun k => decide (k = w)).map V.bl))) = H3 at E3
  have at3 : H3 p3 = some (.lst (((cs1 ++ cs2).map fun k => decide (k = w)).map V.bl)) := by rw [← hH3]; exact upd_same
  show tSeq _ _ Dk (List.set (List.set σ 1 _) 1 (some (.ref p3))) H3
  refine ⟨p3, _, s1 (sl el), .inl (.inl at3), ?_, fun p4 hp4 => ?_⟩
  · rw [List.length_map]
    exact Nat.le_trans hlen (by decide)
  have sum1 : (((cs1 ++ cs2).map fun k => decide (k = w)).map fun b => if b = true then (1 : Int) else 0).sum = 1 := by
    rw [List.map_map]
    exact flag_sum c.wd.nd c.wd.mem
  have ei : (((cs1 ++ cs2).map fun k => decide (k = w)).map fun b => V.int (if b = true then 1 else 0)) = ((((cs1 ++ cs2).map fun k => decide (k = w)).map fun b => if b = true then (1 : Int) else 0).map V.int) := by
    simp only [List.map_map]
    rfl
  refine ⟨p4, _, rfl, .inl (.inl (by rw [upd_same, ei])), ?_⟩
  refine ⟨rfl, false, by rw [sum1]; rfl, ?_⟩
  simp only [Bool.false_eq_true, if_false]
  refine ⟨s0 (s0 e0), true, rfl, ?_⟩
  have n34 : p3 ≠ p4 := ne_of_none at3 hp4
  have E4 : ∀ b o, H b = some o → (upd H3 p4 (.lst (((cs1 ++ cs2).map fun k => decide (k = w)).map fun b => V.int (if b = true then 1 else 0)))) b = some o := fun b o hb => by
    rw [upd_ne (ne_of_none (E3 b o hb) hp4)]
    exact E3 b o hb
  have at4 : (upd H3 p4 (.lst (((cs1 ++ cs2).map fun k => decide (k = w)).map fun b => V.int (if b = true then 1 else 0)))) p3 = some (.lst (((cs1 ++ cs2).map fun k => decide (k = w)).map V.bl)) := by
    rw [upd_ne n34]
    exact at3
  generalize (upd H3 p4 (.lst (((cs1 ++ cs2).map fun k => decide (k = w)).map fun b => V.int (if b = true then 1 else 0)))) = H4 at E4 at4 ⊢
  simp only [Bool.not_true, Bool.false_eq_true, if_false]
  unfold tNext
  dsimp only
  unfold tRet
  refine ⟨len20 (by simp), fun p5 hp5 => ?_⟩
  have n5 : p3 ≠ p5 := ne_of_none at4 hp5
  have at5 : (upd H4 p5 (.lst ((cs1 ++ cs2).map V.str))) p3 = some (.lst (((cs1 ++ cs2).map fun k => decide (k = w)).map V.bl)) := by
    rw [upd_ne n5]
    exact at4
  obtain ⟨j, j1, j2, j3⟩ := flag_ix c.wd.mem
  refine ⟨.ref p3, s1 (sl el), .inl ⟨rfl, _, .inl (.inl at5)⟩, ?_⟩
  refine ⟨p3, .bl true, .bool true, _, j, .bool true, rfl, rfl, .lst (.inl (.inl at5)) dpAll_bl, .bl true, c.wd.shp, rfl, ?_, rfl, ?_, ?_⟩
  · rw [List.getElem?_map, j2]
    rfl
  · intro m z hm hz
    rw [List.getElem?_map, j3 m hm] at hz
    cases hz
    rfl
  · refine .inl ⟨p5, _, (j : Nat), .str w, rfl, rfl, .inl (.inl upd_same), ?_, q _ fun b o hb => ?_⟩
    · exact atI_nat (by rw [List.getElem?_map, j1]; rfl)
    · rw [upd_ne (ne_of_none (E4 b o hb) hp5)]
      exact E4 b o hb
end
end Lk
end Part_LkH3
section Part_LkK
set_option Elab.async false
set_option linter.all false
set_option maxRecDepth 100000
set_option maxHeartbeats 4000000
namespace Lk
open PySem PySem.Spec PyProof.Rows L2 HotX
/-! ### a def called while an exception is handled, told of the very state -/
theorem run_hot {CX : CXT} {P : Program} {w : World} {K : PySem.W.Frag} {mg : Str → Option Value} {base : Heap} {k : Nat} {f : Addr} {name qual : Str} {params : Arguments} {body : List Stmt} {scope : Scope} {dV kV doc pm cdv ct oc : Value} {an od : Option Addr} {osl : Array (Option Value)} {N ps : List Str}
    (lk : K.lookup f = some ⟨oc, od, .func (PySem.W.fnOf name qual params body scope dV kV doc pm an cdv ct), osl⟩) (hcd : PySem.W.codeIn K cdv qual = true) (S : FnScope N ps scope)
    {A : Around} {outer : List PySem.Env} {s : Shared} {H : Hp} {args : Args} {us : List Value} {vs : List V} {Q : VK} {E : XK} {p : Addr × Obj} (hr : L2H.RoomH (k + 1) A) (hpin : L2H.PinOk outer H s p) (e0 : Env0 P w K mg base A outer s H)
    (hb : BindsTo s (PySem.W.fnOf name qual params body scope dV kV doc pm an cdv ct) args (ps.zip us)) (r : Vals vs us) (hl : vs.length = ps.length)
    (hbody : L2H.RoomH k (A.deeper (envOfC qual scope s.heap.objs.size f cdv)) → ∃ t, PSs (L2H.cxH CX P w K mg base N qual scope f cdv A outer s H E p) body t ∧ t { nx := fun _ H' => Q .non H', rt := Q } (L2.start N vs) H) :
    codeAny (model P w) A (.call (.ref f) args) (CR CX outer P w H s Q E) s := by
  have up : ∀ {h : Heap}, (∀ b o, base.get? b = some o → h.get? b = some o) → K.In h ∧ h.NoLimit := fun {h} q => ⟨e0.mod.kin.keeps q, e0.mod.nolimit.keeps q⟩
  obtain ⟨KX, lim⟩ := up fun b o e => (e0.bs b o e).1
  refine codeAny_call_function hr.depth (KX _ _ lk) rfl S.co S.gen rfl (PySem.W.codeRec_of KX hcd) (hb _ _ _ _ ?_)
  refine wpAny_newFunctionEnv_cells S.kind (fun y hy => ?_) fun env he s1 x => ?_
  · rcases S.par y.1 (List.of_mem_zip (a := y.1) (b := y.2) hy).1 with q | q
    · exact .inl q
    · exact .inr ⟨q, PySem.W.cellsFrom_some _ _ _ (.inl q)⟩
  subst he
  refine ⟨lim.keeps x.toInCall.keep, codeAny_func ?_⟩
  obtain ⟨t, ht, hq⟩ := hbody (hr.deeper _)
  have I : Inv (L2H.cxH CX P w K mg base N qual scope f cdv A outer s H E p) [] (L2.start N vs) H s1 := L2H.inv_startH S hpin e0 hl r x
  refine wpAny_mono (ht.run [] s1 (L2.start N vs) H _ I hq) (fun fl s' hs => ?_) fun e s' hs => hs
  cases fl with
  | ret u =>
    obtain ⟨v, σ', H', J, rv, q⟩ := hs
    exact ⟨v, H', J.os, J.bare, J.base, J.hok, rv, q⟩
  | next =>
    obtain ⟨σ', H', J, q⟩ := hs
    exact ⟨.non, H', J.os, J.bare, J.base, J.hok, rfl, q⟩
  | brk => exact (let ⟨_, _, _, q⟩ := hs; False.elim q)
  | cont => exact (let ⟨_, _, _, q⟩ := hs; False.elim q)
def toldN : List Str := ["deed", "e"]
def chkTold (sc : Scope) : List Stmt → Bool
  | [.Try [.Return (some (.Call (.Name a _) [] [] _)) _] [.ExceptHandler (some (.Name e _)) (some n) [.Return (some (.Call (.Name wd _) [.Name m _] [] _)) _] _] [] [] _] =>
    isVarB sc toldN 0 a && decide (a = ("deed" : Str)) && decide (e = ("RankError" : Str)) && isGlB sc e && decide (toldN[1]? = some n) && kindB sc n .local && decide (wd = ("_law_word" : Str)) && isGlB sc wd && isVarB sc toldN 1 m
  | _ => false
/-- the two defs behind a told deed -/
structure ToldOk (K : PySem.W.Frag) (mg : Str → Option Value) (cs1 cs2 : List Str) (stT stW : Stmt) (gT gW Ca : Addr) (fdT fdW : FuncData) : Prop where
  FT : Fun K "_law_told" "_law_told" stT gT fdT
  mT : mg "_law_told" = some (.ref gT)
  bT : Binds K fdT ["deed"] []
  sT : fnScB toldN ["deed"] (defScope stT) = true
  cT : chkTold (defScope stT) (defBody stT) = true
  FW : Fun K "_law_word" "_law_word" stW gW fdW
  mW : mg "_law_word" = some (.ref gW)
  bW : Binds K fdW ["e"] []
  sW : fnScB wordN ["e"] (defScope stW) = true
  cW : chkWord cs1 cs2 (defScope stW) (defBody stW) = true
  mR : mg "RankError" = some (.ref Ca)
section
variable {cs1 cs2 : List Str} {stT stW : Stmt} {gT gW Ca : Addr} {fdT fdW : FuncData}
/-- _law_word(e), e the exception that is handled -/
theorem pe_word {Y : Cx} {a : Addr} {oe : Obj} {i : Nat} {n : Str} {cls : Value} {d : Option Addr} {q p pos : Pos} (TO : ToldOk Y.K Y.mg cs1 cs2 stT stW gT gW Ca fdT fdW) (hp : (a, oe) ∈ Y.pn) (hd : Y.A.handled = some (.ref a)) (hfl : ∃ vs, oe.data = .fields vs ∧ vs[2]? = some .none)
    (hr : L2H.RoomH 1 Y.A) (nb : ∀ x ∈ blts, Y.mg x = none) (hz : Zc cls d oe) (hg : Gl Y "_law_word") (hi : Y.N[i]? = some n) (hv : Vis Y.env.scope n) (hd1 : (n == ("__debug__" : Str)) = false) (hd2 : (n == ("__classdict__" : Str)) = false) :
    PE Y (.Call (.Name "_law_word" q) [.Name n p] [] pos) (fun σ H Q => ∃ C w, cls = .ref C ∧ d = none ∧ WordOk Y.K Y.mg (cs1 ++ cs2) C w ∧ σ[i]? = some (some (.ref a)) ∧ ∀ H', (∀ b o, H b = some o → H' b = some o) → Q (.str w) H') := by
  refine ⟨fun pins s σ H Q I h => ?_⟩
  obtain ⟨C, w, rfl, rfl, wd, e1, qq⟩ := h
  refine wpAny_Call_Name_kw (ld_glob I hg TO.mW ?_ (by decide))
  refine PySem.W.callWith_K (h₀ := Y.base) I.ok.mod.kin TO.FW.kp (thn ((pa_cons (pe_var (pos := p) hi hv hd1 hd2) pa_nil (star_ok rfl)).run pos pins s σ H (fun vs H1 => vs = [.ref a] ∧ H1 = H) I ⟨.ref a, e1, rfl, rfl⟩) fun us s1 ⟨vs, H1, I1, r, f1, f2⟩ => ⟨I1.kIn, ?_⟩) (star_ok rfl) rfl
  subst f1
  rw [f2] at I1
  have eu : us = [.ref a] := Vals.ref1 r
  subst eu
  obtain ⟨oc, od, kV, doc, pm, an, cdv, ct, osl, hfd, lk, hcd⟩ := TO.FW.ex
  have bW := TO.bW
  rw [hfd] at lk bW
  have P1 := I1.pin (a, oe) (List.mem_append_left _ hp)
  have hpin : L2H.PinOk Y.stack H s1 (a, oe) := ⟨P1.1, P1.2.1, fun hm => (List.mem_cons.mp (I1.stkSub a hm)).elim P1.2.2.1 P1.2.2.2.1, P1.2.2.2.2⟩
  have hb := bW s1 [.ref a] I1.kIn rfl
  have rc : codeAny (model Y.prog Y.w) Y.A (.call (.ref gW) ⟨[.ref a], []⟩) (CR C8.CX0 Y.stack Y.prog Y.w H s1 Q C8.E0) s1 := by
    refine run_hot (k := 0) (N := wordN) (ps := ["e"]) (us := [.ref a]) (vs := [.ref a]) (p := (a, oe)) lk hcd (fnSc_ok TO.sW) hr hpin I1.env0 hb (.cons rfl .nil) rfl fun hr' => ?_
    have c : HotAll (L2H.cxH C8.CX0 Y.prog Y.w Y.K Y.mg Y.base wordN "_law_word" (defScope stW) gW cdv Y.A Y.stack s1 H C8.E0 (a, oe)) a C oe (cs1 ++ cs2) w (defScope stW) :=
      ⟨rfl, rfl, List.mem_cons_self, hd, hfl, hz, wd, nb, by have := hr'.un; show (Y.A.deeper (envOfC (Str.ofString "_law_word") (defScope stW) s1.heap.objs.size gW cdv)).units + 65 < cLine; omega, fun _ => rfl⟩
    exact ⟨_, word_body c TO.cW, rfl, rfl, qq⟩
  refine wpAny_call (codeAny_mono rc fun r s2 hq => ?_)
  exact match r, hq with
    | .ok (.ret _), z => I1.after z
    | .error _, z => (show False from z).elim
    | .ok .next, z | .ok .brk, z | .ok .cont, z => (show False from z).elim
end
/-! ### a lambda that is called by the def it is handed to -/
section
variable {X : Cx} {pins : List (Addr × Obj)} {σ : L2.St} {H : Hp} {s : Shared}
/-- a lambda of the frame X that takes nothing, entered from a frame that X's code has come to -/
theorem lam_rc {outer : List PySem.Env} {A : Around} {HZ : Hp} {s1 : Shared} {f c' : Addr} {pm ctv : Value} {params : Arguments} {body : Expr} {scope : Scope} {k : Nat} {E : XK} {tb : TE} {Q : VK} (I : Inv X pins σ H s) (L : LamX.LamS X.env.scope scope)
    (un : Un (frs X.stack) [] H HZ s.heap s1.heap) (nl : s1.heap.NoLimit) (e0 : Env0 X.prog X.w X.K X.mg X.base A outer s1 HZ) (hr : Room (k + 1) A)
    (hf : s1.heap.get? f = some (PySem.W.kla_obj "<lambda>" (X.env.qual ++ "<lambda>") params body scope (cloFrom X.env.cells scope.names []) pm c' ctv)) (rec : s1.heap.CodeRec (.ref c') (X.env.qual ++ "<lambda>"))
    (hbind : bindArgs (PySem.W.kla_fn "<lambda>" (X.env.qual ++ "<lambda>") params body scope (cloFrom X.env.cells scope.names []) pm (.ref c') ctv) ⟨[], []⟩ = pure [])
    (hbody : Room k (A.deeper (LamX.lamEnv X scope s1.heap.objs.size f c')) → PE (lamN X A outer s1 HZ E scope f c') body tb) (ht : tb σ HZ Q) :
    codeAny (model X.prog X.w) A (.call (.ref f) ⟨[], []⟩) (CR (L2N.CX X.prog X.w) outer X.prog X.w HZ s1 Q E) s1 :=
  lam_enter hr.depth nl hf rec ⟨L.kind, L.co, L.gen, fun y hy => (L.own y hy).2, fun y hy => absurd hy (by simp)⟩ hbind fun h1 ns kp =>
    wpAny_mono ((hbody (hr.deeper _)).run [] _ _ HZ Q ((LamX.lam_start2 I L e0 hr.hd un ns kp).wish _) ht) (fun _ _ ⟨w', H', J, rv, q⟩ => ⟨w', H', J.os, J.bare, J.base, J.hok, rv, q⟩) fun _ _ q => q
theorem actN {CXg : CXT} {Eg : XK} {Ng : List Str} {qg : Str} {sg : Scope} {g f c' : Addr} {cdg pm ctv : Value} {params : Arguments} {body : Expr} {scope : Scope} {k i : Nat} {a : Str} {pn : List (Addr × Obj)} {xe : Value → Shared → Prop} {W : WX} {E : XK} {tb : TE} {p1 p2 : Pos}
    (I : Inv X pins σ H s) (L : LamX.LamS X.env.scope scope) (hf : s.heap.get? f = some (PySem.W.kla_obj "<lambda>" (X.env.qual ++ "<lambda>") params body scope (cloFrom X.env.cells scope.names []) pm c' ctv)) (hfn : H f = none) (hfr : f ∉ frs X.stack)
    (hbind : bindArgs (PySem.W.kla_fn "<lambda>" (X.env.qual ++ "<lambda>") params body scope (cloFrom X.env.cells scope.names []) pm (.ref c') ctv) ⟨[], []⟩ = pure [])
    (tk : L2N.Takes ((cxOf CXg X.prog X.w X.K X.mg X.base Ng qg sg g cdg X.A X.stack s H Eg).nox.tr pn xe) W) (hr : Room (k + 1) (X.A.deeper (envOfC qg sg s.heap.objs.size g cdg)))
    (hbody : ∀ (A : Around) (outer : List PySem.Env) (s : Shared) (H : Hp), Room k (A.deeper (LamX.lamEnv X scope s.heap.objs.size f c')) → PE (lamN X A outer s H E scope f c') body tb)
    (hN : Ng[i]? = some a) (hv : Vis sg a) (hd : (a == ("__debug__" : Str)) = false) (hcd : (a == ("__classdict__" : Str)) = false) :
    PE ((cxOf CXg X.prog X.w X.K X.mg X.base Ng qg sg g cdg X.A X.stack s H Eg).nox.tr pn xe) (.Call (.Name a p1) [] [] p2)
      (fun σZ HZ Q => (∀ cls d H', E cls d H' → W cls d σZ H') ∧ σZ[i]? = some (some (.ref f)) ∧ HZ c' = some (LamX.CodeO c' (X.env.qual ++ "<lambda>")) ∧ tb σ HZ Q) := by
  refine ⟨fun pinsZ sZ σZ HZ Q IZ h => ?_⟩
  obtain ⟨hW, hs, hc, ht⟩ := h
  have told := (pe_var (pos := p1) (i := i) hN hv hd hcd).run pinsZ sZ σZ HZ (fun v H1 => v = .ref f ∧ HZ = H1) IZ ⟨.ref f, hs, rfl, rfl⟩
  refine wpAny_Call_Name_kw (thn told ?_)
  rintro u s1 ⟨_, _, I1, ru, rfl, rfl⟩
  obtain rfl : u = .ref f := ru
  have of1 : s1.heap.get? f = some (PySem.W.kla_obj "<lambda>" (X.env.qual ++ "<lambda>") params body scope (cloFrom X.env.cells scope.names []) pm c' ctv) := I1.base.keep f _ hf hfn hfr (fun z => nomatch (show f ∈ ([] : List Addr) from z))
  obtain ⟨⟨oc, vs, t, hoc, hdc, hvc⟩, _, _⟩ := I1.hok c' _ hc
  have rc := lam_rc (E := E) (Q := Q) I L I1.base I1.nolimit I1.env0 hr of1 ⟨c', oc, vs, t, rfl, hoc, hdc, hvc⟩ hbind (hbody _ _ s1 HZ) ht
  refine PySem.W.callWith_F0 ⟨_, _, _, _, of1⟩ (wpAny_call (codeAny_mono rc fun r s' hq => ?_))
  exact match r, hq with
    | .ok (.ret _), z => I1.after z
    | .error e, z => tk e s' (L2N.XE.of_call I1 hW z)
    | .ok .next, z | .ok .brk, z | .ok .cont, z => (show False from z).elim
end
/-- more objects, none of them a table -/
theorem ER.more {K : PySem.W.Frag} {mg : Str → Option Value} {T : List (Addr × Str)} {F S H H' : Hp} {σ : St} {ρ : Env} (E : ER K mg T F S H σ ρ) (e : ∀ b o, H b = some o → H' b = some o) : ∃ S', Ext S S' ∧ ER K mg T F S' H' σ ρ := by
  have ex : Ext S (fun b => match H b with | some _ => S b | none => H' b) := fun b o h _ => by
    show (match H b with | some _ => S b | none => H' b) = some o
    rw [E.sub b o h]
    exact h
  refine ⟨fun b => match H b with | some _ => S b | none => H' b, ex, fun b o h => ?_, fun b o h => ?_, ⟨E.tab.tabs.ext e, fun b ps h => ?_⟩, E.len, fun i d h => ?_, fun i d h => ?_, E.inj⟩
  · cases q : H b with
    | some u =>
      have h : (match H b with | some _ => S b | none => H' b) = some o := h
      rw [q] at h
      exact e _ _ (E.sub b o h)
    | none =>
      have h : (match H b with | some _ => S b | none => H' b) = some o := h
      rw [q] at h
      exact h
  · obtain ⟨h1, h2⟩ := E.dis b o h
    refine ⟨e _ _ h1, ?_⟩
    show (match H b with | some _ => S b | none => H' b) = none
    rw [h1]
    exact h2
  · show (match H b with | some _ => S b | none => H' b) = _
    cases q : H b with
    | none => exact h
    | some u =>
      have := e _ _ q
      rw [h] at this
      cases this
      exact E.tab.tin b ps q
  · obtain ⟨v, h1, h2⟩ := E.sl i d h
    exact ⟨v, h1, h2.ext ex⟩
  · obtain ⟨a, h1, h2, h3, h4⟩ := E.ow i d h
    obtain ⟨o, h5, _⟩ := h4.get
    refine ⟨a, h1, ?_, h3, h4.ext ex fun o q => e _ _ q⟩
    show (match H a with | some _ => S a | none => H' a) = none
    rw [h5]
    exact h2
/-- behind a lambda's making -/
theorem ER.lamd {K : PySem.W.Frag} {mg : Str → Option Value} {T : List (Addr × Str)} {F S H H' : Hp} {σ : St} {ρ : Env} (E : ER K mg T F S H σ ρ) (e : LamX.ExtN H H') (tb : LamX.Tabs T H') : ∃ S', Ext S S' ∧ ER K mg T F S' H' σ ρ := by
  have key : ∀ b, (∃ o, H b = some o ∧ S b = none) ∨ ¬ ∃ o, H b = some o ∧ S b = none := fun b => Classical.em _
  have pick : ∃ S' : Hp, (∀ b o, H b = some o → S b = none → S' b = none) ∧ ∀ b, (¬ ∃ o, H b = some o ∧ S b = none) → S' b = H' b := by
    refine ⟨fun b => match H b, S b with | some _, none => none | _, _ => H' b, fun b o h1 h2 => ?_, fun b h => ?_⟩
    · show (match H b, S b with | some _, none => none | _, _ => H' b) = none
      rw [h1, h2]
    · show (match H b, S b with | some _, none => none | _, _ => H' b) = H' b
      cases q1 : H b with
      | none => rfl
      | some o =>
        cases q2 : S b with
        | none => exact absurd ⟨o, q1, q2⟩ h
        | some u => rfl
  obtain ⟨S', s1, s2⟩ := pick
  have inS : ∀ b o, S b = some o → S' b = H' b := fun b o h => s2 b fun ⟨u, _, q⟩ => by rw [h] at q; cases q
  have ex : Ext S S' := fun b o h n => by
    rw [inS b o h]
    exact e _ _ (E.sub b o h) n
  refine ⟨S', ex, fun b o h => ?_, fun b o h => ?_, ⟨tb, fun b ps h => ?_⟩, E.len, fun i d h => ?_, fun i d h => ?_, E.inj⟩
  · rcases key b with ⟨u, q1, q2⟩ | q
    · rw [s1 b u q1 q2] at h
      cases h
    · rw [s2 b q] at h
      exact h
  · obtain ⟨h1, h2⟩ := E.dis b o h
    refine ⟨e _ _ h1 fun ps z => ?_, s1 b o h1 h2⟩
    subst z
    rw [E.tab.tin b ps h1] at h2
    cases h2
  · rcases key b with ⟨u, q1, q2⟩ | q
    · exfalso
      have n : ∀ ps, u ≠ .tbl ps := fun ps z => by
        subst z
        rw [E.tab.tin b ps q1] at q2
        cases q2
      rw [e _ _ q1 n] at h
      exact n ps (Option.some.inj h)
    · rw [s2 b q]
      exact h
  · obtain ⟨v, h1, h2⟩ := E.sl i d h
    exact ⟨v, h1, h2.ext ex⟩
  · obtain ⟨a, h1, h2, h3, h4⟩ := E.ow i d h
    obtain ⟨o, h5, h6⟩ := h4.get
    refine ⟨a, h1, s1 a o h5 h2, h3, h4.ext ex fun o' q => ?_⟩
    rw [h5] at q
    cases q
    exact e _ _ h5 h6
section
variable {X : Cx} {cs1 cs2 : List Str} {stT stW : Stmt} {gT gW Ca : Addr} {fdT fdW : FuncData} {T : List (Addr × Str)} {W : WX} {C : Str → Option D} {n : Nat} {c P : Addr}
/-- what is known of the classes that a told deed may raise -/
def ClsOk (K : PySem.W.Frag) (mg : Str → Option Value) (cs : List Str) (Ca : Addr) (C : Str → Option D) : Prop :=
  ∀ x, C x = some (.fn x) → ∃ D, mg x = some (.ref D) ∧ PySem.W.exmOne K (.ref D) (.ref Ca) = some true ∧ WordOk K mg cs D x
theorem told_PE (TO : ToldOk X.K X.mg cs1 cs2 stT stW gT gW Ca fdT fdW) (cl : ClsOk X.K X.mg (cs1 ++ cs2) Ca C) (nb : ∀ x ∈ blts, X.mg x = none) (hr : Room (3 * n + 2) X.A) (TB : LamX.TabB X.base X.mg c P) (hcode : X.env.code = .ref c)
    (hmT : (P, X.env.qual ++ "<lambda>") ∈ T) (hu : ∀ p ∈ T, p.1 = P → p.2 = X.env.qual ++ "<lambda>")
    {f : Env → R D} {params : Arguments} {body : Expr} {scope : Scope} {x : Str} {p lp pos : Pos} (hx : x = ("_law_told" : Str)) (hg : Gl X x) (hpar : params = ⟨[], [], none, [], [], none, []⟩) (hL : LamX.lamSB X.env.scope scope = true)
    (hbody : ∀ (A : Around) (outer : List PySem.Env) (s : Shared) (H : Hp) (E : XK) (fa c' : Addr), Room (3 * n) (A.deeper (LamX.lamEnv X scope s.heap.objs.size fa c')) → PE (lamN X A outer s H E scope fa c') body (tE X.K X.mg T (fun cls d _ H => E cls d H) f)) :
    PE X (.Call (.Name x p) [.Lambda params body scope lp] [] pos) (tE X.K X.mg T W fun ρ => toldR C (f ρ)) := by
  subst hx
  have L := LamX.lamS_by hL
  have hdef : defaultsOf params X.env = ([], []) := by rw [hpar]; rfl
  have hbind : ∀ (q : Str) (cl : List (Str × Addr)) (pm cv ctv : Value), bindArgs (PySem.W.kla_fn "<lambda>" q params body scope cl pm cv ctv) ⟨[], []⟩ = pure [] := by rw [hpar]; exact fun _ _ _ _ _ => rfl
  refine ⟨fun pins s σ H Q I h => ?_⟩
  obtain ⟨F, S, ρ, E0, post⟩ := h
  have post : PostE X.K X.mg T W F S σ ρ (toldR C (f ρ)) Q := post
  refine wpAny_Call_Name_kw (ld_glob I hg TO.mT ?_ (by decide))
  refine PySem.W.callWith_K (h₀ := X.base) I.ok.mod.kin TO.FT.kp ?_ (by rfl) (by rfl)
  show wpAny _ _ (spliced ((false, eval (.Lambda params body scope lp) X.env) :: backTo pos (starEach [] X.env))) _ _ s
  refine Calls.spliced_cons (LamX.lam_make2 I TB hcode hmT hu E0.tab.tabs hdef (L.has I.ok) fun fl c' pm' ctv H1 s' I1 eN T1 hf hfn hfr hco => ?_)
  refine Calls.spliced_nil ⟨I1.kIn, ?_⟩
  obtain ⟨S1, ex1, E1⟩ := E0.lamd eN T1
  obtain ⟨oc, od, kV, doc, pm, an, cdv, ct, osl, hfd, lk, hcd⟩ := TO.FT.ex
  have bT := TO.bT
  rw [hfd] at lk bT
  have hb := bT s' [.ref fl] I1.kIn rfl
  have rc : codeAny (model X.prog X.w) X.A (.call (.ref gT) ⟨[.ref fl], []⟩) (CR C8.CX0 X.stack X.prog X.w H1 s' Q C8.E0) s' := by
    refine LamX.run_ofS (k := 3 * n + 1) (N := toldN) (ps := ["deed"]) (us := [.ref fl]) (vs := [.ref fl]) lk hcd (fnSc_ok TO.sT) hr I1.env0 hb (.cons rfl .nil) rfl fun hr' => ?_
    have hT := TO.cT
    generalize defBody stT = bd at hT ⊢
    unfold chkTold at hT
    split at hT <;> try (cases hT; done)
    rename_i ad p1 p2 p3 er p4 en wd p5 em p6 p7 p8 p9 p10
    simp only [Bool.and_eq_true, decide_eq_true_eq] at hT
    obtain ⟨⟨⟨⟨⟨⟨⟨⟨t1, t2⟩, t3⟩, t4⟩, t5⟩, t6⟩, t7⟩, t8⟩, t9⟩ := hT
    subst t2 t3 t7
    have glob : ∀ {y : Str}, isGlB (defScope stT) y = true → (defScope stT).names.lookup y = some .globalImplicit ∧ (y == ("__debug__" : Str)) = false := fun {y} h => by
      unfold isGlB kindB at h
      simp only [Bool.and_eq_true, decide_eq_true_eq, Bool.not_eq_true', decide_eq_false_iff_not] at h
      exact ⟨h.1.1, h.1.2⟩
    have vrb : ∀ {i : Nat} {y : Str}, isVarB (defScope stT) toldN i y = true → toldN[i]? = some y ∧ Vis (defScope stT) y ∧ (y == ("__debug__" : Str)) = false ∧ (y == ("__classdict__" : Str)) = false := fun {i y} h => by
      unfold isVarB kindB at h
      simp only [Bool.and_eq_true, Bool.or_eq_true, decide_eq_true_eq, Bool.not_eq_true'] at h
      refine ⟨h.1.1.1, ?_, h.1.2, h.2⟩
      rcases h.1.1.2 with (h | h) | h
      · exact .inl h
      · exact .inr (.inl h)
      · exact .inr (.inr h)
    obtain ⟨a1, a2, a3, a4⟩ := vrb t1
    obtain ⟨b1, b2, b3, b4⟩ := vrb t9
    have tl : PS (cxOf C8.CX0 X.prog X.w X.K X.mg X.base toldN "_law_told" (defScope stT) gT cdv X.A X.stack s' H1 C8.E0).nox
        (.Try [.Return (some (.Call (.Name "deed" p1) [] [] p2)) p3] [.ExceptHandler (some (.Name "RankError" p4)) (some en) [.Return (some (.Call (.Name "_law_word" p5) [.Name em p6] [] p7)) p8] p9] [] [] p10) _ :=
      L2N.ps_try_as (X := (cxOf C8.CX0 X.prog X.w X.K X.mg X.base toldN "_law_told" (defScope stT) gT cdv X.A X.stack s' H1 C8.E0).nox) (c := .ref Ca) (i := 1)
        (tb := fun W D σ' H' => ∃ Ech : XK, (∀ cls d H'', Ech cls d H'' → W cls d σ' H'') ∧ σ'[0]? = some (some (.ref fl)) ∧ H' c' = some (LamX.CodeO c' (X.env.qual ++ "<lambda>")) ∧ tE X.K X.mg T (fun cls d _ H => Ech cls d H) f σ H' D.rt)
        (ts := fun a cls d D σ' H' => ∃ Cc w, cls = .ref Cc ∧ d = none ∧ WordOk X.K X.mg (cs1 ++ cs2) Cc w ∧ σ'[1]? = some (some (.ref a)) ∧ ∀ H'', (∀ b o, H' b = some o → H'' b = some o) → D.rt (.str w) H'')
        (Wout := fun _ _ _ _ => False) rfl rfl (show toldN.Nodup by decide) t5 (show (defScope stT).names.lookup en = some .local by simpa [kindB] using t6) ⟨(glob t4).1, (glob t4).2, .inl TO.mR⟩ takesN0
        (fun W pn xe tk _ => ⟨fun pins2 s2 σ2 H2 D2 I2 h2 => by
          obtain ⟨Ech, e1, e2, e3, e4⟩ := h2
          have hp := actN (p1 := p1) (p2 := p2) I1 L hf hfn hfr (hbind _ _ _ _ _) tk hr' (fun A outer s H hr2 => hbody A outer s H Ech fl c' hr2) a1 a2 a3 a4
          exact (pss_one (ps_ret (pos := p3) hp)).run pins2 s2 σ2 H2 D2 I2 ⟨e1, e2, e3, e4⟩⟩)
        (fun a oe cls d pn hz hfd => by
          obtain ⟨vs, ev⟩ := hfd
          refine pss_one (ps_ret (pe_word (Y := (cxOf C8.CX0 X.prog X.w X.K X.mg X.base toldN "_law_told" (defScope stT) gT cdv X.A X.stack s' H1 C8.E0).nox.suite a ((a, oe) :: pn)) TO List.mem_cons_self rfl ⟨vs, ev, hz.2.2 vs ev⟩ ⟨?_, ?_⟩ nb hz.zc (glob t8).1 b1 b2 b3 b4))
          · have := hr'.dp
            show (X.A.deeper (envOfC (Str.ofString "_law_told") (defScope stT) s'.heap.objs.size gT cdv)).depth + 3 * 1 + 5 < _
            omega
          · have := hr'.un
            show (X.A.deeper (envOfC (Str.ofString "_law_told") (defScope stT) s'.heap.objs.size gT cdv)).units + 16 * 1 + 200 < _
            omega)
    refine ⟨_, (pss_one tl).nox, fun cls d H' => ∃ Cc w, cls = .ref Cc ∧ d = none ∧ PySem.W.exmOne X.K cls (.ref Ca) = some true ∧ WordOk X.K X.mg (cs1 ++ cs2) Cc w ∧ ∀ H'', (∀ b o, H' b = some o → H'' b = some o) → Q (.str w) H'', ?_, rfl, hco, F, S1, ρ, E1, ?_⟩
    · rintro cls d H' ⟨Cc, w, g1, g2, g3, g4, g5⟩
      exact ⟨true, g3, fun _ a ha => ⟨Cc, w, g1, g2, g4, rfl, g5⟩, fun z => nomatch z⟩
    · cases q : f ρ with
      | bad => rw [q] at post; exact post
      | ok d =>
        rw [q] at post
        exact fun v S2 H2 e2 E2 r2 => post v S2 H2 (ex1.trans e2) E2 r2
      | exc k =>
        rw [q] at post
        simp only [toldR] at post
        split at post
        · rename_i y hy
          split at post
          · rename_i hyk
            subst hyk
            obtain ⟨Dc, m1, m2, m3⟩ := cl _ hy
            intro S2 H2 e2 E2
            refine ⟨Dc, m1, Dc, y, rfl, rfl, m2, m3, fun H3 e3 => ?_⟩
            obtain ⟨S3, e4, E3⟩ := E2.more e3
            exact post (.str y) S3 H3 ((ex1.trans e2).trans e4) E3 (.str y)
          · exact post.elim
        · exact post.elim
  refine wpAny_call (codeAny_mono rc fun r s2 hq => ?_)
  exact match r, hq with
    | .ok (.ret _), z => I1.after z
    | .error _, z => (show False from z).elim
    | .ok .next, z | .ok .brk, z | .ok .cont, z => (show False from z).elim
end
end Lk
end Part_LkK
section Part_LkL
set_option Elab.async false
set_option linter.all false
set_option maxRecDepth 100000
set_option maxHeartbeats 4000000
namespace Lk
open PySem PySem.Spec PyProof.Rows L2
/-! ### the whole table of defs -/
structure DD where
  x : Str
  cd : CD
  st : Stmt
  lm : Bool := false
def tabG (G : List DD) (x : Str) : Option CD := (G.find? fun d => decide (d.x = x)).map (·.cd)
theorem tabG_mem {G : List DD} (nd : (G.map (·.x)).Nodup) {d : DD} (h : d ∈ G) : tabG G d.x = some d.cd := by
  unfold tabG
  induction G with
  | nil => cases h
  | cons e G ih =>
    rw [List.map_cons, List.nodup_cons] at nd
    rw [List.find?_cons]
    rcases List.mem_cons.mp h with q | q
    · subst q
      simp
    · have ne : e.x ≠ d.x := fun z => nd.1 (by rw [z]; exact List.mem_map.mpr ⟨d, q, rfl⟩)
      simp only [ne, decide_false]
      exact ih nd.2 q
def BindOk (x : Str) (st : Stmt) (ps : List Str) : Prop := ∀ (kV doc pm : Value) (an : Option Addr) (cdv ct : Value) (us : List Value), us.length = ps.length → bindArgs (PySem.W.fnOf x x (defArgs st) (defBody st) (defScope st) .none kV doc pm an cdv ct) ⟨us, []⟩ = pure (ps.zip us)
/-- a def stands where its name says -/
def DefAt (K : PySem.W.Frag) (mg : Str → Option Value) (x : Str) (st : Stmt) : Prop := ∃ fd, mg x = some (.ref (He.fAd K (x, none))) ∧ Fun K x x st (He.fAd K (x, none)) fd
def lamQ (x : Str) : Str := (x ++ ".<locals>.") ++ "<lambda>"
def tabT (K : PySem.W.Frag) (tf : List He.Defn) : List (Addr × Str) := tf.map fun p => ((He.cT K p).2, lamQ p.1)
/-- what told deeds lean on -/
structure Tolds (K : PySem.W.Frag) (mg : Str → Option Value) (C : Str → Option D) : Prop where
  ok : ∃ cs1 cs2 stT stW gT gW Ca fdT fdW, ToldOk K mg cs1 cs2 stT stW gT gW Ca fdT fdW ∧ ClsOk K mg (cs1 ++ cs2) Ca C
section
variable {P : Program} {w : World} {K : PySem.W.Frag} {mg : Str → Option Value} {base : Heap} {C : Str → Option D} {G : List DD} {xs : List Str} {tf : List He.Defn}
theorem tab_step (nd : (G.map (·.x)).Nodup) (hc : ∀ d ∈ G, chkD (G.map (·.x)) xs d.lm d.cd d.st = true) (tp : TopOk P w K mg C xs)
    (ht : ∀ d ∈ G, d.lm = true → Tolds K mg C ∧ (d.x, none) ∈ tf) (hn : (tf.map fun p => (He.cT K p).2).Nodup) (TB : ∀ p ∈ tf, LamX.TabB base mg (He.cT K p).1 (He.cT K p).2)
    {n : Nat} (ih : FnsOk' P w K mg base (tabT K tf) (Phi (tabG G) C n) (G.map (·.x)) n) {d : DD} (hd : d ∈ G) {fd : FuncData} (h2 : Fun K d.x d.x d.st (He.fAd K (d.x, none)) fd) :
    FnOk P w K mg base (L2N.CX P w) (3 * (n + 1)) (He.fAd K (d.x, none)) fd d.cd.ps (spF K mg (tabT K tf) (Phi (tabG G) C (n + 1)) d.x d.cd.ps.length) := by
  have eq : ∀ ds, Phi (tabG G) C (n + 1) d.x ds = runD (Phi (tabG G) C n) C d.cd ds := fun ds => by
    simp only [Phi]
    rw [tabG_mem nd hd]
  refine def_ok h2 (hc d hd) tp ih (Phi (tabG G) C (n + 1)) eq fun hl cdv hcv A outer s H E hr => ?_
  obtain ⟨⟨cs1, cs2, stT, stW, gT, gW, Ca, fdT, fdW, TO, CO⟩, hm⟩ := ht d hd hl
  obtain ⟨oc, od, osl, lk, e1, e2⟩ := hcv
  obtain ⟨c, e3⟩ := He.codeIn_ref e2
  have ec : (He.cT K (d.x, none)).1 = c := He.codeOf_eq lk (e1.trans e3)
  have tb := TB _ hm
  intro fn params body scope y p lp pos hy hg hpar hL hbody
  refine told_PE (X := cxOf (L2N.CX P w) P w K mg base d.cd.nm d.x (defScope d.st) (He.fAd K (d.x, none)) cdv A outer s H E) TO CO tp.nb hr tb ?_ ?_ ?_ hy hg hpar hL hbody
  · show cdv = _
    rw [ec]
    exact e3
  · exact List.mem_map.mpr ⟨_, hm, rfl⟩
  · intro q hq eq1
    obtain ⟨r, hr1, hr2⟩ := List.mem_map.mp hq
    subst hr2
    have : r = (d.x, none) := by
      obtain ⟨i, hi, ei⟩ := List.mem_iff_getElem.mp hr1
      obtain ⟨j, hj, ej⟩ := List.mem_iff_getElem.mp hm
      have hij : i = j := by
        refine (List.getElem_inj (h₀ := by rw [List.length_map]; exact hi) (h₁ := by rw [List.length_map]; exact hj) hn).mp ?_
        rw [List.getElem_map, List.getElem_map, ei, ej]
        exact eq1
      subst hij
      rw [← ei, ej]
    subst this
    rfl
theorem tab_ok (nd : (G.map (·.x)).Nodup) (hF : ∀ d ∈ G, DefAt K mg d.x d.st) (hB : ∀ d ∈ G, BindOk d.x d.st d.cd.ps) (hc : ∀ d ∈ G, chkD (G.map (·.x)) xs d.lm d.cd d.st = true) (tp : TopOk P w K mg C xs)
    (ht : ∀ d ∈ G, d.lm = true → Tolds K mg C ∧ (d.x, none) ∈ tf) (hn : (tf.map fun p => (He.cT K p).2).Nodup) (TB : ∀ p ∈ tf, LamX.TabB base mg (He.cT K p).1 (He.cT K p).2) :
    ∀ n, FnsOk' P w K mg base (tabT K tf) (Phi (tabG G) C n) (G.map (·.x)) n := by
  intro n
  induction n with
  | zero =>
    intro f hf
    obtain ⟨d, hd, rfl⟩ := List.mem_map.mp hf
    obtain ⟨fd, h1, h2⟩ := hF d hd
    refine ⟨_, fd, d.cd.ps, h1, h2.kp, h2.binds (hB d hd), fun ds h => absurd rfl h, fun vs H Q E h => h.1, fun A outer s H args us vs Q E hr e0 hb r hsp => ?_⟩
    obtain ⟨_, S, ds, _, _, _, z⟩ := hsp
    exact z.elim
  | succ n ih =>
    intro f hf
    obtain ⟨d, hd, rfl⟩ := List.mem_map.mp hf
    obtain ⟨fd, h1, h2⟩ := hF d hd
    have eq : ∀ ds, Phi (tabG G) C (n + 1) d.x ds = runD (Phi (tabG G) C n) C d.cd ds := fun ds => by
      simp only [Phi]
      rw [tabG_mem nd hd]
    refine ⟨_, fd, d.cd.ps, h1, h2.kp, h2.binds (hB d hd), fun ds h => ?_, ?_⟩
    · rw [eq] at h
      unfold runD at h
      by_cases z : ds.length = d.cd.ps.length
      · exact z
      · rw [if_neg z] at h
        exact absurd rfl h
    · exact tab_step nd hc tp ht hn TB ih hd h2
/-- the law's end -/
theorem law_at {l : PySem.W.OpenLaw} {N n : Nat} {fa : Addr} {h : Heap} (KX : K.In h) (Gn : h.Ns mainGlobals mg) (hfa : mg ("law" : Str) = some (.ref fa)) (nd : (G.map (·.x)).Nodup) (hF : ∀ d ∈ G, DefAt K mg d.x d.st) (hB : ∀ d ∈ G, BindOk d.x d.st d.cd.ps)
    (hc : ∀ d ∈ G, chkD (G.map (·.x)) xs d.lm d.cd d.st = true) (tp : TopOk l.prog w K mg C xs) (ht : ∀ d ∈ G, d.lm = true → Tolds K mg C ∧ (d.x, none) ∈ tf) (hn : (tf.map fun p => (He.cT K p).2).Nodup)
    (c1 : ∀ p ∈ tf, PySem.W.codeHdIn K (He.cT K p).1 (He.cT K p).2 = true) (c2 : ∀ p ∈ tf, K.lookup (He.cT K p).2 = none) (c3 : ∀ p ∈ tf, h.get? (He.cT K p).2 = some { cls := .none, data := .fields #[] })
    {dl : DD} (hl : dl ∈ G) (hx : dl.x = ("law" : Str)) (hps : dl.cd.ps = (["script"] : List Str)) (law : ∀ ns : List Int, ns.length ≤ n → Phi (tabG G) C (N + 1) "law" [.scr ns] = .ok (.bl true)) :
    LamX.LawAtS l w K (L2N.CX l.prog w) (3 * (N + 1)) n "script" mg fa h := by
  obtain ⟨fd, h1, h2⟩ := hF dl hl
  rw [hx] at h1 h2
  rw [hfa] at h1
  have ef : fa = He.fAd K ("law", none) := by
    injection h1 with z
    injection z
  have hb : Binds K fd ["script"] [] := by
    have := h2.binds (ps := dl.cd.ps) (by rw [← hx]; exact hB dl hl)
    rw [hps] at this
    exact this
  refine ⟨fd, tf.map (He.cT K), spF K mg (tabT K tf) (Phi (tabG G) C (N + 1)) "law" 1, ?_, ?_, ?_, ?_, ?_, ?_⟩
  · intro p hp
    obtain ⟨q, hq, rfl⟩ := List.mem_map.mp hp
    exact c3 q hq
  · intro p hp
    obtain ⟨q, hq, rfl⟩ := List.mem_map.mp hp
    exact c2 q hq
  · intro p hp
    obtain ⟨q, hq, rfl⟩ := List.mem_map.mp hp
    exact PySem.W.codeHd_of_K KX (c1 q hq)
  · intro s u
    obtain ⟨oc, od, kV, doc, pm, an, cdv, ct, osl, hfd, lk, hcd⟩ := h2.ex
    rw [hfd]
    have z := hB dl hl kV doc pm an cdv ct [u] (by rw [hps]; rfl)
    rw [hx, hps] at z
    intro m A Q E hq
    rw [z]
    exact wpAny_pure hq
  · intro H a ns hlen _ hH hS
    refine ⟨rfl, H, [.scr ns], Sub.refl _, ⟨?_, fun b ps q => q⟩, .cons (.scr hS) .nil, ?_⟩
    · intro p hp
      obtain ⟨q, hq, rfl⟩ := List.mem_map.mp hp
      exact LamX.TabS.nil (hH _ (List.mem_map.mpr ⟨q, hq, rfl⟩))
    · rw [law ns hlen]
      intro v S' H' _ _ _ _ r
      cases r
      rfl
  · intro bs kb nb tb
    have TB : ∀ p ∈ tf, LamX.TabB bs mg (He.cT K p).1 (He.cT K p).2 := fun p hp => tb _ (List.mem_map.mpr ⟨p, hp, rfl⟩)
    have key := tab_ok (P := l.prog) (w := w) (base := bs) nd hF hB hc tp ht hn TB N
    have z := tab_step nd hc tp ht hn TB key hl (fd := fd) (by rw [hx]; exact h2)
    rw [hps, hx] at z
    rw [ef]
    exact z
end
end Lk
end Part_LkL
section Part_LkM
set_option Elab.async false
set_option linter.all false
set_option maxRecDepth 100000
set_option maxHeartbeats 4000000
namespace Lk
open PySem PySem.Spec PyProof.Rows L2
/-! ### what the top leaves, asked by names -/
def ddD (x : Str) (st : Stmt) : He.DefD := ⟨(x, none), x, x, defArgs st, defBody st, defScope st, [], []⟩
structure LawTop where
  G : List DD
  tw : List (Str × Stmt) := []
  xs : List Str := []
  cs1 : List Str := []
  cs2 : List Str := []
  ics : List (Str × Int) := []
  tf : List Str := []
  tcs : List (Str × List Str) := []
namespace LawTop
variable (L : LawTop)
def cs : List Str := L.cs1 ++ L.cs2
def fn : List He.DefD := L.G.map (fun d => ddD d.x d.st) ++ L.tw.map fun q => ddD q.1 q.2
def fa : List He.Fa := L.fn.map (fun d => He.Fa.glo d.name) ++ (blts.map He.Fa.free ++ (((L.xs ++ L.cs) ++ L.tcs.map (·.1)).map He.Fa.glo ++ (L.xs.map He.Fa.exc ++ (L.ics.map (fun q => He.Fa.int q.1 q.2) ++ ((if L.cs.isEmpty then [] else [He.Fa.glo "RankError", He.Fa.free "ValueError"]) ++ L.cs.map fun x => He.Fa.exm x "RankError" true)))))
def tfd : List He.Defn := L.tf.map fun x => (x, none)
end LawTop
def wordB (K : PySem.W.Frag) (cs : List Str) (x : Str) : Bool :=
  He.eqO (PySem.W.findIn K (.ref (He.ga K x)) "__getattribute__") (some (some (.builtin "BaseException.__getattribute__"))) && (He.eqO (PySem.W.findIn K (.ref (He.ga K x)) "__getattr__") (some none) && (decide (PySem.W.subIn K (.ref (He.ga K x)) (.type "BaseException") = some true) &&
  (PySem.W.hasDictIn K (He.ga K x) && (He.eqO (PySem.W.findIn K (.ref (He.ga K x)) "__class__") (some (some (.builtin "object.__class__"))) && (He.eqO (PySem.W.specialIn K (.builtin "object.__class__") "__get__") (some (some (.builtin "getset_descriptor.__get__"))) &&
  (decide (PySem.W.takesIn K (.builtin "object.__class__") = some true) && (decide (PySem.W.mroIn K (He.ga K x) (.type "object") = some true) && (cs.all (fun c => decide (PySem.W.kitOne K (.ref (He.ga K x)) (.ref (He.ga K c)) = some (decide (c = x)))) && decide (PySem.W.kitOne K (.ref (He.ga K x)) (.type "ValueError") = some true)))))))))
def strsB : List Value → List Str → Bool
  | [], [] => true
  | .str y _ :: r, z :: zs => decide (y = z) && strsB r zs
  | _, _ => false
/-- a tuple of texts at the top -/
def tcB (K : PySem.W.Frag) (a : Addr) (zs : List Str) : Bool := match K.lookup a with
  | some ⟨.type c, _, .seq its _, _⟩ => decide (c = "tuple") && (decide (its.size ≤ 1000) && strsB its.toList zs)
  | _ => false
theorem strs_vals : ∀ {its : List Value} {zs : List Str}, strsB its zs = true → Vals (zs.map V.str) its
  | [], [], _ => .nil
  | [], _ :: _, h => by cases h
  | .str y t :: r, z :: zs, h => by
    obtain ⟨h1, h2⟩ := Bool.and_eq_true_iff.mp h
    have e := of_decide_eq_true h1
    subst e
    exact .cons ⟨t, rfl⟩ (strs_vals h2)
  | .str _ _ :: _, [], h => by cases h
  | .none :: _, _, h => by cases h
  | .ellipsis :: _, _, h => by cases h
  | .bool _ :: _, _, h => by cases h
  | .int _ _ :: _, _, h => by cases h
  | .ref _ :: _, _, h => by cases h
  | .type _ :: _, _, h => by cases h
  | .builtin _ :: _, _, h => by cases h
theorem RepL.strs {K : PySem.W.Frag} {mg : Str → Option Value} {S : Hp} : ∀ (zs : List Str), RepL K mg S (zs.map V.str) (zs.map D.str)
  | [] => .nil
  | z :: zs => .cons (.str z) (RepL.strs zs)
theorem tcB_rep {K : PySem.W.Frag} {mg : Str → Option Value} {a : Addr} {zs : List Str} (h : tcB K a zs = true) (S : Hp) : Rep K mg S (.ref a) (.tup (zs.map .str)) := by
  unfold tcB at h
  split at h
  · rename_i c dd its nn sl hk
    obtain ⟨h1, h⟩ := Bool.and_eq_true_iff.mp h
    obtain ⟨h2, h3⟩ := Bool.and_eq_true_iff.mp h
    have e1 := of_decide_eq_true h1
    have e2 := of_decide_eq_true h2
    subst e1
    have v := strs_vals h3
    refine .tup (vs := zs.map V.str) (.inr ⟨_, its, nn, hk, rfl, rfl, small6 (by omega), v⟩) ?_ (RepL.strs zs)
    rw [v.length, Array.length_toList]
    exact small6 (by omega)
  · cases h
def LawTop.ex (L : LawTop) (K : PySem.W.Frag) : Bool := L.cs.all (wordB K L.cs) && (decide ((L.tfd.map fun p => (He.cT K p).2).Nodup) && L.tcs.all fun q => tcB K (He.ga K q.1) q.2)
def LawTop.C (L : LawTop) (x : Str) : Option D := match L.ics.lookup x with
  | some i => some (.int i)
  | none => match L.tcs.lookup x with
    | some zs => some (.tup (zs.map .str))
    | none => if x ∈ L.cs then some (.fn x) else none
/-- what is seen of the texts alone -/
def LawTop.good (L : LawTop) : Bool :=
  decide ((L.G.map (·.x)).Nodup) && (L.G.all (fun d => chkD (L.G.map (·.x)) L.xs d.lm d.cd d.st && (!d.lm || L.tf.contains d.x)) && (decide L.cs.Nodup && (L.cs.all (fun x => SeqAt.shaped (.list ((L.cs.map fun c => decide (c = x)).map PyData.bool))) &&
  (match L.tw with
    | [(t, stT), (wd, stW)] => decide (t = ("_law_told" : Str)) && (decide (wd = ("_law_word" : Str)) && (fnScB toldN ["deed"] (defScope stT) && (chkTold (defScope stT) (defBody stT) && (fnScB wordN ["e"] (defScope stW) && (chkWord L.cs1 L.cs2 (defScope stW) (defBody stW) && !L.cs.isEmpty)))))
    | _ => L.G.all fun d => !d.lm))))
theorem ba {a b : Bool} (h : (a && b) = true) : a = true ∧ b = true := Bool.and_eq_true_iff.mp h
theorem wordB_ok {K : PySem.W.Frag} {h : Heap} {mg : Str → Option Value} {cs : List Str} {x : Str} (c : wordB K cs x = true) (hm : ∀ c ∈ cs, mg c = some (.ref (He.ga K c))) (hv : mg ("ValueError" : Str) = none) (nd : cs.Nodup) (hx : x ∈ cs)
    (shp : SeqAt.shaped (.list ((cs.map fun c => decide (c = x)).map PyData.bool)) = true) : WordOk K mg cs (He.ga K x) x := by
  obtain ⟨h1, c⟩ := ba c
  obtain ⟨h2, c⟩ := ba c
  obtain ⟨h3, c⟩ := ba c
  obtain ⟨h4, c⟩ := ba c
  obtain ⟨h5, c⟩ := ba c
  obtain ⟨h6, c⟩ := ba c
  obtain ⟨h7, c⟩ := ba c
  obtain ⟨h8, c⟩ := ba c
  obtain ⟨h9, h10⟩ := ba c
  refine ⟨⟨He.eqO_ok h1, He.eqO_ok h2, of_decide_eq_true h3, h4, He.eqO_ok h5, He.eqO_ok h6, of_decide_eq_true h7, of_decide_eq_true h8⟩, fun c hc => ⟨_, hm c hc, ?_⟩, hv, of_decide_eq_true h10, nd, hx, shp⟩
  exact of_decide_eq_true (List.all_eq_true.mp h9 c hc)
section
variable {L : LawTop} {w : World} {K : PySem.W.Frag} {mg : Str → Option Value} {h : Heap} {fa : Addr} {l : PySem.W.OpenLaw} {N n : Nat}
theorem funOf {x : Str} {st : Stmt} (c : ∃ fd, FunD K x x (defArgs st) (defBody st) (defScope st) [] [] (He.fAd K (x, none)) fd) : ∃ fd, Fun K x x st (He.fAd K (x, none)) fd := by
  obtain ⟨fd, ⟨oc, od, dV, kV, doc, pm, an, cdv, ct, osl, h1, h2, h3, h4, h5⟩, kp⟩ := c
  have e : dV = .none := by
    rcases h4 with ⟨_, z⟩ | ⟨z, _⟩
    · exact z
    · exact absurd rfl z
  subst e
  exact ⟨fd, ⟨oc, od, kV, doc, pm, an, cdv, ct, osl, h1, h2, h3⟩, kp⟩
theorem law_says (g : L.good = true) (hB : ∀ d ∈ L.G, BindOk d.x d.st d.cd.ps) (hT : ∀ q ∈ L.tw, q.1 = ("_law_told" : Str) → BindOk q.1 q.2 ["deed"]) (hW : ∀ q ∈ L.tw, q.1 = ("_law_word" : Str) → BindOk q.1 q.2 ["e"])
    (KX : K.In h) (Gn : h.Ns mainGlobals mg) (hfa : mg ("law" : Str) = some (.ref fa)) (c : He.SaysX L.fa L.fn [] L.tfd L.ex w h K)
    {dl : DD} (hl : dl ∈ L.G) (hx : dl.x = ("law" : Str)) (hps : dl.cd.ps = (["script"] : List Str)) (law : ∀ ns : List Int, ns.length ≤ n → Phi (tabG L.G) L.C (N + 1) "law" [.scr ns] = .ok (.bl true)) :
    LamX.LawAtS l w K (L2N.CX l.prog w) (3 * (N + 1)) n "script" mg fa h := by
  obtain ⟨g1, g⟩ := ba g
  obtain ⟨g2, g⟩ := ba g
  obtain ⟨g3, g⟩ := ba g
  obtain ⟨g4, g5⟩ := ba g
  have nd := of_decide_eq_true g1
  have ndc := of_decide_eq_true g3
  have sd : He.SaysD L.fa L.fn K := c.t.d
  have inF : ∀ {f : He.Fa}, f ∈ L.fa → f.ok K = true := fun {f} hf => sd.facts hf
  have hdef : ∀ {x : Str} {st : Stmt}, ddD x st ∈ L.fn → DefAt K mg x st := fun {x st} hd => by
    obtain ⟨fd, F⟩ := funOf (sd.defs hd)
    refine ⟨fd, He.glo_ok KX Gn (x := x) (inF ?_), F⟩
    exact List.mem_append_left _ (List.mem_map.mpr ⟨_, hd, rfl⟩)
  have hF : ∀ d ∈ L.G, DefAt K mg d.x d.st := fun d hd => hdef (List.mem_append_left _ (List.mem_map.mpr ⟨d, hd, rfl⟩))
  have hm : ∀ x ∈ L.xs ++ L.cs, mg x = some (.ref (He.ga K x)) := fun x hx => He.glo_ok KX Gn (inF (List.mem_append_right _ (List.mem_append_right _ (List.mem_append_left _ (List.mem_map.mpr ⟨x, List.mem_append_left _ hx, rfl⟩)))))
  have hmt : ∀ q ∈ L.tcs, mg q.1 = some (.ref (He.ga K q.1)) := fun q hq => He.glo_ok KX Gn (inF (List.mem_append_right _ (List.mem_append_right _ (List.mem_append_left _ (List.mem_map.mpr ⟨q.1, List.mem_append_right _ (List.mem_map.mpr ⟨q, hq, rfl⟩), rfl⟩)))))
  obtain ⟨x1, x2⟩ := ba c.more
  obtain ⟨x2, x3⟩ := ba x2
  have tp : TopOk l.prog w K mg L.C L.xs := by
    refine ⟨fun x hx => ?_, fun x d hd => ?_, fun x hx => ?_⟩
    · exact He.free_ok KX Gn (inF (List.mem_append_right _ (List.mem_append_left _ (List.mem_map.mpr ⟨x, hx, rfl⟩))))
    · unfold LawTop.C at hd
      split at hd
      · rename_i i hi
        cases hd
        have him : (x, i) ∈ L.ics := PySem.mem_of_lookup hi
        obtain ⟨t, e⟩ := He.int_ok KX Gn (x := x) (i := i) (inF (List.mem_append_right _ (List.mem_append_right _ (List.mem_append_right _ (List.mem_append_right _ (List.mem_append_left _ (List.mem_map.mpr ⟨_, him, rfl⟩)))))))
        exact ⟨.int i, _, e, ⟨t, rfl⟩, fun S => .int i⟩
      · split at hd
        · rename_i zs hzs
          cases hd
          have him : (x, zs) ∈ L.tcs := PySem.mem_of_lookup hzs
          exact ⟨.ref (He.ga K x), _, hmt _ him, rfl, fun S => tcB_rep (List.all_eq_true.mp x3 _ him) S⟩
        · split at hd
          · rename_i hxc
            cases hd
            have e := hm x (List.mem_append_right _ hxc)
            exact ⟨.ref (He.ga K x), _, e, rfl, fun S => .fn e⟩
          · cases hd
    · have e := hm x (List.mem_append_left _ hx)
      obtain ⟨e1, e2, e3, e4⟩ := He.exc_ok (inF (f := .exc x) (List.mem_append_right _ (List.mem_append_right _ (List.mem_append_right _ (List.mem_append_left _ (List.mem_map.mpr ⟨x, hx, rfl⟩))))))
      exact ⟨_, e, e1, e2, e3, e4⟩
  have hn := of_decide_eq_true x2
  have told : ∀ d ∈ L.G, d.lm = true → Tolds K mg L.C ∧ (d.x, none) ∈ L.tfd := fun d hd hlm => by
    obtain ⟨z1, z2⟩ := ba (List.all_eq_true.mp g2 d hd)
    rw [hlm] at z2
    have z3 : L.tf.contains d.x = true := by simpa using z2
    refine ⟨?_, List.mem_map.mpr ⟨d.x, by simpa using z3, rfl⟩⟩
    split at g5
    · rename_i t stT wd stW htw
      obtain ⟨k1, g5⟩ := ba g5
      obtain ⟨k2, g5⟩ := ba g5
      obtain ⟨k3, g5⟩ := ba g5
      obtain ⟨k4, g5⟩ := ba g5
      obtain ⟨k5, g5⟩ := ba g5
      obtain ⟨k6, k7⟩ := ba g5
      have ht := of_decide_eq_true k1
      have hw := of_decide_eq_true k2
      subst ht hw
      have m1 : (("_law_told" : Str), stT) ∈ L.tw := by rw [htw]; exact List.mem_cons_self
      have m2 : (("_law_word" : Str), stW) ∈ L.tw := by rw [htw]; exact List.mem_cons_of_mem _ List.mem_cons_self
      obtain ⟨fdT, a1, a2⟩ := hdef (x := "_law_told") (st := stT) (List.mem_append_right _ (List.mem_map.mpr ⟨_, m1, rfl⟩))
      obtain ⟨fdW, b1, b2⟩ := hdef (x := "_law_word") (st := stW) (List.mem_append_right _ (List.mem_map.mpr ⟨_, m2, rfl⟩))
      have ne : L.cs.isEmpty = false := by simpa using k7
      have in6 : ∀ {f : He.Fa}, f ∈ (if L.cs.isEmpty then [] else [He.Fa.glo "RankError", He.Fa.free "ValueError"]) → f.ok K = true := fun {f} hf => inF (List.mem_append_right _ (List.mem_append_right _ (List.mem_append_right _ (List.mem_append_right _ (List.mem_append_right _ (List.mem_append_left _ hf))))))
      rw [ne] at in6
      simp only [Bool.false_eq_true, if_false] at in6
      have mR := He.glo_ok KX Gn (x := "RankError") (in6 List.mem_cons_self)
      have mV := He.free_ok KX Gn (x := "ValueError") (in6 (List.mem_cons_of_mem _ List.mem_cons_self))
      refine ⟨L.cs1, L.cs2, stT, stW, _, _, _, fdT, fdW, ⟨a2, a1, a2.binds (hT _ m1 rfl), k3, k4, b2, b1, b2.binds (hW _ m2 rfl), k5, k6, mR⟩, fun x hx => ?_⟩
      have hxc : x ∈ L.cs := by
        unfold LawTop.C at hx
        split at hx
        · cases hx
        · split at hx
          · cases hx
          · split at hx
            · assumption
            · cases hx
      refine ⟨_, hm x (List.mem_append_right _ hxc), He.exm_ok (inF (List.mem_append_right _ (List.mem_append_right _ (List.mem_append_right _ (List.mem_append_right _ (List.mem_append_right _ (List.mem_append_right _ (List.mem_map.mpr ⟨x, hxc, rfl⟩)))))))), ?_⟩
      exact wordB_ok (h := h) (List.all_eq_true.mp x1 x hxc) (fun c hc => hm c (List.mem_append_right _ hc)) mV ndc hxc (List.all_eq_true.mp g4 x hxc)
    · have := List.all_eq_true.mp g5 d hd
      rw [hlm] at this
      cases this
  exact law_at KX Gn hfa nd hF hB (fun d hd => (ba (List.all_eq_true.mp g2 d hd)).1) tp told hn c.hd c.out c.empty hl hx hps law
end
end Lk
end Part_LkM
section Part_LkQ
set_option Elab.async false
set_option linter.all false
set_option maxRecDepth 100000
set_option maxHeartbeats 4000000
namespace Lk
open PySem PySem.Spec PyProof.Rows L2
/-! ### plain facts of lists of ints -/
theorem mem_dedup {a : Type} [DecidableEq a] {x : a} : ∀ {l : List a}, x ∈ dedup l ↔ x ∈ l
  | [] => Iff.rfl
  | y :: r => by
    unfold dedup
    by_cases h : y ∈ r
    · rw [if_pos h, mem_dedup]
      constructor
      · exact List.mem_cons_of_mem _
      · intro q
        rcases List.mem_cons.mp q with q | q
        · rw [q]; exact h
        · exact q
    · rw [if_neg h, List.mem_cons, List.mem_cons, mem_dedup]
theorem nodup_dedup {a : Type} [DecidableEq a] : ∀ (l : List a), (dedup l).Nodup
  | [] => List.nodup_nil
  | y :: r => by
    unfold dedup
    by_cases h : y ∈ r
    · rw [if_pos h]; exact nodup_dedup r
    · rw [if_neg h, List.nodup_cons]
      exact ⟨fun q => h (mem_dedup.mp q), nodup_dedup r⟩
theorem nodup_len {a : Type} [DecidableEq a] : ∀ {l m : List a}, l.Nodup → (∀ x ∈ l, x ∈ m) → l.length ≤ m.length
  | [], _, _, _ => Nat.zero_le _
  | x :: l, m, nd, h => by
    rw [List.nodup_cons] at nd
    have hx := h x List.mem_cons_self
    have ih := nodup_len (l := l) (m := m.erase x) nd.2 fun y hy => by
      refine (List.mem_erase_of_ne ?_).mpr (h y (List.mem_cons_of_mem _ hy))
      intro q
      subst q
      exact nd.1 hy
    rw [List.length_erase_of_mem hx] at ih
    have : 0 < m.length := List.length_pos_of_mem hx
    rw [List.length_cons]
    omega
theorem nodup_len_eq {a : Type} [DecidableEq a] {l m : List a} (hl : l.Nodup) (hm : m.Nodup) (h : ∀ x, x ∈ l ↔ x ∈ m) : l.length = m.length :=
  Nat.le_antisymm (nodup_len hl fun x q => (h x).mp q) (nodup_len hm fun x q => (h x).mpr q)
theorem mem_insI {x y : Int} : ∀ {l : List Int}, y ∈ insI x l ↔ y = x ∨ y ∈ l
  | [] => by simp [insI]
  | z :: r => by
    unfold insI
    by_cases h : x ≤ z
    · rw [if_pos h]; simp
    · rw [if_neg h, List.mem_cons, mem_insI, List.mem_cons]
      constructor
      · rintro (q | q | q)
        · exact .inr (.inl q)
        · exact .inl q
        · exact .inr (.inr q)
      · rintro (q | q | q)
        · exact .inr (.inl q)
        · exact .inl q
        · exact .inr (.inr q)
theorem mem_sortI {y : Int} : ∀ {l : List Int}, y ∈ sortI l ↔ y ∈ l
  | [] => Iff.rfl
  | z :: r => by
    unfold sortI
    rw [mem_insI, mem_sortI, List.mem_cons]
theorem insI_lt {x : Int} : ∀ {l : List Int}, l.Pairwise (· < ·) → x ∉ l → (insI x l).Pairwise (· < ·)
  | [], _, _ => by simp [insI]
  | z :: r, h, hx => by
    rw [List.pairwise_cons] at h
    unfold insI
    have hz : x ≠ z := fun q => hx (by rw [q]; exact List.mem_cons_self)
    by_cases q : x ≤ z
    · rw [if_pos q, List.pairwise_cons]
      refine ⟨fun y hy => ?_, List.pairwise_cons.mpr h⟩
      rcases List.mem_cons.mp hy with e | e
      · subst e; omega
      · have := h.1 y e; omega
    · rw [if_neg q, List.pairwise_cons]
      refine ⟨fun y hy => ?_, insI_lt h.2 fun e => hx (List.mem_cons_of_mem _ e)⟩
      rcases mem_insI.mp hy with e | e
      · subst e; omega
      · exact h.1 y e
theorem sortI_lt : ∀ {l : List Int}, l.Nodup → (sortI l).Pairwise (· < ·)
  | [], _ => .nil
  | z :: r, h => by
    rw [List.nodup_cons] at h
    unfold sortI
    exact insI_lt (sortI_lt h.2) fun q => h.1 (mem_sortI.mp q)
theorem lt_unique : ∀ {l m : List Int}, l.Pairwise (· < ·) → m.Pairwise (· < ·) → (∀ x, x ∈ l ↔ x ∈ m) → l = m
  | [], [], _, _, _ => rfl
  | [], y :: m, _, _, h => absurd ((h y).mpr List.mem_cons_self) (by simp)
  | x :: l, [], _, _, h => absurd ((h x).mp List.mem_cons_self) (by simp)
  | x :: l, y :: m, hl, hm, h => by
    rw [List.pairwise_cons] at hl hm
    have e : x = y := by
      have h1 := (h x).mp List.mem_cons_self
      have h2 := (h y).mpr List.mem_cons_self
      rcases List.mem_cons.mp h1 with q | q
      · exact q
      · rcases List.mem_cons.mp h2 with q2 | q2
        · exact q2.symm
        · have := hl.1 y q2
          have := hm.1 x q
          omega
    subst e
    congr 1
    refine lt_unique hl.2 hm.2 fun z => ?_
    have hz := h z
    rw [List.mem_cons, List.mem_cons] at hz
    constructor
    · intro q
      rcases hz.mp (.inr q) with e | e
      · subst e
        exact absurd (hl.1 z q) (Int.lt_irrefl _)
      · exact e
    · intro q
      rcases hz.mpr (.inr q) with e | e
      · subst e
        exact absurd (hm.1 z q) (Int.lt_irrefl _)
      · exact e
/-- 0, 1, .. below n -/
def irng (n : Int) : List Int := (List.range n.toNat).map fun (i : Nat) => (i : Int)
theorem mem_irng {n i : Int} : i ∈ irng n ↔ 0 ≤ i ∧ i < n := by
  unfold irng
  rw [List.mem_map]
  constructor
  · rintro ⟨k, hk, rfl⟩
    rw [List.mem_range] at hk
    omega
  · rintro ⟨h1, h2⟩
    exact ⟨i.toNat, by rw [List.mem_range]; omega, by omega⟩
theorem irng_lt (n : Int) : (irng n).Pairwise (· < ·) := by
  unfold irng
  rw [List.pairwise_map]
  exact List.pairwise_lt_range.imp fun h => by omega
theorem rngI_zero (n : Int) : rngI 0 n = (irng n).map D.int := by
  unfold rngI irng
  rw [List.map_map, Int.sub_zero]
  refine List.map_congr_left fun i _ => ?_
  show D.int (0 + (i : Int)) = D.int i
  rw [Int.zero_add]
theorem foldl_max_le : ∀ (l : List Int) (x : Int), x ≤ l.foldl max x ∧ (∀ y ∈ l, y ≤ l.foldl max x) ∧ (l.foldl max x = x ∨ l.foldl max x ∈ l)
  | [], x => ⟨Int.le_refl _, fun _ h => absurd h (by simp), .inl rfl⟩
  | z :: l, x => by
    obtain ⟨h1, h2, h3⟩ := foldl_max_le l (max x z)
    rw [List.foldl_cons]
    refine ⟨by omega, fun y hy => ?_, ?_⟩
    · rcases List.mem_cons.mp hy with e | e
      · subst e; omega
      · exact h2 y e
    · rcases h3 with e | e
      · by_cases q : x ≤ z
        · right; rw [e, Int.max_eq_right q]; exact List.mem_cons_self
        · left; rw [e]; omega
      · exact .inr (List.mem_cons_of_mem _ e)
theorem le_maxI {l : List Int} {x : Int} (h : x ∈ l) : x ≤ maxI l := by
  cases l with
  | nil => cases h
  | cons z l =>
    obtain ⟨h1, h2, _⟩ := foldl_max_le l z
    rcases List.mem_cons.mp h with e | e
    · subst e; exact h1
    · exact h2 x e
theorem maxI_mem {l : List Int} (h : l ≠ []) : maxI l ∈ l := by
  cases l with
  | nil => exact absurd rfl h
  | cons z l =>
    obtain ⟨_, _, h3⟩ := foldl_max_le l z
    rcases h3 with e | e
    · show l.foldl max z ∈ _
      rw [e]; exact List.mem_cons_self
    · exact List.mem_cons_of_mem _ e
/-! ### orders -/
structure Ordr (o : List Int) : Prop where
  lo : 1 ≤ o.length
  hi : o.length ≤ 6
  nn : ∀ r ∈ o, 0 ≤ r
  dn : ∀ r ∈ o, ∀ i, 0 ≤ i → i ≤ r → i ∈ o
theorem Ordr.ne {o : List Int} (h : Ordr o) : o ≠ [] := fun e => by have := h.lo; rw [e] at this; simp at this
theorem Ordr.lt {o : List Int} (h : Ordr o) {r : Int} (hr : r ∈ o) : r < o.length := by
  have := nodup_len (l := irng (r + 1)) (m := o) ((irng_lt _).imp fun h => Int.ne_of_lt h) fun x hx => by
    rw [mem_irng] at hx
    exact h.dn r hr x hx.1 (by omega)
  unfold irng at this
  rw [List.length_map, List.length_range] at this
  have := h.nn r hr
  omega
theorem Ordr.sorted {o : List Int} (h : Ordr o) : sortI (dedup o) = irng (maxI o + 1) := by
  refine lt_unique (sortI_lt (nodup_dedup _)) (irng_lt _) fun x => ?_
  rw [mem_sortI, mem_dedup, mem_irng]
  constructor
  · intro q
    have := le_maxI q
    exact ⟨h.nn x q, by omega⟩
  · rintro ⟨q1, q2⟩
    exact h.dn _ (maxI_mem h.ne) x q1 (by omega)
theorem ordr_of {o : List Int} (h1 : 1 ≤ o.length) (h2 : o.length ≤ 6) (h3 : ∀ r ∈ o, 0 ≤ r) (h4 : sortI (dedup o) = irng (maxI o + 1)) : Ordr o := by
  refine ⟨h1, h2, h3, fun r hr i hi hir => ?_⟩
  have : i ∈ irng (maxI o + 1) := mem_irng.mpr ⟨hi, by have := le_maxI hr; omega⟩
  rw [← h4, mem_sortI, mem_dedup] at this
  exact this
/-- how many different ones lie below -/
def rankI (o : List Int) (x : Int) : Int := ((dedup (o.filter fun y => decide (y < x))).length : Nat)
theorem rank_down {o : List Int} {x : Int} (h : 0 < rankI o x) : ∃ y ∈ o, rankI o y = rankI o x - 1 := by
  have ne : o.filter (fun y => decide (y < x)) ≠ [] := fun e => by
    unfold rankI at h
    rw [e] at h
    simp [dedup] at h
  have m := maxI_mem ne
  have mo := List.mem_filter.mp m
  refine ⟨maxI (o.filter fun y => decide (y < x)), mo.1, ?_⟩
  have lt : maxI (o.filter fun y => decide (y < x)) < x := of_decide_eq_true mo.2
  have le : ∀ z ∈ o, z < x → z ≤ maxI (o.filter fun y => decide (y < x)) := fun z hz hzx => le_maxI (List.mem_filter.mpr ⟨hz, decide_eq_true hzx⟩)
  generalize maxI (o.filter fun y => decide (y < x)) = y at m mo lt le
  have key : (dedup (o.filter fun z => decide (z < x))).length = (y :: dedup (o.filter fun z => decide (z < y))).length := by
    refine nodup_len_eq (nodup_dedup _) (List.nodup_cons.mpr ⟨fun q => ?_, nodup_dedup _⟩) fun z => ?_
    · have := (List.mem_filter.mp (mem_dedup.mp q)).2
      exact absurd (of_decide_eq_true this) (Int.lt_irrefl _)
    · rw [mem_dedup, List.mem_filter, List.mem_cons, mem_dedup, List.mem_filter]
      simp only [decide_eq_true_eq]
      constructor
      · rintro ⟨q1, q2⟩
        have := le z q1 q2
        by_cases e : z = y
        · exact .inl e
        · exact .inr ⟨q1, by omega⟩
      · rintro (e | ⟨q1, q2⟩)
        · subst e; exact ⟨mo.1, lt⟩
        · exact ⟨q1, by omega⟩
  unfold rankI
  rw [key, List.length_cons]
  omega
theorem dense_ordr {o : List Int} (h1 : 1 ≤ o.length) (h2 : o.length ≤ 6) : Ordr (o.map (rankI o)) := by
  have nn : ∀ x, 0 ≤ rankI o x := fun x => Int.natCast_nonneg _
  have down : ∀ (k : Nat) (r : Int), r ∈ o.map (rankI o) → 0 ≤ r - k → r - k ∈ o.map (rankI o) := by
    intro k
    induction k with
    | zero => intro r hr _; simpa using hr
    | succ k ih =>
      intro r hr h0
      have q := ih r hr (by omega)
      obtain ⟨x, hx, e⟩ := List.mem_map.mp q
      obtain ⟨y, hy, e2⟩ := rank_down (o := o) (x := x) (by omega)
      refine List.mem_map.mpr ⟨y, hy, ?_⟩
      rw [e2, e]
      omega
  refine ⟨by rw [List.length_map]; exact h1, by rw [List.length_map]; exact h2, fun r hr => ?_, fun r hr i hi hir => ?_⟩
  · obtain ⟨x, _, rfl⟩ := List.mem_map.mp hr
    exact nn x
  · have := down (r - i).toNat r hr (by omega)
    rw [show r - ((r - i).toNat : Int) = i by omega] at this
    exact this
end Lk
end Part_LkQ
section Part_LkQ2
set_option Elab.async false
set_option linter.all false
set_option maxRecDepth 100000
set_option maxHeartbeats 4000000
namespace Lk
open PySem PySem.Spec PyProof.Rows L2
abbrev enc (o : List Int) : D := .tup (o.map .int)
abbrev encL (o : List Int) : D := .lst (o.map .int)
/-! ### reckoning on lists of ints -/
theorem atD_nat {xs : List D} {i : Nat} {d : D} (h : xs[i]? = some d) : atD xs (i : Int) = .ok d := by
  unfold atD
  rw [atI_nat h]
theorem lcM_on {α : Type} {f : D → R (Option D)} {e g : α → D} : ∀ {xs : List α}, (∀ x ∈ xs, f (e x) = .ok (some (g x))) → lcM f (xs.map e) = .ok (xs.map g)
  | [], _ => rfl
  | x :: xs, h => by
    have ih := lcM_on (xs := xs) fun y hy => h y (List.mem_cons_of_mem _ hy)
    simp only [List.map_cons, lcM, h x List.mem_cons_self, noX, R.bind_ok, ih]
theorem lcM_if {α : Type} {f : D → R (Option D)} {e g : α → D} {p : α → Bool} : ∀ {xs : List α}, (∀ x ∈ xs, f (e x) = .ok (if p x = true then some (g x) else none)) → lcM f (xs.map e) = .ok ((xs.filter p).map g)
  | [], _ => rfl
  | x :: xs, h => by
    have ih := lcM_if (xs := xs) fun y hy => h y (List.mem_cons_of_mem _ hy)
    simp only [List.map_cons, lcM, h x List.mem_cons_self, noX, R.bind_ok, ih]
    rw [List.filter_cons]
    by_cases q : p x = true
    · simp [q]
    · simp [q]
theorem intsOf_on {α : Type} (f : α → Int) (xs : List α) : intsOf (xs.map fun x => D.int (f x)) = some (xs.map f) := by
  rw [show (xs.map fun x => D.int (f x)) = (xs.map f).map D.int by rw [List.map_map]; rfl, intsOf_map]
theorem blsOf_on {α : Type} (f : α → Bool) (xs : List α) : blsOf (xs.map fun x => D.bl (f x)) = some (xs.map f) := by
  rw [show (xs.map fun x => D.bl (f x)) = (xs.map f).map D.bl by rw [List.map_map]; rfl, blsOf_map]
theorem toPys_ints : ∀ (xs : List Int), toPys (xs.map D.int) = some (xs.map PyData.int)
  | [] => rfl
  | x :: xs => by rw [List.map_cons]; simp only [toPys, toPy, toPys_ints xs, List.map_cons]
theorem eqvAll_ints : ∀ (xs ys : List Int), PyData.eqvAll (xs.map PyData.int) (ys.map PyData.int) = decide (xs = ys)
  | [], [] => rfl
  | [], y :: ys => rfl
  | x :: xs, [] => rfl
  | x :: xs, y :: ys => by
    rw [List.map_cons, List.map_cons]
    simp only [PyData.eqvAll, PyData.eqv, eqvAll_ints xs ys]
    by_cases h : x = y
    · subst h; simp
    · simp [h]
theorem canLay_ints : ∀ (xs : List Int), PyData.canLayAll0 (xs.map PyData.int) = true
  | [] => rfl
  | x :: xs => by rw [List.map_cons]; simp only [PyData.canLayAll0, PyData.canLay0, canLay_ints xs, Bool.and_true]
theorem shp_ints (xs : List Int) : shp (.list (xs.map PyData.int)) = true ∧ shp (.tuple (xs.map PyData.int)) = true := by
  constructor
  · simp only [shp, SeqAt.shaped, PyData.canLay0, PyData.depth, canLay_ints, depth_ints, Bool.true_and]
    rfl
  · simp only [shp, SeqAt.shaped, PyData.canLay0, PyData.depth, canLay_ints, depth_ints, Bool.true_and]
    rfl
theorem eqD_lst (xs ys : List Int) : eqD (encL xs) (encL ys) = .ok (decide (xs = ys)) := by
  simp only [eqD, toPy, toPys_ints, Option.map_some, (shp_ints _).1, and_self, if_true, PyData.eqv, eqvAll_ints]
theorem eqD_tup (xs ys : List Int) : eqD (enc xs) (enc ys) = .ok (decide (xs = ys)) := by
  simp only [eqD, toPy, toPys_ints, Option.map_some, (shp_ints _).2, and_self, if_true, PyData.eqv, eqvAll_ints]
theorem eqD_int (x y : Int) : eqD (.int x) (.int y) = .ok (decide (x = y)) := by
  simp only [eqD, toPy, shp, SeqAt.shaped, PyData.canLay0, PyData.depth, PyData.eqv]
  by_cases h : x = y
  · subst h; simp
  · simp [h]
theorem eqD_bl (x y : Bool) : eqD (.bl x) (.bl y) = .ok (decide (x = y)) := by
  cases x <;> cases y <;> rfl
theorem bin_add (i j : Int) : binD .add (.int i) (.int j) = .ok (.int (i + j)) := rfl
theorem bin_sub (i j : Int) : binD .sub (.int i) (.int j) = .ok (.int (i - j)) := rfl
theorem bin_mul {i j : Int} (h : mulOk i j = true) : binD .mul (.int i) (.int j) = .ok (.int (i * j)) := if_pos h
theorem bin_mod {i j : Int} (h : 0 < j) : binD .mod (.int i) (.int j) = .ok (.int (i % j)) := if_pos h
theorem bin_fdiv {i j : Int} (h : 0 < j) (h2 : j.natAbs < 2 ^ 1000) : binD .fdiv (.int i) (.int j) = .ok (.int (i / j)) := if_pos ⟨h, h2⟩
theorem bin_tup {xs ys : List D} (h : xs.length + ys.length ≤ 1000000) : binD .add (.tup xs) (.tup ys) = .ok (.tup (xs ++ ys)) := if_pos h
theorem bin_lst {xs ys : List D} (h : xs.length + ys.length ≤ 1000000) : binD .add (.lst xs) (.lst ys) = .ok (.lst (xs ++ ys)) := if_pos h
theorem bin_rep {xs : List D} {k : Int} (h : 0 ≤ k ∧ k ≤ 1000 ∧ xs.length ≤ 1000) : binD .mul (.lst xs) (.int k) = .ok (.lst (List.replicate k.toNat xs).flatten) := if_pos h
theorem bin_repT {xs : List D} {k : Int} (h : 1 ≤ k ∧ k ≤ 1000 ∧ xs.length ≤ 1000 ∧ xs ≠ []) : binD .mul (.tup xs) (.int k) = .ok (.tup (List.replicate k.toNat xs).flatten) := if_pos h
theorem ext_ok {ρ : Env} {i : Nat} {ds es : List D} (h : ρ[i]? = some (.ow (.lst ds))) (hl : ds.length + es.length < 1000000) : extD ρ i (.lst es) = .nx (ρ.set i (.ow (.lst (ds ++ es)))) := by
  unfold extD
  rw [h]
  exact if_pos hl
theorem app_ok {ρ : Env} {i : Nat} {ds : List D} {d : D} (h : ρ[i]? = some (.ow (.lst ds))) (hl : ds.length < 1000000) : appD ρ i d = .nx (ρ.set i (.ow (.lst (ds ++ [d])))) := by
  unfold appD
  rw [h]
  exact if_pos hl
theorem bnd_in {i : Int} (h1 : 0 ≤ i) (h2 : i ≤ 1000) : bnd i = true := by
  unfold bnd
  simp only [Bool.and_eq_true, decide_eq_true_eq]
  omega
theorem rngI_one (a n : Nat) : rngI ((a : Int) + 1) n = (List.range (n - (a + 1))).map fun k => D.int ((a + 1 + k : Nat) : Int) := by
  unfold rngI
  rw [show ((n : Int) - ((a : Int) + 1)).toNat = n - (a + 1) by omega]
  refine List.map_congr_left fun i _ => ?_
  exact congrArg D.int (by omega)
theorem rngI_nat (n : Nat) : rngI 0 (n : Int) = (List.range n).map fun (k : Nat) => D.int (k : Int) := by
  unfold rngI
  rw [show ((n : Int) - 0).toNat = n by omega]
  refine List.map_congr_left fun i _ => ?_
  exact congrArg D.int (by omega)
theorem it_lst (xs : List D) (e : D) : itemsD .seq (.lst xs) e = .ok xs := rfl
theorem it_tup (xs : List D) (e : D) : itemsD .seq (.tup xs) e = .ok xs := rfl
theorem it_rng1 {n : Int} (h : bnd n = true) (e : D) : itemsD .rng1 (.int n) e = .ok (rngI 0 n) := by simp only [itemsD, h, if_true]
theorem it_rng2 {m n : Int} (h : bnd m = true) (h2 : bnd n = true) : itemsD .rng2 (.int m) (.int n) = .ok (rngI m n) := by simp only [itemsD, h, h2, and_self, if_true]
theorem lrng_b {n : Int} (h : bnd n = true) : lrngD (.int n) = .ok (rngI 0 n) := by simp only [lrngD, h, if_true]
theorem it_r1 {n : Nat} (h : n ≤ 1000) (e : D) : itemsD .rng1 (.int n) e = .ok ((List.range n).map fun (k : Nat) => D.int (k : Int)) := by
  rw [it_rng1 (bnd_in (by omega) (by omega)), rngI_nat]
theorem it_r2 {a n : Nat} (h : a + 1 ≤ 1000) (h2 : n ≤ 1000) : itemsD .rng2 (.int ((a : Int) + 1)) (.int n) = .ok ((List.range (n - (a + 1))).map fun k => D.int ((a + 1 + k : Nat) : Int)) := by
  rw [it_rng2 (bnd_in (by omega) (by omega)) (bnd_in (by omega) (by omega)), rngI_one]
theorem lrng_ok {n : Nat} (h : n ≤ 1000) : lrngD (.int n) = .ok ((irng n).map D.int) := by
  rw [lrng_b (bnd_in (by omega) (by omega)), rngI_zero]
theorem lrng_okI {n : Int} (h0 : 0 ≤ n) (h : n ≤ 1000) : lrngD (.int n) = .ok ((irng n).map D.int) := by
  rw [lrng_b (bnd_in (by omega) (by omega)), rngI_zero]
/-! ### sums -/
theorem perm_sum {l m : List Int} (h : l.Perm m) : l.sum = m.sum := by
  induction h with
  | nil => rfl
  | cons x _ ih => rw [List.sum_cons, List.sum_cons, ih]
  | swap x y l => simp only [List.sum_cons]; omega
  | trans _ _ h1 h2 => exact h1.trans h2
theorem sum_le {α : Type} {f g : α → Int} : ∀ {l : List α}, (∀ x ∈ l, f x ≤ g x) → (l.map f).sum ≤ (l.map g).sum
  | [], _ => Int.le_refl _
  | x :: l, h => by
    have ih := sum_le (l := l) fun y hy => h y (List.mem_cons_of_mem _ hy)
    have := h x List.mem_cons_self
    simp only [List.map_cons, List.sum_cons]
    omega
theorem sum_eq {α : Type} {f g : α → Int} {l : List α} (h : ∀ x ∈ l, f x = g x) : (l.map f).sum = (l.map g).sum := by rw [List.map_congr_left h]
theorem sum_add {α : Type} (f g : α → Int) : ∀ (l : List α), (l.map fun x => f x + g x).sum = (l.map f).sum + (l.map g).sum
  | [] => rfl
  | x :: l => by
    have := sum_add f g l
    simp only [List.map_cons, List.sum_cons]
    omega
theorem sum_zero {α : Type} {f : α → Int} : ∀ {l : List α}, (∀ x ∈ l, 0 ≤ f x) → ((l.map f).sum = 0 ↔ ∀ x ∈ l, f x = 0)
  | [], _ => by simp
  | x :: l, h => by
    have ih := sum_zero (l := l) fun y hy => h y (List.mem_cons_of_mem _ hy)
    have h1 := h x List.mem_cons_self
    have h2 : 0 ≤ (l.map f).sum := by
      have := sum_le (f := fun _ => 0) (g := f) (l := l) fun y hy => h y (List.mem_cons_of_mem _ hy)
      have z : (l.map fun _ => (0 : Int)).sum = 0 := by
        clear ih h h1 this
        induction l with
        | nil => rfl
        | cons _ _ ih => simp [ih]
      omega
    simp only [List.map_cons, List.sum_cons]
    constructor
    · intro q y hy
      rcases List.mem_cons.mp hy with e | e
      · subst e; omega
      · exact ih.mp (by omega) y e
    · intro q
      have a := q x List.mem_cons_self
      have b := ih.mpr fun y hy => q y (List.mem_cons_of_mem _ hy)
      omega
theorem sum_nonneg {α : Type} {f : α → Int} : ∀ {l : List α}, (∀ x ∈ l, 0 ≤ f x) → 0 ≤ (l.map f).sum
  | [], _ => Int.le_refl _
  | x :: l, h => by
    have ih := sum_nonneg (l := l) fun y hy => h y (List.mem_cons_of_mem _ hy)
    have := h x List.mem_cons_self
    simp only [List.map_cons, List.sum_cons]
    omega
/-! ### loops -/
theorem forM_nx {α : Type} {f : D → Env → Out} {e : α → D} (P : List α → Env → Prop) : ∀ {xs : List α} {ρ : Env}, P xs ρ → (∀ x r ρ, P (x :: r) ρ → ∃ ρ', f (e x) ρ = .nx ρ' ∧ P r ρ') → ∃ ρ', forM f (xs.map e) ρ = .nx ρ' ∧ P [] ρ'
  | [], ρ, h, _ => ⟨ρ, rfl, h⟩
  | x :: xs, ρ, h, step => by
    obtain ⟨ρ1, e1, p1⟩ := step x xs ρ h
    obtain ⟨ρ2, e2, p2⟩ := forM_nx P p1 step
    exact ⟨ρ2, by simp only [List.map_cons, forM, e1, Out.andThen, e2], p2⟩
end Lk
end Part_LkQ2
section Part_LkQ3
set_option Elab.async false
set_option linter.all false
set_option maxRecDepth 100000
set_option maxHeartbeats 4000000
namespace Lk
open PySem PySem.Spec PyProof.Rows L2
/-! ### signs, pairs, how far apart -/
def sgn (x y : Int) : Int := (if y < x then 1 else 0) - (if x < y then 1 else 0)
def sgA (o : List Int) (a b : Nat) : Int := sgn (o.getD a 0) (o.getD b 0)
def prs (n : Nat) : List (Nat × Nat) := (List.range n).flatMap fun a => (List.range (n - (a + 1))).map fun k => (a, a + 1 + k)
def lprs (n : Nat) : List (Nat × Nat) := (List.range n).flatMap fun b => (List.range b).map fun a => (a, b)
theorem mem_prs {n a b : Nat} : (a, b) ∈ prs n ↔ a < b ∧ b < n := by
  unfold prs
  simp only [List.mem_flatMap, List.mem_range, List.mem_map, Prod.mk.injEq]
  constructor
  · rintro ⟨c, hc, k, hk, rfl, rfl⟩
    omega
  · rintro ⟨h1, h2⟩
    exact ⟨a, by omega, b - (a + 1), by omega, rfl, by omega⟩
theorem prs_perm : ∀ {n : Nat}, n ≤ 6 → (lprs n).Perm (prs n)
  | 0, _ => by decide
  | 1, _ => by decide
  | 2, _ => by decide
  | 3, _ => by decide
  | 4, _ => by decide
  | 5, _ => by decide
  | 6, _ => by decide
  | _ + 7, h => absurd h (by omega)
theorem prs_len : ∀ {n : Nat}, n ≤ 6 → (2 * (prs n).length : Int) = n * (n - 1)
  | 0, _ => by decide
  | 1, _ => by decide
  | 2, _ => by decide
  | 3, _ => by decide
  | 4, _ => by decide
  | 5, _ => by decide
  | 6, _ => by decide
  | _ + 7, h => absurd h (by omega)
def absI (i : Int) : Int := if i < 0 then -i else i
def dst (o p : List Int) (q : Nat × Nat) : Int := absI (sgA o q.1 q.2 - sgA p q.1 q.2)
def gapI (o p : List Int) : Int := ((prs o.length).map (dst o p)).sum
theorem sgn_b (x y : Int) : -1 ≤ sgn x y ∧ sgn x y ≤ 1 := by
  unfold sgn
  split <;> split <;> omega
theorem dst_nn (o p : List Int) (q : Nat × Nat) : 0 ≤ dst o p q := by
  unfold dst absI
  split <;> omega
theorem dst_le (o p : List Int) (q : Nat × Nat) : dst o p q ≤ 2 := by
  have h1 := sgn_b (o.getD q.1 0) (o.getD q.2 0)
  have h2 := sgn_b (p.getD q.1 0) (p.getD q.2 0)
  unfold dst absI sgA
  split <;> omega
theorem dst_comm (o p : List Int) (q : Nat × Nat) : dst o p q = dst p o q := by
  unfold dst absI
  split <;> split <;> omega
theorem dst_tri (o p r : List Int) (q : Nat × Nat) : dst o r q ≤ dst o p q + dst p r q := by
  unfold dst absI
  split <;> split <;> split <;> omega
theorem gap_comm {o p : List Int} (h : o.length = p.length) : gapI o p = gapI p o := by
  unfold gapI
  rw [h]
  exact sum_eq fun q _ => dst_comm o p q
theorem gap_tri {o p r : List Int} (h : o.length = p.length) : gapI o r ≤ gapI o p + gapI p r := by
  unfold gapI
  rw [← h, ← sum_add]
  exact sum_le fun q _ => dst_tri o p r q
theorem gap_law {o p : List Int} (h : o.length ≤ 6) : ((lprs o.length).map (dst o p)).sum = gapI o p := perm_sum ((prs_perm h).map _)
theorem gap_le {o p : List Int} (h : o.length ≤ 6) : gapI o p ≤ o.length * (o.length - 1) := by
  have := sum_le (f := dst o p) (g := fun _ => 2) (l := prs o.length) fun q _ => dst_le o p q
  have z : ∀ l : List (Nat × Nat), (l.map fun _ => (2 : Int)).sum = 2 * l.length := by
    intro l
    induction l with
    | nil => rfl
    | cons _ _ ih => simp only [List.map_cons, List.sum_cons, ih, List.length_cons]; omega
  rw [z, prs_len h] at this
  exact this
theorem gap_self (o : List Int) : gapI o o = 0 := by
  unfold gapI
  refine (sum_zero fun q _ => dst_nn o o q).mpr fun q _ => ?_
  unfold dst absI
  split <;> omega
theorem gap_nn (o p : List Int) : 0 ≤ gapI o p := sum_nonneg fun q _ => dst_nn o p q
/-- the signs tell the order -/
theorem signs_tell {o p : List Int} (ho : Ordr o) (hp : Ordr p) (hl : o.length = p.length) (h : ∀ a b, a < b → b < o.length → sgA o a b = sgA p a b) : o = p := by
  have all : ∀ a b, a < o.length → b < o.length → (o.getD a 0 < o.getD b 0 ↔ p.getD a 0 < p.getD b 0) := by
    intro a b ha hb
    rcases Nat.lt_trichotomy a b with q | q | q
    · have := h a b q hb
      unfold sgA sgn at this
      constructor
      · intro z
        rw [if_neg (by omega), if_pos z] at this
        by_cases y : p.getD a 0 < p.getD b 0
        · exact y
        · rw [if_neg y] at this
          split at this <;> omega
      · intro z
        rw [if_neg (show ¬ p.getD b 0 < p.getD a 0 by omega), if_pos z] at this
        by_cases y : o.getD a 0 < o.getD b 0
        · exact y
        · rw [if_neg y] at this
          split at this <;> omega
    · subst q; omega
    · have := h b a q ha
      unfold sgA sgn at this
      constructor
      · intro z
        rw [if_pos z, if_neg (show ¬ o.getD b 0 < o.getD a 0 by omega)] at this
        by_cases y : p.getD a 0 < p.getD b 0
        · exact y
        · rw [if_neg y] at this
          split at this <;> omega
      · intro z
        rw [if_pos z, if_neg (show ¬ p.getD b 0 < p.getD a 0 by omega)] at this
        by_cases y : o.getD a 0 < o.getD b 0
        · exact y
        · rw [if_neg y] at this
          split at this <;> omega
  have mo : ∀ {l : List Int} {i : Nat}, i < l.length → l.getD i 0 ∈ l := fun {l i} hi => by
    rw [List.getD_eq_getElem?_getD, List.getElem?_eq_getElem hi]
    exact List.getElem_mem hi
  have at_ : ∀ {l : List Int} {x : Int}, x ∈ l → ∃ i, i < l.length ∧ l.getD i 0 = x := fun {l x} hx => by
    obtain ⟨i, hi, e⟩ := List.mem_iff_getElem.mp hx
    refine ⟨i, hi, ?_⟩
    rw [List.getD_eq_getElem?_getD, List.getElem?_eq_getElem hi]
    exact e
  have key : ∀ (k : Nat) (i : Nat), i < o.length → (o.getD i 0 = (k : Int) ↔ p.getD i 0 = (k : Int)) := by
    intro k
    induction k using Nat.strongRecOn with
    | ind k ih =>
      have ge : ∀ j, j < o.length → (∀ m : Nat, m < k → o.getD j 0 ≠ (m : Int)) → (k : Int) ≤ o.getD j 0 := fun j hj q => by
        have := ho.nn _ (mo hj)
        by_cases z : (k : Int) ≤ o.getD j 0
        · exact z
        · exact absurd (by omega) (q (o.getD j 0).toNat (by omega))
      have ge' : ∀ j, j < o.length → (∀ m : Nat, m < k → p.getD j 0 ≠ (m : Int)) → (k : Int) ≤ p.getD j 0 := fun j hj q => by
        have := hp.nn _ (mo (by omega : j < p.length))
        by_cases z : (k : Int) ≤ p.getD j 0
        · exact z
        · exact absurd (by omega) (q (p.getD j 0).toNat (by omega))
      intro i hi
      constructor
      · intro e
        have g := ge' i hi fun m hm z => by
          have := (ih m hm i hi).mpr z
          omega
        by_cases y : p.getD i 0 = (k : Int)
        · exact y
        · exfalso
          obtain ⟨j, hj, ej⟩ := at_ (hp.dn _ (mo (by omega : i < p.length)) k (by omega) (by omega))
          have hj' : j < o.length := by omega
          have g2 := ge j hj' fun m hm z => by
            have := (ih m hm j hj').mp z
            omega
          have := (all j i hj' hi).mpr (by omega)
          omega
      · intro e
        have g := ge i hi fun m hm z => by
          have := (ih m hm i hi).mp z
          omega
        by_cases y : o.getD i 0 = (k : Int)
        · exact y
        · exfalso
          obtain ⟨j, hj, ej⟩ := at_ (ho.dn _ (mo hi) k (by omega) (by omega))
          have g2 := ge' j hj fun m hm z => by
            have := (ih m hm j hj).mpr z
            omega
          have := (all j i hj hi).mp (by omega)
          omega
  refine List.ext_getElem hl fun i h1 h2 => ?_
  have g1 : o.getD i 0 = o[i] := by rw [List.getD_eq_getElem?_getD, List.getElem?_eq_getElem h1]; rfl
  have g2 : p.getD i 0 = p[i] := by rw [List.getD_eq_getElem?_getD, List.getElem?_eq_getElem h2]; rfl
  have q := ho.nn _ (mo h1)
  have := (key (o.getD i 0).toNat i h1).mp (by omega)
  rw [g2] at this
  rw [g1] at this q
  omega
theorem gap_zero {o p : List Int} (ho : Ordr o) (hp : Ordr p) (hl : o.length = p.length) : gapI o p = 0 ↔ o = p := by
  constructor
  · intro e
    refine signs_tell ho hp hl fun a b hab hb => ?_
    have := (sum_zero fun q _ => dst_nn o p q).mp e (a, b) (mem_prs.mpr ⟨hab, hb⟩)
    unfold dst absI at this
    dsimp only at this
    split at this <;> omega
  · intro e
    subst e
    exact gap_self o
/-! ### turned about -/
def turnI (o : List Int) : List Int := o.map fun r => maxI o - r
theorem turn_ordr {o : List Int} (h : Ordr o) : Ordr (turnI o) := by
  refine ⟨by unfold turnI; rw [List.length_map]; exact h.lo, by unfold turnI; rw [List.length_map]; exact h.hi, fun r hr => ?_, fun r hr i hi hir => ?_⟩
  · obtain ⟨x, hx, rfl⟩ := List.mem_map.mp hr
    have := le_maxI hx
    omega
  · obtain ⟨x, hx, rfl⟩ := List.mem_map.mp hr
    have h0 := h.nn x hx
    refine List.mem_map.mpr ⟨maxI o - i, h.dn _ (maxI_mem h.ne) _ (by omega) (by omega), by omega⟩
theorem turn_len (o : List Int) : (turnI o).length = o.length := List.length_map ..
theorem turn_at {o : List Int} {i : Nat} (h : i < o.length) : (turnI o).getD i 0 = maxI o - o.getD i 0 := by
  unfold turnI
  rw [List.getD_eq_getElem?_getD, List.getElem?_map, List.getElem?_eq_getElem h, List.getD_eq_getElem?_getD, List.getElem?_eq_getElem h]
  rfl
theorem turn_sg {o : List Int} {a b : Nat} (ha : a < o.length) (hb : b < o.length) : sgA (turnI o) a b = - sgA o a b := by
  unfold sgA sgn
  rw [turn_at ha, turn_at hb]
  split <;> split <;> split <;> split <;> omega
theorem turn_gap {o p : List Int} (hl : o.length = p.length) : gapI (turnI o) (turnI p) = gapI o p := by
  unfold gapI
  rw [turn_len]
  refine sum_eq fun q hq => ?_
  obtain ⟨h1, h2⟩ := mem_prs.mp (show (q.1, q.2) ∈ _ from hq)
  unfold dst
  rw [turn_sg (by omega) h2, turn_sg (by omega) (by omega)]
  unfold absI
  split <;> split <;> omega
theorem strict_gap : ∀ {n : Nat}, 1 ≤ n → n ≤ 6 → gapI (irng n) (turnI (irng n)) = n * (n - 1)
  | 0, h, _ => absurd h (by omega)
  | 1, _, _ => by decide +kernel
  | 2, _, _ => by decide +kernel
  | 3, _, _ => by decide +kernel
  | 4, _, _ => by decide +kernel
  | 5, _, _ => by decide +kernel
  | 6, _, _ => by decide +kernel
  | _ + 7, _, h => absurd h (by omega)
theorem irng_len (n : Nat) : (irng n).length = n := by
  unfold irng
  rw [List.length_map, List.length_range]
  omega
theorem irng_ordr {n : Nat} (h1 : 1 ≤ n) (h2 : n ≤ 6) : Ordr (irng n) := by
  refine ⟨by rw [irng_len]; exact h1, by rw [irng_len]; exact h2, fun r hr => (mem_irng.mp hr).1, fun r hr i hi hir => ?_⟩
  have := mem_irng.mp hr
  exact mem_irng.mpr ⟨hi, by omega⟩
end Lk
end Part_LkQ3
section Part_LkP
set_option Elab.async false
set_option linter.all false
set_option maxRecDepth 100000
set_option maxHeartbeats 4000000
/-! typed reckonings, and how the plain language comes to them -/
namespace Lk
open PySem PySem.Spec PyProof.Rows L2
section
universe u
variable {α β γ δ σ τ : Type}
/-! ### how typed things are told as data -/
abbrev eI : Int → D := D.int
abbrev eB : Bool → D := D.bl
abbrev eS : Str → D := D.str
abbrev eN : Unit → D := fun _ => .non
abbrev eD : D → D := fun d => d
abbrev eL (e : α → D) (xs : List α) : D := .lst (xs.map e)
abbrev eT (e : α → D) (xs : List α) : D := .tup (xs.map e)
abbrev eP (e : α → D) (f : β → D) (p : α × β) : D := .tup [e p.1, f p.2]
abbrev eP3 (e : α → D) (f : β → D) (g : γ → D) (p : α × β × γ) : D := .tup [e p.1, f p.2.1, g p.2.2]
abbrev eP4 {a1 a2 a3 a4 : Type} (e : a1 → D) (f : a2 → D) (g : a3 → D) (h : a4 → D) (p : a1 × a2 × a3 × a4) : D := .tup [e p.1, f p.2.1, g p.2.2.1, h p.2.2.2]
def eO (e : α → D) : Option α → D
  | none => .non
  | some x => e x
@[simp] theorem eO_none (e : α → D) : eO e none = .non := rfl
@[simp] theorem eO_some (e : α → D) (x : α) : eO e (some x) = e x := rfl
/-! ### r comes to what t tells; nothing is said where t is bad -/
def SE (e : α → δ) (r : R δ) (t : R α) : Prop :=
  match t with
  | .ok x => r = .ok (e x)
  | .exc c => r = .exc c
  | .bad => True
theorem SE.pure {e : α → δ} {r : R δ} {x : α} (h : r = .ok (e x)) : SE e r (.ok x) := h
theorem SE.ok {e : α → δ} {r : R δ} {t : R α} {x : α} (h : SE e r t) (q : t = .ok x) : r = .ok (e x) := by
  rw [q] at h
  exact h
theorem SE.exc {e : α → δ} {r : R δ} {t : R α} {c : Str} (h : SE e r t) (q : t = .exc c) : r = .exc c := by
  rw [q] at h
  exact h
/-- a pure part -/
theorem sp {e : β → γ} {r : R δ} {d : δ} {K : δ → R γ} {t : R β} (h : r = .ok d) (k : SE e (K d) t) : SE e (r.bind K) t := by
  rw [h]
  exact k
/-- a part that may fail -/
theorem sb {ea : α → δ} {e : β → γ} {r : R δ} {K : δ → R γ} {ta : R α} {g : α → R β} (h : SE ea r ta) (k : ∀ x, SE e (K (ea x)) (g x)) : SE e (r.bind K) (ta.bind g) := by
  cases ta with
  | ok x => rw [show r = .ok (ea x) from h]; exact k x
  | exc c => rw [show r = .exc c from h]; exact rfl
  | bad => exact trivial
theorem sx {e : α → δ} {r r' : R δ} {t : R α} (q : r = r') (h : SE e r' t) : SE e r t := by rw [q]; exact h
section
variable {Φ : Str → List D → R D} {C : Str → Option D} {ρ ρ' : Env} {e : β → D} {t : R β}
/-! ### expressions -/
theorem q_bin (o : Bop) (a b : CE) : evE Φ C (.bin o a b) ρ = (brw a ρ (evE Φ C a ρ)).bind fun x => (brw b ρ (evE Φ C b ρ)).bind fun y => binD o x y := by rw [evE]
theorem q_cmp (o : Cop) (a b : CE) : evE Φ C (.cmp o a b) ρ = (brw a ρ (evE Φ C a ρ)).bind fun x => (brw b ρ (evE Φ C b ρ)).bind fun y => (cmpD o x y).map .bl := by rw [evE]
theorem q_sub (a b : CE) : evE Φ C (.sub a b) ρ = (brw a ρ (evE Φ C a ρ)).bind fun x => (brw b ρ (evE Φ C b ρ)).bind fun y => subD x y := by rw [evE]
theorem q_neg (a : CE) : evE Φ C (.neg a) ρ = (evE Φ C a ρ).bind fun x => (asI x).bind fun i => .ok (.int (-i)) := by rw [evE]
theorem q_chn (o p : Cop) (a b c : CE) : evE Φ C (.chn o p a b c) ρ = (brw a ρ (evE Φ C a ρ)).bind fun x => (brw b ρ (evE Φ C b ρ)).bind fun y => (cmpD o x y).bind fun t =>
      if t = true then (brw c ρ (evE Φ C c ρ)).bind fun z => (cmpD p y z).map .bl else .ok (.bl false) := by rw [evE]
theorem q_and (a b : CE) : evE Φ C (.and a b) ρ = (evE Φ C a ρ).bind fun x => (asB x).bind fun t => if t = true then evE Φ C b ρ else .ok (.bl false) := by rw [evE]
theorem q_or (a b : CE) : evE Φ C (.or a b) ρ = (evE Φ C a ρ).bind fun x => (asB x).bind fun t => if t = true then .ok (.bl true) else evE Φ C b ρ := by rw [evE]
theorem q_one (a : CE) : evE Φ C (.one a) ρ = evE Φ C a ρ := by rw [evE]
theorem q_not (a : CE) : evE Φ C (.not a) ρ = (evE Φ C a ρ).bind fun x => (asB x).bind fun t => .ok (.bl (!t)) := by rw [evE]
theorem q_ite (c a b : CE) : evE Φ C (.ite c a b) ρ = (evE Φ C c ρ).bind fun x => (asB x).bind fun t => if t = true then evE Φ C a ρ else evE Φ C b ρ := by rw [evE]
theorem q_lst (es : CL) : evE Φ C (.lst es) ρ = (evL Φ C es ρ).bind fun ds => .ok (.lst ds) := by rw [evE]
theorem q_tup (es : CL) : evE Φ C (.tup es) ρ = (evL Φ C es ρ).bind fun ds => .ok (.tup ds) := by rw [evE]
theorem q_cal (f : Str) (es : CL) : evE Φ C (.cal f es) ρ = (evL Φ C es ρ).bind fun ds => Φ f ds := by rw [evE]
theorem q_bi (b : Bi) (es : CL) : evE Φ C (.bi b es) ρ = (evLB Φ C es ρ).bind fun ds => biD b ds := by rw [evE]
theorem q_mth (m : Mt) (o a : CE) : evE Φ C (.mth m o a) ρ = (brw o ρ (evE Φ C o ρ)).bind fun x => if isLstB x = true then (brw a ρ (evE Φ C a ρ)).bind fun y => mthD m x y else .bad := by rw [evE]
theorem q_isi (a : CE) (t : String) : evE Φ C (.isi a t) ρ = (brw a ρ (evE Φ C a ρ)).bind fun x => isiD x t := by rw [evE]
theorem q_lrng (a : CE) : evE Φ C (.lrng a) ρ = (evE Φ C a ρ).bind fun x => (lrngD x).map .lst := by rw [evE]
theorem q_trng (a : CE) : evE Φ C (.trng a) ρ = (evE Φ C a ρ).bind fun x => (lrngD x).map .tup := by rw [evE]
theorem q_sset (a : CE) : evE Φ C (.sset a) ρ = (brw a ρ (evE Φ C a ρ)).bind ssetD := by rw [evE]
theorem q_lset (a : CE) : evE Φ C (.lset a) ρ = (brw a ρ (evE Φ C a ρ)).bind lsetD := by rw [evE]
theorem q_slc (a lo hi : CE) : evE Φ C (.slc a lo hi) ρ = (brw a ρ (evE Φ C a ρ)).bind fun x => (optI lo (evE Φ C lo ρ)).bind fun l => (optI hi (evE Φ C hi ρ)).bind fun h => slcD x l h := by rw [evE]
theorem q_rev (a : CE) : evE Φ C (.rev a) ρ = (brw a ρ (evE Φ C a ρ)).bind revD := by rw [evE]
theorem q_srt (a : CE) : evE Φ C (.srt a) ρ = (brw a ρ (evE Φ C a ρ)).bind srtD := by rw [evE]
theorem q_lzip (a b : CE) : evE Φ C (.lzip a b) ρ = (brw a ρ (evE Φ C a ρ)).bind fun x => (brw b ρ (evE Φ C b ρ)).bind fun y => lzipD x y := by rw [evE]
theorem q_calv {i : Nat} {fl : List Str} {es : CL} {f : Str} (h : ρ[i]? = some (.sh (.fn f))) (hf : f ∈ fl) : evE Φ C (.calv i fl es) ρ = (evL Φ C es ρ).bind fun ds => Φ f ds := by rw [evE, h]; simp only [hf, if_true]
theorem q_told (a : CE) : evE Φ C (.told a) ρ = toldR C (evE Φ C a ρ) := by rw [evE]
theorem q_var {i : Nat} {d : D} (h : ρ[i]? = some (.sh d)) : evE Φ C (.var i) ρ = .ok d := by rw [evE, h]
theorem q_cst (c : Cst) : evE Φ C (.cst c) ρ = .ok (cstD c) := by rw [evE]
theorem q_dfn (x : Str) : evE Φ C (.dfn x) ρ = .ok (.fn x) := by rw [evE]
theorem q_glb {x : Str} {d : D} (h : C x = some d) : evE Φ C (.glb x) ρ = .ok d := by rw [evE, h]
/-- borrowed -/
theorem v_sh {i : Nat} {d : D} {r : R D} (h : ρ[i]? = some (.sh d)) : brw (.var i) ρ r = .ok d := by simp only [brw, h]
theorem v_ow {i : Nat} {d : D} {r : R D} (h : ρ[i]? = some (.ow d)) : brw (.var i) ρ r = .ok d := by simp only [brw, h]
theorem SE.brw {e : α → D} {a : CE} {r : R D} {t : R α} (hv : ∀ i, a ≠ .var i) (h : SE e r t) : SE e (Lk.brw a ρ r) t := by
  rw [brw_eq hv]
  exact h
theorem nb {a : CE} {r : R D} {d : D} (hv : ∀ i, a ≠ .var i) (h : r = .ok d) : brw a ρ r = .ok d := by
  rw [brw_eq hv]
  exact h
/-! lists of expressions, the rest told ahead -/
theorem l_nil {K : List D → R γ} {e : β → γ} (h : SE e (K []) t) : SE e ((evL Φ C .nil ρ).bind K) t := by rw [evL]; exact h
theorem l_p {a : CE} {r : CL} {K : List D → R γ} {e : β → γ} {d : D} (h : evE Φ C a ρ = .ok d) (k : SE e ((evL Φ C r ρ).bind fun ds => K (d :: ds)) t) : SE e ((evL Φ C (.cons a r) ρ).bind K) t := by
  rw [evL, h]
  simp only [R.bind_ok]
  cases q : evL Φ C r ρ with
  | ok ds => rw [q] at k; exact k
  | exc c => rw [q] at k; exact k
  | bad => rw [q] at k; exact k
theorem l_b {a : CE} {r : CL} {K : List D → R γ} {e : β → γ} {ea : α → D} {ta : R α} {g : α → R β} (h : SE ea (evE Φ C a ρ) ta) (k : ∀ x, SE e ((evL Φ C r ρ).bind fun ds => K (ea x :: ds)) (g x)) : SE e ((evL Φ C (.cons a r) ρ).bind K) (ta.bind g) := by
  cases ta with
  | ok x => exact l_p (show evE Φ C a ρ = .ok (ea x) from h) (k x)
  | exc c => rw [evL, show evE Φ C a ρ = .exc c from h]; exact rfl
  | bad => exact trivial
theorem b_nil {K : List D → R γ} {e : β → γ} (h : SE e (K []) t) : SE e ((evLB Φ C .nil ρ).bind K) t := by rw [evLB]; exact h
theorem b_p {a : CE} {r : CL} {K : List D → R γ} {e : β → γ} {d : D} (h : brw a ρ (evE Φ C a ρ) = .ok d) (k : SE e ((evLB Φ C r ρ).bind fun ds => K (d :: ds)) t) : SE e ((evLB Φ C (.cons a r) ρ).bind K) t := by
  rw [evLB, h]
  simp only [R.bind_ok]
  cases q : evLB Φ C r ρ with
  | ok ds => rw [q] at k; exact k
  | exc c => rw [q] at k; exact k
  | bad => rw [q] at k; exact k
theorem b_b {a : CE} {r : CL} {K : List D → R γ} {e : β → γ} {ea : α → D} {ta : R α} {g : α → R β} (h : SE ea (brw a ρ (evE Φ C a ρ)) ta) (k : ∀ x, SE e ((evLB Φ C r ρ).bind fun ds => K (ea x :: ds)) (g x)) : SE e ((evLB Φ C (.cons a r) ρ).bind K) (ta.bind g) := by
  cases ta with
  | ok x => exact b_p (show _ = R.ok (ea x) from h) (k x)
  | exc c => rw [evLB, show _ = R.exc c from h]; exact rfl
  | bad => exact trivial
/-! truths -/
theorem s_asB {b : Bool} {K : Bool → R γ} {e : β → γ} (h : SE e (K b) t) : SE e ((asB (.bl b)).bind K) t := h
theorem s_asI {i : Int} {K : Int → R γ} {e : β → γ} (h : SE e (K i) t) : SE e ((asI (.int i)).bind K) t := h
theorem s_if {b : Bool} {r r' : R γ} {e : β → γ} {t t' : R β} (h : b = true → SE e r t) (h' : b = false → SE e r' t') : SE e (if b = true then r else r') (if b = true then t else t') := by
  cases b with
  | true => exact h rfl
  | false => exact h' rfl
theorem s_map {f : δ → γ} {r : R δ} {d : β → δ} {t : R β} {e : β → γ} (h : SE d r t) (q : ∀ x, f (d x) = e x) : SE e (r.map f) t := by
  cases t with
  | ok x => rw [show r = .ok (d x) from h]; exact congrArg R.ok (q x)
  | exc c => rw [show r = .exc c from h]; rfl
  | bad => exact trivial
/-- a told deed -/
theorem s_told {a : CE} {ea : α → D} {ta : R α} (h : SE ea (evE Φ C a ρ) ta) : SE eD (evE Φ C (.told a) ρ) (toldR C (ta.map ea)) := by
  rw [q_told]
  cases ta with
  | ok x => rw [show _ = R.ok (ea x) from h]; rfl
  | exc c =>
    rw [show _ = R.exc c from h]
    show SE eD (toldR C (.exc c)) (toldR C (.exc c))
    cases q : toldR C (.exc c) with
    | ok d => exact rfl
    | exc c' => exact rfl
    | bad => exact trivial
  | bad => exact trivial
end
/-! ### comprehensions -/
def nox : R α → R α
  | .exc _ => .bad
  | r => r
@[simp] theorem nox_ok (x : α) : nox (.ok x) = .ok x := rfl
def lcT (f : α → R (Option β)) : List α → R (List β)
  | [] => .ok []
  | x :: xs => (nox (f x)).bind fun y => (lcT f xs).bind fun ys => .ok (match y with
    | some z => z :: ys
    | none => ys)
def mapT (f : α → R β) : List α → R (List β)
  | [] => .ok []
  | x :: xs => (nox (f x)).bind fun y => (mapT f xs).bind fun ys => .ok (y :: ys)
theorem mapT_ok {f : α → R β} {g : α → β} : ∀ {xs : List α}, (∀ x ∈ xs, f x = .ok (g x)) → mapT f xs = .ok (xs.map g)
  | [], _ => rfl
  | x :: xs, h => by
    simp only [mapT, h x List.mem_cons_self, nox_ok, R.bind_ok, mapT_ok fun y hy => h y (List.mem_cons_of_mem _ hy), List.map_cons]
theorem lcT_ok {f : α → R (Option β)} {p : α → Bool} {g : α → β} : ∀ {xs : List α}, (∀ x ∈ xs, f x = .ok (if p x = true then some (g x) else none)) → lcT f xs = .ok ((xs.filter p).map g)
  | [], _ => rfl
  | x :: xs, h => by
    simp only [lcT, h x List.mem_cons_self, nox_ok, R.bind_ok, lcT_ok fun y hy => h y (List.mem_cons_of_mem _ hy), List.filter_cons]
    by_cases q : p x = true
    · simp [q]
    · simp [q]
section
variable {Φ : Str → List D → R D} {C : Str → Option D} {ρ : Env}
theorem lcM_mapT {f : D → R (Option D)} {ea : α → D} {eb : β → D} {g : α → R β} (h : ∀ x, SE (fun z => some (eb z)) (f (ea x)) (g x)) : ∀ xs : List α, SE (fun ys => ys.map eb) (lcM f (xs.map ea)) (mapT g xs)
  | [] => rfl
  | x :: xs => by
    have ih := lcM_mapT (g := g) h xs
    have hx := h x
    simp only [List.map_cons, lcM, mapT]
    cases q : g x with
    | bad => exact trivial
    | exc c => exact trivial
    | ok y =>
      rw [q] at hx
      rw [show f (ea x) = .ok (some (eb y)) from hx]
      simp only [noX, nox, R.bind_ok]
      exact sb ih fun ys => rfl
theorem lcM_lcT {f : D → R (Option D)} {ea : α → D} {eb : β → D} {g : α → R (Option β)} (h : ∀ x, SE (fun z => z.map eb) (f (ea x)) (g x)) : ∀ xs : List α, SE (fun ys => ys.map eb) (lcM f (xs.map ea)) (lcT g xs)
  | [] => rfl
  | x :: xs => by
    have ih := lcM_lcT (g := g) h xs
    have hx := h x
    simp only [List.map_cons, lcM, lcT]
    cases q : g x with
    | bad => exact trivial
    | exc c => exact trivial
    | ok y =>
      rw [q] at hx
      rw [show f (ea x) = .ok (y.map eb) from hx]
      simp only [noX, nox, R.bind_ok]
      refine sb ih fun ys => ?_
      cases y <;> exact rfl
theorem lcM_pure {f : D → R (Option D)} {ea : α → D} {eb : β → D} {g : α → β} (h : ∀ x, f (ea x) = .ok (some (eb (g x)))) : ∀ xs : List α, lcM f (xs.map ea) = .ok ((xs.map g).map eb)
  | [] => rfl
  | x :: xs => by simp only [List.map_cons, lcM, h, noX, R.bind_ok, lcM_pure h xs]
theorem lcM_filt {f : D → R (Option D)} {ea : α → D} {eb : β → D} {p : α → Bool} {g : α → β} (h : ∀ x, f (ea x) = .ok (if p x = true then some (eb (g x)) else none)) : ∀ xs : List α, lcM f (xs.map ea) = .ok (((xs.filter p).map g).map eb)
  | [] => rfl
  | x :: xs => by
    simp only [List.map_cons, lcM, h, noX, R.bind_ok, lcM_filt h xs, List.filter_cons]
    by_cases q : p x = true
    · simp [q]
    · simp [q]
/-- the items of a walk -/
theorem q_lc {k : IK} {a b : CE} {g : Tg} {own : List Nat} {c e : CE} (hf : ownFree ρ own = true) : evE Φ C (.lc k a b g own c e) ρ = (itF Φ C k a b ρ).bind fun ds =>
      (lcM (fun d => (bindG g d (wipeE ρ own)).bind fun ρ' => (if isNo c = true then .ok true else (evE Φ C c ρ').bind asB).bind fun t => if t = true then (evE Φ C e ρ').bind fun z => .ok (some z) else .ok none) ds).bind fun ys => .ok (.lst ys) := by
  rw [evE, if_pos hf, itF]
  simp only [R.bind_assoc]
theorem i_seq {a : CE} : itF Φ C .seq a .no ρ = (evE Φ C a ρ).bind fun x => itemsD .seq x .non := rfl
theorem i_rng1 {a : CE} : itF Φ C .rng1 a .no ρ = (evE Φ C a ρ).bind fun x => itemsD .rng1 x .non := rfl
theorem i_enm {a : CE} : itF Φ C .enm a .no ρ = (evE Φ C a ρ).bind fun x => itemsD .enm x .non := rfl
theorem i_two {k : IK} {a b : CE} (h : isNo b = false) : itF Φ C k a b ρ = (evE Φ C a ρ).bind fun x => (evE Φ C b ρ).bind fun y => itemsD k x y := by rw [itF]; simp only [h, Bool.false_eq_true, if_false]
section
variable {k : IK} {a b : CE} {tg : Tg} {own : List Nat} {ce : CE} {ea : α → D} {eb : β → D} {ρ' : α → Env}
/-- pure elements -/
theorem lc_p {xs : List α} {g : α → β} (hf : ownFree ρ own = true) (hi : itF Φ C k a b ρ = .ok (xs.map ea)) (hb : ∀ x, bindG tg (ea x) (wipeE ρ own) = .ok (ρ' x)) (he : ∀ x, evE Φ C ce (ρ' x) = .ok (eb (g x))) : evE Φ C (.lc k a b tg own .no ce) ρ = .ok (eL eb (xs.map g)) := by
  rw [q_lc hf, hi]
  simp only [R.bind_ok]
  rw [lcM_pure (eb := eb) (g := g) fun x => ?_]
  · rfl
  · rw [hb]
    simp only [R.bind_ok, isNo, if_true, he]
theorem lc_pt {xs : List α} {g : α → R β} (hf : ownFree ρ own = true) (hi : itF Φ C k a b ρ = .ok (xs.map ea)) (hb : ∀ x, bindG tg (ea x) (wipeE ρ own) = .ok (ρ' x)) (he : ∀ x, SE eb (evE Φ C ce (ρ' x)) (g x)) : SE (eL eb) (evE Φ C (.lc k a b tg own .no ce) ρ) (mapT g xs) := by
  rw [q_lc hf, hi]
  simp only [R.bind_ok]
  have key := lcM_mapT (f := fun d => (bindG tg d (wipeE ρ own)).bind fun ρ' => (if isNo CE.no = true then (R.ok true : R Bool) else (evE Φ C CE.no ρ').bind asB).bind fun t => if t = true then (evE Φ C ce ρ').bind fun z => R.ok (some z) else R.ok none) (ea := ea) (eb := eb) (g := g) (fun x => by
    rw [hb]
    simp only [R.bind_ok, isNo, if_true]
    have h := he x
    cases q : g x with
    | bad => exact trivial
    | exc c => rw [q] at h; rw [show _ = R.exc c from h]; exact rfl
    | ok y => rw [q] at h; rw [show _ = R.ok (eb y) from h]; exact rfl) xs
  have k2 := sb (K := fun ys => R.ok (D.lst ys)) (g := fun ys => R.ok ys) (e := eL eb) key fun ys => rfl
  have e2 : (mapT g xs).bind (fun ys => R.ok ys) = mapT g xs := by cases mapT g xs <;> rfl
  rw [e2] at k2
  exact k2
theorem lc_f {xs : List α} {g : α → β} {p : α → Bool} {ct : CE} (hf : ownFree ρ own = true) (hn : isNo ct = false) (hi : itF Φ C k a b ρ = .ok (xs.map ea)) (hb : ∀ x, bindG tg (ea x) (wipeE ρ own) = .ok (ρ' x)) (hc : ∀ x, evE Φ C ct (ρ' x) = .ok (.bl (p x))) (he : ∀ x, evE Φ C ce (ρ' x) = .ok (eb (g x))) :
    evE Φ C (.lc k a b tg own ct ce) ρ = .ok (eL eb ((xs.filter p).map g)) := by
  rw [q_lc hf, hi]
  simp only [R.bind_ok]
  rw [lcM_filt (eb := eb) (g := g) (p := p) fun x => ?_]
  · rfl
  · rw [hb]
    simp only [R.bind_ok, hn, Bool.false_eq_true, if_false, hc, asB, he]
    by_cases q : p x = true
    · simp [q]
    · simp [q]
/-- pure test, elements that may fail -/
theorem lc_ft {xs : List α} {g : α → R β} {p : α → Bool} {ct : CE} (hf : ownFree ρ own = true) (hn : isNo ct = false) (hi : itF Φ C k a b ρ = .ok (xs.map ea)) (hb : ∀ x, bindG tg (ea x) (wipeE ρ own) = .ok (ρ' x)) (hc : ∀ x, evE Φ C ct (ρ' x) = .ok (.bl (p x))) (he : ∀ x, SE eb (evE Φ C ce (ρ' x)) (g x)) :
    SE (eL eb) (evE Φ C (.lc k a b tg own ct ce) ρ) (lcT (fun x => if p x = true then (g x).bind fun z => .ok (some z) else .ok none) xs) := by
  rw [q_lc hf, hi]
  simp only [R.bind_ok]
  have key := lcM_lcT (f := fun d => (bindG tg d (wipeE ρ own)).bind fun ρ' => (if isNo ct = true then (R.ok true : R Bool) else (evE Φ C ct ρ').bind asB).bind fun t => if t = true then (evE Φ C ce ρ').bind fun z => R.ok (some z) else R.ok none) (ea := ea) (eb := eb) (g := fun x => if p x = true then (g x).bind fun z => .ok (some z) else .ok none) (fun x => by
    rw [hb]
    simp only [R.bind_ok, hn, Bool.false_eq_true, if_false, hc, asB]
    refine s_if (fun _ => sb (he x) fun z => rfl) fun _ => rfl) xs
  have k2 := sb (K := fun ys => R.ok (D.lst ys)) (g := fun ys => R.ok ys) (e := eL eb) key fun ys => rfl
  have e2 : ∀ r : R (List β), r.bind (fun ys => R.ok ys) = r := fun r => by cases r <;> rfl
  rw [e2] at k2
  exact k2
/-- a test that may fail -/
theorem lc_t {xs : List α} {g : α → R β} {p : α → R Bool} {ct : CE} (hf : ownFree ρ own = true) (hn : isNo ct = false) (hi : itF Φ C k a b ρ = .ok (xs.map ea)) (hb : ∀ x, bindG tg (ea x) (wipeE ρ own) = .ok (ρ' x)) (hc : ∀ x, SE eB (evE Φ C ct (ρ' x)) (p x)) (he : ∀ x, SE eb (evE Φ C ce (ρ' x)) (g x)) :
    SE (eL eb) (evE Φ C (.lc k a b tg own ct ce) ρ) (lcT (fun x => (p x).bind fun t => if t = true then (g x).bind fun z => .ok (some z) else .ok none) xs) := by
  rw [q_lc hf, hi]
  simp only [R.bind_ok]
  have key := lcM_lcT (f := fun d => (bindG tg d (wipeE ρ own)).bind fun ρ' => (if isNo ct = true then (R.ok true : R Bool) else (evE Φ C ct ρ').bind asB).bind fun t => if t = true then (evE Φ C ce ρ').bind fun z => R.ok (some z) else R.ok none) (ea := ea) (eb := eb) (g := fun x => (p x).bind fun t => if t = true then (g x).bind fun z => .ok (some z) else .ok none) (fun x => by
    rw [hb]
    simp only [R.bind_ok, hn, Bool.false_eq_true, if_false, R.bind_assoc]
    exact sb (hc x) fun t => s_asB (s_if (fun _ => sb (he x) fun z => rfl) fun _ => rfl)) xs
  have k2 := sb (K := fun ys => R.ok (D.lst ys)) (g := fun ys => R.ok ys) (e := eL eb) key fun ys => rfl
  have e2 : ∀ r : R (List β), r.bind (fun ys => R.ok ys) = r := fun r => by cases r <;> rfl
  rw [e2] at k2
  exact k2
end
/-- items that may fail -/
theorem lc_i {k : IK} {a b : CE} {tg : Tg} {own : List Nat} {ct ce : CE} {ea : α → D} {e : β → D} {ti : R (List α)} {g : List α → R β} (hf : ownFree ρ own = true) (hi : SE (fun xs => xs.map ea) (itF Φ C k a b ρ) ti) (h : ∀ xs, itF Φ C k a b ρ = .ok (xs.map ea) → SE e (evE Φ C (.lc k a b tg own ct ce) ρ) (g xs)) :
    SE e (evE Φ C (.lc k a b tg own ct ce) ρ) (ti.bind g) := by
  cases ti with
  | ok xs => exact h xs hi
  | exc c => rw [q_lc hf, show _ = R.exc c from hi]; exact rfl
  | bad => exact trivial
end
end
end Lk
end Part_LkP
section Part_LkP2
set_option Elab.async false
set_option linter.all false
set_option maxRecDepth 100000
set_option maxHeartbeats 4000000
namespace Lk
open PySem PySem.Spec PyProof.Rows L2
/-! ### statements, typed -/
inductive OT (σ α : Type) where
  | nx (s : σ)
  | rt (a : α)
  | xc (c : Str)
  | bad
section
variable {α β γ δ σ τ υ : Type}
def OT.andThen : OT σ α → (σ → OT τ α) → OT τ α
  | .nx s, k => k s
  | .rt a, _ => .rt a
  | .xc c, _ => .xc c
  | .bad, _ => .bad
@[simp] theorem OT.andThen_nx (s : σ) (k : σ → OT τ α) : (OT.nx s).andThen k = k s := rfl
@[simp] theorem OT.andThen_rt (a : α) (k : σ → OT τ α) : (OT.rt a).andThen k = .rt a := rfl
@[simp] theorem OT.andThen_xc (c : Str) (k : σ → OT τ α) : (OT.xc c).andThen k = .xc c := rfl
@[simp] theorem OT.andThen_bad (k : σ → OT τ α) : (OT.bad).andThen k = .bad := rfl
def R.toO : R δ → (δ → OT σ α) → OT σ α
  | .ok x, k => k x
  | .exc c, _ => .xc c
  | .bad, _ => .bad
@[simp] theorem R.toO_ok (x : δ) (k : δ → OT σ α) : (R.ok x).toO k = k x := rfl
@[simp] theorem R.toO_exc (c : Str) (k : δ → OT σ α) : (R.exc c).toO k = .xc c := rfl
@[simp] theorem R.toO_bad (k : δ → OT σ α) : (R.bad : R δ).toO k = .bad := rfl
/-- what a def gives out -/
def OT.toR (z : R α) : OT σ α → R α
  | .nx _ => z
  | .rt a => .ok a
  | .xc c => .exc c
  | .bad => .bad
@[simp] theorem OT.toR_nx (z : R α) (s : σ) : (OT.nx s : OT σ α).toR z = z := rfl
@[simp] theorem OT.toR_rt (z : R α) (a : α) : (OT.rt a : OT σ α).toR z = .ok a := rfl
@[simp] theorem OT.toR_xc (z : R α) (c : Str) : (OT.xc c : OT σ α).toR z = .exc c := rfl
@[simp] theorem OT.toR_bad (z : R α) : (OT.bad : OT σ α).toR z = .bad := rfl
def forT (f : δ → σ → OT σ α) : List δ → σ → OT σ α
  | [], s => .nx s
  | x :: xs, s => (f x s).andThen (forT f xs)
@[simp] theorem forT_nil (f : δ → σ → OT σ α) (s : σ) : forT f [] s = .nx s := rfl
theorem forT_cons (f : δ → σ → OT σ α) (x : δ) (xs : List δ) (s : σ) : forT f (x :: xs) s = (f x s).andThen (forT f xs) := rfl
def whlT (c : σ → R Bool) (f : σ → OT σ α) : Nat → σ → OT σ α
  | 0, _ => .bad
  | n + 1, s => (c s).toO fun t => if t = true then (f s).andThen (whlT c f n) else .nx s
theorem whlT_succ (c : σ → R Bool) (f : σ → OT σ α) (n : Nat) (s : σ) : whlT c f (n + 1) s = (c s).toO fun t => if t = true then (f s).andThen (whlT c f n) else .nx s := rfl
/-- o comes to what t tells -/
def SO (E : σ → Env) (e : α → D) (o : Out) (t : OT σ α) : Prop :=
  match t with
  | .nx s => o = .nx (E s)
  | .rt a => o = .rt (e a)
  | .xc c => ∃ ρ, o = .xc c ρ
  | .bad => True
theorem SO.andThen {E : σ → Env} {E' : τ → Env} {e : α → D} {o : Out} {t : OT σ α} {k : Env → Out} {k' : σ → OT τ α} (h : SO E e o t) (hk : ∀ s, SO E' e (k (E s)) (k' s)) : SO E' e (o.andThen k) (t.andThen k') := by
  cases t with
  | nx s => rw [show o = .nx (E s) from h]; exact hk s
  | rt a => rw [show o = .rt (e a) from h]; exact rfl
  | xc c =>
    obtain ⟨ρ, q⟩ := (show ∃ ρ, o = .xc c ρ from h)
    rw [q]
    exact ⟨ρ, rfl⟩
  | bad => exact trivial
variable {Φ : Str → List D → R D} {C : Str → Option D} {ρ ρ' : Env} {e : α → D} {E : σ → Env} {t : OT σ α} {r : CB}
theorem onR_p {x : δ} {q : R δ} {k : δ → Out} (h : q = .ok x) (hk : SO E e (k x) t) : SO E e (onR ρ q k) t := by rw [h]; exact hk
theorem onR_b {ed : β → δ} {q : R δ} {tb : R β} {k : δ → Out} {g : β → OT σ α} (h : SE ed q tb) (hk : ∀ x, SO E e (k (ed x)) (g x)) : SO E e (onR ρ q k) (tb.toO g) := by
  cases tb with
  | ok x => rw [show q = .ok (ed x) from h]; exact hk x
  | exc c => rw [show q = .exc c from h]; exact ⟨ρ, rfl⟩
  | bad => exact trivial
theorem set_at {i : Nat} {s : Slot} {k : Env → Out} (hi : i < ρ.length) (hs : ρ.set i s = ρ') (hk : SO E e (k ρ') t) : SO E e ((setO ρ i s).andThen k) t := by
  simp only [setO, setL, hi, if_true, Out.andThen, hs]
  exact hk
/-! blocks -/
theorem o_nil {s : σ} (h : ρ = E s) : SO E e (exB Φ C .nil ρ) (.nx s) := by rw [exB, h]; rfl
theorem o_rel {i : Nat} (hs : relE ρ i = ρ') (h : SO E e (exB Φ C r ρ') t) : SO E e (exB Φ C (.rel i r) ρ) t := by rw [exB, hs]; exact h
theorem o_del {i : Nat} (hs : ρ.set i .no = ρ') (h : SO E e (exB Φ C r ρ') t) : SO E e (exB Φ C (.del i r) ρ) t := by rw [exB, hs]; exact h
theorem q_cons (s : CS) : exB Φ C (.cons s r) ρ = (exS Φ C s ρ).andThen fun ρ' => exB Φ C r ρ' := by rw [exB]
/-- x = e -/
theorem onR_then {q : R δ} {k : δ → Out} {j : Env → Out} : (onR ρ q k).andThen j = onR ρ q fun x => (k x).andThen j := by
  cases q <;> rfl
theorem o_set {i : Nat} {x : CE} {ed : β → D} {tb : R β} {g : β → OT σ α} {ρ' : β → Env} (h : SE ed (evE Φ C x ρ) tb) (hi : i < ρ.length) (hs : ∀ y, ρ.set i (.sh (ed y)) = ρ' y) (hk : ∀ y, SO E e (exB Φ C r (ρ' y)) (g y)) : SO E e (exB Φ C (.cons (.set i x) r) ρ) (tb.toO g) := by
  rw [q_cons, exS, onR_then]
  exact onR_b h fun y => set_at hi (hs y) (hk y)
theorem o_setP {i : Nat} {x : CE} {d : D} (h : evE Φ C x ρ = .ok d) (hi : i < ρ.length) (hs : ρ.set i (.sh d) = ρ') (hk : SO E e (exB Φ C r ρ') t) : SO E e (exB Φ C (.cons (.set i x) r) ρ) t := by
  rw [q_cons, exS, onR_then]
  exact onR_p h (set_at hi hs hk)
theorem o_setO {i : Nat} {x : CE} {ed : β → D} {tb : R β} {g : β → OT σ α} {ρ' : β → Env} (h : SE ed (evE Φ C x ρ) tb) (hi : i < ρ.length) (ho : ∀ y, ownable (ed y) = true) (hs : ∀ y, ρ.set i (.ow (ed y)) = ρ' y) (hk : ∀ y, SO E e (exB Φ C r (ρ' y)) (g y)) : SO E e (exB Φ C (.cons (.setO i x) r) ρ) (tb.toO g) := by
  rw [q_cons, exS, onR_then]
  refine onR_b h fun y => ?_
  rw [if_pos (ho y)]
  exact set_at hi (hs y) (hk y)
theorem o_setOP {i : Nat} {x : CE} {d : D} (h : evE Φ C x ρ = .ok d) (hi : i < ρ.length) (ho : ownable d = true) (hs : ρ.set i (.ow d) = ρ') (hk : SO E e (exB Φ C r ρ') t) : SO E e (exB Φ C (.cons (.setO i x) r) ρ) t := by
  rw [q_cons, exS, onR_then]
  refine onR_p h ?_
  rw [if_pos ho]
  exact set_at hi hs hk
/-- the same where a comprehension stores -/
theorem o_lc (i : Nat) (x : CE) : exB Φ C (.cons (.setLc i x) r) ρ = exB Φ C (.cons (.set i x) r) ρ := by simp only [exB, exS]
theorem o_lcO (i : Nat) (x : CE) : exB Φ C (.cons (.setLcO i x) r) ρ = exB Φ C (.cons (.setO i x) r) ρ := by simp only [exB, exS]
theorem ox {o o' : Out} (q : o = o') (h : SO E e o' t) : SO E e o t := by rw [q]; exact h
theorem o_expr {x : CE} {ed : β → D} {tb : R β} (h : SE ed (evE Φ C x ρ) tb) (hk : SO E e (exB Φ C r ρ) t) : SO E e (exB Φ C (.cons (.expr x) r) ρ) (tb.toO fun _ => t) := by
  rw [q_cons, exS, onR_then]
  exact onR_b h fun y => hk
theorem o_retP {x : CE} {a : α} (h : evE Φ C x ρ = .ok (e a)) : SO E e (exB Φ C (.cons (.ret x) r) ρ) (.rt a) := by
  rw [q_cons, exS, onR_then]
  exact onR_p h rfl
theorem o_ret {x : CE} {tb : R α} (h : SE e (evE Φ C x ρ) tb) : SO E e (exB Φ C (.cons (.ret x) r) ρ) (tb.toO fun y => .rt y) := by
  rw [q_cons, exS, onR_then]
  exact onR_b h fun y => rfl
/-- what is returned, told another way -/
theorem o_retC {x : CE} {ed : β → D} {tb : R β} {f : β → α} (h : SE ed (evE Φ C x ρ) tb) (hf : ∀ y, ed y = e (f y)) : SO E e (exB Φ C (.cons (.ret x) r) ρ) (tb.toO fun y => .rt (f y)) := by
  rw [q_cons, exS, onR_then]
  exact onR_b h fun y => by rw [hf]; exact rfl
theorem o_rse {c : Str} : SO E e (exB Φ C (.cons (.rse c) r) ρ) (.xc c) := by
  rw [q_cons, exS]
  exact ⟨ρ, rfl⟩
theorem o_opq : SO E e (exB Φ C (.cons .opq r) ρ) .bad := trivial
/-- if, with what follows -/
theorem o_iff {c : CE} {tt te : CB} {tc : R Bool} {E1 : τ → Env} {t1 t2 : OT τ α} {g : τ → OT σ α} (hc : SE eB (evE Φ C c ρ) tc) (h1 : SO E1 e (exB Φ C tt ρ) t1) (h2 : SO E1 e (exB Φ C te ρ) t2) (hk : ∀ s, SO E e (exB Φ C r (E1 s)) (g s)) :
    SO E e (exB Φ C (.cons (.iff c tt te) r) ρ) (tc.toO fun b => (if b = true then t1 else t2).andThen g) := by
  rw [q_cons, exS, onR_then]
  have hc' : SE (fun b : Bool => b) ((evE Φ C c ρ).bind asB) tc := by
    cases tc with
    | ok b => rw [show _ = R.ok (D.bl b) from hc]; rfl
    | exc c => rw [show _ = R.exc c from hc]; rfl
    | bad => exact trivial
  refine onR_b hc' fun b => ?_
  cases b with
  | true => exact SO.andThen h1 hk
  | false => exact SO.andThen h2 hk
/-- a turn's target -/
theorem bo_nm {i : Nat} {d : D} {k : Env → Out} (hi : i < ρ.length) (hs : ρ.set i (.sh d) = ρ') (hk : SO E e (k ρ') t) : SO E e (bindO (.nm i) d ρ k) t := by
  simp only [bindO, bindG, setL, hi, if_true, hs]
  exact hk
theorem bo_g {g : Tg} {d : D} {k : Env → Out} (hs : bindG g d ρ = .ok ρ') (hk : SO E e (k ρ') t) : SO E e (bindO g d ρ k) t := by
  simp only [bindO, hs]
  exact hk
/-- a thing taken apart into three -/
def unD3 (d : D) : R (D × D × D) := match d with
  | .tup [a, b, c] => .ok (a, b, c)
  | _ => .bad
theorem bo_u3 {g : Tg} {d : D} {k : Env → Out} {ρ' : D × D × D → Env} {t : D × D × D → OT σ α} (hs : ∀ u : D × D × D, bindG g (.tup [u.1, u.2.1, u.2.2]) ρ = .ok (ρ' u)) (hk : ∀ u, SO E e (k (ρ' u)) (t u)) : SO E e (bindO g d ρ k) ((unD3 d).toO t) := by
  unfold unD3
  split
  · rename_i a b c
    simp only [bindO, hs (a, b, c)]
    exact hk (a, b, c)
  · exact trivial
theorem forM_so {f : D → Env → Out} {ea : β → D} {g : β → σ → OT σ α} (h : ∀ x s, SO E e (f (ea x) (E s)) (g x s)) : ∀ (xs : List β) (s : σ), SO E e (forM f (xs.map ea) (E s)) (forT g xs s)
  | [], s => rfl
  | x :: xs, s => by
    simp only [List.map_cons, forM, forT]
    exact SO.andThen (h x s) fun s' => forM_so h xs s'
theorem o_for {k : IK} {a b : CE} {tg : Tg} {body : CB} {ea : β → D} {ti : R (List β)} {E1 : τ → Env} {tb : β → τ → OT τ α} {g : τ → OT σ α} {s0 : τ} (h0 : ρ = E1 s0) (hi : SE (fun xs => xs.map ea) (itF Φ C k a b ρ) ti)
    (hb : ∀ x s, SO E1 e (bindO tg (ea x) (E1 s) fun ρ' => exB Φ C body ρ') (tb x s)) (hk : ∀ s, SO E e (exB Φ C r (E1 s)) (g s)) :
    SO E e (exB Φ C (.cons (.for k a b tg body) r) ρ) (ti.toO fun xs => (forT tb xs s0).andThen g) := by
  rw [q_cons, exS, onR_then]
  refine onR_b (show SE (fun xs => xs.map ea) (itF Φ C k a b ρ) ti from hi) fun xs => ?_
  refine SO.andThen (E := E1) ?_ hk
  rw [h0]
  exact forM_so hb xs s0
theorem whlM_so {c : Env → R Bool} {f : Env → Out} {tc : σ → R Bool} {tf : σ → OT σ α} (hc : ∀ s, SE (fun b : Bool => b) (c (E s)) (tc s)) (hf : ∀ s, SO E e (f (E s)) (tf s)) : ∀ (n : Nat) (s : σ), SO E e (whlM c f n (E s)) (whlT tc tf n s)
  | 0, s => trivial
  | n + 1, s => by
    simp only [whlM, whlT]
    refine onR_b (hc s) fun b => ?_
    cases b with
    | true => exact SO.andThen (hf s) fun s' => whlM_so hc hf n s'
    | false => exact rfl
theorem o_whl {c : CE} {body : CB} {E1 : τ → Env} {tc : τ → R Bool} {tb : τ → OT τ α} {g : τ → OT σ α} {s0 : τ} (h0 : ρ = E1 s0) (hc : ∀ s, SE eB (evE Φ C c (E1 s)) (tc s)) (hb : ∀ s, SO E1 e (exB Φ C body (E1 s)) (tb s)) (hk : ∀ s, SO E e (exB Φ C r (E1 s)) (g s)) :
    SO E e (exB Φ C (.cons (.whl c body) r) ρ) ((whlT tc tb fuel s0).andThen g) := by
  rw [q_cons, exS]
  refine SO.andThen (E := E1) ?_ hk
  rw [h0]
  refine whlM_so (fun s => ?_) hb fuel s0
  have h := hc s
  cases q : tc s with
  | ok b => rw [q] at h; rw [show _ = R.ok (D.bl b) from h]; rfl
  | exc c => rw [q] at h; rw [show _ = R.exc c from h]; rfl
  | bad => exact trivial
/-! lists of the frame's own -/
def appR (xs : List β) (y : β) : R (List β) := if xs.length < 1000000 then .ok (xs ++ [y]) else .bad
def extR (xs ys : List β) : R (List β) := if xs.length + ys.length < 1000000 then .ok (xs ++ ys) else .bad
def stoR (xs : List β) (j : Int) (y : β) : R (List β) := match ixN xs.length j with
  | some n => .ok (xs.set n y)
  | none => .bad
theorem o_app {i : Nat} {x : CE} {ed : β → D} {tb : R β} {xs : List β} {g : List β → OT σ α} {ρ' : List β → Env} (hi : ρ[i]? = some (.ow (eL ed xs))) (h : SE ed (evE Φ C x ρ) tb) (hs : ∀ ys, ρ.set i (.ow (eL ed ys)) = ρ' ys) (hk : ∀ ys, SO E e (exB Φ C r (ρ' ys)) (g ys)) :
    SO E e (exB Φ C (.cons (.app i x) r) ρ) ((tb.bind fun y => appR xs y).toO g) := by
  rw [q_cons, exS, hi, if_pos (show isOwL (some (Slot.ow (eL ed xs))) = true from rfl), onR_then]
  cases tb with
  | bad => exact trivial
  | exc c => rw [show _ = R.exc c from h]; exact ⟨ρ, rfl⟩
  | ok y =>
    rw [show _ = R.ok (ed y) from h]
    simp only [onR, appD, hi, R.bind_ok, appR, List.length_map]
    by_cases q : xs.length < 1000000
    · rw [if_pos q, if_pos q]
      have e1 : ρ.set i (.ow (.lst (xs.map ed ++ [ed y]))) = ρ' (xs ++ [y]) := by rw [← hs]; simp only [eL, List.map_append, List.map_cons, List.map_nil]
      rw [e1]
      exact hk _
    · rw [if_neg q, if_neg q]; exact trivial
theorem o_ext {i : Nat} {x : CE} {ed : β → D} {tb : R (List β)} {xs : List β} {g : List β → OT σ α} {ρ' : List β → Env} (hi : ρ[i]? = some (.ow (eL ed xs))) (h : SE (eL ed) (evE Φ C x ρ) tb) (hs : ∀ ys, ρ.set i (.ow (eL ed ys)) = ρ' ys) (hk : ∀ ys, SO E e (exB Φ C r (ρ' ys)) (g ys)) :
    SO E e (exB Φ C (.cons (.ext i x) r) ρ) ((tb.bind fun y => extR xs y).toO g) := by
  rw [q_cons, exS, hi, if_pos (show isOwL (some (Slot.ow (eL ed xs))) = true from rfl), onR_then]
  cases tb with
  | bad => exact trivial
  | exc c => rw [show _ = R.exc c from h]; exact ⟨ρ, rfl⟩
  | ok y =>
    rw [show _ = R.ok (eL ed y) from h]
    simp only [onR, extD, hi, R.bind_ok, extR, eL, List.length_map]
    by_cases q : xs.length + y.length < 1000000
    · rw [if_pos q, if_pos q]
      have e1 : ρ.set i (.ow (.lst (xs.map ed ++ y.map ed))) = ρ' (xs ++ y) := by rw [← hs]; simp only [eL, List.map_append]
      rw [e1]
      exact hk _
    · rw [if_neg q, if_neg q]; exact trivial
theorem o_sto {i : Nat} {k x : CE} {ed : β → D} {tk : R Int} {tb : R β} {xs : List β} {g : List β → OT σ α} {ρ' : List β → Env} (hi : ρ[i]? = some (.ow (eL ed xs))) (h : SE ed (evE Φ C x ρ) tb) (h2 : SE eI (evE Φ C k ρ) tk) (hs : ∀ ys, ρ.set i (.ow (eL ed ys)) = ρ' ys) (hk : ∀ ys, SO E e (exB Φ C r (ρ' ys)) (g ys)) :
    SO E e (exB Φ C (.cons (.sto i k x) r) ρ) ((tb.bind fun y => tk.bind fun j => stoR xs j y).toO g) := by
  rw [q_cons, exS, hi, if_pos (show isOwL (some (Slot.ow (eL ed xs))) = true from rfl), onR_then]
  cases tb with
  | bad => exact trivial
  | exc c => rw [show _ = R.exc c from h]; exact ⟨ρ, rfl⟩
  | ok y =>
    rw [show _ = R.ok (ed y) from h]
    simp only [onR]
    cases tk with
    | bad => exact trivial
    | exc c => rw [show _ = R.exc c from h2]; exact ⟨ρ, rfl⟩
    | ok j =>
      rw [show _ = R.ok (eI j) from h2]
      simp only [stoD, hi, R.bind_ok, stoR, eL, List.length_map]
      cases q : ixN xs.length j with
      | none => exact trivial
      | some n =>
        have e1 : ρ.set i (.ow (.lst ((xs.map ed).set n (ed y)))) = ρ' (xs.set n y) := by rw [← hs]; simp only [eL, List.map_set]
        simp only [Out.andThen, R.toO_ok]
        rw [e1]
        exact hk _
/-- a, b = e, f -/
theorem o_par {i j : Nat} {x y : CE} {ed : β → D} {ef : γ → D} {tb : R β} {tc : R γ} {g : β → γ → OT σ α} {ρ' : β → γ → Env} (h : SE ed (evE Φ C x ρ) tb) (h2 : SE ef (evE Φ C y ρ) tc) (hi : i < ρ.length) (hj : j < ρ.length) (hs : ∀ u v, (ρ.set i (.sh (ed u))).set j (.sh (ef v)) = ρ' u v) (hk : ∀ u v, SO E e (exB Φ C r (ρ' u v)) (g u v)) :
    SO E e (exB Φ C (.cons (.par i j x y) r) ρ) (tb.toO fun u => tc.toO fun v => g u v) := by
  rw [q_cons, exS, onR_then]
  refine onR_b h fun u => ?_
  rw [onR_then]
  refine onR_b h2 fun v => ?_
  simp only [setO, setL, hi, if_true, Out.andThen, List.length_set, hj, hs]
  exact hk u v
theorem o_par3 {i j k : Nat} {x y z : CE} {ed : β → D} {ef : γ → D} {eh : υ → D} {tb : R β} {tc : R γ} {td : R υ} {g : β → γ → υ → OT σ α} {ρ' : β → γ → υ → Env} (h : SE ed (evE Φ C x ρ) tb) (h2 : SE ef (evE Φ C y ρ) tc) (h3 : SE eh (evE Φ C z ρ) td) (hi : i < ρ.length) (hj : j < ρ.length) (hk : k < ρ.length)
    (hs : ∀ u v w, ((ρ.set i (.sh (ed u))).set j (.sh (ef v))).set k (.sh (eh w)) = ρ' u v w) (hr : ∀ u v w, SO E e (exB Φ C r (ρ' u v w)) (g u v w)) :
    SO E e (exB Φ C (.cons (.par3 i j k x y z) r) ρ) (tb.toO fun u => tc.toO fun v => td.toO fun w => g u v w) := by
  rw [q_cons, exS, onR_then]
  refine onR_b h fun u => ?_
  rw [onR_then]
  refine onR_b h2 fun v => ?_
  rw [onR_then]
  refine onR_b h3 fun w => ?_
  simp only [setO, setL, hi, if_true, Out.andThen, List.length_set, hj, hk, hs]
  exact hr u v w
/-- a, b, .. = e -/
theorem o_unpP {is : List Nat} {x : CE} {ed : β → D} {tb : R β} {g : β → OT σ α} {ρ' : β → Env} (h : SE ed (evE Φ C x ρ) tb) (hs : ∀ y, unpD is (ed y) ρ = .nx (ρ' y)) (hk : ∀ y, SO E e (exB Φ C r (ρ' y)) (g y)) : SO E e (exB Φ C (.cons (.unp is x) r) ρ) (tb.toO g) := by
  rw [q_cons, exS, onR_then]
  refine onR_b h fun y => ?_
  rw [hs]
  exact hk y
def un2 (xs : List β) : R (β × β) := match xs with
  | [a, b] => .ok (a, b)
  | _ => .bad
def un3 (xs : List β) : R (β × β × β) := match xs with
  | [a, b, c] => .ok (a, b, c)
  | _ => .bad
theorem o_unL2 {i j : Nat} {x : CE} {ed : β → D} {tb : R (List β)} {g : β × β → OT σ α} {ρ' : β × β → Env} (h : SE (eL ed) (evE Φ C x ρ) tb) (hi : i < ρ.length) (hj : j < ρ.length) (hs : ∀ y, (ρ.set i (.sh (ed y.1))).set j (.sh (ed y.2)) = ρ' y) (hk : ∀ y, SO E e (exB Φ C r (ρ' y)) (g y)) :
    SO E e (exB Φ C (.cons (.unp [i, j] x) r) ρ) ((tb.bind un2).toO g) := by
  rw [q_cons, exS, onR_then]
  cases tb with
  | bad => exact trivial
  | exc c => rw [show _ = R.exc c from h]; exact ⟨ρ, rfl⟩
  | ok ys =>
    rw [show _ = R.ok (eL ed ys) from h]
    match ys with
    | [a, b] =>
      simp only [onR, unpD, List.map_cons, List.map_nil, setSh, setL, hi, hj, List.length_set, if_true, R.bind_ok, un2, Out.andThen, R.toO_ok]
      rw [hs (a, b)]
      exact hk (a, b)
    | [] => exact trivial
    | [_] => exact trivial
    | _ :: _ :: _ :: _ => exact trivial
theorem o_unL3 {i j k : Nat} {x : CE} {ed : β → D} {tb : R (List β)} {g : β × β × β → OT σ α} {ρ' : β × β × β → Env} (h : SE (eL ed) (evE Φ C x ρ) tb) (hi : i < ρ.length) (hj : j < ρ.length) (hk : k < ρ.length) (hs : ∀ y, ((ρ.set i (.sh (ed y.1))).set j (.sh (ed y.2.1))).set k (.sh (ed y.2.2)) = ρ' y) (hr : ∀ y, SO E e (exB Φ C r (ρ' y)) (g y)) :
    SO E e (exB Φ C (.cons (.unp [i, j, k] x) r) ρ) ((tb.bind un3).toO g) := by
  rw [q_cons, exS, onR_then]
  cases tb with
  | bad => exact trivial
  | exc c => rw [show _ = R.exc c from h]; exact ⟨ρ, rfl⟩
  | ok ys =>
    rw [show _ = R.ok (eL ed ys) from h]
    match ys with
    | [a, b, c] =>
      simp only [onR, unpD, List.map_cons, List.map_nil, setSh, setL, hi, hj, hk, List.length_set, if_true, R.bind_ok, un3, Out.andThen, R.toO_ok]
      rw [hs (a, b, c)]
      exact hr (a, b, c)
    | [] => exact trivial
    | [_] => exact trivial
    | [_, _] => exact trivial
    | _ :: _ :: _ :: _ :: _ => exact trivial
end
end Lk
end Part_LkP2
section Part_LkP3
set_option Elab.async false
set_option linter.all false
set_option maxRecDepth 100000
set_option maxHeartbeats 4000000
namespace Lk
open PySem PySem.Spec PyProof.Rows L2
section
variable {α β γ : Type}
abbrev eC : List Int → D := D.scr
/-! ### operators -/
theorem a_add (x y : Int) : binD .add (eI x) (eI y) = .ok (eI (x + y)) := rfl
theorem a_sub (x y : Int) : binD .sub (eI x) (eI y) = .ok (eI (x - y)) := rfl
def mulR (x y : Int) : R Int := if mulOk x y = true then .ok (x * y) else .bad
def fdivR (x y : Int) : R Int := if 0 < y ∧ y.natAbs < 2 ^ 1000 then .ok (x / y) else .bad
def modR (x y : Int) : R Int := if 0 < y then .ok (x % y) else .bad
theorem a_mul (x y : Int) : SE eI (binD .mul (eI x) (eI y)) (mulR x y) := by
  simp only [binD, mulR]
  split <;> first | exact rfl | exact trivial
theorem a_fdiv (x y : Int) : SE eI (binD .fdiv (eI x) (eI y)) (fdivR x y) := by
  simp only [binD, fdivR]
  split <;> first | exact rfl | exact trivial
theorem a_mod (x y : Int) : SE eI (binD .mod (eI x) (eI y)) (modR x y) := by
  simp only [binD, modR]
  split <;> first | exact rfl | exact trivial
/-- by a number that is written -/
theorem a_mulc {x y : Int} (h : decide (y.natAbs < 2 ^ 63) = true) : binD .mul (eI x) (eI y) = .ok (eI (x * y)) := if_pos (by unfold mulOk; rw [h, Bool.or_true, Bool.true_or])
theorem a_cmul {x y : Int} (h : decide (x.natAbs < 2 ^ 63) = true) : binD .mul (eI x) (eI y) = .ok (eI (x * y)) := if_pos (by unfold mulOk; rw [h, Bool.true_or, Bool.true_or])
theorem a_fdivc {x y : Int} (h : 0 < y ∧ y.natAbs < 2 ^ 1000) : binD .fdiv (eI x) (eI y) = .ok (eI (x / y)) := if_pos h
theorem a_modc {x y : Int} (h : 0 < y) : binD .mod (eI x) (eI y) = .ok (eI (x % y)) := if_pos h
theorem a_pow {x y z : Int} (h : 0 ≤ y ∧ y ≤ 1000 ∧ x.natAbs < 2 ^ 64) (e : x ^ y.toNat = z) : binD .pow (eI x) (eI y) = .ok (eI z) := (if_pos h).trans (by rw [e])
theorem a_neg (x : Int) : (asI (eI x)).bind (fun i => R.ok (D.int (-i))) = .ok (eI (-x)) := rfl
def catR (xs ys : List α) : R (List α) := if xs.length + ys.length ≤ 1000000 then .ok (xs ++ ys) else .bad
theorem a_catL {e : α → D} (xs ys : List α) : SE (eL e) (binD .add (eL e xs) (eL e ys)) (catR xs ys) := by
  simp only [binD, catR, eL, List.length_map]
  split
  · exact congrArg (fun z => R.ok (D.lst z)) List.map_append.symm
  · exact trivial
theorem a_catT {e : α → D} (xs ys : List α) : SE (eT e) (binD .add (eT e xs) (eT e ys)) (catR xs ys) := by
  simp only [binD, catR, eT, List.length_map]
  split
  · exact congrArg (fun z => R.ok (D.tup z)) List.map_append.symm
  · exact trivial
theorem flat_map {e : α → D} (xs : List α) : ∀ n, (List.replicate n (xs.map e)).flatten = ((List.replicate n xs).flatten).map e
  | 0 => rfl
  | n + 1 => by rw [List.replicate_succ, List.replicate_succ, List.flatten_cons, List.flatten_cons, List.map_append, flat_map xs n]
def repTR (xs : List α) (k : Int) : R (List α) := if 1 ≤ k ∧ k ≤ 1000 ∧ xs.length ≤ 1000 ∧ xs ≠ [] then .ok (List.replicate k.toNat xs).flatten else .bad
def repLR (xs : List α) (k : Int) : R (List α) := if 0 ≤ k ∧ k ≤ 1000 ∧ xs.length ≤ 1000 then .ok (List.replicate k.toNat xs).flatten else .bad
theorem a_repT {e : α → D} (xs : List α) (k : Int) : SE (eT e) (binD .mul (eT e xs) (eI k)) (repTR xs k) := by
  simp only [binD, repTR, eT, List.length_map, ne_eq, List.map_eq_nil_iff]
  split
  · exact congrArg (fun z => R.ok (D.tup z)) (flat_map xs _)
  · exact trivial
theorem a_repL {e : α → D} (xs : List α) (k : Int) : SE (eL e) (binD .mul (eL e xs) (eI k)) (repLR xs k) := by
  simp only [binD, repLR, eL, List.length_map]
  split
  · exact congrArg (fun z => R.ok (D.lst z)) (flat_map xs _)
  · exact trivial
/-- raw -/
theorem SE.raw {r : R D} : SE eD r r := by cases r <;> first | exact rfl | exact trivial
theorem SE.rawB {r : R Bool} : SE eB (r.map .bl) r := by cases r <;> first | exact rfl | exact trivial
theorem SE.toD {e : α → D} {r : R D} {t : R α} (h : SE e r t) : SE eD r (t.map e) := by
  cases t with
  | ok x => exact h
  | exc c => exact h
  | bad => exact trivial
theorem SE.fn {e : α → D} {e' : β → D} {f : α → β} {r : R D} {t : R α} (h : SE e r t) (q : ∀ x, e x = e' (f x)) : SE e' r (t.map f) := by
  cases t with
  | ok x => rw [show r = .ok (e x) from h, q]; exact rfl
  | exc c => exact h
  | bad => exact trivial
/-! ### == -/
structure EqE (e : α → D) (k : Nat) : Prop where
  ex : ∃ py : α → PyData, (∀ x, toPy (e x) = some (py x)) ∧ (∀ x, PyData.canLay0 (py x) = true) ∧ (∀ x, PyData.depth (py x) ≤ k) ∧ ∀ x y, PyData.eqv (py x) (py y) = true ↔ x = y
theorem eq_I : EqE eI 0 := ⟨PyData.int, fun _ => rfl, fun _ => rfl, fun _ => Nat.le_refl _, fun x y => by simp [PyData.eqv]⟩
theorem eq_B : EqE eB 0 := ⟨PyData.bool, fun _ => rfl, fun _ => rfl, fun _ => Nat.le_refl _, fun x y => by simp [PyData.eqv]⟩
theorem toPys_of {e : α → D} {py : α → PyData} (h : ∀ x, toPy (e x) = some (py x)) : ∀ xs : List α, toPys (xs.map e) = some (xs.map py)
  | [] => rfl
  | x :: xs => by rw [List.map_cons]; simp only [toPys, h, toPys_of h xs, List.map_cons]
theorem lay_of {py : α → PyData} (h : ∀ x, PyData.canLay0 (py x) = true) : ∀ xs : List α, PyData.canLayAll0 (xs.map py) = true
  | [] => rfl
  | x :: xs => by rw [List.map_cons]; simp only [PyData.canLayAll0, h, lay_of h xs, Bool.and_true]
theorem dep_of {py : α → PyData} {k : Nat} (h : ∀ x, PyData.depth (py x) ≤ k) : ∀ xs : List α, PyData.depthAll (xs.map py) ≤ k
  | [] => Nat.zero_le _
  | x :: xs => by rw [List.map_cons]; simp only [PyData.depthAll]; have := h x; have := dep_of h xs; omega
theorem eqvAll_of {py : α → PyData} (h : ∀ x y, PyData.eqv (py x) (py y) = true ↔ x = y) : ∀ xs ys : List α, PyData.eqvAll (xs.map py) (ys.map py) = true ↔ xs = ys
  | [], [] => by simp [PyData.eqvAll]
  | [], y :: ys => by simp [PyData.eqvAll]
  | x :: xs, [] => by simp [PyData.eqvAll]
  | x :: xs, y :: ys => by
    rw [List.map_cons, List.map_cons]
    simp only [PyData.eqvAll, Bool.and_eq_true, h, eqvAll_of h xs ys, List.cons.injEq]
theorem eq_L {e : α → D} {k : Nat} (h : EqE e k) : EqE (eL e) (k + 1) := by
  obtain ⟨py, h1, h2, h3, h4⟩ := h
  refine ⟨fun xs => .list (xs.map py), fun xs => by simp only [eL, toPy, toPys_of h1, Option.map_some], fun xs => ?_, fun xs => ?_, fun xs ys => ?_⟩
  · simp only [PyData.canLay0]; exact lay_of h2 xs
  · simp only [PyData.depth]; have := dep_of h3 xs; omega
  · simp only [PyData.eqv]; exact eqvAll_of h4 xs ys
theorem eq_T {e : α → D} {k : Nat} (h : EqE e k) : EqE (eT e) (k + 1) := by
  obtain ⟨py, h1, h2, h3, h4⟩ := h
  refine ⟨fun xs => .tuple (xs.map py), fun xs => by simp only [eT, toPy, toPys_of h1, Option.map_some], fun xs => ?_, fun xs => ?_, fun xs ys => ?_⟩
  · simp only [PyData.canLay0]; exact lay_of h2 xs
  · simp only [PyData.depth]; have := dep_of h3 xs; omega
  · simp only [PyData.eqv]; exact eqvAll_of h4 xs ys
theorem eq_P {e : α → D} {f : β → D} {k l : Nat} (h : EqE e k) (g : EqE f l) : EqE (eP e f) (max k l + 1) := by
  obtain ⟨py, h1, h2, h3, h4⟩ := h
  obtain ⟨qy, g1, g2, g3, g4⟩ := g
  refine ⟨fun p => .tuple [py p.1, qy p.2], fun p => by simp only [eP, toPy, toPys, h1, g1, Option.map_some], fun p => ?_, fun p => ?_, fun p q => ?_⟩
  · simp only [PyData.canLay0, PyData.canLayAll0, h2, g2, Bool.and_true]
  · simp only [PyData.depth, PyData.depthAll]; have := h3 p.1; have := g3 p.2; omega
  · simp only [PyData.eqv, PyData.eqvAll, Bool.and_true, Bool.and_eq_true, h4, g4]; exact Prod.ext_iff.symm
theorem eq_P3 {e : α → D} {f : β → D} {g : γ → D} {k l m : Nat} (h : EqE e k) (i : EqE f l) (j : EqE g m) : EqE (eP3 e f g) (max k (max l m) + 1) := by
  obtain ⟨py, h1, h2, h3, h4⟩ := h
  obtain ⟨qy, g1, g2, g3, g4⟩ := i
  obtain ⟨ry, j1, j2, j3, j4⟩ := j
  refine ⟨fun p => .tuple [py p.1, qy p.2.1, ry p.2.2], fun p => by simp only [eP3, toPy, toPys, h1, g1, j1, Option.map_some], fun p => ?_, fun p => ?_, fun p q => ?_⟩
  · simp only [PyData.canLay0, PyData.canLayAll0, h2, g2, j2, Bool.and_true]
  · simp only [PyData.depth, PyData.depthAll]; have := h3 p.1; have := g3 p.2.1; have := j3 p.2.2; omega
  · simp only [PyData.eqv, PyData.eqvAll, Bool.and_true, Bool.and_eq_true, h4, g4, j4]
    constructor
    · intro h; exact Prod.ext h.1 (Prod.ext h.2.1 h.2.2)
    · intro h; subst h; exact ⟨rfl, rfl, rfl⟩
theorem shp_of {py : PyData} {k : Nat} (h : PyData.canLay0 py = true) (d : PyData.depth py ≤ k) (k64 : k ≤ 64) : shp py = true := by
  unfold shp SeqAt.shaped
  rw [h, Bool.true_and]
  exact decide_eq_true (by omega)
section
variable {e : α → D} {k : Nat} [DecidableEq α]
theorem eqD_of (h : EqE e k) (hk : k ≤ 64) (x y : α) : eqD (e x) (e y) = .ok (decide (x = y)) := by
  obtain ⟨py, h1, h2, h3, h4⟩ := h
  unfold eqD
  rw [h1, h1]
  simp only [shp_of (h2 x) (h3 x) hk, shp_of (h2 y) (h3 y) hk, and_self, if_true]
  have := h4 x y
  by_cases q : x = y
  · rw [decide_eq_true q, this.mpr q]
  · rw [decide_eq_false q, Bool.eq_false_iff.mpr fun z => q (this.mp z)]
theorem a_eq (h : EqE e k) (hk : k ≤ 64) (x y : α) : (cmpD .eq (e x) (e y)).map .bl = .ok (eB (decide (x = y))) := by simp only [cmpD, eqD_of h hk]; rfl
theorem a_ne (h : EqE e k) (hk : k ≤ 64) (x y : α) : (cmpD .ne (e x) (e y)).map .bl = .ok (eB (!decide (x = y))) := by simp only [cmpD, eqD_of h hk]; rfl
theorem any_in (py : α → PyData) (h4 : ∀ x y, PyData.eqv (py x) (py y) = true ↔ x = y) (x : α) : ∀ xs : List α, ((xs.map py).any fun z => PyData.eqv z (py x)) = decide (x ∈ xs)
  | [] => by simp
  | y :: ys => by
    rw [List.map_cons, List.any_cons, any_in py h4 x ys]
    have := h4 y x
    by_cases q : y = x
    · rw [this.mpr q]; simp [q]
    · rw [Bool.eq_false_iff.mpr fun z => q (this.mp z)]; simp [Ne.symm q]
theorem inD_L (h : EqE e k) (hk : k + 1 ≤ 64) (x : α) (xs : List α) : inD (e x) (eL e xs) = .ok (decide (x ∈ xs)) := by
  obtain ⟨py, h1, h2, h3, h4⟩ := h
  simp only [inD, eL, h1, toPys_of h1]
  have s1 := shp_of (h2 x) (h3 x) (by omega)
  have s2 : shp (.list (xs.map py)) = true := shp_of (k := k + 1) (by simp only [PyData.canLay0]; exact lay_of h2 xs) (by simp only [PyData.depth]; have := dep_of h3 xs; omega) hk
  rw [if_pos ⟨s1, s2⟩, any_in py h4]
theorem a_in (h : EqE e k) (hk : k + 1 ≤ 64) (x : α) (xs : List α) {dc : Decidable (x ∈ xs)} : (cmpD .isin (e x) (eL e xs)).map .bl = .ok (eB (@decide (x ∈ xs) dc)) := by simp only [cmpD, inD_L h hk]; exact congrArg (fun z => R.ok (eB z)) (by congr)
theorem a_notin (h : EqE e k) (hk : k + 1 ≤ 64) (x : α) (xs : List α) {dc : Decidable (x ∈ xs)} : (cmpD .notin (e x) (eL e xs)).map .bl = .ok (eB (!@decide (x ∈ xs) dc)) := by simp only [cmpD, inD_L h hk]; exact congrArg (fun z => R.ok (eB (!z))) (by congr)
def indexR (xs : List α) (x : α) : R Int := if x ∈ xs then .ok (xs.idxOf x : Nat) else .bad
theorem find_in (py : α → PyData) (h4 : ∀ x y, PyData.eqv (py x) (py y) = true ↔ x = y) (x : α) : ∀ xs : List α, (xs.map py).findIdx (fun z => PyData.eqv z (py x)) = xs.idxOf x
  | [] => rfl
  | y :: ys => by
    rw [List.map_cons, List.findIdx_cons, List.idxOf_cons, find_in py h4 x ys]
    have := h4 y x
    by_cases q : y = x
    · rw [this.mpr q]; simp [q]
    · rw [Bool.eq_false_iff.mpr fun z => q (this.mp z), show (y == x) = false from beq_eq_false_iff_ne.mpr q]
theorem a_index (h : EqE e k) (hk : k + 1 ≤ 64) (xs : List α) (x : α) : SE eI (mthD .index (eL e xs) (e x)) (indexR xs x) := by
  obtain ⟨py, h1, h2, h3, h4⟩ := h
  simp only [mthD, eL, h1, toPys_of h1]
  have s1 := shp_of (h2 x) (h3 x) (by omega)
  have s2 : shp (.list (xs.map py)) = true := shp_of (k := k + 1) (by simp only [PyData.canLay0]; exact lay_of h2 xs) (by simp only [PyData.depth]; have := dep_of h3 xs; omega) hk
  unfold indexR
  by_cases q : x ∈ xs
  · rw [if_pos q, if_pos ⟨s1, s2, by rw [any_in py h4, decide_eq_true q]⟩, find_in py h4]; exact rfl
  · rw [if_neg q]; exact trivial
end
/-- in a tuple of ints -/
theorem any_inT (x : Int) : ∀ xs : List Int, ((xs.map eI).any fun z => eqF z (eI x)) = decide (x ∈ xs)
  | [] => by simp
  | y :: ys => by
    rw [List.map_cons, List.any_cons, any_inT x ys]
    simp only [eqF, toPy, PyData.eqv]
    by_cases q : y = x
    · simp [q]
    · simp [q, Ne.symm q]
theorem inD_T (x : Int) (xs : List Int) : inD (eI x) (eT eI xs) = .ok (decide (x ∈ xs)) := by
  have f : (xs.map eI).all flatD = true := by rw [List.all_map]; exact List.all_eq_true.mpr fun _ _ => rfl
  simp only [inD, eT, flatD, f, and_self, if_true, any_inT]
theorem a_inT (x : Int) (xs : List Int) : (cmpD .isin (eI x) (eT eI xs)).map .bl = .ok (eB (decide (x ∈ xs))) := by simp only [cmpD, inD_T]; rfl
theorem a_notinT (x : Int) (xs : List Int) : (cmpD .notin (eI x) (eT eI xs)).map .bl = .ok (eB (!decide (x ∈ xs))) := by simp only [cmpD, inD_T]; rfl
/-! order -/
theorem a_lt (x y : Int) : (cmpD .lt (eI x) (eI y)).map .bl = .ok (eB (decide (x < y))) := rfl
theorem a_le (x y : Int) : (cmpD .le (eI x) (eI y)).map .bl = .ok (eB (decide (x ≤ y))) := rfl
theorem a_gt (x y : Int) : (cmpD .gt (eI x) (eI y)).map .bl = .ok (eB (decide (y < x))) := rfl
theorem a_ge (x y : Int) : (cmpD .ge (eI x) (eI y)).map .bl = .ok (eB (decide (y ≤ x))) := rfl
theorem c_lt (x y : Int) : cmpD .lt (eI x) (eI y) = .ok (decide (x < y)) := rfl
theorem c_le (x y : Int) : cmpD .le (eI x) (eI y) = .ok (decide (x ≤ y)) := rfl
theorem c_gt (x y : Int) : cmpD .gt (eI x) (eI y) = .ok (decide (y < x)) := rfl
theorem c_ge (x y : Int) : cmpD .ge (eI x) (eI y) = .ok (decide (y ≤ x)) := rfl
theorem a_ltT (x y : List Int) : (cmpD .lt (eT eI x) (eT eI y)).map .bl = .ok (eB (HT.lexLt x y)) := by simp only [cmpD, ordD, eT, intsOf_map, cmpT]; rfl
theorem a_leT (x y : List Int) : (cmpD .le (eT eI x) (eT eI y)).map .bl = .ok (eB (!HT.lexLt y x)) := by simp only [cmpD, ordD, eT, intsOf_map, cmpT]; rfl
theorem a_geT (x y : List Int) : (cmpD .ge (eT eI x) (eT eI y)).map .bl = .ok (eB (!HT.lexLt x y)) := by simp only [cmpD, ordD, eT, intsOf_map, cmpT]; rfl
/-- is None -/
theorem a_isN {e : α → D} (h : ∀ x, isD (e x) .non = .ok false) (x : Option α) : (cmpD .is (eO e x) .non).map .bl = .ok (eB x.isNone) := by
  cases x with
  | none => rfl
  | some x => simp only [cmpD, eO, h]; rfl
theorem a_isnN {e : α → D} (h : ∀ x, isD (e x) .non = .ok false) (x : Option α) : (cmpD .isnot (eO e x) .non).map .bl = .ok (eB x.isSome) := by
  cases x with
  | none => rfl
  | some x => simp only [cmpD, eO, h]; rfl
theorem n_I : ∀ x, isD (eI x) .non = .ok false := fun _ => rfl
theorem n_B : ∀ x, isD (eB x) .non = .ok false := fun _ => rfl
theorem n_L {e : α → D} : ∀ x, isD (eL e x) .non = .ok false := fun _ => rfl
theorem n_T {e : α → D} : ∀ x, isD (eT e x) .non = .ok false := fun _ => rfl
theorem n_P {e : α → D} {f : β → D} : ∀ x, isD (eP e f x) .non = .ok false := fun _ => rfl
/-! ### built-ins -/
theorem f_lenL {e : α → D} (xs : List α) : biD .len [eL e xs] = .ok (eI (xs.length : Nat)) := by simp only [biD, eL, List.length_map]
theorem f_lenT {e : α → D} (xs : List α) : biD .len [eT e xs] = .ok (eI (xs.length : Nat)) := by simp only [biD, eT, List.length_map]
theorem f_lenP {e : α → D} {f : β → D} (p : α × β) : biD .len [eP e f p] = .ok (eI 2) := rfl
theorem f_lenP3 {e : α → D} {f : β → D} {g : γ → D} (p : α × β × γ) : biD .len [eP3 e f g p] = .ok (eI 3) := rfl
theorem f_lenC (xs : List Int) : biD .len [eC xs] = .ok (eI (xs.length : Nat)) := rfl
theorem f_abs (x : Int) : biD .abs [eI x] = .ok (eI (if x < 0 then -x else x)) := rfl
theorem f_max2 (x y : Int) : biD .max [eI x, eI y] = .ok (eI (if y > x then y else x)) := rfl
theorem f_min2 (x y : Int) : biD .min [eI x, eI y] = .ok (eI (if y < x then y else x)) := rfl
def maxR (xs : List Int) : R Int := if xs ≠ [] then .ok (maxI xs) else .bad
def minR (xs : List Int) : R Int := if xs ≠ [] then .ok (minI xs) else .bad
theorem f_maxL (xs : List Int) : SE eI (biD .max [eL eI xs]) (maxR xs) := by
  simp only [biD, onInts, intsIn, eL, intsOf_map, maxR]
  split <;> first | exact rfl | exact trivial
theorem f_maxT (xs : List Int) : SE eI (biD .max [eT eI xs]) (maxR xs) := by
  simp only [biD, onInts, intsIn, eT, intsOf_map, maxR]
  split <;> first | exact rfl | exact trivial
theorem f_minL (xs : List Int) : SE eI (biD .min [eL eI xs]) (minR xs) := by
  simp only [biD, onInts, intsIn, eL, intsOf_map, minR]
  split <;> first | exact rfl | exact trivial
theorem f_minT (xs : List Int) : SE eI (biD .min [eT eI xs]) (minR xs) := by
  simp only [biD, onInts, intsIn, eT, intsOf_map, minR]
  split <;> first | exact rfl | exact trivial
theorem f_sumL (xs : List Int) : biD .sum [eL eI xs] = .ok (eI xs.sum) := by simp only [biD, onInts, intsIn, eL, intsOf_map]
def sortedR (xs : List Int) : R (List Int) := if xs.length < 64 then .ok (sortI xs) else .bad
theorem f_sortedL (xs : List Int) : SE (eL eI) (biD .sorted [eL eI xs]) (sortedR xs) := by
  simp only [biD, onInts, intsIn, eL, intsOf_map, sortedR]
  split <;> first | exact rfl | exact trivial
theorem f_allL (xs : List Bool) : biD .all [eL eB xs] = .ok (eB (xs.all id)) := by simp only [biD, eL, blsOf_map]
theorem f_anyL (xs : List Bool) : biD .any [eL eB xs] = .ok (eB (xs.any id)) := by simp only [biD, eL, blsOf_map]
theorem f_intI (x : Int) : biD .int [eI x] = .ok (eI x) := rfl
theorem f_intB (b : Bool) : biD .int [eB b] = .ok (eI (if b then 1 else 0)) := rfl
theorem f_listL {e : α → D} (xs : List α) : biD .list [eL e xs] = .ok (eL e xs) := rfl
theorem f_listT {e : α → D} (xs : List α) : biD .list [eT e xs] = .ok (eL e xs) := rfl
theorem f_tupleL {e : α → D} (xs : List α) : biD .tuple [eL e xs] = .ok (eT e xs) := rfl
theorem f_tupleT {e : α → D} (xs : List α) : biD .tuple [eT e xs] = .ok (eT e xs) := rfl
theorem f_count (xs : List Int) (x : Int) : mthD .count (eL eI xs) (eI x) = .ok (eI (xs.count x : Nat)) := by simp only [mthD, eL, intsOf_map]
/-- isinstance -/
def isiR (d : D) (t : String) : R Bool := match d with
  | .fn _ => .bad
  | d => match kitB (tyD d) t with
    | some b => .ok b
    | none => .bad
theorem f_isi (d : D) (t : String) : SE eB (isiD d t) (isiR d t) := by
  have key : SE eB (match kitB (tyD d) t with | some b => R.ok (D.bl b) | none => R.bad) (match kitB (tyD d) t with | some b => R.ok b | none => R.bad) := by
    cases kitB (tyD d) t <;> first | exact rfl | exact trivial
  cases d <;> first | exact trivial | exact key
theorem k_int_int : kitB "int" "int" = some true := by decide +kernel
theorem k_int_bool : kitB "int" "bool" = some false := by decide +kernel
theorem k_int_list : kitB "int" "list" = some false := by decide +kernel
theorem k_int_tuple : kitB "int" "tuple" = some false := by decide +kernel
theorem k_int_str : kitB "int" "str" = some false := by decide +kernel
theorem k_bool_int : kitB "bool" "int" = some true := by decide +kernel
theorem k_bool_bool : kitB "bool" "bool" = some true := by decide +kernel
theorem k_list_list : kitB "list" "list" = some true := by decide +kernel
theorem k_list_tuple : kitB "list" "tuple" = some false := by decide +kernel
theorem k_tuple_tuple : kitB "tuple" "tuple" = some true := by decide +kernel
theorem k_tuple_list : kitB "tuple" "list" = some false := by decide +kernel
theorem k_str_str : kitB "str" "str" = some true := by decide +kernel
theorem f_isiC {d : D} {t : String} {b : Bool} (h : kitB (tyD d) t = some b) (hf : ∀ x, d ≠ .fn x) : isiD d t = .ok (eB b) := by
  unfold isiD
  cases d <;> simp only [h] <;> exact absurd rfl (hf _)
/-! subscripts, slices, ranges, sets -/
def atR (xs : List α) (i : Int) : R α := match atI xs i with
  | some x => .ok x
  | none => .bad
theorem atI_map {e : α → D} (xs : List α) (i : Int) : atI (xs.map e) i = (atI xs i).map e := by
  unfold atI
  rw [List.length_map]
  cases ixN xs.length i with
  | none => rfl
  | some j => simp only [Option.bind_some, List.getElem?_map]
theorem f_atL {e : α → D} (xs : List α) (i : Int) : SE e (subD (eL e xs) (eI i)) (atR xs i) := by
  simp only [subD, atD, eL, atI_map, atR]
  cases atI xs i <;> first | exact rfl | exact trivial
theorem f_atT {e : α → D} (xs : List α) (i : Int) : SE e (subD (eT e xs) (eI i)) (atR xs i) := by
  simp only [subD, atD, eT, atI_map, atR]
  cases atI xs i <;> first | exact rfl | exact trivial
theorem f_atC (xs : List Int) (i : Int) : SE eI (subD (eC xs) (eI i)) (atR xs i) := by
  simp only [subD, atR]
  cases atI xs i <;> first | exact rfl | exact trivial
theorem f_at0 {e : α → D} {f : β → D} (p : α × β) : subD (eP e f p) (eI 0) = .ok (e p.1) := rfl
theorem f_at1 {e : α → D} {f : β → D} (p : α × β) : subD (eP e f p) (eI 1) = .ok (f p.2) := rfl
theorem f_at30 {e : α → D} {f : β → D} {g : γ → D} (p : α × β × γ) : subD (eP3 e f g p) (eI 0) = .ok (e p.1) := rfl
theorem f_at31 {e : α → D} {f : β → D} {g : γ → D} (p : α × β × γ) : subD (eP3 e f g p) (eI 1) = .ok (f p.2.1) := rfl
theorem f_at32 {e : α → D} {f : β → D} {g : γ → D} (p : α × β × γ) : subD (eP3 e f g p) (eI 2) = .ok (g p.2.2) := rfl
theorem cutL_map {e : α → D} (xs : List α) (lo hi : Option Int) : cutL (xs.map e) lo hi = (cutL xs lo hi).map e := by
  unfold cutL
  rw [List.length_map, ← List.map_drop, ← List.map_take]
theorem f_cutL {e : α → D} (xs : List α) (lo hi : Option Int) : slcD (eL e xs) lo hi = .ok (eL e (cutL xs lo hi)) := by simp only [slcD, eL, cutL_map]
theorem f_cutT {e : α → D} (xs : List α) (lo hi : Option Int) : slcD (eT e xs) lo hi = .ok (eT e (cutL xs lo hi)) := by simp only [slcD, eT, cutL_map]
theorem o_no (r : R D) : optI .no r = .ok none := rfl
theorem o_some {a : CE} {i : Int} {r : R D} (hn : isNo a = false) (h : r = .ok (eI i)) : optI a r = .ok (some i) := by
  unfold optI
  rw [hn, h]
  rfl
theorem SE.opt {a : CE} {r : R D} {t : R Int} (hn : isNo a = false) (h : SE eI r t) : SE some (optI a r) t := by
  unfold optI
  rw [hn]
  cases t with
  | ok i => rw [show r = .ok (eI i) from h]; exact rfl
  | exc c => rw [show r = .exc c from h]; exact rfl
  | bad => exact trivial
def rngR (m n : Int) : R (List Int) := if bnd m = true ∧ bnd n = true then .ok ((List.range (n - m).toNat).map fun (i : Nat) => m + (i : Int)) else .bad
def rng0R (n : Int) : R (List Int) := if bnd n = true then .ok (irng n) else .bad
theorem rngI_map (m n : Int) : rngI m n = ((List.range (n - m).toNat).map fun (i : Nat) => m + (i : Int)).map eI := by
  unfold rngI
  rw [List.map_map]
  rfl
theorem rng0_map (n : Int) : rngI 0 n = (irng n).map eI := by
  unfold rngI irng
  rw [List.map_map, show (n - 0).toNat = n.toNat by rw [Int.sub_zero]]
  refine List.map_congr_left fun i _ => ?_
  show D.int (0 + (i : Int)) = D.int (i : Int)
  rw [Int.zero_add]
theorem f_rng1 (n : Int) (z : D) : SE (fun xs => xs.map eI) (itemsD .rng1 (eI n) z) (rng0R n) := by
  simp only [itemsD, rng0R]
  split
  · exact congrArg R.ok (rng0_map n)
  · exact trivial
theorem f_rng2 (m n : Int) : SE (fun xs => xs.map eI) (itemsD .rng2 (eI m) (eI n)) (rngR m n) := by
  simp only [itemsD, rngR]
  split
  · exact congrArg R.ok (rngI_map m n)
  · exact trivial
theorem f_itL {e : α → D} (xs : List α) (z : D) : itemsD .seq (eL e xs) z = .ok (xs.map e) := rfl
theorem f_itT {e : α → D} (xs : List α) (z : D) : itemsD .seq (eT e xs) z = .ok (xs.map e) := rfl
theorem f_lrng (n : Int) : SE (eL eI) ((lrngD (eI n)).map .lst) (rng0R n) := by
  simp only [lrngD, rng0R]
  split
  · exact congrArg (fun z => R.ok (D.lst z)) (rng0_map n)
  · exact trivial
theorem f_trng (n : Int) : SE (eT eI) ((lrngD (eI n)).map .tup) (rng0R n) := by
  simp only [lrngD, rng0R]
  split
  · exact congrArg (fun z => R.ok (D.tup z)) (rng0_map n)
  · exact trivial
/-- items, raw -/
theorem f_itD (k : IK) (d z : D) : SE (fun xs => xs.map eD) (itemsD k d z) (itemsD k d z) := by
  cases itemsD k d z with
  | ok xs => exact congrArg R.ok (List.map_id xs).symm
  | exc c => exact rfl
  | bad => exact trivial
def ssetR (xs : List Int) : R (List Int) := if xs.length < 64 then .ok (sortI (dedup xs)) else .bad
def lsetR (xs : List Int) : R Int := if xs.length < 64 then .ok ((dedup xs).length : Nat) else .bad
/-- an int list is no list of tuples -/
theorem tupsIn_ints (xs : List Int) : tupsIn (eL eI xs) = none := by cases xs <;> rfl
theorem tupsIn_tup (d : List D) : tupsIn (.tup d) = none := rfl
theorem tupsOf_map : ∀ rows : List (List Int), tupsOf (rows.map (eT eI)) = some rows
  | [] => rfl
  | r :: rows => by rw [List.map_cons]; simp only [eT, tupsOf, intsOf_map, tupsOf_map rows]
theorem tupsIn_rows {r : List Int} {rows : List (List Int)} : tupsIn (eL (eT eI) (r :: rows)) = some (r :: rows) := by
  have := tupsOf_map (r :: rows)
  rw [List.map_cons] at this
  simp only [eL, List.map_cons, tupsIn]
  exact this
def ssetTR (rows : List (List Int)) : R (List (List Int)) := if rows.length < 64 ∧ okTs rows = true then .ok (sortT (dedup rows)) else .bad
def lsetTR (rows : List (List Int)) : R Int := if rows.length < 64 then .ok ((dedup rows).length : Nat) else .bad
theorem f_ssetLT (rows : List (List Int)) : SE (eL (eT eI)) (ssetD (eL (eT eI) rows)) (ssetTR rows) := by
  cases rows with
  | nil => exact rfl
  | cons r rows =>
    simp only [ssetD, tupsIn_rows, ssetTR]
    split
    · exact rfl
    · exact trivial
theorem f_lsetLT (rows : List (List Int)) : SE eI (lsetD (eL (eT eI) rows)) (lsetTR rows) := by
  cases rows with
  | nil => exact rfl
  | cons r rows =>
    simp only [lsetD, tupsIn_rows, lsetTR]
    split
    · exact rfl
    · exact trivial
theorem f_ssetL (xs : List Int) : SE (eL eI) (ssetD (eL eI xs)) (ssetR xs) := by
  simp only [ssetD, tupsIn_ints]
  simp only [onInts, intsIn, eL, intsOf_map, ssetR]
  split <;> first | exact rfl | exact trivial
theorem f_ssetT (xs : List Int) : SE (eL eI) (ssetD (eT eI xs)) (ssetR xs) := by
  simp only [ssetD, eT, tupsIn_tup]
  simp only [onInts, intsIn, intsOf_map, ssetR]
  split <;> first | exact rfl | exact trivial
theorem f_lsetL (xs : List Int) : SE eI (lsetD (eL eI xs)) (lsetR xs) := by
  simp only [lsetD, tupsIn_ints]
  simp only [onInts, intsIn, eL, intsOf_map, lsetR]
  split <;> first | exact rfl | exact trivial
theorem f_lsetT (xs : List Int) : SE eI (lsetD (eT eI xs)) (lsetR xs) := by
  simp only [lsetD, eT, tupsIn_tup]
  simp only [onInts, intsIn, intsOf_map, lsetR]
  split <;> first | exact rfl | exact trivial
/-! zip, told as pairs of ints, or of things -/
def zipL (xs ys : List Int) : List (List Int) := (xs.zip ys).map fun p => [p.1, p.2]
def lzipIR (xs ys : List Int) : R (List (List Int)) := if xs.length ≤ 1000000 then .ok (zipL xs ys) else .bad
def lzipR (xs : List α) (ys : List β) : R (List (α × β)) := if xs.length ≤ 1000000 then .ok (xs.zip ys) else .bad
theorem zipD_map {e : α → D} {f : β → D} : ∀ (xs : List α) (ys : List β), zipD (xs.map e) (ys.map f) = (xs.zip ys).map (eP e f)
  | [], _ => by cases ‹List β› <;> rfl
  | _ :: _, [] => rfl
  | x :: xs, y :: ys => by simp only [List.map_cons, zipD, List.zip_cons_cons, zipD_map xs ys]
theorem f_zip {e : α → D} {f : β → D} {d g : D} (xs : List α) (ys : List β) (h1 : seqOf d = some (xs.map e)) (h2 : seqOf g = some (ys.map f)) : itemsD .zip d g = .ok ((xs.zip ys).map (eP e f)) := by
  simp only [itemsD, h1, h2, zipD_map]
def zipDR (d g : D) : R (List (D × D)) := match seqOf d, seqOf g with
  | some xs, some ys => .ok (xs.zip ys)
  | _, _ => .bad
theorem f_zipD (d g : D) : SE (fun xs => xs.map (eP eD eD)) (itemsD .zip d g) (zipDR d g) := by
  cases h1 : seqOf d with
  | none => simp only [zipDR, h1]; exact trivial
  | some xs =>
    cases h2 : seqOf g with
    | none => simp only [zipDR, h1, h2]; exact trivial
    | some ys =>
      have e1 : xs.map eD = xs := List.map_id' xs
      have e2 : ys.map eD = ys := List.map_id' ys
      rw [f_zip (e := eD) (f := eD) xs ys (by rw [h1, e1]) (by rw [h2, e2])]
      simp only [zipDR, h1, h2]
      exact rfl
def enT {α : Type} : Nat → List α → List (Int × α)
  | _, [] => []
  | k, x :: xs => ((k : Int), x) :: enT (k + 1) xs
theorem enmD_map {e : α → D} : ∀ (k : Nat) (xs : List α), enmD k (xs.map e) = (enT k xs).map (eP eI e)
  | _, [] => rfl
  | k, x :: xs => by simp only [List.map_cons, enmD, enT, enmD_map (k + 1) xs, eP, eI]
theorem f_enm {e : α → D} (xs : List α) (z : D) : itemsD .enm (eL e xs) z = .ok ((enT 0 xs).map (eP eI e)) := by
  rw [← enmD_map]
  rfl
def srtR (rows : List (List Int)) : R (List (List Int)) := if rows.length < 64 ∧ okTs rows = true ∧ dedup rows = rows ∧ rows ≠ [] then .ok (sortT rows) else .bad
theorem f_srt (rows : List (List Int)) : SE (eL (eT eI)) (srtD (eL (eT eI) rows)) (srtR rows) := by
  cases rows with
  | nil => exact trivial
  | cons r rs =>
    simp only [srtD, tupsIn_rows, srtR]
    by_cases h : (r :: rs).length < 64 ∧ okTs (r :: rs) = true ∧ dedup (r :: rs) = r :: rs
    · rw [if_pos h, if_pos ⟨h.1, h.2.1, h.2.2, fun z => nomatch z⟩]
      exact rfl
    · have h2 : ¬((r :: rs).length < 64 ∧ okTs (r :: rs) = true ∧ dedup (r :: rs) = r :: rs ∧ (r :: rs) ≠ []) := fun z => h ⟨z.1, z.2.1, z.2.2.1⟩
      rw [if_neg h2]
      exact trivial
theorem f_lzip {e : α → D} {f : β → D} {d g : D} (xs : List α) (ys : List β) (h1 : seqOf d = some (xs.map e)) (h2 : seqOf g = some (ys.map f)) : SE (eL (eP e f)) (lzipD d g) (lzipR xs ys) := by
  simp only [lzipD, h1, h2, List.length_map, lzipR, zipD_map]
  split
  · exact rfl
  · exact trivial
theorem f_lzipI {d g : D} (xs ys : List Int) (h1 : seqOf d = some (xs.map eI)) (h2 : seqOf g = some (ys.map eI)) : SE (eL (eT eI)) (lzipD d g) (lzipIR xs ys) := by
  simp only [lzipD, h1, h2, List.length_map, lzipIR, zipD_map]
  split
  · refine congrArg (fun z => R.ok (D.lst z)) ?_
    simp only [zipL, List.map_map]
    rfl
  · exact trivial
theorem f_revL {e : α → D} (xs : List α) : revD (eL e xs) = .ok (eL e xs.reverse) := by simp only [revD, eL, List.map_reverse]
/-- what may be None, taken as a thing -/
def unO (x : Option α) : R α := match x with
  | some y => .ok y
  | none => .bad
theorem SE.un {e : α → D} {r : R D} {x : Option α} (h : r = .ok (eO e x)) : SE e r (unO x) := by
  cases x with
  | some y => exact h
  | none => exact trivial
end
end Lk
end Part_LkP3
section Part_LkP4
set_option Elab.async false
set_option linter.all false
set_option maxRecDepth 100000
set_option maxHeartbeats 4000000
namespace Lk
open PySem PySem.Spec PyProof.Rows L2
section
variable {α β γ δ σ : Type} {Φ : Str → List D → R D} {C : Str → Option D} {ρ : Env}
theorem pb {r : R δ} {x : δ} {K : δ → R γ} {z : γ} (h : r = .ok x) (k : K x = .ok z) : r.bind K = .ok z := by rw [h]; exact k
theorem pif {b : Bool} {r r' : R γ} {z : γ} (h : b = true) (k : r = .ok z) : (if b = true then r else r') = .ok z := by rw [if_pos h]; exact k
theorem sif {b : Bool} {r r' : R γ} {e : β → γ} {t : R β} (h : b = true) (k : SE e r t) : SE e (if b = true then r else r') t := by rw [if_pos h]; exact k
theorem SE.self {r : R δ} : SE (fun x : δ => x) r r := by cases r <;> first | exact rfl | exact trivial
theorem pl_nil {K : List D → R γ} {z : γ} (h : K [] = .ok z) : (evL Φ C .nil ρ).bind K = .ok z := by rw [evL]; exact h
theorem pl_p {a : CE} {r : CL} {K : List D → R γ} {d : D} {z : γ} (h : evE Φ C a ρ = .ok d) (k : ((evL Φ C r ρ).bind fun ds => K (d :: ds)) = .ok z) : (evL Φ C (.cons a r) ρ).bind K = .ok z := by
  rw [evL, h]
  simp only [R.bind_ok, R.bind_assoc]
  exact k
theorem pbl_nil {K : List D → R γ} {z : γ} (h : K [] = .ok z) : (evLB Φ C .nil ρ).bind K = .ok z := by rw [evLB]; exact h
theorem pbl_p {a : CE} {r : CL} {K : List D → R γ} {d : D} {z : γ} (h : brw a ρ (evE Φ C a ρ) = .ok d) (k : ((evLB Φ C r ρ).bind fun ds => K (d :: ds)) = .ok z) : (evLB Φ C (.cons a r) ρ).bind K = .ok z := by
  rw [evLB, h]
  simp only [R.bind_ok, R.bind_assoc]
  exact k
theorem p_and {a b : CE} {p q : Bool} (h : evE Φ C a ρ = .ok (eB p)) (k : evE Φ C b ρ = .ok (eB q)) : evE Φ C (.and a b) ρ = .ok (eB (p && q)) := by
  rw [q_and, h]
  cases p
  · rfl
  · exact k
theorem p_or {a b : CE} {p q : Bool} (h : evE Φ C a ρ = .ok (eB p)) (k : evE Φ C b ρ = .ok (eB q)) : evE Φ C (.or a b) ρ = .ok (eB (p || q)) := by
  rw [q_or, h]
  cases p
  · exact k
  · rfl
theorem p_ite {c a b : CE} {p : Bool} {e : α → D} {x y : α} (h : evE Φ C c ρ = .ok (eB p)) (k : evE Φ C a ρ = .ok (e x)) (l : evE Φ C b ρ = .ok (e y)) : evE Φ C (.ite c a b) ρ = .ok (e (if p = true then x else y)) := by
  rw [q_ite, h]
  cases p
  · exact l
  · exact k
theorem p_chn {o p : Cop} {a b c : CE} {x y z : D} {t u : Bool} (h1 : brw a ρ (evE Φ C a ρ) = .ok x) (h2 : brw b ρ (evE Φ C b ρ) = .ok y) (h3 : cmpD o x y = .ok t) (h4 : brw c ρ (evE Φ C c ρ) = .ok z) (h5 : cmpD p y z = .ok u) : evE Φ C (.chn o p a b c) ρ = .ok (eB (t && u)) := by
  rw [q_chn, h1]
  simp only [R.bind_ok]
  rw [h2]
  simp only [R.bind_ok]
  rw [h3]
  cases t
  · rfl
  · simp only [R.bind_ok, if_true]
    rw [h4]
    simp only [R.bind_ok]
    rw [h5]
    rfl
theorem lst_D (e : α → D) (xs : List α) : R.ok (eL e xs) = R.ok (eL eD (xs.map e)) := by
  simp only [eL, List.map_map]
  rfl
theorem lst_O1 (e : α → D) (xs : List α) : eL e xs = eL (eO e) (xs.map some) := by
  simp only [eL, List.map_map]
  rfl
theorem lst_O (e : α → D) (xs : List α) : R.ok (eL e xs) = R.ok (eL (eO e) (xs.map some)) := congrArg R.ok (lst_O1 e xs)
/-- a slot that may not be set yet -/
def slO (e : α → D) : Option α → Slot
  | none => .no
  | some x => .sh (e x)
theorem SE.op {e : α → D} {i : Nat} {x : Option α} (h : ρ[i]? = some (slO e x)) : SE e (evE Φ C (.var i) ρ) (unO x) := by
  cases x with
  | none => exact trivial
  | some y => exact q_var h
theorem SE.opB {e : α → D} {i : Nat} {x : Option α} {r : R D} (h : ρ[i]? = some (slO e x)) : SE e (Lk.brw (.var i) ρ r) (unO x) := by
  cases x with
  | none => exact trivial
  | some y => exact v_sh h
/-- a call of one of several defs -/
def dspF (g : Str) : List (Str × R D) → R D
  | [] => .bad
  | (f, t) :: r => if g = f then t else dspF g r
def dsp (x : D) (l : List (Str × R D)) : R D := match x with
  | .fn g => dspF g l
  | _ => .bad
theorem s_calv {i : Nat} {fl : List Str} {es : CL} {x : D} {ds : List D} {l : List (Str × R D)} (hx : ρ[i]? = some (.sh x)) (ha : evL Φ C es ρ = .ok ds) (hl : ∀ p ∈ l, p.1 ∈ fl ∧ SE eD (Φ p.1 ds) p.2) : SE eD (evE Φ C (.calv i fl es) ρ) (dsp x l) := by
  cases x with
  | fn g =>
    show SE eD _ (dspF g l)
    have key : ∀ l : List (Str × R D), (∀ p ∈ l, p.1 ∈ fl ∧ SE eD (Φ p.1 ds) p.2) → SE eD (evE Φ C (.calv i fl es) ρ) (dspF g l) := by
      intro l
      induction l with
      | nil => intro _; exact trivial
      | cons p l ih =>
        intro h
        obtain ⟨f, t⟩ := p
        unfold dspF
        split
        · rename_i e
          subst e
          obtain ⟨h1, h2⟩ := h _ List.mem_cons_self
          rw [q_calv hx h1, ha]
          exact h2
        · exact ih fun q hq => h q (List.mem_cons_of_mem _ hq)
    exact key l hl
  | _ => exact trivial
theorem al_nil : evL Φ C .nil ρ = .ok [] := by rw [evL]
theorem al_cons {a : CE} {r : CL} {d : D} {ds : List D} (h : evE Φ C a ρ = .ok d) (k : evL Φ C r ρ = .ok ds) : evL Φ C (.cons a r) ρ = .ok (d :: ds) := by rw [evL, h, k]; rfl
theorem ad_nil {P : Str × R D → Prop} : ∀ p ∈ ([] : List (Str × R D)), P p := fun p hp => nomatch hp
theorem ad_cons {P : Str × R D → Prop} {q : Str × R D} {l : List (Str × R D)} (h : P q) (k : ∀ p ∈ l, P p) : ∀ p ∈ q :: l, P p := fun p hp => (List.mem_cons.mp hp).elim (fun e => e ▸ h) (k p)
/-- a def's run -/
theorem run_SE {cd : CD} {ds : List D} {z : R α} {ρ0 : Env} {e : α → D} {E : σ → Env} {t : OT σ α} (hl : ds.length = cd.ps.length) (h0 : startE cd.nm.length ds = ρ0) (h : SO E e (exB Φ C cd.body ρ0) t) (hz : SE e (.ok .non) z) : SE e (runD Φ C cd ds) (t.toR z) := by
  unfold runD
  rw [if_pos hl, h0]
  cases t with
  | nx s => rw [show _ = Out.nx (E s) from h]; exact hz
  | rt a => rw [show _ = Out.rt (e a) from h]; exact rfl
  | xc c =>
    obtain ⟨ρ, q⟩ := (show ∃ ρ, _ = Out.xc c ρ from h)
    rw [q]
    exact rfl
  | bad => exact trivial
end
end Lk
end Part_LkP4
section Part_LkP5
set_option Elab.async false
set_option linter.all false
set_option maxRecDepth 100000
set_option maxHeartbeats 4000000
/-! loops, typed -/
namespace Lk
open PySem PySem.Spec PyProof.Rows L2
section
variable {α β γ δ σ τ : Type}
theorem R.bindOf {r : R δ} {x : δ} {k : δ → R γ} (h : r = .ok x) : r.bind k = k x := by rw [h]; rfl
theorem R.toOf {r : R δ} {x : δ} {k : δ → OT σ α} (h : r = .ok x) : r.toO k = k x := by rw [h]; rfl
theorem OT.thenOf {t : OT σ α} {s : σ} {k : σ → OT τ α} (h : t = .nx s) : t.andThen k = k s := by rw [h]; rfl
theorem forT_nx {f : δ → σ → OT σ α} (P : List δ → σ → Prop) : ∀ {xs : List δ} {s : σ}, P xs s → (∀ x r s, P (x :: r) s → ∃ s', f x s = .nx s' ∧ P r s') → ∃ s', forT f xs s = .nx s' ∧ P [] s'
  | [], s, h, _ => ⟨s, rfl, h⟩
  | x :: xs, s, h, step => by
    obtain ⟨s1, e1, p1⟩ := step x xs s h
    obtain ⟨s2, e2, p2⟩ := forT_nx P p1 step
    exact ⟨s2, by rw [forT_cons, e1]; exact e2, p2⟩
/-- a turn that keeps an invariant whatever it is at -/
theorem forT_all {f : δ → σ → OT σ α} (P : σ → Prop) {xs : List δ} {s : σ} (h : P s) (step : ∀ x ∈ xs, ∀ s, P s → ∃ s', f x s = .nx s' ∧ P s') : ∃ s', forT f xs s = .nx s' ∧ P s' := by
  obtain ⟨s', e, p⟩ := forT_nx (f := f) (fun r s => (∀ x ∈ r, x ∈ xs) ∧ P s) (xs := xs) (s := s) ⟨fun _ q => q, h⟩ fun x r s ⟨q, p⟩ => by
    obtain ⟨s', e, p'⟩ := step x (q x List.mem_cons_self) s p
    exact ⟨s', e, fun y hy => q y (List.mem_cons_of_mem _ hy), p'⟩
  exact ⟨s', e, p.2⟩
/-- turns that leave nothing -/
theorem forT_unit {f : δ → Unit → OT Unit α} {xs : List δ} (step : ∀ x ∈ xs, f x () = .nx ()) : forT f xs () = .nx () := by
  obtain ⟨s', e, _⟩ := forT_all (f := f) (xs := xs) (fun _ => True) (s := ()) trivial fun x hx s _ => ⟨(), step x hx, trivial⟩
  exact e
theorem forT_fold {f : δ → σ → OT σ α} {g : σ → δ → σ} : ∀ {xs : List δ} {s : σ}, (∀ x ∈ xs, ∀ s, f x s = .nx (g s x)) → forT f xs s = .nx (xs.foldl g s)
  | [], s, _ => rfl
  | x :: xs, s, h => by
    rw [forT_cons, h x List.mem_cons_self, OT.andThen_nx, List.foldl_cons]
    exact forT_fold fun y hy s => h y (List.mem_cons_of_mem _ hy) s
theorem irng_nat (n : Nat) : irng (n : Int) = (List.range' 0 n).map fun (i : Nat) => (i : Int) := by
  unfold irng
  rw [Int.toNat_natCast, List.range_eq_range']
theorem forT_from {f : Int → σ → OT σ α} {n : Nat} (P : Nat → σ → Prop) (step : ∀ i s, i < n → P i s → ∃ s', f (i : Int) s = .nx s' ∧ P (i + 1) s') : ∀ (k i : Nat) (s : σ), i + k = n → P i s → ∃ s', forT f ((List.range' i k).map fun (i : Nat) => (i : Int)) s = .nx s' ∧ P n s'
  | 0, i, s, e, h => ⟨s, rfl, by rw [← e]; exact h⟩
  | k + 1, i, s, e, h => by
    obtain ⟨s1, e1, p1⟩ := step i s (by omega) h
    obtain ⟨s2, e2, p2⟩ := forT_from P step k (i + 1) s1 (by omega) p1
    refine ⟨s2, ?_, p2⟩
    rw [List.range'_succ, List.map_cons, forT_cons, e1]
    exact e2
theorem forT_rng {f : Int → σ → OT σ α} {n : Nat} {s : σ} (P : Nat → σ → Prop) (h0 : P 0 s) (step : ∀ i s, i < n → P i s → ∃ s', f (i : Int) s = .nx s' ∧ P (i + 1) s') : ∃ s', forT f (irng n) s = .nx s' ∧ P n s' := by
  rw [irng_nat]
  exact forT_from P step n 0 s (by omega) h0
theorem whlT_go {c : σ → R Bool} {f : σ → OT σ α} {k : Nat} (P : Nat → σ → Prop) (step : ∀ i s, i < k → P i s → c s = .ok true ∧ ∃ s', f s = .nx s' ∧ P (i + 1) s') (stop : ∀ s, P k s → c s = .ok false) : ∀ (j i : Nat) (s : σ) (m : Nat), i + j = k → j < m → P i s → ∃ s', whlT c f m s = .nx s' ∧ P k s'
  | _, _, _, 0, _, hm, _ => absurd hm (Nat.not_lt_zero _)
  | 0, i, s, m + 1, e, hm, h => by
    have e' : i = k := by omega
    subst e'
    refine ⟨s, ?_, h⟩
    rw [whlT_succ, stop s h]
    rfl
  | j + 1, i, s, m + 1, e, hm, h => by
    obtain ⟨h1, s1, e1, p1⟩ := step i s (by omega) h
    obtain ⟨s2, e2, p2⟩ := whlT_go P step stop j (i + 1) s1 m (by omega) (by omega) p1
    refine ⟨s2, ?_, p2⟩
    rw [whlT_succ, h1]
    simp only [R.toO_ok, if_true, e1, OT.andThen_nx, e2]
theorem whlT_steps {c : σ → R Bool} {f : σ → OT σ α} {s : σ} (k : Nat) (P : Nat → σ → Prop) (h0 : P 0 s) (step : ∀ i s, i < k → P i s → c s = .ok true ∧ ∃ s', f s = .nx s' ∧ P (i + 1) s') (stop : ∀ s, P k s → c s = .ok false) (hk : k < fuel) : ∃ s', whlT c f fuel s = .nx s' ∧ P k s' :=
  whlT_go P step stop k 0 s fuel (by omega) hk h0
theorem ex_then {t : OT σ α} {g : σ → OT τ α} {P : σ → Prop} {Q : τ → Prop} (h : ∃ s, t = .nx s ∧ P s) (k : ∀ s, P s → ∃ s', g s = .nx s' ∧ Q s') : ∃ s', t.andThen g = .nx s' ∧ Q s' := by
  obtain ⟨s, rfl, p⟩ := h
  exact k s p
theorem toR_then {t : OT σ α} {g : σ → OT τ α} {P : σ → Prop} {z r : R α} (h : ∃ s, t = .nx s ∧ P s) (k : ∀ s, P s → (g s).toR z = r) : (t.andThen g).toR z = r := by
  obtain ⟨s, rfl, p⟩ := h
  exact k s p
theorem ex_to {x : R δ} {v : δ} {g : δ → OT τ α} {Q : τ → Prop} (h : x = .ok v) (k : ∃ s', g v = .nx s' ∧ Q s') : ∃ s', x.toO g = .nx s' ∧ Q s' := by
  rw [h]
  exact k
theorem toR_to {x : R δ} {v : δ} {g : δ → OT τ α} {z r : R α} (h : x = .ok v) (k : (g v).toR z = r) : (x.toO g).toR z = r := by
  rw [h]
  exact k
/-- `if bad: return False`, not bad -/
theorem nx_if {x : R Bool} {t : OT Unit α} {g : Unit → OT τ α} {u : OT τ α} (h : x = .ok false) (k : g () = u) : (x.toO fun b => (if b = true then t else .nx ()).andThen g) = u := by
  rw [h]
  exact k
end
end Lk
end Part_LkP5
section Part_LkO
set_option Elab.async false
set_option linter.all false
set_option maxRecDepth 100000
set_option maxHeartbeats 4000000
/-! orders by their signs -/
namespace Lk
open PySem PySem.Spec PyProof.Rows L2
/-! ### tidied rows -/
theorem idx_lt : ∀ {l : List Int} {x : Int}, l.Pairwise (· < ·) → x ∈ l → l.idxOf x = (l.filter fun y => decide (y < x)).length
  | [], _, _, h => nomatch h
  | y :: l, x, hp, hx => by
    have hp' := List.pairwise_cons.mp hp
    rw [List.idxOf_cons, List.filter_cons]
    by_cases e : y = x
    · subst e
      have z : (l.filter fun z => decide (z < y)) = [] := List.filter_eq_nil_iff.mpr fun z hz => by have := hp'.1 z hz; simp; omega
      simp [z]
    · have hx' : x ∈ l := (List.mem_cons.mp hx).resolve_left (Ne.symm e)
      have lt := hp'.1 x hx'
      rw [show (y == x) = false from beq_eq_false_iff_ne.mpr e, decide_eq_true lt, idx_lt hp'.2 hx']
      simp
theorem idx_rank {row : List Int} {x : Int} (hx : x ∈ row) : ((sortI (dedup row)).idxOf x : Int) = rankI row x := by
  rw [idx_lt (sortI_lt (nodup_dedup row)) (mem_sortI.mpr (mem_dedup.mpr hx))]
  unfold rankI
  congr 1
  refine nodup_len_eq ((((sortI_lt (nodup_dedup row)).imp fun h => Int.ne_of_lt h) : (sortI (dedup row)).Nodup).filter _) (nodup_dedup _) fun y => ?_
  rw [List.mem_filter, mem_sortI, mem_dedup, mem_dedup, List.mem_filter]
theorem rank_lt {row : List Int} {x y : Int} (hx : x ∈ row) (h : x < y) : rankI row x < rankI row y := by
  unfold rankI
  have sub : ∀ z ∈ x :: dedup (row.filter fun z => decide (z < x)), z ∈ dedup (row.filter fun z => decide (z < y)) := fun z hz => by
    rw [mem_dedup, List.mem_filter, decide_eq_true_eq]
    rcases List.mem_cons.mp hz with e | e
    · rw [e]; exact ⟨hx, h⟩
    · rw [mem_dedup, List.mem_filter, decide_eq_true_eq] at e
      exact ⟨e.1, by omega⟩
  have nd : (x :: dedup (row.filter fun z => decide (z < x))).Nodup := List.nodup_cons.mpr ⟨fun h => by rw [mem_dedup, List.mem_filter, decide_eq_true_eq] at h; omega, nodup_dedup _⟩
  have := nodup_len nd sub
  rw [List.length_cons] at this
  omega
def denI (row : List Int) : List Int := row.map (rankI row)
theorem den_len (row : List Int) : (denI row).length = row.length := List.length_map ..
theorem getD_map {f : Int → Int} {l : List Int} {i : Nat} (h : i < l.length) : (l.map f).getD i 0 = f (l.getD i 0) := by
  rw [List.getD_eq_getElem?_getD, List.getD_eq_getElem?_getD, List.getElem?_map, List.getElem?_eq_getElem h]
  rfl
theorem getD_mem {l : List Int} {i : Nat} (h : i < l.length) : l.getD i 0 ∈ l := by
  rw [List.getD_eq_getElem?_getD, List.getElem?_eq_getElem h]
  exact List.getElem_mem h
theorem sgn_self (x : Int) : sgn x x = 0 := by unfold sgn; simp
theorem sgn_lt {x y : Int} (h : x < y) : sgn x y = -1 := by unfold sgn; rw [if_neg (by omega), if_pos h]; rfl
theorem sgn_gt {x y : Int} (h : y < x) : sgn x y = 1 := by unfold sgn; rw [if_pos h, if_neg (by omega)]; rfl
theorem sgn_3 (x y : Int) : (x < y ∧ sgn x y = -1) ∨ (x = y ∧ sgn x y = 0) ∨ (y < x ∧ sgn x y = 1) := by
  rcases Int.lt_trichotomy x y with h | h | h
  · exact .inl ⟨h, sgn_lt h⟩
  · exact .inr (.inl ⟨h, by rw [h, sgn_self]⟩)
  · exact .inr (.inr ⟨h, sgn_gt h⟩)
theorem sgn_sw (x y : Int) : sgn y x = - sgn x y := by
  rcases sgn_3 x y with ⟨h, e⟩ | ⟨h, e⟩ | ⟨h, e⟩
  · rw [e, sgn_gt h]; rfl
  · rw [e, h, sgn_self]; rfl
  · rw [e, sgn_lt h]
theorem sgA_sw (o : List Int) (i j : Nat) : sgA o j i = - sgA o i j := sgn_sw _ _
theorem sgA_self (o : List Int) (i : Nat) : sgA o i i = 0 := sgn_self _
theorem sgA_3 (o : List Int) (i j : Nat) : sgA o i j = -1 ∨ sgA o i j = 0 ∨ sgA o i j = 1 := by
  rcases sgn_3 (o.getD i 0) (o.getD j 0) with ⟨_, e⟩ | ⟨_, e⟩ | ⟨_, e⟩
  · exact .inl e
  · exact .inr (.inl e)
  · exact .inr (.inr e)
theorem den_sg {row : List Int} {i j : Nat} (hi : i < row.length) (hj : j < row.length) : sgA (denI row) i j = sgA row i j := by
  unfold sgA denI
  rw [getD_map hi, getD_map hj]
  rcases sgn_3 (row.getD i 0) (row.getD j 0) with ⟨h, e⟩ | ⟨h, e⟩ | ⟨h, e⟩
  · rw [e, sgn_lt (rank_lt (getD_mem hi) h)]
  · rw [e, h, sgn_self]
  · rw [e, sgn_gt (rank_lt (getD_mem hj) h)]
/-- signs tell orders -/
theorem sg_ext {o p : List Int} (ho : Ordr o) (hp : Ordr p) (hl : o.length = p.length) (h : ∀ i j, i < o.length → j < o.length → sgA o i j = sgA p i j) : o = p :=
  signs_tell ho hp hl fun a b hab hb => h a b (by omega) hb
/-! ### finer -/
/-- x says whatever y says -/
def Fin (n : Nat) (x y : List Int) : Prop := ∀ i j, i < n → j < n → sgA y i j = 0 ∨ sgA y i j = sgA x i j
theorem Fin.refl (n : Nat) (x : List Int) : Fin n x x := fun i j _ _ => .inr rfl
theorem Fin.trans {n : Nat} {x y z : List Int} (h : Fin n x y) (k : Fin n y z) : Fin n x z := fun i j hi hj => by
  rcases k i j hi hj with e | e
  · exact .inl e
  · rcases h i j hi hj with q | q
    · exact .inl (e.trans q)
    · exact .inr (e.trans q)
theorem Fin.anti {o p : List Int} (ho : Ordr o) (hp : Ordr p) (hl : o.length = p.length) (h : Fin o.length o p) (k : Fin o.length p o) : o = p := by
  refine sg_ext ho hp hl fun i j hi hj => ?_
  rcases h i j hi hj with e | e
  · rcases k i j hi hj with q | q
    · rw [e, q]
    · exact q
  · exact e.symm
theorem fin_pairs {n : Nat} {x y : List Int} (h : ∀ i j, i < j → j < n → sgA y i j = 0 ∨ sgA y i j = sgA x i j) : Fin n x y := fun i j hi hj => by
  rcases Nat.lt_trichotomy i j with q | q | q
  · exact h i j q hj
  · subst q; exact .inl (sgA_self _ _)
  · rcases h j i q hi with e | e
    · left; rw [sgA_sw, e]; rfl
    · right; rw [sgA_sw, e, ← sgA_sw]
theorem Fin.den {n : Nat} {x row : List Int} (hl : row.length = n) : Fin n x row ↔ Fin n x (denI row) := by
  constructor
  · intro h i j hi hj
    rw [den_sg (by omega) (by omega)]
    exact h i j hi hj
  · intro h i j hi hj
    have := h i j hi hj
    rwa [den_sg (by omega) (by omega)] at this
theorem Fin.den' {n : Nat} {x row : List Int} (hl : row.length = n) : Fin n row x ↔ Fin n (denI row) x := by
  constructor
  · intro h i j hi hj
    rw [den_sg (by omega) (by omega)]
    exact h i j hi hj
  · intro h i j hi hj
    have := h i j hi hj
    rwa [den_sg (by omega) (by omega)] at this
/-! ### put behind -/
def cdI (a b : List Int) : List Int := (a.zip b).map fun p => p.1 * 8 + p.2
def behI (a b : List Int) : List Int := denI (cdI a b)
theorem cd_len {a b : List Int} (h : a.length = b.length) : (cdI a b).length = a.length := by unfold cdI; rw [List.length_map, List.length_zip, h, Nat.min_self]
theorem cd_at {a b : List Int} (h : a.length = b.length) {i : Nat} (hi : i < a.length) : (cdI a b).getD i 0 = a.getD i 0 * 8 + b.getD i 0 := by
  unfold cdI
  rw [List.getD_eq_getElem?_getD, List.getD_eq_getElem?_getD, List.getD_eq_getElem?_getD, List.getElem?_map, List.getElem?_eq_getElem (show i < (a.zip b).length by rw [List.length_zip]; omega), List.getElem_zip, List.getElem?_eq_getElem hi, List.getElem?_eq_getElem (show i < b.length by omega)]
  rfl
/-- the one, likes by the other -/
def lex2 (s t : Int) : Int := if s = 0 then t else s
theorem beh_sg {a b : List Int} (ha : Ordr a) (hb : Ordr b) (hl : a.length = b.length) {i j : Nat} (hi : i < a.length) (hj : j < a.length) : sgA (behI a b) i j = lex2 (sgA a i j) (sgA b i j) := by
  unfold behI
  rw [den_sg (by rw [cd_len hl]; exact hi) (by rw [cd_len hl]; exact hj)]
  unfold sgA
  rw [cd_at hl hi, cd_at hl hj]
  have bi := hb.lt (getD_mem (show i < b.length by omega))
  have bj := hb.lt (getD_mem (show j < b.length by omega))
  have bi0 := hb.nn _ (getD_mem (show i < b.length by omega))
  have bj0 := hb.nn _ (getD_mem (show j < b.length by omega))
  have b6 := hb.hi
  generalize a.getD i 0 = x at *
  generalize a.getD j 0 = y at *
  generalize b.getD i 0 = u at *
  generalize b.getD j 0 = v at *
  rcases sgn_3 x y with ⟨h, e⟩ | ⟨h, e⟩ | ⟨h, e⟩
  · rw [e, sgn_lt (by omega)]; rfl
  · rw [e, h]
    show sgn (y * 8 + u) (y * 8 + v) = sgn u v
    rcases sgn_3 u v with ⟨k, f⟩ | ⟨k, f⟩ | ⟨k, f⟩
    · rw [f, sgn_lt (by omega)]
    · rw [f, k, sgn_self]
    · rw [f, sgn_gt (by omega)]
  · rw [e, sgn_gt (by omega)]; rfl
theorem beh_ordr {a b : List Int} (ha : Ordr a) (hl : a.length = b.length) : Ordr (behI a b) := dense_ordr (by rw [cd_len hl]; exact ha.lo) (by rw [cd_len hl]; exact ha.hi)
theorem beh_len {a b : List Int} (hl : a.length = b.length) : (behI a b).length = a.length := (den_len _).trans (cd_len hl)
/-! ### coarsened -/
def mrg (lo hi r : Int) : Int := if (decide (lo ≤ r) && decide (r ≤ hi)) = true then lo else r
theorem mrg_cases (lo hi r : Int) : (lo ≤ r ∧ r ≤ hi ∧ mrg lo hi r = lo) ∨ ((r < lo ∨ hi < r) ∧ mrg lo hi r = r) := by
  unfold mrg
  by_cases h : lo ≤ r ∧ r ≤ hi
  · left; refine ⟨h.1, h.2, ?_⟩; rw [decide_eq_true h.1, decide_eq_true h.2]; rfl
  · right
    refine ⟨by omega, ?_⟩
    rw [if_neg]
    simp only [Bool.and_eq_true, decide_eq_true_eq]
    exact h
theorem mrg_sg {lo hi x y : Int} (hlh : lo ≤ hi) : sgn (mrg lo hi x) (mrg lo hi y) = 0 ∨ sgn (mrg lo hi x) (mrg lo hi y) = sgn x y := by
  rcases mrg_cases lo hi x with ⟨a1, a2, a3⟩ | ⟨a1, a3⟩ <;> rcases mrg_cases lo hi y with ⟨b1, b2, b3⟩ | ⟨b1, b3⟩ <;> rw [a3, b3]
  · exact .inl (sgn_self _)
  · right
    rcases b1 with b1 | b1
    · rw [sgn_gt b1, sgn_gt (by omega)]
    · rw [sgn_lt (by omega), sgn_lt (by omega)]
  · right
    rcases a1 with a1 | a1
    · rw [sgn_lt a1, sgn_lt (by omega)]
    · rw [sgn_gt (by omega), sgn_gt (by omega)]
  · exact .inr rfl
theorem map_sg {f : Int → Int} {l : List Int} {i j : Nat} (hi : i < l.length) (hj : j < l.length) : sgA (l.map f) i j = sgn (f (l.getD i 0)) (f (l.getD j 0)) := by
  unfold sgA
  rw [getD_map hi, getD_map hj]
/-- the row is coarser than a; whatever is coarser than both is coarser than the row -/
structure CInv (n : Nat) (a b row : List Int) : Prop where
  len : row.length = n
  fa : Fin n a row
  low : ∀ d, Fin n a d → Fin n b d → Fin n row d
theorem cinv_step {n : Nat} {a b row : List Int} (h : CInv n a b row) {p q : Nat} (hp : p < n) (hq : q < n) (hne : sgA row p q ≠ sgA b p q) {lo hi : Int} (hlo : lo = min (row.getD p 0) (row.getD q 0)) (hhi : hi = max (row.getD p 0) (row.getD q 0)) : CInv n a b (row.map (mrg lo hi)) := by
  have hl := h.len
  have lh : lo ≤ hi := by omega
  have co : Fin n row (row.map (mrg lo hi)) := fun i j hi' hj' => by
    rw [map_sg (by omega) (by omega)]
    exact mrg_sg lh
  refine ⟨by rw [List.length_map]; exact hl, h.fa.trans co, fun d da db => ?_⟩
  have rd := h.low d da db
  -- d follows the row
  have mono : ∀ i j, i < n → j < n → row.getD i 0 ≤ row.getD j 0 → d.getD i 0 ≤ d.getD j 0 := fun i j hi' hj' hle => by
    rcases rd i j hi' hj' with e | e
    · rcases sgn_3 (d.getD i 0) (d.getD j 0) with ⟨k, _⟩ | ⟨k, _⟩ | ⟨k, f⟩
      · omega
      · omega
      · have e' : sgn (d.getD i 0) (d.getD j 0) = 0 := e
        rw [f] at e'; exact absurd e' (by decide)
    · rcases sgn_3 (d.getD i 0) (d.getD j 0) with ⟨k, _⟩ | ⟨k, _⟩ | ⟨k, f⟩
      · omega
      · omega
      · have e' : sgn (d.getD i 0) (d.getD j 0) = sgn (row.getD i 0) (row.getD j 0) := e
        rcases sgn_3 (row.getD i 0) (row.getD j 0) with ⟨g, w⟩ | ⟨g, w⟩ | ⟨g, w⟩
        · rw [f, w] at e'; exact absurd e' (by decide)
        · rw [f, w] at e'; exact absurd e' (by decide)
        · omega
  have dpq : d.getD p 0 = d.getD q 0 := by
    rcases sgn_3 (d.getD p 0) (d.getD q 0) with ⟨k, f⟩ | ⟨k, _⟩ | ⟨k, f⟩
    · exfalso
      have f' : sgA d p q = -1 := f
      rcases rd p q hp hq with e | e
      · rw [f'] at e; exact absurd e (by decide)
      · rcases db p q hp hq with g | g
        · rw [f'] at g; exact absurd g (by decide)
        · exact hne (e.symm.trans g)
    · exact k
    · exfalso
      have f' : sgA d p q = 1 := f
      rcases rd p q hp hq with e | e
      · rw [f'] at e; exact absurd e (by decide)
      · rcases db p q hp hq with g | g
        · rw [f'] at g; exact absurd g (by decide)
        · exact hne (e.symm.trans g)
  intro i j hi' hj'
  rw [map_sg (by omega) (by omega)]
  rcases rd i j hi' hj' with e | e
  · exact .inl e
  · rcases mrg_cases lo hi (row.getD i 0) with ⟨a1, a2, a3⟩ | ⟨a1, a3⟩ <;> rcases mrg_cases lo hi (row.getD j 0) with ⟨b1, b2, b3⟩ | ⟨b1, b3⟩
    · -- both are between: d has them alike
      left
      have between : ∀ k, k < n → lo ≤ row.getD k 0 → row.getD k 0 ≤ hi → d.getD k 0 = d.getD p 0 := fun k hk k1 k2 => by
        rcases Int.le_total (row.getD p 0) (row.getD q 0) with g | g
        · have m1 := mono p k hp hk (by omega)
          have m2 := mono k q hk hq (by omega)
          omega
        · have m1 := mono q k hq hk (by omega)
          have m2 := mono k p hk hp (by omega)
          omega
      show sgn _ _ = 0
      rw [between i hi' a1 a2, between j hj' b1 b2, sgn_self]
    · right
      rw [a3, b3, e]
      show sgn (row.getD i 0) (row.getD j 0) = _
      rcases b1 with b1 | b1
      · rw [sgn_gt (by omega), sgn_gt b1]
      · rw [sgn_lt (by omega), sgn_lt (by omega)]
    · right
      rw [a3, b3, e]
      show sgn (row.getD i 0) (row.getD j 0) = _
      rcases a1 with a1 | a1
      · rw [sgn_lt (by omega), sgn_lt a1]
      · rw [sgn_gt (by omega), sgn_gt (by omega)]
    · right
      rw [a3, b3, e]
      rfl
/-- fewer kinds -/
theorem ded_map {f : Int → Int} (l : List Int) : (dedup (l.map f)).length ≤ (dedup l).length := by
  have := nodup_len (nodup_dedup (l.map f)) (m := (dedup l).map f) fun x hx => by
    obtain ⟨y, hy, rfl⟩ := List.mem_map.mp (mem_dedup.mp hx)
    exact List.mem_map.mpr ⟨y, mem_dedup.mpr hy, rfl⟩
  rwa [List.length_map] at this
theorem ded_lt {f : Int → Int} {l : List Int} {x y : Int} (hx : x ∈ l) (hy : y ∈ l) (hne : x ≠ y) (hf : f x = f y) : (dedup (l.map f)).length < (dedup l).length := by
  have sub : ∀ z ∈ dedup (l.map f), z ∈ ((dedup l).erase y).map f := fun z hz => by
    obtain ⟨u, hu, rfl⟩ := List.mem_map.mp (mem_dedup.mp hz)
    by_cases e : u = y
    · exact List.mem_map.mpr ⟨x, (List.mem_erase_of_ne hne).mpr (mem_dedup.mpr hx), by rw [e, hf]⟩
    · exact List.mem_map.mpr ⟨u, (List.mem_erase_of_ne e).mpr (mem_dedup.mpr hu), rfl⟩
  have := nodup_len (nodup_dedup (l.map f)) sub
  rw [List.length_map, List.length_erase_of_mem (mem_dedup.mpr hy)] at this
  have := List.length_pos_of_mem (mem_dedup.mpr hy)
  omega
theorem whlT_meas {α σ : Type} {c : σ → R Bool} {f : σ → OT σ α} (P : σ → Prop) (μ : σ → Nat) (hc : ∀ s, P s → (μ s = 0 ∧ c s = .ok false) ∨ (c s = .ok true ∧ ∃ s', f s = .nx s' ∧ P s' ∧ μ s' < μ s)) : ∀ (m : Nat) (s : σ), P s → μ s < m → ∃ s', whlT c f m s = .nx s' ∧ P s' ∧ μ s' = 0
  | 0, _, _, h => absurd h (Nat.not_lt_zero _)
  | m + 1, s, p, h => by
    rcases hc s p with ⟨z, e⟩ | ⟨e, s', e', p', l⟩
    · exact ⟨s, by rw [whlT_succ, e]; rfl, p, z⟩
    · obtain ⟨s2, e2, p2, z2⟩ := whlT_meas P μ hc m s' p' (by omega)
      exact ⟨s2, by rw [whlT_succ, e]; simp only [R.toO_ok, if_true, e', OT.andThen_nx, e2], p2, z2⟩
end Lk
end Part_LkO
section Part_K70A
set_option Elab.async false
set_option linter.all false
set_option maxRecDepth 100000
set_option maxHeartbeats 0
namespace Lk.T
open PySem PySem.Spec PyProof.Rows L2
abbrev RowT : PySem.W.OpenRow := PySem.W.OpenLaw.row PySem.Challenge.rw_likeranks_k70_whole_parts
def stA (i : Nat) : Stmt := (PySem.Challenge.rw_likeranks_k70_whole_parts.prog.main.body[i]?).getD (.Pass ⟨0, 0, 0, 0⟩)
def cd_is_count : CD := ⟨["thing", "low", "high"], ["thing", "low", "high"],
  (.cons (.ret (.and (.isi (.var 0) "int") (.and (.not (.isi (.var 0) "bool")) (.one (.chn .le .le (.var 1) (.var 0) (.var 2)))))) .nil)⟩
def cd_is_order : CD := ⟨["thing", "rank"], ["thing"],
  (.cons (.iff (.or (.not (.isi (.var 0) "tuple")) (.one (.not (.chn .le .le (.cst (.int 1)) (.bi .len (.cons (.var 0) .nil)) (.glb "MOST_ITEMS")))))
  (.cons (.ret (.cst (.bl false))) .nil)
  .nil)
  (.cons (.iff (.not (.bi .all (.cons (.lc .seq (.var 0) .no (.nm 1) [1] .no (.cal "is_count" (.cons (.var 1) (.cons (.cst (.int 0)) (.cons (.bin .sub (.glb "MOST_ITEMS") (.cst (.int 1))) .nil))))) .nil)))
  (.cons (.ret (.cst (.bl false))) .nil)
  .nil)
  (.cons (.ret (.cmp .eq (.sset (.var 0)) (.lrng (.bin .add (.bi .max (.cons (.var 0) .nil)) (.cst (.int 1)))))) .nil)))⟩
def cd_need_order : CD := ⟨["order"], ["order"],
  (.cons (.iff (.not (.cal "is_order" (.cons (.var 0) .nil)))
  (.cons (.rse "BadOrder") .nil)
  .nil)
  .nil)⟩
def cd_tidied : CD := ⟨["row", "kinds", "one"], ["row"],
  (.cons (.set 1 (.sset (.var 0)))
  (.cons (.ret (.bi .tuple (.cons (.lc .seq (.var 0) .no (.nm 2) [2] .no (.mth .index (.var 1) (.var 2))) .nil))) .nil))⟩
def cd_part : CD := ⟨["order", "items", "good", "item", "one", "other"], ["order", "items"],
  (.cons (.expr (.cal "need_order" (.cons (.var 0) .nil)))
  (.cons (.set 2 (.and (.isi (.var 1) "list") (.and (.cmp .ne (.var 1) (.lst .nil)) (.one (.bi .all (.cons (.lc .seq (.var 1) .no (.nm 3) [3] .no (.cal "is_count" (.cons (.var 3) (.cons (.cst (.int 0)) (.cons (.bin .sub (.bi .len (.cons (.var 0) .nil)) (.cst (.int 1))) .nil))))) .nil))))))
  (.cons (.iff (.or (.not (.var 2)) (.one (.not (.bi .all (.cons (.lc .zip (.slc (.var 1) .no (.neg (.cst (.int 1)))) (.slc (.var 1) (.cst (.int 1)) .no) (.tp [4, 5]) [4, 5] .no (.cmp .lt (.var 4) (.var 5))) .nil)))))
  (.cons (.rse "BadItem") .nil)
  .nil)
  (.cons (.ret (.cal "tidied" (.cons (.lc .seq (.var 1) .no (.nm 3) [3] .no (.sub (.var 0) (.var 3))) .nil))) .nil))))⟩
def cd_with_one : CD := ⟨["order", "rows", "spot", "rank"], ["order"],
  (.cons (.expr (.cal "need_order" (.cons (.var 0) .nil)))
  (.cons (.iff (.cmp .eq (.bi .len (.cons (.var 0) .nil)) (.glb "MOST_ITEMS"))
  (.cons (.rse "BadOrder") .nil)
  .nil)
  (.cons (.set 1 (.lc .rng2 (.neg (.cst (.int 1))) (.bin .add (.bin .mul (.cst (.int 2)) (.bi .max (.cons (.var 0) .nil))) (.cst (.int 2))) (.nm 2) [2] .no (.cal "tidied" (.cons (.bin .add (.lc .seq (.var 0) .no (.nm 3) [3] .no (.bin .mul (.cst (.int 2)) (.var 3))) (.lst (.cons (.var 2) .nil))) .nil))))
  (.cons (.ret (.srt (.var 1))) .nil))))⟩
def cd_glued : CD := ⟨["one", "other", "rank"], ["one", "other"],
  (.cons (.expr (.cal "need_order" (.cons (.var 0) .nil)))
  (.cons (.expr (.cal "need_order" (.cons (.var 1) .nil)))
  (.cons (.iff (.cmp .gt (.bin .add (.bi .len (.cons (.var 0) .nil)) (.bi .len (.cons (.var 1) .nil))) (.glb "MOST_ITEMS"))
  (.cons (.rse "BadOrder") .nil)
  .nil)
  (.cons (.ret (.bin .add (.var 0) (.bi .tuple (.cons (.lc .seq (.var 1) .no (.nm 2) [2] .no (.bin .add (.bin .add (.var 2) (.bi .max (.cons (.var 0) .nil))) (.cst (.int 1)))) .nil)))) .nil))))⟩
def cd_inner : CD := ⟨["order", "rows", "row", "found", "rank", "own"], ["order", "rows"],
  (.cons (.expr (.cal "need_order" (.cons (.var 0) .nil)))
  (.cons (.iff (.or (.not (.isi (.var 1) "list")) (.one (.cmp .ne (.bi .len (.cons (.var 1) .nil)) (.bi .len (.cons (.var 0) .nil)))))
  (.cons (.rse "BadOrder") .nil)
  .nil)
  (.cons (.for .seq (.var 1) .no (.nm 2)
  (.cons (.expr (.cal "need_order" (.cons (.var 2) .nil)))
  (.del 2 .nil)))
  (.cons (.iff (.cmp .gt (.bi .sum (.cons (.lc .seq (.var 1) .no (.nm 2) [2] .no (.bi .len (.cons (.var 2) .nil))) .nil)) (.glb "MOST_ITEMS"))
  (.cons (.rse "BadOrder") .nil)
  .nil)
  (.cons (.setO 3 (.lst .nil))
  (.cons (.for .zip (.var 0) (.var 1) (.tp [4, 2])
  (.cons (.ext 3 (.lc .seq (.var 2) .no (.nm 5) [5] .no (.tup (.cons (.var 4) (.cons (.var 5) .nil)))))
  (.del 2 (.del 4 .nil))))
  (.rel 3 (.cons (.ret (.cal "tidied" (.cons (.var 3) .nil))) .nil))))))))⟩
def cd_law_cell : CD := ⟨["script", "k"], ["script", "k"],
  (.cons (.iff (.cmp .eq (.var 0) (.lst .nil))
  (.cons (.ret (.bin .mul (.var 1) (.cst (.int 7919)))) .nil)
  .nil)
  (.cons (.ret (.bin .add (.sub (.var 0) (.bin .mod (.var 1) (.bi .len (.cons (.var 0) .nil)))) (.bin .mul (.bin .fdiv (.var 1) (.bi .len (.cons (.var 0) .nil))) (.cst (.int 104729))))) .nil))⟩
def cd_law_drawn : CD := ⟨["cell", "k", "more"], ["cell", "k"],
  (.cons (.set 2 (.bin .mod (.bin .add (.bin .mul (.var 0) (.cst (.int 6364136223846793005))) (.bin .mul (.bin .add (.var 1) (.cst (.int 1))) (.cst (.int 1442695040888963407)))) (.cst (.int 340282366920938463463374607431768211507))))
  (.cons (.set 2 (.bin .mod (.bin .mul (.var 2) (.var 2)) (.cst (.int 340282366920938463463374607431768211297))))
  (.cons (.set 2 (.bin .mul (.bin .mul (.bin .add (.bin .mod (.var 2) (.cst (.int 18446744073709551557))) (.cst (.int 1))) (.bin .add (.bin .fdiv (.var 2) (.cst (.int 18446744073709551557))) (.cst (.int 1)))) (.var 2)))
  (.cons (.ret (.bin .mod (.var 2) (.cst (.int 340282366920938463463374607431768211507)))) .nil))))⟩
def cd_law_dense : CD := ⟨["row", "one", "other"], ["row"],
  (.cons (.ret (.bi .tuple (.cons (.lc .seq (.var 0) .no (.nm 1) [1] .no (.lset (.lc .seq (.var 0) .no (.nm 2) [2] (.cmp .lt (.var 2) (.var 1)) (.var 2)))) .nil))) .nil)⟩
def cd_law_order : CD := ⟨["more", "items", "j"], ["more", "items"],
  (.cons (.ret (.cal "_law_dense" (.cons (.lc .rng1 (.var 1) .no (.nm 2) [2] .no (.bin .mod (.bin .fdiv (.cal "_law_drawn" (.cons (.var 0) (.cons (.var 2) .nil))) (.cst (.int 4))) (.sub (.lst (.cons (.cst (.int 2)) (.cons (.var 1) (.cons (.cst (.int 6)) .nil)))) (.bin .mod (.var 0) (.cst (.int 3)))))) .nil))) .nil)⟩
def cd_law_items : CD := ⟨["more"], ["more"],
  (.cons (.ret (.sub (.lst (.cons (.bin .add (.cst (.int 1)) (.bin .mod (.var 0) (.cst (.int 5)))) (.cons (.cst (.int 3)) (.cons (.cst (.int 4)) (.cons (.cst (.int 6)) (.cons (.cst (.int 2)) .nil)))))) (.bin .mod (.bin .fdiv (.var 0) (.cst (.int 8))) (.cst (.int 5))))) .nil)⟩
def cd_law_refused : CD := ⟨["order", "items", "bad", "some"], ["order"],
  (.cons (.set 1 (.bi .len (.cons (.var 0) .nil)))
  (.cons (.for .seq (.lst (.cons (.cst .non) (.cons (.lst .nil) (.cons (.tup (.cons (.cst (.int 0)) .nil)) (.cons (.lst (.cons (.var 1) .nil)) (.cons (.lst (.cons (.neg (.cst (.int 1))) .nil)) (.cons (.lst (.cons (.cst (.int 0)) (.cons (.cst (.int 0)) .nil))) (.cons (.lst (.cons (.cst (.bl true)) .nil)) (.cons (.lst (.cons (.cst (.int 1)) (.cons (.cst (.int 0)) .nil))) (.cons (.lst (.cons (.cst (.int 0)) (.cons (.cst .non) .nil))) .nil)))))))))) .no (.nm 2)
  (.cons (.iff (.cmp .ne (.told (.cal "part" (.cons (.var 0) (.cons (.var 2) .nil)))) (.cst (.str "BadItem")))
  (.cons (.ret (.cst (.bl false))) .nil)
  .nil)
  (.del 2 .nil)))
  (.cons (.for .seq (.lst (.cons (.cst .non) (.cons (.bin .mul (.lst (.cons (.cst (.int 0)) .nil)) (.var 1)) (.cons (.tup (.cons (.cst (.int 1)) .nil)) .nil)))) .no (.nm 2)
  (.cons (.setO 3 (.lst (.cons (.told (.cal "part" (.cons (.var 2) (.cons (.cst .non) .nil)))) .nil)))
  (.cons (.app 3 (.told (.cal "with_one" (.cons (.var 2) .nil))))
  (.cons (.app 3 (.told (.cal "glued" (.cons (.var 0) (.cons (.var 2) .nil)))))
  (.cons (.app 3 (.told (.cal "inner" (.cons (.var 2) (.cons (.cst .non) .nil)))))
  (.cons (.app 3 (.told (.cal "inner" (.cons (.var 0) (.cons (.bin .mul (.lst (.cons (.var 2) .nil)) (.var 1)) .nil)))))
  (.cons (.iff (.cmp .ne (.var 3) (.bin .mul (.lst (.cons (.cst (.str "BadOrder")) .nil)) (.cst (.int 5))))
  (.cons (.ret (.cst (.bl false))) .nil)
  .nil)
  (.del 2 (.del 3 .nil)))))))))
  (.cons (.setO 3 (.lst (.cons (.told (.cal "inner" (.cons (.var 0) (.cons (.bin .mul (.lst (.cons (.tup (.cons (.cst (.int 0)) .nil)) .nil)) (.bin .add (.var 1) (.cst (.int 1)))) .nil)))) .nil)))
  (.cons (.app 3 (.told (.cal "inner" (.cons (.var 0) (.cons (.bin .mul (.tup (.cons (.tup (.cons (.cst (.int 0)) .nil)) .nil)) (.var 1)) .nil)))))
  (.cons (.iff (.cmp .gt (.var 1) (.cst (.int 1)))
  (.cons (.app 3 (.told (.cal "inner" (.cons (.var 0) (.cons (.bin .mul (.lst (.cons (.tup (.cons (.cst (.int 0)) (.cons (.cst (.int 0)) (.cons (.cst (.int 1)) (.cons (.cst (.int 1)) (.cons (.cst (.int 2)) (.cons (.cst (.int 2)) .nil))))))) .nil)) (.var 1)) .nil)))))
  .nil)
  .nil)
  (.cons (.ret (.cmp .eq (.var 3) (.bin .mul (.lst (.cons (.cst (.str "BadOrder")) .nil)) (.bi .len (.cons (.var 3) .nil))))) .nil)))))))⟩
def cd_law_joined_right : CD := ⟨["order", "more", "items", "other", "told", "due", "sizes", "rows", "cells", "handed", "rank", "row", "item", "own"], ["order", "more"],
  (.cons (.set 2 (.bi .len (.cons (.var 0) .nil)))
  (.cons (.set 3 (.cal "_law_order" (.cons (.bin .fdiv (.var 1) (.bin .pow (.cst (.int 2)) (.cst (.int 30)))) (.cons (.bin .add (.cst (.int 1)) (.bin .mod (.bin .fdiv (.var 1) (.bin .pow (.cst (.int 2)) (.cst (.int 20)))) (.cst (.int 3)))) .nil))))
  (.cons (.set 4 (.told (.cal "glued" (.cons (.var 0) (.cons (.var 3) .nil)))))
  (.cons (.set 5 (.cal "_law_dense" (.cons (.bin .add (.lc .seq (.var 0) .no (.nm 10) [10] .no (.tup (.cons (.cst (.int 0)) (.cons (.var 10) .nil)))) (.lc .seq (.var 3) .no (.nm 10) [10] .no (.tup (.cons (.cst (.int 1)) (.cons (.var 10) .nil))))) .nil)))
  (.cons (.iff (.cmp .ne (.var 4) (.ite (.cmp .lt (.bin .add (.var 2) (.bi .len (.cons (.var 3) .nil))) (.cst (.int 7))) (.var 5) (.cst (.str "BadOrder"))))
  (.cons (.ret (.cst (.bl false))) .nil)
  .nil)
  (.cons (.set 6 (.lc .rng1 (.var 2) .no (.nm 12) [12] .no (.bin .add (.cst (.int 1)) (.bin .mod (.cal "_law_drawn" (.cons (.var 1) (.cons (.bin .add (.cst (.int 30)) (.var 12)) .nil))) (.cst (.int 3))))))
  (.cons (.set 7 (.lc .rng1 (.var 2) .no (.nm 12) [12] .no (.cal "_law_order" (.cons (.cal "_law_drawn" (.cons (.var 1) (.cons (.bin .add (.cst (.int 40)) (.var 12)) .nil))) (.cons (.sub (.var 6) (.var 12)) .nil)))))
  (.cons (.setO 8 (.lst .nil))
  (.cons (.for .zip (.var 0) (.var 7) (.tp [10, 11])
  (.cons (.ext 8 (.lc .seq (.var 11) .no (.nm 13) [13] .no (.tup (.cons (.var 10) (.cons (.var 13) .nil)))))
  (.del 10 (.del 11 .nil))))
  (.cons (.set 9 (.tup (.cons (.bi .list (.cons (.var 0) .nil)) (.cons (.bi .list (.cons (.var 7) .nil)) .nil))))
  (.cons (.set 4 (.told (.cal "inner" (.cons (.var 0) (.cons (.var 7) .nil)))))
  (.cons (.iff (.cmp .ne (.tup (.cons (.bi .list (.cons (.var 0) .nil)) (.cons (.bi .list (.cons (.var 7) .nil)) .nil))) (.var 9))
  (.cons (.ret (.cst (.bl false))) .nil)
  .nil)
  (.rel 8 (.cons (.ret (.and (.cmp .eq (.var 4) (.ite (.cmp .lt (.bi .sum (.cons (.var 6) .nil)) (.cst (.int 7))) (.cal "_law_dense" (.cons (.var 8) .nil)) (.cst (.str "BadOrder")))) (.one (.cmp .eq (.cal "inner" (.cons (.var 0) (.cons (.bin .mul (.lst (.cons (.tup (.cons (.cst (.int 0)) .nil)) .nil)) (.var 2)) .nil))) (.var 0))))) .nil))))))))))))))⟩
def cd_law : CD := ⟨["script", "k", "more", "items", "order", "j", "here", "some", "due", "picked", "rows", "item", "row"], ["script"],
  (.cons (.for .rng1 (.bi .max (.cons (.cst (.int 1)) (.cons (.bi .min (.cons (.cst (.int 3)) (.cons (.bi .len (.cons (.var 0) .nil)) .nil))) .nil))) .no (.nm 1)
  (.cons (.set 2 (.cal "_law_drawn" (.cons (.cal "_law_cell" (.cons (.var 0) (.cons (.var 1) .nil))) (.cons (.var 1) .nil))))
  (.cons (.set 3 (.cal "_law_items" (.cons (.var 2) .nil)))
  (.cons (.set 4 (.cal "_law_order" (.cons (.bin .fdiv (.var 2) (.cst (.int 64))) (.cons (.var 3) .nil))))
  (.cons (.for .rng1 (.cst (.int 8)) .no (.nm 5)
  (.cons (.set 6 (.cal "_law_drawn" (.cons (.var 2) (.cons (.bin .add (.cst (.int 10)) (.var 5)) .nil))))
  (.cons (.set 7 (.lc .rng1 (.var 3) .no (.nm 11) [11] (.cmp .gt (.bin .mod (.cal "_law_drawn" (.cons (.var 6) (.cons (.var 11) .nil))) (.cst (.int 3))) (.cst (.int 0))) (.var 11)))
  (.cons (.set 8 (.cal "_law_dense" (.cons (.lc .seq (.var 7) .no (.nm 11) [11] .no (.sub (.var 4) (.var 11))) .nil)))
  (.cons (.set 9 (.bi .list (.cons (.var 7) .nil)))
  (.cons (.iff (.and (.cmp .ne (.var 7) (.lst .nil)) (.one (.or (.cmp .ne (.cal "part" (.cons (.var 4) (.cons (.var 9) .nil))) (.var 8)) (.one (.cmp .ne (.var 9) (.var 7))))))
  (.cons (.ret (.cst (.bl false))) .nil)
  .nil)
  (.del 5 (.del 6 (.del 7 (.del 8 (.del 9 .nil)))))))))))
  (.cons (.iff (.cmp .ne (.cal "part" (.cons (.var 4) (.cons (.lrng (.var 3)) .nil))) (.var 4))
  (.cons (.ret (.cst (.bl false))) .nil)
  .nil)
  (.cons (.iff (.cmp .lt (.var 3) (.cst (.int 6)))
  (.cons (.set 10 (.cal "with_one" (.cons (.var 4) .nil)))
  (.cons (.iff (.or (.cmp .ne (.var 10) (.sset (.var 10))) (.one (.cmp .ne (.bi .len (.cons (.var 10) .nil)) (.bin .add (.bin .mul (.cst (.int 2)) (.bi .max (.cons (.var 4) .nil))) (.cst (.int 3))))))
  (.cons (.ret (.cst (.bl false))) .nil)
  .nil)
  (.cons (.iff (.cmp .ne (.lc .seq (.var 10) .no (.nm 12) [12] (.or (.cmp .ne (.cal "_law_dense" (.cons (.var 12) .nil)) (.var 12)) (.one (.cmp .ne (.cal "part" (.cons (.var 12) (.cons (.lrng (.var 3)) .nil))) (.var 4)))) (.var 12)) (.lst .nil))
  (.cons (.ret (.cst (.bl false))) .nil)
  .nil)
  (.del 10 .nil))))
  (.cons (.iff (.cmp .ne (.told (.cal "with_one" (.cons (.var 4) .nil))) (.cst (.str "BadOrder")))
  (.cons (.ret (.cst (.bl false))) .nil)
  .nil)
  .nil))
  (.cons (.iff (.or (.not (.cal "_law_joined_right" (.cons (.var 4) (.cons (.var 2) .nil)))) (.one (.not (.cal "_law_refused" (.cons (.var 4) .nil)))))
  (.cons (.ret (.cst (.bl false))) .nil)
  .nil)
  (.del 1 (.del 2 (.del 3 (.del 4 .nil))))))))))))
  (.cons (.ret (.cst (.bl true))) .nil))⟩
def G : List DD := [⟨"is_count", cd_is_count, stA 10, false⟩,
  ⟨"is_order", cd_is_order, stA 11, false⟩,
  ⟨"need_order", cd_need_order, stA 12, false⟩,
  ⟨"tidied", cd_tidied, stA 13, false⟩,
  ⟨"part", cd_part, stA 15, false⟩,
  ⟨"with_one", cd_with_one, stA 16, false⟩,
  ⟨"glued", cd_glued, stA 17, false⟩,
  ⟨"inner", cd_inner, stA 18, false⟩,
  ⟨"_law_cell", cd_law_cell, stA 20, false⟩,
  ⟨"_law_drawn", cd_law_drawn, stA 21, false⟩,
  ⟨"_law_dense", cd_law_dense, stA 24, false⟩,
  ⟨"_law_order", cd_law_order, stA 25, false⟩,
  ⟨"_law_items", cd_law_items, stA 26, false⟩,
  ⟨"_law_refused", cd_law_refused, stA 27, true⟩,
  ⟨"_law_joined_right", cd_law_joined_right, stA 28, true⟩,
  ⟨"law", cd_law, stA 29, true⟩]
def L : LawTop := { G := G, tw := [("_law_told", stA 23), ("_law_word", stA 22)], xs := ["BadItem", "BadOrder"], cs1 := ["BadItem", "BadKeys", "BadNumber", "BadOrder"], cs2 := ["BadText", "BadTold"], ics := [("MOST_ITEMS", 6)], tf := ["_law_refused", "_law_joined_right", "law"] }
theorem b_is_count : BindOk "is_count" (stA 10) ["thing", "low", "high"] := fun _ _ _ _ _ _ us hl => match us, hl with | [_, _, _], _ => rfl
theorem b_is_order : BindOk "is_order" (stA 11) ["thing"] := fun _ _ _ _ _ _ us hl => match us, hl with | [_], _ => rfl
theorem b_need_order : BindOk "need_order" (stA 12) ["order"] := fun _ _ _ _ _ _ us hl => match us, hl with | [_], _ => rfl
theorem b_tidied : BindOk "tidied" (stA 13) ["row"] := fun _ _ _ _ _ _ us hl => match us, hl with | [_], _ => rfl
theorem b_part : BindOk "part" (stA 15) ["order", "items"] := fun _ _ _ _ _ _ us hl => match us, hl with | [_, _], _ => rfl
theorem b_with_one : BindOk "with_one" (stA 16) ["order"] := fun _ _ _ _ _ _ us hl => match us, hl with | [_], _ => rfl
theorem b_glued : BindOk "glued" (stA 17) ["one", "other"] := fun _ _ _ _ _ _ us hl => match us, hl with | [_, _], _ => rfl
theorem b_inner : BindOk "inner" (stA 18) ["order", "rows"] := fun _ _ _ _ _ _ us hl => match us, hl with | [_, _], _ => rfl
theorem b_law_cell : BindOk "_law_cell" (stA 20) ["script", "k"] := fun _ _ _ _ _ _ us hl => match us, hl with | [_, _], _ => rfl
theorem b_law_drawn : BindOk "_law_drawn" (stA 21) ["cell", "k"] := fun _ _ _ _ _ _ us hl => match us, hl with | [_, _], _ => rfl
theorem b_law_dense : BindOk "_law_dense" (stA 24) ["row"] := fun _ _ _ _ _ _ us hl => match us, hl with | [_], _ => rfl
theorem b_law_order : BindOk "_law_order" (stA 25) ["more", "items"] := fun _ _ _ _ _ _ us hl => match us, hl with | [_, _], _ => rfl
theorem b_law_items : BindOk "_law_items" (stA 26) ["more"] := fun _ _ _ _ _ _ us hl => match us, hl with | [_], _ => rfl
theorem b_law_refused : BindOk "_law_refused" (stA 27) ["order"] := fun _ _ _ _ _ _ us hl => match us, hl with | [_], _ => rfl
theorem b_law_joined_right : BindOk "_law_joined_right" (stA 28) ["order", "more"] := fun _ _ _ _ _ _ us hl => match us, hl with | [_, _], _ => rfl
theorem b_law : BindOk "law" (stA 29) ["script"] := fun _ _ _ _ _ _ us hl => match us, hl with | [_], _ => rfl
theorem b_law_told : BindOk "_law_told" (stA 23) ["deed"] := fun _ _ _ _ _ _ us hl => match us, hl with | [_], _ => rfl
theorem b_law_word : BindOk "_law_word" (stA 22) ["e"] := fun _ _ _ _ _ _ us hl => match us, hl with | [_], _ => rfl
theorem good : L.good = true := by kernel_rfl
theorem hB : ∀ d ∈ L.G, BindOk d.x d.st d.cd.ps := by
  intro d hd
  simp only [L, G, List.mem_cons, List.not_mem_nil, or_false] at hd
  rcases hd with rfl | rfl | rfl | rfl | rfl | rfl | rfl | rfl | rfl | rfl | rfl | rfl | rfl | rfl | rfl | rfl
  · exact b_is_count
  · exact b_is_order
  · exact b_need_order
  · exact b_tidied
  · exact b_part
  · exact b_with_one
  · exact b_glued
  · exact b_inner
  · exact b_law_cell
  · exact b_law_drawn
  · exact b_law_dense
  · exact b_law_order
  · exact b_law_items
  · exact b_law_refused
  · exact b_law_joined_right
  · exact b_law
theorem hT : ∀ q ∈ L.tw, q.1 = ("_law_told" : Str) → BindOk q.1 q.2 ["deed"] := by
  intro q hq e
  simp only [L, List.mem_cons, List.not_mem_nil, or_false] at hq
  rcases hq with rfl | rfl
  · exact b_law_told
  · exact absurd e (by decide +kernel)
theorem hW : ∀ q ∈ L.tw, q.1 = ("_law_word" : Str) → BindOk q.1 q.2 ["e"] := by
  intro q hq e
  simp only [L, List.mem_cons, List.not_mem_nil, or_false] at hq
  rcases hq with rfl | rfl
  · exact absurd e (by decide +kernel)
  · exact b_law_word
/-- how deep the calls go -/
abbrev N : Nat := 5
def loose : List Str := (["is_count", "is_order", "need_order", "tidied", "part", "with_one", "glued", "inner", "_law_cell", "_law_drawn", "_law_word", "_law_told", "_law_dense", "_law_order", "_law_items", "_law_refused", "_law_joined_right", "RankError", "BadOrder", "BadItem", "BadNumber", "BadKeys", "BadTold", "BadText", "MOST_ITEMS"] : List Str)
abbrev qv : Program := PySem.W.view RowT.prog [29]
abbrev hk : PySem.W.Hook := He.hookX 4 L.fa L.fn [] L.tfd L.ex
def ob (s : PySem.W.SharedT) : He.AlX := He.obsX 4 L.fa L.fn [] L.tfd L.ex (HandSHeadRun.getT s)
theorem ob_eq (s : PySem.W.SharedT) : ob s = hk.obs s.abs := He.obsX_eq (HandSHeadRun.getT_eq s)
theorem run (w : World) : HandSHeadRun.RunEq RowT qv hk ob 3000 loose w := by
  intro os
  kernel_rfl
abbrev F (n : Nat) : Str → List D → R D := Phi (tabG L.G) L.C n
theorem phi {x : Str} {cd : CD} (h : tabG L.G x = some cd) (m : Nat) (ds : List D) : F (m + 1) x ds = runD (F m) L.C cd ds := by simp only [F, Phi, h]
theorem g_is_count : tabG L.G "is_count" = some cd_is_count := by kernel_rfl
theorem g_is_order : tabG L.G "is_order" = some cd_is_order := by kernel_rfl
theorem g_need_order : tabG L.G "need_order" = some cd_need_order := by kernel_rfl
theorem g_tidied : tabG L.G "tidied" = some cd_tidied := by kernel_rfl
theorem g_part : tabG L.G "part" = some cd_part := by kernel_rfl
theorem g_with_one : tabG L.G "with_one" = some cd_with_one := by kernel_rfl
theorem g_glued : tabG L.G "glued" = some cd_glued := by kernel_rfl
theorem g_inner : tabG L.G "inner" = some cd_inner := by kernel_rfl
theorem g_law_cell : tabG L.G "_law_cell" = some cd_law_cell := by kernel_rfl
theorem g_law_drawn : tabG L.G "_law_drawn" = some cd_law_drawn := by kernel_rfl
theorem g_law_dense : tabG L.G "_law_dense" = some cd_law_dense := by kernel_rfl
theorem g_law_order : tabG L.G "_law_order" = some cd_law_order := by kernel_rfl
theorem g_law_items : tabG L.G "_law_items" = some cd_law_items := by kernel_rfl
theorem g_law_refused : tabG L.G "_law_refused" = some cd_law_refused := by kernel_rfl
theorem g_law_joined_right : tabG L.G "_law_joined_right" = some cd_law_joined_right := by kernel_rfl
theorem g_law : tabG L.G "law" = some cd_law := by kernel_rfl
theorem c_MOST_ITEMS : L.C "MOST_ITEMS" = some (.int 6) := by kernel_rfl
theorem cx_BadItem : L.C "BadItem" = some (.fn "BadItem") := by kernel_rfl
theorem cx_BadOrder : L.C "BadOrder" = some (.fn "BadOrder") := by kernel_rfl
end Lk.T
end Part_K70A
section Part_K70S
set_option Elab.async false
set_option linter.all false
set_option maxRecDepth 100000
set_option maxHeartbeats 0
namespace Lk.T
open PySem PySem.Spec PyProof.Rows L2
def s_law_cell (script_1 : (List Int)) (k_2 : Int) : R Int := OT.toR (.bad) (σ := Unit) (
  (cmpD .eq (eC script_1) ((eL eI) ([] : (List Int)))).toO fun b8 => (if b8 = true then OT.rt (k_2 * (7919 : Int)) else OT.nx ()).andThen fun (s3 : Unit) =>
  (((modR k_2 ((script_1.length : Nat) : Int)).bind fun x4 => atR script_1 x4).bind fun x6 => ((fdivR k_2 ((script_1.length : Nat) : Int)).bind fun x5 => R.ok (x5 * (104729 : Int))).bind fun x7 => R.ok (x6 + x7)).toO fun y => OT.rt y)
theorem T_law_cell (m : Nat) (script_1 : (List Int)) (k_2 : Int) : SE eI (F (m + 1) "_law_cell" [eC script_1, eI k_2]) (s_law_cell script_1 k_2) := by
  rw [phi g_law_cell]
  unfold s_law_cell
  exact run_SE (ρ0 := [.sh (eC script_1), .sh (eI k_2)]) (E := (fun (_ : Unit) => [])) rfl rfl
    (o_iff (E1 := (fun (s3 : Unit) => [.sh (eC script_1), .sh (eI k_2)])) (sx (q_cmp _ _ _) (sp (v_sh rfl) (sp (nb (fun _ z => nomatch z) ((q_lst _).trans (pl_nil (rfl)))) (SE.rawB)))) (o_retP ((q_bin _ _ _).trans (pb (v_sh rfl) (pb (nb (fun _ z => nomatch z) (q_cst _)) (a_mulc (by decide)))))) (o_nil (s := ()) rfl) fun s3 =>
      (o_ret (sx (q_bin _ _ _) (sb (SE.brw (fun _ z => nomatch z) (sx (q_sub _ _) (sp (v_sh rfl) (sb (SE.brw (fun _ z => nomatch z) (sx (q_bin _ _ _) (sp (v_sh rfl) (sp (nb (fun _ z => nomatch z) ((q_bi _ _).trans (pbl_p (v_sh rfl) (pbl_nil (f_lenC _))))) (a_mod _ _))))) fun x4 => (f_atC _ _))))) fun x6 => (sb (SE.brw (fun _ z => nomatch z) (sx (q_bin _ _ _) (sb (SE.brw (fun _ z => nomatch z) (sx (q_bin _ _ _) (sp (v_sh rfl) (sp (nb (fun _ z => nomatch z) ((q_bi _ _).trans (pbl_p (v_sh rfl) (pbl_nil (f_lenC _))))) (a_fdiv _ _))))) fun x5 => (sp (nb (fun _ z => nomatch z) (q_cst _)) (SE.pure (a_mulc (by decide))))))) fun x7 => (SE.pure (a_add _ _))))))) (trivial)
def s_law_drawn (cell_1 : Int) (k_2 : Int) : R Int := OT.toR (.bad) (σ := Unit) (
  (R.ok (((cell_1 * (6364136223846793005 : Int)) + ((k_2 + (1 : Int)) * (1442695040888963407 : Int))) % (340282366920938463463374607431768211507 : Int))).toO fun more_3 =>
  ((mulR more_3 more_3).bind fun x4 => R.ok (x4 % (340282366920938463463374607431768211297 : Int))).toO fun more_5 =>
  ((mulR ((more_5 % (18446744073709551557 : Int)) + (1 : Int)) ((more_5 / (18446744073709551557 : Int)) + (1 : Int))).bind fun x6 => mulR x6 more_5).toO fun more_7 =>
  OT.rt (more_7 % (340282366920938463463374607431768211507 : Int)))
theorem T_law_drawn (m : Nat) (cell_1 : Int) (k_2 : Int) : SE eI (F (m + 1) "_law_drawn" [eI cell_1, eI k_2]) (s_law_drawn cell_1 k_2) := by
  rw [phi g_law_drawn]
  unfold s_law_drawn
  exact run_SE (ρ0 := [.sh (eI cell_1), .sh (eI k_2), .no]) (E := (fun (_ : Unit) => [])) rfl rfl
    (o_set (ed := eI) (ρ' := fun more_3 => [.sh (eI cell_1), .sh (eI k_2), .sh (eI more_3)]) (SE.pure ((q_bin _ _ _).trans (pb (nb (fun _ z => nomatch z) ((q_bin _ _ _).trans (pb (nb (fun _ z => nomatch z) ((q_bin _ _ _).trans (pb (v_sh rfl) (pb (nb (fun _ z => nomatch z) (q_cst _)) (a_mulc (by decide)))))) (pb (nb (fun _ z => nomatch z) ((q_bin _ _ _).trans (pb (nb (fun _ z => nomatch z) ((q_bin _ _ _).trans (pb (v_sh rfl) (pb (nb (fun _ z => nomatch z) (q_cst _)) (a_add _ _))))) (pb (nb (fun _ z => nomatch z) (q_cst _)) (a_mulc (by decide)))))) (a_add _ _))))) (pb (nb (fun _ z => nomatch z) (q_cst _)) (a_modc (by decide)))))) (of_decide_eq_true rfl) (fun _ => rfl) fun more_3 =>
      (o_set (ed := eI) (ρ' := fun more_5 => [.sh (eI cell_1), .sh (eI k_2), .sh (eI more_5)]) (sx (q_bin _ _ _) (sb (SE.brw (fun _ z => nomatch z) (sx (q_bin _ _ _) (sp (v_sh rfl) (sp (v_sh rfl) (a_mul _ _))))) fun x4 => (sp (nb (fun _ z => nomatch z) (q_cst _)) (SE.pure (a_modc (by decide)))))) (of_decide_eq_true rfl) (fun _ => rfl) fun more_5 =>
      (o_set (ed := eI) (ρ' := fun more_7 => [.sh (eI cell_1), .sh (eI k_2), .sh (eI more_7)]) (sx (q_bin _ _ _) (sb (SE.brw (fun _ z => nomatch z) (sx (q_bin _ _ _) (sp (nb (fun _ z => nomatch z) ((q_bin _ _ _).trans (pb (nb (fun _ z => nomatch z) ((q_bin _ _ _).trans (pb (v_sh rfl) (pb (nb (fun _ z => nomatch z) (q_cst _)) (a_modc (by decide)))))) (pb (nb (fun _ z => nomatch z) (q_cst _)) (a_add _ _))))) (sp (nb (fun _ z => nomatch z) ((q_bin _ _ _).trans (pb (nb (fun _ z => nomatch z) ((q_bin _ _ _).trans (pb (v_sh rfl) (pb (nb (fun _ z => nomatch z) (q_cst _)) (a_fdivc ⟨by decide, by decide +kernel⟩))))) (pb (nb (fun _ z => nomatch z) (q_cst _)) (a_add _ _))))) (a_mul _ _))))) fun x6 => (sp (v_sh rfl) (a_mul _ _)))) (of_decide_eq_true rfl) (fun _ => rfl) fun more_7 =>
      (o_retP ((q_bin _ _ _).trans (pb (v_sh rfl) (pb (nb (fun _ z => nomatch z) (q_cst _)) (a_modc (by decide))))))))) (trivial)
def s_law_items (more_1 : Int) : R Int := OT.toR (.bad) (σ := Unit) (
  (atR ([((1 : Int) + (more_1 % (5 : Int))), (3 : Int), (4 : Int), (6 : Int), (2 : Int)] : (List Int)) ((more_1 / (8 : Int)) % (5 : Int))).toO fun y => OT.rt y)
theorem T_law_items (m : Nat) (more_1 : Int) : SE eI (F (m + 1) "_law_items" [eI more_1]) (s_law_items more_1) := by
  rw [phi g_law_items]
  unfold s_law_items
  exact run_SE (ρ0 := [.sh (eI more_1)]) (E := (fun (_ : Unit) => [])) rfl rfl
    (o_ret (sx (q_sub _ _) (sp (nb (fun _ z => nomatch z) ((q_lst _).trans (pl_p ((q_bin _ _ _).trans (pb (nb (fun _ z => nomatch z) (q_cst _)) (pb (nb (fun _ z => nomatch z) ((q_bin _ _ _).trans (pb (v_sh rfl) (pb (nb (fun _ z => nomatch z) (q_cst _)) (a_modc (by decide)))))) (a_add _ _)))) (pl_p (q_cst _) (pl_p (q_cst _) (pl_p (q_cst _) (pl_p (q_cst _) (pl_nil (rfl))))))))) (sp (nb (fun _ z => nomatch z) ((q_bin _ _ _).trans (pb (nb (fun _ z => nomatch z) ((q_bin _ _ _).trans (pb (v_sh rfl) (pb (nb (fun _ z => nomatch z) (q_cst _)) (a_fdivc ⟨by decide, by decide +kernel⟩))))) (pb (nb (fun _ z => nomatch z) (q_cst _)) (a_modc (by decide)))))) (f_atL (e := eI) ([((1 : Int) + (more_1 % (5 : Int))), (3 : Int), (4 : Int), (6 : Int), (2 : Int)] : (List Int)) ((more_1 / (8 : Int)) % (5 : Int))))))) (trivial)
def s_law_dense (row_1 : (List Int)) : R (List Int) := OT.toR (.bad) (σ := Unit) (
  ((mapT (fun (z2 : Int) => lsetR ((row_1.filter (fun (z3 : Int) => (decide (z3 < z2)))).map (fun (z3 : Int) => z3))) row_1).bind fun x4 => R.ok x4).toO fun y => OT.rt y)
theorem T_law_dense (m : Nat) (row_1 : (List Int)) : SE (eT eI) (F (m + 1) "_law_dense" [(eL eI) row_1]) (s_law_dense row_1) := by
  rw [phi g_law_dense]
  unfold s_law_dense
  exact run_SE (ρ0 := [.sh ((eL eI) row_1), .no, .no]) (E := (fun (_ : Unit) => [])) rfl rfl
    (o_ret (sx (q_bi _ _) (b_b (SE.brw (fun _ z => nomatch z) (lc_pt (ea := eI) (eb := eI) (ρ' := fun z2 => [.sh ((eL eI) row_1), .sh (eI z2), .no]) rfl (i_seq.trans (pb (q_var rfl) (f_itL (e := eI) row_1 _))) (fun _ => rfl) (fun z2 => sx (q_lset _) (sp (nb (fun _ z => nomatch z) (lc_f (ea := eI) (eb := eI) (ρ' := fun z3 => [.sh ((eL eI) row_1), .sh (eI z2), .sh (eI z3)]) (g := (fun (z3 : Int) => z3)) (p := (fun (z3 : Int) => (decide (z3 < z2)))) rfl rfl (i_seq.trans (pb (q_var rfl) (f_itL (e := eI) row_1 _))) (fun _ => rfl) (fun z3 => (q_cmp _ _ _).trans (pb (v_sh rfl) (pb (v_sh rfl) (a_lt _ _)))) (fun z3 => q_var rfl))) (f_lsetL ((row_1.filter (fun (z3 : Int) => (decide (z3 < z2)))).map (fun (z3 : Int) => z3))))))) fun x4 => (b_nil (SE.pure (f_tupleL (e := eI) x4)))))) (trivial)
def s_is_count (thing_1 : Int) (low_2 : Int) (high_3 : Int) : R Bool := OT.toR (.bad) (σ := Unit) (
  OT.rt (true && ((!false) && ((decide (low_2 ≤ thing_1)) && (decide (thing_1 ≤ high_3))))))
theorem T_is_count (m : Nat) (thing_1 : Int) (low_2 : Int) (high_3 : Int) : SE eB (F (m + 1) "is_count" [eI thing_1, eI low_2, eI high_3]) (s_is_count thing_1 low_2 high_3) := by
  rw [phi g_is_count]
  unfold s_is_count
  exact run_SE (ρ0 := [.sh (eI thing_1), .sh (eI low_2), .sh (eI high_3)]) (E := (fun (_ : Unit) => [])) rfl rfl
    (o_retP (p_and ((q_isi _ _).trans (pb (v_sh rfl) (f_isiC k_int_int (fun _ z => nomatch z)))) (p_and ((q_not _).trans (pb ((q_isi _ _).trans (pb (v_sh rfl) (f_isiC k_int_bool (fun _ z => nomatch z)))) (rfl))) ((q_one _).trans (p_chn (v_sh rfl) (v_sh rfl) (c_le _ _) (v_sh rfl) (c_le _ _)))))) (trivial)
def s_tidied (row_1 : (List Int)) : R (List Int) := OT.toR (.bad) (σ := Unit) (
  (ssetR row_1).toO fun kinds_2 =>
  ((mapT (fun (z3 : Int) => indexR kinds_2 z3) row_1).bind fun x4 => R.ok x4).toO fun y => OT.rt y)
theorem T_tidied (m : Nat) (row_1 : (List Int)) : SE (eT eI) (F (m + 1) "tidied" [(eL eI) row_1]) (s_tidied row_1) := by
  rw [phi g_tidied]
  unfold s_tidied
  exact run_SE (ρ0 := [.sh ((eL eI) row_1), .no, .no]) (E := (fun (_ : Unit) => [])) rfl rfl
    (o_set (ed := (eL eI)) (ρ' := fun kinds_2 => [.sh ((eL eI) row_1), .sh ((eL eI) kinds_2), .no]) (sx (q_sset _) (sp (v_sh rfl) (f_ssetL row_1))) (of_decide_eq_true rfl) (fun _ => rfl) fun kinds_2 =>
      (o_ret (sx (q_bi _ _) (b_b (SE.brw (fun _ z => nomatch z) (lc_pt (ea := eI) (eb := eI) (ρ' := fun z3 => [.sh ((eL eI) row_1), .sh ((eL eI) kinds_2), .sh (eI z3)]) rfl (i_seq.trans (pb (q_var rfl) (f_itL (e := eI) row_1 _))) (fun _ => rfl) (fun z3 => sx (q_mth _ _ _) (sp (v_sh rfl) (sif rfl (sp (v_sh rfl) (a_index eq_I (by decide) kinds_2 z3))))))) fun x4 => (b_nil (SE.pure (f_tupleL (e := eI) x4))))))) (trivial)
def s_law_dense_1 (row_1 : (List Int)) : R (List Int) := OT.toR (.bad) (σ := Unit) (
  ((mapT (fun (z2 : Int) => lsetR ((row_1.filter (fun (z3 : Int) => (decide (z3 < z2)))).map (fun (z3 : Int) => z3))) row_1).bind fun x4 => R.ok x4).toO fun y => OT.rt y)
theorem T_law_dense_1 (m : Nat) (row_1 : (List Int)) : SE (eT eI) (F (m + 1) "_law_dense" [(eT eI) row_1]) (s_law_dense_1 row_1) := by
  rw [phi g_law_dense]
  unfold s_law_dense_1
  exact run_SE (ρ0 := [.sh ((eT eI) row_1), .no, .no]) (E := (fun (_ : Unit) => [])) rfl rfl
    (o_ret (sx (q_bi _ _) (b_b (SE.brw (fun _ z => nomatch z) (lc_pt (ea := eI) (eb := eI) (ρ' := fun z2 => [.sh ((eT eI) row_1), .sh (eI z2), .no]) rfl (i_seq.trans (pb (q_var rfl) (f_itT (e := eI) row_1 _))) (fun _ => rfl) (fun z2 => sx (q_lset _) (sp (nb (fun _ z => nomatch z) (lc_f (ea := eI) (eb := eI) (ρ' := fun z3 => [.sh ((eT eI) row_1), .sh (eI z2), .sh (eI z3)]) (g := (fun (z3 : Int) => z3)) (p := (fun (z3 : Int) => (decide (z3 < z2)))) rfl rfl (i_seq.trans (pb (q_var rfl) (f_itT (e := eI) row_1 _))) (fun _ => rfl) (fun z3 => (q_cmp _ _ _).trans (pb (v_sh rfl) (pb (v_sh rfl) (a_lt _ _)))) (fun z3 => q_var rfl))) (f_lsetL ((row_1.filter (fun (z3 : Int) => (decide (z3 < z2)))).map (fun (z3 : Int) => z3))))))) fun x4 => (b_nil (SE.pure (f_tupleL (e := eI) x4)))))) (trivial)
def s_law_dense_2 (row_1 : (List (List Int))) : R (List Int) := OT.toR (.bad) (σ := Unit) (
  ((mapT (fun (z2 : (List Int)) => lsetTR ((row_1.filter (fun (z3 : (List Int)) => (HT.lexLt z3 z2))).map (fun (z3 : (List Int)) => z3))) row_1).bind fun x4 => R.ok x4).toO fun y => OT.rt y)
theorem T_law_dense_2 (m : Nat) (row_1 : (List (List Int))) : SE (eT eI) (F (m + 1) "_law_dense" [(eL (eT eI)) row_1]) (s_law_dense_2 row_1) := by
  rw [phi g_law_dense]
  unfold s_law_dense_2
  exact run_SE (ρ0 := [.sh ((eL (eT eI)) row_1), .no, .no]) (E := (fun (_ : Unit) => [])) rfl rfl
    (o_ret (sx (q_bi _ _) (b_b (SE.brw (fun _ z => nomatch z) (lc_pt (ea := (eT eI)) (eb := eI) (ρ' := fun z2 => [.sh ((eL (eT eI)) row_1), .sh ((eT eI) z2), .no]) rfl (i_seq.trans (pb (q_var rfl) (f_itL (e := (eT eI)) row_1 _))) (fun _ => rfl) (fun z2 => sx (q_lset _) (sp (nb (fun _ z => nomatch z) (lc_f (ea := (eT eI)) (eb := (eT eI)) (ρ' := fun z3 => [.sh ((eL (eT eI)) row_1), .sh ((eT eI) z2), .sh ((eT eI) z3)]) (g := (fun (z3 : (List Int)) => z3)) (p := (fun (z3 : (List Int)) => (HT.lexLt z3 z2))) rfl rfl (i_seq.trans (pb (q_var rfl) (f_itL (e := (eT eI)) row_1 _))) (fun _ => rfl) (fun z3 => (q_cmp _ _ _).trans (pb (v_sh rfl) (pb (v_sh rfl) (a_ltT z3 z2)))) (fun z3 => q_var rfl))) (f_lsetLT ((row_1.filter (fun (z3 : (List Int)) => (HT.lexLt z3 z2))).map (fun (z3 : (List Int)) => z3))))))) fun x4 => (b_nil (SE.pure (f_tupleL (e := eI) x4)))))) (trivial)
def s_tidied_1 (row_1 : (List (List Int))) : R (List Int) := OT.toR (.bad) (σ := Unit) (
  (ssetTR row_1).toO fun kinds_2 =>
  ((mapT (fun (z3 : (List Int)) => indexR kinds_2 z3) row_1).bind fun x4 => R.ok x4).toO fun y => OT.rt y)
theorem T_tidied_1 (m : Nat) (row_1 : (List (List Int))) : SE (eT eI) (F (m + 1) "tidied" [(eL (eT eI)) row_1]) (s_tidied_1 row_1) := by
  rw [phi g_tidied]
  unfold s_tidied_1
  exact run_SE (ρ0 := [.sh ((eL (eT eI)) row_1), .no, .no]) (E := (fun (_ : Unit) => [])) rfl rfl
    (o_set (ed := (eL (eT eI))) (ρ' := fun kinds_2 => [.sh ((eL (eT eI)) row_1), .sh ((eL (eT eI)) kinds_2), .no]) (sx (q_sset _) (sp (v_sh rfl) (f_ssetLT row_1))) (of_decide_eq_true rfl) (fun _ => rfl) fun kinds_2 =>
      (o_ret (sx (q_bi _ _) (b_b (SE.brw (fun _ z => nomatch z) (lc_pt (ea := (eT eI)) (eb := eI) (ρ' := fun z3 => [.sh ((eL (eT eI)) row_1), .sh ((eL (eT eI)) kinds_2), .sh ((eT eI) z3)]) rfl (i_seq.trans (pb (q_var rfl) (f_itL (e := (eT eI)) row_1 _))) (fun _ => rfl) (fun z3 => sx (q_mth _ _ _) (sp (v_sh rfl) (sif rfl (sp (v_sh rfl) (a_index (eq_T eq_I) (by decide) kinds_2 z3))))))) fun x4 => (b_nil (SE.pure (f_tupleL (e := eI) x4))))))) (trivial)
def s_is_count_1 (thing_1 : D) (low_2 : Int) (high_3 : Int) : R Bool := OT.toR (.bad) (σ := Unit) (
  ((isiR thing_1 "int").bind fun b7 => if b7 = true then ((isiR thing_1 "bool").bind fun x4 => R.ok (!x4)).bind fun b6 => if b6 = true then (cmpD .le (eI low_2) thing_1).bind fun b5 => if b5 = true then cmpD .le thing_1 (eI high_3) else R.ok false else R.ok false else R.ok false).toO fun y => OT.rt y)
theorem T_is_count_1 (m : Nat) (thing_1 : D) (low_2 : Int) (high_3 : Int) : SE eB (F (m + 1) "is_count" [eD thing_1, eI low_2, eI high_3]) (s_is_count_1 thing_1 low_2 high_3) := by
  rw [phi g_is_count]
  unfold s_is_count_1
  exact run_SE (ρ0 := [.sh (eD thing_1), .sh (eI low_2), .sh (eI high_3)]) (E := (fun (_ : Unit) => [])) rfl rfl
    (o_ret (sx (q_and _ _) (sb (sx (q_isi _ _) (sp (v_sh rfl) (f_isi _ _))) fun b7 => (s_asB (s_if (fun _ => sx (q_and _ _) (sb (sx (q_not _) (sb (sx (q_isi _ _) (sp (v_sh rfl) (f_isi _ _))) fun x4 => (SE.pure (rfl)))) fun b6 => (s_asB (s_if (fun _ => sx (q_one _) (sx (q_chn _ _ _ _ _) (sp (v_sh rfl) (sp (v_sh rfl) (sb SE.self fun b5 => s_if (fun _ => sp (v_sh rfl) SE.rawB) (fun _ => rfl)))))) (fun _ => rfl))))) (fun _ => rfl)))))) (trivial)
def s_law_order (more_1 : Int) (items_2 : Int) : R (List Int) := OT.toR (.bad) (σ := Unit) (
  (((rng0R items_2).bind fun l7 => mapT (fun (z3 : Int) => ((s_law_drawn more_1 z3).bind fun x4 => R.ok (x4 / (4 : Int))).bind fun x5 => (atR ([(2 : Int), items_2, (6 : Int)] : (List Int)) (more_1 % (3 : Int))).bind fun x6 => modR x5 x6) l7).bind fun x9 => s_law_dense x9).toO fun y => OT.rt y)
theorem T_law_order (m : Nat) (more_1 : Int) (items_2 : Int) : SE (eT eI) (F (m + 2) "_law_order" [eI more_1, eI items_2]) (s_law_order more_1 items_2) := by
  rw [phi g_law_order]
  unfold s_law_order
  exact run_SE (ρ0 := [.sh (eI more_1), .sh (eI items_2), .no]) (E := (fun (_ : Unit) => [])) rfl rfl
    (o_ret (sx (q_cal _ _) (l_b (lc_i rfl (sx i_rng1 (sp (q_var rfl) (f_rng1 _ _))) fun l7 h8 => (lc_pt (ea := eI) (eb := eI) (ρ' := fun z3 => [.sh (eI more_1), .sh (eI items_2), .sh (eI z3)]) rfl h8 (fun _ => rfl) (fun z3 => sx (q_bin _ _ _) (sb (SE.brw (fun _ z => nomatch z) (sx (q_bin _ _ _) (sb (SE.brw (fun _ z => nomatch z) (sx (q_cal _ _) (l_p (q_var rfl) (l_p (q_var rfl) (l_nil (T_law_drawn m more_1 z3)))))) fun x4 => (sp (nb (fun _ z => nomatch z) (q_cst _)) (SE.pure (a_fdivc ⟨by decide, by decide +kernel⟩)))))) fun x5 => (sb (SE.brw (fun _ z => nomatch z) (sx (q_sub _ _) (sp (nb (fun _ z => nomatch z) ((q_lst _).trans (pl_p (q_cst _) (pl_p (q_var rfl) (pl_p (q_cst _) (pl_nil (rfl))))))) (sp (nb (fun _ z => nomatch z) ((q_bin _ _ _).trans (pb (v_sh rfl) (pb (nb (fun _ z => nomatch z) (q_cst _)) (a_modc (by decide)))))) (f_atL (e := eI) ([(2 : Int), items_2, (6 : Int)] : (List Int)) (more_1 % (3 : Int))))))) fun x6 => (a_mod _ _)))))) fun x9 => (l_nil (T_law_dense m x9))))) (trivial)
def s_is_order (thing_1 : (List Int)) : R Bool := OT.toR (.bad) (σ := Unit) (
  (R.ok ((!true) || (!((decide ((1 : Int) ≤ ((thing_1.length : Nat) : Int))) && (decide (((thing_1.length : Nat) : Int) ≤ (6 : Int))))))).toO fun b12 => (if b12 = true then OT.rt false else OT.nx ()).andThen fun (s2 : Unit) =>
  (((mapT (fun (z3 : Int) => s_is_count z3 (0 : Int) ((6 : Int) - (1 : Int))) thing_1).bind fun x4 => R.ok (x4.all id)).bind fun x5 => R.ok (!x5)).toO fun b11 => (if b11 = true then OT.rt false else OT.nx ()).andThen fun (s6 : Unit) =>
  ((ssetR thing_1).bind fun x9 => (((maxR thing_1).bind fun x7 => R.ok (x7 + (1 : Int))).bind fun x8 => rng0R x8).bind fun x10 => R.ok (decide (x9 = x10))).toO fun y => OT.rt y)
theorem T_is_order (m : Nat) (thing_1 : (List Int)) : SE eB (F (m + 2) "is_order" [(eT eI) thing_1]) (s_is_order thing_1) := by
  rw [phi g_is_order]
  unfold s_is_order
  exact run_SE (ρ0 := [.sh ((eT eI) thing_1), .no]) (E := (fun (_ : Unit) => [])) rfl rfl
    (o_iff (E1 := (fun (s2 : Unit) => [.sh ((eT eI) thing_1), .no])) (SE.pure (p_or ((q_not _).trans (pb ((q_isi _ _).trans (pb (v_sh rfl) (f_isiC k_tuple_tuple (fun _ z => nomatch z)))) (rfl))) ((q_one _).trans ((q_not _).trans (pb (p_chn (nb (fun _ z => nomatch z) (q_cst _)) (nb (fun _ z => nomatch z) ((q_bi _ _).trans (pbl_p (v_sh rfl) (pbl_nil (f_lenT (e := eI) thing_1))))) (c_le _ _) (nb (fun _ z => nomatch z) (q_glb c_MOST_ITEMS)) (c_le _ _)) (rfl)))))) (o_retP (q_cst _)) (o_nil (s := ()) rfl) fun s2 =>
      (o_iff (E1 := (fun (s6 : Unit) => [.sh ((eT eI) thing_1), .no])) (sx (q_not _) (sb (sx (q_bi _ _) (b_b (SE.brw (fun _ z => nomatch z) (lc_pt (ea := eI) (eb := eB) (ρ' := fun z3 => [.sh ((eT eI) thing_1), .sh (eI z3)]) rfl (i_seq.trans (pb (q_var rfl) (f_itT (e := eI) thing_1 _))) (fun _ => rfl) (fun z3 => sx (q_cal _ _) (l_p (q_var rfl) (l_p (q_cst _) (l_p ((q_bin _ _ _).trans (pb (nb (fun _ z => nomatch z) (q_glb c_MOST_ITEMS)) (pb (nb (fun _ z => nomatch z) (q_cst _)) (a_sub _ _)))) (l_nil (T_is_count m z3 (0 : Int) ((6 : Int) - (1 : Int)))))))))) fun x4 => (b_nil (SE.pure (f_allL x4))))) fun x5 => (SE.pure (rfl)))) (o_retP (q_cst _)) (o_nil (s := ()) rfl) fun s6 =>
      (o_ret (sx (q_cmp _ _ _) (sb (SE.brw (fun _ z => nomatch z) (sx (q_sset _) (sp (v_sh rfl) (f_ssetT thing_1)))) fun x9 => (sb (SE.brw (fun _ z => nomatch z) (sx (q_lrng _) (sb (sx (q_bin _ _ _) (sb (SE.brw (fun _ z => nomatch z) (sx (q_bi _ _) (b_p (v_sh rfl) (b_nil (f_maxT thing_1))))) fun x7 => (sp (nb (fun _ z => nomatch z) (q_cst _)) (SE.pure (a_add _ _))))) fun x8 => (f_lrng _)))) fun x10 => (SE.pure (a_eq (eq_L eq_I) (by decide) x9 x10)))))))) (trivial)
def s_is_order_1 (thing_1 : D) : R Bool := OT.toR (.bad) (σ := Unit) (
  (((isiR thing_1 "tuple").bind fun x2 => R.ok (!x2)).bind fun b6 => if b6 = true then R.ok true else ((biD .len [thing_1]).bind fun x3 => (cmpD .le (eI (1 : Int)) x3).bind fun b4 => if b4 = true then cmpD .le x3 (eI (6 : Int)) else R.ok false).bind fun x5 => R.ok (!x5)).toO fun b19 => (if b19 = true then OT.rt false else OT.nx ()).andThen fun (s7 : Unit) =>
  ((((itemsD .seq thing_1 .non).bind fun l9 => mapT (fun (z8 : D) => s_is_count_1 z8 (0 : Int) ((6 : Int) - (1 : Int))) l9).bind fun x11 => R.ok (x11.all id)).bind fun x12 => R.ok (!x12)).toO fun b18 => (if b18 = true then OT.rt false else OT.nx ()).andThen fun (s13 : Unit) =>
  ((ssetD thing_1).bind fun x16 => (((biD .max [thing_1]).bind fun x14 => binD .add x14 (eI (1 : Int))).bind fun x15 => (lrngD x15).map .lst).bind fun x17 => cmpD .eq x16 x17).toO fun y => OT.rt y)
theorem T_is_order_1 (m : Nat) (thing_1 : D) : SE eB (F (m + 2) "is_order" [eD thing_1]) (s_is_order_1 thing_1) := by
  rw [phi g_is_order]
  unfold s_is_order_1
  exact run_SE (ρ0 := [.sh (eD thing_1), .no]) (E := (fun (_ : Unit) => [])) rfl rfl
    (o_iff (E1 := (fun (s7 : Unit) => [.sh (eD thing_1), .no])) (sx (q_or _ _) (sb (sx (q_not _) (sb (sx (q_isi _ _) (sp (v_sh rfl) (f_isi _ _))) fun x2 => (SE.pure (rfl)))) fun b6 => (s_asB (s_if (fun _ => rfl) (fun _ => sx (q_one _) (sx (q_not _) (sb (sx (q_chn _ _ _ _ _) (sp (nb (fun _ z => nomatch z) (q_cst _)) (sb (SE.brw (fun _ z => nomatch z) (sx (q_bi _ _) (b_p (v_sh rfl) (b_nil (SE.raw))))) fun x3 => (sb SE.self fun b4 => s_if (fun _ => sp (nb (fun _ z => nomatch z) (q_glb c_MOST_ITEMS)) SE.rawB) (fun _ => rfl))))) fun x5 => (SE.pure (rfl))))))))) (o_retP (q_cst _)) (o_nil (s := ()) rfl) fun s7 =>
      (o_iff (E1 := (fun (s13 : Unit) => [.sh (eD thing_1), .no])) (sx (q_not _) (sb (sx (q_bi _ _) (b_b (SE.brw (fun _ z => nomatch z) (lc_i rfl (sx i_seq (sp (q_var rfl) (f_itD _ _ _))) fun l9 h10 => (lc_pt (ea := eD) (eb := eB) (ρ' := fun z8 => [.sh (eD thing_1), .sh (eD z8)]) rfl h10 (fun _ => rfl) (fun z8 => sx (q_cal _ _) (l_p (q_var rfl) (l_p (q_cst _) (l_p ((q_bin _ _ _).trans (pb (nb (fun _ z => nomatch z) (q_glb c_MOST_ITEMS)) (pb (nb (fun _ z => nomatch z) (q_cst _)) (a_sub _ _)))) (l_nil (T_is_count_1 m z8 (0 : Int) ((6 : Int) - (1 : Int))))))))))) fun x11 => (b_nil (SE.pure (f_allL x11))))) fun x12 => (SE.pure (rfl)))) (o_retP (q_cst _)) (o_nil (s := ()) rfl) fun s13 =>
      (o_ret (sx (q_cmp _ _ _) (sb (SE.brw (fun _ z => nomatch z) (sx (q_sset _) (sp (v_sh rfl) (SE.raw)))) fun x16 => (sb (SE.brw (fun _ z => nomatch z) (sx (q_lrng _) (sb (sx (q_bin _ _ _) (sb (SE.brw (fun _ z => nomatch z) (sx (q_bi _ _) (b_p (v_sh rfl) (b_nil (SE.raw))))) fun x14 => (sp (nb (fun _ z => nomatch z) (q_cst _)) (SE.raw)))) fun x15 => (SE.raw)))) fun x17 => (SE.rawB))))))) (trivial)
def s_need_order (order_1 : (List Int)) : R Unit := OT.toR (.ok ()) (σ := Unit) (
  ((s_is_order order_1).bind fun x2 => R.ok (!x2)).toO fun b4 => (if b4 = true then OT.xc "BadOrder" else OT.nx ()).andThen fun (s3 : Unit) =>
  OT.nx ())
theorem T_need_order (m : Nat) (order_1 : (List Int)) : SE eN (F (m + 3) "need_order" [(eT eI) order_1]) (s_need_order order_1) := by
  rw [phi g_need_order]
  unfold s_need_order
  exact run_SE (ρ0 := [.sh ((eT eI) order_1)]) (E := (fun (_ : Unit) => [.sh ((eT eI) order_1)])) rfl rfl
    (o_iff (E1 := (fun (s3 : Unit) => [.sh ((eT eI) order_1)])) (sx (q_not _) (sb (sx (q_cal _ _) (l_p (q_var rfl) (l_nil (T_is_order m order_1)))) fun x2 => (SE.pure (rfl)))) (o_rse) (o_nil (s := ()) rfl) fun s3 =>
      (o_nil (s := ()) rfl)) (rfl)
def s_need_order_1 (order_1 : D) : R Unit := OT.toR (.ok ()) (σ := Unit) (
  ((s_is_order_1 order_1).bind fun x2 => R.ok (!x2)).toO fun b4 => (if b4 = true then OT.xc "BadOrder" else OT.nx ()).andThen fun (s3 : Unit) =>
  OT.nx ())
theorem T_need_order_1 (m : Nat) (order_1 : D) : SE eN (F (m + 3) "need_order" [eD order_1]) (s_need_order_1 order_1) := by
  rw [phi g_need_order]
  unfold s_need_order_1
  exact run_SE (ρ0 := [.sh (eD order_1)]) (E := (fun (_ : Unit) => [.sh (eD order_1)])) rfl rfl
    (o_iff (E1 := (fun (s3 : Unit) => [.sh (eD order_1)])) (sx (q_not _) (sb (sx (q_cal _ _) (l_p (q_var rfl) (l_nil (T_is_order_1 m order_1)))) fun x2 => (SE.pure (rfl)))) (o_rse) (o_nil (s := ()) rfl) fun s3 =>
      (o_nil (s := ()) rfl)) (rfl)
def s_part (order_1 : (List Int)) (items_2 : (List Int)) : R (List Int) := OT.toR (.bad) (σ := Unit) (
  (s_need_order order_1).toO fun _ =>
  (if true = true then if (!decide (items_2 = ([] : (List Int)))) = true then (mapT (fun (z3 : Int) => s_is_count z3 (0 : Int) (((order_1.length : Nat) : Int) - (1 : Int))) items_2).bind fun x4 => R.ok (x4.all id) else R.ok false else R.ok false).toO fun good_5 =>
  (R.ok ((!good_5) || (!((((cutL items_2 none (some (-(1 : Int)))).zip (cutL items_2 (some (1 : Int)) none)).map (fun (z6 : (Int × Int)) => (decide (z6.1 < z6.2)))).all id)))).toO fun b10 => (if b10 = true then OT.xc "BadItem" else OT.nx ()).andThen fun (s7 : Unit) =>
  ((mapT (fun (z8 : Int) => atR order_1 z8) items_2).bind fun x9 => s_tidied x9).toO fun y => OT.rt y)
theorem T_part (m : Nat) (order_1 : (List Int)) (items_2 : (List Int)) : SE (eT eI) (F (m + 4) "part" [(eT eI) order_1, (eL eI) items_2]) (s_part order_1 items_2) := by
  rw [phi g_part]
  unfold s_part
  exact run_SE (ρ0 := [.sh ((eT eI) order_1), .sh ((eL eI) items_2), .no, .no, .no, .no]) (E := (fun (_ : Unit) => [])) rfl rfl
    (o_expr (sx (q_cal _ _) (l_p (q_var rfl) (l_nil (T_need_order m order_1)))) (o_set (ed := eB) (ρ' := fun good_5 => [.sh ((eT eI) order_1), .sh ((eL eI) items_2), .sh (eB good_5), .no, .no, .no]) (sx (q_and _ _) (sp ((q_isi _ _).trans (pb (v_sh rfl) (f_isiC k_list_list (fun _ z => nomatch z)))) (s_asB (s_if (fun _ => sx (q_and _ _) (sp ((q_cmp _ _ _).trans (pb (v_sh rfl) (pb (nb (fun _ z => nomatch z) ((q_lst _).trans (pl_nil (rfl)))) (a_ne (eq_L eq_I) (by decide) items_2 ([] : (List Int)))))) (s_asB (s_if (fun _ => sx (q_one _) (sx (q_bi _ _) (b_b (SE.brw (fun _ z => nomatch z) (lc_pt (ea := eI) (eb := eB) (ρ' := fun z3 => [.sh ((eT eI) order_1), .sh ((eL eI) items_2), .no, .sh (eI z3), .no, .no]) rfl (i_seq.trans (pb (q_var rfl) (f_itL (e := eI) items_2 _))) (fun _ => rfl) (fun z3 => sx (q_cal _ _) (l_p (q_var rfl) (l_p (q_cst _) (l_p ((q_bin _ _ _).trans (pb (nb (fun _ z => nomatch z) ((q_bi _ _).trans (pbl_p (v_sh rfl) (pbl_nil (f_lenT (e := eI) order_1))))) (pb (nb (fun _ z => nomatch z) (q_cst _)) (a_sub _ _)))) (l_nil (T_is_count (m + 2) z3 (0 : Int) (((order_1.length : Nat) : Int) - (1 : Int)))))))))) fun x4 => (b_nil (SE.pure (f_allL x4)))))) (fun _ => rfl))))) (fun _ => rfl))))) (of_decide_eq_true rfl) (fun _ => rfl) fun good_5 =>
      (o_iff (E1 := (fun (s7 : Unit) => [.sh ((eT eI) order_1), .sh ((eL eI) items_2), .sh (eB good_5), .no, .no, .no])) (SE.pure (p_or ((q_not _).trans (pb (q_var rfl) (rfl))) ((q_one _).trans ((q_not _).trans (pb ((q_bi _ _).trans (pbl_p (nb (fun _ z => nomatch z) (lc_p (ea := (eP eI eI)) (eb := eB) (ρ' := fun z6 => [.sh ((eT eI) order_1), .sh ((eL eI) items_2), .sh (eB good_5), .no, .sh (eI z6.1), .sh (eI z6.2)]) (g := (fun (z6 : (Int × Int)) => (decide (z6.1 < z6.2)))) rfl ((i_two rfl).trans (pb ((q_slc _ _ _).trans (pb (v_sh rfl) (pb (o_no _) (pb (o_some rfl ((q_neg _).trans (pb (q_cst _) (rfl)))) (f_cutL (e := eI) items_2 _ _))))) (pb ((q_slc _ _ _).trans (pb (v_sh rfl) (pb (o_some rfl (q_cst _)) (pb (o_no _) (f_cutL (e := eI) items_2 _ _))))) (f_zip (e := eI) (f := eI) (cutL items_2 none (some (-(1 : Int)))) (cutL items_2 (some (1 : Int)) none) rfl rfl)))) (fun _ => rfl) (fun z6 => (q_cmp _ _ _).trans (pb (v_sh rfl) (pb (v_sh rfl) (a_lt _ _)))))) (pbl_nil (f_allL (((cutL items_2 none (some (-(1 : Int)))).zip (cutL items_2 (some (1 : Int)) none)).map (fun (z6 : (Int × Int)) => (decide (z6.1 < z6.2)))))))) (rfl)))))) (o_rse) (o_nil (s := ()) rfl) fun s7 =>
      (o_ret (sx (q_cal _ _) (l_b (lc_pt (ea := eI) (eb := eI) (ρ' := fun z8 => [.sh ((eT eI) order_1), .sh ((eL eI) items_2), .sh (eB good_5), .sh (eI z8), .no, .no]) rfl (i_seq.trans (pb (q_var rfl) (f_itL (e := eI) items_2 _))) (fun _ => rfl) (fun z8 => sx (q_sub _ _) (sp (v_sh rfl) (sp (v_sh rfl) (f_atT (e := eI) order_1 z8))))) fun x9 => (l_nil (T_tidied (m + 2) x9)))))))) (trivial)
def s_with_one (order_1 : (List Int)) : R (List (List Int)) := OT.toR (.bad) (σ := Unit) (
  (s_need_order order_1).toO fun _ =>
  (R.ok (decide (((order_1.length : Nat) : Int) = (6 : Int)))).toO fun b12 => (if b12 = true then OT.xc "BadOrder" else OT.nx ()).andThen fun (s2 : Unit) =>
  (((((maxR order_1).bind fun x3 => R.ok ((2 : Int) * x3)).bind fun x4 => R.ok (x4 + (2 : Int))).bind fun x5 => rngR (-(1 : Int)) x5).bind fun l9 => mapT (fun (z6 : Int) => (catR (order_1.map (fun (z7 : Int) => ((2 : Int) * z7))) ([z6] : (List Int))).bind fun x8 => s_tidied x8) l9).toO fun rows_11 =>
  (srtR rows_11).toO fun y => OT.rt y)
theorem T_with_one (m : Nat) (order_1 : (List Int)) : SE (eL (eT eI)) (F (m + 4) "with_one" [(eT eI) order_1]) (s_with_one order_1) := by
  rw [phi g_with_one]
  unfold s_with_one
  exact run_SE (ρ0 := [.sh ((eT eI) order_1), .no, .no, .no]) (E := (fun (_ : Unit) => [])) rfl rfl
    (o_expr (sx (q_cal _ _) (l_p (q_var rfl) (l_nil (T_need_order m order_1)))) (o_iff (E1 := (fun (s2 : Unit) => [.sh ((eT eI) order_1), .no, .no, .no])) (SE.pure ((q_cmp _ _ _).trans (pb (nb (fun _ z => nomatch z) ((q_bi _ _).trans (pbl_p (v_sh rfl) (pbl_nil (f_lenT (e := eI) order_1))))) (pb (nb (fun _ z => nomatch z) (q_glb c_MOST_ITEMS)) (a_eq eq_I (by decide) ((order_1.length : Nat) : Int) (6 : Int)))))) (o_rse) (o_nil (s := ()) rfl) fun s2 =>
      (o_set (ed := (eL (eT eI))) (ρ' := fun rows_11 => [.sh ((eT eI) order_1), .sh ((eL (eT eI)) rows_11), .no, .no]) (lc_i rfl (sx (i_two rfl) (sp ((q_neg _).trans (pb (q_cst _) (rfl))) (sb (sx (q_bin _ _ _) (sb (SE.brw (fun _ z => nomatch z) (sx (q_bin _ _ _) (sp (nb (fun _ z => nomatch z) (q_cst _)) (sb (SE.brw (fun _ z => nomatch z) (sx (q_bi _ _) (b_p (v_sh rfl) (b_nil (f_maxT order_1))))) fun x3 => (SE.pure (a_cmul (by decide))))))) fun x4 => (sp (nb (fun _ z => nomatch z) (q_cst _)) (SE.pure (a_add _ _))))) fun x5 => (f_rng2 _ _)))) fun l9 h10 => (lc_pt (ea := eI) (eb := (eT eI)) (ρ' := fun z6 => [.sh ((eT eI) order_1), .no, .sh (eI z6), .no]) rfl h10 (fun _ => rfl) (fun z6 => sx (q_cal _ _) (l_b (sx (q_bin _ _ _) (sp (nb (fun _ z => nomatch z) (lc_p (ea := eI) (eb := eI) (ρ' := fun z7 => [.sh ((eT eI) order_1), .no, .sh (eI z6), .sh (eI z7)]) (g := (fun (z7 : Int) => ((2 : Int) * z7))) rfl (i_seq.trans (pb (q_var rfl) (f_itT (e := eI) order_1 _))) (fun _ => rfl) (fun z7 => (q_bin _ _ _).trans (pb (nb (fun _ z => nomatch z) (q_cst _)) (pb (v_sh rfl) (a_cmul (by decide))))))) (sp (nb (fun _ z => nomatch z) ((q_lst _).trans (pl_p (q_var rfl) (pl_nil (rfl))))) (a_catL (e := eI) (order_1.map (fun (z7 : Int) => ((2 : Int) * z7))) ([z6] : (List Int)))))) fun x8 => (l_nil (T_tidied (m + 2) x8)))))) (of_decide_eq_true rfl) (fun _ => rfl) fun rows_11 =>
      (o_ret (sx (q_srt _) (sp (v_sh rfl) (f_srt rows_11))))))) (trivial)
def s_glued (one_1 : (List Int)) (other_2 : (List Int)) : R (List Int) := OT.toR (.bad) (σ := Unit) (
  (s_need_order one_1).toO fun _ =>
  (s_need_order other_2).toO fun _ =>
  (R.ok (decide ((6 : Int) < (((one_1.length : Nat) : Int) + ((other_2.length : Nat) : Int))))).toO fun b9 => (if b9 = true then OT.xc "BadOrder" else OT.nx ()).andThen fun (s3 : Unit) =>
  (((mapT (fun (z4 : Int) => ((maxR one_1).bind fun x5 => R.ok (z4 + x5)).bind fun x6 => R.ok (x6 + (1 : Int))) other_2).bind fun x7 => R.ok x7).bind fun x8 => catR one_1 x8).toO fun y => OT.rt y)
theorem T_glued (m : Nat) (one_1 : (List Int)) (other_2 : (List Int)) : SE (eT eI) (F (m + 4) "glued" [(eT eI) one_1, (eT eI) other_2]) (s_glued one_1 other_2) := by
  rw [phi g_glued]
  unfold s_glued
  exact run_SE (ρ0 := [.sh ((eT eI) one_1), .sh ((eT eI) other_2), .no]) (E := (fun (_ : Unit) => [])) rfl rfl
    (o_expr (sx (q_cal _ _) (l_p (q_var rfl) (l_nil (T_need_order m one_1)))) (o_expr (sx (q_cal _ _) (l_p (q_var rfl) (l_nil (T_need_order m other_2)))) (o_iff (E1 := (fun (s3 : Unit) => [.sh ((eT eI) one_1), .sh ((eT eI) other_2), .no])) (SE.pure ((q_cmp _ _ _).trans (pb (nb (fun _ z => nomatch z) ((q_bin _ _ _).trans (pb (nb (fun _ z => nomatch z) ((q_bi _ _).trans (pbl_p (v_sh rfl) (pbl_nil (f_lenT (e := eI) one_1))))) (pb (nb (fun _ z => nomatch z) ((q_bi _ _).trans (pbl_p (v_sh rfl) (pbl_nil (f_lenT (e := eI) other_2))))) (a_add _ _))))) (pb (nb (fun _ z => nomatch z) (q_glb c_MOST_ITEMS)) (a_gt _ _))))) (o_rse) (o_nil (s := ()) rfl) fun s3 =>
      (o_ret (sx (q_bin _ _ _) (sp (v_sh rfl) (sb (SE.brw (fun _ z => nomatch z) (sx (q_bi _ _) (b_b (SE.brw (fun _ z => nomatch z) (lc_pt (ea := eI) (eb := eI) (ρ' := fun z4 => [.sh ((eT eI) one_1), .sh ((eT eI) other_2), .sh (eI z4)]) rfl (i_seq.trans (pb (q_var rfl) (f_itT (e := eI) other_2 _))) (fun _ => rfl) (fun z4 => sx (q_bin _ _ _) (sb (SE.brw (fun _ z => nomatch z) (sx (q_bin _ _ _) (sp (v_sh rfl) (sb (SE.brw (fun _ z => nomatch z) (sx (q_bi _ _) (b_p (v_sh rfl) (b_nil (f_maxT one_1))))) fun x5 => (SE.pure (a_add _ _)))))) fun x6 => (sp (nb (fun _ z => nomatch z) (q_cst _)) (SE.pure (a_add _ _))))))) fun x7 => (b_nil (SE.pure (f_tupleL (e := eI) x7)))))) fun x8 => (a_catT (e := eI) one_1 x8)))))))) (trivial)
def s_inner (order_1 : (List Int)) (rows_2 : (List (List Int))) : R (List Int) := OT.toR (.bad) (σ := Unit) (
  (s_need_order order_1).toO fun _ =>
  (R.ok ((!true) || (!decide (((rows_2.length : Nat) : Int) = ((order_1.length : Nat) : Int))))).toO fun b17 => (if b17 = true then OT.xc "BadOrder" else OT.nx ()).andThen fun (s3 : Unit) =>
  (R.ok rows_2).toO fun l6 => (forT (fun (i5 : (List Int)) (s4 : Unit) =>
  (s_need_order i5).toO fun _ =>
  OT.nx ()) l6 ()).andThen fun (s4 : Unit) =>
  (R.ok (decide ((6 : Int) < (rows_2.map (fun (z7 : (List Int)) => ((z7.length : Nat) : Int))).sum))).toO fun b16 => (if b16 = true then OT.xc "BadOrder" else OT.nx ()).andThen fun (s8 : Unit) =>
  (R.ok ([] : (List (List Int)))).toO fun found_9 =>
  (R.ok (order_1.zip rows_2)).toO fun l15 => (forT (fun (i11 : (Int × (List Int))) (s10 : (List (List Int))) =>
  ((R.ok (i11.2.map (fun (z12 : Int) => ([i11.1, z12] : (List Int))))).bind fun x14 => extR s10 x14).toO fun found_13 =>
  OT.nx found_13) l15 found_9).andThen fun (s10 : (List (List Int))) =>
  (s_tidied_1 s10).toO fun y => OT.rt y)
theorem T_inner (m : Nat) (order_1 : (List Int)) (rows_2 : (List (List Int))) : SE (eT eI) (F (m + 4) "inner" [(eT eI) order_1, (eL (eT eI)) rows_2]) (s_inner order_1 rows_2) := by
  rw [phi g_inner]
  unfold s_inner
  exact run_SE (ρ0 := [.sh ((eT eI) order_1), .sh ((eL (eT eI)) rows_2), .no, .no, .no, .no]) (E := (fun (_ : Unit) => [])) rfl rfl
    (o_expr (sx (q_cal _ _) (l_p (q_var rfl) (l_nil (T_need_order m order_1)))) (o_iff (E1 := (fun (s3 : Unit) => [.sh ((eT eI) order_1), .sh ((eL (eT eI)) rows_2), .no, .no, .no, .no])) (SE.pure (p_or ((q_not _).trans (pb ((q_isi _ _).trans (pb (v_sh rfl) (f_isiC k_list_list (fun _ z => nomatch z)))) (rfl))) ((q_one _).trans ((q_cmp _ _ _).trans (pb (nb (fun _ z => nomatch z) ((q_bi _ _).trans (pbl_p (v_sh rfl) (pbl_nil (f_lenL (e := (eT eI)) rows_2))))) (pb (nb (fun _ z => nomatch z) ((q_bi _ _).trans (pbl_p (v_sh rfl) (pbl_nil (f_lenT (e := eI) order_1))))) (a_ne eq_I (by decide) ((rows_2.length : Nat) : Int) ((order_1.length : Nat) : Int)))))))) (o_rse) (o_nil (s := ()) rfl) fun s3 =>
      (o_for (ea := (eT eI)) (E1 := (fun (s4 : Unit) => [.sh ((eT eI) order_1), .sh ((eL (eT eI)) rows_2), .no, .no, .no, .no])) (s0 := ()) rfl (SE.pure (i_seq.trans (pb (q_var rfl) (f_itL (e := (eT eI)) rows_2 _)))) (fun i5 s4 => bo_g (ρ' := [.sh ((eT eI) order_1), .sh ((eL (eT eI)) rows_2), .sh ((eT eI) i5), .no, .no, .no]) rfl (o_expr (sx (q_cal _ _) (l_p (q_var rfl) (l_nil (T_need_order m i5)))) (o_del (ρ' := [.sh ((eT eI) order_1), .sh ((eL (eT eI)) rows_2), .no, .no, .no, .no]) rfl (o_nil (s := ()) rfl)))) fun s4 =>
      (o_iff (E1 := (fun (s8 : Unit) => [.sh ((eT eI) order_1), .sh ((eL (eT eI)) rows_2), .no, .no, .no, .no])) (SE.pure ((q_cmp _ _ _).trans (pb (nb (fun _ z => nomatch z) ((q_bi _ _).trans (pbl_p (nb (fun _ z => nomatch z) (lc_p (ea := (eT eI)) (eb := eI) (ρ' := fun z7 => [.sh ((eT eI) order_1), .sh ((eL (eT eI)) rows_2), .sh ((eT eI) z7), .no, .no, .no]) (g := (fun (z7 : (List Int)) => ((z7.length : Nat) : Int))) rfl (i_seq.trans (pb (q_var rfl) (f_itL (e := (eT eI)) rows_2 _))) (fun _ => rfl) (fun z7 => (q_bi _ _).trans (pbl_p (v_sh rfl) (pbl_nil (f_lenT (e := eI) z7)))))) (pbl_nil (f_sumL (rows_2.map (fun (z7 : (List Int)) => ((z7.length : Nat) : Int)))))))) (pb (nb (fun _ z => nomatch z) (q_glb c_MOST_ITEMS)) (a_gt _ _))))) (o_rse) (o_nil (s := ()) rfl) fun s8 =>
      (o_setO (ed := (eL (eT eI))) (ρ' := fun found_9 => [.sh ((eT eI) order_1), .sh ((eL (eT eI)) rows_2), .no, .ow ((eL (eT eI)) found_9), .no, .no]) (SE.pure ((q_lst _).trans (pl_nil (rfl)))) (of_decide_eq_true rfl) (fun _ => rfl) (fun _ => rfl) fun found_9 =>
      (o_for (ea := (eP eI (eT eI))) (E1 := (fun (s10 : (List (List Int))) => [.sh ((eT eI) order_1), .sh ((eL (eT eI)) rows_2), .no, .ow ((eL (eT eI)) s10), .no, .no])) (s0 := found_9) rfl (SE.pure ((i_two rfl).trans (pb (q_var rfl) (pb (q_var rfl) (f_zip (e := eI) (f := (eT eI)) order_1 rows_2 rfl rfl))))) (fun i11 s10 => bo_g (ρ' := [.sh ((eT eI) order_1), .sh ((eL (eT eI)) rows_2), .sh ((eT eI) i11.2), .ow ((eL (eT eI)) s10), .sh (eI i11.1), .no]) rfl (o_ext (ρ' := fun found_13 => [.sh ((eT eI) order_1), .sh ((eL (eT eI)) rows_2), .sh ((eT eI) i11.2), .ow ((eL (eT eI)) found_13), .sh (eI i11.1), .no]) rfl (SE.pure (lc_p (ea := eI) (eb := (eT eI)) (ρ' := fun z12 => [.sh ((eT eI) order_1), .sh ((eL (eT eI)) rows_2), .sh ((eT eI) i11.2), .ow ((eL (eT eI)) s10), .sh (eI i11.1), .sh (eI z12)]) (g := (fun (z12 : Int) => ([i11.1, z12] : (List Int)))) rfl (i_seq.trans (pb (q_var rfl) (f_itT (e := eI) i11.2 _))) (fun _ => rfl) (fun z12 => (q_tup _).trans (pl_p (q_var rfl) (pl_p (q_var rfl) (pl_nil (rfl))))))) (fun _ => rfl) fun found_13 =>
      (o_del (ρ' := [.sh ((eT eI) order_1), .sh ((eL (eT eI)) rows_2), .no, .ow ((eL (eT eI)) found_13), .sh (eI i11.1), .no]) rfl (o_del (ρ' := [.sh ((eT eI) order_1), .sh ((eL (eT eI)) rows_2), .no, .ow ((eL (eT eI)) found_13), .no, .no]) rfl (o_nil (s := found_13) rfl))))) fun s10 =>
      (o_rel (ρ' := [.sh ((eT eI) order_1), .sh ((eL (eT eI)) rows_2), .no, .sh ((eL (eT eI)) s10), .no, .no]) rfl (o_ret (sx (q_cal _ _) (l_p (q_var rfl) (l_nil (T_tidied_1 (m + 2) s10)))))))))))) (trivial)
def s_part_1 (order_1 : (List Int)) (items_2 : D) : R (List Int) := OT.toR (.bad) (σ := Unit) (
  (s_need_order order_1).toO fun _ =>
  ((isiR items_2 "list").bind fun b8 => if b8 = true then (cmpD .ne items_2 ((eL eI) ([] : (List Int)))).bind fun b7 => if b7 = true then ((itemsD .seq items_2 .non).bind fun l4 => mapT (fun (z3 : D) => s_is_count_1 z3 (0 : Int) (((order_1.length : Nat) : Int) - (1 : Int))) l4).bind fun x6 => R.ok (x6.all id) else R.ok false else R.ok false).toO fun good_9 =>
  (if (!good_9) = true then R.ok true else ((((slcD items_2 none (some (-(1 : Int)))).bind fun x10 => (slcD items_2 (some (1 : Int)) none).bind fun x11 => zipDR x10 x11).bind fun l13 => mapT (fun (z12 : (D × D)) => cmpD .lt z12.1 z12.2) l13).bind fun x15 => R.ok (x15.all id)).bind fun x16 => R.ok (!x16)).toO fun b19 => (if b19 = true then OT.xc "BadItem" else OT.nx ()).andThen fun (s17 : Unit) =>
  OT.bad)
theorem T_part_1 (m : Nat) (order_1 : (List Int)) (items_2 : D) : SE (eT eI) (F (m + 4) "part" [(eT eI) order_1, eD items_2]) (s_part_1 order_1 items_2) := by
  rw [phi g_part]
  unfold s_part_1
  exact run_SE (ρ0 := [.sh ((eT eI) order_1), .sh (eD items_2), .no, .no, .no, .no]) (E := (fun (_ : Unit) => [])) rfl rfl
    (o_expr (sx (q_cal _ _) (l_p (q_var rfl) (l_nil (T_need_order m order_1)))) (o_set (ed := eB) (ρ' := fun good_9 => [.sh ((eT eI) order_1), .sh (eD items_2), .sh (eB good_9), .no, .no, .no]) (sx (q_and _ _) (sb (sx (q_isi _ _) (sp (v_sh rfl) (f_isi _ _))) fun b8 => (s_asB (s_if (fun _ => sx (q_and _ _) (sb (sx (q_cmp _ _ _) (sp (v_sh rfl) (sp (nb (fun _ z => nomatch z) ((q_lst _).trans (pl_nil (rfl)))) (SE.rawB)))) fun b7 => (s_asB (s_if (fun _ => sx (q_one _) (sx (q_bi _ _) (b_b (SE.brw (fun _ z => nomatch z) (lc_i rfl (sx i_seq (sp (q_var rfl) (f_itD _ _ _))) fun l4 h5 => (lc_pt (ea := eD) (eb := eB) (ρ' := fun z3 => [.sh ((eT eI) order_1), .sh (eD items_2), .no, .sh (eD z3), .no, .no]) rfl h5 (fun _ => rfl) (fun z3 => sx (q_cal _ _) (l_p (q_var rfl) (l_p (q_cst _) (l_p ((q_bin _ _ _).trans (pb (nb (fun _ z => nomatch z) ((q_bi _ _).trans (pbl_p (v_sh rfl) (pbl_nil (f_lenT (e := eI) order_1))))) (pb (nb (fun _ z => nomatch z) (q_cst _)) (a_sub _ _)))) (l_nil (T_is_count_1 (m + 2) z3 (0 : Int) (((order_1.length : Nat) : Int) - (1 : Int))))))))))) fun x6 => (b_nil (SE.pure (f_allL x6)))))) (fun _ => rfl))))) (fun _ => rfl))))) (of_decide_eq_true rfl) (fun _ => rfl) fun good_9 =>
      (o_iff (E1 := (fun (s17 : Unit) => [.sh ((eT eI) order_1), .sh (eD items_2), .sh (eB good_9), .no, .no, .no])) (sx (q_or _ _) (sp ((q_not _).trans (pb (q_var rfl) (rfl))) (s_asB (s_if (fun _ => rfl) (fun _ => sx (q_one _) (sx (q_not _) (sb (sx (q_bi _ _) (b_b (SE.brw (fun _ z => nomatch z) (lc_i rfl (sx (i_two rfl) (sb (sx (q_slc _ _ _) (sp (v_sh rfl) (sp (o_no _) (sp (o_some rfl ((q_neg _).trans (pb (q_cst _) (rfl)))) (SE.raw))))) fun x10 => (sb (sx (q_slc _ _ _) (sp (v_sh rfl) (sp (o_some rfl (q_cst _)) (sp (o_no _) (SE.raw))))) fun x11 => (f_zipD _ _)))) fun l13 h14 => (lc_pt (ea := (eP eD eD)) (eb := eB) (ρ' := fun z12 => [.sh ((eT eI) order_1), .sh (eD items_2), .sh (eB good_9), .no, .sh (eD z12.1), .sh (eD z12.2)]) rfl h14 (fun _ => rfl) (fun z12 => sx (q_cmp _ _ _) (sp (v_sh rfl) (sp (v_sh rfl) (SE.rawB))))))) fun x15 => (b_nil (SE.pure (f_allL x15))))) fun x16 => (SE.pure (rfl))))))))) (o_rse) (o_nil (s := ()) rfl) fun s17 =>
      (trivial)))) (trivial)
def s_part_2 (order_1 : D) (items_2 : Unit) : R Unit := OT.toR (.ok ()) (σ := Unit) (
  (s_need_order_1 order_1).toO fun _ =>
  OT.bad)
theorem T_part_2 (m : Nat) (order_1 : D) (items_2 : Unit) : SE eN (F (m + 4) "part" [eD order_1, eN items_2]) (s_part_2 order_1 items_2) := by
  rw [phi g_part]
  unfold s_part_2
  exact run_SE (ρ0 := [.sh (eD order_1), .sh (eN items_2), .no, .no, .no, .no]) (E := (fun (_ : Unit) => [])) rfl rfl
    (o_expr (sx (q_cal _ _) (l_p (q_var rfl) (l_nil (T_need_order_1 m order_1)))) (trivial)) (rfl)
def s_with_one_1 (order_1 : D) : R Unit := OT.toR (.ok ()) (σ := Unit) (
  (s_need_order_1 order_1).toO fun _ =>
  ((biD .len [order_1]).bind fun x2 => cmpD .eq x2 (eI (6 : Int))).toO fun b4 => (if b4 = true then OT.xc "BadOrder" else OT.nx ()).andThen fun (s3 : Unit) =>
  OT.bad)
theorem T_with_one_1 (m : Nat) (order_1 : D) : SE eN (F (m + 4) "with_one" [eD order_1]) (s_with_one_1 order_1) := by
  rw [phi g_with_one]
  unfold s_with_one_1
  exact run_SE (ρ0 := [.sh (eD order_1), .no, .no, .no]) (E := (fun (_ : Unit) => [])) rfl rfl
    (o_expr (sx (q_cal _ _) (l_p (q_var rfl) (l_nil (T_need_order_1 m order_1)))) (o_iff (E1 := (fun (s3 : Unit) => [.sh (eD order_1), .no, .no, .no])) (sx (q_cmp _ _ _) (sb (SE.brw (fun _ z => nomatch z) (sx (q_bi _ _) (b_p (v_sh rfl) (b_nil (SE.raw))))) fun x2 => (sp (nb (fun _ z => nomatch z) (q_glb c_MOST_ITEMS)) (SE.rawB)))) (o_rse) (o_nil (s := ()) rfl) fun s3 =>
      (trivial))) (rfl)
def s_glued_1 (one_1 : (List Int)) (other_2 : D) : R Unit := OT.toR (.ok ()) (σ := Unit) (
  (s_need_order one_1).toO fun _ =>
  (s_need_order_1 other_2).toO fun _ =>
  (((biD .len [other_2]).bind fun x3 => binD .add (eI ((one_1.length : Nat) : Int)) x3).bind fun x4 => cmpD .gt x4 (eI (6 : Int))).toO fun b6 => (if b6 = true then OT.xc "BadOrder" else OT.nx ()).andThen fun (s5 : Unit) =>
  OT.bad)
theorem T_glued_1 (m : Nat) (one_1 : (List Int)) (other_2 : D) : SE eN (F (m + 4) "glued" [(eT eI) one_1, eD other_2]) (s_glued_1 one_1 other_2) := by
  rw [phi g_glued]
  unfold s_glued_1
  exact run_SE (ρ0 := [.sh ((eT eI) one_1), .sh (eD other_2), .no]) (E := (fun (_ : Unit) => [])) rfl rfl
    (o_expr (sx (q_cal _ _) (l_p (q_var rfl) (l_nil (T_need_order m one_1)))) (o_expr (sx (q_cal _ _) (l_p (q_var rfl) (l_nil (T_need_order_1 m other_2)))) (o_iff (E1 := (fun (s5 : Unit) => [.sh ((eT eI) one_1), .sh (eD other_2), .no])) (sx (q_cmp _ _ _) (sb (SE.brw (fun _ z => nomatch z) (sx (q_bin _ _ _) (sp (nb (fun _ z => nomatch z) ((q_bi _ _).trans (pbl_p (v_sh rfl) (pbl_nil (f_lenT (e := eI) one_1))))) (sb (SE.brw (fun _ z => nomatch z) (sx (q_bi _ _) (b_p (v_sh rfl) (b_nil (SE.raw))))) fun x3 => (SE.raw))))) fun x4 => (sp (nb (fun _ z => nomatch z) (q_glb c_MOST_ITEMS)) (SE.rawB)))) (o_rse) (o_nil (s := ()) rfl) fun s5 =>
      (trivial)))) (rfl)
def s_inner_1 (order_1 : D) (rows_2 : Unit) : R Unit := OT.toR (.ok ()) (σ := Unit) (
  (s_need_order_1 order_1).toO fun _ =>
  OT.bad)
theorem T_inner_1 (m : Nat) (order_1 : D) (rows_2 : Unit) : SE eN (F (m + 4) "inner" [eD order_1, eN rows_2]) (s_inner_1 order_1 rows_2) := by
  rw [phi g_inner]
  unfold s_inner_1
  exact run_SE (ρ0 := [.sh (eD order_1), .sh (eN rows_2), .no, .no, .no, .no]) (E := (fun (_ : Unit) => [])) rfl rfl
    (o_expr (sx (q_cal _ _) (l_p (q_var rfl) (l_nil (T_need_order_1 m order_1)))) (trivial)) (rfl)
def s_inner_2 (order_1 : (List Int)) (rows_2 : (List D)) : R (List Int) := OT.toR (.bad) (σ := Unit) (
  (s_need_order order_1).toO fun _ =>
  (R.ok ((!true) || (!decide (((rows_2.length : Nat) : Int) = ((order_1.length : Nat) : Int))))).toO fun b8 => (if b8 = true then OT.xc "BadOrder" else OT.nx ()).andThen fun (s3 : Unit) =>
  (R.ok rows_2).toO fun l6 => (forT (fun (i5 : D) (s4 : Unit) =>
  (s_need_order_1 i5).toO fun _ =>
  OT.nx ()) l6 ()).andThen fun (s4 : Unit) =>
  OT.bad)
theorem T_inner_2 (m : Nat) (order_1 : (List Int)) (rows_2 : (List D)) : SE (eT eI) (F (m + 4) "inner" [(eT eI) order_1, (eL eD) rows_2]) (s_inner_2 order_1 rows_2) := by
  rw [phi g_inner]
  unfold s_inner_2
  exact run_SE (ρ0 := [.sh ((eT eI) order_1), .sh ((eL eD) rows_2), .no, .no, .no, .no]) (E := (fun (_ : Unit) => [])) rfl rfl
    (o_expr (sx (q_cal _ _) (l_p (q_var rfl) (l_nil (T_need_order m order_1)))) (o_iff (E1 := (fun (s3 : Unit) => [.sh ((eT eI) order_1), .sh ((eL eD) rows_2), .no, .no, .no, .no])) (SE.pure (p_or ((q_not _).trans (pb ((q_isi _ _).trans (pb (v_sh rfl) (f_isiC k_list_list (fun _ z => nomatch z)))) (rfl))) ((q_one _).trans ((q_cmp _ _ _).trans (pb (nb (fun _ z => nomatch z) ((q_bi _ _).trans (pbl_p (v_sh rfl) (pbl_nil (f_lenL (e := eD) rows_2))))) (pb (nb (fun _ z => nomatch z) ((q_bi _ _).trans (pbl_p (v_sh rfl) (pbl_nil (f_lenT (e := eI) order_1))))) (a_ne eq_I (by decide) ((rows_2.length : Nat) : Int) ((order_1.length : Nat) : Int)))))))) (o_rse) (o_nil (s := ()) rfl) fun s3 =>
      (o_for (ea := eD) (E1 := (fun (s4 : Unit) => [.sh ((eT eI) order_1), .sh ((eL eD) rows_2), .no, .no, .no, .no])) (s0 := ()) rfl (SE.pure (i_seq.trans (pb (q_var rfl) (f_itL (e := eD) rows_2 _)))) (fun i5 s4 => bo_g (ρ' := [.sh ((eT eI) order_1), .sh ((eL eD) rows_2), .sh (eD i5), .no, .no, .no]) rfl (o_expr (sx (q_cal _ _) (l_p (q_var rfl) (l_nil (T_need_order_1 m i5)))) (o_del (ρ' := [.sh ((eT eI) order_1), .sh ((eL eD) rows_2), .no, .no, .no, .no]) rfl (o_nil (s := ()) rfl)))) fun s4 =>
      (trivial)))) (trivial)
def s_inner_3 (order_1 : (List Int)) (rows_2 : (List (List Int))) : R (List Int) := OT.toR (.bad) (σ := Unit) (
  (s_need_order order_1).toO fun _ =>
  (R.ok ((!false) || (!decide (((rows_2.length : Nat) : Int) = ((order_1.length : Nat) : Int))))).toO fun b17 => (if b17 = true then OT.xc "BadOrder" else OT.nx ()).andThen fun (s3 : Unit) =>
  (R.ok rows_2).toO fun l6 => (forT (fun (i5 : (List Int)) (s4 : Unit) =>
  (s_need_order i5).toO fun _ =>
  OT.nx ()) l6 ()).andThen fun (s4 : Unit) =>
  (R.ok (decide ((6 : Int) < (rows_2.map (fun (z7 : (List Int)) => ((z7.length : Nat) : Int))).sum))).toO fun b16 => (if b16 = true then OT.xc "BadOrder" else OT.nx ()).andThen fun (s8 : Unit) =>
  (R.ok ([] : (List (List Int)))).toO fun found_9 =>
  (R.ok (order_1.zip rows_2)).toO fun l15 => (forT (fun (i11 : (Int × (List Int))) (s10 : (List (List Int))) =>
  ((R.ok (i11.2.map (fun (z12 : Int) => ([i11.1, z12] : (List Int))))).bind fun x14 => extR s10 x14).toO fun found_13 =>
  OT.nx found_13) l15 found_9).andThen fun (s10 : (List (List Int))) =>
  (s_tidied_1 s10).toO fun y => OT.rt y)
theorem T_inner_3 (m : Nat) (order_1 : (List Int)) (rows_2 : (List (List Int))) : SE (eT eI) (F (m + 4) "inner" [(eT eI) order_1, (eT (eT eI)) rows_2]) (s_inner_3 order_1 rows_2) := by
  rw [phi g_inner]
  unfold s_inner_3
  exact run_SE (ρ0 := [.sh ((eT eI) order_1), .sh ((eT (eT eI)) rows_2), .no, .no, .no, .no]) (E := (fun (_ : Unit) => [])) rfl rfl
    (o_expr (sx (q_cal _ _) (l_p (q_var rfl) (l_nil (T_need_order m order_1)))) (o_iff (E1 := (fun (s3 : Unit) => [.sh ((eT eI) order_1), .sh ((eT (eT eI)) rows_2), .no, .no, .no, .no])) (SE.pure (p_or ((q_not _).trans (pb ((q_isi _ _).trans (pb (v_sh rfl) (f_isiC k_tuple_list (fun _ z => nomatch z)))) (rfl))) ((q_one _).trans ((q_cmp _ _ _).trans (pb (nb (fun _ z => nomatch z) ((q_bi _ _).trans (pbl_p (v_sh rfl) (pbl_nil (f_lenT (e := (eT eI)) rows_2))))) (pb (nb (fun _ z => nomatch z) ((q_bi _ _).trans (pbl_p (v_sh rfl) (pbl_nil (f_lenT (e := eI) order_1))))) (a_ne eq_I (by decide) ((rows_2.length : Nat) : Int) ((order_1.length : Nat) : Int)))))))) (o_rse) (o_nil (s := ()) rfl) fun s3 =>
      (o_for (ea := (eT eI)) (E1 := (fun (s4 : Unit) => [.sh ((eT eI) order_1), .sh ((eT (eT eI)) rows_2), .no, .no, .no, .no])) (s0 := ()) rfl (SE.pure (i_seq.trans (pb (q_var rfl) (f_itT (e := (eT eI)) rows_2 _)))) (fun i5 s4 => bo_g (ρ' := [.sh ((eT eI) order_1), .sh ((eT (eT eI)) rows_2), .sh ((eT eI) i5), .no, .no, .no]) rfl (o_expr (sx (q_cal _ _) (l_p (q_var rfl) (l_nil (T_need_order m i5)))) (o_del (ρ' := [.sh ((eT eI) order_1), .sh ((eT (eT eI)) rows_2), .no, .no, .no, .no]) rfl (o_nil (s := ()) rfl)))) fun s4 =>
      (o_iff (E1 := (fun (s8 : Unit) => [.sh ((eT eI) order_1), .sh ((eT (eT eI)) rows_2), .no, .no, .no, .no])) (SE.pure ((q_cmp _ _ _).trans (pb (nb (fun _ z => nomatch z) ((q_bi _ _).trans (pbl_p (nb (fun _ z => nomatch z) (lc_p (ea := (eT eI)) (eb := eI) (ρ' := fun z7 => [.sh ((eT eI) order_1), .sh ((eT (eT eI)) rows_2), .sh ((eT eI) z7), .no, .no, .no]) (g := (fun (z7 : (List Int)) => ((z7.length : Nat) : Int))) rfl (i_seq.trans (pb (q_var rfl) (f_itT (e := (eT eI)) rows_2 _))) (fun _ => rfl) (fun z7 => (q_bi _ _).trans (pbl_p (v_sh rfl) (pbl_nil (f_lenT (e := eI) z7)))))) (pbl_nil (f_sumL (rows_2.map (fun (z7 : (List Int)) => ((z7.length : Nat) : Int)))))))) (pb (nb (fun _ z => nomatch z) (q_glb c_MOST_ITEMS)) (a_gt _ _))))) (o_rse) (o_nil (s := ()) rfl) fun s8 =>
      (o_setO (ed := (eL (eT eI))) (ρ' := fun found_9 => [.sh ((eT eI) order_1), .sh ((eT (eT eI)) rows_2), .no, .ow ((eL (eT eI)) found_9), .no, .no]) (SE.pure ((q_lst _).trans (pl_nil (rfl)))) (of_decide_eq_true rfl) (fun _ => rfl) (fun _ => rfl) fun found_9 =>
      (o_for (ea := (eP eI (eT eI))) (E1 := (fun (s10 : (List (List Int))) => [.sh ((eT eI) order_1), .sh ((eT (eT eI)) rows_2), .no, .ow ((eL (eT eI)) s10), .no, .no])) (s0 := found_9) rfl (SE.pure ((i_two rfl).trans (pb (q_var rfl) (pb (q_var rfl) (f_zip (e := eI) (f := (eT eI)) order_1 rows_2 rfl rfl))))) (fun i11 s10 => bo_g (ρ' := [.sh ((eT eI) order_1), .sh ((eT (eT eI)) rows_2), .sh ((eT eI) i11.2), .ow ((eL (eT eI)) s10), .sh (eI i11.1), .no]) rfl (o_ext (ρ' := fun found_13 => [.sh ((eT eI) order_1), .sh ((eT (eT eI)) rows_2), .sh ((eT eI) i11.2), .ow ((eL (eT eI)) found_13), .sh (eI i11.1), .no]) rfl (SE.pure (lc_p (ea := eI) (eb := (eT eI)) (ρ' := fun z12 => [.sh ((eT eI) order_1), .sh ((eT (eT eI)) rows_2), .sh ((eT eI) i11.2), .ow ((eL (eT eI)) s10), .sh (eI i11.1), .sh (eI z12)]) (g := (fun (z12 : Int) => ([i11.1, z12] : (List Int)))) rfl (i_seq.trans (pb (q_var rfl) (f_itT (e := eI) i11.2 _))) (fun _ => rfl) (fun z12 => (q_tup _).trans (pl_p (q_var rfl) (pl_p (q_var rfl) (pl_nil (rfl))))))) (fun _ => rfl) fun found_13 =>
      (o_del (ρ' := [.sh ((eT eI) order_1), .sh ((eT (eT eI)) rows_2), .no, .ow ((eL (eT eI)) found_13), .sh (eI i11.1), .no]) rfl (o_del (ρ' := [.sh ((eT eI) order_1), .sh ((eT (eT eI)) rows_2), .no, .ow ((eL (eT eI)) found_13), .no, .no]) rfl (o_nil (s := found_13) rfl))))) fun s10 =>
      (o_rel (ρ' := [.sh ((eT eI) order_1), .sh ((eT (eT eI)) rows_2), .no, .sh ((eL (eT eI)) s10), .no, .no]) rfl (o_ret (sx (q_cal _ _) (l_p (q_var rfl) (l_nil (T_tidied_1 (m + 2) s10)))))))))))) (trivial)
def s_law_joined_right (order_1 : (List Int)) (more_2 : Int) : R Bool := OT.toR (.bad) (σ := Unit) (
  (R.ok ((order_1.length : Nat) : Int)).toO fun items_3 =>
  (s_law_order (more_2 / (1073741824 : Int)) ((1 : Int) + ((more_2 / (1048576 : Int)) % (3 : Int)))).toO fun other_4 =>
  (toldR L.C ((s_glued order_1 other_4).map (eT eI))).toO fun told_5 =>
  ((catR (order_1.map (fun (z6 : Int) => ([(0 : Int), z6] : (List Int)))) (other_4.map (fun (z7 : Int) => ([(1 : Int), z7] : (List Int))))).bind fun x8 => s_law_dense_2 x8).toO fun due_9 =>
  (cmpD .ne told_5 (if (decide ((items_3 + ((other_4.length : Nat) : Int)) < (7 : Int))) = true then ((eT eI) due_9) else (eS ("BadOrder" : Str)))).toO fun b39 => (if b39 = true then OT.rt false else OT.nx ()).andThen fun (s10 : Unit) =>
  ((rng0R items_3).bind fun l14 => mapT (fun (z11 : Int) => ((s_law_drawn more_2 ((30 : Int) + z11)).bind fun x12 => R.ok (x12 % (3 : Int))).bind fun x13 => R.ok ((1 : Int) + x13)) l14).toO fun sizes_16 =>
  ((rng0R items_3).bind fun l20 => mapT (fun (z17 : Int) => (s_law_drawn more_2 ((40 : Int) + z17)).bind fun x18 => (atR sizes_16 z17).bind fun x19 => s_law_order x18 x19) l20).toO fun rows_22 =>
  (R.ok ([] : (List (List Int)))).toO fun cells_23 =>
  (R.ok (order_1.zip rows_22)).toO fun l29 => (forT (fun (i25 : (Int × (List Int))) (s24 : (List (List Int))) =>
  ((R.ok (i25.2.map (fun (z26 : Int) => ([i25.1, z26] : (List Int))))).bind fun x28 => extR s24 x28).toO fun cells_27 =>
  OT.nx cells_27) l29 cells_23).andThen fun (s24 : (List (List Int))) =>
  (R.ok (order_1, rows_22)).toO fun handed_30 =>
  (toldR L.C ((s_inner order_1 rows_22).map (eT eI))).toO fun told_31 =>
  (R.ok (!decide ((order_1, rows_22) = handed_30))).toO fun b38 => (if b38 = true then OT.rt false else OT.nx ()).andThen fun (s32 : Unit) =>
  (((if (decide ((sizes_16.sum) < (7 : Int))) = true then (s_law_dense_2 s24).map fun y33 => ((eT eI) y33) else R.ok (eS ("BadOrder" : Str))).bind fun x34 => cmpD .eq told_31 x34).bind fun b37 => if b37 = true then ((repLR ([([(0 : Int)] : (List Int))] : (List (List Int))) items_3).bind fun x35 => s_inner order_1 x35).bind fun x36 => R.ok (decide (x36 = order_1)) else R.ok false).toO fun y => OT.rt y)
theorem T_law_joined_right (m : Nat) (order_1 : (List Int)) (more_2 : Int) : SE eB (F (m + 5) "_law_joined_right" [(eT eI) order_1, eI more_2]) (s_law_joined_right order_1 more_2) := by
  rw [phi g_law_joined_right]
  unfold s_law_joined_right
  exact run_SE (ρ0 := [.sh ((eT eI) order_1), .sh (eI more_2), .no, .no, .no, .no, .no, .no, .no, .no, .no, .no, .no, .no]) (E := (fun (_ : Unit) => [])) rfl rfl
    (o_set (ed := eI) (ρ' := fun items_3 => [.sh ((eT eI) order_1), .sh (eI more_2), .sh (eI items_3), .no, .no, .no, .no, .no, .no, .no, .no, .no, .no, .no]) (SE.pure ((q_bi _ _).trans (pbl_p (v_sh rfl) (pbl_nil (f_lenT (e := eI) order_1))))) (of_decide_eq_true rfl) (fun _ => rfl) fun items_3 =>
      (o_set (ed := (eT eI)) (ρ' := fun other_4 => [.sh ((eT eI) order_1), .sh (eI more_2), .sh (eI items_3), .sh ((eT eI) other_4), .no, .no, .no, .no, .no, .no, .no, .no, .no, .no]) (sx (q_cal _ _) (l_p ((q_bin _ _ _).trans (pb (v_sh rfl) (pb (nb (fun _ z => nomatch z) ((q_bin _ _ _).trans (pb (nb (fun _ z => nomatch z) (q_cst _)) (pb (nb (fun _ z => nomatch z) (q_cst _)) (a_pow (by decide) (by decide)))))) (a_fdivc ⟨by decide, by decide +kernel⟩)))) (l_p ((q_bin _ _ _).trans (pb (nb (fun _ z => nomatch z) (q_cst _)) (pb (nb (fun _ z => nomatch z) ((q_bin _ _ _).trans (pb (nb (fun _ z => nomatch z) ((q_bin _ _ _).trans (pb (v_sh rfl) (pb (nb (fun _ z => nomatch z) ((q_bin _ _ _).trans (pb (nb (fun _ z => nomatch z) (q_cst _)) (pb (nb (fun _ z => nomatch z) (q_cst _)) (a_pow (by decide) (by decide)))))) (a_fdivc ⟨by decide, by decide +kernel⟩))))) (pb (nb (fun _ z => nomatch z) (q_cst _)) (a_modc (by decide)))))) (a_add _ _)))) (l_nil (T_law_order (m + 2) (more_2 / (1073741824 : Int)) ((1 : Int) + ((more_2 / (1048576 : Int)) % (3 : Int)))))))) (of_decide_eq_true rfl) (fun _ => rfl) fun other_4 =>
      (o_set (ed := eD) (ρ' := fun told_5 => [.sh ((eT eI) order_1), .sh (eI more_2), .sh (eI items_3), .sh ((eT eI) other_4), .sh (eD told_5), .no, .no, .no, .no, .no, .no, .no, .no, .no]) (s_told (sx (q_cal _ _) (l_p (q_var rfl) (l_p (q_var rfl) (l_nil (T_glued m order_1 other_4)))))) (of_decide_eq_true rfl) (fun _ => rfl) fun told_5 =>
      (o_set (ed := (eT eI)) (ρ' := fun due_9 => [.sh ((eT eI) order_1), .sh (eI more_2), .sh (eI items_3), .sh ((eT eI) other_4), .sh (eD told_5), .sh ((eT eI) due_9), .no, .no, .no, .no, .no, .no, .no, .no]) (sx (q_cal _ _) (l_b (sx (q_bin _ _ _) (sp (nb (fun _ z => nomatch z) (lc_p (ea := eI) (eb := (eT eI)) (ρ' := fun z6 => [.sh ((eT eI) order_1), .sh (eI more_2), .sh (eI items_3), .sh ((eT eI) other_4), .sh (eD told_5), .no, .no, .no, .no, .no, .sh (eI z6), .no, .no, .no]) (g := (fun (z6 : Int) => ([(0 : Int), z6] : (List Int)))) rfl (i_seq.trans (pb (q_var rfl) (f_itT (e := eI) order_1 _))) (fun _ => rfl) (fun z6 => (q_tup _).trans (pl_p (q_cst _) (pl_p (q_var rfl) (pl_nil (rfl))))))) (sp (nb (fun _ z => nomatch z) (lc_p (ea := eI) (eb := (eT eI)) (ρ' := fun z7 => [.sh ((eT eI) order_1), .sh (eI more_2), .sh (eI items_3), .sh ((eT eI) other_4), .sh (eD told_5), .no, .no, .no, .no, .no, .sh (eI z7), .no, .no, .no]) (g := (fun (z7 : Int) => ([(1 : Int), z7] : (List Int)))) rfl (i_seq.trans (pb (q_var rfl) (f_itT (e := eI) other_4 _))) (fun _ => rfl) (fun z7 => (q_tup _).trans (pl_p (q_cst _) (pl_p (q_var rfl) (pl_nil (rfl))))))) (a_catL (e := (eT eI)) (order_1.map (fun (z6 : Int) => ([(0 : Int), z6] : (List Int)))) (other_4.map (fun (z7 : Int) => ([(1 : Int), z7] : (List Int)))))))) fun x8 => (l_nil (T_law_dense_2 (m + 3) x8)))) (of_decide_eq_true rfl) (fun _ => rfl) fun due_9 =>
      (o_iff (E1 := (fun (s10 : Unit) => [.sh ((eT eI) order_1), .sh (eI more_2), .sh (eI items_3), .sh ((eT eI) other_4), .sh (eD told_5), .sh ((eT eI) due_9), .no, .no, .no, .no, .no, .no, .no, .no])) (sx (q_cmp _ _ _) (sp (v_sh rfl) (sp (nb (fun _ z => nomatch z) (p_ite (e := eD) ((q_cmp _ _ _).trans (pb (nb (fun _ z => nomatch z) ((q_bin _ _ _).trans (pb (v_sh rfl) (pb (nb (fun _ z => nomatch z) ((q_bi _ _).trans (pbl_p (v_sh rfl) (pbl_nil (f_lenT (e := eI) other_4))))) (a_add _ _))))) (pb (nb (fun _ z => nomatch z) (q_cst _)) (a_lt _ _)))) (q_var rfl) (q_cst _))) (SE.rawB)))) (o_retP (q_cst _)) (o_nil (s := ()) rfl) fun s10 =>
      (o_set (ed := (eL eI)) (ρ' := fun sizes_16 => [.sh ((eT eI) order_1), .sh (eI more_2), .sh (eI items_3), .sh ((eT eI) other_4), .sh (eD told_5), .sh ((eT eI) due_9), .sh ((eL eI) sizes_16), .no, .no, .no, .no, .no, .no, .no]) (lc_i rfl (sx i_rng1 (sp (q_var rfl) (f_rng1 _ _))) fun l14 h15 => (lc_pt (ea := eI) (eb := eI) (ρ' := fun z11 => [.sh ((eT eI) order_1), .sh (eI more_2), .sh (eI items_3), .sh ((eT eI) other_4), .sh (eD told_5), .sh ((eT eI) due_9), .no, .no, .no, .no, .no, .no, .sh (eI z11), .no]) rfl h15 (fun _ => rfl) (fun z11 => sx (q_bin _ _ _) (sp (nb (fun _ z => nomatch z) (q_cst _)) (sb (SE.brw (fun _ z => nomatch z) (sx (q_bin _ _ _) (sb (SE.brw (fun _ z => nomatch z) (sx (q_cal _ _) (l_p (q_var rfl) (l_p ((q_bin _ _ _).trans (pb (nb (fun _ z => nomatch z) (q_cst _)) (pb (v_sh rfl) (a_add _ _)))) (l_nil (T_law_drawn (m + 3) more_2 ((30 : Int) + z11))))))) fun x12 => (sp (nb (fun _ z => nomatch z) (q_cst _)) (SE.pure (a_modc (by decide))))))) fun x13 => (SE.pure (a_add _ _))))))) (of_decide_eq_true rfl) (fun _ => rfl) fun sizes_16 =>
      (o_set (ed := (eL (eT eI))) (ρ' := fun rows_22 => [.sh ((eT eI) order_1), .sh (eI more_2), .sh (eI items_3), .sh ((eT eI) other_4), .sh (eD told_5), .sh ((eT eI) due_9), .sh ((eL eI) sizes_16), .sh ((eL (eT eI)) rows_22), .no, .no, .no, .no, .no, .no]) (lc_i rfl (sx i_rng1 (sp (q_var rfl) (f_rng1 _ _))) fun l20 h21 => (lc_pt (ea := eI) (eb := (eT eI)) (ρ' := fun z17 => [.sh ((eT eI) order_1), .sh (eI more_2), .sh (eI items_3), .sh ((eT eI) other_4), .sh (eD told_5), .sh ((eT eI) due_9), .sh ((eL eI) sizes_16), .no, .no, .no, .no, .no, .sh (eI z17), .no]) rfl h21 (fun _ => rfl) (fun z17 => sx (q_cal _ _) (l_b (sx (q_cal _ _) (l_p (q_var rfl) (l_p ((q_bin _ _ _).trans (pb (nb (fun _ z => nomatch z) (q_cst _)) (pb (v_sh rfl) (a_add _ _)))) (l_nil (T_law_drawn (m + 3) more_2 ((40 : Int) + z17)))))) fun x18 => (l_b (sx (q_sub _ _) (sp (v_sh rfl) (sp (v_sh rfl) (f_atL (e := eI) sizes_16 z17)))) fun x19 => (l_nil (T_law_order (m + 2) x18 x19))))))) (of_decide_eq_true rfl) (fun _ => rfl) fun rows_22 =>
      (o_setO (ed := (eL (eT eI))) (ρ' := fun cells_23 => [.sh ((eT eI) order_1), .sh (eI more_2), .sh (eI items_3), .sh ((eT eI) other_4), .sh (eD told_5), .sh ((eT eI) due_9), .sh ((eL eI) sizes_16), .sh ((eL (eT eI)) rows_22), .ow ((eL (eT eI)) cells_23), .no, .no, .no, .no, .no]) (SE.pure ((q_lst _).trans (pl_nil (rfl)))) (of_decide_eq_true rfl) (fun _ => rfl) (fun _ => rfl) fun cells_23 =>
      (o_for (ea := (eP eI (eT eI))) (E1 := (fun (s24 : (List (List Int))) => [.sh ((eT eI) order_1), .sh (eI more_2), .sh (eI items_3), .sh ((eT eI) other_4), .sh (eD told_5), .sh ((eT eI) due_9), .sh ((eL eI) sizes_16), .sh ((eL (eT eI)) rows_22), .ow ((eL (eT eI)) s24), .no, .no, .no, .no, .no])) (s0 := cells_23) rfl (SE.pure ((i_two rfl).trans (pb (q_var rfl) (pb (q_var rfl) (f_zip (e := eI) (f := (eT eI)) order_1 rows_22 rfl rfl))))) (fun i25 s24 => bo_g (ρ' := [.sh ((eT eI) order_1), .sh (eI more_2), .sh (eI items_3), .sh ((eT eI) other_4), .sh (eD told_5), .sh ((eT eI) due_9), .sh ((eL eI) sizes_16), .sh ((eL (eT eI)) rows_22), .ow ((eL (eT eI)) s24), .no, .sh (eI i25.1), .sh ((eT eI) i25.2), .no, .no]) rfl (o_ext (ρ' := fun cells_27 => [.sh ((eT eI) order_1), .sh (eI more_2), .sh (eI items_3), .sh ((eT eI) other_4), .sh (eD told_5), .sh ((eT eI) due_9), .sh ((eL eI) sizes_16), .sh ((eL (eT eI)) rows_22), .ow ((eL (eT eI)) cells_27), .no, .sh (eI i25.1), .sh ((eT eI) i25.2), .no, .no]) rfl (SE.pure (lc_p (ea := eI) (eb := (eT eI)) (ρ' := fun z26 => [.sh ((eT eI) order_1), .sh (eI more_2), .sh (eI items_3), .sh ((eT eI) other_4), .sh (eD told_5), .sh ((eT eI) due_9), .sh ((eL eI) sizes_16), .sh ((eL (eT eI)) rows_22), .ow ((eL (eT eI)) s24), .no, .sh (eI i25.1), .sh ((eT eI) i25.2), .no, .sh (eI z26)]) (g := (fun (z26 : Int) => ([i25.1, z26] : (List Int)))) rfl (i_seq.trans (pb (q_var rfl) (f_itT (e := eI) i25.2 _))) (fun _ => rfl) (fun z26 => (q_tup _).trans (pl_p (q_var rfl) (pl_p (q_var rfl) (pl_nil (rfl))))))) (fun _ => rfl) fun cells_27 =>
      (o_del (ρ' := [.sh ((eT eI) order_1), .sh (eI more_2), .sh (eI items_3), .sh ((eT eI) other_4), .sh (eD told_5), .sh ((eT eI) due_9), .sh ((eL eI) sizes_16), .sh ((eL (eT eI)) rows_22), .ow ((eL (eT eI)) cells_27), .no, .no, .sh ((eT eI) i25.2), .no, .no]) rfl (o_del (ρ' := [.sh ((eT eI) order_1), .sh (eI more_2), .sh (eI items_3), .sh ((eT eI) other_4), .sh (eD told_5), .sh ((eT eI) due_9), .sh ((eL eI) sizes_16), .sh ((eL (eT eI)) rows_22), .ow ((eL (eT eI)) cells_27), .no, .no, .no, .no, .no]) rfl (o_nil (s := cells_27) rfl))))) fun s24 =>
      (o_set (ed := (eP (eL eI) (eL (eT eI)))) (ρ' := fun handed_30 => [.sh ((eT eI) order_1), .sh (eI more_2), .sh (eI items_3), .sh ((eT eI) other_4), .sh (eD told_5), .sh ((eT eI) due_9), .sh ((eL eI) sizes_16), .sh ((eL (eT eI)) rows_22), .ow ((eL (eT eI)) s24), .sh ((eP (eL eI) (eL (eT eI))) handed_30), .no, .no, .no, .no]) (SE.pure ((q_tup _).trans (pl_p ((q_bi _ _).trans (pbl_p (v_sh rfl) (pbl_nil (f_listT (e := eI) order_1)))) (pl_p ((q_bi _ _).trans (pbl_p (v_sh rfl) (pbl_nil (f_listL (e := (eT eI)) rows_22)))) (pl_nil (rfl)))))) (of_decide_eq_true rfl) (fun _ => rfl) fun handed_30 =>
      (o_set (ed := eD) (ρ' := fun told_31 => [.sh ((eT eI) order_1), .sh (eI more_2), .sh (eI items_3), .sh ((eT eI) other_4), .sh (eD told_31), .sh ((eT eI) due_9), .sh ((eL eI) sizes_16), .sh ((eL (eT eI)) rows_22), .ow ((eL (eT eI)) s24), .sh ((eP (eL eI) (eL (eT eI))) handed_30), .no, .no, .no, .no]) (s_told (sx (q_cal _ _) (l_p (q_var rfl) (l_p (q_var rfl) (l_nil (T_inner m order_1 rows_22)))))) (of_decide_eq_true rfl) (fun _ => rfl) fun told_31 =>
      (o_iff (E1 := (fun (s32 : Unit) => [.sh ((eT eI) order_1), .sh (eI more_2), .sh (eI items_3), .sh ((eT eI) other_4), .sh (eD told_31), .sh ((eT eI) due_9), .sh ((eL eI) sizes_16), .sh ((eL (eT eI)) rows_22), .ow ((eL (eT eI)) s24), .sh ((eP (eL eI) (eL (eT eI))) handed_30), .no, .no, .no, .no])) (SE.pure ((q_cmp _ _ _).trans (pb (nb (fun _ z => nomatch z) ((q_tup _).trans (pl_p ((q_bi _ _).trans (pbl_p (v_sh rfl) (pbl_nil (f_listT (e := eI) order_1)))) (pl_p ((q_bi _ _).trans (pbl_p (v_sh rfl) (pbl_nil (f_listL (e := (eT eI)) rows_22)))) (pl_nil (rfl)))))) (pb (v_sh rfl) (a_ne (eq_P (eq_L eq_I) (eq_L (eq_T eq_I))) (by decide) (order_1, rows_22) handed_30))))) (o_retP (q_cst _)) (o_nil (s := ()) rfl) fun s32 =>
      (o_rel (ρ' := [.sh ((eT eI) order_1), .sh (eI more_2), .sh (eI items_3), .sh ((eT eI) other_4), .sh (eD told_31), .sh ((eT eI) due_9), .sh ((eL eI) sizes_16), .sh ((eL (eT eI)) rows_22), .sh ((eL (eT eI)) s24), .sh ((eP (eL eI) (eL (eT eI))) handed_30), .no, .no, .no, .no]) rfl (o_ret (sx (q_and _ _) (sb (sx (q_cmp _ _ _) (sp (v_sh rfl) (sb (SE.brw (fun _ z => nomatch z) (sx (q_ite _ _ _) (sp ((q_cmp _ _ _).trans (pb (nb (fun _ z => nomatch z) ((q_bi _ _).trans (pbl_p (v_sh rfl) (pbl_nil (f_sumL sizes_16))))) (pb (nb (fun _ z => nomatch z) (q_cst _)) (a_lt _ _)))) (s_asB (s_if (fun _ => SE.fn (e' := eD) (sx (q_cal _ _) (l_p (q_var rfl) (l_nil (T_law_dense_2 (m + 3) s24)))) fun _ => rfl) (fun _ => SE.pure (q_cst _))))))) fun x34 => (SE.rawB)))) fun b37 => (s_asB (s_if (fun _ => sx (q_one _) (sx (q_cmp _ _ _) (sb (SE.brw (fun _ z => nomatch z) (sx (q_cal _ _) (l_p (q_var rfl) (l_b (sx (q_bin _ _ _) (sp (nb (fun _ z => nomatch z) ((q_lst _).trans (pl_p ((q_tup _).trans (pl_p (q_cst _) (pl_nil (rfl)))) (pl_nil (rfl))))) (sp (v_sh rfl) (a_repL (e := (eT eI)) ([([(0 : Int)] : (List Int))] : (List (List Int))) items_3)))) fun x35 => (l_nil (T_inner m order_1 x35)))))) fun x36 => (sp (v_sh rfl) (SE.pure (a_eq (eq_T eq_I) (by decide) x36 order_1)))))) (fun _ => rfl))))))))))))))))))) (trivial)
def s_law_refused (order_1 : (List Int)) : R Bool := OT.toR (.bad) (σ := Unit) (
  (R.ok ((order_1.length : Nat) : Int)).toO fun items_2 =>
  (R.ok ([(eN ()), ((eL eI) ([] : (List Int))), ((eT eI) ([(0 : Int)] : (List Int))), ((eL eI) ([items_2] : (List Int))), ((eL eI) ([(-(1 : Int))] : (List Int))), ((eL eI) ([(0 : Int), (0 : Int)] : (List Int))), ((eL eB) ([true] : (List Bool))), ((eL eI) ([(1 : Int), (0 : Int)] : (List Int))), ((eL eD) ([(eI (0 : Int)), (eN ())] : (List D)))] : (List D))).toO fun l8 => (forT (fun (i4 : D) (s3 : Unit) =>
  ((toldR L.C ((s_part_1 order_1 i4).map (eT eI))).bind fun x5 => cmpD .ne x5 (eS ("BadItem" : Str))).toO fun b7 => (if b7 = true then OT.rt false else OT.nx ()).andThen fun (s6 : Unit) =>
  OT.nx ()) l8 ()).andThen fun (s3 : Unit) =>
  ((((repLR ([(0 : Int)] : (List Int)) items_2).map fun y10 => ((eL eI) y10)).bind fun x11 => R.ok ([(eN ()), x11, ((eT eI) ([(1 : Int)] : (List Int)))] : (List D))).bind fun x12 => R.ok x12).toO fun l29 => (forT (fun (i13 : D) (s9 : Unit) =>
  ((toldR L.C ((s_part_2 i13 ()).map eN)).bind fun x14 => R.ok ([x14] : (List D))).toO fun some_15 =>
  ((toldR L.C ((s_with_one_1 i13).map eN)).bind fun x17 => appR some_15 x17).toO fun some_16 =>
  ((toldR L.C ((s_glued_1 order_1 i13).map eN)).bind fun x19 => appR some_16 x19).toO fun some_18 =>
  ((toldR L.C ((s_inner_1 i13 ()).map eN)).bind fun x21 => appR some_18 x21).toO fun some_20 =>
  ((toldR L.C (((repLR ([i13] : (List D)) items_2).bind fun x22 => s_inner_2 order_1 x22).map (eT eI))).bind fun x24 => appR some_20 x24).toO fun some_23 =>
  (((repLR ([("BadOrder" : Str)] : (List Str)) (5 : Int)).map fun y25 => ((eL eS) y25)).bind fun x26 => cmpD .ne ((eL eD) some_23) x26).toO fun b28 => (if b28 = true then OT.rt false else OT.nx ()).andThen fun (s27 : Unit) =>
  OT.nx ()) l29 ()).andThen fun (s9 : Unit) =>
  ((toldR L.C (((repLR ([([(0 : Int)] : (List Int))] : (List (List Int))) (items_2 + (1 : Int))).bind fun x30 => s_inner order_1 x30).map (eT eI))).bind fun x31 => R.ok ([x31] : (List D))).toO fun some_32 =>
  ((toldR L.C (((repTR ([([(0 : Int)] : (List Int))] : (List (List Int))) items_2).bind fun x33 => s_inner_3 order_1 x33).map (eT eI))).bind fun x35 => appR some_32 x35).toO fun some_34 =>
  (R.ok (decide ((1 : Int) < items_2))).toO fun b42 => (if b42 = true then ((toldR L.C (((repLR ([([(0 : Int), (0 : Int), (1 : Int), (1 : Int), (2 : Int), (2 : Int)] : (List Int))] : (List (List Int))) items_2).bind fun x37 => s_inner order_1 x37).map (eT eI))).bind fun x39 => appR some_34 x39).toO fun some_38 =>
  OT.nx some_38 else OT.nx some_34).andThen fun (s36 : (List D)) =>
  (((repLR ([("BadOrder" : Str)] : (List Str)) ((s36.length : Nat) : Int)).map fun y40 => ((eL eS) y40)).bind fun x41 => cmpD .eq ((eL eD) s36) x41).toO fun y => OT.rt y)
theorem T_law_refused (m : Nat) (order_1 : (List Int)) : SE eB (F (m + 5) "_law_refused" [(eT eI) order_1]) (s_law_refused order_1) := by
  rw [phi g_law_refused]
  unfold s_law_refused
  exact run_SE (ρ0 := [.sh ((eT eI) order_1), .no, .no, .no]) (E := (fun (_ : Unit) => [])) rfl rfl
    (o_set (ed := eI) (ρ' := fun items_2 => [.sh ((eT eI) order_1), .sh (eI items_2), .no, .no]) (SE.pure ((q_bi _ _).trans (pbl_p (v_sh rfl) (pbl_nil (f_lenT (e := eI) order_1))))) (of_decide_eq_true rfl) (fun _ => rfl) fun items_2 =>
      (o_for (ea := eD) (E1 := (fun (s3 : Unit) => [.sh ((eT eI) order_1), .sh (eI items_2), .no, .no])) (s0 := ()) rfl (SE.pure (i_seq.trans (pb ((q_lst _).trans (pl_p (q_cst _) (pl_p ((q_lst _).trans (pl_nil (rfl))) (pl_p ((q_tup _).trans (pl_p (q_cst _) (pl_nil (rfl)))) (pl_p ((q_lst _).trans (pl_p (q_var rfl) (pl_nil (rfl)))) (pl_p ((q_lst _).trans (pl_p ((q_neg _).trans (pb (q_cst _) (rfl))) (pl_nil (rfl)))) (pl_p ((q_lst _).trans (pl_p (q_cst _) (pl_p (q_cst _) (pl_nil (rfl))))) (pl_p ((q_lst _).trans (pl_p (q_cst _) (pl_nil (rfl)))) (pl_p ((q_lst _).trans (pl_p (q_cst _) (pl_p (q_cst _) (pl_nil (rfl))))) (pl_p ((q_lst _).trans (pl_p (q_cst _) (pl_p (q_cst _) (pl_nil (rfl))))) (pl_nil (rfl)))))))))))) (f_itL (e := eD) ([(eN ()), ((eL eI) ([] : (List Int))), ((eT eI) ([(0 : Int)] : (List Int))), ((eL eI) ([items_2] : (List Int))), ((eL eI) ([(-(1 : Int))] : (List Int))), ((eL eI) ([(0 : Int), (0 : Int)] : (List Int))), ((eL eB) ([true] : (List Bool))), ((eL eI) ([(1 : Int), (0 : Int)] : (List Int))), ((eL eD) ([(eI (0 : Int)), (eN ())] : (List D)))] : (List D)) _)))) (fun i4 s3 => bo_g (ρ' := [.sh ((eT eI) order_1), .sh (eI items_2), .sh (eD i4), .no]) rfl (o_iff (E1 := (fun (s6 : Unit) => [.sh ((eT eI) order_1), .sh (eI items_2), .sh (eD i4), .no])) (sx (q_cmp _ _ _) (sb (SE.brw (fun _ z => nomatch z) (s_told (sx (q_cal _ _) (l_p (q_var rfl) (l_p (q_var rfl) (l_nil (T_part_1 m order_1 i4))))))) fun x5 => (sp (nb (fun _ z => nomatch z) (q_cst _)) (SE.rawB)))) (o_retP (q_cst _)) (o_nil (s := ()) rfl) fun s6 =>
      (o_del (ρ' := [.sh ((eT eI) order_1), .sh (eI items_2), .no, .no]) rfl (o_nil (s := ()) rfl)))) fun s3 =>
      (o_for (ea := eD) (E1 := (fun (s9 : Unit) => [.sh ((eT eI) order_1), .sh (eI items_2), .no, .no])) (s0 := ()) rfl (sx i_seq (sb (ea := (eL eD)) (sx (q_lst _) (l_p (q_cst _) (l_b (SE.fn (e' := eD) (sx (q_bin _ _ _) (sp (nb (fun _ z => nomatch z) ((q_lst _).trans (pl_p (q_cst _) (pl_nil (rfl))))) (sp (v_sh rfl) (a_repL (e := eI) ([(0 : Int)] : (List Int)) items_2)))) fun _ => rfl) fun x11 => (l_p ((q_tup _).trans (pl_p (q_cst _) (pl_nil (rfl)))) (l_nil (SE.pure (rfl))))))) fun x12 => (SE.pure (f_itL (e := eD) x12 _)))) (fun i13 s9 => bo_g (ρ' := [.sh ((eT eI) order_1), .sh (eI items_2), .sh (eD i13), .no]) rfl (o_setO (ed := (eL eD)) (ρ' := fun some_15 => [.sh ((eT eI) order_1), .sh (eI items_2), .sh (eD i13), .ow ((eL eD) some_15)]) (sx (q_lst _) (l_b (s_told (sx (q_cal _ _) (l_p (q_var rfl) (l_p (q_cst _) (l_nil (T_part_2 m i13 ())))))) fun x14 => (l_nil (SE.pure (rfl))))) (of_decide_eq_true rfl) (fun _ => rfl) (fun _ => rfl) fun some_15 =>
      (o_app (ρ' := fun some_16 => [.sh ((eT eI) order_1), .sh (eI items_2), .sh (eD i13), .ow ((eL eD) some_16)]) rfl (s_told (sx (q_cal _ _) (l_p (q_var rfl) (l_nil (T_with_one_1 m i13))))) (fun _ => rfl) fun some_16 =>
      (o_app (ρ' := fun some_18 => [.sh ((eT eI) order_1), .sh (eI items_2), .sh (eD i13), .ow ((eL eD) some_18)]) rfl (s_told (sx (q_cal _ _) (l_p (q_var rfl) (l_p (q_var rfl) (l_nil (T_glued_1 m order_1 i13)))))) (fun _ => rfl) fun some_18 =>
      (o_app (ρ' := fun some_20 => [.sh ((eT eI) order_1), .sh (eI items_2), .sh (eD i13), .ow ((eL eD) some_20)]) rfl (s_told (sx (q_cal _ _) (l_p (q_var rfl) (l_p (q_cst _) (l_nil (T_inner_1 m i13 ())))))) (fun _ => rfl) fun some_20 =>
      (o_app (ρ' := fun some_23 => [.sh ((eT eI) order_1), .sh (eI items_2), .sh (eD i13), .ow ((eL eD) some_23)]) rfl (s_told (sx (q_cal _ _) (l_p (q_var rfl) (l_b (sx (q_bin _ _ _) (sp (nb (fun _ z => nomatch z) ((q_lst _).trans (pl_p (q_var rfl) (pl_nil (rfl))))) (sp (v_sh rfl) (a_repL (e := eD) ([i13] : (List D)) items_2)))) fun x22 => (l_nil (T_inner_2 m order_1 x22)))))) (fun _ => rfl) fun some_23 =>
      (o_iff (E1 := (fun (s27 : Unit) => [.sh ((eT eI) order_1), .sh (eI items_2), .sh (eD i13), .ow ((eL eD) some_23)])) (sx (q_cmp _ _ _) (sp (v_ow rfl) (sb (SE.fn (e' := eD) (SE.brw (fun _ z => nomatch z) (sx (q_bin _ _ _) (sp (nb (fun _ z => nomatch z) ((q_lst _).trans (pl_p (q_cst _) (pl_nil (rfl))))) (sp (nb (fun _ z => nomatch z) (q_cst _)) (a_repL (e := eS) ([("BadOrder" : Str)] : (List Str)) (5 : Int)))))) fun _ => rfl) fun x26 => (SE.rawB)))) (o_retP (q_cst _)) (o_nil (s := ()) rfl) fun s27 =>
      (o_del (ρ' := [.sh ((eT eI) order_1), .sh (eI items_2), .no, .ow ((eL eD) some_23)]) rfl (o_del (ρ' := [.sh ((eT eI) order_1), .sh (eI items_2), .no, .no]) rfl (o_nil (s := ()) rfl)))))))))) fun s9 =>
      (o_setO (ed := (eL eD)) (ρ' := fun some_32 => [.sh ((eT eI) order_1), .sh (eI items_2), .no, .ow ((eL eD) some_32)]) (sx (q_lst _) (l_b (s_told (sx (q_cal _ _) (l_p (q_var rfl) (l_b (sx (q_bin _ _ _) (sp (nb (fun _ z => nomatch z) ((q_lst _).trans (pl_p ((q_tup _).trans (pl_p (q_cst _) (pl_nil (rfl)))) (pl_nil (rfl))))) (sp (nb (fun _ z => nomatch z) ((q_bin _ _ _).trans (pb (v_sh rfl) (pb (nb (fun _ z => nomatch z) (q_cst _)) (a_add _ _))))) (a_repL (e := (eT eI)) ([([(0 : Int)] : (List Int))] : (List (List Int))) (items_2 + (1 : Int)))))) fun x30 => (l_nil (T_inner m order_1 x30)))))) fun x31 => (l_nil (SE.pure (rfl))))) (of_decide_eq_true rfl) (fun _ => rfl) (fun _ => rfl) fun some_32 =>
      (o_app (ρ' := fun some_34 => [.sh ((eT eI) order_1), .sh (eI items_2), .no, .ow ((eL eD) some_34)]) rfl (s_told (sx (q_cal _ _) (l_p (q_var rfl) (l_b (sx (q_bin _ _ _) (sp (nb (fun _ z => nomatch z) ((q_tup _).trans (pl_p ((q_tup _).trans (pl_p (q_cst _) (pl_nil (rfl)))) (pl_nil (rfl))))) (sp (v_sh rfl) (a_repT (e := (eT eI)) ([([(0 : Int)] : (List Int))] : (List (List Int))) items_2)))) fun x33 => (l_nil (T_inner_3 m order_1 x33)))))) (fun _ => rfl) fun some_34 =>
      (o_iff (E1 := (fun (s36 : (List D)) => [.sh ((eT eI) order_1), .sh (eI items_2), .no, .ow ((eL eD) s36)])) (SE.pure ((q_cmp _ _ _).trans (pb (v_sh rfl) (pb (nb (fun _ z => nomatch z) (q_cst _)) (a_gt _ _))))) (o_app (ρ' := fun some_38 => [.sh ((eT eI) order_1), .sh (eI items_2), .no, .ow ((eL eD) some_38)]) rfl (s_told (sx (q_cal _ _) (l_p (q_var rfl) (l_b (sx (q_bin _ _ _) (sp (nb (fun _ z => nomatch z) ((q_lst _).trans (pl_p ((q_tup _).trans (pl_p (q_cst _) (pl_p (q_cst _) (pl_p (q_cst _) (pl_p (q_cst _) (pl_p (q_cst _) (pl_p (q_cst _) (pl_nil (rfl))))))))) (pl_nil (rfl))))) (sp (v_sh rfl) (a_repL (e := (eT eI)) ([([(0 : Int), (0 : Int), (1 : Int), (1 : Int), (2 : Int), (2 : Int)] : (List Int))] : (List (List Int))) items_2)))) fun x37 => (l_nil (T_inner m order_1 x37)))))) (fun _ => rfl) fun some_38 =>
      (o_nil (s := some_38) rfl)) (o_nil (s := some_34) rfl) fun s36 =>
      (o_ret (sx (q_cmp _ _ _) (sp (v_ow rfl) (sb (SE.fn (e' := eD) (SE.brw (fun _ z => nomatch z) (sx (q_bin _ _ _) (sp (nb (fun _ z => nomatch z) ((q_lst _).trans (pl_p (q_cst _) (pl_nil (rfl))))) (sp (nb (fun _ z => nomatch z) ((q_bi _ _).trans (pbl_p (v_ow rfl) (pbl_nil (f_lenL (e := eD) s36))))) (a_repL (e := eS) ([("BadOrder" : Str)] : (List Str)) ((s36.length : Nat) : Int)))))) fun _ => rfl) fun x41 => (SE.rawB))))))))))) (trivial)
def s_law (script_1 : (List Int)) : R Bool := OT.toR (.bad) (σ := Unit) (
  (rng0R (if (if ((script_1.length : Nat) : Int) < (3 : Int) then ((script_1.length : Nat) : Int) else (3 : Int)) > (1 : Int) then (if ((script_1.length : Nat) : Int) < (3 : Int) then ((script_1.length : Nat) : Int) else (3 : Int)) else (1 : Int))).toO fun l58 => (forT (fun (i3 : Int) (s2 : Unit) =>
  ((s_law_cell script_1 i3).bind fun x4 => s_law_drawn x4 i3).toO fun more_5 =>
  (s_law_items more_5).toO fun items_6 =>
  (s_law_order (more_5 / (64 : Int)) items_6).toO fun order_7 =>
  (rng0R (8 : Int)).toO fun l26 => (forT (fun (i9 : Int) (s8 : Unit) =>
  (s_law_drawn more_5 ((10 : Int) + i9)).toO fun here_10 =>
  ((rng0R items_6).bind fun l14 => lcT (fun (z11 : Int) => (((s_law_drawn here_10 z11).bind fun x12 => R.ok (x12 % (3 : Int))).bind fun x13 => R.ok (decide ((0 : Int) < x13))).bind fun b16 => if b16 = true then (R.ok z11).bind fun z => R.ok (some z) else R.ok none) l14).toO fun some_17 =>
  ((mapT (fun (z18 : Int) => atR order_7 z18) some_17).bind fun x19 => s_law_dense x19).toO fun due_20 =>
  (R.ok some_17).toO fun picked_21 =>
  (if (!decide (some_17 = ([] : (List Int)))) = true then ((s_part order_7 picked_21).bind fun x22 => R.ok (!decide (x22 = due_20))).bind fun b23 => if b23 = true then R.ok true else R.ok (!decide (picked_21 = some_17)) else R.ok false).toO fun b25 => (if b25 = true then OT.rt false else OT.nx ()).andThen fun (s24 : Unit) =>
  OT.nx ()) l26 ()).andThen fun (s8 : Unit) =>
  (((rng0R items_6).bind fun x27 => s_part order_7 x27).bind fun x28 => R.ok (!decide (x28 = order_7))).toO fun b57 => (if b57 = true then OT.rt false else OT.nx ()).andThen fun (s29 : Unit) =>
  (R.ok (decide (items_6 < (6 : Int)))).toO fun b56 => (if b56 = true then (s_with_one order_7).toO fun rows_31 =>
  (((ssetTR rows_31).bind fun x32 => R.ok (!decide (rows_31 = x32))).bind fun b36 => if b36 = true then R.ok true else (((maxR order_7).bind fun x33 => R.ok ((2 : Int) * x33)).bind fun x34 => R.ok (x34 + (3 : Int))).bind fun x35 => R.ok (!decide (((rows_31.length : Nat) : Int) = x35))).toO fun b47 => (if b47 = true then OT.rt false else OT.nx ()).andThen fun (s37 : Unit) =>
  ((lcT (fun (z38 : (List Int)) => (((s_law_dense_1 z38).bind fun x39 => R.ok (!decide (x39 = z38))).bind fun b42 => if b42 = true then R.ok true else ((rng0R items_6).bind fun x40 => s_part z38 x40).bind fun x41 => R.ok (!decide (x41 = order_7))).bind fun b43 => if b43 = true then (R.ok z38).bind fun z => R.ok (some z) else R.ok none) rows_31).bind fun x44 => R.ok (!decide (x44 = ([] : (List (List Int)))))).toO fun b46 => (if b46 = true then OT.rt false else OT.nx ()).andThen fun (s45 : Unit) =>
  OT.nx () else ((toldR L.C ((s_with_one order_7).map (eL (eT eI)))).bind fun x48 => cmpD .ne x48 (eS ("BadOrder" : Str))).toO fun b50 => (if b50 = true then OT.rt false else OT.nx ()).andThen fun (s49 : Unit) =>
  OT.nx ()).andThen fun (s30 : Unit) =>
  (((s_law_joined_right order_7 more_5).bind fun x51 => R.ok (!x51)).bind fun b53 => if b53 = true then R.ok true else (s_law_refused order_7).bind fun x52 => R.ok (!x52)).toO fun b55 => (if b55 = true then OT.rt false else OT.nx ()).andThen fun (s54 : Unit) =>
  OT.nx ()) l58 ()).andThen fun (s2 : Unit) =>
  OT.rt true)
theorem T_law (m : Nat) (script_1 : (List Int)) : SE eB (F (m + 6) "law" [eC script_1]) (s_law script_1) := by
  rw [phi g_law]
  unfold s_law
  exact run_SE (ρ0 := [.sh (eC script_1), .no, .no, .no, .no, .no, .no, .no, .no, .no, .no, .no, .no]) (E := (fun (_ : Unit) => [])) rfl rfl
    (o_for (ea := eI) (E1 := (fun (s2 : Unit) => [.sh (eC script_1), .no, .no, .no, .no, .no, .no, .no, .no, .no, .no, .no, .no])) (s0 := ()) rfl (sx i_rng1 (sp ((q_bi _ _).trans (pbl_p (nb (fun _ z => nomatch z) (q_cst _)) (pbl_p (nb (fun _ z => nomatch z) ((q_bi _ _).trans (pbl_p (nb (fun _ z => nomatch z) (q_cst _)) (pbl_p (nb (fun _ z => nomatch z) ((q_bi _ _).trans (pbl_p (v_sh rfl) (pbl_nil (f_lenC _))))) (pbl_nil (f_min2 _ _)))))) (pbl_nil (f_max2 _ _))))) (f_rng1 _ _))) (fun i3 s2 => bo_g (ρ' := [.sh (eC script_1), .sh (eI i3), .no, .no, .no, .no, .no, .no, .no, .no, .no, .no, .no]) rfl (o_set (ed := eI) (ρ' := fun more_5 => [.sh (eC script_1), .sh (eI i3), .sh (eI more_5), .no, .no, .no, .no, .no, .no, .no, .no, .no, .no]) (sx (q_cal _ _) (l_b (sx (q_cal _ _) (l_p (q_var rfl) (l_p (q_var rfl) (l_nil (T_law_cell (m + 4) script_1 i3))))) fun x4 => (l_p (q_var rfl) (l_nil (T_law_drawn (m + 4) x4 i3))))) (of_decide_eq_true rfl) (fun _ => rfl) fun more_5 =>
      (o_set (ed := eI) (ρ' := fun items_6 => [.sh (eC script_1), .sh (eI i3), .sh (eI more_5), .sh (eI items_6), .no, .no, .no, .no, .no, .no, .no, .no, .no]) (sx (q_cal _ _) (l_p (q_var rfl) (l_nil (T_law_items (m + 4) more_5)))) (of_decide_eq_true rfl) (fun _ => rfl) fun items_6 =>
      (o_set (ed := (eT eI)) (ρ' := fun order_7 => [.sh (eC script_1), .sh (eI i3), .sh (eI more_5), .sh (eI items_6), .sh ((eT eI) order_7), .no, .no, .no, .no, .no, .no, .no, .no]) (sx (q_cal _ _) (l_p ((q_bin _ _ _).trans (pb (v_sh rfl) (pb (nb (fun _ z => nomatch z) (q_cst _)) (a_fdivc ⟨by decide, by decide +kernel⟩)))) (l_p (q_var rfl) (l_nil (T_law_order (m + 3) (more_5 / (64 : Int)) items_6))))) (of_decide_eq_true rfl) (fun _ => rfl) fun order_7 =>
      (o_for (ea := eI) (E1 := (fun (s8 : Unit) => [.sh (eC script_1), .sh (eI i3), .sh (eI more_5), .sh (eI items_6), .sh ((eT eI) order_7), .no, .no, .no, .no, .no, .no, .no, .no])) (s0 := ()) rfl (sx i_rng1 (sp (q_cst _) (f_rng1 _ _))) (fun i9 s8 => bo_g (ρ' := [.sh (eC script_1), .sh (eI i3), .sh (eI more_5), .sh (eI items_6), .sh ((eT eI) order_7), .sh (eI i9), .no, .no, .no, .no, .no, .no, .no]) rfl (o_set (ed := eI) (ρ' := fun here_10 => [.sh (eC script_1), .sh (eI i3), .sh (eI more_5), .sh (eI items_6), .sh ((eT eI) order_7), .sh (eI i9), .sh (eI here_10), .no, .no, .no, .no, .no, .no]) (sx (q_cal _ _) (l_p (q_var rfl) (l_p ((q_bin _ _ _).trans (pb (nb (fun _ z => nomatch z) (q_cst _)) (pb (v_sh rfl) (a_add _ _)))) (l_nil (T_law_drawn (m + 4) more_5 ((10 : Int) + i9)))))) (of_decide_eq_true rfl) (fun _ => rfl) fun here_10 =>
      (o_set (ed := (eL eI)) (ρ' := fun some_17 => [.sh (eC script_1), .sh (eI i3), .sh (eI more_5), .sh (eI items_6), .sh ((eT eI) order_7), .sh (eI i9), .sh (eI here_10), .sh ((eL eI) some_17), .no, .no, .no, .no, .no]) (lc_i rfl (sx i_rng1 (sp (q_var rfl) (f_rng1 _ _))) fun l14 h15 => (lc_t (ea := eI) (eb := eI) (ρ' := fun z11 => [.sh (eC script_1), .sh (eI i3), .sh (eI more_5), .sh (eI items_6), .sh ((eT eI) order_7), .sh (eI i9), .sh (eI here_10), .no, .no, .no, .no, .sh (eI z11), .no]) (g := (fun (z11 : Int) => R.ok z11)) (p := (fun (z11 : Int) => ((s_law_drawn here_10 z11).bind fun x12 => R.ok (x12 % (3 : Int))).bind fun x13 => R.ok (decide ((0 : Int) < x13)))) rfl rfl h15 (fun _ => rfl) (fun z11 => sx (q_cmp _ _ _) (sb (SE.brw (fun _ z => nomatch z) (sx (q_bin _ _ _) (sb (SE.brw (fun _ z => nomatch z) (sx (q_cal _ _) (l_p (q_var rfl) (l_p (q_var rfl) (l_nil (T_law_drawn (m + 4) here_10 z11)))))) fun x12 => (sp (nb (fun _ z => nomatch z) (q_cst _)) (SE.pure (a_modc (by decide))))))) fun x13 => (sp (nb (fun _ z => nomatch z) (q_cst _)) (SE.pure (a_gt _ _))))) (fun z11 => SE.pure (q_var rfl)))) (of_decide_eq_true rfl) (fun _ => rfl) fun some_17 =>
      (o_set (ed := (eT eI)) (ρ' := fun due_20 => [.sh (eC script_1), .sh (eI i3), .sh (eI more_5), .sh (eI items_6), .sh ((eT eI) order_7), .sh (eI i9), .sh (eI here_10), .sh ((eL eI) some_17), .sh ((eT eI) due_20), .no, .no, .no, .no]) (sx (q_cal _ _) (l_b (lc_pt (ea := eI) (eb := eI) (ρ' := fun z18 => [.sh (eC script_1), .sh (eI i3), .sh (eI more_5), .sh (eI items_6), .sh ((eT eI) order_7), .sh (eI i9), .sh (eI here_10), .sh ((eL eI) some_17), .no, .no, .no, .sh (eI z18), .no]) rfl (i_seq.trans (pb (q_var rfl) (f_itL (e := eI) some_17 _))) (fun _ => rfl) (fun z18 => sx (q_sub _ _) (sp (v_sh rfl) (sp (v_sh rfl) (f_atT (e := eI) order_7 z18))))) fun x19 => (l_nil (T_law_dense (m + 4) x19)))) (of_decide_eq_true rfl) (fun _ => rfl) fun due_20 =>
      (o_set (ed := (eL eI)) (ρ' := fun picked_21 => [.sh (eC script_1), .sh (eI i3), .sh (eI more_5), .sh (eI items_6), .sh ((eT eI) order_7), .sh (eI i9), .sh (eI here_10), .sh ((eL eI) some_17), .sh ((eT eI) due_20), .sh ((eL eI) picked_21), .no, .no, .no]) (SE.pure ((q_bi _ _).trans (pbl_p (v_sh rfl) (pbl_nil (f_listL (e := eI) some_17))))) (of_decide_eq_true rfl) (fun _ => rfl) fun picked_21 =>
      (o_iff (E1 := (fun (s24 : Unit) => [.sh (eC script_1), .sh (eI i3), .sh (eI more_5), .sh (eI items_6), .sh ((eT eI) order_7), .sh (eI i9), .sh (eI here_10), .sh ((eL eI) some_17), .sh ((eT eI) due_20), .sh ((eL eI) picked_21), .no, .no, .no])) (sx (q_and _ _) (sp ((q_cmp _ _ _).trans (pb (v_sh rfl) (pb (nb (fun _ z => nomatch z) ((q_lst _).trans (pl_nil (rfl)))) (a_ne (eq_L eq_I) (by decide) some_17 ([] : (List Int)))))) (s_asB (s_if (fun _ => sx (q_one _) (sx (q_or _ _) (sb (sx (q_cmp _ _ _) (sb (SE.brw (fun _ z => nomatch z) (sx (q_cal _ _) (l_p (q_var rfl) (l_p (q_var rfl) (l_nil (T_part (m + 1) order_7 picked_21)))))) fun x22 => (sp (v_sh rfl) (SE.pure (a_ne (eq_T eq_I) (by decide) x22 due_20))))) fun b23 => (s_asB (s_if (fun _ => rfl) (fun _ => SE.pure ((q_one _).trans ((q_cmp _ _ _).trans (pb (v_sh rfl) (pb (v_sh rfl) (a_ne (eq_L eq_I) (by decide) picked_21 some_17))))))))))) (fun _ => rfl))))) (o_retP (q_cst _)) (o_nil (s := ()) rfl) fun s24 =>
      (o_del (ρ' := [.sh (eC script_1), .sh (eI i3), .sh (eI more_5), .sh (eI items_6), .sh ((eT eI) order_7), .no, .sh (eI here_10), .sh ((eL eI) some_17), .sh ((eT eI) due_20), .sh ((eL eI) picked_21), .no, .no, .no]) rfl (o_del (ρ' := [.sh (eC script_1), .sh (eI i3), .sh (eI more_5), .sh (eI items_6), .sh ((eT eI) order_7), .no, .no, .sh ((eL eI) some_17), .sh ((eT eI) due_20), .sh ((eL eI) picked_21), .no, .no, .no]) rfl (o_del (ρ' := [.sh (eC script_1), .sh (eI i3), .sh (eI more_5), .sh (eI items_6), .sh ((eT eI) order_7), .no, .no, .no, .sh ((eT eI) due_20), .sh ((eL eI) picked_21), .no, .no, .no]) rfl (o_del (ρ' := [.sh (eC script_1), .sh (eI i3), .sh (eI more_5), .sh (eI items_6), .sh ((eT eI) order_7), .no, .no, .no, .no, .sh ((eL eI) picked_21), .no, .no, .no]) rfl (o_del (ρ' := [.sh (eC script_1), .sh (eI i3), .sh (eI more_5), .sh (eI items_6), .sh ((eT eI) order_7), .no, .no, .no, .no, .no, .no, .no, .no]) rfl (o_nil (s := ()) rfl)))))))))))) fun s8 =>
      (o_iff (E1 := (fun (s29 : Unit) => [.sh (eC script_1), .sh (eI i3), .sh (eI more_5), .sh (eI items_6), .sh ((eT eI) order_7), .no, .no, .no, .no, .no, .no, .no, .no])) (sx (q_cmp _ _ _) (sb (SE.brw (fun _ z => nomatch z) (sx (q_cal _ _) (l_p (q_var rfl) (l_b (sx (q_lrng _) (sp (q_var rfl) (f_lrng _))) fun x27 => (l_nil (T_part (m + 1) order_7 x27)))))) fun x28 => (sp (v_sh rfl) (SE.pure (a_ne (eq_T eq_I) (by decide) x28 order_7))))) (o_retP (q_cst _)) (o_nil (s := ()) rfl) fun s29 =>
      (o_iff (E1 := (fun (s30 : Unit) => [.sh (eC script_1), .sh (eI i3), .sh (eI more_5), .sh (eI items_6), .sh ((eT eI) order_7), .no, .no, .no, .no, .no, .no, .no, .no])) (SE.pure ((q_cmp _ _ _).trans (pb (v_sh rfl) (pb (nb (fun _ z => nomatch z) (q_cst _)) (a_lt _ _))))) (o_set (ed := (eL (eT eI))) (ρ' := fun rows_31 => [.sh (eC script_1), .sh (eI i3), .sh (eI more_5), .sh (eI items_6), .sh ((eT eI) order_7), .no, .no, .no, .no, .no, .sh ((eL (eT eI)) rows_31), .no, .no]) (sx (q_cal _ _) (l_p (q_var rfl) (l_nil (T_with_one (m + 1) order_7)))) (of_decide_eq_true rfl) (fun _ => rfl) fun rows_31 =>
      (o_iff (E1 := (fun (s37 : Unit) => [.sh (eC script_1), .sh (eI i3), .sh (eI more_5), .sh (eI items_6), .sh ((eT eI) order_7), .no, .no, .no, .no, .no, .sh ((eL (eT eI)) rows_31), .no, .no])) (sx (q_or _ _) (sb (sx (q_cmp _ _ _) (sp (v_sh rfl) (sb (SE.brw (fun _ z => nomatch z) (sx (q_sset _) (sp (v_sh rfl) (f_ssetLT rows_31)))) fun x32 => (SE.pure (a_ne (eq_L (eq_T eq_I)) (by decide) rows_31 x32))))) fun b36 => (s_asB (s_if (fun _ => rfl) (fun _ => sx (q_one _) (sx (q_cmp _ _ _) (sp (nb (fun _ z => nomatch z) ((q_bi _ _).trans (pbl_p (v_sh rfl) (pbl_nil (f_lenL (e := (eT eI)) rows_31))))) (sb (SE.brw (fun _ z => nomatch z) (sx (q_bin _ _ _) (sb (SE.brw (fun _ z => nomatch z) (sx (q_bin _ _ _) (sp (nb (fun _ z => nomatch z) (q_cst _)) (sb (SE.brw (fun _ z => nomatch z) (sx (q_bi _ _) (b_p (v_sh rfl) (b_nil (f_maxT order_7))))) fun x33 => (SE.pure (a_cmul (by decide))))))) fun x34 => (sp (nb (fun _ z => nomatch z) (q_cst _)) (SE.pure (a_add _ _)))))) fun x35 => (SE.pure (a_ne eq_I (by decide) ((rows_31.length : Nat) : Int) x35)))))))))) (o_retP (q_cst _)) (o_nil (s := ()) rfl) fun s37 =>
      (o_iff (E1 := (fun (s45 : Unit) => [.sh (eC script_1), .sh (eI i3), .sh (eI more_5), .sh (eI items_6), .sh ((eT eI) order_7), .no, .no, .no, .no, .no, .sh ((eL (eT eI)) rows_31), .no, .no])) (sx (q_cmp _ _ _) (sb (SE.brw (fun _ z => nomatch z) (lc_t (ea := (eT eI)) (eb := (eT eI)) (ρ' := fun z38 => [.sh (eC script_1), .sh (eI i3), .sh (eI more_5), .sh (eI items_6), .sh ((eT eI) order_7), .no, .no, .no, .no, .no, .sh ((eL (eT eI)) rows_31), .no, .sh ((eT eI) z38)]) (g := (fun (z38 : (List Int)) => R.ok z38)) (p := (fun (z38 : (List Int)) => ((s_law_dense_1 z38).bind fun x39 => R.ok (!decide (x39 = z38))).bind fun b42 => if b42 = true then R.ok true else ((rng0R items_6).bind fun x40 => s_part z38 x40).bind fun x41 => R.ok (!decide (x41 = order_7)))) rfl rfl (i_seq.trans (pb (q_var rfl) (f_itL (e := (eT eI)) rows_31 _))) (fun _ => rfl) (fun z38 => sx (q_or _ _) (sb (sx (q_cmp _ _ _) (sb (SE.brw (fun _ z => nomatch z) (sx (q_cal _ _) (l_p (q_var rfl) (l_nil (T_law_dense_1 (m + 4) z38))))) fun x39 => (sp (v_sh rfl) (SE.pure (a_ne (eq_T eq_I) (by decide) x39 z38))))) fun b42 => (s_asB (s_if (fun _ => rfl) (fun _ => sx (q_one _) (sx (q_cmp _ _ _) (sb (SE.brw (fun _ z => nomatch z) (sx (q_cal _ _) (l_p (q_var rfl) (l_b (sx (q_lrng _) (sp (q_var rfl) (f_lrng _))) fun x40 => (l_nil (T_part (m + 1) z38 x40)))))) fun x41 => (sp (v_sh rfl) (SE.pure (a_ne (eq_T eq_I) (by decide) x41 order_7)))))))))) (fun z38 => SE.pure (q_var rfl)))) fun x44 => (sp (nb (fun _ z => nomatch z) ((q_lst _).trans (pl_nil (rfl)))) (SE.pure (a_ne (eq_L (eq_T eq_I)) (by decide) x44 ([] : (List (List Int)))))))) (o_retP (q_cst _)) (o_nil (s := ()) rfl) fun s45 =>
      (o_del (ρ' := [.sh (eC script_1), .sh (eI i3), .sh (eI more_5), .sh (eI items_6), .sh ((eT eI) order_7), .no, .no, .no, .no, .no, .no, .no, .no]) rfl (o_nil (s := ()) rfl))))) (o_iff (E1 := (fun (s49 : Unit) => [.sh (eC script_1), .sh (eI i3), .sh (eI more_5), .sh (eI items_6), .sh ((eT eI) order_7), .no, .no, .no, .no, .no, .no, .no, .no])) (sx (q_cmp _ _ _) (sb (SE.brw (fun _ z => nomatch z) (s_told (sx (q_cal _ _) (l_p (q_var rfl) (l_nil (T_with_one (m + 1) order_7)))))) fun x48 => (sp (nb (fun _ z => nomatch z) (q_cst _)) (SE.rawB)))) (o_retP (q_cst _)) (o_nil (s := ()) rfl) fun s49 =>
      (o_nil (s := ()) rfl)) fun s30 =>
      (o_iff (E1 := (fun (s54 : Unit) => [.sh (eC script_1), .sh (eI i3), .sh (eI more_5), .sh (eI items_6), .sh ((eT eI) order_7), .no, .no, .no, .no, .no, .no, .no, .no])) (sx (q_or _ _) (sb (sx (q_not _) (sb (sx (q_cal _ _) (l_p (q_var rfl) (l_p (q_var rfl) (l_nil (T_law_joined_right m order_7 more_5))))) fun x51 => (SE.pure (rfl)))) fun b53 => (s_asB (s_if (fun _ => rfl) (fun _ => sx (q_one _) (sx (q_not _) (sb (sx (q_cal _ _) (l_p (q_var rfl) (l_nil (T_law_refused m order_7)))) fun x52 => (SE.pure (rfl))))))))) (o_retP (q_cst _)) (o_nil (s := ()) rfl) fun s54 =>
      (o_del (ρ' := [.sh (eC script_1), .no, .sh (eI more_5), .sh (eI items_6), .sh ((eT eI) order_7), .no, .no, .no, .no, .no, .no, .no, .no]) rfl (o_del (ρ' := [.sh (eC script_1), .no, .no, .sh (eI items_6), .sh ((eT eI) order_7), .no, .no, .no, .no, .no, .no, .no, .no]) rfl (o_del (ρ' := [.sh (eC script_1), .no, .no, .no, .sh ((eT eI) order_7), .no, .no, .no, .no, .no, .no, .no, .no]) rfl (o_del (ρ' := [.sh (eC script_1), .no, .no, .no, .no, .no, .no, .no, .no, .no, .no, .no, .no]) rfl (o_nil (s := ()) rfl))))))))))))) fun s2 =>
      (o_retP (q_cst _))) (trivial)
end Lk.T
end Part_K70S
section Part_K70B
set_option Elab.async false
set_option linter.all false
set_option maxRecDepth 100000
set_option maxHeartbeats 4000000
namespace Lk.T
open PySem PySem.Spec PyProof.Rows L2
/-! cells and draws -/
theorem rok {α : Type} (r : R α) : (r.bind fun y => R.ok y) = r := by cases r <;> rfl
theorem rng0_ok {n : Int} (h0 : 0 ≤ n) (h : n ≤ 1000) : rng0R n = .ok (irng n) := by
  unfold rng0R
  rw [if_pos (by unfold bnd; simp only [Bool.and_eq_true, decide_eq_true_eq]; omega)]
theorem big (n : Nat) (h : n < 2 ^ 250) : n < 2 ^ 1000 := Nat.lt_of_lt_of_le h (Nat.pow_le_pow_right (by decide) (by decide))
theorem mul_ok {x y : Int} (hx : x.natAbs < 2 ^ 1000) (hy : y.natAbs < 2 ^ 1000) : mulR x y = .ok (x * y) := by
  unfold mulR mulOk
  rw [decide_eq_true hx, decide_eq_true hy]
  simp
theorem fdiv_ok {x y : Int} (h : 0 < y) (h2 : y ≤ 1000) : fdivR x y = .ok (x / y) := if_pos ⟨h, big _ (by omega)⟩
theorem mod_ok {x y : Int} (h : 0 < y) : modR x y = .ok (x % y) := if_pos h
theorem at_ok {α : Type} {xs : List α} {i : Int} (h0 : 0 ≤ i) (h : i < xs.length) : ∃ x, atR xs i = .ok x ∧ xs[i.toNat]? = some x := by
  have hi : i.toNat < xs.length := by omega
  refine ⟨xs[i.toNat], ?_, List.getElem?_eq_getElem hi⟩
  have q : atI xs i = some xs[i.toNat] := by
    unfold atI ixN
    rw [if_pos h0, if_pos h]
    exact List.getElem?_eq_getElem hi
  simp only [atR, q]
theorem at_of {α : Type} {xs : List α} {i : Nat} {x : α} (h : xs[i]? = some x) : atR xs (i : Int) = .ok x := by
  have hi : i < xs.length := by
    rcases Nat.lt_or_ge i xs.length with q | q
    · exact q
    · rw [List.getElem?_eq_none q] at h; cases h
  have q : atI xs (i : Int) = some x := by
    unfold atI ixN
    rw [if_pos (by omega), if_pos (by omega), Int.toNat_natCast]
    exact h
  simp only [atR, q]
theorem v_cell {ns : List Int} (hl : ns.length ≤ 63) (k : Int) : ∃ c : Int, s_law_cell ns k = .ok c := by
  have e0 : cmpD .eq (eC ns) ((eL eI) ([] : List Int)) = .ok (decide (ns = [])) := by
    have := eqD_lst ns []
    simp only [encL, List.map_nil] at this
    rw [← this]
    simp only [cmpD, eqD, toPy, toPys_ints, Option.map_some, eL, eC, List.map_nil, toPys]
  unfold s_law_cell
  rw [e0]
  by_cases e : ns = []
  · refine ⟨k * 7919, ?_⟩
    rw [decide_eq_true e]
    rfl
  · have lp : 0 < ns.length := List.length_pos_iff.mpr e
    have h1 := Int.emod_nonneg k (show (ns.length : Int) ≠ 0 by omega)
    have h2 := Int.emod_lt_of_pos k (show (0 : Int) < ns.length by omega)
    obtain ⟨z, hz, _⟩ := at_ok h1 h2
    refine ⟨z + k / ns.length * 104729, ?_⟩
    rw [decide_eq_false e]
    simp only [R.toO_ok, Bool.false_eq_true, if_false, OT.andThen_nx, mod_ok (show (0 : Int) < ns.length by omega), R.bind_ok, hz, fdiv_ok (show (0 : Int) < ns.length by omega) (show (ns.length : Int) ≤ 1000 by omega), OT.toR_rt]
def dr1 (cell k : Int) : Int := (cell * 6364136223846793005 + (k + 1) * 1442695040888963407) % 340282366920938463463374607431768211507
def dr2 (cell k : Int) : Int := dr1 cell k * dr1 cell k % 340282366920938463463374607431768211297
def dr3 (cell k : Int) : Int := (dr2 cell k % 18446744073709551557 + 1) * (dr2 cell k / 18446744073709551557 + 1) * dr2 cell k
def drawI (cell k : Int) : Int := dr3 cell k % 340282366920938463463374607431768211507
theorem draw_nn (cell k : Int) : 0 ≤ drawI cell k := Int.emod_nonneg _ (by decide)
theorem v_drawn (cell k : Int) : s_law_drawn cell k = .ok (drawI cell k) := by
  have a1 : 0 ≤ dr1 cell k ∧ dr1 cell k < 340282366920938463463374607431768211507 := ⟨Int.emod_nonneg _ (by decide), Int.emod_lt_of_pos _ (by decide)⟩
  have a2 : 0 ≤ dr2 cell k ∧ dr2 cell k < 340282366920938463463374607431768211297 := ⟨Int.emod_nonneg _ (by decide), Int.emod_lt_of_pos _ (by decide)⟩
  have a3 : 0 ≤ dr2 cell k % 18446744073709551557 ∧ dr2 cell k % 18446744073709551557 < 18446744073709551557 := ⟨Int.emod_nonneg _ (by decide), Int.emod_lt_of_pos _ (by decide)⟩
  have a4 : 0 ≤ dr2 cell k / 18446744073709551557 ∧ dr2 cell k / 18446744073709551557 < 36893488147419103232 := by omega
  have b5 : ((dr2 cell k % 18446744073709551557 + 1) * (dr2 cell k / 18446744073709551557 + 1)).natAbs < 2 ^ 1000 := by
    rw [Int.natAbs_mul]
    refine big _ (Nat.lt_of_le_of_lt (Nat.mul_le_mul (show _ ≤ 18446744073709551557 by omega) (show _ ≤ 36893488147419103232 by omega)) (by decide))
  have m1 : mulR (dr1 cell k) (dr1 cell k) = .ok (dr1 cell k * dr1 cell k) := mul_ok (big _ (by omega)) (big _ (by omega))
  have m2 : mulR (dr2 cell k % 18446744073709551557 + 1) (dr2 cell k / 18446744073709551557 + 1) = .ok ((dr2 cell k % 18446744073709551557 + 1) * (dr2 cell k / 18446744073709551557 + 1)) := mul_ok (big _ (by omega)) (big _ (by omega))
  have m3 : mulR ((dr2 cell k % 18446744073709551557 + 1) * (dr2 cell k / 18446744073709551557 + 1)) (dr2 cell k) = .ok (dr3 cell k) := mul_ok b5 (big _ (by omega))
  unfold s_law_drawn
  show OT.toR .bad (((mulR (dr1 cell k) (dr1 cell k)).bind fun x4 => R.ok (x4 % 340282366920938463463374607431768211297)).toO _) = _
  rw [m1]
  show OT.toR .bad (((mulR (dr2 cell k % 18446744073709551557 + 1) (dr2 cell k / 18446744073709551557 + 1)).bind fun x6 => mulR x6 (dr2 cell k)).toO _) = _
  rw [m2]
  show OT.toR .bad ((mulR ((dr2 cell k % 18446744073709551557 + 1) * (dr2 cell k / 18446744073709551557 + 1)) (dr2 cell k)).toO _) = _
  rw [m3]
  rfl
/-! the law's own orders: DL for lists, DT for tuples -/
theorem lset_ok {o : List Int} (h : o.length < 64) : lsetR o = .ok ((dedup o).length : Nat) := if_pos h
theorem v_denseL {row : List Int} (h : row.length < 64) : s_law_dense row = .ok (row.map (rankI row)) := by
  unfold s_law_dense
  rw [mapT_ok (g := rankI row) fun x _ => ?_]
  · rfl
  · rw [List.map_id', lset_ok (Nat.lt_of_le_of_lt (List.length_filter_le _ _) h)]
    rfl
theorem v_denseT {row : List Int} (h : row.length < 64) : s_law_dense_1 row = .ok (row.map (rankI row)) := by
  unfold s_law_dense_1
  rw [mapT_ok (g := rankI row) fun x _ => ?_]
  · rfl
  · rw [List.map_id', lset_ok (Nat.lt_of_le_of_lt (List.length_filter_le _ _) h)]
    rfl
theorem v_order {more : Int} {n : Nat} (h1 : 1 ≤ n) (h2 : n ≤ 6) : ∃ o, s_law_order more n = .ok o ∧ Ordr o ∧ o.length = n := by
  have h5 := Int.emod_nonneg more (show (3 : Int) ≠ 0 by decide)
  have h6 := Int.emod_lt_of_pos more (show (0 : Int) < 3 by decide)
  obtain ⟨b, hb, hb2⟩ : ∃ b : Int, atR ([2, (n : Int), 6] : List Int) (more % 3) = .ok b ∧ 0 < b := by
    have c3 : more % 3 = 0 ∨ more % 3 = 1 ∨ more % 3 = 2 := by omega
    rcases c3 with q | q | q <;> rw [q]
    · exact ⟨2, rfl, by decide⟩
    · exact ⟨n, rfl, by omega⟩
    · exact ⟨6, rfl, by decide⟩
  have ln : (irng n).length = n := irng_len n
  refine ⟨_, ?_, dense_ordr (o := (irng n).map fun j => drawI more j / 4 % b) (by rw [List.length_map, ln]; exact h1) (by rw [List.length_map, ln]; exact h2), by rw [List.length_map, List.length_map, ln]⟩
  unfold s_law_order
  rw [rng0_ok (by omega) (by omega)]
  simp only [R.bind_ok]
  rw [mapT_ok (g := fun j => drawI more j / 4 % b) fun j _ => ?_]
  · simp only [R.bind_ok]
    rw [v_denseL (by rw [List.length_map, ln]; omega)]
    rfl
  · rw [v_drawn]
    simp only [R.bind_ok]
    rw [hb]
    simp only [R.bind_ok, mod_ok hb2]
theorem v_items (more : Int) : ∃ n : Nat, s_law_items more = .ok (n : Int) ∧ 1 ≤ n ∧ n ≤ 6 := by
  have h5 := Int.emod_nonneg (more / 8) (show (5 : Int) ≠ 0 by decide)
  have h6 := Int.emod_lt_of_pos (more / 8) (show (0 : Int) < 5 by decide)
  have h7 := Int.emod_nonneg more (show (5 : Int) ≠ 0 by decide)
  have h8 := Int.emod_lt_of_pos more (show (0 : Int) < 5 by decide)
  have cases5 : more / 8 % 5 = 0 ∨ more / 8 % 5 = 1 ∨ more / 8 % 5 = 2 ∨ more / 8 % 5 = 3 ∨ more / 8 % 5 = 4 := by omega
  unfold s_law_items
  rcases cases5 with q | q | q | q | q <;> rw [q]
  · refine ⟨(1 + more % 5).toNat, ?_, by omega, by omega⟩
    rw [Int.toNat_of_nonneg (by omega)]
    rfl
  · exact ⟨3, rfl, by omega, by omega⟩
  · exact ⟨4, rfl, by omega, by omega⟩
  · exact ⟨6, rfl, by omega, by omega⟩
  · exact ⟨2, rfl, by omega, by omega⟩
/-! what the program's defs tell of right orders -/
theorem sset_ok {o : List Int} (h : o.length < 64) : ssetR o = .ok (sortI (dedup o)) := if_pos h
theorem max_ok {o : List Int} (h : o ≠ []) : maxR o = .ok (maxI o) := if_pos h
theorem cat_ok {α : Type} {xs ys : List α} (h : xs.length + ys.length ≤ 1000000) : catR xs ys = .ok (xs ++ ys) := if_pos h
theorem v_is_count (r lo hi : Int) : s_is_count r lo hi = .ok (decide (lo ≤ r) && decide (r ≤ hi)) := by
  unfold s_is_count
  simp
theorem v_is_order {o : List Int} (h : Ordr o) : s_is_order o = .ok true := by
  have hne := h.ne
  have h1 := h.lo
  have h2 := h.hi
  have hm := h.lt (maxI_mem hne)
  have h0 := h.nn _ (maxI_mem hne)
  unfold s_is_order
  rw [mapT_ok (g := fun r => decide (0 ≤ r) && decide (r ≤ 6 - 1)) fun r _ => v_is_count r 0 (6 - 1)]
  have ha : (o.map fun r => decide (0 ≤ r) && decide (r ≤ 6 - 1)).all id = true := by
    rw [List.all_map, List.all_eq_true]
    intro r hr
    have := h.nn r hr
    have := h.lt hr
    simp only [Function.comp_apply, id, Bool.and_eq_true, decide_eq_true_eq]
    omega
  have d1 : decide ((1 : Int) ≤ ((o.length : Nat) : Int)) = true := decide_eq_true (by omega)
  have d2 : decide (((o.length : Nat) : Int) ≤ 6) = true := decide_eq_true (by omega)
  simp only [d1, d2, Bool.and_self, Bool.not_true, Bool.or_self, R.toO_ok, Bool.false_eq_true, if_false, OT.andThen_nx, R.bind_ok, ha, sset_ok (show o.length < 64 by omega), max_ok hne, rng0_ok (show 0 ≤ maxI o + 1 by omega) (show maxI o + 1 ≤ 1000 by omega), h.sorted, decide_true, OT.toR_rt]
theorem v_need_order {o : List Int} (h : Ordr o) : s_need_order o = .ok () := by
  unfold s_need_order
  rw [v_is_order h]
  rfl
/-! all orders, rising -/
def tups (n : Nat) : Nat → List (List Int)
  | 0 => [[]]
  | k + 1 => (tups n k).flatMap fun p => (List.range n).map fun (r : Nat) => p ++ [(r : Int)]
def ordB (o : List Int) : Bool := (irng (maxI o + 1)).all fun i => o.contains i
def rowsO (n : Nat) : List (List Int) := (tups n n).filter ordB
theorem mem_tups {n : Nat} : ∀ {k : Nat} {o : List Int}, o ∈ tups n k ↔ o.length = k ∧ ∀ r ∈ o, 0 ≤ r ∧ r < n
  | 0, o => by
    rw [tups, List.mem_singleton]
    constructor
    · rintro rfl; exact ⟨rfl, fun r hr => nomatch hr⟩
    · intro h; exact List.eq_nil_of_length_eq_zero h.1
  | k + 1, o => by
    rw [tups, List.mem_flatMap]
    constructor
    · rintro ⟨p, hp, h⟩
      obtain ⟨r, hr, rfl⟩ := List.mem_map.mp h
      obtain ⟨h1, h2⟩ := mem_tups.mp hp
      refine ⟨by rw [List.length_append, h1]; rfl, fun z hz => ?_⟩
      rcases List.mem_append.mp hz with q | q
      · exact h2 z q
      · rw [List.mem_singleton.mp q]
        have := List.mem_range.mp hr
        omega
    · rintro ⟨h1, h2⟩
      have hne : o ≠ [] := fun e => by rw [e] at h1; cases h1
      have e := List.dropLast_concat_getLast hne
      have hl := h2 _ (List.getLast_mem hne)
      refine ⟨o.dropLast, mem_tups.mpr ⟨by rw [List.length_dropLast, h1]; rfl, fun r hr => h2 r (List.dropLast_subset o hr)⟩, List.mem_map.mpr ⟨(o.getLast hne).toNat, List.mem_range.mpr (by omega), ?_⟩⟩
      rw [show (((o.getLast hne).toNat : Nat) : Int) = o.getLast hne by omega]
      exact e
theorem rows_in {o : List Int} (h : Ordr o) : o ∈ rowsO o.length := by
  refine List.mem_filter.mpr ⟨mem_tups.mpr ⟨rfl, fun r hr => ⟨h.nn r hr, h.lt hr⟩⟩, ?_⟩
  unfold ordB
  rw [List.all_eq_true]
  intro i hi
  have hi' := mem_irng.mp hi
  rw [List.contains_iff_mem]
  by_cases e : i = maxI o
  · rw [e]; exact maxI_mem h.ne
  · exact h.dn _ (maxI_mem h.ne) i hi'.1 (by omega)
theorem rows_ordr {n : Nat} (h1 : 1 ≤ n) (h2 : n ≤ 6) {o : List Int} (h : o ∈ rowsO n) : Ordr o ∧ o.length = n := by
  obtain ⟨a, b⟩ := List.mem_filter.mp h
  obtain ⟨l, c⟩ := mem_tups.mp a
  refine ⟨⟨by omega, by omega, fun r hr => (c r hr).1, fun r hr i hi hir => ?_⟩, l⟩
  unfold ordB at b
  rw [List.all_eq_true] at b
  have := b i (mem_irng.mpr ⟨hi, by have := le_maxI hr; omega⟩)
  rw [List.contains_iff_mem] at this
  exact this
theorem v_tidied {row : List Int} (h : row.length < 64) : s_tidied row = .ok (denI row) := by
  unfold s_tidied
  rw [sset_ok h]
  simp only [R.toO_ok]
  rw [mapT_ok (g := rankI row) fun x hx => ?_]
  · rfl
  · unfold indexR
    rw [if_pos (mem_sortI.mpr (mem_dedup.mpr hx)), idx_rank hx]
/-! rows of pairs, told by one number -/
def cd8 (r : List Int) : Int := r.getD 0 0 * 8 + r.getD 1 0
def PairOk (r : List Int) : Prop := ∃ x y : Int, r = [x, y] ∧ 0 ≤ x ∧ 0 ≤ y ∧ y < 8
theorem cd8_lt {r q : List Int} (hr : PairOk r) (hq : PairOk q) : HT.lexLt r q = true ↔ cd8 r < cd8 q := by
  obtain ⟨x, y, rfl, h1, h2, h3⟩ := hr
  obtain ⟨u, v, rfl, k1, k2, k3⟩ := hq
  rw [HT.lexLt_cons, HT.lexLt_cons, HT.lexLt_nil_nil]
  simp only [cd8, List.getD_cons_zero, List.getD_cons_succ]
  by_cases e : x = u
  · rw [if_pos e]
    by_cases f : y = v
    · rw [if_pos f]; simp; omega
    · rw [if_neg f, decide_eq_true_eq]; omega
  · rw [if_neg e, decide_eq_true_eq]; omega
theorem cd8_inj {r q : List Int} (hr : PairOk r) (hq : PairOk q) (h : cd8 r = cd8 q) : r = q := by
  obtain ⟨x, y, rfl, h1, h2, h3⟩ := hr
  obtain ⟨u, v, rfl, k1, k2, k3⟩ := hq
  simp only [cd8, List.getD_cons_zero, List.getD_cons_succ] at h
  have : x = u := by omega
  have : y = v := by omega
  subst_vars
  rfl
theorem idx_map {α : Type} [BEq α] [LawfulBEq α] {f : α → Int} {x : α} : ∀ {l : List α}, (∀ y ∈ l, f y = f x → y = x) → (l.map f).idxOf (f x) = l.idxOf x
  | [], _ => rfl
  | y :: l, h => by
    rw [List.map_cons, List.idxOf_cons, List.idxOf_cons, idx_map fun z hz => h z (List.mem_cons_of_mem _ hz)]
    by_cases e : y = x
    · subst e; simp
    · have : f y ≠ f x := fun q => e (h y List.mem_cons_self q)
      rw [show (y == x) = false from beq_eq_false_iff_ne.mpr e, show (f y == f x) = false from beq_eq_false_iff_ne.mpr this]
theorem pw_map {f : List Int → Int} : ∀ {l : List (List Int)}, LexP l → (∀ r ∈ l, ∀ q ∈ l, HT.lexLt r q = true → f r < f q) → (l.map f).Pairwise (· < ·)
  | [], _, _ => .nil
  | r :: l, h, k => by
    have h' := List.pairwise_cons.mp h
    refine List.pairwise_cons.mpr ⟨fun z hz => ?_, pw_map h'.2 fun a ha b hb => k a (List.mem_cons_of_mem _ ha) b (List.mem_cons_of_mem _ hb)⟩
    obtain ⟨q, hq, rfl⟩ := List.mem_map.mp hz
    exact k r List.mem_cons_self q (List.mem_cons_of_mem _ hq) (h'.1 q hq)
theorem v_tidiedT {rows : List (List Int)} (h : rows.length < 64) (hp : ∀ r ∈ rows, PairOk r) : s_tidied_1 rows = .ok (denI (rows.map cd8)) := by
  have ok : okTs rows = true := by
    unfold okTs
    refine List.all_eq_true.mpr fun r hr => ?_
    have hd : (rows.headD []).length = 2 := by
      cases rows with
      | nil => exact nomatch hr
      | cons q _ => obtain ⟨x, y, e, _⟩ := hp q List.mem_cons_self; simp [e]
    obtain ⟨x, y, rfl, h1, h2, _⟩ := hp r hr
    rw [hd]
    simp [h1, h2]
  have len2 : ∀ y ∈ dedup rows, y.length = 2 := fun y hy => by
    obtain ⟨u, v, e, _⟩ := hp y (mem_dedup.mp hy)
    rw [e]; rfl
  have inS : ∀ {y}, y ∈ sortT (dedup rows) ↔ y ∈ rows := fun {y} => by rw [(sortT_perm _).mem_iff]; exact mem_dedup
  have srt : (sortT (dedup rows)).map cd8 = sortI (dedup (rows.map cd8)) := by
    refine lt_unique (pw_map (sortT_lt (d := 2) (nodup_dedup rows) len2) fun r hr q hq hl => (cd8_lt (hp r (inS.mp hr)) (hp q (inS.mp hq))).mp hl) (sortI_lt (nodup_dedup _)) fun z => ?_
    rw [mem_sortI, mem_dedup, List.mem_map, List.mem_map]
    constructor
    · rintro ⟨r, hr, e⟩; exact ⟨r, inS.mp hr, e⟩
    · rintro ⟨r, hr, e⟩; exact ⟨r, inS.mpr hr, e⟩
  unfold s_tidied_1
  have e0 : ssetTR rows = .ok (sortT (dedup rows)) := if_pos ⟨h, ok⟩
  rw [e0]
  simp only [R.toO_ok]
  rw [mapT_ok (g := fun r => rankI (rows.map cd8) (cd8 r)) fun r hr => ?_]
  · simp only [R.bind_ok, R.toO_ok, OT.toR_rt, denI, List.map_map]
    rfl
  · unfold indexR
    rw [if_pos (inS.mpr hr)]
    congr 1
    rw [← idx_rank (List.mem_map.mpr ⟨r, hr, rfl⟩), ← srt]
    congr 1
    exact Eq.symm (@idx_map _ instBEqOfDecidableEq inferInstance cd8 r _ fun y hy e => cd8_inj (hp y (inS.mp hy)) (hp r hr) e)
end Lk.T
end Part_K70B
section Part_K70C
set_option Elab.async false
set_option linter.all false
set_option maxRecDepth 100000
set_option maxHeartbeats 4000000
namespace Lk.T
open PySem PySem.Spec PyProof.Rows L2
def rTr (r : R Bool) : Bool := match r with
  | .ok x => x
  | _ => false
theorem rTr_eq {r : R Bool} (h : rTr r = true) : r = .ok true := by
  cases r with
  | ok x => simp only [rTr] at h; rw [h]
  | exc c => cases h
  | bad => cases h
def isNxB {α : Type} : OT Unit α → Bool
  | .nx _ => true
  | _ => false
theorem isNxB_eq {α : Type} {t : OT Unit α} (h : isNxB t = true) : t = .nx () := by
  cases t with
  | nx s => rfl
  | rt x => cases h
  | xc c => cases h
  | bad => cases h
/-- with one more: this part of the law -/
def woneP (order_7 : List Int) (items_6 : Int) : OT Unit Bool := (s_with_one order_7).toO fun rows_31 =>
  (((ssetTR rows_31).bind fun x32 => R.ok (!decide (rows_31 = x32))).bind fun b36 => if b36 = true then R.ok true else (((maxR order_7).bind fun x33 => R.ok ((2 : Int) * x33)).bind fun x34 => R.ok (x34 + (3 : Int))).bind fun x35 => R.ok (!decide (((rows_31.length : Nat) : Int) = x35))).toO fun b47 => (if b47 = true then OT.rt false else OT.nx ()).andThen fun (s37 : Unit) =>
  ((lcT (fun (z38 : (List Int)) => (((s_law_dense_1 z38).bind fun x39 => R.ok (!decide (x39 = z38))).bind fun b42 => if b42 = true then R.ok true else ((rng0R items_6).bind fun x40 => s_part z38 x40).bind fun x41 => R.ok (!decide (x41 = order_7))).bind fun b43 => if b43 = true then (R.ok z38).bind fun z => R.ok (some z) else R.ok none) rows_31).bind fun x44 => R.ok (!decide (x44 = ([] : (List (List Int)))))).toO fun b46 => (if b46 = true then OT.rt false else OT.nx ()).andThen fun (s45 : Unit) =>
  OT.nx ()
def gluB (a b : List Int) : Bool := match s_glued a b, (catR (a.map (fun (z6 : Int) => ([(0 : Int), z6] : (List Int)))) (b.map (fun (z7 : Int) => ([(1 : Int), z7] : (List Int))))).bind fun x8 => s_law_dense_2 x8 with
  | .ok x, .ok y => decide (x = y)
  | _, _ => false
end Lk.T
end Part_K70C
section Part_K70D
set_option Elab.async false
set_option linter.all false
set_option maxRecDepth 100000
set_option maxHeartbeats 4000000
namespace Lk.T
open PySem PySem.Spec PyProof.Rows L2
theorem den_of {o row : List Int} (ho : Ordr o) (hl : row.length = o.length) (hs : ∀ i j, i < o.length → j < o.length → sgA row i j = sgA o i j) : denI row = o := by
  have l1 := ho.lo
  have l2 := ho.hi
  refine sg_ext (dense_ordr (by omega) (by omega)) ho ((den_len row).trans hl) fun i j hi hj => ?_
  have e := den_len row
  rw [e] at hi hj
  rw [den_sg hi hj]
  exact hs i j (by omega) (by omega)
theorem den_self {o : List Int} (ho : Ordr o) : denI o = o := den_of ho rfl fun _ _ _ _ => rfl
/-! part -/
theorem cut_eq (xs : List Int) : cutL xs none (some (-(1 : Int))) = xs.take (xs.length - 1) ∧ cutL xs (some (1 : Int)) none = xs.drop 1 := by
  constructor
  · unfold cutL
    rw [HT.sIx_none, List.drop_zero]
    congr 1
    show (if (-1 : Int) < 0 then ((-1 : Int) + (xs.length : Int)).toNat else min (-1 : Int).toNat xs.length) - 0 = _
    rw [if_pos (by decide)]
    omega
  · unfold cutL
    rw [HT.sIx_none, show (1 : Int) = ((1 : Nat) : Int) from rfl, HT.sIx_nat]
    cases xs with
    | nil => rfl
    | cons x xs =>
      rw [show min 1 (x :: xs).length = 1 by simp]
      rw [List.take_of_length_le (by simp)]
theorem zip_inc {xs : List Int} (hp : xs.Pairwise (· < ·)) {k : Nat} : ∀ p ∈ (xs.take k).zip (xs.drop 1), p.1 < p.2 := by
  rintro ⟨x, y⟩ h
  obtain ⟨i, hi⟩ := List.getElem?_of_mem h
  obtain ⟨h1, h2⟩ := List.getElem?_zip_eq_some.mp hi
  rw [List.getElem?_take] at h1
  split at h1
  · rw [List.getElem?_drop] at h2
    obtain ⟨l1, e1⟩ := List.getElem?_eq_some_iff.mp h1
    obtain ⟨l2, e2⟩ := List.getElem?_eq_some_iff.mp h2
    have := List.pairwise_iff_getElem.mp hp i (1 + i) l1 l2 (by omega)
    simp only at e1 e2 ⊢
    omega
  · cases h1
theorem cut_all {xs : List Int} (hp : xs.Pairwise (· < ·)) : (((cutL xs none (some (-(1 : Int)))).zip (cutL xs (some (1 : Int)) none)).map (fun (z6 : (Int × Int)) => (decide (z6.1 < z6.2)))).all id = true := by
  rw [(cut_eq xs).1, (cut_eq xs).2, List.all_eq_true]
  intro b hb
  obtain ⟨p, hq, rfl⟩ := List.mem_map.mp hb
  exact decide_eq_true (zip_inc hp p hq)
def pick (o items : List Int) : List Int := items.map fun i => o.getD i.toNat 0
theorem at_pick {o items : List Int} (hb : ∀ i ∈ items, 0 ≤ i ∧ i < o.length) : mapT (fun (z8 : Int) => atR o z8) items = .ok (pick o items) :=
  mapT_ok fun i hi => by
    obtain ⟨h0, h1⟩ := hb i hi
    have hi' : i.toNat < o.length := by omega
    have := at_of (xs := o) (i := i.toNat) (x := o.getD i.toNat 0) (by rw [List.getD_eq_getElem?_getD, List.getElem?_eq_getElem hi']; rfl)
    rw [show ((i.toNat : Nat) : Int) = i by omega] at this
    exact this
theorem v_part {o items : List Int} (ho : Ordr o) (hne : items ≠ []) (hp : items.Pairwise (· < ·)) (hb : ∀ i ∈ items, 0 ≤ i ∧ i < o.length) (hl : items.length < 64) : s_part o items = .ok (denI (pick o items)) := by
  unfold s_part
  rw [v_need_order ho, cut_all hp, at_pick hb, decide_eq_false hne]
  have : mapT (fun (z3 : Int) => s_is_count z3 (0 : Int) (((o.length : Nat) : Int) - (1 : Int))) items = .ok (items.map fun _ => true) := mapT_ok fun i hi => by
    obtain ⟨h0, h1⟩ := hb i hi
    rw [v_is_count, decide_eq_true h0, decide_eq_true (show i ≤ ((o.length : Nat) : Int) - 1 by omega)]
    rfl
  rw [this]
  have e : (items.map fun _ => true).all id = true := List.all_eq_true.mpr fun b hb => by
    obtain ⟨_, _, rfl⟩ := List.mem_map.mp hb
    rfl
  simp only [R.bind_ok, R.toO_ok, e, Bool.not_false, Bool.not_true, Bool.or_false, Bool.false_eq_true, if_true, if_false, OT.andThen]
  rw [v_tidied (by unfold pick; rw [List.length_map]; exact hl)]
  rfl
theorem pick_rng {o : List Int} {n : Nat} (h : n ≤ o.length) : pick o (irng n) = o.take n := by
  refine List.ext_getElem? fun i => ?_
  unfold pick irng
  rw [List.map_map, List.getElem?_map, List.getElem?_take]
  by_cases hi : i < n
  · rw [if_pos hi, List.getElem?_range (by omega)]
    simp only [Option.map_some, Function.comp, Int.toNat_natCast]
    rw [List.getElem?_eq_getElem (by omega)]
    congr 1
    rw [List.getD_eq_getElem?_getD, List.getElem?_eq_getElem (by omega)]
    rfl
  · rw [if_neg hi, List.getElem?_eq_none (by rw [List.length_range]; omega)]
    rfl
theorem v_part_all {o : List Int} (ho : Ordr o) {n : Nat} (h1 : 1 ≤ n) (h : n ≤ o.length) : s_part o (irng n) = .ok (denI (o.take n)) := by
  have h6 := ho.hi
  have ln := irng_len n
  rw [v_part ho (fun e => by rw [e] at ln; simp at ln; omega) (irng_lt _) (fun i hi => by rw [mem_irng] at hi; omega) (by omega), pick_rng h]
theorem part_self {o : List Int} (ho : Ordr o) : s_part o (irng o.length) = .ok o := by
  rw [v_part_all ho ho.lo (Nat.le_refl _), List.take_length, den_self ho]
end Lk.T
end Part_K70D
section Part_K70E
set_option Elab.async false
set_option linter.all false
set_option maxRecDepth 100000
set_option maxHeartbeats 4000000
namespace Lk.T
open PySem PySem.Spec PyProof.Rows L2
/-! with one more -/
def dbl (o : List Int) (x : Int) : List Int := o.map (fun (z7 : Int) => ((2 : Int) * z7)) ++ [x]
theorem dbl_len (o : List Int) (x : Int) : (dbl o x).length = o.length + 1 := by unfold dbl; rw [List.length_append, List.length_map]; rfl
theorem dbl_at {o : List Int} {x : Int} {i : Nat} (h : i < o.length) : (dbl o x).getD i 0 = 2 * o.getD i 0 := by
  unfold dbl
  rw [List.getD_eq_getElem?_getD, List.getElem?_append_left (by rw [List.length_map]; exact h), List.getElem?_map, List.getElem?_eq_getElem h, List.getD_eq_getElem?_getD, List.getElem?_eq_getElem h]
  rfl
theorem dbl_last (o : List Int) (x : Int) : (dbl o x).getD o.length 0 = x := by
  unfold dbl
  rw [List.getD_eq_getElem?_getD, List.getElem?_append_right (by rw [List.length_map]; exact Nat.le_refl _), List.length_map, Nat.sub_self]
  rfl
theorem sgn_dbl (x y : Int) : sgn (2 * x) (2 * y) = sgn x y := by
  rcases sgn_3 x y with ⟨h, e⟩ | ⟨h, e⟩ | ⟨h, e⟩
  · rw [e, sgn_lt (by omega)]
  · rw [h, sgn_self, sgn_self]
  · rw [e, sgn_gt (by omega)]
theorem dbl_ordr {o : List Int} (ho : Ordr o) (h5 : o.length ≤ 5) (x : Int) : Ordr (denI (dbl o x)) := dense_ordr (by rw [dbl_len]; omega) (by rw [dbl_len]; omega)
theorem take_getD {z : List Int} {n i : Nat} (h : i < n) : (z.take n).getD i 0 = z.getD i 0 := by
  rw [List.getD_eq_getElem?_getD, List.getD_eq_getElem?_getD, List.getElem?_take, if_pos h]
theorem dbl_part {o : List Int} (ho : Ordr o) (x : Int) : denI ((denI (dbl o x)).take o.length) = o := by
  refine den_of ho (by rw [List.length_take, den_len, dbl_len]; omega) fun i j hi hj => ?_
  have e : sgA ((denI (dbl o x)).take o.length) i j = sgA (denI (dbl o x)) i j := by unfold sgA; rw [take_getD hi, take_getD hj]
  rw [e, den_sg (by rw [dbl_len]; omega) (by rw [dbl_len]; omega)]
  unfold sgA
  rw [dbl_at hi, dbl_at hj, sgn_dbl]
theorem dbl_inj {o : List Int} (ho : Ordr o) {x y : Int} (hx : -1 ≤ x) (hy : y ≤ 2 * maxI o + 1) (hxy : x < y) : denI (dbl o x) ≠ denI (dbl o y) := fun e => by
  have key : ∀ r ∈ o, sgn (2 * r) x = sgn (2 * r) y := fun r hr => by
    obtain ⟨i, hi, hir⟩ := List.getElem_of_mem hr
    have a := den_sg (row := dbl o x) (i := i) (j := o.length) (by rw [dbl_len]; omega) (by rw [dbl_len]; omega)
    have b := den_sg (row := dbl o y) (i := i) (j := o.length) (by rw [dbl_len]; omega) (by rw [dbl_len]; omega)
    rw [e, b] at a
    unfold sgA at a
    rw [dbl_at hi, dbl_at hi, dbl_last, dbl_last, List.getD_eq_getElem?_getD, List.getElem?_eq_getElem hi] at a
    rw [← hir]
    exact a.symm
  have mm := maxI_mem ho.ne
  have m0 := ho.nn _ mm
  have hr : (x + 1) / 2 ∈ o := ho.dn _ mm _ (by omega) (by omega)
  have k := key _ hr
  rcases Int.emod_two_eq x with p | p
  · have e1 : 2 * ((x + 1) / 2) = x := by omega
    rw [e1, sgn_self, sgn_lt hxy] at k
    cases k
  · have e1 : 2 * ((x + 1) / 2) = x + 1 := by omega
    rw [e1, sgn_gt (by omega)] at k
    rcases sgn_3 (x + 1) y with ⟨h, e⟩ | ⟨h, e⟩ | ⟨h, e⟩
    · rw [e] at k; cases k
    · rw [e] at k; cases k
    · omega
def spots (o : List Int) : List Int := (List.range (2 * maxI o + 2 - (-1)).toNat).map fun (i : Nat) => -1 + (i : Int)
def wrows (o : List Int) : List (List Int) := (spots o).map fun x => denI (dbl o x)
theorem mem_spots {o : List Int} {x : Int} : x ∈ spots o ↔ -1 ≤ x ∧ x ≤ 2 * maxI o + 1 := by
  unfold spots
  rw [List.mem_map]
  constructor
  · rintro ⟨i, hi, rfl⟩
    rw [List.mem_range] at hi
    omega
  · intro h
    exact ⟨(x + 1).toNat, by rw [List.mem_range]; omega, by omega⟩
theorem spots_lt (o : List Int) : (spots o).Pairwise (· < ·) := by
  unfold spots
  rw [List.pairwise_map]
  exact List.pairwise_lt_range.imp fun h => by omega
theorem wrows_nd {o : List Int} (ho : Ordr o) : (wrows o).Nodup := by
  unfold wrows
  rw [List.Nodup, List.pairwise_map]
  refine List.Pairwise.imp_of_mem (fun {x y} hx hy h => ?_) (spots_lt o)
  rw [mem_spots] at hx hy
  exact dbl_inj ho hx.1 hy.2 h
theorem wrows_len {o : List Int} (ho : Ordr o) : ((wrows o).length : Int) = 2 * maxI o + 3 := by
  have m0 := ho.nn _ (maxI_mem ho.ne)
  unfold wrows spots
  rw [List.length_map, List.length_map, List.length_range]
  omega
theorem dedup_nd {α : Type} [DecidableEq α] : ∀ {l : List α}, l.Nodup → dedup l = l
  | [], _ => rfl
  | x :: r, h => by
    have h' := List.nodup_cons.mp h
    unfold dedup
    rw [if_neg h'.1, dedup_nd h'.2]
theorem okTs_of {rows : List (List Int)} {d : Nat} (hd : 1 ≤ d) (h : ∀ r ∈ rows, r.length = d ∧ ∀ i ∈ r, 0 ≤ i) : okTs rows = true := by
  unfold okTs
  refine List.all_eq_true.mpr fun r hr => ?_
  obtain ⟨h1, h2⟩ := h r hr
  have hh : (rows.headD []).length = d := by
    cases rows with
    | nil => cases hr
    | cons x rows => exact (h x List.mem_cons_self).1
  rw [hh, decide_eq_true h1, decide_eq_true (show 1 ≤ r.length by omega)]
  simpa using h2
theorem mem_wrows {o z : List Int} (ho : Ordr o) (h5 : o.length ≤ 5) (hz : z ∈ wrows o) : Ordr z ∧ z.length = o.length + 1 ∧ denI (z.take o.length) = o := by
  unfold wrows at hz
  obtain ⟨x, hx, rfl⟩ := List.mem_map.mp hz
  exact ⟨dbl_ordr ho h5 x, by rw [den_len, dbl_len], dbl_part ho x⟩
theorem sortT_idem {rows : List (List Int)} {d : Nat} (nd : rows.Nodup) (h : ∀ r ∈ rows, r.length = d) : sortT (sortT rows) = sortT rows := by
  have nd2 : (sortT rows).Nodup := (sortT_perm rows).nodup_iff.mpr nd
  exact lex_unique (sortT_lt nd2 fun y hy => h y ((sortT_perm rows).mem_iff.mp hy)) (sortT_lt nd h) (sortT_perm _)
theorem v_with_one {o : List Int} (ho : Ordr o) (h5 : o.length ≤ 5) : s_with_one o = .ok (sortT (wrows o)) := by
  have m0 := ho.nn _ (maxI_mem ho.ne)
  have m6 := ho.lt (maxI_mem ho.ne)
  have wl := wrows_len ho
  have bd : ∀ {i : Int}, -1000 ≤ i → i ≤ 1000 → bnd i = true := fun {i} h1 h2 => by
    unfold bnd
    rw [decide_eq_true (show (-1000000 : Int) ≤ i by omega), decide_eq_true (show i ≤ 1000000 by omega)]
    rfl
  unfold s_with_one
  rw [v_need_order ho, max_ok ho.ne]
  simp only [R.bind_ok, R.toO_ok]
  rw [decide_eq_false (show ¬ ((o.length : Nat) : Int) = 6 by omega)]
  have e1 : rngR (-(1 : Int)) (2 * maxI o + 2) = .ok (spots o) := if_pos ⟨bd (by omega) (by omega), bd (by omega) (by omega)⟩
  rw [e1]
  simp only [R.bind_ok]
  have e2 : mapT (fun (z6 : Int) => (catR (o.map (fun (z7 : Int) => ((2 : Int) * z7))) ([z6] : (List Int))).bind fun x8 => s_tidied x8) (spots o) = .ok (wrows o) := mapT_ok fun x hx => by
    have l := dbl_len o x
    rw [cat_ok (by rw [List.length_map]; simp only [List.length_cons, List.length_nil]; omega)]
    exact v_tidied (by show (dbl o x).length < 64; omega)
  rw [e2]
  have e3 : srtR (wrows o) = .ok (sortT (wrows o)) := if_pos ⟨by omega, okTs_of (d := o.length + 1) (by omega) fun r hr => ⟨(mem_wrows ho h5 hr).2.1, (mem_wrows ho h5 hr).1.nn⟩, dedup_nd (wrows_nd ho), fun e => by rw [e] at wl; simp at wl; omega⟩
  simp only [R.toO_ok, Bool.false_eq_true, if_false, OT.andThen, e3]
  rfl
theorem v_wone {o : List Int} (ho : Ordr o) (h5 : o.length ≤ 5) : woneP o (o.length : Int) = .nx () := by
  have nd := wrows_nd ho
  have ml : ∀ r ∈ wrows o, r.length = o.length + 1 := fun r hr => (mem_wrows ho h5 hr).2.1
  have wl := wrows_len ho
  have m6 := ho.lt (maxI_mem ho.ne)
  have sl : (sortT (wrows o)).length = (wrows o).length := (sortT_perm _).length_eq
  have mem : ∀ z ∈ sortT (wrows o), z ∈ wrows o := fun z hz => (sortT_perm _).mem_iff.mp hz
  unfold woneP
  refine (R.toOf (v_with_one ho h5)).trans ?_
  have e1 : ssetTR (sortT (wrows o)) = .ok (sortT (wrows o)) := by
    refine (if_pos ⟨by omega, okTs_of (d := o.length + 1) (by omega) fun r hr => ⟨ml r (mem r hr), (mem_wrows ho h5 (mem r hr)).1.nn⟩⟩).trans ?_
    rw [dedup_nd ((sortT_perm _).nodup_iff.mpr nd), sortT_idem nd ml]
  refine nx_if ?_ ?_
  · rw [e1, max_ok ho.ne]
    simp only [R.bind_ok]
    rw [sl, wl]
    simp
  refine nx_if ?_ rfl
  have e2 : lcT (fun (z38 : (List Int)) => (((s_law_dense_1 z38).bind fun x39 => R.ok (!decide (x39 = z38))).bind fun b42 => if b42 = true then R.ok true else ((rng0R (o.length : Int)).bind fun x40 => s_part z38 x40).bind fun x41 => R.ok (!decide (x41 = o))).bind fun b43 => if b43 = true then (R.ok z38).bind fun z => R.ok (some z) else R.ok none) (sortT (wrows o)) = .ok (((sortT (wrows o)).filter fun _ => false).map id) := lcT_ok fun z hz => by
    obtain ⟨oz, lz, pz⟩ := mem_wrows ho h5 (mem z hz)
    have h6 := oz.hi
    rw [v_denseT (by omega), rng0_ok (by omega) (by omega)]
    have q : z.map (rankI z) = z := den_self oz
    have l1 := ho.lo
    simp only [R.bind_ok]
    rw [q, decide_eq_true rfl, v_part_all oz (n := o.length) l1 (by omega), pz]
    simp only [R.bind_ok, Bool.not_true, Bool.false_eq_true, if_false, decide_true]
  rw [e2]
  simp
end Lk.T
end Part_K70E
section Part_K70F
set_option Elab.async false
set_option linter.all false
set_option maxRecDepth 100000
set_option maxHeartbeats 4000000
namespace Lk.T
open PySem PySem.Spec PyProof.Rows L2
/-! rows of pairs: the law's dense and the program's tidied -/
theorem ded_pairs : ∀ {l : List (List Int)}, (∀ r ∈ l, PairOk r) → (dedup l).map cd8 = dedup (l.map cd8)
  | [], _ => rfl
  | x :: r, h => by
    have ih := ded_pairs (l := r) fun q hq => h q (List.mem_cons_of_mem _ hq)
    rw [List.map_cons]
    unfold dedup
    by_cases e : x ∈ r
    · rw [if_pos e, if_pos (List.mem_map.mpr ⟨x, e, rfl⟩), ih]
    · rw [if_neg e, if_neg fun z => ?_, List.map_cons, ih]
      obtain ⟨q, hq, hqe⟩ := List.mem_map.mp z
      have := cd8_inj (h q (List.mem_cons_of_mem _ hq)) (h x List.mem_cons_self) hqe
      exact e (this ▸ hq)
theorem v_denseP {rows : List (List Int)} (h : rows.length < 64) (hp : ∀ r ∈ rows, PairOk r) : s_law_dense_2 rows = .ok (denI (rows.map cd8)) := by
  unfold s_law_dense_2
  have e : mapT (fun (z2 : (List Int)) => lsetTR ((rows.filter (fun (z3 : (List Int)) => (HT.lexLt z3 z2))).map (fun (z3 : (List Int)) => z3))) rows = .ok (rows.map fun z => rankI (rows.map cd8) (cd8 z)) := mapT_ok fun z hz => by
    rw [List.map_id']
    have l : (rows.filter fun (z3 : (List Int)) => (HT.lexLt z3 z)).length < 64 := Nat.lt_of_le_of_lt (List.length_filter_le ..) h
    refine (if_pos l).trans (congrArg R.ok ?_)
    have e1 := ded_pairs (l := rows.filter fun (z3 : (List Int)) => (HT.lexLt z3 z)) fun r hr => hp r (List.mem_filter.mp hr).1
    have e2 : (rows.filter fun (z3 : (List Int)) => (HT.lexLt z3 z)).map cd8 = (rows.map cd8).filter fun y => decide (y < cd8 z) := by
      rw [List.filter_map]
      congr 1
      refine List.filter_congr fun r hr => ?_
      have k := cd8_lt (hp r hr) (hp z hz)
      simp only [Function.comp]
      cases q : HT.lexLt r z with
      | true => rw [decide_eq_true (k.mp q)]
      | false => rw [decide_eq_false fun w => by rw [k.mpr w] at q; cases q]
    rw [← List.length_map (f := cd8), e1, e2]
    rfl
  rw [e]
  simp only [R.bind_ok, R.toO_ok]
  show R.ok _ = _
  unfold denI
  rw [List.map_map]
  rfl
/-! glued -/
theorem g11 : ((rowsO 1).all fun a => (rowsO 1).all fun b => gluB a b) = true := by kernel_rfl
theorem g12 : ((rowsO 1).all fun a => (rowsO 2).all fun b => gluB a b) = true := by kernel_rfl
theorem g13 : ((rowsO 1).all fun a => (rowsO 3).all fun b => gluB a b) = true := by kernel_rfl
theorem g21 : ((rowsO 2).all fun a => (rowsO 1).all fun b => gluB a b) = true := by kernel_rfl
theorem g22 : ((rowsO 2).all fun a => (rowsO 2).all fun b => gluB a b) = true := by kernel_rfl
theorem g23 : ((rowsO 2).all fun a => (rowsO 3).all fun b => gluB a b) = true := by kernel_rfl
theorem g31 : ((rowsO 3).all fun a => (rowsO 1).all fun b => gluB a b) = true := by kernel_rfl
theorem g32 : ((rowsO 3).all fun a => (rowsO 2).all fun b => gluB a b) = true := by kernel_rfl
theorem g33 : ((rowsO 3).all fun a => (rowsO 3).all fun b => gluB a b) = true := by kernel_rfl
theorem g41 : ((rowsO 4).all fun a => (rowsO 1).all fun b => gluB a b) = true := by kernel_rfl
theorem g42 : ((rowsO 4).all fun a => (rowsO 2).all fun b => gluB a b) = true := by kernel_rfl
theorem g51 : ((rowsO 5).all fun a => (rowsO 1).all fun b => gluB a b) = true := by kernel_rfl
theorem glu_all {a b : List Int} (ha : Ordr a) (hb : Ordr b) (b3 : b.length ≤ 3) (h6 : a.length + b.length ≤ 6) : gluB a b = true := by
  have ma := rows_in ha
  have mb := rows_in hb
  have a1 := ha.lo
  have b1 := hb.lo
  have key : ∀ {n m : Nat}, ((rowsO n).all fun a => (rowsO m).all fun b => gluB a b) = true → a ∈ rowsO n → b ∈ rowsO m → gluB a b = true := fun h p q => List.all_eq_true.mp (List.all_eq_true.mp h a p) b q
  generalize hn : a.length = n at *
  generalize hm : b.length = m at *
  have cs : (n = 1 ∧ m = 1) ∨ (n = 1 ∧ m = 2) ∨ (n = 1 ∧ m = 3) ∨ (n = 2 ∧ m = 1) ∨ (n = 2 ∧ m = 2) ∨ (n = 2 ∧ m = 3) ∨ (n = 3 ∧ m = 1) ∨ (n = 3 ∧ m = 2) ∨ (n = 3 ∧ m = 3) ∨ (n = 4 ∧ m = 1) ∨ (n = 4 ∧ m = 2) ∨ (n = 5 ∧ m = 1) := by omega
  rcases cs with ⟨rfl, rfl⟩ | ⟨rfl, rfl⟩ | ⟨rfl, rfl⟩ | ⟨rfl, rfl⟩ | ⟨rfl, rfl⟩ | ⟨rfl, rfl⟩ | ⟨rfl, rfl⟩ | ⟨rfl, rfl⟩ | ⟨rfl, rfl⟩ | ⟨rfl, rfl⟩ | ⟨rfl, rfl⟩ | ⟨rfl, rfl⟩
  · exact key g11 ma mb
  · exact key g12 ma mb
  · exact key g13 ma mb
  · exact key g21 ma mb
  · exact key g22 ma mb
  · exact key g23 ma mb
  · exact key g31 ma mb
  · exact key g32 ma mb
  · exact key g33 ma mb
  · exact key g41 ma mb
  · exact key g42 ma mb
  · exact key g51 ma mb
def gluR (a b : List Int) : R (List Int) := (catR (a.map (fun (z6 : Int) => ([(0 : Int), z6] : (List Int)))) (b.map (fun (z7 : Int) => ([(1 : Int), z7] : (List Int))))).bind fun x8 => s_law_dense_2 x8
theorem gluR_ok {a b : List Int} (ha : Ordr a) (hb : Ordr b) : ∃ d, gluR a b = .ok d := by
  have a6 := ha.hi
  have b6 := hb.hi
  unfold gluR
  rw [cat_ok (by rw [List.length_map, List.length_map]; omega)]
  refine ⟨_, v_denseP (by rw [List.length_append, List.length_map, List.length_map]; omega) fun r hr => ?_⟩
  rcases List.mem_append.mp hr with q | q
  · obtain ⟨x, hx, rfl⟩ := List.mem_map.mp q
    exact ⟨0, x, rfl, by decide, ha.nn x hx, by have := ha.lt hx; omega⟩
  · obtain ⟨x, hx, rfl⟩ := List.mem_map.mp q
    exact ⟨1, x, rfl, by decide, hb.nn x hx, by have := hb.lt hx; omega⟩
/-- what glued tells, and what is due -/
theorem v_glued {a b : List Int} (ha : Ordr a) (hb : Ordr b) (b3 : b.length ≤ 3) : ∃ d, gluR a b = .ok d ∧ s_glued a b = if a.length + b.length ≤ 6 then .ok d else .exc "BadOrder" := by
  obtain ⟨d, hd⟩ := gluR_ok ha hb
  refine ⟨d, hd, ?_⟩
  by_cases h : a.length + b.length ≤ 6
  · rw [if_pos h]
    have g := glu_all ha hb b3 h
    unfold gluB at g
    have hd' := hd
    unfold gluR at hd'
    rw [hd'] at g
    cases q : s_glued a b with
    | ok x => rw [q] at g; rw [of_decide_eq_true g]
    | exc c => rw [q] at g; cases g
    | bad => rw [q] at g; cases g
  · rw [if_neg h]
    unfold s_glued
    rw [v_need_order ha, v_need_order hb]
    simp only [R.toO_ok]
    rw [decide_eq_true (show (6 : Int) < ((a.length : Nat) : Int) + ((b.length : Nat) : Int) by omega)]
    rfl
end Lk.T
end Part_K70F
section Part_K70G
set_option Elab.async false
set_option linter.all false
set_option maxRecDepth 100000
set_option maxHeartbeats 4000000
namespace Lk.T
open PySem PySem.Spec PyProof.Rows L2
/-! items made several -/
def cel (p : Int × List Int) : List (List Int) := p.2.map fun (z12 : Int) => ([p.1, z12] : List Int)
theorem cells_loop {α : Type} : ∀ (l : List (Int × List Int)) (s : List (List Int)), s.length + (l.flatMap cel).length < 1000000 →
    forT (α := α) (fun (i11 : (Int × (List Int))) (s10 : (List (List Int))) => ((R.ok (i11.2.map (fun (z12 : Int) => ([i11.1, z12] : (List Int))))).bind fun x14 => extR s10 x14).toO fun found_13 => OT.nx found_13) l s = .nx (s ++ l.flatMap cel)
  | [], s, _ => by rw [forT_nil]; simp
  | p :: l, s, h => by
    rw [List.flatMap_cons, List.length_append] at h
    rw [forT_cons]
    have e : extR s (cel p) = .ok (s ++ cel p) := if_pos (by omega)
    have e' : ((R.ok (p.2.map (fun (z12 : Int) => ([p.1, z12] : (List Int))))).bind fun x14 => extR s x14) = .ok (s ++ cel p) := e
    rw [e']
    show forT _ l (s ++ cel p) = _
    rw [cells_loop l (s ++ cel p) (by rw [List.length_append]; omega), List.flatMap_cons, List.append_assoc]
theorem cells_len : ∀ {l : List (Int × List Int)}, (∀ p ∈ l, p.2.length ≤ 6) → (l.flatMap cel).length ≤ 6 * l.length
  | [], _ => by simp
  | p :: l, h => by
    rw [List.flatMap_cons, List.length_append, List.length_cons]
    have := cells_len (l := l) fun q hq => h q (List.mem_cons_of_mem _ hq)
    have h1 := h p List.mem_cons_self
    have h2 : (cel p).length = p.2.length := List.length_map ..
    omega
def cellsI (o : List Int) (rows : List (List Int)) : List (List Int) := (o.zip rows).flatMap cel
theorem need_all {α : Type} {rows : List (List Int)} (h : ∀ r ∈ rows, Ordr r) : forT (α := α) (fun (i5 : (List Int)) (s4 : Unit) => (s_need_order i5).toO fun _ => OT.nx ()) rows () = .nx () :=
  forT_unit fun r hr => by rw [v_need_order (h r hr)]; rfl
section
variable {o : List Int} {rows : List (List Int)} (ho : Ordr o) (hr : ∀ r ∈ rows, Ordr r)
include ho hr
theorem cells_small : (cellsI o rows).length ≤ 36 := by
  have h6 := ho.hi
  have := cells_len (l := o.zip rows) fun p hp => (hr p.2 (List.of_mem_zip hp).2).hi
  have l : (o.zip rows).length ≤ o.length := by rw [List.length_zip]; exact Nat.min_le_left _ _
  unfold cellsI
  omega
theorem cells_ok : ∀ r ∈ cellsI o rows, PairOk r := fun r h => by
  unfold cellsI at h
  obtain ⟨p, hp, hq⟩ := List.mem_flatMap.mp h
  obtain ⟨y, hy, rfl⟩ := List.mem_map.mp hq
  obtain ⟨h1, h2⟩ := List.of_mem_zip hp
  have oy := hr _ h2
  have := oy.lt hy
  have := oy.hi
  exact ⟨p.1, y, rfl, ho.nn _ h1, oy.nn y hy, by omega⟩
theorem v_inner (hl : rows.length = o.length) : s_inner o rows = if (rows.map (fun (z7 : (List Int)) => ((z7.length : Nat) : Int))).sum ≤ 6 then .ok (denI ((cellsI o rows).map cd8)) else .exc "BadOrder" := by
  unfold s_inner
  rw [v_need_order ho]
  simp only [R.toO_ok]
  rw [decide_eq_true (show ((rows.length : Nat) : Int) = ((o.length : Nat) : Int) by omega), need_all hr]
  by_cases h : (rows.map (fun (z7 : (List Int)) => ((z7.length : Nat) : Int))).sum ≤ 6
  · rw [if_pos h, decide_eq_false (by omega)]
    have sm := cells_small ho hr
    have e := cells_loop (α := List Int) (o.zip rows) [] (by unfold cellsI at sm; simp only [List.length_nil]; omega)
    rw [e]
    show ((s_tidied_1 ([] ++ cellsI o rows)).toO fun y => OT.rt y).toR .bad = _
    rw [List.nil_append, v_tidiedT (by omega) (cells_ok ho hr)]
    rfl
  · rw [if_neg h, decide_eq_true (by omega)]
    rfl
theorem v_cells : s_law_dense_2 (cellsI o rows) = .ok (denI ((cellsI o rows).map cd8)) := v_denseP (by have := cells_small ho hr; omega) (cells_ok ho hr)
end
theorem inner_len {o : List Int} {rows : List (List Int)} (ho : Ordr o) (hl : rows.length ≠ o.length) : s_inner o rows = .exc "BadOrder" := by
  unfold s_inner
  rw [v_need_order ho]
  simp only [R.toO_ok]
  rw [decide_eq_false (show ¬ ((rows.length : Nat) : Int) = ((o.length : Nat) : Int) by omega)]
  rfl
theorem inner_3 {o : List Int} {rows : List (List Int)} (ho : Ordr o) : s_inner_3 o rows = .exc "BadOrder" := by
  unfold s_inner_3
  rw [v_need_order ho]
  rfl
theorem rep1 {α : Type} (n : Nat) (x : α) : (List.replicate n [x]).flatten = List.replicate n x := by
  induction n with
  | zero => rfl
  | succ n ih => rw [List.replicate_succ, List.flatten_cons, ih, List.replicate_succ]; rfl
theorem repL_ok {α : Type} {n : Nat} (h : n ≤ 1000) (x : α) : repLR [x] (n : Int) = .ok (List.replicate n x) := by
  refine (if_pos ⟨by omega, by omega, by simp⟩).trans ?_
  rw [Int.toNat_natCast, rep1]
theorem one_ordr : Ordr [0] := by
  have := irng_ordr (n := 1) (by decide) (by decide)
  exact this
theorem cells_unit : ∀ (o : List Int), (cellsI o (List.replicate o.length [0])).map cd8 = o.map fun r => 8 * r
  | [] => rfl
  | r :: o => by
    have := cells_unit o
    unfold cellsI at this ⊢
    rw [List.length_cons, List.replicate_succ, List.zip_cons_cons, List.flatMap_cons, List.map_append, this, List.map_cons]
    have e : (cel (r, [0])).map cd8 = [8 * r] := by
      show [r * 8 + 0] = [8 * r]
      congr 1
      omega
    rw [e]
    rfl
theorem sum_rep (n : Nat) : ((List.replicate n ([0] : List Int)).map (fun (z7 : (List Int)) => ((z7.length : Nat) : Int))).sum = n := by
  induction n with
  | zero => rfl
  | succ n ih =>
    rw [List.replicate_succ, List.map_cons, List.sum_cons, ih]
    simp only [List.length_cons, List.length_nil]
    omega
theorem sgn_8 (x y : Int) : sgn (8 * x) (8 * y) = sgn x y := by
  rcases sgn_3 x y with ⟨h, e⟩ | ⟨h, e⟩ | ⟨h, e⟩
  · rw [e, sgn_lt (by omega)]
  · rw [h, sgn_self, sgn_self]
  · rw [e, sgn_gt (by omega)]
theorem inner_unit {o : List Int} (ho : Ordr o) : s_inner o (List.replicate o.length [0]) = .ok o := by
  have h6 := ho.hi
  rw [v_inner ho (fun r hr => by rw [(List.mem_replicate.mp hr).2]; exact one_ordr) (by simp), sum_rep, if_pos (by omega), cells_unit]
  congr 1
  refine den_of ho (List.length_map ..) fun i j hi hj => ?_
  rw [map_sg hi hj, sgn_8]
  rfl
theorem inner_six {o : List Int} (ho : Ordr o) (h2 : 2 ≤ o.length) : s_inner o (List.replicate o.length [0, 0, 1, 1, 2, 2]) = .exc "BadOrder" := by
  have h6 : Ordr [0, 0, 1, 1, 2, 2] := by
    refine ⟨by decide, by decide, by decide, ?_⟩
    intro r hr i h0 h1
    have : r ≤ 2 := by
      simp only [List.mem_cons, List.not_mem_nil, or_false] at hr
      omega
    have : i = 0 ∨ i = 1 ∨ i = 2 := by omega
    rcases this with rfl | rfl | rfl <;> simp
  rw [v_inner ho (fun r hr => by rw [(List.mem_replicate.mp hr).2]; exact h6) (by simp), if_neg]
  have : ∀ n : Nat, ((List.replicate n ([0, 0, 1, 1, 2, 2] : List Int)).map (fun (z7 : (List Int)) => ((z7.length : Nat) : Int))).sum = 6 * n := by
    intro n
    induction n with
    | zero => rfl
    | succ n ih =>
      rw [List.replicate_succ, List.map_cons, List.sum_cons, ih]
      simp only [List.length_cons, List.length_nil]
      omega
  rw [this]
  omega
end Lk.T
end Part_K70G
section Part_K70H
set_option Elab.async false
set_option linter.all false
set_option maxRecDepth 100000
set_option maxHeartbeats 4000000
namespace Lk.T
open PySem PySem.Spec PyProof.Rows L2
theorem told_x : toldR L.C (.exc "BadOrder" : R D) = .ok (.str "BadOrder") := by
  simp only [toldR, cx_BadOrder]
  rfl
theorem ne_S : cmpD .ne (.str "BadOrder") (eS ("BadOrder" : Str)) = .ok false := by kernel_rfl
theorem eq_S : cmpD .eq (.str "BadOrder") (eS ("BadOrder" : Str)) = .ok true := by kernel_rfl
theorem ne_TI (x : List Int) : cmpD .ne (eT eI x) (eT eI x) = .ok false := by
  simp only [cmpD, eqD_of (eq_T eq_I) (by decide)]
  simp [R.map]
theorem eq_TI (x : List Int) : cmpD .eq (eT eI x) (eT eI x) = .ok true := by
  simp only [cmpD, eqD_of (eq_T eq_I) (by decide)]
  simp
def ordI (more n : Int) : List Int := match s_law_order more n with
  | .ok o => o
  | _ => []
theorem v_ordI {more n : Int} (h1 : 1 ≤ n) (h6 : n ≤ 6) : s_law_order more n = .ok (ordI more n) ∧ Ordr (ordI more n) ∧ ((ordI more n).length : Int) = n := by
  obtain ⟨o, e, p, q⟩ := v_order (more := more) (n := n.toNat) (by omega) (by omega)
  rw [show ((n.toNat : Nat) : Int) = n by omega] at e
  have : ordI more n = o := by unfold ordI; rw [e]
  rw [this]
  exact ⟨e, p, by omega⟩
def szI (more z : Int) : Int := 1 + drawI more (30 + z) % 3
theorem sz_bd (more z : Int) : 1 ≤ szI more z ∧ szI more z ≤ 3 := by
  unfold szI
  have h1 := Int.emod_nonneg (drawI more (30 + z)) (show (3 : Int) ≠ 0 by decide)
  have h2 := Int.emod_lt_of_pos (drawI more (30 + z)) (show (0 : Int) < 3 by decide)
  omega
def rwI (more z : Int) : List Int := ordI (drawI more (40 + z)) (szI more z)
theorem rw_ok (more z : Int) : s_law_order (drawI more (40 + z)) (szI more z) = .ok (rwI more z) ∧ Ordr (rwI more z) ∧ ((rwI more z).length : Int) = szI more z := by
  obtain ⟨h1, h2⟩ := sz_bd more z
  exact v_ordI h1 (by omega)
theorem at_irng {n : Nat} {f : Int → Int} {z : Int} (h : z ∈ irng n) : atR ((irng n).map f) z = .ok (f z) := by
  rw [mem_irng] at h
  have := at_of (xs := (irng n).map f) (i := z.toNat) (x := f z) (by
    unfold irng
    rw [List.map_map, List.getElem?_map, List.getElem?_range (by omega)]
    simp only [Option.map_some, Function.comp]
    rw [show ((z.toNat : Nat) : Int) = z by omega])
  rw [show ((z.toNat : Nat) : Int) = z by omega] at this
  exact this
theorem v_joined {o : List Int} (ho : Ordr o) (more : Int) : s_law_joined_right o more = .ok true := by
  have l1 := ho.lo
  have l6 := ho.hi
  have m1 := Int.emod_nonneg (more / 1048576) (show (3 : Int) ≠ 0 by decide)
  have m2 := Int.emod_lt_of_pos (more / 1048576) (show (0 : Int) < 3 by decide)
  obtain ⟨e1, hb, lb⟩ := v_ordI (more := more / 1073741824) (n := 1 + more / 1048576 % 3) (by omega) (by omega)
  generalize hbb : ordI (more / 1073741824) (1 + more / 1048576 % 3) = b at e1 hb lb
  obtain ⟨d, hd, hg⟩ := v_glued ho hb (by omega)
  have rl : rng0R ((o.length : Nat) : Int) = .ok (irng o.length) := rng0_ok (by omega) (by omega)
  have e2 : mapT (fun (z11 : Int) => ((s_law_drawn more ((30 : Int) + z11)).bind fun x12 => R.ok (x12 % (3 : Int))).bind fun x13 => R.ok ((1 : Int) + x13)) (irng o.length) = .ok ((irng o.length).map (szI more)) := mapT_ok fun z _ => by rw [v_drawn]; rfl
  have e3 : mapT (fun (z17 : Int) => (s_law_drawn more ((40 : Int) + z17)).bind fun x18 => (atR ((irng o.length).map (szI more)) z17).bind fun x19 => s_law_order x18 x19) (irng o.length) = .ok ((irng o.length).map (rwI more)) := mapT_ok fun z hz => by
    rw [v_drawn, at_irng hz]
    exact (rw_ok more z).1
  have hr : ∀ r ∈ (irng o.length).map (rwI more), Ordr r := fun r h => by
    obtain ⟨z, _, rfl⟩ := List.mem_map.mp h
    exact (rw_ok more z).2.1
  have hl : ((irng o.length).map (rwI more)).length = o.length := by rw [List.length_map, irng_len]
  have hs : (((irng o.length).map (rwI more)).map (fun (z7 : (List Int)) => ((z7.length : Nat) : Int))) = (irng o.length).map (szI more) := by
    rw [List.map_map]
    exact List.map_congr_left fun z _ => (rw_ok more z).2.2
  generalize (irng o.length).map (rwI more) = rows at e3 hr hl hs
  generalize (irng o.length).map (szI more) = sizes at e2 e3 hs
  have sm := cells_small ho hr
  have vi := v_inner ho hr hl
  rw [hs] at vi
  unfold s_law_joined_right
  refine toR_to rfl ?_
  refine toR_to e1 ?_
  have tg : toldR L.C ((s_glued o b).map (eT eI)) = .ok (if o.length + b.length ≤ 6 then eT eI d else .str "BadOrder") := by
    rw [hg]
    split
    · rfl
    · exact told_x
  refine toR_to tg ?_
  refine toR_to (v := d) hd ?_
  have c1 : cmpD .ne (if o.length + b.length ≤ 6 then eT eI d else .str "BadOrder") (if (decide ((((o.length : Nat) : Int) + ((b.length : Nat) : Int)) < (7 : Int))) = true then ((eT eI) d) else (eS ("BadOrder" : Str))) = .ok false := by
    by_cases h : o.length + b.length ≤ 6
    · rw [if_pos h, decide_eq_true (by omega), if_pos rfl]
      exact ne_TI d
    · rw [if_neg h, decide_eq_false (by omega), if_neg (by decide)]
      exact ne_S
  refine toR_to c1 ?_
  show OT.toR .bad (R.toO _ _) = _
  refine toR_to (v := sizes) (by rw [rl]; exact e2) ?_
  refine toR_to (v := rows) (by rw [rl]; exact e3) ?_
  refine toR_to rfl ?_
  refine toR_to rfl ?_
  have lp := cells_loop (α := Bool) (o.zip rows) [] (by unfold cellsI at sm; simp only [List.length_nil]; omega)
  rw [lp]
  show OT.toR .bad (R.toO _ _) = _
  rw [List.nil_append]
  have ti : toldR L.C ((s_inner o rows).map (eT eI)) = .ok (if sizes.sum ≤ 6 then eT eI (denI ((cellsI o rows).map cd8)) else .str "BadOrder") := by
    rw [vi]
    split
    · rfl
    · exact told_x
  refine toR_to ti ?_
  refine toR_to (v := false) (by rw [decide_eq_true rfl]; rfl) ?_
  show OT.toR .bad (R.toO _ _) = _
  refine toR_to (v := true) ?_ rfl
  have c2 : ((if (decide ((sizes.sum) < (7 : Int))) = true then (s_law_dense_2 ((o.zip rows).flatMap cel)).map fun y33 => ((eT eI) y33) else R.ok (eS ("BadOrder" : Str))).bind fun x34 => cmpD .eq (if sizes.sum ≤ 6 then eT eI (denI ((cellsI o rows).map cd8)) else .str "BadOrder") x34) = .ok true := by
    by_cases h : sizes.sum ≤ 6
    · rw [if_pos h, decide_eq_true (by omega), if_pos rfl]
      have := v_cells ho hr
      unfold cellsI at this
      rw [this]
      exact eq_TI _
    · rw [if_neg h, decide_eq_false (by omega), if_neg (by decide)]
      exact eq_S
  rw [c2]
  simp only [R.bind_ok, if_true]
  rw [repL_ok (by omega)]
  simp only [R.bind_ok]
  rw [inner_unit ho]
  simp
end Lk.T
end Part_K70H
section Part_K70I
set_option Elab.async false
set_option linter.all false
set_option maxRecDepth 100000
set_option maxHeartbeats 4000000
namespace Lk.T
open PySem PySem.Spec PyProof.Rows L2
/-! what is refused depends on how many items there are alone -/
theorem part1_len {o p : List Int} (ho : Ordr o) (hp : Ordr p) (h : o.length = p.length) : s_part_1 o = s_part_1 p := by
  funext b
  unfold s_part_1
  rw [v_need_order ho, v_need_order hp, h]
theorem glued1_len {o p : List Int} (ho : Ordr o) (hp : Ordr p) (h : o.length = p.length) : s_glued_1 o = s_glued_1 p := by
  funext b
  unfold s_glued_1
  rw [v_need_order ho, v_need_order hp, h]
theorem inner2_len {o p : List Int} (ho : Ordr o) (hp : Ordr p) (h : o.length = p.length) : s_inner_2 o = s_inner_2 p := by
  funext b
  unfold s_inner_2
  rw [v_need_order ho, v_need_order hp, h]
theorem in_a {o : List Int} (ho : Ordr o) : ((repLR ([([(0 : Int)] : (List Int))] : (List (List Int))) (((o.length : Nat) : Int) + (1 : Int))).bind fun x30 => s_inner o x30) = .exc "BadOrder" := by
  have h6 := ho.hi
  rw [show (((o.length : Nat) : Int) + (1 : Int)) = ((o.length + 1 : Nat) : Int) by omega, repL_ok (by omega)]
  exact inner_len ho (by rw [List.length_replicate]; omega)
theorem in_b {o : List Int} (ho : Ordr o) : ((repTR ([([(0 : Int)] : (List Int))] : (List (List Int))) ((o.length : Nat) : Int)).bind fun x33 => s_inner_3 o x33) = .exc "BadOrder" := by
  have h6 := ho.hi
  have h1 := ho.lo
  have e : repTR ([([(0 : Int)] : (List Int))] : (List (List Int))) ((o.length : Nat) : Int) = .ok _ := if_pos ⟨by omega, by omega, by simp, by simp⟩
  rw [e]
  exact inner_3 ho
theorem in_c {o : List Int} (ho : Ordr o) (h2 : 2 ≤ o.length) : ((repLR ([([(0 : Int), (0 : Int), (1 : Int), (1 : Int), (2 : Int), (2 : Int)] : (List Int))] : (List (List Int))) ((o.length : Nat) : Int)).bind fun x37 => s_inner o x37) = .exc "BadOrder" := by
  have h6 := ho.hi
  rw [repL_ok (by omega)]
  exact inner_six ho h2
theorem refused_len {o p : List Int} (ho : Ordr o) (hp : Ordr p) (h : o.length = p.length) : s_law_refused o = s_law_refused p := by
  unfold s_law_refused
  simp only [R.toO_ok]
  rw [part1_len ho hp h, glued1_len ho hp h, inner2_len ho hp h, in_a ho, in_b ho, in_a hp, in_b hp, h]
  by_cases h2 : 2 ≤ p.length
  · have co := in_c ho (by omega)
    rw [h] at co
    rw [co, in_c hp h2]
  · rw [decide_eq_false (show ¬ (1 : Int) < ((p.length : Nat) : Int) by omega)]
    simp only [Bool.false_eq_true, if_false]
theorem rf1 : rTr (s_law_refused (irng 1)) = true := by kernel_rfl
theorem rf2 : rTr (s_law_refused (irng 2)) = true := by kernel_rfl
theorem rf3 : rTr (s_law_refused (irng 3)) = true := by kernel_rfl
theorem rf4 : rTr (s_law_refused (irng 4)) = true := by kernel_rfl
theorem rf5 : rTr (s_law_refused (irng 5)) = true := by kernel_rfl
theorem rf6 : rTr (s_law_refused (irng 6)) = true := by kernel_rfl
theorem v_refused {o : List Int} (ho : Ordr o) : s_law_refused o = .ok true := by
  have l1 := ho.lo
  have l6 := ho.hi
  have cs : o.length = 1 ∨ o.length = 2 ∨ o.length = 3 ∨ o.length = 4 ∨ o.length = 5 ∨ o.length = 6 := by omega
  have ir : ∀ n : Nat, 1 ≤ n → n ≤ 6 → o.length = n → s_law_refused o = s_law_refused (irng n) := fun n h1 h2 h => refused_len ho (irng_ordr h1 h2) (by rw [irng_len]; exact h)
  rcases cs with h | h | h | h | h | h
  · exact (ir 1 (by decide) (by decide) h).trans (rTr_eq rf1)
  · exact (ir 2 (by decide) (by decide) h).trans (rTr_eq rf2)
  · exact (ir 3 (by decide) (by decide) h).trans (rTr_eq rf3)
  · exact (ir 4 (by decide) (by decide) h).trans (rTr_eq rf4)
  · exact (ir 5 (by decide) (by decide) h).trans (rTr_eq rf5)
  · exact (ir 6 (by decide) (by decide) h).trans (rTr_eq rf6)
end Lk.T
end Part_K70I
section Part_K70J
set_option Elab.async false
set_option linter.all false
set_option maxRecDepth 100000
set_option maxHeartbeats 4000000
namespace Lk.T
open PySem PySem.Spec PyProof.Rows L2
theorem with_six {o : List Int} (ho : Ordr o) (h6 : o.length = 6) : s_with_one o = .exc "BadOrder" := by
  unfold s_with_one
  rw [v_need_order ho]
  simp only [R.toO_ok]
  rw [decide_eq_true (show ((o.length : Nat) : Int) = 6 by omega)]
  rfl
theorem nd_self {β : Type} [DecidableEq β] (x : β) : (!decide (x = x)) = false := by rw [decide_eq_true rfl]; rfl
theorem then_nx {σ τ α : Type} {t : OT σ α} {s : σ} {g : σ → OT τ α} {u : OT τ α} (h : t = .nx s) (k : g s = u) : t.andThen g = u := by rw [h]; exact k
theorem law_ok {ns : List Int} (hl : ns.length ≤ 63) : s_law ns = .ok true := by
  unfold s_law
  refine toR_to (rng0_ok (by split <;> split <;> omega) (by split <;> split <;> omega)) ?_
  refine toR_then (P := fun _ => True) ⟨(), forT_unit fun k hk => ?_, trivial⟩ fun _ _ => rfl
  obtain ⟨c, hc⟩ := v_cell hl k
  refine (R.toOf (x := drawI c k) (by rw [hc]; exact v_drawn c k)).trans ?_
  generalize drawI c k = more
  obtain ⟨n, hn, n1, n6⟩ := v_items more
  refine (R.toOf hn).trans ?_
  obtain ⟨o, eo, ho, lo⟩ := v_order (more := more / 64) n1 n6
  refine (R.toOf eo).trans ?_
  have rl : rng0R (n : Int) = .ok (irng n) := rng0_ok (by omega) (by omega)
  refine (R.toOf (rng0_ok (n := 8) (by decide) (by decide))).trans ?_
  refine then_nx (s := ()) (forT_unit fun j _ => ?_) ?_
  · refine (R.toOf (v_drawn more _)).trans ?_
    generalize drawI more (10 + j) = here
    have e1 : ((rng0R (n : Int)).bind fun l14 => lcT (fun (z11 : Int) => (((s_law_drawn here z11).bind fun x12 => R.ok (x12 % (3 : Int))).bind fun x13 => R.ok (decide ((0 : Int) < x13))).bind fun b16 => if b16 = true then (R.ok z11).bind fun z => R.ok (some z) else R.ok none) l14) = .ok ((irng n).filter fun z => decide (0 < drawI here z % 3)) := by
      rw [rl]
      simp only [R.bind_ok]
      rw [lcT_ok (p := fun z => decide (0 < drawI here z % 3)) (g := fun z => z) fun z hz => ?_]
      · rw [List.map_id']
      · rw [v_drawn]
        simp only [R.bind_ok]
        split <;> rfl
    refine (R.toOf e1).trans ?_
    have pw : ((irng n).filter fun z => decide (0 < drawI here z % 3)).Pairwise (· < ·) := (irng_lt _).filter _
    have mb : ∀ i ∈ (irng n).filter fun z => decide (0 < drawI here z % 3), 0 ≤ i ∧ i < o.length := fun i hi => by
      have := (List.mem_filter.mp hi).1
      rw [mem_irng] at this
      omega
    have ll : ((irng n).filter fun z => decide (0 < drawI here z % 3)).length < 64 := by
      have := List.length_filter_le (fun z => decide (0 < drawI here z % 3)) (irng n)
      rw [irng_len] at this
      omega
    generalize ((irng n).filter fun z => decide (0 < drawI here z % 3)) = some at pw mb ll
    refine (R.toOf (x := denI (pick o some)) (by rw [at_pick mb]; exact v_denseL (by unfold pick; rw [List.length_map]; exact ll))).trans ?_
    refine (R.toOf rfl).trans ?_
    refine nx_if ?_ rfl
    by_cases h : some = []
    · rw [decide_eq_true h]
      rfl
    · rw [decide_eq_false h, v_part ho h pw mb ll]
      simp
  refine nx_if ?_ ?_
  · rw [rl]
    simp only [R.bind_ok]
    rw [← lo, part_self ho]
    simp
  refine (R.toOf rfl).trans ?_
  refine then_nx (s := ()) ?_ ?_
  · by_cases h : n < 6
    · rw [if_pos (decide_eq_true (show (n : Int) < 6 by omega))]
      have := v_wone ho (by omega)
      rw [lo] at this
      exact this
    · rw [if_neg (show ¬ decide ((n : Int) < 6) = true by rw [decide_eq_false (by omega)]; decide)]
      refine nx_if ?_ rfl
      rw [with_six ho (by omega)]
      show (toldR L.C (.exc "BadOrder")).bind _ = _
      rw [told_x]
      exact ne_S
  refine nx_if ?_ rfl
  rw [v_joined ho, v_refused ho]
  rfl
theorem law_plain : ∀ ns : List Int, ns.length ≤ 63 → Phi (tabG L.G) L.C (N + 1) "law" [.scr ns] = .ok (.bl true) := fun ns hn => (T_law 0 ns).ok (law_ok hn)
end Lk.T
end Part_K70J
section Part_K70Z
set_option Elab.async false
set_option linter.all false
set_option maxRecDepth 100000
set_option maxHeartbeats 0
theorem PySem.Challenge.cw_likeranks_k70_whole_parts_holds : PySem.Challenge.rw_likeranks_k70_whole_parts.Holds := by
  w_on; o_law
  refine HandSHeadRun.head_any (r := PySem.W.OpenLaw.row PySem.Challenge.rw_likeranks_k70_whole_parts) (q := Lk.T.qv) (H := Lk.T.hk) (ob := Lk.T.ob) (M := 3000) (loose := Lk.T.loose) (d := HandSHeadRun.topDef (PySem.W.OpenLaw.row PySem.Challenge.rw_likeranks_k70_whole_parts).prog 29) (kwd := []) Lk.T.ob_eq
    (by kernel_rfl) (fun s => by kernel_rfl) Lk.T.run (by kernel_rfl) (by kernel_rfl) (by kernel_rfl) (by rfl) (by first | assumption | decide +kernel) (by decide +kernel) ⟨rfl, rfl, rfl, rfl, rfl, by decide +kernel⟩ ?hw ?hc
  case hw => w_witness2
  case hc =>
    refine LamX.walk_ofTsE (l := PySem.Challenge.rw_likeranks_k70_whole_parts) (n := 63) (k := 3 * (Lk.T.N + 1)) (x := "script") (CX := fun w => L2N.CX (PySem.Challenge.rw_likeranks_k70_whole_parts).prog w) rfl (by decide) (by kernel_rfl) ⟨rfl, by decide, by decide⟩ ?F ?G
    case G =>
      intro w H s e s' z
      obtain ⟨_, _, _, _, _, _, _, _, _, _, _, _, q⟩ := z
      exact q
    case F =>
      intro w mg fa h Y G hmg0
      obtain ⟨K, KX, c⟩ := Y
      have hmg : mg ("law" : PySem.Str) = some (.ref fa) := by
        have e : (HandSHeadRun.topDef (PySem.W.OpenLaw.row PySem.Challenge.rw_likeranks_k70_whole_parts).prog 29).name = ("law" : PySem.Str) := by kernel_rfl
        rw [← e]
        exact hmg0
      exact ⟨K, KX, Lk.law_says (N := Lk.T.N) Lk.T.good Lk.T.hB Lk.T.hT Lk.T.hW KX G hmg c (dl := ⟨"law", Lk.T.cd_law, Lk.T.stA 29, true⟩) (by simp [Lk.T.L, Lk.T.G]) rfl rfl Lk.T.law_plain⟩
end Part_K70Z
