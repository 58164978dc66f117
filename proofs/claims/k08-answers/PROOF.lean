import PyProof.Rows.All
import Wide.All
import OpenK.AllK
import Wide.FinOn
import HandS.ForMost
import HandS.ForExc
import HandS.More
import HandS.Sort
import HandS.SortKw
import HandS.IsInst
import HandS.Flow
import HandS.Strs
import HandS.SetKeys
import HandS.Conv
import HandS.Codes
import HandS.Lambda
import HandS.Nested
import HandS.NestedK
import HandS.CallLocal
import HandS.Defaults
import HandS.HeadHook1
import HandS.HeadHook2
import KE.Datum
import HandS.Style
import HandS.Head2
import HandS.HeadEnd
import HandS.TryOnly
import KE.KStateDown
import PySem.Challenge.RW_listpost_k08_answers
set_option Elab.async false
set_option linter.all false
set_option autoImplicit false
set_option maxRecDepth 100000
set_option maxHeartbeats 4000000
/-! Data-level judgements over the hand layer: what stands in the heap is told as data, once. -/
namespace Lp
open PySem PySem.Spec PyProof.Rows L2

structure Glb where
  P : Program
  w : World
  K : PySem.W.Frag
  mg : Str → Option Value
  base : Heap
  T : List NdefX.NTab

inductive D where
  | non | bl (b : Bool) | int (i : Int) | str (x : Str) | ty (n : String)
  | lst (xs : List D) | tup (xs : List D)
  | dic (kvs : List (Str × D))
  | ins (C : Str) (fs : List (Str × D))
  | fn (k : Nat) (dom g : Str → Bool)

/-- what I tells stands in H, a dict at L perhaps under a lock -/
def RdL (L : Addr → Prop) (I H : Hp) : Prop := ∀ a u, I a = some u → H a = some u ∨ (L a ∧ (∃ kvs, u = HO.dK kvs) ∧ ∃ o, H a = some (.frz o u))
def RdS (I H : Hp) : Prop := ∀ a u, I a = some u → H a = some u ∨ ((∃ kvs, u = HO.dK kvs) ∧ ∃ o, H a = some (.frz o u))
theorem RdS.refl (H : Hp) : RdS H H := fun _ _ h => .inl h
theorem RdL.s {L : Addr → Prop} {I H : Hp} (r : RdL L I H) : RdS I H := fun a u e => (r a u e).imp id fun h => h.2
theorem RdL.of {I H : Hp} (r : Same I H) {L : Addr → Prop} : RdL L I H := fun a u e => .inl (r a u e)
theorem RdL.same {I H : Hp} (r : RdL (fun _ => False) I H) : Same I H := fun a u e => (r a u e).elim id fun h => h.1.elim
theorem RdL.all {I H : Hp} (r : RdS I H) : RdL (fun _ => True) I H := fun a u e => (r a u e).imp id fun h => ⟨trivial, h⟩
theorem RdS.lst {I H : Hp} {p : Addr} {vs : List V} (r : RdS I H) (h : I p = some (.lst vs)) : H p = some (.lst vs) := by
  rcases r _ _ h with z | ⟨⟨_, z⟩, _⟩
  · exact z
  · cases z
theorem RdS.tup {I H : Hp} {p : Addr} {vs : List V} (r : RdS I H) (h : I p = some (.tup vs)) : H p = some (.tup vs) := by
  rcases r _ _ h with z | ⟨⟨_, z⟩, _⟩
  · exact z
  · cases z
theorem RdS.ins {I H : Hp} {p C dx : Addr} {fs : List (Str × V)} (r : RdS I H) (h : I p = some (.ins C dx fs)) : H p = some (.ins C dx fs) := by
  rcases r _ _ h with z | ⟨⟨_, z⟩, _⟩
  · exact z
  · cases z
theorem RdS.ext {I H : Hp} {p : Addr} {φ : Heap → Prop} (r : RdS I H) (h : I p = some (.ext φ)) : H p = some (.ext φ) := by
  rcases r _ _ h with z | ⟨⟨_, z⟩, _⟩
  · exact z
  · cases z
theorem RdS.dic {I H : Hp} {p : Addr} {kvs : List (Key × V)} (r : RdS I H) (h : I p = some (.dK kvs)) : Rd H p (.dK kvs) := by
  rcases r _ _ h with z | ⟨_, z⟩
  · exact .inl z
  · exact .inr z

structure Step (G : Glb) (I H I' H' : Hp) : Prop where
  isub : Same I I'
  sub : RdS I' H'
  keep : ∀ a o, H a = some o → (∀ ps, o ≠ HO.tbl ps) → H' a = some o
  keepN : ∀ a, H a ≠ none → H' a ≠ none
  fresh : ∀ a, I a = none → H a ≠ none → I' a = none
  tabs : NdefX.TabsN G.T H → NdefX.TabsN G.T H'
  un : ∀ L, RdL L I H → RdL L I' H'
theorem Step.refl {G : Glb} {I H : Hp} (r : RdS I H) : Step G I H I H := ⟨Same.refl I, r, fun _ _ h _ => h, fun _ h => h, fun _ h _ => h, fun h => h, fun _ h => h⟩
theorem Step.trans {G : Glb} {I H I1 H1 I2 H2 : Hp} (a : Step G I H I1 H1) (b : Step G I1 H1 I2 H2) : Step G I H I2 H2 :=
  ⟨a.isub.trans b.isub, b.sub, fun x o h n => b.keep x o (a.keep x o h n) n, fun x h => b.keepN x (a.keepN x h), fun x h n => b.fresh x (a.fresh x h n) (a.keepN x n), fun h => b.tabs (a.tabs h), fun L h => b.un L (a.un L h)⟩
theorem Step.free {G : Glb} {I H I' H' : Hp} (a : Step G I H I' H') {p : Addr} (h : H' p = none) : H p = none := by
  cases e : H p with
  | none => rfl
  | some o => exact absurd h (a.keepN p (by rw [e]; exact fun z => nomatch z))
theorem RdS.free {I H : Hp} (r : RdS I H) {p : Addr} (h : H p = none) : I p = none := by
  cases e : I p with
  | none => rfl
  | some o =>
    rcases r p o e with z | ⟨_, _, z⟩
    · rw [h] at z; cases z
    · rw [h] at z; cases z
theorem tabs_upd {T : List NdefX.NTab} {H : Hp} {p : Addr} {o : HO} (h : NdefX.TabsN T H) (hp : ∀ u, H p = some u → (∀ ps, u ≠ HO.tbl ps) ∧ ∀ φ, u ≠ HO.ext φ) : NdefX.TabsN T (upd H p o) := fun t ht => by
  obtain ⟨ps, h1, h2, h3⟩ := h t ht
  have n1 : t.1 ≠ p := fun z => by
    rw [z] at h1
    exact (hp _ h1).1 ps rfl
  refine ⟨ps, by rw [upd_ne n1]; exact h1, h2, fun pos cv hc => ?_⟩
  obtain ⟨c, e1, e2⟩ := h3 pos cv hc
  have n2 : c ≠ p := fun z => by
    rw [z] at e2
    exact (hp _ e2).2 _ rfl
  exact ⟨c, e1, by rw [upd_ne n2]; exact e2⟩
/-- a new object that is told at once -/
theorem Step.new {G : Glb} {I H : Hp} {p : Addr} {o : HO} (r : RdS I H) (h : H p = none) : Step G I H (upd I p o) (upd H p o) := by
  have ip := r.free h
  refine ⟨fun a u e => ?_, fun a u e => ?_, fun a u e _ => ?_, fun a n => ?_, fun a e n => ?_, fun t => tabs_upd t fun u e => ?_, fun L q a u e => ?_⟩
  · rw [upd_ne (ne_of_none e ip)]; exact e
  · by_cases z : a = p
    · subst z
      rw [upd_same] at e
      cases e
      exact .inl upd_same
    · rw [upd_ne z] at e
      rw [upd_ne z]
      exact r a u e
  · rw [upd_ne (ne_of_none e h)]; exact e
  · by_cases z : a = p
    · subst z
      exact absurd h n
    · rw [upd_ne z]; exact n
  · have z : a ≠ p := fun z => by
      subst z
      exact n h
    rw [upd_ne z]; exact e
  · rw [h] at e; cases e
  · by_cases z : a = p
    · subst z
      rw [upd_same] at e
      cases e
      exact .inl upd_same
    · rw [upd_ne z] at e
      rw [upd_ne z]
      exact q a u e
/-- a new object that stays one's own -/
theorem Step.newOwn {G : Glb} {I H : Hp} {p : Addr} {o : HO} (r : RdS I H) (h : H p = none) : Step G I H I (upd H p o) := by
  have ip := r.free h
  refine ⟨Same.refl I, fun a u e => ?_, fun a u e _ => ?_, fun a n => ?_, fun a e n => e, fun t => tabs_upd t fun u e => ?_, fun L q a u e => ?_⟩
  · rw [upd_ne (ne_of_none e ip)]; exact r a u e
  · rw [upd_ne (ne_of_none e h)]; exact e
  · by_cases z : a = p
    · subst z
      exact absurd h n
    · rw [upd_ne z]; exact n
  · rw [h] at e; cases e
  · rw [upd_ne (ne_of_none e ip)]; exact q a u e
/-- one's own object is told from now on -/
theorem Step.freeze {G : Glb} {I H I' H' : Hp} {p : Addr} {o : HO} (s : Step G I H I' H') (h : H p = none) (hi : I' p = none) (e : H' p = some o) : Step G I H (upd I' p o) H' := by
  refine ⟨fun a u q => ?_, fun a u q => ?_, s.keep, s.keepN, fun a q n => ?_, s.tabs, fun L r a u q => ?_⟩
  · rw [upd_ne (ne_of_none (s.isub a u q) hi)]; exact s.isub a u q
  · by_cases z : a = p
    · subst z
      rw [upd_same] at q
      cases q
      exact .inl e
    · rw [upd_ne z] at q
      exact s.sub a u q
  · have z : a ≠ p := fun z => by
      subst z
      exact n h
    rw [upd_ne z]; exact s.fresh a q n
  · by_cases z : a = p
    · subst z
      rw [upd_same] at q
      cases q
      exact .inl e
    · rw [upd_ne z] at q
      exact s.un L r a u q

/-- what a statement keeps -/
structure Pres (I H I' H' : Hp) : Prop where
  same : Same I I'
  un : ∀ L, RdL L I H → RdL L I' H'
  frz : ∀ a o u, H a = some (.frz o u) → H' a = some (.frz o u)
theorem Pres.refl (I H : Hp) : Pres I H I H := ⟨Same.refl I, fun _ h => h, fun _ _ _ h => h⟩
theorem Pres.trans {I H I1 H1 I2 H2 : Hp} (a : Pres I H I1 H1) (b : Pres I1 H1 I2 H2) : Pres I H I2 H2 := ⟨a.same.trans b.same, fun L h => b.un L (a.un L h), fun x o u h => b.frz x o u (a.frz x o u h)⟩
theorem Step.pres {G : Glb} {I H I' H' : Hp} (s : Step G I H I' H') : Pres I H I' H' := ⟨s.isub, s.un, fun a o u h => s.keep a _ h fun _ q => nomatch q⟩
theorem Pres.own {I H : Hp} {p : Addr} {o u : HO} (hi : I p = none) (hp : H p = some u) (hu : ∀ q w, u ≠ .frz q w) : Pres I H I (upd H p o) :=
  ⟨Same.refl I, fun L r a u e => by rw [upd_ne (ne_of_none e hi)]; exact r a u e, fun a q w e => by rw [upd_ne (fun z => by rw [z, hp] at e; exact hu q w (Option.some.inj e))]; exact e⟩

/-- f, called with a text of its domain, hands back g of it; the heap may grow -/
def Cal (G : Glb) (k : Nat) (f : Addr) (I : Hp) (dom g : Str → Bool) : Prop :=
  ∀ (I' H' : Hp), Same I I' → RdS I' H' → NdefX.TabsN G.T H' → ∀ (A : Around) (outer : List Env) (s : Shared) (x : Str) (u : Value) (Q : VK), dom x = true → Room k A → Env0 G.P G.w G.K G.mg G.base A outer s H' → RelV (.str x) u →
    (∀ I2 H2, Step G I' H' I2 H2 → Q (.bl (g x)) H2) → codeAny (model G.P G.w) A (.call (.ref f) ⟨[u], []⟩) (CR CX0 outer G.P G.w H' s Q E0) s
theorem Cal.mono {G : Glb} {k : Nat} {f : Addr} {I I1 : Hp} {dom g : Str → Bool} (c : Cal G k f I dom g) (h : Same I I1) : Cal G k f I1 dom g := fun I' H' s => c I' H' (h.trans s)

abbrev kvK (fs : List (Str × V)) : List (Key × V) := fs.map fun q => (Sum.inr q.1, q.2)
mutual
inductive Rep (G : Glb) (I : Hp) : V → D → Prop where
  | non : Rep G I .non .non
  | bl (b : Bool) : Rep G I (.bl b) (.bl b)
  | int (i : Int) : Rep G I (.int i) (.int i)
  | str (x : Str) : Rep G I (.str x) (.str x)
  | ty (n : String) : Rep G I (.ty n) (.ty n)
  | lst {p : Addr} {vs : List V} {ds : List D} : I p = some (.lst vs) → Reps G I vs ds → Rep G I (.ref p) (.lst ds)
  | tup {p : Addr} {vs : List V} {ds : List D} : I p = some (.tup vs) → Reps G I vs ds → Rep G I (.ref p) (.tup ds)
  | dic {p : Addr} {fs : List (Str × V)} {kds : List (Str × D)} : I p = some (.dK (kvK fs)) → RepF G I fs kds → Rep G I (.ref p) (.dic kds)
  | ins {p dx : Addr} {C : Str} {fs : List (Str × V)} {fds : List (Str × D)} : I p = some (.ins (He.ga G.K C) dx fs) → RepF G I fs fds → Rep G I (.ref p) (.ins C fds)
  | fn {f : Addr} {F : NdefX.NF} {k : Nat} {dom g : Str → Bool} : I f = some (NdefX.FnO f F) → Cal G k f I dom g → Rep G I (.ref f) (.fn k dom g)
inductive Reps (G : Glb) (I : Hp) : List V → List D → Prop where
  | nil : Reps G I [] []
  | cons {v : V} {d : D} {vs : List V} {ds : List D} : Rep G I v d → Reps G I vs ds → Reps G I (v :: vs) (d :: ds)
inductive RepF (G : Glb) (I : Hp) : List (Str × V) → List (Str × D) → Prop where
  | nil : RepF G I [] []
  | cons {x : Str} {v : V} {d : D} {vs : List (Str × V)} {ds : List (Str × D)} : Rep G I v d → RepF G I vs ds → RepF G I ((x, v) :: vs) ((x, d) :: ds)
end
section
variable {G : Glb} {I I1 : Hp}
mutual
theorem Rep.mono (s : Same I I1) : ∀ {v : V} {d : D}, Rep G I v d → Rep G I1 v d
  | _, _, .non => .non
  | _, _, .bl b => .bl b
  | _, _, .int i => .int i
  | _, _, .str x => .str x
  | _, _, .ty x => .ty x
  | _, _, .lst h r => .lst (s _ _ h) (Reps.mono s r)
  | _, _, .tup h r => .tup (s _ _ h) (Reps.mono s r)
  | _, _, .dic h r => .dic (s _ _ h) (RepF.mono s r)
  | _, _, .ins h r => .ins (s _ _ h) (RepF.mono s r)
  | _, _, .fn h c => .fn (s _ _ h) (c.mono s)
theorem Reps.mono (s : Same I I1) : ∀ {vs : List V} {ds : List D}, Reps G I vs ds → Reps G I1 vs ds
  | _, _, .nil => .nil
  | _, _, .cons h r => .cons (Rep.mono s h) (Reps.mono s r)
theorem RepF.mono (s : Same I I1) : ∀ {vs : List (Str × V)} {ds : List (Str × D)}, RepF G I vs ds → RepF G I1 vs ds
  | _, _, .nil => .nil
  | _, _, .cons h r => .cons (Rep.mono s h) (RepF.mono s r)
end
theorem Reps.len : ∀ {vs : List V} {ds : List D}, Reps G I vs ds → vs.length = ds.length
  | _, _, .nil => rfl
  | _, _, .cons _ r => congrArg (· + 1) r.len
theorem Reps.get : ∀ {vs : List V} {ds : List D} {i : Nat} {v : V}, Reps G I vs ds → vs[i]? = some v → ∃ d, ds[i]? = some d ∧ Rep G I v d
  | _, _, _, _, .nil, e => by simp at e
  | _, _, 0, _, .cons h _, e => by simp at e; subst e; exact ⟨_, rfl, h⟩
  | _, _, i + 1, v, .cons _ t, e => by
    obtain ⟨d, h1, h2⟩ := Reps.get (i := i) (v := v) t (by simpa using e)
    exact ⟨d, by simpa using h1, h2⟩
theorem Reps.get' : ∀ {vs : List V} {ds : List D} {i : Nat} {d : D}, Reps G I vs ds → ds[i]? = some d → ∃ v, vs[i]? = some v ∧ Rep G I v d
  | _, _, _, _, .nil, e => by simp at e
  | _, _, 0, _, .cons h _, e => by simp at e; subst e; exact ⟨_, rfl, h⟩
  | _, _, i + 1, v, .cons _ t, e => by
    obtain ⟨d, h1, h2⟩ := Reps.get' (i := i) (d := v) t (by simpa using e)
    exact ⟨d, by simpa using h1, h2⟩
theorem Reps.app : ∀ {vs ws : List V} {ds es : List D}, Reps G I vs ds → Reps G I ws es → Reps G I (vs ++ ws) (ds ++ es)
  | _, _, _, _, .nil, s => s
  | _, _, _, _, .cons h t, s => .cons h (t.app s)
theorem Reps.take : ∀ {vs : List V} {ds : List D} (n : Nat), Reps G I vs ds → Reps G I (vs.take n) (ds.take n)
  | _, _, 0, _ => .nil
  | _, _, _ + 1, .nil => .nil
  | _, _, n + 1, .cons h t => .cons h (t.take n)
theorem Reps.drop : ∀ {vs : List V} {ds : List D} (n : Nat), Reps G I vs ds → Reps G I (vs.drop n) (ds.drop n)
  | _, _, 0, r => r
  | _, _, _ + 1, .nil => .nil
  | _, _, n + 1, .cons _ t => t.drop n
theorem Reps.set {v : V} {d : D} (h : Rep G I v d) : ∀ {vs : List V} {ds : List D} (i : Nat), Reps G I vs ds → Reps G I (vs.set i v) (ds.set i d)
  | _, _, _, .nil => .nil
  | _, _, 0, .cons _ t => .cons h t
  | _, _, i + 1, .cons q t => .cons q (t.set h i)
theorem Reps.erase : ∀ {vs : List V} {ds : List D} (i : Nat), Reps G I vs ds → Reps G I (vs.eraseIdx i) (ds.eraseIdx i)
  | _, _, _, .nil => .nil
  | _, _, 0, .cons _ t => t
  | _, _, i + 1, .cons q t => .cons q (t.erase i)
theorem Reps.strs : ∀ {vs : List V} {ns : List Str}, Reps G I vs (ns.map D.str) → vs = ns.map V.str
  | _, [], .nil => rfl
  | _, _ :: _, .cons (.str _) t => by rw [List.map_cons, ← Reps.strs t]
theorem Reps.ofStrs : ∀ (ns : List Str), Reps G I (ns.map V.str) (ns.map D.str)
  | [] => .nil
  | n :: r => .cons (.str n) (Reps.ofStrs r)
theorem Reps.ints : ∀ {vs : List V} {ns : List Int}, Reps G I vs (ns.map D.int) → vs = ns.map V.int
  | _, [], .nil => rfl
  | _, _ :: _, .cons (.int _) t => by rw [List.map_cons, ← Reps.ints t]
theorem Reps.ofInts : ∀ (ns : List Int), Reps G I (ns.map V.int) (ns.map D.int)
  | [] => .nil
  | n :: r => .cons (.int n) (Reps.ofInts r)
theorem Reps.bls : ∀ {vs : List V} {ns : List Bool}, Reps G I vs (ns.map D.bl) → vs = ns.map V.bl
  | _, [], .nil => rfl
  | _, _ :: _, .cons (.bl _) t => by rw [List.map_cons, ← Reps.bls t]
end

/-! ### slots -/
inductive DS where
  | no | im (d : D) | own (xs : List D) | ownD (kvs : List (Str × D))
def DS.isOwn : DS → Bool
  | .own _ => true
  | .ownD _ => true
  | _ => false
def SlotR (G : Glb) (H0 I H : Hp) (ov : Option V) : DS → Prop
  | .no => True
  | .im d => ∃ v, ov = some v ∧ Rep G I v d
  | .own xs => ∃ p vs, ov = some (.ref p) ∧ H p = some (.lst vs) ∧ Reps G I vs xs ∧ I p = none ∧ H0 p = none
  | .ownD kvs => ∃ p fs, ov = some (.ref p) ∧ H p = some (.dK (kvK fs)) ∧ RepF G I fs kvs ∧ I p = none ∧ H0 p = none
theorem SlotR.step {G : Glb} {H0 I H I' H' : Hp} {ov : Option V} (s : Step G I H I' H') : ∀ {d : DS}, SlotR G H0 I H ov d → SlotR G H0 I' H' ov d
  | .no, _ => trivial
  | .im _, ⟨v, e, r⟩ => ⟨v, e, r.mono s.isub⟩
  | .own _, ⟨p, vs, e, h, r, i, z⟩ => ⟨p, vs, e, s.keep p _ h (fun _ q => nomatch q), r.mono s.isub, s.fresh p i (by rw [h]; exact fun q => nomatch q), z⟩
  | .ownD _, ⟨p, vs, e, h, r, i, z⟩ => ⟨p, vs, e, s.keep p _ h (fun _ q => nomatch q), r.mono s.isub, s.fresh p i (by rw [h]; exact fun q => nomatch q), z⟩
structure EnvR (G : Glb) (U : Bool) (I0 H0 I H : Hp) (σ : L2.St) (ds : List DS) : Prop where
  st : Step G I0 H0 I H
  tb : NdefX.TabsN G.T H
  un : U = true → Same I H
  len : σ.length = ds.length
  sl : ∀ (i : Nat) (o : Option V) (s : DS), σ[i]? = some o → ds[i]? = some s → SlotR G H0 I H o s
  dj : ∀ (i j : Nat) (p : Addr) (s t : DS), σ[i]? = some (some (.ref p)) → σ[j]? = some (some (.ref p)) → ds[i]? = some s → ds[j]? = some t → s.isOwn = true → t.isOwn = true → i = j
section
variable {G : Glb} {U : Bool} {I0 H0 I H I' H' : Hp} {σ : L2.St} {ds : List DS}
theorem EnvR.sub (e : EnvR G U I0 H0 I H σ ds) : RdS I H := e.st.sub
theorem EnvR.step (e : EnvR G U I0 H0 I H σ ds) (s : Step G I H I' H') : EnvR G U I0 H0 I' H' σ ds :=
  ⟨e.st.trans s, s.tabs e.tb, fun u => (s.un _ (RdL.of (e.un u))).same, e.len, fun i o d h1 h2 => (e.sl i o d h1 h2).step s, e.dj⟩
theorem EnvR.at_ (e : EnvR G U I0 H0 I H σ ds) {i : Nat} {s : DS} (h : ds[i]? = some s) : ∃ o, σ[i]? = some o ∧ SlotR G H0 I H o s := by
  have hl : i < σ.length := by rw [e.len]; exact (List.getElem?_eq_some_iff.mp h).1
  exact ⟨σ[i], List.getElem?_eq_getElem hl, e.sl i _ s (List.getElem?_eq_getElem hl) h⟩
theorem EnvR.im (e : EnvR G U I0 H0 I H σ ds) {i : Nat} {d : D} (h : ds[i]? = some (.im d)) : ∃ v, σ[i]? = some (some v) ∧ Rep G I v d := by
  obtain ⟨o, h1, v, rfl, r⟩ := e.at_ h
  exact ⟨v, h1, r⟩
theorem EnvR.own (e : EnvR G U I0 H0 I H σ ds) {i : Nat} {xs : List D} (h : ds[i]? = some (.own xs)) : ∃ p vs, σ[i]? = some (some (.ref p)) ∧ H p = some (.lst vs) ∧ Reps G I vs xs ∧ I p = none ∧ H0 p = none := by
  obtain ⟨o, h1, p, vs, rfl, r⟩ := e.at_ h
  exact ⟨p, vs, h1, r⟩
theorem EnvR.ownD (e : EnvR G U I0 H0 I H σ ds) {i : Nat} {xs : List (Str × D)} (h : ds[i]? = some (.ownD xs)) : ∃ p fs, σ[i]? = some (some (.ref p)) ∧ H p = some (.dK (kvK fs)) ∧ RepF G I fs xs ∧ I p = none ∧ H0 p = none := by
  obtain ⟨o, h1, p, vs, rfl, r⟩ := e.at_ h
  exact ⟨p, vs, h1, r⟩
theorem own_there {ov : Option V} {s : DS} {p : Addr} (h : SlotR G H0 I H ov s) (hs : s.isOwn = true) (e : ov = some (.ref p)) : H p ≠ none := by
  cases s with
  | no => cases hs
  | im d => cases hs
  | own xs =>
    obtain ⟨q, vs, e1, h1, _⟩ := h
    rw [e] at e1
    cases e1
    rw [h1]
    exact fun z => nomatch z
  | ownD xs =>
    obtain ⟨q, vs, e1, h1, _⟩ := h
    rw [e] at e1
    cases e1
    rw [h1]
    exact fun z => nomatch z
theorem EnvR.setIm (e : EnvR G U I0 H0 I H σ ds) {v : V} {d : D} (i : Nat) (r : Rep G I v d) : EnvR G U I0 H0 I H (σ.set i (some v)) (ds.set i (.im d)) := by
  refine ⟨e.st, e.tb, e.un, by rw [List.length_set, List.length_set]; exact e.len, fun j o s h1 h2 => ?_, fun j k p s t h1 h2 h3 h4 o1 o2 => ?_⟩
  · by_cases hj : i = j
    · subst hj
      have l1 : i < ds.length := by
        have := (List.getElem?_eq_some_iff.mp h2).1
        rwa [List.length_set] at this
      rw [List.getElem?_set_self (by rw [e.len]; exact l1)] at h1
      rw [List.getElem?_set_self l1] at h2
      cases h1
      cases h2
      exact ⟨v, rfl, r⟩
    · rw [List.getElem?_set_ne hj] at h1 h2
      exact e.sl j o s h1 h2
  · have n1 : i ≠ j := fun z => by
      subst z
      have l1 : i < ds.length := by
        have := (List.getElem?_eq_some_iff.mp h3).1
        rwa [List.length_set] at this
      rw [List.getElem?_set_self l1] at h3
      cases h3
      cases o1
    have n2 : i ≠ k := fun z => by
      subst z
      have l1 : i < ds.length := by
        have := (List.getElem?_eq_some_iff.mp h4).1
        rwa [List.length_set] at this
      rw [List.getElem?_set_self l1] at h4
      cases h4
      cases o2
    rw [List.getElem?_set_ne n1] at h1 h3
    rw [List.getElem?_set_ne n2] at h2 h4
    exact e.dj j k p s t h1 h2 h3 h4 o1 o2
theorem EnvR.setNo (e : EnvR G U I0 H0 I H σ ds) (ov : Option V) (i : Nat) : EnvR G U I0 H0 I H (σ.set i ov) (ds.set i .no) := by
  refine ⟨e.st, e.tb, e.un, by rw [List.length_set, List.length_set]; exact e.len, fun j o s h1 h2 => ?_, fun j k p s t h1 h2 h3 h4 o1 o2 => ?_⟩
  · by_cases hj : i = j
    · subst hj
      have l1 : i < ds.length := by
        have := (List.getElem?_eq_some_iff.mp h2).1
        rwa [List.length_set] at this
      rw [List.getElem?_set_self l1] at h2
      cases h2
      trivial
    · rw [List.getElem?_set_ne hj] at h1 h2
      exact e.sl j o s h1 h2
  · have n1 : i ≠ j := fun z => by
      subst z
      have l1 : i < ds.length := by
        have := (List.getElem?_eq_some_iff.mp h3).1
        rwa [List.length_set] at this
      rw [List.getElem?_set_self l1] at h3
      cases h3
      cases o1
    have n2 : i ≠ k := fun z => by
      subst z
      have l1 : i < ds.length := by
        have := (List.getElem?_eq_some_iff.mp h4).1
        rwa [List.length_set] at this
      rw [List.getElem?_set_self l1] at h4
      cases h4
      cases o2
    rw [List.getElem?_set_ne n1] at h1 h3
    rw [List.getElem?_set_ne n2] at h2 h4
    exact e.dj j k p s t h1 h2 h3 h4 o1 o2
/-- a new object of one's own comes to a slot -/
theorem EnvR.setNew (e : EnvR G U I0 H0 I H σ ds) (s : Step G I H I' H') {p : Addr} (hp : H p = none) {d : DS} (i : Nat) (hs : d.isOwn = true → SlotR G H0 I' H' (some (.ref p)) d) (ho : d.isOwn = true) : EnvR G U I0 H0 I' H' (σ.set i (some (.ref p))) (ds.set i d) := by
  have e' := e.step s
  have nop : ∀ (j : Nat) (t : DS), σ[j]? = some (some (.ref p)) → ds[j]? = some t → t.isOwn = true → False := fun j t h1 h2 h3 => own_there (e.sl j _ t h1 h2) h3 rfl hp
  refine ⟨e'.st, e'.tb, e'.un, by rw [List.length_set, List.length_set]; exact e.len, fun j o t h1 h2 => ?_, fun j k q s t h1 h2 h3 h4 o1 o2 => ?_⟩
  · by_cases hj : i = j
    · subst hj
      have l1 : i < ds.length := by
        have := (List.getElem?_eq_some_iff.mp h2).1
        rwa [List.length_set] at this
      rw [List.getElem?_set_self (by rw [e.len]; exact l1)] at h1
      rw [List.getElem?_set_self l1] at h2
      cases h1
      cases h2
      exact hs ho
    · rw [List.getElem?_set_ne hj] at h1 h2
      exact e'.sl j o t h1 h2
  · by_cases n1 : i = j
    · by_cases n2 : i = k
      · rw [← n1, ← n2]
      · subst n1
        have l1 : i < ds.length := by
          have := (List.getElem?_eq_some_iff.mp h3).1
          rwa [List.length_set] at this
        rw [List.getElem?_set_self (by rw [e.len]; exact l1)] at h1
        cases h1
        rw [List.getElem?_set_ne n2] at h2 h4
        exact (nop k t h2 h4 o2).elim
    · rw [List.getElem?_set_ne n1] at h1 h3
      by_cases n2 : i = k
      · subst n2
        have l1 : i < ds.length := by
          have := (List.getElem?_eq_some_iff.mp h4).1
          rwa [List.length_set] at this
        rw [List.getElem?_set_self (by rw [e.len]; exact l1)] at h2
        cases h2
        exact (nop j s h1 h3 o1).elim
      · rw [List.getElem?_set_ne n2] at h2 h4
        exact e.dj j k q s t h1 h2 h3 h4 o1 o2
theorem Step.mutOwn {p : Addr} {o : HO} (s : Step G I0 H0 I H) (hi : I p = none) (h0 : H0 p = none) (hp : ∀ u, H p = some u → (∀ ps, u ≠ HO.tbl ps) ∧ ∀ φ, u ≠ HO.ext φ) : Step G I0 H0 I (upd H p o) := by
  refine ⟨s.isub, fun a u e => ?_, fun a u e n => ?_, fun a n => ?_, s.fresh, fun t => tabs_upd (s.tabs t) hp, fun L r a u e => ?_⟩
  · rw [upd_ne (ne_of_none e hi)]; exact s.sub a u e
  · rw [upd_ne (ne_of_none e h0)]; exact s.keep a u e n
  · by_cases z : a = p
    · rw [z, upd_same]; exact fun q => nomatch q
    · rw [upd_ne z]; exact s.keepN a n
  · rw [upd_ne (ne_of_none e hi)]; exact s.un L r a u e
/-- one's own object at slot i changes -/
theorem EnvR.mutOwn (e : EnvR G U I0 H0 I H σ ds) {p : Addr} {i : Nat} {o : HO} {d d' : DS} (hσ : σ[i]? = some (some (.ref p))) (hd : ds[i]? = some d) (ho : d.isOwn = true) (ho' : d'.isOwn = true) (hi : I p = none) (h0 : H0 p = none)
    (hp : ∀ u, H p = some u → (∀ ps, u ≠ HO.tbl ps) ∧ ∀ φ, u ≠ HO.ext φ) (hs : SlotR G H0 I (upd H p o) (some (.ref p)) d') : EnvR G U I0 H0 I (upd H p o) σ (ds.set i d') := by
  refine ⟨e.st.mutOwn hi h0 hp, tabs_upd e.tb hp, fun u a w q => by rw [upd_ne (ne_of_none q hi)]; exact e.un u a w q, by rw [List.length_set]; exact e.len, fun j ov t h1 h2 => ?_, fun j k q s t h1 h2 h3 h4 o1 o2 => ?_⟩
  · by_cases hj : i = j
    · subst hj
      have l1 : i < ds.length := (List.getElem?_eq_some_iff.mp hd).1
      rw [List.getElem?_set_self l1] at h2
      cases h2
      rw [hσ] at h1
      cases h1
      exact hs
    · rw [List.getElem?_set_ne hj] at h2
      have z := e.sl j ov t h1 h2
      cases t with
      | no => trivial
      | im d => exact z
      | own xs =>
        obtain ⟨q, vs, e1, e2, e3⟩ := z
        have nq : q ≠ p := fun zz => hj (e.dj i j p d _ hσ (by rw [h1, e1, zz]) hd h2 ho rfl)
        exact ⟨q, vs, e1, by rw [upd_ne nq]; exact e2, e3⟩
      | ownD xs =>
        obtain ⟨q, vs, e1, e2, e3⟩ := z
        have nq : q ≠ p := fun zz => hj (e.dj i j p d _ hσ (by rw [h1, e1, zz]) hd h2 ho rfl)
        exact ⟨q, vs, e1, by rw [upd_ne nq]; exact e2, e3⟩
  · have g : ∀ (m : Nat) (t : DS), (ds.set i d')[m]? = some t → t.isOwn = true → ∃ t', ds[m]? = some t' ∧ t'.isOwn = true := fun m t hm ht => by
      by_cases hj : i = m
      · subst hj
        exact ⟨d, hd, ho⟩
      · rw [List.getElem?_set_ne hj] at hm
        exact ⟨t, hm, ht⟩
    obtain ⟨s', a1, a2⟩ := g j s h3 o1
    obtain ⟨t', b1, b2⟩ := g k t h4 o2
    exact e.dj j k q s' t' h1 h2 a1 b1 a2 b2
end
end Lp

/-! The judgements over data: expressions, tests, arguments, statements. -/
namespace Lp
open PySem PySem.Spec PyProof.Rows L2

/-- a value that an expression gives: told at once, or a new object of one's own; Hb: the heap ahead of it -/
def ValR (G : Glb) (Hb I H : Hp) (v : V) : DS → Prop
  | .no => True
  | .im d => Rep G I v d
  | .own xs => ∃ p vs, v = .ref p ∧ Hb p = none ∧ I p = none ∧ H p = some (.lst vs) ∧ Reps G I vs xs
  | .ownD kvs => ∃ p fs, v = .ref p ∧ Hb p = none ∧ I p = none ∧ H p = some (.dK (kvK fs)) ∧ RepF G I fs kvs
theorem ValR.back {G : Glb} {I H I1 H1 I' H' : Hp} {v : V} (s : Step G I H I1 H1) : ∀ {d : DS}, ValR G H1 I' H' v d → ValR G H I' H' v d
  | .no, _ => trivial
  | .im _, r => r
  | .own _, ⟨p, vs, e, n, r⟩ => ⟨p, vs, e, s.free n, r⟩
  | .ownD _, ⟨p, vs, e, n, r⟩ => ⟨p, vs, e, s.free n, r⟩
theorem ValR.step {G : Glb} {Hb I H I' H' : Hp} {v : V} (s : Step G I H I' H') : ∀ {d : DS}, ValR G Hb I H v d → ValR G Hb I' H' v d
  | .no, _ => trivial
  | .im _, r => r.mono s.isub
  | .own _, ⟨p, vs, e, n, i, h, r⟩ => ⟨p, vs, e, n, s.fresh p i (by rw [h]; exact fun q => nomatch q), s.keep p _ h (fun _ q => nomatch q), r.mono s.isub⟩
  | .ownD _, ⟨p, vs, e, n, i, h, r⟩ => ⟨p, vs, e, n, s.fresh p i (by rw [h]; exact fun q => nomatch q), s.keep p _ h (fun _ q => nomatch q), r.mono s.isub⟩
def DS.fz : DS → DS
  | .own xs => .im (.lst xs)
  | .ownD kvs => .im (.dic kvs)
  | s => s
theorem ValR.fz {G : Glb} {I H I' H' : Hp} {v : V} (s : Step G I H I' H') : ∀ {d : DS}, ValR G H I' H' v d → ∃ I2, Step G I H I2 H' ∧ ValR G H I2 H' v d.fz
  | .no, _ => ⟨I', s, trivial⟩
  | .im _, r => ⟨I', s, r⟩
  | .own _, ⟨p, vs, e, n, i, h, r⟩ => ⟨upd I' p (.lst vs), s.freeze n i h, by
      subst e
      exact Rep.lst upd_same (r.mono fun a u q => by rw [upd_ne (ne_of_none q i)]; exact q)⟩
  | .ownD _, ⟨p, vs, e, n, i, h, r⟩ => ⟨upd I' p (.dK (kvK vs)), s.freeze n i h, by
      subst e
      exact Rep.dic upd_same (r.mono fun a u q => by rw [upd_ne (ne_of_none q i)]; exact q)⟩

abbrev gx (X : Cx) (T : List NdefX.NTab) : Glb := ⟨X.prog, X.w, X.K, X.mg, X.base, T⟩
/-! ### readings by data -/
def eV (G : Glb) (U : Bool) (ds : List DS) (s : DS) : TE := fun σ H Q => ∃ I0 H0 I, EnvR G U I0 H0 I H σ ds ∧ ∀ v I' H', Step G I H I' H' → ValR G H I' H' v s → Q v H'
def tV (G : Glb) (U : Bool) (ds : List DS) (b : Bool) : TT := fun σ H Q => ∃ I0 H0 I, EnvR G U I0 H0 I H σ ds ∧ ∀ I' H', Step G I H I' H' → Q b H'
def aV (G : Glb) (U : Bool) (ds : List DS) (xs : List D) : TA := fun σ H Q => ∃ I0 H0 I, EnvR G U I0 H0 I H σ ds ∧ ∀ vs I' H', Step G I H I' H' → Reps G I' vs xs → Q vs H'
def oV (G : Glb) (U : Bool) (ds : List DS) (o : Option Int) : TO := fun σ H Q => ∃ I0 H0 I, EnvR G U I0 H0 I H σ ds ∧ ∀ I' H', Step G I H I' H' → Q o H'
/-- what a walked thing gives, turn by turn -/
def Goes (G : Glb) (J : It) (I H : Hp) (xs : List D) : Prop := ∀ I1 H1, Pres I H I1 H1 → RdS I1 H1 → ∀ i : Nat, (xs.length ≤ i → J.stop i H1) ∧ ∀ d, xs[i]? = some d → J.go i H1 ∧ ∀ x H2, J.yld i H1 x H2 → ∃ I2, Step G I1 H1 I2 H2 ∧ Rep G I2 x d
def iV (G : Glb) (U : Bool) (ds : List DS) (xs : List D) : TI := fun σ H R => ∃ I0 H0 I, EnvR G U I0 H0 I H σ ds ∧ ∀ J I' H', Step G I H I' H' → Goes G J I' H' xs → R J H'
/-- only the slots at js are changed -/
def ButAt (js : List Nat) (σ σ' : L2.St) : Prop := σ'.length = σ.length ∧ ∀ i, i ∉ js → σ'[i]? = σ[i]?
def gV (G : Glb) (U : Bool) (ds : List DS) (d : D) (ds' : List DS) (js : List Nat) : TG := fun v σ H Q => ∃ I0 H0 I, EnvR G U I0 H0 I H σ ds ∧ Rep G I v d ∧ ∀ σ', EnvR G U I0 H0 I H σ' ds' → ButAt js σ σ' → Q σ' H
def gsV (G : Glb) (U : Bool) (ds : List DS) (xs : List D) (ds' : List DS) (js : List Nat) : TGs := fun vs σ H Q => ∃ I0 H0 I, EnvR G U I0 H0 I H σ ds ∧ Reps G I vs xs ∧ ∀ σ', EnvR G U I0 H0 I H σ' ds' → ButAt js σ σ' → Q σ' H

/-- an exception's own fields -/
def ExcR (G : Glb) (H0 I H : Hp) (d : Option Addr) (fs : List (Str × D)) : Prop := match d with
  | none => fs = []
  | some a => ∃ vs, H a = some (.xd vs) ∧ RepF G I vs fs ∧ H0 a = none
structure DEn where
  nx : List DS → Prop
  rt : DS → Prop := fun _ => False
  bk : List DS → Prop := fun _ => False
  ct : List DS → Prop := fun _ => False
  xs : Str → List (Str × D) → List DS → Prop := fun _ _ _ => False
def RetR (G : Glb) (I0 H0 : Hp) (v : V) (H' : Hp) (s : DS) : Prop := ∃ I', Step G I0 H0 I' H' ∧ ValR G H0 I' H' v s
def NxR (G : Glb) (U : Bool) (I0 H0 I H : Hp) (P : List DS → Prop) (σ' : L2.St) (H' : Hp) : Prop := ∃ ds' I', EnvR G U I0 H0 I' H' σ' ds' ∧ Pres I H I' H' ∧ P ds'
def XsR (G : Glb) (U : Bool) (I0 H0 I H : Hp) (P : List DS → Prop) (fs : List (Str × D)) (d : Option Addr) (σ' : L2.St) (H' : Hp) : Prop := ∃ ds' I', EnvR G U I0 H0 I' H' σ' ds' ∧ Pres I H I' H' ∧ ExcR G H0 I' H' d fs ∧ P ds'
def sV (G : Glb) (W : WX) (U : Bool) (ds : List DS) (E : DEn) : TS := fun D σ H => ∃ I0 H0 I, EnvR G U I0 H0 I H σ ds ∧ (∀ σ' H', NxR G U I0 H0 I H E.nx σ' H' → D.nx σ' H') ∧ (∀ v H' s, RetR G I0 H0 v H' s → E.rt s → D.rt v H') ∧
  (∀ σ' H', NxR G U I0 H0 I H E.bk σ' H' → D.bk σ' H') ∧ (∀ σ' H', NxR G U I0 H0 I H E.ct σ' H' → D.ct σ' H') ∧
  ∀ C fs d σ' H', XsR G U I0 H0 I H (E.xs C fs) fs d σ' H' → W (.ref (He.ga G.K C)) d σ' H'

section
variable (X : Cx) (T : List NdefX.NTab) (W : WX) (U : Bool)
abbrev DV (e : Expr) (ds : List DS) (s : DS) : Prop := PE X e (eV (gx X T) U ds s)
abbrev DE (e : Expr) (ds : List DS) (d : D) : Prop := DV X T U e ds (.im d)
abbrev DT (e : Expr) (ds : List DS) (b : Bool) : Prop := PT X e (tV (gx X T) U ds b)
abbrev DA (es : List Expr) (ds : List DS) (xs : List D) : Prop := PA X es (aV (gx X T) U ds xs)
abbrev DO (e : Option Expr) (ds : List DS) (o : Option Int) : Prop := PO X e (oV (gx X T) U ds o)
abbrev DI (tg iter : Expr) (ds : List DS) (xs : List D) : Prop := PI X tg iter (iV (gx X T) U ds xs)
abbrev DG (tg : Expr) (ds : List DS) (d : D) (ds' : List DS) (js : List Nat) : Prop := PG X tg (gV (gx X T) U ds d ds' js)
abbrev DGs (tgs : List Expr) (ds : List DS) (xs : List D) (ds' : List DS) (js : List Nat) : Prop := PGs X tgs (gsV (gx X T) U ds xs ds' js)
abbrev DSt (st : Stmt) (ds : List DS) (E : DEn) : Prop := PS X st (sV (gx X T) W U ds E)
abbrev DSs (sts : List Stmt) (ds : List DS) (E : DEn) : Prop := PSs X sts (sV (gx X T) W U ds E)
end
section
variable {X : Cx} {T : List NdefX.NTab} {W : WX} {U : Bool} {ds : List DS} {s : DS}
theorem _root_.L2.PE.weak {e : Expr} {t t' : TE} (h : PE X e t) (w : ∀ σ H Q, t' σ H Q → t σ H Q) : PE X e t' := ⟨fun pins s σ H Q I q => h.run pins s σ H Q I (w _ _ _ q)⟩
theorem _root_.L2.PT.weak {e : Expr} {t t' : TT} (h : PT X e t) (w : ∀ σ H Q, t' σ H Q → t σ H Q) : PT X e t' := ⟨fun pins s σ H Q I q => h.run pins s σ H Q I (w _ _ _ q)⟩
theorem _root_.L2.PW.weak {e : Expr} {t t' : TT} (h : PW X e t) (w : ∀ σ H Q, t' σ H Q → t σ H Q) : PW X e t' := ⟨fun wh pins s σ H Q I q => h.run wh pins s σ H Q I (w _ _ _ q)⟩
theorem _root_.L2.PA.weak {e : List Expr} {t t' : TA} (h : PA X e t) (w : ∀ σ H Q, t' σ H Q → t σ H Q) : PA X e t' := ⟨fun pos pins s σ H Q I q => h.run pos pins s σ H Q I (w _ _ _ q)⟩
theorem _root_.L2.PS.weak {e : Stmt} {t t' : TS} (h : PS X e t) (w : ∀ D σ H, t' D σ H → t D σ H) : PS X e t' := ⟨fun pins s σ H D I q => h.run pins s σ H D I (w _ _ _ q)⟩
theorem _root_.L2.PSs.weak {e : List Stmt} {t t' : TS} (h : PSs X e t) (w : ∀ D σ H, t' D σ H → t D σ H) : PSs X e t' := ⟨fun pins s σ H D I q => h.run pins s σ H D I (w _ _ _ q)⟩
/-! ### names, constants -/
theorem dv_fz {e : Expr} (h : DV X T U e ds s) : DV X T U e ds s.fz := h.weak fun σ H Q ⟨I0, H0, I, en, k⟩ => ⟨I0, H0, I, en, fun v I' H' st r => by
  obtain ⟨I2, s2, r2⟩ := r.fz st
  exact k v I2 H' s2 r2⟩
theorem de_own {e : Expr} {xs : List D} (h : DV X T U e ds (.own xs)) : DE X T U e ds (.lst xs) := dv_fz h
theorem de_ownD {e : Expr} {xs : List (Str × D)} (h : DV X T U e ds (.ownD xs)) : DE X T U e ds (.dic xs) := dv_fz h
theorem de_var (i : Nat) {x : Str} {pos : Pos} {d : D} (h : ds[i]? = some (.im d)) (hN : X.N[i]? = some x := by rfl) (hv : Vis X.env.scope x := by first | exact Or.inl rfl | exact Or.inr (Or.inl rfl) | exact Or.inr (Or.inr rfl))
    (hd : (x == ("__debug__" : Str)) = false := by decide) (hcd : (x == ("__classdict__" : Str)) = false := by decide) : DE X T U (.Name x pos) ds d :=
  (pe_var hN hv hd hcd).weak fun σ H Q ⟨I0, H0, I, en, k⟩ => by
    obtain ⟨v, e, r⟩ := en.im h
    exact ⟨v, e, k v I H (Step.refl en.sub) r⟩
theorem de_int {i : Int} {j : Nat} {pos : Pos} : DE X T U (.Constant (.int i) j pos) ds (.int i) := pe_int.weak fun _ H _ ⟨_, _, I, en, k⟩ => k _ I H (Step.refl en.sub) (.int i)
theorem de_bl {i : Bool} {j : Nat} {pos : Pos} : DE X T U (.Constant (.bool i) j pos) ds (.bl i) := pe_bl.weak fun _ H _ ⟨_, _, I, en, k⟩ => k _ I H (Step.refl en.sub) (.bl i)
theorem de_str {i : Str} {j : Nat} {pos : Pos} : DE X T U (.Constant (.str i) j pos) ds (.str i) := pe_str.weak fun _ H _ ⟨_, _, I, en, k⟩ => k _ I H (Step.refl en.sub) (.str i)
theorem de_non {j : Nat} {pos : Pos} : DE X T U (.Constant .none j pos) ds .non := pe_non.weak fun _ H _ ⟨_, _, I, en, k⟩ => k _ I H (Step.refl en.sub) .non
theorem de_gstr {x z : Str} {pos : Pos} (hg : Gl X x) (hm : ∃ t, X.mg x = some (.str z t)) (hd : (x == ("__debug__" : Str)) = false := by decide) : DE X T U (.Name x pos) ds (.str z) := by
  obtain ⟨t, hm⟩ := hm
  exact (pe_glob (v := .str z) hg hm ⟨t, rfl⟩ hd).weak fun _ H _ ⟨_, _, I, en, k⟩ => k _ I H (Step.refl en.sub) (.str z)
theorem de_gint {x : Str} {z : Int} {pos : Pos} (hg : Gl X x) (hm : ∃ t, X.mg x = some (.int z t)) (hd : (x == ("__debug__" : Str)) = false := by decide) : DE X T U (.Name x pos) ds (.int z) := by
  obtain ⟨t, hm⟩ := hm
  exact (pe_glob (v := .int z) hg hm ⟨t, rfl⟩ hd).weak fun _ H _ ⟨_, _, I, en, k⟩ => k _ I H (Step.refl en.sub) (.int z)
/-! ### operators -/
/-- two values told, then r of them -/
def R2D (G : Glb) (r : R2) (x y : D) (s : DS) : Prop := ∀ (I H : Hp) (v w : V) (Q : VK), RdS I H → Rep G I v x → Rep G I w y → (∀ z I' H', Step G I H I' H' → ValR G H I' H' z s → Q z H') → r v w H Q
theorem op_run {G : Glb} {r : R2} {x y : D} {σ : L2.St} {H : Hp} {Q : VK} (hr : R2D G r x y s) (h : eV G U ds s σ H Q) : tOp r (eV G U ds (.im x)) (eV G U ds (.im y)) σ H Q := by
  obtain ⟨I0, H0, I, en, k⟩ := h
  refine ⟨I0, H0, I, en, fun v I1 H1 s1 r1 => ⟨I0, H0, I1, en.step s1, fun w I2 H2 s2 r2 => ?_⟩⟩
  exact hr I2 H2 v w Q s2.sub (Rep.mono s2.isub r1) r2 fun z I3 H3 s3 r3 => k z I3 H3 ((s1.trans s2).trans s3) (r3.back (s1.trans s2))
theorem dv_op {a b : Expr} {op : Operator} {pos : Pos} {r : R2} {x y : D} (ho : OpR X (binaryOp op) r) (hr : R2D (gx X T) r x y s) (ha : DE X T U a ds x) (hb : DE X T U b ds y) : DV X T U (.BinOp a op b pos) ds s :=
  (pe_op ho ha hb).weak fun _ _ _ h => op_run hr h
theorem dv_cmp {a b : Expr} {op : CmpOp} {pos : Pos} {r : R2} {x y : D} (ho : OpR X (compareOp op) r) (hr : R2D (gx X T) r x y s) (ha : DE X T U a ds x) (hb : DE X T U b ds y) (hn : behindInMarks op b = false := by first | exact nobehind _ (by decide) (by decide) | rfl) : DV X T U (.Compare a [op] [b] pos) ds s :=
  (pe_cmpR ho ha hb hn).weak fun _ _ _ h => op_run hr h
theorem dt_cmp {a b : Expr} {op : CmpOp} {pos : Pos} {r : R2} {x y : D} {c : Bool} (ho : OpR X (compareOp op) r) (hr : R2D (gx X T) r x y (.im (.bl c))) (ha : DE X T U a ds x) (hb : DE X T U b ds y) (hn : behindInMarks op b = false := by first | exact nobehind _ (by decide) (by decide) | rfl) : DT X T U (.Compare a [op] [b] pos) ds c :=
  (pt_cmpR ho ha hb hn).weak fun σ H Q ⟨I0, H0, I, en, k⟩ => op_run hr ⟨I0, H0, I, en, fun v I' H' st r => by
    cases r
    exact ⟨c, rfl, k I' H' st⟩⟩
theorem dt_chain {a b e : Expr} {op op' : CmpOp} {pos : Pos} {r r' : R2} {x y z : D} {c c' : Bool} (ho : OpR X (compareOp op) r) (ho' : OpR X (compareOp op') r') (hr : R2D (gx X T) r x y (.im (.bl c))) (hr' : R2D (gx X T) r' y z (.im (.bl c')))
    (ha : DE X T U a ds x) (hb : DE X T U b ds y) (he : DE X T U e ds z) (hl : lastMarks [op, op'] [b, e] = false := by rfl) : DT X T U (.Compare a [op, op'] [b, e] pos) ds (c && c') :=
  (pt_chain ho ho' ha hb he hl).weak fun σ H Q ⟨I0, H0, I, en, k⟩ => by
    refine ⟨I0, H0, I, en, fun v I1 H1 s1 r1 => ⟨I0, H0, I1, en.step s1, fun w I2 H2 s2 r2 => ?_⟩⟩
    refine hr I2 H2 v w _ s2.sub (Rep.mono s2.isub r1) r2 fun u I3 H3 s3 r3 => ?_
    cases r3
    refine ⟨c, rfl, ?_⟩
    cases c with
    | false => exact ⟨false, rfl, k I3 H3 ((s1.trans s2).trans s3)⟩
    | true =>
      refine ⟨I0, H0, I3, ((en.step s1).step s2).step s3, fun u4 I4 H4 s4 r4 => ?_⟩
      refine hr' I4 H4 w u4 _ s4.sub (Rep.mono (s3.isub.trans s4.isub) r2) r4 fun u I5 H5 s5 r5 => ?_
      cases r5
      exact ⟨c', rfl, k I5 H5 ((((s1.trans s2).trans s3).trans s4).trans s5)⟩
/-! the rules of values -/
section
variable {G : Glb} {i j : Int} {x y : Str}
theorem r2_I0 {g : Int → Int → Int} : R2D G (rI0 fun i j => .int (g i j)) (.int i) (.int j) (.im (.int (g i j))) := fun I H v w Q r h1 h2 k => by
  cases h1; cases h2
  exact ⟨i, j, rfl, rfl, k _ I H (Step.refl r) (.int _)⟩
theorem r2_I {C : Int → Int → Prop} {g : Int → Int → Int} (hc : C i j) : R2D G (rI C fun i j => .int (g i j)) (.int i) (.int j) (.im (.int (g i j))) := fun I H v w Q r h1 h2 k => by
  cases h1; cases h2
  exact ⟨i, j, rfl, rfl, hc, k _ I H (Step.refl r) (.int _)⟩
theorem r2_B0 {g : Int → Int → Bool} : R2D G (rI0 fun i j => .bl (g i j)) (.int i) (.int j) (.im (.bl (g i j))) := fun I H v w Q r h1 h2 k => by
  cases h1; cases h2
  exact ⟨i, j, rfl, rfl, k _ I H (Step.refl r) (.bl _)⟩
theorem r2_eqI : R2D G rEq (.int i) (.int j) (.im (.bl (decide (i = j)))) := fun I H v w Q r h1 h2 k => by
  cases h1; cases h2
  refine ⟨rfl, ?_⟩
  rw [show decide (V.int i = V.int j) = decide (i = j) from by simp]
  exact k _ I H (Step.refl r) (.bl _)
theorem r2_neI : R2D G rNe (.int i) (.int j) (.im (.bl (!decide (i = j)))) := fun I H v w Q r h1 h2 k => by
  cases h1; cases h2
  refine ⟨rfl, ?_⟩
  rw [show decide (V.int i = V.int j) = decide (i = j) from by simp]
  exact k _ I H (Step.refl r) (.bl _)
theorem r2_eqS : R2D G rEq (.str x) (.str y) (.im (.bl (decide (x = y)))) := fun I H v w Q r h1 h2 k => by
  cases h1; cases h2
  refine ⟨rfl, ?_⟩
  rw [show decide (V.str x = V.str y) = decide (x = y) from by simp]
  exact k _ I H (Step.refl r) (.bl _)
theorem r2_neS : R2D G rNe (.str x) (.str y) (.im (.bl (!decide (x = y)))) := fun I H v w Q r h1 h2 k => by
  cases h1; cases h2
  refine ⟨rfl, ?_⟩
  rw [show decide (V.str x = V.str y) = decide (x = y) from by simp]
  exact k _ I H (Step.refl r) (.bl _)
theorem r2_addS (hl : x.length + y.length ≤ sizeLine) : R2D G (fun x y H Q => ∃ i j, x = .str i ∧ y = .str j ∧ i.length + j.length ≤ sizeLine ∧ Q (.str (i ++ j)) H) (.str x) (.str y) (.im (.str (x ++ y))) := fun I H v w Q r h1 h2 k => by
  cases h1; cases h2
  exact ⟨_, _, rfl, rfl, hl, k _ I H (Step.refl r) (.str _)⟩
end
section
variable {a b : Expr} {pos : Pos} {i j : Int} {x y : Str}
theorem de_add (ha : DE X T U a ds (.int i)) (hb : DE X T U b ds (.int j)) : DE X T U (.BinOp a .Add b pos) ds (.int (i + j)) := dv_op op_add r2_I0 ha hb
theorem de_sub (ha : DE X T U a ds (.int i)) (hb : DE X T U b ds (.int j)) : DE X T U (.BinOp a .Sub b pos) ds (.int (i - j)) := dv_op op_sub r2_I0 ha hb
theorem de_mul (ha : DE X T U a ds (.int i)) (hb : DE X T U b ds (.int j)) (hc : CMul i j) : DE X T U (.BinOp a .Mult b pos) ds (.int (i * j)) := dv_op op_mul (r2_I hc) ha hb
theorem de_mod (ha : DE X T U a ds (.int i)) (hb : DE X T U b ds (.int j)) (hc : 0 < j) : DE X T U (.BinOp a .Mod b pos) ds (.int (i % j)) := dv_op op_mod (r2_I hc) ha hb
theorem de_div (ha : DE X T U a ds (.int i)) (hb : DE X T U b ds (.int j)) (hc : CDiv i j) : DE X T U (.BinOp a .FloorDiv b pos) ds (.int (i / j)) := dv_op op_fdiv (r2_I hc) ha hb
theorem de_pow (ha : DE X T U a ds (.int i)) (hb : DE X T U b ds (.int j)) (hc : CPow i j) : DE X T U (.BinOp a .Pow b pos) ds (.int (i ^ j.toNat)) := dv_op op_pow (r2_I hc) ha hb
theorem de_shr (ha : DE X T U a ds (.int i)) (hb : DE X T U b ds (.int j)) (hc : 0 ≤ j) : DE X T U (.BinOp a .RShift b pos) ds (.int (i / 2 ^ j.toNat)) := dv_op op_shr (r2_I hc) ha hb
theorem de_band (ha : DE X T U a ds (.int i)) (hb : DE X T U b ds (.int j)) : DE X T U (.BinOp a .BitAnd b pos) ds (.int (Builtin.bitAnd i j)) := dv_op op_and r2_I0 ha hb
theorem de_bor (ha : DE X T U a ds (.int i)) (hb : DE X T U b ds (.int j)) : DE X T U (.BinOp a .BitOr b pos) ds (.int (Builtin.bitOr i j)) := dv_op op_or r2_I0 ha hb
theorem de_addS (ha : DE X T U a ds (.str x)) (hb : DE X T U b ds (.str y)) (hl : x.length + y.length ≤ sizeLine) : DE X T U (.BinOp a .Add b pos) ds (.str (x ++ y)) := dv_op op_add_str (r2_addS hl) ha hb
theorem dt_lt (ha : DE X T U a ds (.int i)) (hb : DE X T U b ds (.int j)) : DT X T U (.Compare a [.Lt] [b] pos) ds (decide (i < j)) := dt_cmp op_lt r2_B0 ha hb
theorem dt_le (ha : DE X T U a ds (.int i)) (hb : DE X T U b ds (.int j)) : DT X T U (.Compare a [.LtE] [b] pos) ds (decide (i ≤ j)) := dt_cmp op_le r2_B0 ha hb
theorem dt_gt (ha : DE X T U a ds (.int i)) (hb : DE X T U b ds (.int j)) : DT X T U (.Compare a [.Gt] [b] pos) ds (decide (j < i)) := dt_cmp op_gt r2_B0 ha hb
theorem dt_ge (ha : DE X T U a ds (.int i)) (hb : DE X T U b ds (.int j)) : DT X T U (.Compare a [.GtE] [b] pos) ds (decide (j ≤ i)) := dt_cmp op_ge r2_B0 ha hb
theorem dt_eqI (ha : DE X T U a ds (.int i)) (hb : DE X T U b ds (.int j)) : DT X T U (.Compare a [.Eq] [b] pos) ds (decide (i = j)) := dt_cmp op_eq r2_eqI ha hb
theorem dt_neI (ha : DE X T U a ds (.int i)) (hb : DE X T U b ds (.int j)) : DT X T U (.Compare a [.NotEq] [b] pos) ds (!decide (i = j)) := dt_cmp op_ne r2_neI ha hb
theorem dt_eqS (ha : DE X T U a ds (.str x)) (hb : DE X T U b ds (.str y)) : DT X T U (.Compare a [.Eq] [b] pos) ds (decide (x = y)) := dt_cmp op_eq r2_eqS ha hb
theorem dt_neS (ha : DE X T U a ds (.str x)) (hb : DE X T U b ds (.str y)) : DT X T U (.Compare a [.NotEq] [b] pos) ds (!decide (x = y)) := dt_cmp op_ne r2_neS ha hb
theorem de_eqI (ha : DE X T U a ds (.int i)) (hb : DE X T U b ds (.int j)) : DE X T U (.Compare a [.Eq] [b] pos) ds (.bl (decide (i = j))) := dv_cmp op_eq r2_eqI ha hb
theorem de_eqS (ha : DE X T U a ds (.str x)) (hb : DE X T U b ds (.str y)) : DE X T U (.Compare a [.Eq] [b] pos) ds (.bl (decide (x = y))) := dv_cmp op_eq r2_eqS ha hb
/-- a <= b <= c -/
theorem dt_leLe {c : Expr} {k : Int} (ha : DE X T U a ds (.int i)) (hb : DE X T U b ds (.int j)) (hc : DE X T U c ds (.int k)) (hl : lastMarks [.LtE, .LtE] [b, c] = false := by rfl) : DT X T U (.Compare a [.LtE, .LtE] [b, c] pos) ds (decide (i ≤ j) && decide (j ≤ k)) :=
  dt_chain op_le op_le r2_B0 r2_B0 ha hb hc hl
theorem dt_leLt {c : Expr} {k : Int} (ha : DE X T U a ds (.int i)) (hb : DE X T U b ds (.int j)) (hc : DE X T U c ds (.int k)) (hl : lastMarks [.LtE, .Lt] [b, c] = false := by rfl) : DT X T U (.Compare a [.LtE, .Lt] [b, c] pos) ds (decide (i ≤ j) && decide (j < k)) :=
  dt_chain op_le op_lt r2_B0 r2_B0 ha hb hc hl
end
/-! ### tests -/
section
variable {e a b : Expr} {rest : List Expr} {pos : Pos} {x y : Bool}
theorem dt_is (h : DT X T U e ds x) (q : x = y) : DT X T U e ds y := q ▸ h
theorem dv_is {s' : DS} (h : DV X T U e ds s) (q : s = s') : DV X T U e ds s' := q ▸ h
theorem dt_val (h : DE X T U e ds (.bl x)) (he : ∀ whole, isTrue e X.env whole = (do let v ← whole; standAt e.pos; holding [v] (truthy v)) := by intro _; rfl) : DT X T U e ds x :=
  (pt_val h he).weak fun σ H Q ⟨I0, H0, I, en, k⟩ => ⟨I0, H0, I, en, fun v I' H' st r => by
    cases r
    exact ⟨x, rfl, k I' H' st⟩⟩
theorem dt_not (h : DT X T U a ds x) : DT X T U (.UnaryOp .Not a pos) ds (!x) := (pt_not h).weak fun σ H Q ⟨I0, H0, I, en, k⟩ => ⟨I0, H0, I, en, fun I' H' st => k I' H' st⟩
abbrev DW (X : Cx) (T : List NdefX.NTab) (U : Bool) (e : Expr) (ds : List DS) (b : Bool) : Prop := PW X e (tV (gx X T) U ds b)
theorem dw_and1 (h : DT X T U a ds x) : DW X T U (.BoolOp .And [a] pos) ds x := pw_and1 h
theorem dw_or1 (h : DT X T U a ds x) : DW X T U (.BoolOp .Or [a] pos) ds x := pw_or1 h
/-- the second one is asked where the first is true -/
theorem dw_and (h : DT X T U a ds x) (h2 : x = true → DW X T U (.BoolOp .And (b :: rest) pos) ds y) : DW X T U (.BoolOp .And (a :: b :: rest) pos) ds (x && y) := by
  refine ⟨fun wh pins s σ H Q I hw => ?_⟩
  obtain ⟨I0, H0, I1, en, k⟩ := hw
  cases x with
  | true =>
    refine (pw_and (tB' := fun σ H Q => tV (gx X T) U ds y σ H Q) h (h2 rfl)).run wh pins s σ H Q I ⟨I0, H0, I1, en, fun I' H' st => ?_⟩
    exact ⟨I0, H0, I', en.step st, fun I2 H2 s2 => k I2 H2 (st.trans s2)⟩
  | false =>
    refine (pw_and (tB' := fun _ _ _ => False) h ⟨fun _ _ _ _ _ _ _ z => z.elim⟩).run wh pins s σ H Q I ⟨I0, H0, I1, en, fun I' H' st => ?_⟩
    exact k I' H' st
theorem dw_or (h : DT X T U a ds x) (h2 : x = false → DW X T U (.BoolOp .Or (b :: rest) pos) ds y) : DW X T U (.BoolOp .Or (a :: b :: rest) pos) ds (x || y) := by
  refine ⟨fun wh pins s σ H Q I hw => ?_⟩
  obtain ⟨I0, H0, I1, en, k⟩ := hw
  cases x with
  | false =>
    refine (pw_or (tB' := fun σ H Q => tV (gx X T) U ds y σ H Q) h (h2 rfl)).run wh pins s σ H Q I ⟨I0, H0, I1, en, fun I' H' st => ?_⟩
    exact ⟨I0, H0, I', en.step st, fun I2 H2 s2 => k I2 H2 (st.trans s2)⟩
  | true =>
    refine (pw_or (tB' := fun _ _ _ => False) h ⟨fun _ _ _ _ _ _ _ z => z.elim⟩).run wh pins s σ H Q I ⟨I0, H0, I1, en, fun I' H' st => ?_⟩
    exact k I' H' st
theorem dt_w (h : DW X T U e ds x) : DT X T U e ds x := PW.pt h
/-- .. as values -/
theorem de_one {op : BoolOp} {t : D} (h : DE X T U a ds t) : DE X T U (.BoolOp op [a] pos) ds t := pe_one h
theorem de_and (h : DE X T U a ds (.bl x)) (h2 : x = true → DE X T U (.BoolOp .And (b :: rest) pos) ds (.bl y)) : DE X T U (.BoolOp .And (a :: b :: rest) pos) ds (.bl (x && y)) := by
  refine ⟨fun pins s σ H Q I hw => ?_⟩
  obtain ⟨I0, H0, I1, en, k⟩ := hw
  cases x with
  | true =>
    refine (pe_and h (h2 rfl)).run pins s σ H Q I ⟨I0, H0, I1, en, fun v I' H' st r => ?_⟩
    cases r
    exact ⟨true, rfl, I0, H0, I', en.step st, fun v I2 H2 s2 r2 => k v I2 H2 (st.trans s2) r2⟩
  | false =>
    refine (pe_and (tb := fun _ _ _ => False) h ⟨fun _ _ _ _ _ _ z => z.elim⟩).run pins s σ H Q I ⟨I0, H0, I1, en, fun v I' H' st r => ?_⟩
    cases r
    exact ⟨false, rfl, k _ I' H' st (.bl false)⟩
theorem de_or (h : DE X T U a ds (.bl x)) (h2 : x = false → DE X T U (.BoolOp .Or (b :: rest) pos) ds (.bl y)) : DE X T U (.BoolOp .Or (a :: b :: rest) pos) ds (.bl (x || y)) := by
  refine ⟨fun pins s σ H Q I hw => ?_⟩
  obtain ⟨I0, H0, I1, en, k⟩ := hw
  cases x with
  | false =>
    refine (pe_or h (h2 rfl)).run pins s σ H Q I ⟨I0, H0, I1, en, fun v I' H' st r => ?_⟩
    cases r
    exact ⟨false, rfl, I0, H0, I', en.step st, fun v I2 H2 s2 r2 => k v I2 H2 (st.trans s2) r2⟩
  | true =>
    refine (pe_or (tb := fun _ _ _ => False) h ⟨fun _ _ _ _ _ _ z => z.elim⟩).run pins s σ H Q I ⟨I0, H0, I1, en, fun v I' H' st r => ?_⟩
    cases r
    exact ⟨true, rfl, k _ I' H' st (.bl true)⟩
theorem de_not (h : DE X T U a ds (.bl x)) : DE X T U (.UnaryOp .Not a pos) ds (.bl (!x)) := (pe_not h).weak fun σ H Q ⟨I0, H0, I, en, k⟩ => ⟨I0, H0, I, en, fun v I' H' st r => by
  cases r
  exact ⟨x, rfl, k _ I' H' st (.bl _)⟩⟩
/-- a if c else b -/
theorem dv_if {c : Expr} (h : DT X T U c ds x) (h1 : x = true → DV X T U a ds s) (h2 : x = false → DV X T U b ds s) : DV X T U (.IfExp c a b pos) ds s := by
  refine ⟨fun pins s' σ H Q I hw => ?_⟩
  obtain ⟨I0, H0, I1, en, k⟩ := hw
  cases x with
  | true =>
    refine (pe_ifExp (tb := fun _ _ _ => False) h (h1 rfl) ⟨fun _ _ _ _ _ _ z => z.elim⟩).run pins s' σ H Q I ⟨I0, H0, I1, en, fun I' H' st => ?_⟩
    exact ⟨I0, H0, I', en.step st, fun v I2 H2 s2 r2 => k v I2 H2 (st.trans s2) (r2.back st)⟩
  | false =>
    refine (pe_ifExp (ta := fun _ _ _ => False) h ⟨fun _ _ _ _ _ _ z => z.elim⟩ (h2 rfl)).run pins s' σ H Q I ⟨I0, H0, I1, en, fun I' H' st => ?_⟩
    exact ⟨I0, H0, I', en.step st, fun v I2 H2 s2 r2 => k v I2 H2 (st.trans s2) (r2.back st)⟩
end
/-! ### arguments, displays, calls of the built-in -/
section
variable {e : Expr} {es : List Expr} {pos : Pos} {d : D} {xs : List D}
theorem da_nil : DA X T U [] ds [] := ⟨fun pos pins s σ H Q I ⟨I0, H0, I1, en, k⟩ => pa_nil.run pos pins s σ H Q I (k [] I1 H (Step.refl en.sub) .nil)⟩
theorem da_cons (h : DE X T U e ds d) (hr : DA X T U es ds xs) (he : starEach (e :: es) X.env = (false, eval e X.env) :: starEach es X.env := by rfl) : DA X T U (e :: es) ds (d :: xs) :=
  (pa_cons h hr he).weak fun σ H Q ⟨I0, H0, I, en, k⟩ => ⟨I0, H0, I, en, fun v I1 H1 s1 r1 => ⟨I0, H0, I1, en.step s1, fun vs I2 H2 s2 r2 => k (v :: vs) I2 H2 (s1.trans s2) (.cons (Rep.mono s2.isub r1) r2)⟩⟩
theorem dv_lst (h : DA X T U es ds xs) (hl : xs.length ≤ 100000) : DV X T U (.List es pos) ds (.own xs) :=
  (pe_lst h).weak fun σ H Q ⟨I0, H0, I, en, k⟩ => ⟨I0, H0, I, en, fun vs I1 H1 s1 r1 => ⟨by rw [r1.len]; exact Nat.le_trans hl (by decide), fun p hp => by
    have s2 : Step (gx X T) I1 H1 I1 (upd H1 p (.lst vs)) := Step.newOwn s1.sub hp
    exact k _ I1 _ (s1.trans s2) ⟨p, vs, rfl, s1.free hp, s1.sub.free hp, upd_same, r1⟩⟩⟩
theorem de_tup {n : Nat} (h : DA X T U es ds xs) (hl : xs.length ≤ 100000) : DE X T U (.Tuple es n pos) ds (.tup xs) :=
  (pe_tup h).weak fun σ H Q ⟨I0, H0, I, en, k⟩ => ⟨I0, H0, I, en, fun vs I1 H1 s1 r1 => ⟨by rw [r1.len]; exact Nat.le_trans hl (by decide), fun p hp => by
    have s2 : Step (gx X T) I1 H1 (upd I1 p (.tup vs)) (upd H1 p (.tup vs)) := Step.new s1.sub hp
    exact k _ _ _ (s1.trans s2) (Rep.tup upd_same (r1.mono s2.isub))⟩⟩
/-- a call's rule by values, over arguments told -/
def RCD (G : Glb) (r : List V → Hp → VK → Prop) (xs : List D) (s : DS) : Prop := ∀ (I H : Hp) (vs : List V) (Q : VK), RdS I H → Reps G I vs xs → (∀ z I' H', Step G I H I' H' → ValR G H I' H' z s → Q z H') → r vs H Q
theorem cb_run {G : Glb} {r : List V → Hp → VK → Prop} {σ : L2.St} {H : Hp} {Q : VK} (hr : RCD G r xs s) (h : eV G U ds s σ H Q) : tCB r (aV G U ds xs) σ H Q := by
  obtain ⟨I0, H0, I, en, k⟩ := h
  refine ⟨I0, H0, I, en, fun vs I1 H1 s1 r1 => ?_⟩
  exact hr I1 H1 vs Q s1.sub r1 fun z I2 H2 s2 r2 => k z I2 H2 (s1.trans s2) (r2.back s1)
theorem dv_callB {x : Str} {p : Pos} {id : String} {r : List V → Hp → VK → Prop} (hc : CallR X (.builtin id) r) (hr : RCD (gx X T) r xs s) (hg : Gl X x) (hm : X.mg x = none) (hv : bootBuiltins x = some (.builtin id)) (ha : DA X T U (e :: es) ds xs) (hn : x ≠ ("__name__" : Str) := by decide)
    (hd : (x == ("__debug__" : Str)) = false := by decide) (he : starEach (e :: es) X.env = (false, eval e X.env) :: starEach es X.env := by rfl) (hpl : (backTo pos (starEach es X.env)).any (·.1) = false := by rfl) : DV X T U (.Call (.Name x p) (e :: es) [] pos) ds s :=
  (pe_callB hc hg hm hv ha hn hd he hpl).weak fun _ _ _ h => cb_run hr h
theorem dv_callTy {x : Str} {p : Pos} {id : String} {r : List V → Hp → VK → Prop} (hc : CallR X (.type id) r) (hr : RCD (gx X T) r xs s) (hg : Gl X x) (hm : X.mg x = none) (hv : bootBuiltins x = some (.type id)) (ha : DA X T U (e :: es) ds xs) (hn : x ≠ ("__name__" : Str) := by decide)
    (hd : (x == ("__debug__" : Str)) = false := by decide) (he : starEach (e :: es) X.env = (false, eval e X.env) :: starEach es X.env := by rfl) (hpl : (backTo pos (starEach es X.env)).any (·.1) = false := by rfl) : DV X T U (.Call (.Name x p) (e :: es) [] pos) ds s :=
  (pe_callTy hc hg hm hv ha hn hd he hpl).weak fun _ _ _ h => cb_run hr h
end
end
end Lp

/-! The judgements over data: statements, loops, defs and their calls. -/
namespace Lp
open PySem PySem.Spec PyProof.Rows L2
section
variable {G : Glb} {U : Bool} {I0 H0 I H I' H' : Hp} {σ : L2.St} {ds : List DS}
theorem EnvR.setV (e : EnvR G U I0 H0 I H σ ds) (s : Step G I H I' H') {v : V} {d : DS} (i : Nat) (r : ValR G H I' H' v d) : EnvR G U I0 H0 I' H' (σ.set i (some v)) (ds.set i d) := by
  cases d with
  | no => exact (e.step s).setNo _ i
  | im d => exact (e.step s).setIm i r
  | own xs =>
    obtain ⟨p, vs, rfl, n, hi, h, rs⟩ := r
    exact e.setNew s n i (fun _ => ⟨p, vs, rfl, h, rs, hi, e.st.free n⟩) rfl
  | ownD xs =>
    obtain ⟨p, vs, rfl, n, hi, h, rs⟩ := r
    exact e.setNew s n i (fun _ => ⟨p, vs, rfl, h, rs, hi, e.st.free n⟩) rfl
theorem NxR.imp {P Q : List DS → Prop} {σ' : L2.St} (h : ∀ ds', P ds' → Q ds') (n : NxR G U I0 H0 I H P σ' H') : NxR G U I0 H0 I H Q σ' H' := by
  obtain ⟨d, I1, e, p, q⟩ := n
  exact ⟨d, I1, e, p, h d q⟩
theorem XsR.pre {P : List DS → Prop} {fs : List (Str × D)} {d : Option Addr} {σ' : L2.St} {I1 H1 H2 : Hp} (p : Pres I H I1 H1) (n : XsR G U I0 H0 I1 H1 P fs d σ' H2) : XsR G U I0 H0 I H P fs d σ' H2 := by
  obtain ⟨ds', I2, e, q, x, r⟩ := n
  exact ⟨ds', I2, e, p.trans q, x, r⟩
theorem NxR.pre {P : List DS → Prop} {σ' : L2.St} {I1 H1 H2 : Hp} (p : Pres I H I1 H1) (n : NxR G U I0 H0 I1 H1 P σ' H2) : NxR G U I0 H0 I H P σ' H2 := by
  obtain ⟨d, I2, e, q, r⟩ := n
  exact ⟨d, I2, e, p.trans q, r⟩
/-- behind a part, the rest with what it wants -/
theorem sV_from {W : WX} {E : DEn} {D : Ends} {ds ds' : List DS} {I1 H1 : Hp} {σ σ' : L2.St} (p : Pres I H I1 H1) (e : EnvR G U I0 H0 I1 H1 σ' ds')
    (k1 : ∀ σ' H', NxR G U I0 H0 I H E.nx σ' H' → D.nx σ' H') (k2 : ∀ v H' s, RetR G I0 H0 v H' s → E.rt s → D.rt v H') (k3 : ∀ σ' H', NxR G U I0 H0 I H E.bk σ' H' → D.bk σ' H') (k4 : ∀ σ' H', NxR G U I0 H0 I H E.ct σ' H' → D.ct σ' H')
    (k5 : ∀ C fs d σ' H', XsR G U I0 H0 I H (E.xs C fs) fs d σ' H' → W (.ref (He.ga G.K C)) d σ' H') : sV G W U ds' E D σ' H1 :=
  ⟨I0, H0, I1, e, fun s h n => k1 s h (n.pre p), k2, fun s h n => k3 s h (n.pre p), fun s h n => k4 s h (n.pre p), fun C fs d s h n => k5 C fs d s h (n.pre p)⟩
end
section
variable {X : Cx} {T : List NdefX.NTab} {W : WX} {U : Bool} {ds : List DS} {s : DS} {E : DEn}
theorem sV_imp {G : Glb} {E E' : DEn} {D : Ends} {σ : L2.St} {H : Hp} (h1 : ∀ d, E.nx d → E'.nx d) (h2 : ∀ d, E.rt d → E'.rt d) (h3 : ∀ d, E.bk d → E'.bk d) (h4 : ∀ d, E.ct d → E'.ct d) (h5 : ∀ C f d, E.xs C f d → E'.xs C f d) (h : sV G W U ds E' D σ H) : sV G W U ds E D σ H := by
  obtain ⟨I0, H0, I, e, k1, k2, k3, k4, k5⟩ := h
  exact ⟨I0, H0, I, e, fun s h n => k1 s h (n.imp h1), fun v h s r q => k2 v h s r (h2 s q), fun s h n => k3 s h (n.imp h3), fun s h n => k4 s h (n.imp h4), fun C f d s h ⟨ds', I', a, b, c, q⟩ => k5 C f d s h ⟨ds', I', a, b, c, h5 C f ds' q⟩⟩
/-! ### blocks -/
theorem dss_nil (h : E.nx ds) : DSs X T W U [] ds E := pss_nil.weak fun D σ H ⟨I0, H0, I, e, k1, _⟩ => k1 σ H ⟨ds, I, e, Pres.refl I H, h⟩
theorem dss_cons {st : Stmt} {rest : List Stmt} (h : DSt X T W U st ds { E with nx := fun ds' => DSs X T W U rest ds' E }) : DSs X T W U (st :: rest) ds E := by
  have h2 : PSs X rest (fun D σ H => ∃ ds', DSs X T W U rest ds' E ∧ sV (gx X T) W U ds' E D σ H) := ⟨fun pins s σ H D I ⟨ds', a, b⟩ => a.run pins s σ H D I b⟩
  refine (pss_cons h h2).weak fun D σ H ⟨I0, H0, I, e, k1, k2, k3, k4, k5⟩ => ?_
  refine ⟨I0, H0, I, e, fun σ' H' ⟨ds', I', e', p, q⟩ => ⟨ds', q, sV_from (ds := ds) (σ := σ) p e' k1 k2 k3 k4 k5⟩, k2, k3, k4, k5⟩
theorem dss_one {st : Stmt} (h : DSt X T W U st ds E) : DSs X T W U [st] ds E := pss_one h
theorem dss_never {sts : List Stmt} (h : False) : DSs X T W U sts ds E := h.elim
/-! ### simple statements -/
section
variable {e : Expr} {pos : Pos}
theorem ds_set (i : Nat) {x : Str} {pos' : Pos} (he : DV X T U e ds s) (k : E.nx (ds.set i s)) (hN : X.N.Nodup) (hi : X.N[i]? = some x := by rfl) (hx : Loc X.env.scope x := by first | exact Or.inl rfl | exact Or.inr rfl)
    (hs : swapsWith e (some (.Name x pos')) pos.line X.env = pure false := by rfl) (hf : X.fn x = true ∨ X.env.scope.names.lookup x = some .local := by first | exact .inl rfl | exact .inr rfl | assumption) : DSt X T W U (.Assign [.Name x pos'] e pos) ds E :=
  (ps_set hN hi hx he hs hf).weak fun D σ H ⟨I0, H0, I, en, k1, _⟩ => ⟨I0, H0, I, en, fun v I1 H1 s1 r1 => k1 _ H1 ⟨_, I1, en.setV s1 i r1, s1.pres, k⟩⟩
theorem ds_expr (he : DV X T U e ds s) (k : E.nx ds) (hs : swapsWith e none pos.line X.env = pure false := by rfl) : DSt X T W U (.Expr e pos) ds E :=
  (ps_expr he hs).weak fun D σ H ⟨I0, H0, I, en, k1, _⟩ => ⟨I0, H0, I, en, fun v I1 H1 s1 r1 => k1 _ H1 ⟨_, I1, en.step s1, s1.pres, k⟩⟩
theorem ds_ret (he : DV X T U e ds s) (k : E.rt s) : DSt X T W U (.Return (some e) pos) ds E :=
  (ps_ret he).weak fun D σ H ⟨I0, H0, I, en, _, k2, _⟩ => ⟨I0, H0, I, en, fun v I1 H1 s1 r1 => k2 v H1 s ⟨I1, en.st.trans s1, r1.back en.st⟩ k⟩
theorem ds_retN (k : E.rt (.im .non)) : DSt X T W U (.Return none pos) ds E :=
  ps_retN.weak fun D σ H ⟨I0, H0, I, en, _, k2, _⟩ => k2 _ H (.im .non) ⟨I, en.st, Rep.non⟩ k
/-- a name that holds a list of one's own is handed back -/
theorem ds_retOwn (i : Nat) {x : Str} {p : Pos} {xs : List D} (h : ds[i]? = some (.own xs)) (k : E.rt (.own xs)) (hN : X.N[i]? = some x := by rfl) (hv : Vis X.env.scope x := by first | exact Or.inl rfl | exact Or.inr (Or.inl rfl) | exact Or.inr (Or.inr rfl))
    (hd : (x == ("__debug__" : Str)) = false := by decide) (hcd : (x == ("__classdict__" : Str)) = false := by decide) : DSt X T W U (.Return (some (.Name x p)) pos) ds E :=
  (ps_ret (pe_var hN hv hd hcd)).weak fun D σ H ⟨I0, H0, I, en, _, k2, _⟩ => by
    obtain ⟨q, vs, e1, e2, e3, e4, e5⟩ := en.own h
    exact ⟨_, e1, k2 _ H (.own xs) ⟨I, en.st, q, vs, rfl, e5, e4, e2, e3⟩ k⟩
theorem ds_retOwnD (i : Nat) {x : Str} {p : Pos} {xs : List (Str × D)} (h : ds[i]? = some (.ownD xs)) (k : E.rt (.ownD xs)) (hN : X.N[i]? = some x := by rfl) (hv : Vis X.env.scope x := by first | exact Or.inl rfl | exact Or.inr (Or.inl rfl) | exact Or.inr (Or.inr rfl))
    (hd : (x == ("__debug__" : Str)) = false := by decide) (hcd : (x == ("__classdict__" : Str)) = false := by decide) : DSt X T W U (.Return (some (.Name x p)) pos) ds E :=
  (ps_ret (pe_var hN hv hd hcd)).weak fun D σ H ⟨I0, H0, I, en, _, k2, _⟩ => by
    obtain ⟨q, vs, e1, e2, e3, e4, e5⟩ := en.ownD h
    exact ⟨_, e1, k2 _ H (.ownD xs) ⟨I, en.st, q, vs, rfl, e5, e4, e2, e3⟩ k⟩
theorem ds_pass (k : E.nx ds) : DSt X T W U (.Pass pos) ds E := ps_pass.weak fun D σ H ⟨I0, H0, I, e, k1, _⟩ => k1 σ H ⟨ds, I, e, Pres.refl I H, k⟩
theorem ds_continue (k : E.ct ds) : DSt X T W U (.Continue pos) ds E := ps_continue.weak fun D σ H ⟨I0, H0, I, e, k1, k2, k3, k4, _⟩ => k4 σ H ⟨ds, I, e, Pres.refl I H, k⟩
theorem ds_break (k : E.bk ds) : DSt X T W U (.Break pos) ds E := ps_break.weak fun D σ H ⟨I0, H0, I, e, k1, k2, k3, _⟩ => k3 σ H ⟨ds, I, e, Pres.refl I H, k⟩
theorem ds_if {c : Expr} {a b : List Stmt} {x : Bool} (h : DT X T U c ds x) (h1 : x = true → DSs X T W U a ds E) (h2 : x = false → DSs X T W U b ds E) : DSt X T W U (.If c a b pos) ds E := by
  cases x with
  | true =>
    refine (ps_if h (h1 rfl) pss_never).weak fun D σ H ⟨I0, H0, I, e, k1, k2, k3, k4, k5⟩ => ⟨I0, H0, I, e, fun I' H' st => ?_⟩
    exact sV_from (ds := ds) (σ := σ) st.pres (e.step st) k1 k2 k3 k4 k5
  | false =>
    refine (ps_if h pss_never (h2 rfl)).weak fun D σ H ⟨I0, H0, I, e, k1, k2, k3, k4, k5⟩ => ⟨I0, H0, I, e, fun I' H' st => ?_⟩
    exact sV_from (ds := ds) (σ := σ) st.pres (e.step st) k1 k2 k3 k4 k5
/-- from now on a slot's own object is told -/
theorem grow {G : Glb} {I0 H0 I H : Hp} {p : Addr} {o : HO} (st : Step G I0 H0 I H) (hp : H p = some o) (hi : I p = none) (h0 : H0 p = none) : Pres I H (upd I p o) H ∧ Step G I0 H0 (upd I p o) H := by
  have sm : Same I (upd I p o) := fun a u q => by rw [upd_ne (ne_of_none q hi)]; exact q
  have rd : ∀ L, RdL L I H → RdL L (upd I p o) H := fun L w a u q => by
    by_cases z : a = p
    · subst z
      rw [upd_same] at q
      cases q
      exact .inl hp
    · rw [upd_ne z] at q
      exact w a u q
  refine ⟨⟨sm, rd, fun _ _ _ q => q⟩, st.isub.trans sm, (rd _ (RdL.all st.sub)).s, st.keep, st.keepN, fun a q n => ?_, st.tabs, fun L w => rd L (st.un L w)⟩
  have z : a ≠ p := fun z => by
    subst z
    exact n h0
  rw [upd_ne z]
  exact st.fresh a q n
theorem EnvR.growAt {G : Glb} {I0 H0 I H : Hp} {σ : L2.St} {p : Addr} {o : HO} {i : Nat} {d : DS} {c : D} (en : EnvR G U I0 H0 I H σ ds) (h : ds[i]? = some d) (ho : d.isOwn = true) (e1 : σ[i]? = some (some (.ref p))) (hp : H p = some o) (hi : I p = none) (h0 : H0 p = none)
    (r : Rep G (upd I p o) (.ref p) c) : Pres I H (upd I p o) H ∧ EnvR G U I0 H0 (upd I p o) H σ (ds.set i (.im c)) := by
  obtain ⟨ps, st⟩ := grow en.st hp hi h0
  refine ⟨ps, st, en.tb, fun u => (ps.un _ (RdL.of (en.un u))).same, by rw [List.length_set]; exact en.len, fun j ov t q1 q2 => ?_, fun j k q t t' q1 q2 q3 q4 o1 o2 => ?_⟩
  · by_cases hj : i = j
    · subst hj
      rw [List.getElem?_set_self (List.getElem?_eq_some_iff.mp h).1] at q2
      cases q2
      rw [e1] at q1
      cases q1
      exact ⟨_, rfl, r⟩
    · rw [List.getElem?_set_ne hj] at q2
      have z := en.sl j ov t q1 q2
      cases t with
      | no => trivial
      | im d =>
        obtain ⟨v, z1, z2⟩ := z
        exact ⟨v, z1, z2.mono ps.same⟩
      | own xs =>
        obtain ⟨q, vs, z1, z2, z3, z4, z5⟩ := z
        have nq : q ≠ p := fun zz => hj (en.dj i j p d _ e1 (by rw [q1, z1, zz]) h q2 ho rfl)
        exact ⟨q, vs, z1, z2, z3.mono ps.same, by rw [upd_ne nq]; exact z4, z5⟩
      | ownD xs =>
        obtain ⟨q, vs, z1, z2, z3, z4, z5⟩ := z
        have nq : q ≠ p := fun zz => hj (en.dj i j p d _ e1 (by rw [q1, z1, zz]) h q2 ho rfl)
        exact ⟨q, vs, z1, z2, z3.mono ps.same, by rw [upd_ne nq]; exact z4, z5⟩
  · have g : ∀ (m : Nat) (t : DS), (ds.set i (DS.im c))[m]? = some t → t.isOwn = true → ds[m]? = some t := fun m t hm ht => by
      by_cases hj : i = m
      · subst hj
        rw [List.getElem?_set_self (List.getElem?_eq_some_iff.mp h).1] at hm
        cases hm
        cases ht
      · rw [List.getElem?_set_ne hj] at hm
        exact hm
    exact en.dj j k q t t' q1 q2 (g j t q3 o1) (g k t' q4 o2) o1 o2
theorem EnvR.freezeAt {G : Glb} {I0 H0 I H : Hp} {σ : L2.St} (en : EnvR G U I0 H0 I H σ ds) {i : Nat} {d : DS} (h : ds[i]? = some d) (ho : d.isOwn = true) : ∃ I', Pres I H I' H ∧ EnvR G U I0 H0 I' H σ (ds.set i d.fz) := by
  cases d with
  | no => cases ho
  | im d => cases ho
  | own xs =>
    obtain ⟨p, vs, e1, e2, e3, e4, e5⟩ := en.own h
    exact ⟨_, en.growAt h ho e1 e2 e4 e5 (Rep.lst upd_same (e3.mono fun a u q => by rw [upd_ne (ne_of_none q e4)]; exact q))⟩
  | ownD xs =>
    obtain ⟨p, vs, e1, e2, e3, e4, e5⟩ := en.ownD h
    exact ⟨_, en.growAt h ho e1 e2 e4 e5 (Rep.dic upd_same (e3.mono fun a u q => by rw [upd_ne (ne_of_none q e4)]; exact q))⟩
theorem ds_freeze (i : Nat) {st : Stmt} {d : DS} (h : ds[i]? = some d) (ho : d.isOwn = true) (hs : DSt X T W U st (ds.set i d.fz) E) : DSt X T W U st ds E :=
  PS.weak hs fun D σ H ⟨I0, H0, I, e, k1, k2, k3, k4, k5⟩ => by
    obtain ⟨I', p, e'⟩ := e.freezeAt h ho
    exact sV_from (ds := ds) (σ := σ) p e' k1 k2 k3 k4 k5
theorem dss_freeze (i : Nat) {st : List Stmt} {d : DS} (h : ds[i]? = some d) (ho : d.isOwn = true) (hs : DSs X T W U st (ds.set i d.fz) E) : DSs X T W U st ds E :=
  PSs.weak hs fun D σ H ⟨I0, H0, I, e, k1, k2, k3, k4, k5⟩ => by
    obtain ⟨I', p, e'⟩ := e.freezeAt h ho
    exact sV_from (ds := ds) (σ := σ) p e' k1 k2 k3 k4 k5
/-- a slot forgotten -/
theorem EnvR.forget {G : Glb} {I0 H0 I H : Hp} {σ : L2.St} (en : EnvR G U I0 H0 I H σ ds) (i : Nat) : EnvR G U I0 H0 I H σ (ds.set i .no) := by
  by_cases hl : i < ds.length
  · have z := en.setNo (σ[i]'(by rw [en.len]; exact hl)) i
    rwa [List.set_getElem_self] at z
  · rw [List.set_eq_of_length_le (by omega)]
    exact en
/-! ### what is read while it is one's own -/
/-- scalars: they name no object -/
def flat : DS → Bool
  | .im (.non) => true
  | .im (.bl _) => true
  | .im (.int _) => true
  | .im (.str _) => true
  | _ => false
theorem flat_rep {G : Glb} {Hb I I' H : Hp} {v : V} : ∀ {d : DS}, flat d = true → ValR G Hb I H v d → ValR G Hb I' H v d
  | .im .non, _, r => by cases r; exact Rep.non
  | .im (.bl _), _, r => by cases r; exact Rep.bl _
  | .im (.int _), _, r => by cases r; exact Rep.int _
  | .im (.str _), _, r => by cases r; exact Rep.str _
theorem Pres.back {G : Glb} {I H I1 I' H' : Hp} (p : Pres I H I1 H) (r : RdS I H) (s : Step G I1 H I' H') : Step G I H I H' := by
  have z : ∀ L, RdL L I H → RdL L I H' := fun L w a u q => s.un L (p.un L w) a u (s.isub a u (p.same a u q))
  exact ⟨Same.refl I, (z _ (RdL.all r)).s, s.keep, s.keepN, fun a q _ => q, s.tabs, z⟩
theorem de_view (i : Nat) {e : Expr} {d : DS} (h : ds[i]? = some d) (ho : d.isOwn = true) (hf : flat s = true) (he : DV X T U e (ds.set i d.fz) s) : DV X T U e ds s :=
  PE.weak he fun σ H Q ⟨I0, H0, I, en, k⟩ => by
    obtain ⟨I', p, e'⟩ := en.freezeAt h ho
    exact ⟨I0, H0, I', e', fun v I2 H2 s2 r2 => k v I H2 (p.back en.sub s2) (flat_rep hf r2)⟩
theorem dt_view (i : Nat) {e : Expr} {d : DS} {b : Bool} (h : ds[i]? = some d) (ho : d.isOwn = true) (he : DT X T U e (ds.set i d.fz) b) : DT X T U e ds b :=
  PT.weak he fun σ H Q ⟨I0, H0, I, en, k⟩ => by
    obtain ⟨I', p, e'⟩ := en.freezeAt h ho
    exact ⟨I0, H0, I', e', fun I2 H2 s2 => k I H2 (p.back en.sub s2)⟩
/-- a new list of scalars -/
def flatD : D → Bool
  | .non => true
  | .bl _ => true
  | .int _ => true
  | .str _ => true
  | _ => false
theorem flatD_reps {G : Glb} {I I' : Hp} : ∀ {vs : List V} {xs : List D}, xs.all flatD = true → Reps G I vs xs → Reps G I' vs xs
  | _, _, _, .nil => .nil
  | _, _ :: _, h, .cons a b => by
    rw [List.all_cons, Bool.and_eq_true] at h
    refine .cons ?_ (flatD_reps h.2 b)
    have h1 := h.1
    cases a with
    | non => exact .non
    | bl b => exact .bl b
    | int b => exact .int b
    | str b => exact .str b
    | ty _ => cases h1
    | lst _ _ => cases h1
    | tup _ _ => cases h1
    | dic _ _ => cases h1
    | ins _ _ => cases h1
    | fn _ _ => cases h1
theorem dv_viewL (i : Nat) {e : Expr} {d : DS} {xs : List D} (h : ds[i]? = some d) (ho : d.isOwn = true) (hf : xs.all flatD = true) (he : DV X T U e (ds.set i d.fz) (.own xs)) : DV X T U e ds (.own xs) :=
  PE.weak he fun σ H Q ⟨I0, H0, I, en, k⟩ => by
    obtain ⟨I', p, e'⟩ := en.freezeAt h ho
    refine ⟨I0, H0, I', e', fun v I2 H2 s2 r2 => k v I H2 (p.back en.sub s2) ?_⟩
    obtain ⟨q, vs, e1, e2, e3, e4, e5⟩ := r2
    exact ⟨q, vs, e1, e2, en.sub.free e2, e4, flatD_reps hf e5⟩
/-! ### lists and dicts of one's own, changed -/
theorem tyL {K : PySem.W.Frag} {H : Hp} {p : Addr} {xs : List V} (h : H p = some (.lst xs)) : tyV K "list" (.ref p) H := .inl ⟨rfl, _, SqL.of h⟩
theorem ownNt {xs : List V} : ∀ u, some (HO.lst xs) = some u → (∀ ps, u ≠ HO.tbl ps) ∧ ∀ φ, u ≠ HO.ext φ := fun u e => by
  cases e
  exact ⟨fun _ z => (nomatch z), fun _ z => (nomatch z)⟩
theorem ownNd {xs : List (Key × V)} : ∀ u, some (HO.dK xs) = some u → (∀ ps, u ≠ HO.tbl ps) ∧ ∀ φ, u ≠ HO.ext φ := fun u e => by
  cases e
  exact ⟨fun _ z => (nomatch z), fun _ z => (nomatch z)⟩
section
variable {e : Expr} {pos : Pos} {d : D} {xs : List D}
theorem EnvR.putL {G : Glb} {I0 H0 I H : Hp} {σ : L2.St} (en : EnvR G U I0 H0 I H σ ds) {i : Nat} {p : Addr} {vs ws : List V} {ys : List D} (h : ds[i]? = some (.own xs)) (e1 : σ[i]? = some (some (.ref p))) (e2 : H p = some (.lst vs)) (e4 : I p = none) (e5 : H0 p = none) (r : Reps G I ws ys) :
    EnvR G U I0 H0 I (upd H p (.lst ws)) σ (ds.set i (.own ys)) ∧ Pres I H I (upd H p (.lst ws)) :=
  ⟨en.mutOwn e1 h rfl rfl e4 e5 (by rw [e2]; exact ownNt) ⟨p, ws, rfl, upd_same, r, e4, e5⟩, Pres.own e4 e2 fun _ _ z => nomatch z⟩
theorem ds_append (i : Nat) {x : Str} {p apos cpos : Pos} (h : ds[i]? = some (.own xs)) (he : DE X T U e ds d) (hl : xs.length < 100000) (k : E.nx (ds.set i (.own (xs ++ [d])))) (hN : X.N[i]? = some x := by rfl) (hv : Vis X.env.scope x := by first | exact Or.inl rfl | exact Or.inr (Or.inl rfl) | exact Or.inr (Or.inr rfl))
    (hd : (x == ("__debug__" : Str)) = false := by decide) (hcd : (x == ("__classdict__" : Str)) = false := by decide) (hb : attributeBase (.Name x p) "append" X.env (eval (.Name x p) X.env) = eval (.Name x p) X.env := by rfl) (ha : ((((backTo cpos (starEach [e] X.env)).all fun x => !x.fst) && (backToKw cpos (keywordEach [] X.env)).all fun x => x.fst.isSome) && decide (([e].length + ([] : List Keyword).length + if ([] : List Keyword).isEmpty = true then 0 else 1) < 30)) = true := by rfl)
    (hln : (apos.endLine == cpos.line) = true := by rfl) (hse : starEach [e] X.env = (false, eval e X.env) :: starEach [] X.env := by rfl) (hsw : swapsWith (.Call (.Attribute (.Name x p) "append" apos) [e] [] cpos) none pos.line X.env = pure false := by rfl) :
    DSt X T W U (.Expr (.Call (.Attribute (.Name x p) "append" apos) [e] [] cpos) pos) ds E :=
  (ps_expr (pe_bm PySem.F.plainAttrs_list PySem.F.slot_list_append PySem.F.type_list_append mt_append (pe_var hN hv hd hcd) (pa_cons he pa_nil hse) hb ha hln hse) hsw).weak fun D σ H ⟨I0, H0, I, en, k1, _⟩ => by
    obtain ⟨q, vs, e1, e2, e3, e4, e5⟩ := en.own h
    refine ⟨_, e1, tyL e2, I0, H0, I, en, fun v I1 H1 s1 r1 => ?_⟩
    have a1 := s1.keep q _ e2 (fun _ z => nomatch z)
    have a2 := s1.fresh q e4 (by rw [e2]; exact fun z => nomatch z)
    refine ⟨q, vs, v, rfl, rfl, a1, by rw [e3.len]; exact Nat.lt_of_lt_of_le hl (by decide), ?_⟩
    obtain ⟨b1, b2⟩ := (en.step s1).putL h e1 a1 a2 e5 ((e3.mono s1.isub).app (.cons r1 .nil))
    exact k1 _ _ ⟨_, I1, b1, s1.pres.trans b2, k⟩
theorem ds_insert (i : Nat) {e' : Expr} {x : Str} {p apos cpos : Pos} {j : Int} (h : ds[i]? = some (.own xs)) (hj : DE X T U e' ds (.int j)) (he : DE X T U e ds d) (hl : xs.length < 100000) (hj0 : 0 ≤ j) (hj1 : j ≤ 100000) (k : E.nx (ds.set i (.own (xs.take j.toNat ++ [d] ++ xs.drop j.toNat)))) (hN : X.N[i]? = some x := by rfl)
    (hv : Vis X.env.scope x := by first | exact Or.inl rfl | exact Or.inr (Or.inl rfl) | exact Or.inr (Or.inr rfl)) (hd : (x == ("__debug__" : Str)) = false := by decide) (hcd : (x == ("__classdict__" : Str)) = false := by decide) (hb : attributeBase (.Name x p) "insert" X.env (eval (.Name x p) X.env) = eval (.Name x p) X.env := by rfl)
    (ha : ((((backTo cpos (starEach [e', e] X.env)).all fun x => !x.fst) && (backToKw cpos (keywordEach [] X.env)).all fun x => x.fst.isSome) && decide (([e', e].length + ([] : List Keyword).length + if ([] : List Keyword).isEmpty = true then 0 else 1) < 30)) = true := by rfl)
    (hln : (apos.endLine == cpos.line) = true := by rfl) (hse : starEach [e', e] X.env = (false, eval e' X.env) :: starEach [e] X.env := by rfl) (hse2 : starEach [e] X.env = (false, eval e X.env) :: starEach [] X.env := by rfl) (hpl : (backTo cpos (starEach [e] X.env)).any (·.1) = false := by rfl)
    (hsw : swapsWith (.Call (.Attribute (.Name x p) "insert" apos) [e', e] [] cpos) none pos.line X.env = pure false := by rfl) :
    DSt X T W U (.Expr (.Call (.Attribute (.Name x p) "insert" apos) [e', e] [] cpos) pos) ds E :=
  (ps_expr (pe_bm PySem.F.plainAttrs_list PySem.F.slot_list_insert PySem.F.type_list_insert mt_insert (pe_var hN hv hd hcd) (pa_cons hj (pa_cons he pa_nil hse2) hse) hb ha hln hse hpl) hsw).weak fun D σ H ⟨I0, H0, I, en, k1, _⟩ => by
    obtain ⟨q, vs, e1, e2, e3, e4, e5⟩ := en.own h
    refine ⟨_, e1, tyL e2, I0, H0, I, en, fun v I1 H1 s1 r1 => ⟨I0, H0, I1, en.step s1, fun w I2 H2 s2 r2 => ?_⟩⟩
    cases r1
    have s3 := s1.trans s2
    have a1 := s3.keep q _ e2 (fun _ z => nomatch z)
    have a2 := s3.fresh q e4 (by rw [e2]; exact fun z => nomatch z)
    refine ⟨q, vs, j, w, rfl, rfl, a1, by rw [e3.len]; exact Nat.lt_of_lt_of_le hl (by decide), hj0, by omega, ?_⟩
    have e3' := e3.mono s3.isub
    obtain ⟨b1, b2⟩ := (en.step s3).putL h e1 a1 a2 e5 (((e3'.take j.toNat).app (.cons r2 .nil)).app (e3'.drop j.toNat))
    exact k1 _ _ ⟨_, I2, b1, s3.pres.trans b2, k⟩
/-- x[k] = e, x a list of one's own -/
theorem ds_setL (i : Nat) {eo ei : Expr} {p : Pos} {j : Int} {n : Nat} (h : ds[i]? = some (.own xs)) (hg : PG X (.Subscript eo ei p) (gSub (tVar i) (eV (gx X T) U ds (.im (.int j))) rSetL)) (he : DE X T U e ds d) (hj : ixN xs.length j = some n) (k : E.nx (ds.set i (.own (xs.set n d))))
    (hs : swapsWithSole [.Subscript eo ei p] e pos.line X.env = pure false := by rfl) (hw : swappedStores [.Subscript eo ei p] e X.env = pure none := by rfl) : DSt X T W U (.Assign [.Subscript eo ei p] e pos) ds E :=
  (ps_asg he hg hs hw).weak fun D σ H ⟨I0, H0, I, en, k1, _⟩ => by
    refine ⟨I0, H0, I, en, fun v I1 H1 s1 r1 => ?_⟩
    have en1 := en.step s1
    obtain ⟨q, vs, e1, e2, e3, e4, e5⟩ := en1.own h
    refine ⟨_, e1, I0, H0, I1, en1, fun w I2 H2 s2 r2 => ?_⟩
    cases r2
    have a1 := s2.keep q _ e2 (fun _ z => nomatch z)
    have a2 := s2.fresh q e4 (by rw [e2]; exact fun z => nomatch z)
    refine ⟨q, vs, j, n, rfl, rfl, a1, by rw [e3.len]; exact hj, ?_⟩
    obtain ⟨b1, b2⟩ := (en1.step s2).putL h e1 a1 a2 e5 ((e3.mono s2.isub).set (Rep.mono s2.isub r1) n)
    exact k1 _ _ ⟨_, I2, b1, (s1.trans s2).pres.trans b2, k⟩
/-- x += e, ints -/
theorem ds_augI (i : Nat) {x : Str} {pos' : Pos} {a b : Int} (h : ds[i]? = some (.im (.int a))) (he : DE X T U e ds (.int b)) (k : E.nx (ds.set i (.im (.int (a + b))))) (hN : X.N.Nodup) (hi : X.N[i]? = some x := by rfl) (hx : Loc X.env.scope x := by first | exact Or.inl rfl | exact Or.inr rfl)
    (hf : X.fn x = true ∨ X.env.scope.names.lookup x = some .local := by first | exact .inl rfl | exact .inr rfl | assumption) : DSt X T W U (.AugAssign (.Name x pos') .Add e pos) ds E :=
  (ps_aug hN hi hx he ip_add hf).weak fun D σ H ⟨I0, H0, I, en, k1, _⟩ => by
    obtain ⟨v, e1, r⟩ := en.im h
    cases r
    refine ⟨_, e1, I0, H0, I, en, fun w I1 H1 s1 r1 => ?_⟩
    cases r1
    exact ⟨a, b, rfl, rfl, k1 _ H1 ⟨_, I1, (en.step s1).setIm i (.int _), s1.pres, k⟩⟩
end
/-! ### targets -/
theorem dg_name (i : Nat) {x : Str} {pos : Pos} {d : D} (hN : X.N.Nodup) (hi : X.N[i]? = some x := by rfl) (hx : Loc X.env.scope x := by first | exact Or.inl rfl | exact Or.inr rfl) (hf : X.fn x = true ∨ X.env.scope.names.lookup x = some .local := by first | exact .inl rfl | exact .inr rfl | assumption) :
    DG X T U (.Name x pos) ds d (ds.set i (.im d)) [i] := by
  have h := pg_name (pos := pos) hN hi hx hf
  exact ⟨fun pins s σ H v u Q I r ⟨I0, H0, I1, en, rp, k⟩ => h.run pins s σ H v u Q I r (k _ (en.setIm i rp) ⟨List.length_set, fun j hj => List.getElem?_set_ne fun z => hj (by rw [z]; exact List.mem_singleton_self _)⟩)⟩
end
end
end Lp

/-! The judgements over data: loops, walked things, defs and their calls. -/
namespace Lp
open PySem PySem.Spec PyProof.Rows L2
section
variable {X : Cx} {T : List NdefX.NTab} {W : WX} {U : Bool} {ds : List DS} {s : DS} {E : DEn}
/-! ### tuples as targets -/
theorem dgs_nil : DGs X T U [] ds [] ds [] := by
  have h : PGs X [] gNil := pgs_nil
  exact ⟨fun pins s σ H vs us Q I r ⟨I0, H0, I1, en, rp, k⟩ => h.run pins s σ H vs us Q I r ⟨by cases rp; rfl, k σ en ⟨rfl, fun _ _ => rfl⟩⟩⟩
theorem dgs_cons {e : Expr} {es : List Expr} {d : D} {xs : List D} {ds1 ds2 : List DS} {js js' : List Nat} (h1 : DG X T U e ds d ds1 js) (h2 : DGs X T U es ds1 xs ds2 js')
    (hs : (assignEach (e :: es) X.env).map (·.2) = assign e X.env :: (assignEach es X.env).map (·.2) := by rfl) : DGs X T U (e :: es) ds (d :: xs) ds2 (js ++ js') :=
  ⟨fun pins s σ H vs us Q I r ⟨I0, H0, I1, en, rp, k⟩ => (pgs_cons h1 h2 hs).run pins s σ H vs us Q I r (by
    cases rp with
    | cons a b => exact ⟨_, _, rfl, I0, H0, I1, en, a, fun σ' en' b1 => ⟨I0, H0, I1, en', b, fun σ2 e2 b2 => k σ2 e2 ⟨b2.1.trans b1.1, fun i hi => (b2.2 i fun z => hi (List.mem_append_right _ z)).trans (b1.2 i fun z => hi (List.mem_append_left _ z))⟩⟩⟩)⟩
theorem dg_tup {es : List Expr} {n : Nat} {pos : Pos} {xs : List D} {ds' : List DS} {js : List Nat} (h : DGs X T U es ds xs ds' js) (hc : X.calm = true := by rfl) (hn : (assignEach es X.env).length = xs.length := by rfl) (hst : (assignEach es X.env).findIdx? (·.1) = none := by rfl) : DG X T U (.Tuple es n pos) ds (.tup xs) ds' js :=
  ⟨fun pins s σ H v u Q I r ⟨I0, H0, I1, en, rp, k⟩ => (pg_tup hc h hn hst).run pins s σ H v u Q I r (by
    cases rp with
    | tup a b => exact ⟨_, _, rfl, SqT.of (en.sub.tup a), b.len, I0, H0, I1, en, b, k⟩)⟩
/-! ### walked things -/
theorem goes_list {G : Glb} {p : Addr} {vs : List V} {xs : List D} {I H : Hp} (hp : I p = some (.lst vs)) (r : Reps G I vs xs) : Goes G (Itl G.K p) I H xs := fun I1 H1 ps rd i => by
  have h1 : SqL G.K H1 p vs := SqL.of (rd.lst (ps.same _ _ hp))
  refine ⟨fun hi => ⟨vs, h1, by rw [r.len]; exact hi⟩, fun d hd => ?_⟩
  obtain ⟨v, hv, rv⟩ := r.get' hd
  refine ⟨⟨vs, v, h1, hv⟩, fun x H2 ⟨e, f⟩ => ?_⟩
  subst e
  have e2 := f vs h1
  rw [hv] at e2
  cases e2
  exact ⟨I1, Step.refl rd, rv.mono ps.same⟩
theorem di_list {tg iter : Expr} {xs : List D} (h : DE X T U iter ds (.lst xs)) : DI X T U tg iter ds xs := by
  have q := pi_list (tg := tg) h
  refine ⟨fun pins s σ H R I ⟨I0, H0, I1, en, k⟩ => q.run pins s σ H R I ⟨I0, H0, I1, en, fun v I2 H2 s2 r2 => ?_⟩⟩
  cases r2 with
  | lst a b => exact ⟨_, rfl, ⟨_, SqL.of (s2.sub.lst a)⟩, k _ I2 H2 s2 (goes_list a b)⟩
theorem goes_tup {G : Glb} {p : Addr} {vs : List V} {xs : List D} {I H : Hp} (hp : I p = some (.tup vs)) (r : Reps G I vs xs) : Goes G (Itt G.K p) I H xs := fun I1 H1 ps rd i => by
  have h1 : SqT G.K H1 p vs := SqT.of (rd.tup (ps.same _ _ hp))
  refine ⟨fun hi => ⟨vs, h1, by rw [r.len]; exact hi⟩, fun d hd => ?_⟩
  obtain ⟨v, hv, rv⟩ := r.get' hd
  refine ⟨⟨vs, v, h1, hv⟩, fun x H2 ⟨e, f⟩ => ?_⟩
  subst e
  have e2 := f vs h1
  rw [hv] at e2
  cases e2
  exact ⟨I1, Step.refl rd, rv.mono ps.same⟩
theorem di_tup {tg iter : Expr} {xs : List D} (h : DE X T U iter ds (.tup xs)) : DI X T U tg iter ds xs := by
  have q := pi_tup (tg := tg) h
  refine ⟨fun pins s σ H R I ⟨I0, H0, I1, en, k⟩ => q.run pins s σ H R I ⟨I0, H0, I1, en, fun v I2 H2 s2 r2 => ?_⟩⟩
  cases r2 with
  | tup a b => exact ⟨_, rfl, ⟨_, SqT.of (s2.sub.tup a)⟩, k _ I2 H2 s2 (goes_tup a b)⟩
abbrev rngD (lo : Int) (n : Nat) : List D := (List.range n).map fun i : Nat => D.int (lo + (i : Int))
theorem rng_get {n i a : Nat} (h : (List.range n)[i]? = some a) : i < n ∧ a = i := by
  obtain ⟨h1, h2⟩ := List.getElem?_eq_some_iff.mp h
  rw [List.length_range] at h1
  rw [List.getElem_range] at h2
  exact ⟨h1, h2.symm⟩
theorem rngD_len (lo : Int) (n : Nat) : (rngD lo n).length = n := by rw [List.length_map, List.length_range]
theorem rngD_get {lo : Int} {n i : Nat} {d : D} (h : (rngD lo n)[i]? = some d) : i < n ∧ d = .int (lo + (i : Int)) := by
  rw [List.getElem?_map] at h
  cases e : (List.range n)[i]? with
  | none => rw [e] at h; cases h
  | some j =>
    obtain ⟨h1, h2⟩ := List.getElem?_eq_some_iff.mp e
    rw [e] at h
    rw [List.length_range] at h1
    rw [List.getElem_range] at h2
    subst h2
    exact ⟨h1, (Option.some.inj h).symm⟩
theorem goes_rng {G : Glb} {lo : Int} {n : Nat} {I H : Hp} : Goes G (Itr lo n) I H (rngD lo n) := fun I1 H1 ps rd i => by
  refine ⟨fun hi => by rw [rngD_len] at hi; exact hi, fun d hd => ?_⟩
  obtain ⟨h1, rfl⟩ := rngD_get hd
  refine ⟨h1, fun x H2 ⟨e, f⟩ => ?_⟩
  subst e f
  exact ⟨I1, Step.refl rd, .int _⟩
theorem di_rng1 {tg a : Expr} {p pos : Pos} {n : Int} (h : DE X T U a ds (.int n)) (hg : Gl X "range") (hm : X.mg "range" = none) (hn : -100000 ≤ n) (hn2 : n ≤ 100000) (he : starEach [a] X.env = [(false, eval a X.env)] := by rfl) : DI X T U tg (.Call (.Name "range" p) [a] [] pos) ds (rngD 0 n.toNat) := by
  have q := pi_range1 (tg := tg) (p := p) (pos := pos) hg hm (da_cons h da_nil he) he
  refine ⟨fun pins s σ H R I ⟨I0, H0, I1, en, k⟩ => q.run pins s σ H R I ⟨I0, H0, I1, en, fun vs I2 H2 s2 r2 => ?_⟩⟩
  cases r2 with
  | cons a b =>
    cases a
    cases b
    exact ⟨n, rfl, by omega, by omega, k _ I2 H2 s2 goes_rng⟩
theorem di_rng2 {tg a b : Expr} {p pos : Pos} {m n : Int} (h : DE X T U a ds (.int m)) (h2 : DE X T U b ds (.int n)) (hg : Gl X "range") (hm : X.mg "range" = none) (hm1 : -100000 ≤ m) (hm2 : m ≤ 100000) (hn : -100000 ≤ n) (hn2 : n ≤ 100000)
    (he : starEach [a, b] X.env = [(false, eval a X.env), (false, eval b X.env)] := by rfl) (he2 : starEach [b] X.env = [(false, eval b X.env)] := by rfl) : DI X T U tg (.Call (.Name "range" p) [a, b] [] pos) ds (rngD m (n - m).toNat) := by
  have q := pi_range2 (tg := tg) (p := p) (pos := pos) hg hm (da_cons h (da_cons h2 da_nil he2) (by rw [he, he2])) he he2
  refine ⟨fun pins s σ H R I ⟨I0, H0, I1, en, k⟩ => q.run pins s σ H R I ⟨I0, H0, I1, en, fun vs I2 H2 s2 r2 => ?_⟩⟩
  cases r2 with
  | cons a b =>
    cases a
    cases b with
    | cons a b =>
      cases a
      cases b
      exact ⟨m, n, rfl, by omega, k _ I2 H2 s2 goes_rng⟩
def enumD (xs : List D) : List D := (List.range xs.length).map fun i : Nat => D.tup [.int (i : Int), xs.getD i .non]
theorem enumD_len (xs : List D) : (enumD xs).length = xs.length := by unfold enumD; rw [List.length_map, List.length_range]
theorem enumD_get {xs : List D} {i : Nat} {d : D} (h : (enumD xs)[i]? = some d) : ∃ x, xs[i]? = some x ∧ d = .tup [.int (i : Int), x] := by
  unfold enumD at h
  rw [List.getElem?_map] at h
  cases e : (List.range xs.length)[i]? with
  | none => rw [e] at h; cases h
  | some j =>
    obtain ⟨h1, h2⟩ := List.getElem?_eq_some_iff.mp e
    rw [e] at h
    rw [List.length_range] at h1
    rw [List.getElem_range] at h2
    subst h2
    refine ⟨xs[i], List.getElem?_eq_getElem h1, ?_⟩
    rw [← Option.some.inj h]
    show D.tup [.int (i : Int), xs.getD i .non] = _
    rw [List.getD_eq_getElem?_getD, List.getElem?_eq_getElem h1]
    rfl
theorem goes_enum {G : Glb} {p : Addr} {vs : List V} {xs : List D} {I H : Hp} (hp : I p = some (.lst vs)) (r : Reps G I vs xs) : Goes G (Ite G.K p) I H (enumD xs) := fun I1 H1 ps rd i => by
  have h1 : SqL G.K H1 p vs := SqL.of (rd.lst (ps.same _ _ hp))
  refine ⟨fun hi => ⟨vs, h1, by rw [r.len]; rw [enumD_len] at hi; exact hi⟩, fun d hd => ?_⟩
  obtain ⟨z, hz, rfl⟩ := enumD_get hd
  obtain ⟨v, hv, rv⟩ := r.get' hz
  refine ⟨⟨vs, v, h1, hv⟩, fun x H2 ⟨t, y, e1, e2, e3, f⟩ => ?_⟩
  have ey := f vs h1
  rw [hv] at ey
  cases ey
  subst e1 e3
  refine ⟨_, Step.new rd e2, Rep.tup upd_same (.cons (.int _) (.cons ?_ .nil))⟩
  exact (rv.mono ps.same).mono (Step.new (G := G) rd e2).isub
theorem di_enum {iter : Expr} {p pos tpos : Pos} {elts : List Expr} {kk : Nat} {xs : List D} (h : DE X T U iter ds (.lst xs)) (hg : Gl X "enumerate") (hm : X.mg "enumerate" = none) (he : starEach [iter] X.env = [(false, eval iter X.env)] := by rfl) :
    DI X T U (.Tuple elts kk tpos) (.Call (.Name "enumerate" p) [iter] [] pos) ds (enumD xs) := by
  have q := pi_enum (elts := elts) (kk := kk) (tpos := tpos) (p := p) (pos := pos) hg hm (da_cons h da_nil he) he
  refine ⟨fun pins s σ H R I ⟨I0, H0, I1, en, k⟩ => q.run pins s σ H R I ⟨I0, H0, I1, en, fun vs I2 H2 s2 r2 => ?_⟩⟩
  cases r2 with
  | cons a b =>
    cases b
    cases a with
    | lst a b => exact ⟨_, _, rfl, SqL.of (s2.sub.lst a), k _ I2 H2 s2 (goes_enum a b)⟩
/-! ### loops -/
/-- Pv i: what holds ahead of the turn i; g: what the target makes of the slots -/
theorem ds_for {α : Type} {tg iter : Expr} {body : List Stmt} {pos : Pos} {xs : List α} {e : α → D} (Pv : Nat → List DS → Prop) (g : α → List DS → List DS) (hi : DI X T U tg iter ds (xs.map e)) {js : List Nat} (hg : ∀ d ∈ xs, ∀ ds1, DG X T U tg ds1 (e d) (g d ds1) js) (h0 : Pv 0 ds)
    (hb : ∀ (i : Nat) (d : α) (ds1 : List DS), xs[i]? = some d → Pv i ds1 → DSs X T W U body (g d ds1) { E with nx := Pv (i + 1), ct := Pv (i + 1), bk := E.nx }) (hd : ∀ ds1, Pv xs.length ds1 → E.nx ds1)
    (hp : PassesOwn (model X.prog X.w) X.A X.env X.xe) (hc : X.calm = true := by rfl) (hs : ∀ x, foldedSetIterable iter X.env x = pure x := by intro _; rfl) : DSt X T W U (.For tg iter body [] pos) ds E := by
  have hG : PG X tg (fun v σ H Q => ∃ d ds1, d ∈ xs ∧ gV (gx X T) U ds1 (e d) (g d ds1) js v σ H Q) := ⟨fun pins s σ H v u Q I r ⟨d, ds1, m, q⟩ => (hg d m ds1).run pins s σ H v u Q I r q⟩
  have hB : PSs X body (fun D σ H => ∃ i d ds1, xs[i]? = some d ∧ Pv i ds1 ∧ sV (gx X T) W U (g d ds1) { E with nx := Pv (i + 1), ct := Pv (i + 1), bk := E.nx } D σ H) := ⟨fun pins s σ H D I ⟨i, d, ds1, h1, h2, q⟩ => (hb i d ds1 h1 h2).run pins s σ H D I q⟩
  refine (ps_for hp hc hi hG hB hs).weak fun D σ H ⟨I0, H0, I, en, k1, k2, k3, k4, k5⟩ => ⟨I0, H0, I, en, fun J I1 H1 s1 go => ?_⟩
  refine ⟨fun i m σ' H' => m = xs.length - i ∧ i ≤ xs.length ∧ ∃ ds1 I', EnvR (gx X T) U I0 H0 I' H' σ' ds1 ∧ Pres I1 H1 I' H' ∧ Pv i ds1, ⟨_, rfl, Nat.zero_le _, ds, I1, en.step s1, Pres.refl _ _, h0⟩, ?_⟩
  rintro i m σ' H' ⟨rfl, hi, ds1, I', en', ps, hv⟩
  obtain ⟨g1, g2⟩ := go I' H' ps en'.sub i
  by_cases hlt : i < xs.length
  · refine .inr ?_
    obtain ⟨a, b⟩ := g2 (e xs[i]) (by rw [List.getElem?_map, List.getElem?_eq_getElem hlt]; rfl)
    refine ⟨a, fun σ2 H2 => ∃ ds2 I2, EnvR (gx X T) U I0 H0 I2 H2 σ2 ds2 ∧ Pres I1 H1 I2 H2 ∧ Pv (i + 1) ds2, fun σ2 H2 ⟨ds2, I2, e2, p2, v2⟩ => ⟨xs.length - (i + 1), by omega, rfl, hlt, ds2, I2, e2, p2, v2⟩, fun x H2 y => ?_⟩
    obtain ⟨I2, s2, r2⟩ := b x H2 y
    refine ⟨xs[i], ds1, List.getElem_mem hlt, I0, H0, I2, en'.step s2, r2, fun σ3 e3 _ => ?_⟩
    have pp : Pres I1 H1 I2 H2 := ps.trans s2.pres
    refine ⟨i, xs[i], ds1, List.getElem?_eq_getElem hlt, hv, I0, H0, I2, e3, ?_, k2, ?_, ?_, fun C fs d s h n => k5 C fs d s h (n.pre (s1.pres.trans pp))⟩
    · rintro σ4 H4 ⟨ds4, I4, e4, p4, v4⟩
      exact ⟨ds4, I4, e4, pp.trans p4, v4⟩
    · rintro σ4 H4 ⟨ds4, I4, e4, p4, v4⟩
      exact k1 σ4 H4 ⟨ds4, I4, e4, (s1.pres.trans pp).trans p4, v4⟩
    · rintro σ4 H4 ⟨ds4, I4, e4, p4, v4⟩
      exact ⟨ds4, I4, e4, pp.trans p4, v4⟩
  · have e : i = xs.length := by omega
    subst e
    exact .inl ⟨g1 (by rw [List.length_map]; exact Nat.le_refl _), k1 σ' H' ⟨ds1, I', en', s1.pres.trans ps, hd ds1 hv⟩⟩
theorem ds_while {c : Expr} {body : List Stmt} {pos : Pos} (Pv : Nat → List DS → Prop) (m0 : Nat) (h0 : Pv m0 ds)
    (hb : ∀ m ds1, Pv m ds1 → ∃ b, DT X T U c ds1 b ∧ (b = true → DSs X T W U body ds1 { E with nx := fun ds2 => ∃ m', m' < m ∧ Pv m' ds2, ct := fun ds2 => ∃ m', m' < m ∧ Pv m' ds2, bk := E.nx }) ∧ (b = false → E.nx ds1))
    (hp : PassesOwn (model X.prog X.w) X.A X.env X.xe) : DSt X T W U (.While c body [] pos) ds E := by
  have hC : PT X c (fun σ H Q => ∃ b ds1, DT X T U c ds1 b ∧ tV (gx X T) U ds1 b σ H Q) := ⟨fun pins s σ H Q I ⟨b, ds1, h, q⟩ => h.run pins s σ H Q I q⟩
  have hB : PSs X body (fun D σ H => ∃ m ds1, DSs X T W U body ds1 { E with nx := fun ds2 => ∃ m', m' < m ∧ Pv m' ds2, ct := fun ds2 => ∃ m', m' < m ∧ Pv m' ds2, bk := E.nx } ∧ sV (gx X T) W U ds1 { E with nx := fun ds2 => ∃ m', m' < m ∧ Pv m' ds2, ct := fun ds2 => ∃ m', m' < m ∧ Pv m' ds2, bk := E.nx } D σ H) :=
    ⟨fun pins s σ H D I ⟨m, ds1, h1, q⟩ => h1.run pins s σ H D I q⟩
  refine (ps_while (pos := pos) hp hC hB).weak fun D σ H ⟨I0, H0, I, en, k1, k2, k3, k4, k5⟩ => ?_
  refine ⟨fun m σ' H' => ∃ ds1 I', EnvR (gx X T) U I0 H0 I' H' σ' ds1 ∧ Pres I H I' H' ∧ Pv m ds1, ⟨m0, ds, I, en, Pres.refl _ _, h0⟩, ?_⟩
  rintro m σ' H' ⟨ds1, I', en', ps, hv⟩
  obtain ⟨b, hc, ht, hf⟩ := hb m ds1 hv
  refine ⟨b, ds1, hc, I0, H0, I', en', fun I2 H2 s2 => ?_⟩
  cases b with
  | true =>
    rw [if_pos rfl]
    refine ⟨fun σ3 H3 => ∃ m', m' < m ∧ ∃ ds1 I', EnvR (gx X T) U I0 H0 I' H3 σ3 ds1 ∧ Pres I H I' H3 ∧ Pv m' ds1, fun σ3 H3 q => q, m, ds1, ht rfl, I0, H0, I2, en'.step s2, ?_, k2, ?_, ?_, fun C fs d s h n => k5 C fs d s h (n.pre (ps.trans s2.pres))⟩
    · rintro σ4 H4 ⟨ds4, I4, e4, p4, m', hm, v4⟩
      exact ⟨m', hm, ds4, I4, e4, (ps.trans s2.pres).trans p4, v4⟩
    · rintro σ4 H4 ⟨ds4, I4, e4, p4, v4⟩
      exact k1 σ4 H4 ⟨ds4, I4, e4, (ps.trans s2.pres).trans p4, v4⟩
    · rintro σ4 H4 ⟨ds4, I4, e4, p4, m', hm, v4⟩
      exact ⟨m', hm, ds4, I4, e4, (ps.trans s2.pres).trans p4, v4⟩
  | false =>
    rw [if_neg Bool.false_ne_true]
    exact k1 σ' H2 ⟨ds1, I2, en'.step s2, ps.trans s2.pres, hf rfl⟩
end
/-! ### defs and their calls -/
/-- the def called with data xs gives s, where A tells so; U: it wants every dict free -/
def spD (G : Glb) (U : Bool) (A : List D → DS → Prop) : Sp := fun vs H Q _ => ∃ I xs r, RdS I H ∧ (U = true → Same I H) ∧ NdefX.TabsN G.T H ∧ Reps G I vs xs ∧ A xs r ∧ ∀ v H', RetR G I H v H' r → Q v H'
def startD (n : Nat) (xs : List D) : List DS := xs.map DS.im ++ List.replicate (n - xs.length) DS.no
theorem env_start {G : Glb} {U : Bool} {I H : Hp} {N : List Str} {vs : List V} {xs : List D} (r : RdS I H) (u : U = true → Same I H) (tb : NdefX.TabsN G.T H) (rs : Reps G I vs xs) (hl : xs.length ≤ N.length) : EnvR G U I H I H (L2.start N vs) (startD N.length xs) := by
  have e := rs.len
  refine ⟨Step.refl r, tb, u, ?_, fun i o s h1 h2 => ?_, fun i j p s t h1 h2 h3 h4 o1 o2 => ?_⟩
  · unfold L2.start startD
    rw [List.length_append, List.length_append, List.length_map, List.length_map, List.length_replicate, List.length_replicate, e]
  · unfold L2.start at h1
    unfold startD at h2
    by_cases hi : i < xs.length
    · rw [List.getElem?_append_left (by rw [List.length_map, e]; exact hi), List.getElem?_map] at h1
      rw [List.getElem?_append_left (by rw [List.length_map]; exact hi), List.getElem?_map] at h2
      obtain ⟨v, hv, rv⟩ := rs.get' (List.getElem?_eq_getElem hi)
      rw [hv] at h1
      rw [List.getElem?_eq_getElem hi] at h2
      cases h1
      cases h2
      exact ⟨v, rfl, rv⟩
    · rw [List.getElem?_append_right (by rw [List.length_map]; omega)] at h2
      have z := List.mem_of_getElem? h2
      rw [List.eq_of_mem_replicate z]
      trivial
  · unfold startD at h3
    by_cases hi : i < xs.length
    · rw [List.getElem?_append_left (by rw [List.length_map]; exact hi), List.getElem?_map, List.getElem?_eq_getElem hi] at h3
      cases h3
      cases o1
    · rw [List.getElem?_append_right (by rw [List.length_map]; omega)] at h3
      have z := List.mem_of_getElem? h3
      rw [List.eq_of_mem_replicate z] at o1
      cases o1
theorem RetR.fz {G : Glb} {I0 H0 H' : Hp} {v : V} {s : DS} (h : RetR G I0 H0 v H' s) : RetR G I0 H0 v H' s.fz := by
  obtain ⟨I', st, r⟩ := h
  obtain ⟨I2, s2, r2⟩ := r.fz st
  exact ⟨I2, s2, r2⟩
abbrev W0 : WX := fun _ _ _ _ => False
/-- a def that lets no error out, by data -/
theorem okD {G : Glb} {U : Bool} {x qual : Str} {params : Arguments} {body : List Stmt} {scope : Scope} {f : Addr} {fd : FuncData} {N ps : List Str} {k : Nat} {A : List D → DS → Prop} (F : FunD G.K x qual params body scope [] [] f fd) (S : FnScope N ps scope)
    (hA : ∀ xs r, A xs r → xs.length = ps.length)
    (hb : ∀ (cdv : Value) (Ar : Around) (outer : List Env) (s : Shared) (H : Hp) (E : XK), Room k (Ar.deeper (envOfC qual scope s.heap.objs.size f cdv)) → ∀ xs r, A xs r →
      DSs (cxOf CX0 G.P G.w G.K G.mg G.base N qual scope f cdv Ar outer s H E).nox G.T W0 U body (startD N.length xs) { nx := fun _ => r = .im .non, rt := fun t => t = r ∨ t.fz = r }) :
    FnOk G.P G.w G.K G.mg G.base CX0 (k + 1) f fd ps (spD G U A) := by
  refine F.ok S (fun vs H Q E ⟨I, xs, r, _, _, _, rs, hAx, _⟩ => by rw [rs.len]; exact hA xs r hAx) (fun cdv Ar outer s H vs Q E hr ⟨I, xs, r, rd, un, tb, rs, hAx, k⟩ => ?_)
  have h := hb cdv Ar outer s H E hr xs r hAx
  have hl : xs.length ≤ N.length := by
    have e1 := S.pre
    have e2 := hA xs r hAx
    rw [e2, ← e1, List.length_take]
    exact Nat.min_le_right _ _
  refine ⟨_, PSs.nox h, I, H, I, env_start (G := G) rd un tb rs hl, ?_, ?_, ?_, ?_, ?_⟩
  · rintro σ' H' ⟨ds', I', e', p', q⟩
    refine k .non H' ?_
    rw [q]
    exact ⟨I', e'.st, Rep.non⟩
  · rintro v H' t hr ht
    rcases ht with rfl | rfl
    · exact k v H' hr
    · exact k v H' hr.fz
  · rintro _ _ ⟨_, _, _, _, q⟩
    exact q
  · rintro _ _ ⟨_, _, _, _, q⟩
    exact q
  · rintro _ _ _ _ _ ⟨_, _, _, _, _, q⟩
    exact q
section
variable {X : Cx} {T : List NdefX.NTab} {W : WX} {U U' : Bool} {ds : List DS} {s : DS} {E : DEn}
/-- f(..) -/
theorem dv_call {A : List D → DS → Prop} {k : Nat} {f : Addr} {fd : FuncData} {ps : List Str} {x : Str} {p pos : Pos} {e : Expr} {es : List Expr} {xs : List D} (F : FnOk X.prog X.w X.K X.mg X.base CX0 k f fd ps (spD (gx X T) U' A)) (hU : U' = true → U = true) (hr : Room k X.A) (hg : Gl X x)
    (hm : X.mg x = some (.ref f)) (hk : PySem.W.keepIn X.K (.ref f) = true) (hb : L2.Binds X.K fd ps []) (ha : DA X T U (e :: es) ds xs) (hA : A xs s) (hdb : (x == ("__debug__" : Str)) = false := by decide) (he : starEach (e :: es) X.env = (false, eval e X.env) :: starEach es X.env := by rfl)
    (hpl : (backTo pos (starEach es X.env)).any (·.1) = false := by rfl) : DV X T U (.Call (.Name x p) (e :: es) [] pos) ds s :=
  (pe_call F hr hg hm hk hb .nil (E := E0) pass0 ha hdb he hpl).weak fun σ H Q ⟨I0, H0, I, en, k⟩ => ⟨I0, H0, I, en, fun vs I1 H1 s1 r1 => by
    show spD (gx X T) U' A (vs ++ []) H1 Q E0
    rw [List.append_nil]
    exact ⟨I1, xs, s, s1.sub, fun u => (en.step s1).un (hU u), (en.step s1).tb, r1, hA, fun v H' ⟨I2, s2, r2⟩ => k v I2 H' (s1.trans s2) (r2.back s1)⟩⟩
theorem dv_call0 {A : List D → DS → Prop} {k : Nat} {f : Addr} {fd : FuncData} {ps : List Str} {x : Str} {p pos : Pos} (F : FnOk X.prog X.w X.K X.mg X.base CX0 k f fd ps (spD (gx X T) U' A)) (hU : U' = true → U = true) (hr : Room k X.A) (hg : Gl X x)
    (hm : X.mg x = some (.ref f)) (hk : PySem.W.keepIn X.K (.ref f) = true) (hb : L2.Binds X.K fd ps []) (hA : A [] s) (hdb : (x == ("__debug__" : Str)) = false := by decide) : DV X T U (.Call (.Name x p) [] [] pos) ds s :=
  (pe_call0 F hr hg hm hk hb .nil (E := E0) pass0 hdb).weak fun σ H Q ⟨I0, H0, I, en, k⟩ =>
    ⟨I, [], s, en.sub, fun u => en.un (hU u), en.tb, .nil, hA, fun v H' ⟨I2, s2, r2⟩ => k v I2 H' s2 r2⟩
end
end Lp

/-! The judgements over data: comprehensions. -/
namespace Lp
open PySem PySem.Spec PyProof.Rows L2
def wipeD (ds : List DS) : List Nat → List DS
  | [] => ds
  | v :: vs => (wipeD ds vs).set v .no
theorem env_wipe {G : Glb} {U : Bool} {I0 H0 I H : Hp} {σ : L2.St} {ds : List DS} (e : EnvR G U I0 H0 I H σ ds) : ∀ vs : List Nat, EnvR G U I0 H0 I H (wipe σ vs) (wipeD ds vs)
  | [] => e
  | v :: vs => (env_wipe e vs).setNo none v
theorem wipe_get {σ : L2.St} : ∀ {vs : List Nat} {i : Nat}, (wipe σ vs)[i]? = if i ∈ vs ∧ i < σ.length then some none else σ[i]?
  | [], i => by
    rw [if_neg (fun z => by cases z.1)]
    rfl
  | v :: vs, i => by
    show ((wipe σ vs).set v none)[i]? = _
    by_cases h : v = i
    · subst h
      by_cases hl : v < σ.length
      · rw [List.getElem?_set_self (by rw [wipe_length]; exact hl), if_pos ⟨List.mem_cons_self, hl⟩]
      · rw [if_neg fun z => hl z.2, List.getElem?_eq_none_iff.mpr (by rw [List.length_set, wipe_length]; omega), List.getElem?_eq_none_iff.mpr (by omega)]
    · rw [List.getElem?_set_ne h, wipe_get]
      have e : (i ∈ v :: vs) = (i ∈ vs) := by
        rw [List.mem_cons]
        simp [Ne.symm h]
      simp only [e]
theorem wipe_but {σ σ2 : L2.St} {vs js : List Nat} (b : ButAt js (wipe σ vs) σ2) (h : ∀ j ∈ js, j ∈ vs) : wipe σ2 vs = wipe σ vs := by
  apply List.ext_getElem?
  intro i
  have hl : σ2.length = σ.length := by rw [b.1, wipe_length]
  rw [wipe_get, wipe_get, hl]
  by_cases hi : i ∈ vs ∧ i < σ.length
  · rw [if_pos hi, if_pos hi]
  · rw [if_neg hi, if_neg hi]
    by_cases hj : i ∈ js
    · have hn : ¬ i < σ.length := fun z => hi ⟨h i hj, z⟩
      rw [List.getElem?_eq_none_iff.mpr (by omega), List.getElem?_eq_none_iff.mpr (by omega)]
    · rw [b.2 i hj, wipe_get, if_neg hi]
section
variable {G : Glb} {U : Bool} {ds : List DS}
/-- the turns of a comprehension: f tells what an item gives, if any -/
theorem lc_run {α : Type} {ev : α → D} {wi : TI} {g : TG} {tt : TT} {te : TE} {vs js : List Nat} {xs : List α} {gd : α → List DS} {f : α → Option D} {σ : L2.St} {H : Hp} {Q : VK} (hl : xs.length ≤ 100000)
    (hi : ∀ σ H R, iV G U ds (xs.map ev) σ H R → wi σ H R) (hg : ∀ d ∈ xs, ∀ v σ H Q, gV G U (wipeD ds vs) (ev d) (gd d) js v σ H Q → g v σ H Q) (hj : ∀ j ∈ js, j ∈ vs) (ht : ∀ d ∈ xs, ∀ σ H Q, tV G U (gd d) (f d).isSome σ H Q → tt σ H Q)
    (he : ∀ d ∈ xs, ∀ y, f d = some y → ∀ σ H Q, eV G U (gd d) (.im y) σ H Q → te σ H Q) (h : eV G U ds (.own (xs.filterMap f)) σ H Q) : tLc wi g tt te vs σ H Q := by
  obtain ⟨I0, H0, I, en, k⟩ := h
  refine hi σ H _ ⟨I0, H0, I, en, fun J I1 H1 s1 go Dl hD => ?_⟩
  have en1 := en.step s1
  refine ⟨fun i m H' => m = xs.length - i ∧ i ≤ xs.length ∧ ∃ I' ws, Step G I1 H1 I' H' ∧ H' Dl = some (.lst ws) ∧ I' Dl = none ∧ Reps G I' ws ((xs.take i).filterMap f), ⟨_, rfl, Nat.zero_le _, I1, [], Step.newOwn s1.sub hD, upd_same, s1.sub.free hD, .nil⟩, ?_⟩
  rintro i m H' ⟨rfl, hil, I', ws, st, hDl, iDl, rs⟩
  obtain ⟨g1, g2⟩ := go I' H' st.pres st.sub i
  by_cases hlt : i < xs.length
  · refine .inr ?_
    obtain ⟨a, b⟩ := g2 (ev xs[i]) (by rw [List.getElem?_map, List.getElem?_eq_getElem hlt]; rfl)
    refine ⟨a, fun H2 => i + 1 ≤ xs.length ∧ ∃ I' ws, Step G I1 H1 I' H2 ∧ H2 Dl = some (.lst ws) ∧ I' Dl = none ∧ Reps G I' ws ((xs.take (i + 1)).filterMap f), fun H2 ⟨q1, q2⟩ => ⟨xs.length - (i + 1), by omega, rfl, q1, q2⟩, fun x H2 y => ?_⟩
    obtain ⟨I2, s2, r2⟩ := b x H2 y
    have hm : xs[i] ∈ xs := List.getElem_mem hlt
    have et : xs.take (i + 1) = xs.take i ++ [xs[i]] := by rw [List.take_succ, List.getElem?_eq_getElem hlt]; rfl
    have en2 := (en1.step (st.trans s2))
    refine hg xs[i] hm x (wipe σ vs) H2 _ ⟨I0, H0, I2, env_wipe en2 vs, r2, fun σ2 e2 bt => ⟨wipe_but bt hj, ?_⟩⟩
    refine ht xs[i] hm σ2 H2 _ ⟨I0, H0, I2, e2, fun I3 H3 s3 => ?_⟩
    have s23 := s2.trans s3
    have k1 : H3 Dl = some (.lst ws) := s23.keep Dl _ hDl fun _ z => nomatch z
    have k2 : I3 Dl = none := s23.fresh Dl iDl (by rw [hDl]; exact fun z => nomatch z)
    cases hf : f xs[i] with
    | none =>
      show if false = true then _ else _
      rw [if_neg Bool.false_ne_true]
      refine ⟨hlt, I3, ws, st.trans s23, k1, k2, ?_⟩
      rw [et, List.filterMap_append, List.filterMap_cons, hf, List.filterMap_nil, List.append_nil]
      exact rs.mono s23.isub
    | some y =>
      show if true = true then _ else _
      rw [if_pos rfl]
      refine he xs[i] hm y hf σ2 H3 _ ⟨I0, H0, I3, e2.step s3, fun v I4 H4 s4 r4 => ?_⟩
      have s24 := s23.trans s4
      have k3 : H4 Dl = some (.lst ws) := s4.keep Dl _ k1 fun _ z => nomatch z
      have k4 : I4 Dl = none := s4.fresh Dl k2 (by rw [k1]; exact fun z => nomatch z)
      refine ⟨ws, k3, ?_, hlt, I4, ws ++ [v], (st.trans s24).mutOwn k4 hD (by rw [k3]; exact ownNt), upd_same, k4, ?_⟩
      · rw [rs.len]
        have z := List.length_filterMap_le f (xs.take i)
        rw [List.length_take] at z
        exact Nat.lt_of_le_of_lt (Nat.le_trans z (Nat.min_le_left _ _)) (Nat.lt_of_lt_of_le hlt (Nat.le_trans hl (by decide)))
      · rw [et, List.filterMap_append, List.filterMap_cons, hf, List.filterMap_nil]
        exact (rs.mono s24.isub).app (.cons r4 .nil)
  · have e : i = xs.length := by omega
    subst e
    refine .inl ⟨g1 (by rw [List.length_map]; exact Nat.le_refl _), ?_⟩
    rw [List.take_length] at rs
    exact k _ I' H' (s1.trans st) ⟨Dl, ws, rfl, s1.free hD, iDl, hDl, rs⟩
end
section
variable {X : Cx} {T : List NdefX.NTab} {W : WX} {U : Bool} {ds : List DS} {s : DS} {E : DEn}
abbrev DTs (X : Cx) (T : List NdefX.NTab) (U : Bool) (ifs : List Expr) (ds : List DS) (b : Bool) : Prop := PTs X ifs (tV (gx X T) U ds b)
theorem dts_nil : DTs X T U [] ds true := ⟨fun pins s σ H Q I ⟨I0, H0, I1, en, k⟩ => pts_nil.run pins s σ H Q I (k I1 H (Step.refl en.sub))⟩
theorem dts_one {c : Expr} {b : Bool} (h : DT X T U c ds b) : DTs X T U [c] ds b := pts_one h
/-- the block of a comprehension -/
abbrev blkX (X : Cx) (scope : Scope) (s : Shared) (H : Hp) (C : Addr) (cl : List (Str × Addr)) (fp : List Addr) : Cx := X.blk s H scope (compEnvC scope cl C X.env) fp
section
variable {α : Type} {ev : α → D} {elt tg iter : Expr} {ifs : List Expr} {scope : Scope} {own : List (Str × Nat)} {pos : Pos} {xs : List α} {js : List Nat}
theorem dv_lc (gd : α → List DS) (f : α → Option D) (hi : DI X T U tg iter ds (xs.map ev)) (hl : xs.length ≤ 100000) (hN : X.N.Nodup) (ok : BlkOk X.N X.env.scope scope own) (hg : ∀ s H C cl fp, ∀ d ∈ xs, DG (blkX X scope s H C cl fp) T U tg (wipeD ds (own.map (·.2))) (ev d) (gd d) js) (hj : ∀ j ∈ js, j ∈ own.map (·.2))
    (ht : ∀ s H C cl fp, ∀ d ∈ xs, DTs (blkX X scope s H C cl fp) T U ifs (gd d) (f d).isSome) (he : ∀ s H C cl fp, ∀ d ∈ xs, ∀ y, f d = some y → DE (blkX X scope s H C cl fp) T U elt (gd d) y) (hc : X.calm = true := by rfl) (hs : ∀ x, foldedSetIterable iter X.env x = pure x := by intro _; rfl) :
    DV X T U (.ListComp elt [⟨tg, iter, ifs, 0⟩] scope pos) ds (.own (xs.filterMap f)) := by
  refine (pe_lc (own := own) (g := fun v σ H Q => ∃ d, d ∈ xs ∧ gV (gx X T) U (wipeD ds (own.map (·.2))) (ev d) (gd d) js v σ H Q) (tt := fun σ H Q => ∃ d, d ∈ xs ∧ tV (gx X T) U (gd d) (f d).isSome σ H Q) (te := fun σ H Q => ∃ d y, d ∈ xs ∧ f d = some y ∧ eV (gx X T) U (gd d) (.im y) σ H Q)
    hc hN hi ok (fun s H C cl fp => ⟨fun pins s' σ H' v u Q I r ⟨d, m, q⟩ => (hg s H C cl fp d m).run pins s' σ H' v u Q I r q⟩) (fun s H C cl fp => ⟨fun pins s' σ H' Q I ⟨d, m, q⟩ => (ht s H C cl fp d m).run pins s' σ H' Q I q⟩) (fun s H C cl fp => ⟨fun pins s' σ H' Q I ⟨d, y, m, e, q⟩ => (he s H C cl fp d m y e).run pins s' σ H' Q I q⟩) hs).weak fun σ H Q h => ?_
  exact lc_run hl (fun _ _ _ h => h) (fun d m v σ H Q h => ⟨d, m, h⟩) hj (fun d m σ H Q h => ⟨d, m, h⟩) (fun d m y e σ H Q h => ⟨d, y, m, e, h⟩) h
/-- y = [..] -/
theorem ds_setLc (i : Nat) {y : Str} {py spos : Pos} (gd : α → List DS) (f : α → Option D) (hi : DI X T U tg iter ds (xs.map ev)) (hl : xs.length ≤ 100000) (hN : X.N.Nodup) (ok : BlkOk X.N X.env.scope scope own) (hg : ∀ s H C cl fp, ∀ d ∈ xs, DG (blkX X scope s H C cl fp) T U tg (wipeD ds (own.map (·.2))) (ev d) (gd d) js) (hj : ∀ j ∈ js, j ∈ own.map (·.2))
    (ht : ∀ s H C cl fp, ∀ d ∈ xs, DTs (blkX X scope s H C cl fp) T U ifs (gd d) (f d).isSome) (he : ∀ s H C cl fp, ∀ d ∈ xs, ∀ y, f d = some y → DE (blkX X scope s H C cl fp) T U elt (gd d) y) (k : E.nx (ds.set i (.own (xs.filterMap f)))) (hsw : swapsWith (.ListComp elt [⟨tg, iter, ifs, 0⟩] scope pos) (some (.Name y py)) spos.line X.env = pure true)
    (hy : X.N[i]? = some y := by rfl) (hyl : X.env.scope.names.lookup y = some .local := by rfl) (hc : X.calm = true := by rfl) (hs : ∀ x, foldedSetIterable iter X.env x = pure x := by intro _; rfl) : DSt X T W U (.Assign [.Name y py] (.ListComp elt [⟨tg, iter, ifs, 0⟩] scope pos) spos) ds E := by
  refine (ps_setLc (i := i) (own := own) (g := fun v σ H Q => ∃ d, d ∈ xs ∧ gV (gx X T) U (wipeD ds (own.map (·.2))) (ev d) (gd d) js v σ H Q) (tt := fun σ H Q => ∃ d, d ∈ xs ∧ tV (gx X T) U (gd d) (f d).isSome σ H Q) (te := fun σ H Q => ∃ d y, d ∈ xs ∧ f d = some y ∧ eV (gx X T) U (gd d) (.im y) σ H Q)
    hc hN hy hyl hsw hi ok (fun s H C cl fp => ⟨fun pins s' σ H' v u Q I r ⟨d, m, q⟩ => (hg s H C cl fp d m).run pins s' σ H' v u Q I r q⟩) (fun s H C cl fp => ⟨fun pins s' σ H' Q I ⟨d, m, q⟩ => (ht s H C cl fp d m).run pins s' σ H' Q I q⟩) (fun s H C cl fp => ⟨fun pins s' σ H' Q I ⟨d, y, m, e, q⟩ => (he s H C cl fp d m y e).run pins s' σ H' Q I q⟩) hs).weak fun D σ H ⟨I0, H0, I, en, k1, _⟩ => ?_
  exact lc_run hl (fun _ _ _ h => h) (fun d m v σ H Q h => ⟨d, m, h⟩) hj (fun d m σ H Q h => ⟨d, m, h⟩) (fun d m y e σ H Q h => ⟨d, y, m, e, h⟩) ⟨I0, H0, I, en, fun v I1 H1 s1 r1 => k1 _ H1 ⟨_, I1, en.setV s1 i r1, s1.pres, k⟩⟩
/-- test and element by functions of the item -/
def lcF (p : α → Bool) (h : α → D) (a : α) : Option D := if p a = true then some (h a) else none
theorem lcF_eq {p : α → Bool} {h : α → D} : ∀ l : List α, l.filterMap (lcF p h) = (l.filter p).map h
  | [] => rfl
  | a :: l => by
    rw [List.filterMap_cons, List.filter_cons]
    unfold lcF
    by_cases c : p a = true
    · rw [if_pos c, if_pos c, List.map_cons]
      exact congrArg _ (lcF_eq l)
    · rw [if_neg c, if_neg c]
      exact lcF_eq l
theorem lcF_some {p : α → Bool} {h : α → D} (a : α) : (lcF p h a).isSome = p a := by
  unfold lcF
  cases p a <;> rfl
theorem lcF_is {p : α → Bool} {h : α → D} {a : α} {y : D} (q : lcF p h a = some y) : p a = true ∧ y = h a := by
  unfold lcF at q
  by_cases c : p a = true
  · rw [if_pos c] at q
    exact ⟨c, (Option.some.inj q).symm⟩
  · rw [if_neg c] at q
    cases q
theorem dv_lcP (gd : α → List DS) (p : α → Bool) (h : α → D) (hi : DI X T U tg iter ds (xs.map ev)) (hl : xs.length ≤ 100000) (hN : X.N.Nodup) (ok : BlkOk X.N X.env.scope scope own) (hg : ∀ s H C cl fp, ∀ d ∈ xs, DG (blkX X scope s H C cl fp) T U tg (wipeD ds (own.map (·.2))) (ev d) (gd d) js)
    (ht : ∀ s H C cl fp, ∀ d ∈ xs, DTs (blkX X scope s H C cl fp) T U ifs (gd d) (p d)) (he : ∀ s H C cl fp, ∀ d ∈ xs, p d = true → DE (blkX X scope s H C cl fp) T U elt (gd d) (h d)) (hj : ∀ j ∈ js, j ∈ own.map (·.2) := by decide) (hc : X.calm = true := by rfl)
    (hs : ∀ x, foldedSetIterable iter X.env x = pure x := by intro _; rfl) : DV X T U (.ListComp elt [⟨tg, iter, ifs, 0⟩] scope pos) ds (.own ((xs.filter p).map h)) := by
  rw [← lcF_eq]
  exact dv_lc gd (lcF p h) hi hl hN ok hg hj (fun s H C cl fp d hd => by rw [lcF_some]; exact ht s H C cl fp d hd) (fun s H C cl fp d hd y hy => by
    obtain ⟨a, rfl⟩ := lcF_is hy
    exact he s H C cl fp d hd a) hc hs
theorem ds_setLcP (i : Nat) {y : Str} {py spos : Pos} (gd : α → List DS) (p : α → Bool) (h : α → D) (hi : DI X T U tg iter ds (xs.map ev)) (hl : xs.length ≤ 100000) (hN : X.N.Nodup) (ok : BlkOk X.N X.env.scope scope own) (hg : ∀ s H C cl fp, ∀ d ∈ xs, DG (blkX X scope s H C cl fp) T U tg (wipeD ds (own.map (·.2))) (ev d) (gd d) js)
    (ht : ∀ s H C cl fp, ∀ d ∈ xs, DTs (blkX X scope s H C cl fp) T U ifs (gd d) (p d)) (he : ∀ s H C cl fp, ∀ d ∈ xs, p d = true → DE (blkX X scope s H C cl fp) T U elt (gd d) (h d)) (k : E.nx (ds.set i (.own ((xs.filter p).map h))))
    (hsw : swapsWith (.ListComp elt [⟨tg, iter, ifs, 0⟩] scope pos) (some (.Name y py)) spos.line X.env = pure true := by exact sw_true rfl rfl rfl (by decide +kernel)) (hj : ∀ j ∈ js, j ∈ own.map (·.2) := by decide) (hy : X.N[i]? = some y := by rfl) (hyl : X.env.scope.names.lookup y = some .local := by rfl)
    (hc : X.calm = true := by rfl) (hs : ∀ x, foldedSetIterable iter X.env x = pure x := by intro _; rfl) : DSt X T W U (.Assign [.Name y py] (.ListComp elt [⟨tg, iter, ifs, 0⟩] scope pos) spos) ds E := by
  rw [← lcF_eq] at k
  exact ds_setLc i gd (lcF p h) hi hl hN ok hg hj (fun s H C cl fp d hd => by rw [lcF_some]; exact ht s H C cl fp d hd) (fun s H C cl fp d hd y hy => by
    obtain ⟨a, rfl⟩ := lcF_is hy
    exact he s H C cl fp d hd a) k hsw hy hyl hc hs
end
end
end Lp

/-! len(set(xs)) of a list whose items are keys of one kind. -/
namespace SetK
open PySem PySem.Spec PyProof.Rows L2
section
variable {K : Type} [DecidableEq K] [BEq K] [LawfulBEq K]
/-- the unlike ones, in the turn in which they are met -/
def add1 (l : List K) (k : K) : List K := if l.any (· == k) then l else l ++ [k]
def dd (xs : List K) : List K := xs.foldl add1 []
theorem dd_snoc (xs : List K) (k : K) : dd (xs ++ [k]) = add1 (dd xs) k := by
  unfold dd
  rw [List.foldl_append]
  rfl
theorem add1_any (l : List K) (k q : K) : (add1 l k).any (· == q) = (l.any (· == q) || decide (q = k)) := by
  unfold add1
  by_cases h : l.any (· == k) = true
  · rw [if_pos h]
    by_cases e : q = k
    · subst e
      rw [h, decide_eq_true rfl]
      rfl
    · rw [decide_eq_false e, Bool.or_false]
  · rw [if_neg h, List.any_append]
    congr 1
    by_cases e : q = k
    · subst e; simp
    · have e2 : (k == q) = false := by simpa [beq_iff_eq] using (fun z : k = q => e z.symm)
      simp [e2, e]
theorem add1_len (l : List K) (k : K) : (add1 l k).length = if l.any (· == k) then l.length else l.length + 1 := by
  unfold add1
  split <;> simp
theorem dd_le : ∀ xs : List K, (dd xs).length ≤ xs.length := fun xs => by
  have h : ∀ (xs l : List K), (xs.foldl add1 l).length ≤ l.length + xs.length := by
    intro xs
    induction xs with
    | nil => intro l; simp
    | cons x r ih =>
      intro l
      rw [List.foldl_cons]
      have a := ih (add1 l x)
      rw [add1_len] at a
      rw [List.length_cons]
      split at a <;> omega
  have z := h xs []
  simpa [dd] using z
theorem dd_mem (xs : List K) (k : K) : (dd xs).any (· == k) = xs.any (· == k) := by
  have h : ∀ (xs l : List K), (xs.foldl add1 l).any (· == k) = (l.any (· == k) || xs.any (· == k)) := by
    intro xs
    induction xs with
    | nil => intro l; simp
    | cons x r ih =>
      intro l
      rw [List.foldl_cons, ih, add1_any, List.any_cons, Bool.or_assoc]
      congr 2
      by_cases e : k = x
      · subst e; simp
      · have e2 : (x == k) = false := by simpa [beq_iff_eq] using (fun z : x = k => e z.symm)
        simp [e2, e]
  have z := h xs []
  simpa [dd] using z
theorem dd_len_eq : ∀ xs : List K, (dd xs).length = xs.length ↔ xs.Nodup := by
  have h : ∀ (xs l : List K), (xs.foldl add1 l).length ≤ l.length + xs.length ∧ ((xs.foldl add1 l).length = l.length + xs.length ↔ xs.Nodup ∧ ∀ x ∈ xs, l.any (· == x) = false) := by
    intro xs
    induction xs with
    | nil => intro l; simp
    | cons x r ih =>
      intro l
      rw [List.foldl_cons, List.length_cons]
      obtain ⟨a, b⟩ := ih (add1 l x)
      have al := add1_len l x
      by_cases hx : l.any (· == x) = true
      · rw [if_pos hx] at al
        refine ⟨by omega, ⟨fun q => by omega, fun q => ?_⟩⟩
        have z := q.2 x List.mem_cons_self
        rw [hx] at z
        cases z
      · rw [if_neg hx] at al
        refine ⟨by omega, ?_⟩
        have e1 : (r.foldl add1 (add1 l x)).length = l.length + (r.length + 1) ↔ (r.foldl add1 (add1 l x)).length = (add1 l x).length + r.length := by omega
        rw [e1, b, List.nodup_cons]
        constructor
        · rintro ⟨q1, q2⟩
          refine ⟨⟨fun m => ?_, q1⟩, fun y hy => ?_⟩
          · have z := q2 x m
            rw [add1_any] at z
            simp at z
          · rcases List.mem_cons.mp hy with rfl | m
            · exact Bool.eq_false_iff.mpr hx
            · have z := q2 y m
              rw [add1_any, Bool.or_eq_false_iff] at z
              exact z.1
        · rintro ⟨⟨q1, q2⟩, q3⟩
          refine ⟨q2, fun y m => ?_⟩
          rw [add1_any, q3 y (List.mem_cons_of_mem _ m), Bool.false_or]
          exact decide_eq_false fun z => q1 (by rw [← z]; exact m)
  intro xs
  have z := (h xs []).2
  simpa [dd] using z
end
section
variable {prog : Program} {w : World} {A : Around} {R : Result → Shared → Prop} {I : Addr} {fp wr : List Addr} {G : Array GenState → Array GenState → Prop} {n : Nat} {P : Nat → Value → Prop} {St : Nat → Shared → Prop}
  {K : Type} [DecidableEq K] [BEq K] [LawfulBEq K]
theorem loop (knd : PySem.KeyKind prog w K) (W : WalksS prog w A.in1 I fp wr G n P St) (S : Addr) (hSf : S ∉ fp) (xs : List K) (hsz : xs.length = n) (hb : n + 1 < scanBound)
    (hval : ∀ i v, P i v → ∃ k, xs[i]? = some k ∧ knd.is k v = true ∧ v.scannable = true) :
    ∀ (k i : Nat) (s : Shared), n - i = k → i ≤ n → St i s → s.heap.SetOf knd S (fun q => (dd (xs.take i)).any (· == q)) (dd (xs.take i)).length →
      (∀ s', Moved (S :: wr) G s s' → s'.heap.SetOf knd S (fun q => (dd xs).any (· == q)) (dd xs).length → R (.ok (.ret .none)) s') →
      codeAny (model prog w) A (.builtin "set.update.loop" ⟨[.ref S, .ref I], []⟩) R s := by
  have nw : S ∉ wr := fun h => hSf (W.sub _ h)
  have up : ∀ b ∈ wr, b ∈ S :: wr := fun b hb => List.mem_cons_of_mem _ hb
  intro k
  induction k with
  | zero =>
    intro i s hk hi hst hS hR
    obtain rfl : i = n := by omega
    refine codeAny_builtin PyProof.Rows.F.entry_set_update_loop ?_
    rw [Around.under_plainId PyProof.Rows.F.plain_set_update_loop _]
    show wpAny _ A.in1 (pyNext (.ref I) >>= _) _ _ s
    refine wpAny_bind (W.done s _ _ hst fun s' hm => ?_)
    show wpAny _ A.in1 (ret Value.none) _ _ s'
    refine wpAny_pure (hR s' (hm.mono up) ?_)
    rw [← hsz, List.take_length] at hS
    obtain ⟨o, es, ep, t, ho, rest⟩ := hS
    exact ⟨o, es, ep, t, hm.heap S _ nw ho, rest⟩
  | succ k ih =>
    intro i s hk hi hst hS hR
    have hlt : i < n := by omega
    refine codeAny_builtin PyProof.Rows.F.entry_set_update_loop ?_
    rw [Around.under_plainId PyProof.Rows.F.plain_set_update_loop _]
    show wpAny _ A.in1 (pyNext (.ref I) >>= _) _ _ s
    refine wpAny_bind (W.item i s _ _ hlt hst fun v s' hP hst' hm => ?_)
    obtain ⟨q, hq, hk1, hk2⟩ := hval i v hP
    have hS' : s'.heap.SetOf knd S (fun q => (dd (xs.take i)).any (· == q)) (dd (xs.take i)).length := by
      obtain ⟨o, es, ep, tb, ho, rest⟩ := hS
      exact ⟨o, es, ep, tb, hm.heap S _ nw ho, rest⟩
    show wpAny _ A.in1 (holding [v] (setAdd S v) >>= _) _ _ s'
    refine wpAny_bind (wpAny_holding ?_)
    unfold setAdd
    refine wpAny_holding (wpAny_bind (knd.pyHash (k := q) hk1 ?_))
    have et : xs.take (i + 1) = xs.take i ++ [q] := by rw [List.take_succ, hq]; rfl
    have room : (dd (xs.take i)).length + 1 < scanBound := by
      have := dd_le (xs.take i)
      rw [List.length_take] at this
      omega
    refine wpAny_setAddHashed_of (knd := knd) (s := { s' with toks := s'.toks + 1 }) hk1 hk2 hS' room fun h' hsb hS2 => ?_
    have hSi : h'.SetOf knd S (fun q => (dd (xs.take (i + 1))).any (· == q)) (dd (xs.take (i + 1))).length :=
      SetOf_congr hS2 (fun q' => by rw [et, dd_snoc, add1_any]) (by rw [et, dd_snoc, add1_len])
    refine wpAny_pure ⟨plainId_quiet PyProof.Rows.F.plain_set_update_loop _, ih (i + 1) _ (by omega) hlt (W.frame _ s' _ _ hst' (Nat.le_succ _) fun b hb o e => ?_) hSi fun s'' hm'' hS'' => ?_⟩
    · rw [hsb.2 b (fun h : b = S => hSf (by rw [← h]; exact hb))]
      exact e
    · refine hR s'' (Moved.trans W.gtrans ((hm.mono up).then_heap (Nat.le_succ _) fun b o hb e => ?_) hm'') hS''
      rw [hsb.2 b (fun h : b = S => hb (by rw [h]; exact List.mem_cons_self))]
      exact e
end
section
variable {prog : Program} {w : World} {A : Around} {E : Value → Shared → Prop} {s : Shared} {K : Type} [DecidableEq K] [BEq K] [LawfulBEq K]
/-- what set.__init__ leaves -/
def Left (knd : PySem.KeyKind prog w K) (xs : List K) (s s₂ : Shared) : Prop := ∃ h' tk, s₂ = { s with heap := h', toks := tk } ∧ h'.SetOf knd s.heap.objs.size (fun q => (dd xs).any (· == q)) (dd xs).length ∧
  ∀ b o, b < s.heap.objs.size → s.heap.get? b = some o → h'.get? b = some o
theorem call_list (knd : PySem.KeyKind prog w K) {l : Addr} {items : Array Value} {xs : List K} {Q : Value → Shared → Prop} (hh : A.handled = none) (hl : s.heap.IsList l items) (hsz : xs.length = items.size) (hb : items.size + 1 < scanBound)
    (hi : ∀ (i : Nat) (v : Value), items[i]? = some v → ∃ k, xs[i]? = some k ∧ knd.is k v = true ∧ v.scannable = true)
    (h : ∀ s₂, Left knd xs s s₂ → Q (.ref s.heap.objs.size) s₂) : wpAny (model prog w) A (call (.type "set") [.ref l]) Q E s := by
  obtain ⟨c, tl, mro⟩ := PySem.F.called_set.mro
  have made := PySem.F.called_set.made
  have sub := PySem.F.called_set.sub
  refine wpAny_call (codeAny_of_tree ?_)
  show wpAny _ _ (callAny (.type "set") _) _ _ _
  refine wpAny_pure ⟨Code.quiet_builtin _ (by decide +kernel), codeAny_builtin PySem.F.entry_type_call ?_⟩
  rw [Around.under_plain (weight_type_call_type "set" [.ref l] []) rfl]
  have f1 := PySem.F.called_set.notType
  have f2 := PySem.F.called_set.canCreate
  have f3 := PySem.F.typeCall_set_1 (.ref l)
  repeat (any_goals (first | assumption | wp_step))
  refine codeAny_mono (code_set_new_1 (.ref l) (E := E) (Q₁ := fun obj s₁ => ∃ led : Bool, obj = .ref s.heap.objs.size ∧ s₁ = { s with heap := s.heap.push { cls := .type "set", dict := none, data := .set #[] 0 (.fresh 0 0 led) } }) fun led => ⟨led, rfl, rfl⟩) fun r s₁ hr => ?_
  cases r with
  | error e => exact hr
  | ok fl =>
    cases fl with
    | next => exact hr.elim
    | brk => exact hr.elim
    | cont => exact hr.elim
    | ret obj =>
      obtain ⟨led, rfl, rfl⟩ := hr
      have hS : (s.heap.push { cls := .type "set", dict := none, data := .set #[] 0 (.fresh 0 0 led) }).get? s.heap.objs.size = some { cls := .type "set", dict := none, data := .set #[] 0 (.fresh 0 0 led) } := Heap.get?_push_size _ rfl
      have hT : Shared.TypeIs { s with heap := s.heap.push { cls := .type "set", dict := none, data := .set #[] 0 (.fresh 0 0 led) } } (.ref s.heap.objs.size) "set" := ⟨_, hS, rfl⟩
      have f4 := PySem.F.called_set.init.lookup
      have f5 := PySem.F.called_set.init.bind (.ref s.heap.objs.size)
      repeat (any_goals (first | assumption | wp_step))
      refine codeAny_mono (codeAny_call_builtin (R := wants (fun r s₂ => r = .none ∧ Left knd xs s s₂) E) PySem.F.called_set.init.plain PySem.F.entry_set_init (check_set_init_1 hT ?_)) fun r₂ s₂ hr₂ => ?_
      · obtain ⟨ol, hol, hcl, nl, hdl⟩ := hl
        obtain ⟨ocls, odict, odata, oslots⟩ := ol
        simp only at hcl hdl
        subst hcl; subst hdl
        have hol' : (s.heap.push { cls := .type "set", dict := none, data := .set #[] 0 (.fresh 0 0 led) }).get? l = some { cls := .type "list", dict := odict, data := .seq items nl, slots := oslots } := Heap.get?_push_of_some _ hol
        have f6 := PySem.F.sub_list_set
        have f7 := PySem.F.sub_list_frozenset
        have f8 : (Value.type "list" == Value.type "dict") = false := by decide
        have hl1 : (s.heap.push { cls := .type "set", dict := none, data := .set #[] 0 (.fresh 0 0 led) }).IsList l items := ⟨_, hol', rfl, nl, rfl⟩
        unfold Builtin.«set.__init__» noKeywords Builtin.Frozenset.updateFrom
        generalize hPI : pyIter = PI
        wp_walk
        subst hPI
        refine wpAny_pyIter_list hl1 (wpAny_bind (wpAny_runValue ?_))
        have lt : l < s.heap.objs.size := Heap.lt_size hol
        have hh3 : A.in1.in1.in1.handled = none := by simp [hh]
        have neI : l ≠ (s.heap.push { cls := .type "set", dict := none, data := .set #[] 0 (.fresh 0 0 led) }).objs.size := by
          rw [Heap.size_push]; exact Nat.ne_of_lt (Nat.lt_succ_of_lt lt)
        have hSf : s.heap.objs.size ∉ [(s.heap.push { cls := .type "set", dict := none, data := .set #[] 0 (.fresh 0 0 led) }).objs.size, l] := by
          rw [Heap.size_push]; simp only [List.mem_cons, List.mem_singleton, List.not_mem_nil, or_false, not_or]
          exact ⟨Nat.ne_of_lt (Nat.lt_succ_self _), Nat.ne_of_gt lt⟩
        refine loop knd ((Walks.list hh3 _ l neI items).toS) s.heap.objs.size hSf xs hsz hb hi (items.size - 0) 0 _ (by omega) (Nat.zero_le _) ⟨⟨_, Heap.get?_push_size _ rfl, rfl, rfl⟩, (hl1.push _)⟩ ?hS0 ?hR
        case hS0 =>
          have hget : ((s.heap.push { cls := .type "set", dict := none, data := .set #[] 0 (.fresh 0 0 led) }).push { cls := .type "list_iterator", data := .fields #[.ref l, .int 0 0] }).get? s.heap.objs.size
              = some { cls := .type "set", dict := none, data := .set #[] 0 (.fresh 0 0 led) } := Heap.get?_push_of_some _ hS
          exact SetOf_congr ((setObjOf_fresh (knd := knd) led).setOf hget (by unfold scanBound; omega)) (fun _ => rfl) rfl
        case hR =>
          intro s' hm hS'
          obtain ⟨h', g', d', tk', os'⟩ := s'
          have eg : g' = s.gens := hm.gens
          have ed : d' = s.drawn := hm.drawn
          have eo : os' = s.os := hm.os
          subst eg; subst ed; subst eo
          show wpAny _ _ _ _ _ _
          refine wpAny_pure ?_
          show wpAny _ _ (ret Value.none) _ _ _
          refine wpAny_pure ⟨rfl, h', tk', rfl, hS', fun b o hb e => ?_⟩
          have n1 : b ≠ s.heap.objs.size := Nat.ne_of_lt hb
          have n2 : b ≠ (s.heap.push { cls := .type "set", dict := none, data := .set #[] 0 (.fresh 0 0 led) }).objs.size := by
            rw [Heap.size_push]; exact Nat.ne_of_lt (Nat.lt_succ_of_lt hb)
          exact hm.heap b o (by simp only [List.mem_cons, List.mem_singleton, List.not_mem_nil, or_false, not_or]; exact ⟨n1, n2⟩) (Heap.get?_push_of_some _ (Heap.get?_push_of_some _ e))
      · cases r₂ with
        | error e => exact hr₂
        | ok fl₂ =>
          cases fl₂ with
          | next => exact hr₂.elim
          | brk => exact hr₂.elim
          | cont => exact hr₂.elim
          | ret r =>
            obtain ⟨rfl, h', tk, rfl, hS', hk'⟩ := hr₂
            repeat (any_goals (first | assumption | wp_step))
            exact h _ ⟨h', tk, rfl, hS', hk'⟩
end
theorem strs_at : ∀ {xs : List Str} {us : List Value}, Vals (xs.map V.str) us → ∀ (i : Nat) (v : Value), us[i]? = some v → ∃ x t, xs[i]? = some x ∧ v = .str x t
  | [], _, .nil, i, v, h => by simp at h
  | x :: xs, _, .cons r t, 0, v, h => by
    obtain ⟨k, rfl⟩ := r
    exact ⟨x, k, rfl, (Option.some.inj h).symm⟩
  | x :: xs, _, .cons r t, i + 1, v, h => by
    simp only [List.getElem?_cons_succ] at h ⊢
    exact strs_at t i v h
def tLen (ta : TE) : TE := fun σ H Q => ta σ H fun x H1 => ∃ (l : Addr) (xs : List Str), x = .ref l ∧ H1 l = some (.lst (xs.map V.str)) ∧ xs.length ≤ 4000 ∧ Q (.int ((dd xs).length : Nat)) H1
theorem pe_len {X : Cx} {a : Expr} {ta : TE} {p p2 q pos : Pos} (hg : Gl X "len") (hm : X.mg "len" = none) (hg2 : Gl X "set") (hm2 : X.mg "set" = none) (ha : PE X a ta) (hc : X.calm = true := by rfl)
    (na : starEach [a] X.env = (false, eval a X.env) :: starEach [] X.env := by rfl) : PE X (.Call (.Name "len" p) [.Call (.Name "set" p2) [a] [] q] [] pos) (tLen ta) := by
  refine ⟨fun pins s σ H Q I h => ?_⟩
  refine Call_ (ld_blt I hg hm boot_len (PyProof.Rows.callWith_builtin1 (PyProof.Rows.args_cons ?_ rfl) rfl rfl))
  refine Call_ (ld_blt I hg2 hm2 boot_set (PyProof.Rows.callWith_type1 (PyProof.Rows.args_cons (thn (ha.run pins s σ H _ I h) fun v s1 ⟨x, H1, I1, r1, q1⟩ => PyProof.Rows.args_nil ?_) na) na rfl))
  obtain ⟨l, xs, rfl, hq, hl, q1⟩ := q1
  cases r1
  obtain ⟨its, r, pl, hz⟩ := I1.list (SqL.of hq)
  have e : xs.length = its.toArray.size := by rw [List.size_toArray, ← r.length, List.length_map]
  refine call_list (PySem.strKind X.prog X.w) (I1.ok.hd hc) pl.isList (xs := xs) e (by rw [← e]; unfold scanBound; omega) (fun i v hv => ?_) fun s₂ ⟨h', tk, e2, hS, hk⟩ => ?_
  · obtain ⟨x, t, h1, rfl⟩ := strs_at r i v (by rw [← Array.getElem?_toList] at hv; exact hv)
    exact ⟨x, h1, strKind_is _ _ _ _, rfl⟩
  · subst e2
    refine PyProof.Rows.args_nil ?_
    obtain ⟨o, es, ep, t, ho, hex, hd, _, _, _, hf, hn⟩ := hS
    have I2 : Inv X pins σ H1 { s1 with heap := h', toks := tk } := I1.kept fun b o e => hk b o (Heap.lt_size e) e
    have z := dd_le xs
    exact call_len_set ho hex hd hf (by rw [hn] <;> omega) ⟨.int (dd xs).length, H1, I2.tok _, ⟨_, by rw [hn]⟩, q1⟩
end SetK

/-! The judgements over data: what lists, texts, dicts and the built-in do. -/
namespace Lp
open PySem PySem.Spec PyProof.Rows L2
/-! ### data that may be compared -/
open PySem.W in
class En (α : Type) [DecidableEq α] extends PySem.W.Datum α where
  enc : α → D
  dp : ∀ {G : Glb} {I H : Hp} {v : V} {x : α}, RdS I H → Rep G I v (enc x) → Dp G.K H v (toD x)
abbrev en {α : Type} [DecidableEq α] [En α] : α → D := En.enc
instance : En Int where
  enc := .int
  dp _ h := by cases h; exact .int _
instance : En Str where
  enc := .str
  dp _ h := by cases h; exact .str _
instance : En Bool where
  enc := .bl
  dp _ h := by cases h; exact .bl _
theorem dps_of {α : Type} [DecidableEq α] [En α] {G : Glb} {I H : Hp} (r : RdS I H) : ∀ {vs : List V} {xs : List α}, Reps G I vs (xs.map En.enc) → DpAll G.K H vs (xs.map PySem.W.Datum.toD)
  | _, [], .nil => .nil
  | _, _ :: _, .cons a b => .cons (En.dp r a) (dps_of r b)
instance {α : Type} [DecidableEq α] [En α] : En (List α) where
  enc xs := .lst (xs.map En.enc)
  dp r h := by
    cases h with
    | lst a b => exact .lst (SqL.of (r.lst a)) (dps_of r b)
instance {α β : Type} [DecidableEq α] [En α] [DecidableEq β] [En β] : En (α × β) where
  enc p := .tup [En.enc p.1, En.enc p.2]
  dp r h := by
    cases h with
    | tup a b =>
      cases b with
      | cons c d =>
        cases d with
        | cons e f =>
          cases f
          exact .tup (SqT.of (r.tup a)) (.cons (En.dp r c) (.cons (En.dp r e) .nil))
def rEqP (K : PySem.W.Frag) : R2 := fun x y H Q => ∃ d e, Dp K H x d ∧ Dp K H y e ∧ d.plain = true ∧ e.plain = true ∧ d.depth ≤ 64 ∧ Q (.bl (PyData.eqv d e)) H
def rNeP (K : PySem.W.Frag) : R2 := fun x y H Q => ∃ d e, Dp K H x d ∧ Dp K H y e ∧ d.plain = true ∧ e.plain = true ∧ d.depth ≤ 64 ∧ Q (.bl (!PyData.eqv d e)) H
theorem op_eqP {X : Cx} (hu : X.A.units + 64 < cLine) : OpR X (compareOp .Eq) (rEqP X.K) := by
  intro pins s σ H x y v u Q I rx ry h
  obtain ⟨d, e, hd, he, pd, pe, l, q⟩ := h
  obtain ⟨as, r1⟩ := Dp.reads I d x v hd rx
  obtain ⟨bs, r2⟩ := Dp.reads I e y u he ry
  exact PySem.SeqAt.eq_plain r1 r2 pd pe (by have := Nat.min_le_left d.depth e.depth; omega) ⟨.bl _, H, I, rfl, q⟩
theorem op_neP {X : Cx} (hu : X.A.units + 64 < cLine) : OpR X (compareOp .NotEq) (rNeP X.K) := by
  intro pins s σ H x y v u Q I rx ry h
  obtain ⟨d, e, hd, he, pd, pe, l, q⟩ := h
  obtain ⟨as, r1⟩ := Dp.reads I d x v hd rx
  obtain ⟨bs, r2⟩ := Dp.reads I e y u he ry
  exact PySem.SeqAt.ne_plain r1 r2 pd pe (by have := Nat.min_le_left d.depth e.depth; omega) ⟨.bl _, H, I, rfl, q⟩
theorem units_of {k : Nat} {A : Around} (hr : Room k A) : A.units + 64 < cLine := Nat.lt_of_le_of_lt (Nat.le_refl _) hr.units
section
variable {G : Glb}
theorem r2_eqX {α : Type} [DecidableEq α] [En α] (hd : PySem.W.Datum.depth α ≤ 64) {x y : α} : R2D G (rEqP G.K) (en x) (en y) (.im (.bl (decide (x = y)))) := fun I H v w Q r h1 h2 k =>
  ⟨_, _, En.dp r h1, En.dp r h2, PySem.W.Datum.plain x, PySem.W.Datum.plain y, Nat.le_trans (PySem.W.Datum.depth_le x) hd, by rw [PySem.W.Datum.eqv]; exact k _ I H (Step.refl r) (.bl _)⟩
theorem r2_neX {α : Type} [DecidableEq α] [En α] (hd : PySem.W.Datum.depth α ≤ 64) {x y : α} : R2D G (rNeP G.K) (en x) (en y) (.im (.bl (!decide (x = y)))) := fun I H v w Q r h1 h2 k =>
  ⟨_, _, En.dp r h1, En.dp r h2, PySem.W.Datum.plain x, PySem.W.Datum.plain y, Nat.le_trans (PySem.W.Datum.depth_le x) hd, by rw [PySem.W.Datum.eqv]; exact k _ I H (Step.refl r) (.bl _)⟩
theorem at_reps {I : Hp} {vs : List V} {ds : List D} {i : Int} {d : D} (r : Reps G I vs ds) (h : atI ds i = some d) : ∃ v, atI vs i = some v ∧ Rep G I v d := by
  unfold atI at h ⊢
  rw [r.len]
  cases e : ixN ds.length i with
  | none => rw [e] at h; cases h
  | some j =>
    rw [e] at h
    obtain ⟨v, h1, h2⟩ := r.get' (show ds[j]? = some d from h)
    exact ⟨v, h1, h2⟩
theorem r2_ixL {xs : List D} {i : Int} {d : D} (h : atI xs i = some d) : R2D G (rIxL G.K) (.lst xs) (.int i) (.im d) := fun I H v w Q r h1 h2 k => by
  cases h2
  cases h1 with
  | lst a b =>
    obtain ⟨u, e1, e2⟩ := at_reps b h
    exact ⟨_, _, i, u, rfl, rfl, SqL.of (r.lst a), e1, k _ I H (Step.refl r) e2⟩
theorem r2_ixT {xs : List D} {i : Int} {d : D} (h : atI xs i = some d) : R2D G (rIxT G.K) (.tup xs) (.int i) (.im d) := fun I H v w Q r h1 h2 k => by
  cases h2
  cases h1 with
  | tup a b =>
    obtain ⟨u, e1, e2⟩ := at_reps b h
    exact ⟨_, _, i, u, rfl, rfl, SqT.of (r.tup a), e1, k _ I H (Step.refl r) e2⟩
theorem r2_ixS {z : Str} {i : Int} {c : Nat} (hl : z.length ≤ sizeLine) (h : atI z.cps.toList i = some c) : R2D G rIxS (.str z) (.int i) (.im (.str ⟨#[c]⟩)) := fun I H v w Q r h1 h2 k => by
  cases h1; cases h2
  exact ⟨z, i, c, rfl, rfl, hl, h, k _ I H (Step.refl r) (.str _)⟩
theorem inV_strs (x : Str) (ns : List Str) : inV (.str x) (ns.map V.str) = decide (x ∈ ns) := by
  unfold inV
  rw [List.any_map, Bool.eq_iff_iff, List.any_eq_true, decide_eq_true_eq]
  constructor
  · rintro ⟨y, h1, h2⟩
    have e : y = x := eq_of_beq (show (y == x) = true from h2)
    rw [← e]; exact h1
  · intro h
    exact ⟨x, h, show (x == x) = true from beq_self_eq_true x⟩
theorem flat_strs (ns : List Str) : (ns.map V.str).all flatV = true := by
  rw [List.all_map, List.all_eq_true]
  intro x _
  rfl
theorem r2_inS {x : Str} {ns : List Str} : R2D G (rIn G.K false) (.str x) (.lst (ns.map .str)) (.im (.bl (decide (x ∈ ns)))) := fun I H v w Q r h1 h2 k => by
  cases h1
  cases h2 with
  | lst a b =>
    obtain rfl := b.strs
    exact ⟨_, _, rfl, .inl (SqL.of (r.lst a)), rfl, flat_strs ns, by rw [if_neg Bool.false_ne_true, inV_strs]; exact k _ I H (Step.refl r) (.bl _)⟩
theorem r2_niS {x : Str} {ns : List Str} : R2D G (rIn G.K true) (.str x) (.lst (ns.map .str)) (.im (.bl (!decide (x ∈ ns)))) := fun I H v w Q r h1 h2 k => by
  cases h1
  cases h2 with
  | lst a b =>
    obtain rfl := b.strs
    exact ⟨_, _, rfl, .inl (SqL.of (r.lst a)), rfl, flat_strs ns, by rw [if_pos rfl, inV_strs]; exact k _ I H (Step.refl r) (.bl _)⟩
theorem r2_cat {xs ys : List D} (hl : xs.length + ys.length ≤ 100000) : R2D G rCat (.lst xs) (.lst ys) (.own (xs ++ ys)) := fun I H v w Q r h1 h2 k => by
  cases h1 with
  | lst a b =>
    cases h2 with
    | lst c d =>
      refine ⟨_, _, _, _, rfl, rfl, r.lst a, r.lst c, by rw [b.len, d.len]; exact Nat.le_trans hl (by decide), fun p hp => ?_⟩
      exact k _ I _ (Step.newOwn r hp) ⟨p, _, rfl, hp, r.free hp, upd_same, b.app d⟩
/-- texts by signs -/
theorem r2_inC {c : Nat} {z : Str} : R2D G (fun x y H Q => ∃ (c : Nat) (z : Str), x = .str ⟨#[c]⟩ ∧ y = .str z ∧ Q (.bl (decide (c ∈ z.cps.toList))) H) (.str ⟨#[c]⟩) (.str z) (.im (.bl (decide (c ∈ z.cps.toList)))) := fun I H v w Q r h1 h2 k => by
  cases h1; cases h2
  exact ⟨c, z, rfl, rfl, k _ I H (Step.refl r) (.bl _)⟩
def rMulS : R2 := fun x y H Q => ∃ z n, x = .str z ∧ y = .int n ∧ PySem.MulOk z n ∧ Q (.str (PySem.Txt.mul z n)) H
theorem op_mulS {X : Cx} : OpR X (binaryOp .Mult) rMulS := by
  intro pins s σ H x y v u Q I rx ry h
  obtain ⟨z, n, rfl, rfl, ok, q⟩ := h
  obtain ⟨t, rfl⟩ := rx
  obtain ⟨t', rfl⟩ := ry
  exact PySem.SB.mul ok fun t'' k => ⟨.str _, H, I.tok _, ⟨_, rfl⟩, q⟩
theorem r2_mulS {z : Str} {n : Int} (h : PySem.MulOk z n) : R2D G rMulS (.str z) (.int n) (.im (.str (PySem.Txt.mul z n))) := fun I H v w Q r h1 h2 k => by
  cases h1; cases h2
  exact ⟨z, n, rfl, rfl, h, k _ I H (Step.refl r) (.str _)⟩
end
section
variable {X : Cx} {T : List NdefX.NTab} {W : WX} {U : Bool} {ds : List DS} {s : DS} {E : DEn}
theorem dv_ix {a b : Expr} {pos : Pos} {r : R2} {x y : D} (ho : IxR X r) (hr : R2D (gx X T) r x y s) (ha : DE X T U a ds x) (hb : DE X T U b ds y) (hp : PlainIx b := by intro _ _; rfl) : DV X T U (.Subscript a b pos) ds s :=
  (pe_ix ho ha hb hp).weak fun _ _ _ h => op_run hr h
section
variable {a b : Expr} {pos : Pos} {i : Int} {d : D} {xs ys : List D} {z x : Str} {ns : List Str}
theorem de_ixL (ha : DE X T U a ds (.lst xs)) (hb : DE X T U b ds (.int i)) (h : atI xs i = some d) (hp : PlainIx b := by intro _ _; rfl) : DE X T U (.Subscript a b pos) ds d := dv_ix ix_list (r2_ixL h) ha hb hp
theorem de_ixT (ha : DE X T U a ds (.tup xs)) (hb : DE X T U b ds (.int i)) (h : atI xs i = some d) (hp : PlainIx b := by intro _ _; rfl) : DE X T U (.Subscript a b pos) ds d := dv_ix ix_tup (r2_ixT h) ha hb hp
theorem de_ixS {c : Nat} (ha : DE X T U a ds (.str z)) (hb : DE X T U b ds (.int i)) (hl : z.length ≤ sizeLine) (h : atI z.cps.toList i = some c) (hp : PlainIx b := by intro _ _; rfl) : DE X T U (.Subscript a b pos) ds (.str ⟨#[c]⟩) := dv_ix ix_str (r2_ixS hl h) ha hb hp
theorem dt_inS (ha : DE X T U a ds (.str x)) (hb : DE X T U b ds (.lst (ns.map .str))) (hn : behindInMarks .In b = false := by rfl) : DT X T U (.Compare a [.In] [b] pos) ds (decide (x ∈ ns)) := dt_cmp op_in_seq r2_inS ha hb hn
theorem dt_niS (ha : DE X T U a ds (.str x)) (hb : DE X T U b ds (.lst (ns.map .str))) (hn : behindInMarks .NotIn b = false := by rfl) : DT X T U (.Compare a [.NotIn] [b] pos) ds (!decide (x ∈ ns)) := dt_cmp op_notIn_seq r2_niS ha hb hn
theorem de_inS (ha : DE X T U a ds (.str x)) (hb : DE X T U b ds (.lst (ns.map .str))) (hn : behindInMarks .In b = false := by rfl) : DE X T U (.Compare a [.In] [b] pos) ds (.bl (decide (x ∈ ns))) := dv_cmp op_in_seq r2_inS ha hb hn
theorem de_inC {c : Nat} (ha : DE X T U a ds (.str ⟨#[c]⟩)) (hb : DE X T U b ds (.str z)) (hn : behindInMarks .In b = false := by rfl) : DE X T U (.Compare a [.In] [b] pos) ds (.bl (decide (c ∈ z.cps.toList))) := dv_cmp op_in_sign r2_inC ha hb hn
theorem dt_eqX {α : Type} [DecidableEq α] [En α] {x y : α} (ha : DE X T U a ds (en x)) (hb : DE X T U b ds (en y)) (hu : X.A.units + 64 < cLine) (hd : PySem.W.Datum.depth α ≤ 64 := by decide) : DT X T U (.Compare a [.Eq] [b] pos) ds (decide (x = y)) := dt_cmp (op_eqP hu) (r2_eqX hd) ha hb
theorem dt_neX {α : Type} [DecidableEq α] [En α] {x y : α} (ha : DE X T U a ds (en x)) (hb : DE X T U b ds (en y)) (hu : X.A.units + 64 < cLine) (hd : PySem.W.Datum.depth α ≤ 64 := by decide) : DT X T U (.Compare a [.NotEq] [b] pos) ds (!decide (x = y)) := dt_cmp (op_neP hu) (r2_neX hd) ha hb
theorem de_eqX {α : Type} [DecidableEq α] [En α] {x y : α} (ha : DE X T U a ds (en x)) (hb : DE X T U b ds (en y)) (hu : X.A.units + 64 < cLine) (hd : PySem.W.Datum.depth α ≤ 64 := by decide) : DE X T U (.Compare a [.Eq] [b] pos) ds (.bl (decide (x = y))) := dv_cmp (op_eqP hu) (r2_eqX hd) ha hb
theorem dt_isN {j : Nat} {p : Pos} {d : D} {c : Bool} (ha : DE X T U a ds d) (hc : ∀ (G : Glb) (I : Hp) (v : V), Rep G I v d → decide (v = .non) = c) : DT X T U (.Compare a [.Is] [.Constant .none j p] pos) ds c :=
  (pt_cmp (pc_isN ha)).weak fun σ H Q ⟨I0, H0, I, en, k⟩ => ⟨I0, H0, I, en, fun v I' H' st r => ⟨c, by rw [hc _ _ _ r], k I' H' st⟩⟩
theorem dt_notN {j : Nat} {p : Pos} {d : D} {c : Bool} (ha : DE X T U a ds d) (hc : ∀ (G : Glb) (I : Hp) (v : V), Rep G I v d → decide (v = .non) = c) : DT X T U (.Compare a [.IsNot] [.Constant .none j p] pos) ds (!c) :=
  (pt_cmp (pc_notN ha)).weak fun σ H Q ⟨I0, H0, I, en, k⟩ => ⟨I0, H0, I, en, fun v I' H' st r => ⟨!c, by rw [hc _ _ _ r], k I' H' st⟩⟩
theorem dv_cat (ha : DE X T U a ds (.lst xs)) (hb : DE X T U b ds (.lst ys)) (hl : xs.length + ys.length ≤ 100000) : DV X T U (.BinOp a .Add b pos) ds (.own (xs ++ ys)) := dv_op op_cat (r2_cat hl) ha hb
theorem de_mulS {n : Int} (ha : DE X T U a ds (.str z)) (hb : DE X T U b ds (.int n)) (h : PySem.MulOk z n) : DE X T U (.BinOp a .Mult b pos) ds (.str (PySem.Txt.mul z n)) := dv_op op_mulS (r2_mulS h) ha hb
end
end
end Lp

/-! The judgements over data: slices, calls of the built-in, dicts, several targets at once. -/
namespace Lp
open PySem PySem.Spec PyProof.Rows L2
def cutG {α : Type} (xs : List α) (lo hi : Option Int) : List α := (xs.drop (HT.sIx xs.length 0 lo)).take (HT.sIx xs.length xs.length hi - HT.sIx xs.length 0 lo)
section
variable {X : Cx} {T : List NdefX.NTab} {W : WX} {U : Bool} {ds : List DS} {s : DS} {E : DEn}
/-! ### slices -/
theorem do_none : DO X T U none ds none := by
  have h : PO X none tNoPart := po_none
  exact ⟨fun pins s σ H Q I ⟨I0, H0, I1, en, k⟩ => h.run pins s σ H Q I (k I1 H (Step.refl en.sub))⟩
theorem do_some {e : Expr} {i : Int} (h : DE X T U e ds (.int i)) : DO X T U (some e) ds (some i) := by
  have q := po_some h
  exact ⟨fun pins s σ H Q I ⟨I0, H0, I1, en, k⟩ => q.run pins s σ H Q I ⟨I0, H0, I1, en, fun v I2 H2 s2 r2 => by
    cases r2
    exact ⟨i, rfl, k I2 H2 s2⟩⟩⟩
theorem dv_slL {e : Expr} {lo hi : Option Expr} {pos p2 : Pos} {xs : List D} {l u : Option Int} (he : DE X T U e ds (.lst xs)) (hl : DO X T U lo ds l) (hh : DO X T U hi ds u) : DV X T U (.Subscript e (.Slice lo hi none p2) pos) ds (.own (cutG xs l u)) :=
  (pe_slice sl_list he hl hh).weak fun σ H Q ⟨I0, H0, I, en, k⟩ => ⟨I0, H0, I, en, fun v I1 H1 s1 r1 => ⟨I0, H0, I1, en.step s1, fun I2 H2 s2 => ⟨I0, H0, I2, (en.step s1).step s2, fun I3 H3 s3 => by
    cases r1 with
    | @lst p vs _ a b =>
      have s4 := (s1.trans s2).trans s3
      have s5 := s2.trans s3
      refine ⟨p, vs, rfl, SqL.of (s3.sub.lst (s5.isub _ _ a)), fun q hq => ?_⟩
      refine k _ I3 _ (s4.trans (Step.newOwn s3.sub hq)) ⟨q, _, rfl, s4.free hq, s3.sub.free hq, upd_same, ?_⟩
      show Reps _ I3 (cutV vs l u) (cutG xs l u)
      unfold cutV cutG
      rw [b.len]
      exact ((b.mono s5.isub).drop _).take _⟩⟩⟩
theorem de_slS {e : Expr} {lo hi : Option Expr} {pos p2 : Pos} {z : Str} {l u : Option Int} (he : DE X T U e ds (.str z)) (hl : DO X T U lo ds l) (hh : DO X T U hi ds u) (hz : z.length ≤ sizeLine) : DE X T U (.Subscript e (.Slice lo hi none p2) pos) ds (.str (cutS z l u)) :=
  (pe_slice sl_str he hl hh).weak fun σ H Q ⟨I0, H0, I, en, k⟩ => ⟨I0, H0, I, en, fun v I1 H1 s1 r1 => ⟨I0, H0, I1, en.step s1, fun I2 H2 s2 => ⟨I0, H0, I2, (en.step s1).step s2, fun I3 H3 s3 => by
    cases r1
    exact ⟨z, rfl, hz, k _ I3 H3 ((s1.trans s2).trans s3) (.str _)⟩⟩⟩⟩
/-! ### calls of the built-in -/
section
variable {G : Glb}
theorem rc_lenL {xs : List D} : RCD G (fun vs H Q => ∃ x n, vs = [x] ∧ LenV G.K x H n ∧ Q (.int n) H) [.lst xs] (.im (.int (xs.length : Int))) := fun I H vs Q r h k => by
  cases h with
  | cons a b =>
    cases b
    cases a with
    | @lst p ws _ a b => exact ⟨_, ws.length, rfl, .inl ⟨ws, SqL.of (r.lst a), rfl⟩, by rw [b.len]; exact k _ I H (Step.refl r) (.int _)⟩
theorem rc_lenT {xs : List D} : RCD G (fun vs H Q => ∃ x n, vs = [x] ∧ LenV G.K x H n ∧ Q (.int n) H) [.tup xs] (.im (.int (xs.length : Int))) := fun I H vs Q r h k => by
  cases h with
  | cons a b =>
    cases b
    cases a with
    | @tup p ws _ a b => exact ⟨_, ws.length, rfl, .inr ⟨ws, SqT.of (r.tup a), rfl⟩, by rw [b.len]; exact k _ I H (Step.refl r) (.int _)⟩
theorem rc_lenS {z : Str} (hz : z.length ≤ sizeLine) : RCD G (fun vs H Q => ∃ x n, vs = [x] ∧ LenV G.K x H n ∧ Q (.int n) H) [.str z] (.im (.int (z.length : Int))) := fun I H vs Q r h k => by
  cases h with
  | cons a b =>
    cases b
    cases a
    exact ⟨_, z.length, rfl, ⟨hz, rfl⟩, k _ I H (Step.refl r) (.int _)⟩
theorem rc_abs {i : Int} : RCD G (fun xs H Q => ∃ i, xs = [.int i] ∧ Q (.int (if i < 0 then -i else i)) H) [.int i] (.im (.int (if i < 0 then -i else i))) := fun I H vs Q r h k => by
  cases h with
  | cons a b =>
    cases b; cases a
    exact ⟨i, rfl, k _ I H (Step.refl r) (.int _)⟩
theorem rc_max {i j : Int} : RCD G (fun xs H Q => ∃ i j, xs = [.int i, .int j] ∧ Q (.int (if j > i then j else i)) H) [.int i, .int j] (.im (.int (if j > i then j else i))) := fun I H vs Q r h k => by
  cases h with
  | cons a b =>
    cases a
    cases b with
    | cons a b =>
      cases a; cases b
      exact ⟨i, j, rfl, k _ I H (Step.refl r) (.int _)⟩
theorem rc_min {i j : Int} : RCD G (fun xs H Q => ∃ i j, xs = [.int i, .int j] ∧ Q (.int (if j < i then j else i)) H) [.int i, .int j] (.im (.int (if j < i then j else i))) := fun I H vs Q r h k => by
  cases h with
  | cons a b =>
    cases a
    cases b with
    | cons a b =>
      cases a; cases b
      exact ⟨i, j, rfl, k _ I H (Step.refl r) (.int _)⟩
theorem rc_sum {ns : List Int} : RCD G (rSum G.K) [.lst (ns.map .int)] (.im (.int ns.sum)) := fun I H vs Q r h k => by
  cases h with
  | cons a b =>
    cases b
    cases a with
    | lst a b =>
      obtain rfl := b.ints
      exact ⟨_, ns, rfl, SqL.of (r.lst a), k _ I H (Step.refl r) (.int _)⟩
theorem rc_all {bs : List Bool} : RCD G (rAll G.K) [.lst (bs.map .bl)] (.im (.bl (bs.all id))) := fun I H vs Q r h k => by
  cases h with
  | cons a b =>
    cases b
    cases a with
    | lst a b =>
      obtain rfl := b.bls
      exact ⟨_, bs, rfl, SqL.of (r.lst a), k _ I H (Step.refl r) (.bl _)⟩
theorem rc_any {bs : List Bool} : RCD G (rAny G.K) [.lst (bs.map .bl)] (.im (.bl (bs.any id))) := fun I H vs Q r h k => by
  cases h with
  | cons a b =>
    cases b
    cases a with
    | lst a b =>
      obtain rfl := b.bls
      exact ⟨_, bs, rfl, SqL.of (r.lst a), k _ I H (Step.refl r) (.bl _)⟩
def rListOf (K : PySem.W.Frag) : List V → Hp → VK → Prop := fun xs H Q => ∃ p ys, xs = [.ref p] ∧ (SqL K H p ys ∨ SqT K H p ys) ∧ ∀ l, H l = none → Q (.ref l) (upd H l (.lst ys))
theorem rc_list {xs : List D} : RCD G (rListOf G.K) [.lst xs] (.own xs) := fun I H vs Q r h k => by
  cases h with
  | cons a b =>
    cases b
    cases a with
    | @lst p ws _ a b => exact ⟨p, ws, rfl, .inl (SqL.of (r.lst a)), fun l hl => k _ I _ (Step.newOwn r hl) ⟨l, ws, rfl, hl, r.free hl, upd_same, b⟩⟩
end
section
variable {e a b : Expr} {p pos : Pos} {xs : List D} {i j : Int} {z : Str} {ns : List Int} {bs : List Bool}
theorem de_lenL (ha : DE X T U e ds (.lst xs)) (hg : Gl X "len") (hm : X.mg "len" = none) (he : starEach [e] X.env = (false, eval e X.env) :: starEach [] X.env := by rfl) : DE X T U (.Call (.Name "len" p) [e] [] pos) ds (.int (xs.length : Int)) :=
  dv_callB call_len rc_lenL hg hm boot_len (da_cons ha da_nil he) (by decide) (by decide) he
theorem de_lenT (ha : DE X T U e ds (.tup xs)) (hg : Gl X "len") (hm : X.mg "len" = none) (he : starEach [e] X.env = (false, eval e X.env) :: starEach [] X.env := by rfl) : DE X T U (.Call (.Name "len" p) [e] [] pos) ds (.int (xs.length : Int)) :=
  dv_callB call_len rc_lenT hg hm boot_len (da_cons ha da_nil he) (by decide) (by decide) he
theorem de_lenS (ha : DE X T U e ds (.str z)) (hz : z.length ≤ sizeLine) (hg : Gl X "len") (hm : X.mg "len" = none) (he : starEach [e] X.env = (false, eval e X.env) :: starEach [] X.env := by rfl) : DE X T U (.Call (.Name "len" p) [e] [] pos) ds (.int (z.length : Int)) :=
  dv_callB call_len (rc_lenS hz) hg hm boot_len (da_cons ha da_nil he) (by decide) (by decide) he
theorem de_abs (ha : DE X T U e ds (.int i)) (hg : Gl X "abs") (hm : X.mg "abs" = none) (he : starEach [e] X.env = (false, eval e X.env) :: starEach [] X.env := by rfl) : DE X T U (.Call (.Name "abs" p) [e] [] pos) ds (.int (if i < 0 then -i else i)) :=
  dv_callB call_abs rc_abs hg hm (by decide +kernel) (da_cons ha da_nil he) (by decide) (by decide) he
theorem de_sum (ha : DE X T U e ds (.lst (ns.map .int))) (hg : Gl X "sum") (hm : X.mg "sum" = none) (he : starEach [e] X.env = (false, eval e X.env) :: starEach [] X.env := by rfl) (hc : X.calm = true := by rfl) : DE X T U (.Call (.Name "sum" p) [e] [] pos) ds (.int ns.sum) :=
  dv_callB (cr_sum hc) rc_sum hg hm (by decide +kernel) (da_cons ha da_nil he) (by decide) (by decide) he
theorem de_all (ha : DE X T U e ds (.lst (bs.map .bl))) (hg : Gl X "all") (hm : X.mg "all" = none) (he : starEach [e] X.env = (false, eval e X.env) :: starEach [] X.env := by rfl) (hc : X.calm = true := by rfl) : DE X T U (.Call (.Name "all" p) [e] [] pos) ds (.bl (bs.all id)) :=
  dv_callB (cr_all hc) rc_all hg hm (by decide +kernel) (da_cons ha da_nil he) (by decide) (by decide) he
theorem de_any (ha : DE X T U e ds (.lst (bs.map .bl))) (hg : Gl X "any") (hm : X.mg "any" = none) (he : starEach [e] X.env = (false, eval e X.env) :: starEach [] X.env := by rfl) (hc : X.calm = true := by rfl) : DE X T U (.Call (.Name "any" p) [e] [] pos) ds (.bl (bs.any id)) :=
  dv_callB (cr_any hc) rc_any hg hm (by decide +kernel) (da_cons ha da_nil he) (by decide) (by decide) he
theorem dv_list (ha : DE X T U e ds (.lst xs)) (hg : Gl X "list") (hm : X.mg "list" = none) (he : starEach [e] X.env = (false, eval e X.env) :: starEach [] X.env := by rfl) : DV X T U (.Call (.Name "list" p) [e] [] pos) ds (.own xs) :=
  dv_callTy call_list_of rc_list hg hm (by decide +kernel) (da_cons ha da_nil he) (by decide) (by decide) he
theorem de_max (ha : DE X T U a ds (.int i)) (hb : DE X T U b ds (.int j)) (hg : Gl X "max") (hm : X.mg "max" = none) (he : starEach [a, b] X.env = (false, eval a X.env) :: starEach [b] X.env := by rfl) (he2 : starEach [b] X.env = (false, eval b X.env) :: starEach [] X.env := by rfl)
    (hpl : (backTo pos (starEach [b] X.env)).any (·.1) = false := by rfl) (hc : X.calm = true := by rfl) : DE X T U (.Call (.Name "max" p) [a, b] [] pos) ds (.int (if j > i then j else i)) :=
  dv_callB (call_max2 hc) rc_max hg hm (by decide +kernel) (da_cons ha (da_cons hb da_nil he2) he) (by decide) (by decide) he hpl
theorem de_min (ha : DE X T U a ds (.int i)) (hb : DE X T U b ds (.int j)) (hg : Gl X "min") (hm : X.mg "min" = none) (he : starEach [a, b] X.env = (false, eval a X.env) :: starEach [b] X.env := by rfl) (he2 : starEach [b] X.env = (false, eval b X.env) :: starEach [] X.env := by rfl)
    (hpl : (backTo pos (starEach [b] X.env)).any (·.1) = false := by rfl) (hc : X.calm = true := by rfl) : DE X T U (.Call (.Name "min" p) [a, b] [] pos) ds (.int (if j < i then j else i)) :=
  dv_callB (call_min2 hc) rc_min hg hm (by decide +kernel) (da_cons ha (da_cons hb da_nil he2) he) (by decide) (by decide) he hpl
/-- len(set(names)) -/
theorem de_lenSet {p2 q : Pos} {ns : List Str} (ha : DE X T U e ds (.lst (ns.map .str))) (hl : ns.length ≤ 4000) (hg : Gl X "len") (hm : X.mg "len" = none) (hg2 : Gl X "set") (hm2 : X.mg "set" = none) (hc : X.calm = true := by rfl) (na : starEach [e] X.env = (false, eval e X.env) :: starEach [] X.env := by rfl) :
    DE X T U (.Call (.Name "len" p) [.Call (.Name "set" p2) [e] [] q] [] pos) ds (.int ((SetK.dd ns).length : Nat)) :=
  (SetK.pe_len hg hm hg2 hm2 ha hc na).weak fun σ H Q ⟨I0, H0, I, en, k⟩ => ⟨I0, H0, I, en, fun v I1 H1 s1 r1 => by
    cases r1 with
    | lst a b =>
      obtain rfl := b.strs
      exact ⟨_, ns, rfl, s1.sub.lst a, hl, k _ I1 H1 s1 (.int _)⟩⟩
end
/-! ### isinstance -/
def tyD : D → String
  | .non => "NoneType"
  | .bl _ => "bool"
  | .int _ => "int"
  | .str _ => "str"
  | .lst _ => "list"
  | .tup _ => "tuple"
  | _ => "?"
theorem tyX_of {G : Glb} {I H : Hp} {v : V} (r : RdS I H) : ∀ {d : D}, tyD d ≠ "?" → Rep G I v d → TyX G.K H v (.type (tyD d))
  | .non, _, h => by cases h; exact .base .non
  | .bl _, _, h => by cases h; exact .base (.bl _)
  | .int _, _, h => by cases h; exact .base (.int _)
  | .str _, _, h => by cases h; exact .base (.str _)
  | .lst _, _, h => by
    cases h with
    | lst a b => exact .base (.lst (r.lst a))
  | .tup _, _, h => by
    cases h with
    | tup a b => exact .base (.tup (r.tup a))
  | .ty _, n, _ => absurd rfl n
  | .dic _, n, _ => absurd rfl n
  | .ins _ _, n, _ => absurd rfl n
  | .fn _ _ _, n, _ => absurd rfl n
theorem de_ty {x : Str} {n : String} {pos : Pos} (hg : Gl X x) (hm : X.mg x = none) (hv : bootBuiltins x = some (.type n)) (hn : x ≠ ("__name__" : Str) := by decide) (hd : (x == ("__debug__" : Str)) = false := by decide) : DE X T U (.Name x pos) ds (.ty n) :=
  (pe_bltn (v := .ty n) hg hm hv rfl hn hd).weak fun _ H _ ⟨_, _, I, en, k⟩ => k _ I H (Step.refl en.sub) (.ty n)
theorem de_isi {e : Expr} {x : Str} {n : String} {p pos q : Pos} {d : D} {b : Bool} (ha : DE X T U e ds d) (hb : DE X T U (.Name x q) ds (.ty n)) (ht : tyD d ≠ "?") (hk : kitB (tyD d) n = some b) (hg : Gl X "isinstance") (hm : X.mg "isinstance" = none)
    (he : starEach [e, .Name x q] X.env = (false, eval e X.env) :: starEach [.Name x q] X.env := by rfl) : DE X T U (.Call (.Name "isinstance" p) [e, .Name x q] [] pos) ds (.bl b) := by
  refine dv_callB call_isi (fun I H vs Q r h k => ?_) hg hm (by decide +kernel) (da_cons ha (da_cons hb da_nil) he) (by decide) (by decide) he
  cases h with
  | cons a c =>
    cases c with
    | cons c f =>
      cases f
      cases c
      exact ⟨_, _, _, _, b, rfl, .ty n, tyX_of r ht a, kit_ty hk, k _ I H (Step.refl r) (.bl b)⟩
/-! ### dicts with texts as keys -/
def lookD (kvs : List (Str × D)) (k : Str) : Option D := (kvs.find? fun kv => decide (kv.1 = k)).map (·.2)
def putD (kvs : List (Str × D)) (k : Str) (d : D) : List (Str × D) := if (kvs.any fun kv => decide (kv.1 = k)) = true then kvs.map (fun kv => if kv.1 = k then (kv.1, d) else kv) else kvs ++ [(k, d)]
def dropD (kvs : List (Str × D)) (k : Str) : List (Str × D) := kvs.filter fun kv => decide (kv.1 ≠ k)
section
variable {G : Glb} {I : Hp}
theorem inr_dec (a b : Str) : decide ((Sum.inr a : Key) = Sum.inr b) = decide (a = b) := key_rr a b
theorem look_rep : ∀ {fs : List (Str × V)} {kds : List (Str × D)}, RepF G I fs kds → ∀ (k : Str), match lookD kds k with
    | none => valV (kvK fs) (Sum.inr k) = none
    | some d => ∃ v, valV (kvK fs) (Sum.inr k) = some v ∧ Rep G I v d
  | _, _, .nil, k => rfl
  | _, _, .cons (x := x) (v := v) (d := d) (vs := vs) (ds := r) a b, k => by
    by_cases e : x = k
    · have h1 : lookD ((x, d) :: r) k = some d := by
        unfold lookD
        rw [List.find?_cons, decide_eq_true e]
        rfl
      rw [h1]
      exact ⟨v, valV_pos (by rw [← e]), a⟩
    · have h1 : lookD ((x, d) :: r) k = lookD r k := by
        unfold lookD
        rw [List.find?_cons, decide_eq_false e]
      rw [h1]
      have h2 : valV (kvK ((x, v) :: vs)) (Sum.inr k) = valV (kvK vs) (Sum.inr k) := valV_neg fun z => e (Sum.inr.inj z)
      rw [h2]
      exact look_rep b k
theorem any_rep (k : Str) : ∀ {fs : List (Str × V)} {kds : List (Str × D)}, RepF G I fs kds → ((kvK fs).any fun kv => decide (kv.1 = Sum.inr k)) = kds.any fun kv => decide (kv.1 = k)
  | _, _, .nil => rfl
  | _, _, .cons (x := x) a b => by
    show (decide ((Sum.inr x : Key) = Sum.inr k) || _) = (decide (x = k) || _)
    rw [inr_dec, any_rep k b]
theorem RepF.len : ∀ {fs : List (Str × V)} {kds : List (Str × D)}, RepF G I fs kds → fs.length = kds.length
  | _, _, .nil => rfl
  | _, _, .cons _ b => congrArg (· + 1) b.len
theorem RepF.app : ∀ {fs gs : List (Str × V)} {kds lds : List (Str × D)}, RepF G I fs kds → RepF G I gs lds → RepF G I (fs ++ gs) (kds ++ lds)
  | _, _, _, _, .nil, h => h
  | _, _, _, _, .cons a b, h => .cons a (b.app h)
theorem put_map {k : Str} {v : V} {d : D} (hv : Rep G I v d) : ∀ {fs : List (Str × V)} {kds : List (Str × D)}, RepF G I fs kds → ∃ fs', (kvK fs).map (fun kv => if kv.1 = Sum.inr k then (kv.1, v) else kv) = kvK fs' ∧ RepF G I fs' (kds.map fun kv => if kv.1 = k then (kv.1, d) else kv)
  | _, _, .nil => ⟨[], rfl, .nil⟩
  | _, _, .cons (x := x) (v := v1) (d := d1) a b => by
    obtain ⟨fs', e, r⟩ := put_map hv b
    by_cases h : x = k
    · refine ⟨(x, v) :: fs', ?_, ?_⟩
      · show (if (Sum.inr x : Key) = Sum.inr k then ((Sum.inr x : Key), v) else _) :: _ = _
        rw [if_pos (by rw [h])]
        exact congrArg _ e
      · rw [List.map_cons]
        show RepF G I _ ((if x = k then (x, d) else (x, d1)) :: _)
        rw [if_pos h]
        exact .cons hv r
    · refine ⟨(x, v1) :: fs', ?_, ?_⟩
      · show (if (Sum.inr x : Key) = Sum.inr k then ((Sum.inr x : Key), v) else ((Sum.inr x : Key), v1)) :: _ = _
        rw [if_neg fun z => h (Sum.inr.inj z)]
        exact congrArg _ e
      · rw [List.map_cons]
        show RepF G I _ ((if x = k then (x, d) else (x, d1)) :: _)
        rw [if_neg h]
        exact .cons a r
theorem put_rep {fs : List (Str × V)} {kds : List (Str × D)} {k : Str} {v : V} {d : D} (h : RepF G I fs kds) (hv : Rep G I v d) : ∃ fs', putK (kvK fs) (Sum.inr k) v = kvK fs' ∧ RepF G I fs' (putD kds k d) := by
  unfold putK putD
  rw [any_rep k h]
  by_cases e : (kds.any fun kv => decide (kv.1 = k)) = true
  · rw [if_pos e, if_pos e]
    exact put_map hv h
  · rw [if_neg e, if_neg e]
    exact ⟨fs ++ [(k, v)], (List.map_append (l₁ := fs) (l₂ := [(k, v)])).symm, h.app (.cons hv .nil)⟩
end
section
variable {a b : Expr} {pos : Pos} {k : Str} {kvs : List (Str × D)} {d : D}
theorem dv_newD : DV X T U (.Dict [] [] pos) ds (.ownD []) := pe_dnewK.weak fun σ H Q ⟨I0, H0, I, en, k⟩ => fun p hp =>
  k _ I _ (Step.newOwn en.sub hp) ⟨p, [], rfl, hp, en.sub.free hp, upd_same, .nil⟩
theorem din_run {G : Glb} {f : Option V → Bool} {σ : L2.St} {H : Hp} {Q : VK} {c : Bool} (hc : ∀ o : Option V, o.isSome = (lookD kvs k).isSome → f o = c) (h : eV G U ds (.im (.bl c)) σ H Q) :
    (eV G U ds (.im (.str k))) σ H fun y H1 => (eV G U ds (.im (.dic kvs))) σ H1 fun x H2 => ∃ a o, x = .ref a ∧ DGet H2 a y o ∧ Q (.bl (f o)) H2 := by
  obtain ⟨I0, H0, I, en, kk⟩ := h
  refine ⟨I0, H0, I, en, fun v I1 H1 s1 r1 => ⟨I0, H0, I1, en.step s1, fun w I2 H2 s2 r2 => ?_⟩⟩
  cases r1
  cases r2 with
  | @dic p fs _ e1 e2 =>
    refine ⟨p, valV (kvK fs) (Sum.inr k), rfl, .inl ⟨_, Sum.inr k, s2.sub.dic e1, rfl, rfl⟩, ?_⟩
    have z := look_rep e2 k
    have e : (valV (kvK fs) (Sum.inr k)).isSome = (lookD kvs k).isSome := by
      cases q : lookD kvs k with
      | none =>
        rw [q] at z
        have z2 : valV (kvK fs) (Sum.inr k) = none := z
        rw [z2] <;> rfl
      | some d =>
        rw [q] at z
        obtain ⟨v, z1, _⟩ := z
        rw [z1] <;> rfl
    rw [hc _ e]
    exact kk _ I2 H2 (s1.trans s2) (.bl c)
theorem dt_inD (ha : DE X T U a ds (.str k)) (hb : DE X T U b ds (.dic kvs)) (hu : X.A.units + 1 < cLine) (hn : behindInMarks .In b = false := by rfl) : DT X T U (.Compare a [.In] [b] pos) ds (lookD kvs k).isSome :=
  (pt_cmp (pc_din hu ha hb) hn).weak fun σ H Q ⟨I0, H0, I, en, kk⟩ => din_run (f := fun o => o.isSome) (Q := fun x H' => ∃ c, x = .bl c ∧ Q c H') (fun _ h => h) ⟨I0, H0, I, en, fun v I' H' st r => by cases r; exact ⟨_, rfl, kk I' H' st⟩⟩
theorem de_inD (ha : DE X T U a ds (.str k)) (hb : DE X T U b ds (.dic kvs)) (hu : X.A.units + 1 < cLine) (hn : behindInMarks .In b = false := by rfl) : DE X T U (.Compare a [.In] [b] pos) ds (.bl (lookD kvs k).isSome) :=
  (pe_cmp (pc_din hu ha hb) hn).weak fun σ H Q h => din_run (f := fun o => o.isSome) (fun _ h => h) h
theorem dt_niD (ha : DE X T U a ds (.str k)) (hb : DE X T U b ds (.dic kvs)) (hu : X.A.units + 1 < cLine) (hn : behindInMarks .NotIn b = false := by rfl) : DT X T U (.Compare a [.NotIn] [b] pos) ds (!(lookD kvs k).isSome) :=
  (pt_cmp (pc_dnotin hu ha hb) hn).weak fun σ H Q ⟨I0, H0, I, en, kk⟩ => din_run (f := fun o => !o.isSome) (Q := fun x H' => ∃ c, x = .bl c ∧ Q c H') (fun _ h => by rw [h]) ⟨I0, H0, I, en, fun v I' H' st r => by cases r; exact ⟨_, rfl, kk I' H' st⟩⟩
theorem de_dget (ha : DE X T U a ds (.dic kvs)) (hb : DE X T U b ds (.str k)) (hk : lookD kvs k = some d) (hu : X.A.units + 1 < cLine) (hn : NoSl b := by intro _ _; rfl) : DE X T U (.Subscript a b pos) ds d :=
  (pe_dget hu ha hb hn).weak fun σ H Q ⟨I0, H0, I, en, kk⟩ => ⟨I0, H0, I, en, fun v I1 H1 s1 r1 => ⟨I0, H0, I1, en.step s1, fun w I2 H2 s2 r2 => by
    cases r2
    cases r1 with
    | @dic p fs _ e1 e2 =>
      have z := look_rep (e2.mono s2.isub) k
      rw [hk] at z
      obtain ⟨v, z1, z2⟩ := z
      exact ⟨p, v, rfl, .inl ⟨_, Sum.inr k, s2.sub.dic (s2.isub _ _ e1), rfl, z1.symm⟩, kk _ I2 H2 (s1.trans s2) z2⟩⟩⟩
/-- x[k] = e, x a dict of one's own -/
theorem ds_dput (i : Nat) {e : Expr} {x : Str} {p pos' : Pos} (h : ds[i]? = some (.ownD kvs)) (hb : DE X T U b ds (.str k)) (he : DE X T U e ds d) (hl : kvs.length < 100000) (q : E.nx (ds.set i (.ownD (putD kvs k d)))) (hu : X.A.units + 1 < cLine) (hN : X.N[i]? = some x := by rfl)
    (hv : Vis X.env.scope x := by first | exact Or.inl rfl | exact Or.inr (Or.inl rfl) | exact Or.inr (Or.inr rfl)) (hd : (x == ("__debug__" : Str)) = false := by decide) (hcd : (x == ("__classdict__" : Str)) = false := by decide)
    (hs : swapsWith e (some (.Subscript (.Name x p) b pos')) pos.line X.env = pure false := by rfl) : DSt X T W U (.Assign [.Subscript (.Name x p) b pos'] e pos) ds E :=
  (ps_dput hu (pe_var hN hv hd hcd) hb he hs).weak fun D σ H ⟨I0, H0, I, en, k1, _⟩ => ⟨I0, H0, I, en, fun v I1 H1 s1 r1 => by
    obtain ⟨a, fs, e1, e2, e3, e4, e5⟩ := (en.step s1).ownD h
    refine ⟨_, e1, I0, H0, I1, en.step s1, fun w I2 H2 s2 r2 => ?_⟩
    cases r2
    have a1 := s2.keep a _ e2 (fun _ z => nomatch z)
    have a2 := s2.fresh a e4 (by rw [e2]; exact fun z => nomatch z)
    obtain ⟨fs', z1, z2⟩ := put_rep (k := k) (e3.mono s2.isub) (Rep.mono s2.isub r1)
    refine ⟨a, _, rfl, .inl ⟨_, Sum.inr k, a1, rfl, ?_, rfl⟩, ?_⟩
    · rw [kvK, List.length_map, e3.len]
      exact Nat.lt_of_lt_of_le hl (by decide)
    · rw [z1]
      refine k1 _ _ ⟨_, I2, ((en.step s1).step s2).mutOwn (d' := .ownD (putD kvs k d)) e1 h rfl rfl a2 e5 (by rw [a1]; exact ownNd) ⟨a, fs', rfl, upd_same, z2, a2, e5⟩, (s1.trans s2).pres.trans (Pres.own a2 a1 fun _ _ z => nomatch z), q⟩⟩
end
/-! ### two, three targets at once -/
section
variable {a b c : Expr} {x y z : Str} {px py pz pt pos pt2 : Pos} {kt k2 : Nat} {s1 s2 s3 : DS}
theorem ds_par2 (i j : Nat) (ha : DV X T U a ds s1) (hb : DV X T U b ds s2) (k : E.nx ((ds.set i s1).set j s2)) (hN : X.N.Nodup) (hij : i ≠ j)
    (hp : PS X (.Assign [.Tuple [.Name x px, .Name y py] kt pt] (.Tuple [a, b] k2 pt2) pos) (tPar i j (tCons (eV (gx X T) U ds s1) (tCons (eV (gx X T) U ds s2) tNil)))) : DSt X T W U (.Assign [.Tuple [.Name x px, .Name y py] kt pt] (.Tuple [a, b] k2 pt2) pos) ds E :=
  hp.weak fun D σ H ⟨I0, H0, I, en, k1, _⟩ => ⟨I0, H0, I, en, fun v I1 H1 q1 r1 => ⟨I0, H0, I1, en.step q1, fun w I2 H2 q2 r2 => ⟨v, w, rfl, k1 _ H2 ⟨_, I2, ((en.setV q1 i r1).setV q2 j r2), (q1.trans q2).pres, k⟩⟩⟩⟩
/-- the tuple is made, then taken apart -/
theorem ds_par2t (i j : Nat) (ha : DV X T U a ds s1) (hb : DV X T U b ds s2) (k : E.nx ((ds.set i s1).set j s2))
    (hp : PS X (.Assign [.Tuple [.Name x px, .Name y py] kt pt] (.Tuple [a, b] k2 pt2) pos) (tAsg (tTup (tCons (eV (gx X T) U ds s1) (tCons (eV (gx X T) U ds s2) tNil))) (gTup X.K 2 (gCons (gName i) (gCons (gName j) gNil))))) : DSt X T W U (.Assign [.Tuple [.Name x px, .Name y py] kt pt] (.Tuple [a, b] k2 pt2) pos) ds E :=
  hp.weak fun D σ H ⟨I0, H0, I, en, k1, _⟩ => ⟨I0, H0, I, en, fun v I1 H1 q1 r1 => ⟨I0, H0, I1, en.step q1, fun w I2 H2 q2 r2 => ⟨(by decide : 2 ≤ sizeLine), fun p hp => by
    have q3 : Step (gx X T) I2 H2 I2 (upd H2 p (.tup [v, w])) := Step.newOwn q2.sub hp
    exact ⟨p, [v, w], rfl, SqT.of upd_same, rfl, v, [w], rfl, w, [], rfl, rfl, k1 _ _ ⟨_, I2, ((en.setV q1 i r1).setV q2 j r2).step q3, ((q1.trans q2).trans q3).pres, k⟩⟩⟩⟩⟩
theorem ds_par3 (i j l : Nat) (ha : DV X T U a ds s1) (hb : DV X T U b ds s2) (hc : DV X T U c ds s3) (k : E.nx (((ds.set i s1).set j s2).set l s3))
    (hp : PS X (.Assign [.Tuple [.Name x px, .Name y py, .Name z pz] kt pt] (.Tuple [a, b, c] k2 pt2) pos) (tPar3 i j l (tCons (eV (gx X T) U ds s1) (tCons (eV (gx X T) U ds s2) (tCons (eV (gx X T) U ds s3) tNil))))) : DSt X T W U (.Assign [.Tuple [.Name x px, .Name y py, .Name z pz] kt pt] (.Tuple [a, b, c] k2 pt2) pos) ds E :=
  hp.weak fun D σ H ⟨I0, H0, I, en, k1, _⟩ => ⟨I0, H0, I, en, fun v I1 H1 q1 r1 => ⟨I0, H0, I1, en.step q1, fun w I2 H2 q2 r2 => ⟨I0, H0, I2, (en.step q1).step q2, fun u I3 H3 q3 r3 =>
    ⟨v, w, u, rfl, k1 _ H3 ⟨_, I3, (((en.setV q1 i r1).setV q2 j r2).setV q3 l r3), ((q1.trans q2).trans q3).pres, k⟩⟩⟩⟩⟩
theorem ds_par3t (i j l : Nat) (ha : DV X T U a ds s1) (hb : DV X T U b ds s2) (hc : DV X T U c ds s3) (k : E.nx (((ds.set i s1).set j s2).set l s3))
    (hp : PS X (.Assign [.Tuple [.Name x px, .Name y py, .Name z pz] kt pt] (.Tuple [a, b, c] k2 pt2) pos) (tAsg (tTup (tCons (eV (gx X T) U ds s1) (tCons (eV (gx X T) U ds s2) (tCons (eV (gx X T) U ds s3) tNil)))) (gTup X.K 3 (gCons (gName i) (gCons (gName j) (gCons (gName l) gNil)))))) :
    DSt X T W U (.Assign [.Tuple [.Name x px, .Name y py, .Name z pz] kt pt] (.Tuple [a, b, c] k2 pt2) pos) ds E :=
  hp.weak fun D σ H ⟨I0, H0, I, en, k1, _⟩ => ⟨I0, H0, I, en, fun v I1 H1 q1 r1 => ⟨I0, H0, I1, en.step q1, fun w I2 H2 q2 r2 => ⟨I0, H0, I2, (en.step q1).step q2, fun u I3 H3 q3 r3 => ⟨(by decide : 3 ≤ sizeLine), fun p hp => by
    have q4 : Step (gx X T) I3 H3 I3 (upd H3 p (.tup [v, w, u])) := Step.newOwn q3.sub hp
    exact ⟨p, [v, w, u], rfl, SqT.of upd_same, rfl, v, [w, u], rfl, w, [u], rfl, u, [], rfl, rfl, k1 _ _ ⟨_, I3, (((en.setV q1 i r1).setV q2 j r2).setV q3 l r3).step q4, (((q1.trans q2).trans q3).trans q4).pres, k⟩⟩⟩⟩⟩⟩
end
end
end Lp

/-! Defs by names; texts' lengths; what is often asked. -/
namespace Lp
open PySem PySem.Spec PyProof.Rows L2
def noFd : FuncData := PySem.W.fnOf "" "" { posonlyargs := [], args := [], vararg := none, kwonlyargs := [], kw_defaults := [], kwarg := none, defaults := [] } [] { kind := .function, names := [], isGenerator := false, isCoroutine := false } .none .none .none .none none .none .none
def fdOf (K : PySem.W.Frag) (f : Addr) : FuncData := match K.lookup f with
  | some ⟨_, _, .func fd, _⟩ => fd
  | _ => noFd
theorem funD_of {K : PySem.W.Frag} {x q : Str} {ps : Arguments} {b : List Stmt} {sc : Scope} {dv : List V} {kw : List (Str × V)} {f : Addr} (h : ∃ fd, FunD K x q ps b sc dv kw f fd) : FunD K x q ps b sc dv kw f (fdOf K f) := by
  obtain ⟨fd, F⟩ := h
  have e : fdOf K f = fd := by
    obtain ⟨oc, od, dV, kV, doc, pm, an, cdv, ct, osl, e1, lk, _⟩ := F.ex
    unfold fdOf
    rw [lk]
  rw [e]
  exact F
/-- a def by its name, with what it does -/
structure CallD (G : Glb) (k : Nat) (x : Str) (ps : List Str) (U : Bool) (A : List D → DS → Prop) : Prop where
  ok : FnOk G.P G.w G.K G.mg G.base CX0 k (He.ga G.K x) (fdOf G.K (He.ga G.K x)) ps (spD G U A)
  g : G.mg x = some (.ref (He.ga G.K x))
  n : L2.Binds G.K (fdOf G.K (He.ga G.K x)) ps []
  kp : PySem.W.keepIn G.K (.ref (He.ga G.K x)) = true
section
variable {X : Cx} {T : List NdefX.NTab} {W : WX} {U U' : Bool} {ds : List DS} {s : DS} {E : DEn}
theorem dv_c {A : List D → DS → Prop} {k j : Nat} {ps : List Str} {x : Str} {p pos : Pos} {e : Expr} {es : List Expr} {xs : List D} (C : CallD (gx X T) k x ps U' A) (hr : Room j X.A) (ha : DA X T U (e :: es) ds xs) (hA : A xs s) (hU : U' = true → U = true := by first | exact id | exact fun z => nomatch z) (hk : k ≤ j := by decide)
    (hg : Gl X x := by rfl) (hdb : (x == ("__debug__" : Str)) = false := by decide) (he : starEach (e :: es) X.env = (false, eval e X.env) :: starEach es X.env := by rfl) (hpl : (backTo pos (starEach es X.env)).any (·.1) = false := by rfl) : DV X T U (.Call (.Name x p) (e :: es) [] pos) ds s :=
  dv_call C.ok hU (hr.mono hk) hg C.g C.kp C.n ha hA hdb he hpl
theorem dv_c0 {A : List D → DS → Prop} {k j : Nat} {ps : List Str} {x : Str} {p pos : Pos} (C : CallD (gx X T) k x ps U' A) (hr : Room j X.A) (hA : A [] s) (hU : U' = true → U = true := by first | exact id | exact fun z => nomatch z) (hk : k ≤ j := by decide)
    (hg : Gl X x := by rfl) (hdb : (x == ("__debug__" : Str)) = false := by decide) : DV X T U (.Call (.Name x p) [] [] pos) ds s :=
  dv_call0 C.ok hU (hr.mono hk) hg C.g C.kp C.n hA hdb
end
/-! ### items of tuples, filterMap -/
def D.at (d : D) (i : Nat) : D := match d with
  | .tup xs => xs.getD i .non
  | _ => .non
theorem fm_map {α β : Type} {f : α → Option β} {h : α → β} : ∀ {l : List α}, (∀ a ∈ l, f a = some (h a)) → l.filterMap f = l.map h
  | [], _ => rfl
  | a :: l, q => by
    rw [List.filterMap_cons, q a List.mem_cons_self, List.map_cons, fm_map fun b hb => q b (List.mem_cons_of_mem _ hb)]
theorem fm_filter {α β γ : Type} {f : β → Option γ} {e : α → β} {p : α → Bool} {h : α → γ} : ∀ {l : List α}, (∀ a ∈ l, f (e a) = if p a = true then some (h a) else none) → (l.map e).filterMap f = (l.filter p).map h
  | [], _ => rfl
  | a :: l, q => by
    have q1 := q a List.mem_cons_self
    rw [List.map_cons, List.filterMap_cons, q1, List.filter_cons, fm_filter (p := p) (h := h) fun b hb => q b (List.mem_cons_of_mem _ hb)]
    by_cases c : p a = true
    · rw [if_pos c, if_pos c, List.map_cons]
    · rw [if_neg c, if_neg c]
/-- enumerate of typed items -/
def enE {α : Type} (e : α → D) (p : α × Nat) : D := .tup [.int (p.2 : Int), e p.1]
theorem enumD_map {α : Type} (e : α → D) (l : List α) : enumD (l.map e) = l.zipIdx.map (enE e) := by
  apply List.ext_getElem?
  intro i
  unfold enumD
  rw [List.getElem?_map, List.getElem?_map, List.getElem?_zipIdx, List.length_map]
  by_cases h : i < l.length
  · rw [List.getElem?_eq_getElem (by rw [List.length_range]; exact h), List.getElem_range, List.getElem?_eq_getElem h]
    show some (D.tup [.int (i : Int), (l.map e).getD i .non]) = some (enE e (l[i], 0 + i))
    rw [List.getD_eq_getElem?_getD, List.getElem?_map, List.getElem?_eq_getElem h, Nat.zero_add]
    rfl
  · rw [List.getElem?_eq_none_iff.mpr (by rw [List.length_range]; omega), List.getElem?_eq_none_iff.mpr (by omega)]
    rfl
theorem zi_get {α : Type} {l : List α} {i : Nat} {p : α × Nat} (h : l.zipIdx[i]? = some p) : p.2 = i ∧ l[i]? = some p.1 := by
  rw [List.getElem?_zipIdx] at h
  cases e : l[i]? with
  | none => rw [e] at h; cases h
  | some a =>
    rw [e] at h
    have q := (Option.some.inj h).symm
    subst q
    exact ⟨Nat.zero_add i, rfl⟩
theorem enum_mem {xs : List D} {d : D} (h : d ∈ enumD xs) : ∃ (i : Nat) (x : D), xs[i]? = some x ∧ d = .tup [.int (i : Int), x] := by
  obtain ⟨i, hi⟩ := List.mem_iff_getElem?.mp h
  obtain ⟨x, h1, h2⟩ := enumD_get hi
  exact ⟨i, x, h1, h2⟩
theorem enum_fm {γ : Type} {xs : List D} {f : D → Option γ} {h : Nat → γ} (q : ∀ (i : Nat) (x : D), xs[i]? = some x → f (.tup [.int (i : Int), x]) = some (h i)) : (enumD xs).filterMap f = (List.range xs.length).map h := by
  unfold enumD
  rw [List.filterMap_map]
  refine fm_map fun i hi => ?_
  have hl := List.mem_range.mp hi
  have e := q i xs[i] (List.getElem?_eq_getElem hl)
  show f (.tup [.int (i : Int), xs.getD i .non]) = _
  rw [List.getD_eq_getElem?_getD, List.getElem?_eq_getElem hl]
  exact e
/-! ### slots forgotten -/
def forg (fs : List Nat) (ds : List DS) : List DS := fs.foldl (fun d i => d.set i .no) ds
theorem EnvR.forg {G : Glb} {U : Bool} {I0 H0 I H : Hp} {σ : L2.St} : ∀ (fs : List Nat) {ds : List DS}, EnvR G U I0 H0 I H σ ds → EnvR G U I0 H0 I H σ (Lp.forg fs ds)
  | [], _, e => e
  | i :: fs, _, e => EnvR.forg fs (e.forget i)
section
variable {X : Cx} {T : List NdefX.NTab} {W : WX} {U : Bool} {ds : List DS} {s : DS} {E : DEn}
theorem NxR.forg {G : Glb} {I0 H0 I H : Hp} {P : List DS → Prop} {σ' : L2.St} {H' : Hp} (fs : List Nat) (n : NxR G U I0 H0 I H (fun d => P (Lp.forg fs d)) σ' H') : NxR G U I0 H0 I H P σ' H' := by
  obtain ⟨d, I1, e, p, q⟩ := n
  exact ⟨_, I1, e.forg fs, p, q⟩
/-- the rest may be shown with slots forgotten -/
theorem dss_forg (fs : List Nat) {sts : List Stmt} (h : DSs X T W U sts (forg fs ds) E) : DSs X T W U sts ds E := PSs.weak h fun D σ H ⟨I0, H0, I, e, k⟩ => ⟨I0, H0, I, e.forg fs, k⟩
theorem dss_wk (fs : List Nat) (fc : List Nat) {sts : List Stmt} {P Q : List DS → Prop} (h : DSs X T W U sts ds { E with nx := fun d => P (forg fs d), ct := fun d => Q (forg fc d) }) : DSs X T W U sts ds { E with nx := P, ct := Q } :=
  PSs.weak h fun D σ H ⟨I0, H0, I, e, k1, k2, k3, k4, k5⟩ => ⟨I0, H0, I, e, fun s h n => k1 s h (n.forg fs), k2, k3, fun s h n => k4 s h (n.forg fc), k5⟩
theorem ds_forg (fs : List Nat) {st : Stmt} (h : DSt X T W U st (forg fs ds) E) : DSt X T W U st ds E := PS.weak h fun D σ H ⟨I0, H0, I, e, k⟩ => ⟨I0, H0, I, e.forg fs, k⟩
/-- a loop whose slots are known turn by turn: env i ahead of the turn i, but for those at fs -/
theorem ds_forE {α : Type} {e : α → D} {tg iter : Expr} {body : List Stmt} {pos : Pos} {xs : List α} (fs : List Nat) (env : Nat → List DS) (g : α → List DS → List DS) {js : List Nat} (h0 : forg fs ds = env 0) (hi : DI X T U tg iter (env 0) (xs.map e)) (hg : ∀ d ∈ xs, ∀ ds1, DG X T U tg ds1 (e d) (g d ds1) js)
    (hb : ∀ (i : Nat) (d : α), xs[i]? = some d → DSs X T W U body (g d (env i)) { E with nx := fun ds2 => forg fs ds2 = env (i + 1), ct := fun ds2 => forg fs ds2 = env (i + 1), bk := E.nx }) (hd : E.nx (env xs.length))
    (hp : PassesOwn (model X.prog X.w) X.A X.env X.xe) (hc : X.calm = true := by rfl) (hs : ∀ x, foldedSetIterable iter X.env x = pure x := by intro _; rfl) : DSt X T W U (.For tg iter body [] pos) ds E := by
  refine ds_forg fs ?_
  rw [h0]
  refine ds_for (fun i ds1 => ds1 = env i) g hi hg rfl (fun i d ds1 hx he => ?_) (fun ds1 he => ?_) hp hc hs
  · rw [he]
    exact dss_wk (E := { E with bk := E.nx }) (P := fun ds2 => ds2 = env (i + 1)) (Q := fun ds2 => ds2 = env (i + 1)) fs fs (hb i d hx)
  · rw [he]
    exact hd
/-- over a range -/
theorem ds_forR {tg iter : Expr} {body : List Stmt} {pos : Pos} {lo : Int} {n : Nat} (fs : List Nat) (env : Nat → List DS) (g : Nat → List DS → List DS) {js : List Nat} (h0 : forg fs ds = env 0) (hi : DI X T U tg iter (env 0) (rngD lo n)) (hg : ∀ i ∈ List.range n, ∀ ds1, DG X T U tg ds1 (.int (lo + (i : Int))) (g i ds1) js)
    (hb : ∀ i, i < n → DSs X T W U body (g i (env i)) { E with nx := fun ds2 => forg fs ds2 = env (i + 1), ct := fun ds2 => forg fs ds2 = env (i + 1), bk := E.nx }) (hd : E.nx (env n))
    (hp : PassesOwn (model X.prog X.w) X.A X.env X.xe) (hc : X.calm = true := by rfl) (hs : ∀ x, foldedSetIterable iter X.env x = pure x := by intro _; rfl) : DSt X T W U (.For tg iter body [] pos) ds E :=
  ds_forE (α := Nat) (e := fun i : Nat => .int (lo + (i : Int))) (xs := List.range n) fs env g h0 hi hg (fun i d hd => by
    obtain ⟨h1, rfl⟩ := rng_get hd
    exact hb _ h1) (by rw [List.length_range]; exact hd) hp hc hs
/-- over the enumeration of typed items -/
theorem ds_forN {α : Type} {e : α → D} {tg iter : Expr} {body : List Stmt} {pos : Pos} {xs : List α} (fs : List Nat) (env : Nat → List DS) (g : Nat → α → List DS → List DS) {js : List Nat} (h0 : forg fs ds = env 0) (hi : DI X T U tg iter (env 0) (enumD (xs.map e)))
    (hg : ∀ (i : Nat) (a : α), xs[i]? = some a → ∀ ds1, DG X T U tg ds1 (.tup [.int (i : Int), e a]) (g i a ds1) js)
    (hb : ∀ (i : Nat) (a : α), xs[i]? = some a → DSs X T W U body (g i a (env i)) { E with nx := fun ds2 => forg fs ds2 = env (i + 1), ct := fun ds2 => forg fs ds2 = env (i + 1), bk := E.nx }) (hd : E.nx (env xs.length))
    (hp : PassesOwn (model X.prog X.w) X.A X.env X.xe) (hc : X.calm = true := by rfl) (hs : ∀ x, foldedSetIterable iter X.env x = pure x := by intro _; rfl) : DSt X T W U (.For tg iter body [] pos) ds E :=
  ds_forE (α := α × Nat) (e := enE e) (xs := xs.zipIdx) fs env (fun p => g p.2 p.1) h0 (by rw [← enumD_map]; exact hi) (fun p hp ds1 => by
    obtain ⟨i, hi⟩ := List.mem_iff_getElem?.mp hp
    obtain ⟨h1, h2⟩ := zi_get hi
    exact hg p.2 p.1 (by rw [h1]; exact h2) ds1) (fun i p hd => by
    obtain ⟨h1, h2⟩ := zi_get hd
    rw [h1]
    exact hb i p.1 h2) (by rw [List.length_zipIdx]; exact hd) hp hc hs
end
/-! ### several targets, with their sides -/
section
variable {X : Cx} {T : List NdefX.NTab} {W : WX} {U : Bool} {ds : List DS} {s : DS} {E : DEn} {a b c : Expr} {x y z : Str} {px py pz pt pos pt2 : Pos} {kt k2 : Nat} {s1 s2 s3 : DS}
/-- two plain names -/
theorem ds_p2 (i j : Nat) (ha : DV X T U a ds s1) (hb : DV X T U b ds s2) (k : E.nx ((ds.set i s1).set j s2)) (hN : X.N.Nodup) (hij : i ≠ j := by decide) (hc : X.calm = true := by rfl) (hi : X.N[i]? = some x := by rfl) (hj : X.N[j]? = some y := by rfl)
    (hx : X.env.scope.names.lookup x = some .local := by rfl) (hy : X.env.scope.names.lookup y = some .local := by rfl) (he : starEach [a, b] X.env = (false, eval a X.env) :: starEach [b] X.env := by rfl) (he2 : starEach [b] X.env = (false, eval b X.env) :: starEach [] X.env := by rfl)
    (hw : swappedStores [.Tuple [.Name x px, .Name y py] kt pt] (.Tuple [a, b] k2 pt2) X.env = pure (some [x, y]) := by rfl) (hs : swapsWithSole [.Tuple [.Name x px, .Name y py] kt pt] (.Tuple [a, b] k2 pt2) pos.line X.env = pure false := by rfl) :
    DSt X T W U (.Assign [.Tuple [.Name x px, .Name y py] kt pt] (.Tuple [a, b] k2 pt2) pos) ds E :=
  ds_par2 i j ha hb k hN hij (ps_par hc hN hi hj hij hx hy (pa_cons ha (pa_cons hb pa_nil he2) he) hw hs)
/-- two names, one at least a cell -/
theorem ds_p2t (i j : Nat) (ha : DV X T U a ds s1) (hb : DV X T U b ds s2) (k : E.nx ((ds.set i s1).set j s2)) (hN : X.N.Nodup) (hc : X.calm = true := by rfl) (hi : X.N[i]? = some x := by rfl) (hj : X.N[j]? = some y := by rfl)
    (hx : Loc X.env.scope x := by first | exact Or.inl rfl | exact Or.inr rfl) (hy : Loc X.env.scope y := by first | exact Or.inl rfl | exact Or.inr rfl) (hfx : X.fn x = true ∨ X.env.scope.names.lookup x = some .local := by first | exact .inl rfl | exact .inr rfl) (hfy : X.fn y = true ∨ X.env.scope.names.lookup y = some .local := by first | exact .inl rfl | exact .inr rfl)
    (he : starEach [a, b] X.env = (false, eval a X.env) :: starEach [b] X.env := by rfl) (he2 : starEach [b] X.env = (false, eval b X.env) :: starEach [] X.env := by rfl)
    (hw : swappedStores [.Tuple [.Name x px, .Name y py] kt pt] (.Tuple [a, b] k2 pt2) X.env = pure none := by rfl) (hs : swapsWithSole [.Tuple [.Name x px, .Name y py] kt pt] (.Tuple [a, b] k2 pt2) pos.line X.env = pure false := by rfl)
    (h2 : (assignEach [.Name y py] X.env).map (·.2) = assign (.Name y py) X.env :: (assignEach [] X.env).map (·.2) := by rfl) (h1 : (assignEach [.Name x px, .Name y py] X.env).map (·.2) = assign (.Name x px) X.env :: (assignEach [.Name y py] X.env).map (·.2) := by rfl)
    (hn : (assignEach [.Name x px, .Name y py] X.env).length = 2 := by rfl) (hst : (assignEach [.Name x px, .Name y py] X.env).findIdx? (·.1) = none := by rfl) :
    DSt X T W U (.Assign [.Tuple [.Name x px, .Name y py] kt pt] (.Tuple [a, b] k2 pt2) pos) ds E :=
  ds_par2t i j ha hb k (ps_asg (pe_tup (pa_cons ha (pa_cons hb pa_nil he2) he)) (pg_tup hc (pgs_cons (pg_name hN hi hx hfx) (pgs_cons (pg_name hN hj hy hfy) pgs_nil h2) h1) hn hst) hs hw)
theorem ds_p3 (i j l : Nat) (ha : DV X T U a ds s1) (hb : DV X T U b ds s2) (hd : DV X T U c ds s3) (k : E.nx (((ds.set i s1).set j s2).set l s3)) (hN : X.N.Nodup) (hij : i ≠ j := by decide) (hil : i ≠ l := by decide) (hjl : j ≠ l := by decide) (hc : X.calm = true := by rfl) (hi : X.N[i]? = some x := by rfl) (hj : X.N[j]? = some y := by rfl) (hl : X.N[l]? = some z := by rfl)
    (hx : X.env.scope.names.lookup x = some .local := by rfl) (hy : X.env.scope.names.lookup y = some .local := by rfl) (hz : X.env.scope.names.lookup z = some .local := by rfl) (he : starEach [a, b, c] X.env = (false, eval a X.env) :: starEach [b, c] X.env := by rfl) (he2 : starEach [b, c] X.env = (false, eval b X.env) :: starEach [c] X.env := by rfl) (he3 : starEach [c] X.env = (false, eval c X.env) :: starEach [] X.env := by rfl)
    (hw : swappedStores [.Tuple [.Name x px, .Name y py, .Name z pz] kt pt] (.Tuple [a, b, c] k2 pt2) X.env = pure (some [x, y, z]) := by rfl) (hs : swapsWithSole [.Tuple [.Name x px, .Name y py, .Name z pz] kt pt] (.Tuple [a, b, c] k2 pt2) pos.line X.env = pure false := by rfl) :
    DSt X T W U (.Assign [.Tuple [.Name x px, .Name y py, .Name z pz] kt pt] (.Tuple [a, b, c] k2 pt2) pos) ds E :=
  ds_par3 i j l ha hb hd k (ps_par3 hc hN hi hj hl hij hil hjl hx hy hz (pa_cons ha (pa_cons hb (pa_cons hd pa_nil he3) he2) he) hw hs)
theorem ds_p3t (i j l : Nat) (ha : DV X T U a ds s1) (hb : DV X T U b ds s2) (hd : DV X T U c ds s3) (k : E.nx (((ds.set i s1).set j s2).set l s3)) (hN : X.N.Nodup) (hc : X.calm = true := by rfl) (hi : X.N[i]? = some x := by rfl) (hj : X.N[j]? = some y := by rfl) (hl : X.N[l]? = some z := by rfl)
    (hx : Loc X.env.scope x := by first | exact Or.inl rfl | exact Or.inr rfl) (hy : Loc X.env.scope y := by first | exact Or.inl rfl | exact Or.inr rfl) (hz : Loc X.env.scope z := by first | exact Or.inl rfl | exact Or.inr rfl) (hfx : X.fn x = true ∨ X.env.scope.names.lookup x = some .local := by first | exact .inl rfl | exact .inr rfl)
    (hfy : X.fn y = true ∨ X.env.scope.names.lookup y = some .local := by first | exact .inl rfl | exact .inr rfl) (hfz : X.fn z = true ∨ X.env.scope.names.lookup z = some .local := by first | exact .inl rfl | exact .inr rfl)
    (he : starEach [a, b, c] X.env = (false, eval a X.env) :: starEach [b, c] X.env := by rfl) (he2 : starEach [b, c] X.env = (false, eval b X.env) :: starEach [c] X.env := by rfl) (he3 : starEach [c] X.env = (false, eval c X.env) :: starEach [] X.env := by rfl)
    (hw : swappedStores [.Tuple [.Name x px, .Name y py, .Name z pz] kt pt] (.Tuple [a, b, c] k2 pt2) X.env = pure none := by rfl) (hs : swapsWithSole [.Tuple [.Name x px, .Name y py, .Name z pz] kt pt] (.Tuple [a, b, c] k2 pt2) pos.line X.env = pure false := by rfl)
    (h3 : (assignEach [.Name z pz] X.env).map (·.2) = assign (.Name z pz) X.env :: (assignEach [] X.env).map (·.2) := by rfl) (h2 : (assignEach [.Name y py, .Name z pz] X.env).map (·.2) = assign (.Name y py) X.env :: (assignEach [.Name z pz] X.env).map (·.2) := by rfl)
    (h1 : (assignEach [.Name x px, .Name y py, .Name z pz] X.env).map (·.2) = assign (.Name x px) X.env :: (assignEach [.Name y py, .Name z pz] X.env).map (·.2) := by rfl) (hn : (assignEach [.Name x px, .Name y py, .Name z pz] X.env).length = 3 := by rfl) (hst : (assignEach [.Name x px, .Name y py, .Name z pz] X.env).findIdx? (·.1) = none := by rfl) :
    DSt X T W U (.Assign [.Tuple [.Name x px, .Name y py, .Name z pz] kt pt] (.Tuple [a, b, c] k2 pt2) pos) ds E :=
  ds_par3t i j l ha hb hd k (ps_asg (pe_tup (pa_cons ha (pa_cons hb (pa_cons hd pa_nil he3) he2) he)) (pg_tup hc (pgs_cons (pg_name hN hi hx hfx) (pgs_cons (pg_name hN hj hy hfy) (pgs_cons (pg_name hN hl hz hfz) pgs_nil h3) h2) h1) hn hst) hs hw)
/-- x[e] = e', x a list of one's own -/
theorem ds_setI (i : Nat) {e ei : Expr} {p p2 : Pos} {d : D} {xs : List D} {j : Int} {n : Nat} (h : ds[i]? = some (.own xs)) (hi : DE X T U ei ds (.int j)) (he : DE X T U e ds d) (hj : ixN xs.length j = some n) (k : E.nx (ds.set i (.own (xs.set n d)))) (hN : X.N[i]? = some x := by rfl)
    (hv : Vis X.env.scope x := by first | exact Or.inl rfl | exact Or.inr (Or.inl rfl) | exact Or.inr (Or.inr rfl)) (hd : (x == ("__debug__" : Str)) = false := by decide) (hcd : (x == ("__classdict__" : Str)) = false := by decide)
    (ha : ∀ v, assign (.Subscript (.Name x p2) ei p) X.env v = (do
      let ov ← holding [v] (eval (.Name x p2) X.env)
      let iv ← holding [v, ov] (eval ei X.env)
      standAt p
      holding [v, ov, iv] (setItem ov iv v)
      release [v, ov, iv] []) := by intro _; rfl)
    (hs : swapsWithSole [.Subscript (.Name x p2) ei p] e pos.line X.env = pure false := by rfl) (hw : swappedStores [.Subscript (.Name x p2) ei p] e X.env = pure none := by rfl) : DSt X T W U (.Assign [.Subscript (.Name x p2) ei p] e pos) ds E :=
  ds_setL i h (pg_sub (pe_var hN hv hd hcd) hi set_list ha) he hj k hs hw
end
/-! ### texts -/
theorem str_len (z : Str) : z.length = z.cps.toList.length := by
  show z.cps.size = _
  simp
end Lp

/-! Errors; signs of a text walked. -/
namespace Lp
open PySem PySem.Spec PyProof.Rows L2
/-! ### a text's signs -/
def sgD (z : Str) : List D := z.cps.toList.map fun c => D.str ⟨#[c]⟩
theorem goes_str {G : Glb} {z : Str} {I H : Hp} : Goes G (Its z) I H (sgD z) := fun I1 H1 ps rd i => by
  unfold sgD
  refine ⟨fun hi => ?_, fun d hd => ?_⟩
  · rw [List.length_map] at hi
    show z.cps.size ≤ i
    simpa using hi
  · rw [List.getElem?_map] at hd
    cases e : z.cps.toList[i]? with
    | none => rw [e] at hd; cases hd
    | some c =>
      rw [e] at hd
      obtain rfl := (Option.some.inj hd).symm
      have e2 : z.cps[i]? = some c := by rw [← Array.getElem?_toList]; exact e
      have hlt := (Array.getElem?_eq_some_iff.mp e2).1
      refine ⟨hlt, fun x H2 ⟨h1, c', h2, h3⟩ => ?_⟩
      subst h1
      rw [e2] at h2
      cases h2
      subst h3
      exact ⟨I1, Step.refl rd, .str _⟩
section
variable {X : Cx} {T : List NdefX.NTab} {W : WX} {U U' : Bool} {ds : List DS} {s : DS} {E : DEn}
theorem di_str {tg iter : Expr} {z : Str} (h : DE X T U iter ds (.str z)) : DI X T U tg iter ds (sgD z) := by
  have q := pi_str (tg := tg) h
  refine ⟨fun pins s σ H R I ⟨I0, H0, I1, en, k⟩ => q.run pins s σ H R I ⟨I0, H0, I1, en, fun v I2 H2 s2 r2 => ?_⟩⟩
  cases r2
  exact ⟨z, rfl, k _ I2 H2 s2 goes_str⟩
end
/-! ### what a call gives: a value or an error -/
inductive XR where
  | val (s : DS)
  | exc (C : Str) (fs : List (Str × D))
def spX (G : Glb) (U : Bool) (A : List D → XR → Prop) : Sp := fun vs H Q E => ∃ I xs r, RdS I H ∧ (U = true → Same I H) ∧ NdefX.TabsN G.T H ∧ Reps G I vs xs ∧ A xs r ∧ match r with
  | .val s => ∀ v H', RetR G I H v H' s → Q v H'
  | .exc C fs => ∀ d I' H', Step G I H I' H' → ExcR G H I' H' d fs → E (.ref (He.ga G.K C)) d H'
/-- a def that may let errors out -/
theorem okX {G : Glb} {U : Bool} {x qual : Str} {params : Arguments} {body : List Stmt} {scope : Scope} {f : Addr} {fd : FuncData} {N ps : List Str} {k : Nat} {A : List D → XR → Prop} (F : FunD G.K x qual params body scope [] [] f fd) (S : FnScope N ps scope)
    (hA : ∀ xs r, A xs r → xs.length = ps.length)
    (hb : ∀ (cdv : Value) (Ar : Around) (outer : List Env) (s : Shared) (H : Hp) (E : XK), Room k (Ar.deeper (envOfC qual scope s.heap.objs.size f cdv)) → Takes (cxOf (L2.CX G.P G.w) G.P G.w G.K G.mg G.base N qual scope f cdv Ar outer s H E) (fun cls d _ H => E cls d H) → ∀ xs r, A xs r →
      DSs (cxOf (L2.CX G.P G.w) G.P G.w G.K G.mg G.base N qual scope f cdv Ar outer s H E) G.T (fun cls d _ H => E cls d H) U body (startD N.length xs) { nx := fun _ => r = .val (.im .non), rt := fun t => r = .val t ∨ r = .val t.fz, xs := fun C fs _ => r = .exc C fs }) :
    FnOk G.P G.w G.K G.mg G.base (L2.CX G.P G.w) (k + 1) f fd ps (spX G U A) := by
  refine F.ok S (fun vs H Q E ⟨I, xs, r, _, _, _, rs, hAx, _⟩ => by rw [rs.len]; exact hA xs r hAx) (fun cdv Ar outer s H vs Q E hr ⟨I, xs, r, rd, un, tb, rs, hAx, k⟩ => ?_)
  have h := hb cdv Ar outer s H E hr (takes_of rfl rfl rfl rfl) xs r hAx
  have hl : xs.length ≤ N.length := by
    have e1 := S.pre
    have e2 := hA xs r hAx
    rw [e2, ← e1, List.length_take]
    exact Nat.min_le_right _ _
  refine ⟨_, h, I, H, I, env_start (G := G) rd un tb rs hl, ?_, ?_, ?_, ?_, ?_⟩
  · rintro σ' H' ⟨ds', I', e', p', q⟩
    have q2 : r = .val (.im .non) := q
    subst q2
    exact k .non H' ⟨I', e'.st, Rep.non⟩
  · rintro v H' t hr ht
    rcases ht with q2 | q2
    · subst q2
      exact k v H' hr
    · subst q2
      exact k v H' hr.fz
  · rintro _ _ ⟨_, _, _, _, q⟩
    exact q
  · rintro _ _ ⟨_, _, _, _, q⟩
    exact q
  · rintro C fs d σ' H' ⟨ds', I', e', p', x', q⟩
    have q2 : r = .exc C fs := q
    subst q2
    exact k d I' H' e'.st x'
structure CallX (G : Glb) (k : Nat) (x : Str) (ps : List Str) (U : Bool) (A : List D → XR → Prop) : Prop where
  ok : FnOk G.P G.w G.K G.mg G.base (L2.CX G.P G.w) k (He.ga G.K x) (fdOf G.K (He.ga G.K x)) ps (spX G U A)
  g : G.mg x = some (.ref (He.ga G.K x))
  n : L2.Binds G.K (fdOf G.K (He.ga G.K x)) ps []
  kp : PySem.W.keepIn G.K (.ref (He.ga G.K x)) = true
/-- an expression that raises -/
def xV (G : Glb) (W : WX) (U : Bool) (ds : List DS) (C : Str) (fs : List (Str × D)) : TE := fun σ H _ => ∃ I0 H0 I, EnvR G U I0 H0 I H σ ds ∧ ∀ d I' H', Step G I H I' H' → ExcR G H I' H' d fs → W (.ref (He.ga G.K C)) d σ H'
abbrev DX (X : Cx) (T : List NdefX.NTab) (W : WX) (U : Bool) (e : Expr) (ds : List DS) (C : Str) (fs : List (Str × D)) : Prop := PE X e (xV (gx X T) W U ds C fs)
theorem ExcR.later {G : Glb} {I0 H0 I H I' H' : Hp} {d : Option Addr} {fs : List (Str × D)} (s : Step G I0 H0 I H) (x : ExcR G H I' H' d fs) : ExcR G H0 I' H' d fs := by
  cases d with
  | none => exact x
  | some a =>
    obtain ⟨vs, h1, h2, h3⟩ := x
    exact ⟨vs, h1, h2, s.free h3⟩
section
variable {X : Cx} {T : List NdefX.NTab} {W : WX} {U U' : Bool} {ds : List DS} {s : DS} {E : DEn} {C : Str} {fs : List (Str × D)}
/-- a call that gives a value, of a def that may let errors out -/
theorem dv_cx {A : List D → XR → Prop} {k j : Nat} {ps : List Str} {x : Str} {p pos : Pos} {e : Expr} {es : List Expr} {xs : List D} (c : CallX (gx X T) k x ps U' A) (hr : Room j X.A) (ha : DA X T U (e :: es) ds xs) (hA : A xs (.val s)) (hU : U' = true → U = true := by first | exact id | exact fun z => nomatch z) (hk : k ≤ j := by decide)
    (hg : Gl X x := by rfl) (hdb : (x == ("__debug__" : Str)) = false := by decide) (he : starEach (e :: es) X.env = (false, eval e X.env) :: starEach es X.env := by rfl) (hpl : (backTo pos (starEach es X.env)).any (·.1) = false := by rfl) : DV X T U (.Call (.Name x p) (e :: es) [] pos) ds s :=
  (pe_callS c.ok (hr.mono hk) hg c.g c.kp c.n (E := fun _ _ _ _ => False) (fun _ _ _ _ _ _ _ ⟨_, _, _, _, _, _, _, _, _, _, _, _, z⟩ => z.elim) ha hdb he hpl).weak fun σ H Q ⟨I0, H0, I, en, k⟩ => ⟨I0, H0, I, en, fun vs I1 H1 s1 r1 =>
    ⟨I1, xs, _, s1.sub, fun u => (en.step s1).un (hU u), (en.step s1).tb, r1, hA, fun v H' ⟨I2, s2, r2⟩ => k v I2 H' (s1.trans s2) (r2.back s1)⟩⟩
/-- a call that raises -/
theorem dx_c {A : List D → XR → Prop} {k j : Nat} {ps : List Str} {x : Str} {p pos : Pos} {e : Expr} {es : List Expr} {xs : List D} (c : CallX (gx X T) k x ps U' A) (tk : Takes X W) (hr : Room j X.A) (ha : DA X T U (e :: es) ds xs) (hA : A xs (.exc C fs)) (hU : U' = true → U = true := by first | exact id | exact fun z => nomatch z) (hk : k ≤ j := by decide)
    (hg : Gl X x := by rfl) (hdb : (x == ("__debug__" : Str)) = false := by decide) (he : starEach (e :: es) X.env = (false, eval e X.env) :: starEach es X.env := by rfl) (hpl : (backTo pos (starEach es X.env)).any (·.1) = false := by rfl) : DX X T W U (.Call (.Name x p) (e :: es) [] pos) ds C fs :=
  (pe_callS c.ok (hr.mono hk) hg c.g c.kp c.n (E := WE W) (fun σ => passAt tk σ) ha hdb he hpl).weak fun σ H Q ⟨I0, H0, I, en, k⟩ => ⟨I0, H0, I, en, fun vs I1 H1 s1 r1 =>
    ⟨I1, xs, _, s1.sub, fun u => (en.step s1).un (hU u), (en.step s1).tb, r1, hA, fun d I2 H2 s2 x2 => k d I2 H2 (s1.trans s2) (x2.later s1)⟩⟩
theorem xs_of {σ : L2.St} {I0 H0 I H : Hp} {D : Ends} (en : EnvR (gx X T) U I0 H0 I H σ ds) (k : E.xs C fs ds) (k5 : ∀ C fs d σ' H', XsR (gx X T) U I0 H0 I H (E.xs C fs) fs d σ' H' → W (.ref (He.ga X.K C)) d σ' H') {Q : VK} : xV (gx X T) W U ds C fs σ H Q :=
  ⟨I0, H0, I, en, fun d I' H' st x => k5 C fs d σ H' ⟨ds, I', en.step st, st.pres, x.later en.st, k⟩⟩
theorem ds_setX {i : Nat} {x : Str} {pos' pos : Pos} {e : Expr} (he : DX X T W U e ds C fs) (k : E.xs C fs ds) (hN : X.N.Nodup) (hi : X.N[i]? = some x := by rfl) (hx : Loc X.env.scope x := by first | exact Or.inl rfl | exact Or.inr rfl)
    (hs : swapsWith e (some (.Name x pos')) pos.line X.env = pure false := by rfl) (hf : X.fn x = true ∨ X.env.scope.names.lookup x = some .local := by first | exact .inl rfl | exact .inr rfl | assumption) : DSt X T W U (.Assign [.Name x pos'] e pos) ds E :=
  (ps_set hN hi hx he hs hf).weak fun D σ H ⟨I0, H0, I, en, k1, k2, k3, k4, k5⟩ => xs_of (D := D) en k k5
theorem ds_exprX {pos : Pos} {e : Expr} (he : DX X T W U e ds C fs) (k : E.xs C fs ds) (hs : swapsWith e none pos.line X.env = pure false := by rfl) : DSt X T W U (.Expr e pos) ds E :=
  (ps_expr he hs).weak fun D σ H ⟨I0, H0, I, en, k1, k2, k3, k4, k5⟩ => xs_of (D := D) en k k5
theorem ds_retX {pos : Pos} {e : Expr} (he : DX X T W U e ds C fs) (k : E.xs C fs ds) : DSt X T W U (.Return (some e) pos) ds E :=
  (ps_ret he).weak fun D σ H ⟨I0, H0, I, en, k1, k2, k3, k4, k5⟩ => xs_of (D := D) en k k5
/-- raise X('..') -/
theorem ds_raise {m x : Str} {j : Nat} {p p2 pos pos2 : Pos} (tk : Takes X W) (q : PySem.W.excIn X.K (He.ga X.K x) He.veBase "ValueError.__new__" = true ∧ PySem.W.keepIn X.K (.ref (He.ga X.K x)) = true ∧ PySem.W.subIn X.K (.ref (He.ga X.K x)) (.type "BaseException") = some true ∧ PySem.W.typeIn X.K (.ref (He.ga X.K x)) = some (.type "type"))
    (gC : X.mg x = some (.ref (He.ga X.K x))) (k : E.xs x [] ds) (hg : Gl X x := by rfl) (hc : X.calm = true := by rfl) (hdb : (x == ("__debug__" : Str)) = false := by decide) : DSt X T W U (.Raise (some (.Call (.Name x p) [.Constant (.str m) j p2] [] pos)) none pos2) ds E :=
  (ps_raise hc tk (pmk_own PySem.F.excBase_ValueError q.1 gC q.2.1 (raises_own q.2.2.1 q.2.2.2) hg hdb)).weak fun D σ H ⟨I0, H0, I, en, k1, k2, k3, k4, k5⟩ =>
    k5 x [] none σ H ⟨ds, I, en, Pres.refl I H, rfl, k⟩
/-- try: body except X: suite, X an own class; the suite is in another context -/
theorem ds_try {body suite : List Stmt} {b₀ : Stmt} {x : Str} {np pos pos' : Pos} (M : Str → Bool) (tk : Takes X W) (gC : X.mg x = some (.ref (He.ga X.K x))) (hM : ∀ C fs ds', E.xs C fs ds' → True)
    (hb : ∀ (W' : WX) (pn : List (Addr × Obj)) (xe : Value → Shared → Prop), Takes (X.tr pn xe) W' → PassesOwn (model X.prog X.w) X.A X.env xe →
      DSs (X.tr pn xe) T W' U body ds { E with xs := fun C fs ds' => PySem.W.exmOne X.K (.ref (He.ga X.K C)) (.ref (He.ga X.K x)) = some (M C) ∧ (M C = false → E.xs C fs ds') ∧ (M C = true → ∀ (a : Addr) (pn : List (Addr × Obj)), DSs (X.suite a pn) T W0 U (b₀ :: suite) ds' { E with xs := fun _ _ _ => False }) })
    (hs : X.stack = X.env :: X.outer := by rfl) (hf : X.env.frame = some X.env.locals := by rfl) (hg : Gl X x := by rfl) (hdb : (x == ("__debug__" : Str)) = false := by decide) :
    DSt X T W U (.Try body [.ExceptHandler (some (.Name x np)) none (b₀ :: suite) pos'] [] [] pos) ds E := by
  refine (ps_try_only (x := x) (c := .ref (He.ga X.K x)) (pos' := pos') (np := np) (Wout := W) hs hf ⟨hg, hdb, .inl gC⟩ tk (tb := fun W' => sV (gx X T) W' U ds { E with xs := fun C fs ds' => PySem.W.exmOne X.K (.ref (He.ga X.K C)) (.ref (He.ga X.K x)) = some (M C) ∧ (M C = false → E.xs C fs ds') ∧ (M C = true → ∀ (a : Addr) (pn : List (Addr × Obj)), DSs (X.suite a pn) T W0 U (b₀ :: suite) ds' { E with xs := fun _ _ _ => False }) })
    (ts := fun a cls d => fun D σ H => ∃ ds', (∀ (a : Addr) (pn : List (Addr × Obj)), DSs (X.suite a pn) T W0 U (b₀ :: suite) ds' { E with xs := fun _ _ _ => False }) ∧ sV (gx X T) W0 U ds' { E with xs := fun _ _ _ => False } D σ H)
    (fun W' pn xe tk' ho => hb W' pn xe tk' ho) (fun a oe cls d pn _ _ => ⟨fun pins s σ H D I ⟨ds', h1, h2⟩ => (h1 a _).run pins s σ H D I h2⟩)).weak fun D σ H ⟨I0, H0, I, en, k1, k2, k3, k4, k5⟩ => ?_
  refine ⟨I0, H0, I, en, k1, k2, k3, k4, ?_⟩
  rintro C fs d σ' H' ⟨ds', I', e', p', x', m1, m2, m3⟩
  refine ⟨M C, m1, fun hb' a _ => ⟨ds', m3 hb', ?_⟩, fun hb' => k5 C fs d σ' H' ⟨ds', I', e', p', x', m2 hb'⟩⟩
  exact ⟨I0, H0, I', e', fun s h n => k1 s h (n.pre p'), k2, fun s h n => k3 s h (n.pre p'), fun s h n => k4 s h (n.pre p'), fun _ _ _ _ _ ⟨_, _, _, _, _, q⟩ => q.elim⟩
end
end Lp

/-! A law's own def: its script cut off, the rest over data. -/
namespace Lp
open PySem PySem.Spec PyProof.Rows L2
def spLaw (G : Glb) : Sp := fun vs H Q _ => ∃ (a : Addr) (ns : List Int), vs = [.ref a] ∧ SqL G.K H a (ns.map V.int) ∧ ns.length ≤ 63 ∧ NdefX.TabsN G.T H ∧ ∀ H', Q (.bl true) H'
abbrev tCut63 (K : PySem.W.Frag) : TS := tAsg (tSl (rSlL K) (tVar 0) tNoPart (tPart (tC (.int 63)))) (gName 0)
theorem cut63 {ns : List Int} (h : ns.length ≤ 63) : cutV (ns.map V.int) none (some 63) = ns.map V.int := by
  unfold cutV
  rw [HT.sIx_none, show (some (63 : Int)) = some ((63 : Nat) : Int) from rfl, HT.sIx_nat, List.drop_zero, List.length_map, Nat.min_eq_right h, Nat.sub_zero]
  exact List.take_of_length_le (by rw [List.length_map]; exact Nat.le_refl _)
theorem okLaw {G : Glb} {x qual : Str} {params : Arguments} {first : Stmt} {rest : List Stmt} {body : List Stmt} {scope : Scope} {f : Addr} {fd : FuncData} {N : List Str} {p : Str} {k : Nat} (F : FunD G.K x qual params body scope [] [] f fd) (eb : body = first :: rest) (S : FnScope N [p] scope)
    (hp : ∀ (cdv : Value) (Ar : Around) (outer : List Env) (s : Shared) (H : Hp) (E : XK), PS (cxOf CX0 G.P G.w G.K G.mg G.base N qual scope f cdv Ar outer s H E).nox first (tCut63 G.K))
    (hb : ∀ (cdv : Value) (Ar : Around) (outer : List Env) (s : Shared) (H : Hp) (E : XK), Room k (Ar.deeper (envOfC qual scope s.heap.objs.size f cdv)) → ∀ ns : List Int, ns.length ≤ 63 →
      DSs (cxOf CX0 G.P G.w G.K G.mg G.base N qual scope f cdv Ar outer s H E).nox G.T W0 true rest (startD N.length [.lst (ns.map .int)]) { nx := fun _ => False, rt := fun t => t = .im (.bl true) }) :
    FnOk G.P G.w G.K G.mg G.base CX0 (k + 1) f fd [p] (spLaw G) := by
  subst eb
  refine F.ok S (fun vs H Q E ⟨a, ns, e, _⟩ => by rw [e]; rfl) (fun cdv Ar outer s H vs Q E hr ⟨a, ns, e, hS, hl, tb, k⟩ => ?_)
  subst e
  have h := hb cdv Ar outer s H E hr ns hl
  refine ⟨_, PSs.nox (pss_cons (hp cdv Ar outer s H E) h), ?_⟩
  have hN : 1 ≤ N.length := by
    have e1 := congrArg List.length S.pre
    rw [List.length_take] at e1
    have : [p].length = 1 := rfl
    omega
  obtain ⟨m, hm⟩ : ∃ m, N.length = m + 1 := ⟨N.length - 1, by omega⟩
  refine ⟨_, rfl, 63, rfl, a, _, rfl, hS, fun q hq => ?_⟩
  rw [cut63 hl]
  have rd : RdS (fun _ => none) H := fun a u (z : (none : Option HO) = some u) => nomatch z
  have st : Step G (fun _ => none) H (upd (fun _ => none) q (.lst (ns.map V.int))) (upd H q (.lst (ns.map V.int))) := Step.new rd hq
  have sm : Same (upd (fun _ => none) q (.lst (ns.map V.int))) (upd H q (.lst (ns.map V.int))) := (st.un _ (RdL.of fun a u (z : (none : Option HO) = some u) => nomatch z)).same
  have en : EnvR G true (upd (fun _ => none) q (.lst (ns.map V.int))) (upd H q (.lst (ns.map V.int))) (upd (fun _ => none) q (.lst (ns.map V.int))) (upd H q (.lst (ns.map V.int))) (L2.start N [.ref q]) (startD N.length [.lst (ns.map .int)]) :=
    env_start st.sub (fun _ => sm) (st.tabs tb) (.cons (Rep.lst upd_same (Reps.ofInts ns)) .nil) hN
  have es : (L2.start N [V.ref a]).set 0 (some (.ref q)) = L2.start N [.ref q] := by
    unfold L2.start
    rfl
  show sV G W0 true _ _ _ ((L2.start N [V.ref a]).set 0 (some (.ref q))) _
  rw [es]
  refine ⟨_, _, _, en, ?_, ?_, ?_, ?_, ?_⟩
  · rintro _ _ ⟨_, _, _, _, z⟩
    exact z.elim
  · rintro v H' t ⟨I', s1, r1⟩ ht
    have ht2 : t = .im (.bl true) := ht
    subst ht2
    cases r1
    exact k H'
  · rintro _ _ ⟨_, _, _, _, z⟩
    exact z
  · rintro _ _ ⟨_, _, _, _, z⟩
    exact z
  · rintro _ _ _ _ _ ⟨_, _, _, _, _, z⟩
    exact z
section
variable {X : Cx} {T : List NdefX.NTab} {U : Bool} {ds : List DS}
theorem de_neg {a : Expr} {pos : Pos} {i : Int} (ha : DE X T U a ds (.int i)) : DE X T U (.UnaryOp .USub a pos) ds (.int (-i)) :=
  (pe_un un_neg ha).weak fun σ H Q ⟨I0, H0, I, en, k⟩ => ⟨I0, H0, I, en, fun v I1 H1 s1 r1 => by
    cases r1
    exact ⟨i, rfl, k _ I1 H1 s1 (.int _)⟩⟩
end
end Lp

namespace K
open PySem PySem.Spec PyProof.Rows L2 Lp
def top (i : Nat) : Stmt := PySem.Challenge.pw_listpost_k08_answers.main.body.getD i (.Pass ⟨0, 0, 0, 0⟩)
abbrev FnP (K : PySem.W.Frag) (x : Str) (st : Stmt) (f : Addr) (fd : FuncData) : Prop := FunD K x x (defArgs st) (defBody st) (defScope st) [] [] f fd
abbrev MeP (K : PySem.W.Frag) (x q : Str) (st : Stmt) (f : Addr) (fd : FuncData) : Prop := FunD K x q (defArgs st) (defBody st) (defScope st) [] [] f fd
abbrev S_is_name : Stmt := top 8
abbrev S_are_names : Stmt := top 9
abbrev S_check_name : Stmt := top 10
abbrev S_check_names : Stmt := top 11
abbrev S_check_letter : Stmt := top 12
abbrev S_answer : Stmt := top 14
abbrev S_law_draw : Stmt := top 16
abbrev S_law_cell_at : Stmt := top 17
abbrev S_law_digits : Stmt := top 18
abbrev S_law_letters : Stmt := top 19
abbrev S_law_names : Stmt := top 20
abbrev S_law_some : Stmt := top 21
abbrev S_law_due : Stmt := top 22
abbrev S_law_told : Stmt := top 23
abbrev S_law_answer_right : Stmt := top 24
abbrev S_law : Stmt := top 25
structure Facts (G : Glb) : Prop where
  b_len : G.mg "len" = none
  b_abs : G.mg "abs" = none
  b_sum : G.mg "sum" = none
  b_range : G.mg "range" = none
  b_enumerate : G.mg "enumerate" = none
  b_isinstance : G.mg "isinstance" = none
  b_all : G.mg "all" = none
  b_list : G.mg "list" = none
  b_max : G.mg "max" = none
  b_min : G.mg "min" = none
  b_set : G.mg "set" = none
  b_str : G.mg "str" = none
  b_ValueError : G.mg "ValueError" = none
  c_LETTERS : ∃ t, G.mg "LETTERS" = some (.str "abcdefghijklmnopqrstuvwxyz" t)
  c_LONGEST : ∃ t, G.mg "LONGEST" = some (.int 20 t)
  g_is_name : G.mg "is_name" = some (.ref (He.ga G.K "is_name"))
  f_is_name : FnP G.K "is_name" S_is_name (He.ga G.K "is_name") (fdOf G.K (He.ga G.K "is_name"))
  n_is_name : L2.Binds G.K (fdOf G.K (He.ga G.K "is_name")) ["thing"] []
  g_are_names : G.mg "are_names" = some (.ref (He.ga G.K "are_names"))
  f_are_names : FnP G.K "are_names" S_are_names (He.ga G.K "are_names") (fdOf G.K (He.ga G.K "are_names"))
  n_are_names : L2.Binds G.K (fdOf G.K (He.ga G.K "are_names")) ["thing"] []
  g_check_name : G.mg "check_name" = some (.ref (He.ga G.K "check_name"))
  f_check_name : FnP G.K "check_name" S_check_name (He.ga G.K "check_name") (fdOf G.K (He.ga G.K "check_name"))
  n_check_name : L2.Binds G.K (fdOf G.K (He.ga G.K "check_name")) ["name"] []
  g_check_names : G.mg "check_names" = some (.ref (He.ga G.K "check_names"))
  f_check_names : FnP G.K "check_names" S_check_names (He.ga G.K "check_names") (fdOf G.K (He.ga G.K "check_names"))
  n_check_names : L2.Binds G.K (fdOf G.K (He.ga G.K "check_names")) ["names"] []
  g_check_letter : G.mg "check_letter" = some (.ref (He.ga G.K "check_letter"))
  f_check_letter : FnP G.K "check_letter" S_check_letter (He.ga G.K "check_letter") (fdOf G.K (He.ga G.K "check_letter"))
  n_check_letter : L2.Binds G.K (fdOf G.K (He.ga G.K "check_letter")) ["sender", "names"] []
  g_answer : G.mg "answer" = some (.ref (He.ga G.K "answer"))
  f_answer : FnP G.K "answer" S_answer (He.ga G.K "answer") (fdOf G.K (He.ga G.K "answer"))
  n_answer : L2.Binds G.K (fdOf G.K (He.ga G.K "answer")) ["sender", "names", "person"] []
  g_law_draw : G.mg "_law_draw" = some (.ref (He.ga G.K "_law_draw"))
  f_law_draw : FnP G.K "_law_draw" S_law_draw (He.ga G.K "_law_draw") (fdOf G.K (He.ga G.K "_law_draw"))
  n_law_draw : L2.Binds G.K (fdOf G.K (He.ga G.K "_law_draw")) ["_law_cell", "_law_k", "_law_many"] []
  g_law_cell_at : G.mg "_law_cell_at" = some (.ref (He.ga G.K "_law_cell_at"))
  f_law_cell_at : FnP G.K "_law_cell_at" S_law_cell_at (He.ga G.K "_law_cell_at") (fdOf G.K (He.ga G.K "_law_cell_at"))
  n_law_cell_at : L2.Binds G.K (fdOf G.K (He.ga G.K "_law_cell_at")) ["_law_script", "_law_k"] []
  g_law_digits : G.mg "_law_digits" = some (.ref (He.ga G.K "_law_digits"))
  f_law_digits : FnP G.K "_law_digits" S_law_digits (He.ga G.K "_law_digits") (fdOf G.K (He.ga G.K "_law_digits"))
  n_law_digits : L2.Binds G.K (fdOf G.K (He.ga G.K "_law_digits")) ["_law_script", "_law_at", "_law_many", "_law_base"] []
  g_law_letters : G.mg "_law_letters" = some (.ref (He.ga G.K "_law_letters"))
  f_law_letters : FnP G.K "_law_letters" S_law_letters (He.ga G.K "_law_letters") (fdOf G.K (He.ga G.K "_law_letters"))
  n_law_letters : L2.Binds G.K (fdOf G.K (He.ga G.K "_law_letters")) [] []
  g_law_names : G.mg "_law_names" = some (.ref (He.ga G.K "_law_names"))
  f_law_names : FnP G.K "_law_names" S_law_names (He.ga G.K "_law_names") (fdOf G.K (He.ga G.K "_law_names"))
  n_law_names : L2.Binds G.K (fdOf G.K (He.ga G.K "_law_names")) ["_law_script", "_law_at", "_law_many"] []
  g_law_some : G.mg "_law_some" = some (.ref (He.ga G.K "_law_some"))
  f_law_some : FnP G.K "_law_some" S_law_some (He.ga G.K "_law_some") (fdOf G.K (He.ga G.K "_law_some"))
  n_law_some : L2.Binds G.K (fdOf G.K (He.ga G.K "_law_some")) ["_law_names_here", "_law_number"] []
  g_law_due : G.mg "_law_due" = some (.ref (He.ga G.K "_law_due"))
  f_law_due : FnP G.K "_law_due" S_law_due (He.ga G.K "_law_due") (fdOf G.K (He.ga G.K "_law_due"))
  n_law_due : L2.Binds G.K (fdOf G.K (He.ga G.K "_law_due")) ["_law_sender", "_law_names_here", "_law_person"] []
  g_law_told : G.mg "_law_told" = some (.ref (He.ga G.K "_law_told"))
  f_law_told : FnP G.K "_law_told" S_law_told (He.ga G.K "_law_told") (fdOf G.K (He.ga G.K "_law_told"))
  n_law_told : L2.Binds G.K (fdOf G.K (He.ga G.K "_law_told")) ["_law_sender", "_law_names_here", "_law_person"] []
  g_law_answer_right : G.mg "_law_answer_right" = some (.ref (He.ga G.K "_law_answer_right"))
  f_law_answer_right : FnP G.K "_law_answer_right" S_law_answer_right (He.ga G.K "_law_answer_right") (fdOf G.K (He.ga G.K "_law_answer_right"))
  n_law_answer_right : L2.Binds G.K (fdOf G.K (He.ga G.K "_law_answer_right")) ["_law_sender", "_law_names_here", "_law_person"] []
  g_law : G.mg "law" = some (.ref (He.ga G.K "law"))
  f_law : FnP G.K "law" S_law (He.ga G.K "law") (fdOf G.K (He.ga G.K "law"))
  n_law : L2.Binds G.K (fdOf G.K (He.ga G.K "law")) ["_law_script"] []
  g_PostError : G.mg "PostError" = some (.ref (He.ga G.K "PostError"))
  e_PostError : PySem.W.excIn G.K (He.ga G.K "PostError") He.veBase "ValueError.__new__" = true ∧ PySem.W.keepIn G.K (.ref (He.ga G.K "PostError")) = true ∧ PySem.W.subIn G.K (.ref (He.ga G.K "PostError")) (.type "BaseException") = some true ∧ PySem.W.typeIn G.K (.ref (He.ga G.K "PostError")) = some (.type "type")
  g_BadName : G.mg "BadName" = some (.ref (He.ga G.K "BadName"))
  e_BadName : PySem.W.excIn G.K (He.ga G.K "BadName") He.veBase "ValueError.__new__" = true ∧ PySem.W.keepIn G.K (.ref (He.ga G.K "BadName")) = true ∧ PySem.W.subIn G.K (.ref (He.ga G.K "BadName")) (.type "BaseException") = some true ∧ PySem.W.typeIn G.K (.ref (He.ga G.K "BadName")) = some (.type "type")
  g_BadNames : G.mg "BadNames" = some (.ref (He.ga G.K "BadNames"))
  e_BadNames : PySem.W.excIn G.K (He.ga G.K "BadNames") He.veBase "ValueError.__new__" = true ∧ PySem.W.keepIn G.K (.ref (He.ga G.K "BadNames")) = true ∧ PySem.W.subIn G.K (.ref (He.ga G.K "BadNames")) (.type "BaseException") = some true ∧ PySem.W.typeIn G.K (.ref (He.ga G.K "BadNames")) = some (.type "type")
  g_NoOne : G.mg "NoOne" = some (.ref (He.ga G.K "NoOne"))
  e_NoOne : PySem.W.excIn G.K (He.ga G.K "NoOne") He.veBase "ValueError.__new__" = true ∧ PySem.W.keepIn G.K (.ref (He.ga G.K "NoOne")) = true ∧ PySem.W.subIn G.K (.ref (He.ga G.K "NoOne")) (.type "BaseException") = some true ∧ PySem.W.typeIn G.K (.ref (He.ga G.K "NoOne")) = some (.type "type")
  m_BadName_NoOne : PySem.W.exmOne G.K (.ref (He.ga G.K "BadName")) (.ref (He.ga G.K "NoOne")) = some false
  m_BadNames_NoOne : PySem.W.exmOne G.K (.ref (He.ga G.K "BadNames")) (.ref (He.ga G.K "NoOne")) = some false
  m_NoOne_NoOne : PySem.W.exmOne G.K (.ref (He.ga G.K "NoOne")) (.ref (He.ga G.K "NoOne")) = some true
/-! ### the law's draws -/
def primes : List Int := [1000003, 1000033, 1000037, 1000039, 1000081, 1000099, 1000117, 1000121, 1000133, 1000151, 1000159, 1000171, 1000183, 1000187, 1000193, 1000199]
def prime (k : Int) : Int := primes.getD (k % 16).toNat 1
def draw (c k m : Int) : Int := (c * 48271 + k * 69621) % prime k % m
theorem prime_pos (k : Int) : 0 < prime k := by
  unfold prime
  have h : ∀ n : Nat, 0 < primes.getD n 1 := by
    intro n
    by_cases hn : n < 16
    · have : ∀ n < 16, 0 < primes.getD n 1 := by decide
      exact this n hn
    · rw [List.getD_eq_getElem?_getD, List.getElem?_eq_none_iff.mpr (by show 16 ≤ n; omega)]; decide
  exact h _
theorem prime_at (k : Int) : atI (primes.map D.int) (k % 16) = some (.int (prime k)) := by
  have h0 : 0 ≤ k % 16 := by omega
  have h1 : k % 16 < 16 := by omega
  unfold atI ixN prime
  rw [if_pos h0, if_pos (by show k % 16 < 16; omega)]
  show (primes.map D.int)[(k % 16).toNat]? = _
  rw [List.getElem?_map, List.getElem?_eq_getElem (by show (k % 16).toNat < 16; omega), List.getD_eq_getElem?_getD, List.getElem?_eq_getElem (by show (k % 16).toNat < 16; omega)]
  rfl
theorem draw_ge (c k m : Int) (h : 0 < m) : 0 ≤ draw c k m := Int.emod_nonneg _ (by omega)
theorem draw_lt (c k m : Int) (h : 0 < m) : draw c k m < m := Int.emod_lt_of_pos _ h
theorem lk_int {i : Int} {xs : List Int} {j : Nat} {y : Int} (e : i = (j : Int)) (h : xs[j]? = some y) : atI (xs.map D.int) i = some (.int y) := by
  subst e
  exact atI_nat (by rw [List.getElem?_map, h]; rfl)
theorem lk_str {i : Int} {xs : List Str} {j : Nat} {y : Str} (e : i = (j : Int)) (h : xs[j]? = some y) : atI (xs.map D.str) i = some (.str y) := by
  subst e
  exact atI_nat (by rw [List.getElem?_map, h]; rfl)
def aDraw (xs : List D) (r : DS) : Prop := ∃ c k m : Int, xs = [.int c, .int k, .int m] ∧ 0 < m ∧ r = .im (.int (draw c k m))
abbrev nDraw : List Str := ["_law_cell", "_law_k", "_law_many", "_law_primes"]
theorem scDraw : FnScope nDraw ["_law_cell", "_law_k", "_law_many"] (defScope S_law_draw) := ⟨rfl, rfl, rfl, by decide +kernel, rfl, by decide +kernel, by decide +kernel⟩
theorem ok_draw {G : Glb} (Z : Facts G) : CallD G 1 "_law_draw" ["_law_cell", "_law_k", "_law_many"] false aDraw := by
  refine ⟨?_, Z.g_law_draw, Z.n_law_draw, Z.f_law_draw.kp⟩
  refine okD (N := nDraw) Z.f_law_draw scDraw (fun xs r ⟨c, k, m, e, _⟩ => by rw [e]; rfl) fun cdv Ar outer s H E hr xs r ⟨c, k, m, e, hm, er⟩ => ?_
  subst e er
  refine dss_cons (ds_set 3 (de_tup (xs := primes.map D.int) (da_cons de_int (da_cons de_int (da_cons de_int (da_cons de_int (da_cons de_int (da_cons de_int (da_cons de_int (da_cons de_int (da_cons de_int (da_cons de_int (da_cons de_int (da_cons de_int (da_cons de_int (da_cons de_int (da_cons de_int (da_cons de_int da_nil)))))))))))))))) (by decide)) ?_ scDraw.nd)
  exact dss_one (ds_ret (de_mod (de_mod (de_add (de_mul (de_var 0 rfl) de_int (.inr (by decide))) (de_mul (de_var 1 rfl) de_int (.inr (by decide)))) (de_ixT (de_var 3 rfl) (de_mod (de_var 1 rfl) de_int (by decide)) (prime_at k)) (prime_pos k)) (de_var 2 rfl) hm) (.inl rfl))
abbrev absI (i : Int) : Int := if i < 0 then -i else i
theorem absI_ge (i : Int) : 0 ≤ absI i := by unfold absI; split <;> omega
def cellAt (sc : List Int) (k : Int) : Int := if k < (sc.length : Int) then absI (sc.getD k.toNat 0) else draw (absI sc.sum + 7919 * k) k 999983
theorem cellAt_ge (sc : List Int) (k : Int) : 0 ≤ cellAt sc k := by
  unfold cellAt
  split
  · exact absI_ge _
  · exact draw_ge _ _ _ (by decide)
def aCell (xs : List D) (r : DS) : Prop := ∃ (sc : List Int) (k : Int), xs = [.lst (sc.map .int), .int k] ∧ 0 ≤ k ∧ r = .im (.int (cellAt sc k))
abbrev nCell : List Str := ["_law_script", "_law_k"]
theorem scCell : FnScope nCell nCell (defScope S_law_cell_at) := ⟨rfl, rfl, rfl, by decide +kernel, rfl, by decide +kernel, by decide +kernel⟩
theorem ok_cell {G : Glb} (Z : Facts G) : CallD G 2 "_law_cell_at" nCell false aCell := by
  refine ⟨?_, Z.g_law_cell_at, Z.n_law_cell_at, Z.f_law_cell_at.kp⟩
  refine okD (N := nCell) Z.f_law_cell_at scCell (fun xs r ⟨c, k, e, _⟩ => by rw [e]; rfl) fun cdv Ar outer s H E hr xs r ⟨sc, k, e, hk, er⟩ => ?_
  subst e er
  refine dss_cons (ds_if (dt_lt (de_var 1 rfl) (de_lenL (de_var 0 rfl) rfl Z.b_len)) (fun hc => ?_) (fun hc => dss_nil ?_))
  · have h1 : k < (sc.length : Int) := by simpa using hc
    have e : cellAt sc k = absI (sc.getD k.toNat 0) := if_pos h1
    rw [e]
    refine dss_one (ds_ret (de_abs (de_ixL (de_var 0 rfl) (de_var 1 rfl) (lk_int (j := k.toNat) (by omega) ?_)) rfl Z.b_abs) (.inl rfl))
    rw [List.getD_eq_getElem?_getD, List.getElem?_eq_getElem (by omega)]
    rfl
  · have h1 : ¬ k < (sc.length : Int) := by simpa using hc
    have e : cellAt sc k = draw (absI sc.sum + 7919 * k) k 999983 := if_neg h1
    rw [e]
    exact dss_one (ds_ret (dv_c (ok_draw Z) hr (da_cons (de_add (de_abs (de_sum (de_var 0 rfl) rfl Z.b_sum) rfl Z.b_abs) (de_mul de_int (de_var 1 rfl) (.inl (by decide)))) (da_cons (de_var 1 rfl) (da_cons de_int da_nil))) ⟨_, _, _, rfl, by decide, rfl⟩) (.inl rfl))

/-! ### numbers below a base -/
def p18 : Int := (10 : Int) ^ ((18 : Int).toNat)
theorem p18_eq : p18 = 1000000000000000000 := by decide
def digSmall (cell base : Int) (t : Int) : Int := (draw ((cell + 977 * t) * (cell + 31 * t + 5)) (t % 9 + 1) 999983 * 1000003 + draw ((cell + 31 * t) * (cell + 7) + 977 * t) (t % 7 + 2) 1000003) % base
def digStep (cell base : Int) (st : Int × List Int) (t : Nat) : Int × List Int :=
  if p18 ≤ cell then (st.1 / base, st.2 ++ [st.1 % base]) else (st.1, st.2 ++ [digSmall cell base (t : Int)])
def digRun (cell base : Int) (n : Nat) : Int × List Int := (List.range n).foldl (digStep cell base) (cell - p18, [])
theorem digRun_succ (cell base : Int) (n : Nat) : digRun cell base (n + 1) = digStep cell base (digRun cell base n) n := by
  unfold digRun
  rw [List.range_succ, List.foldl_append]
  rfl
def digits (sc : List Int) (at_ many base : Int) : List Int := (digRun (cellAt sc at_) base many.toNat).2
theorem digRun_len (cell base : Int) : ∀ n, (digRun cell base n).2.length = n
  | 0 => rfl
  | n + 1 => by
    rw [digRun_succ]
    unfold digStep
    split <;> (rw [List.length_append, digRun_len cell base n]; rfl)
theorem digRun_in (cell base : Int) (h : 0 < base) : ∀ n, ∀ x ∈ (digRun cell base n).2, 0 ≤ x ∧ x < base
  | 0 => fun x hx => by cases hx
  | n + 1 => by
    intro x hx
    rw [digRun_succ] at hx
    unfold digStep at hx
    split at hx
    · rcases List.mem_append.mp hx with z | z
      · exact digRun_in cell base h n x z
      · rw [List.mem_singleton.mp z]
        exact ⟨Int.emod_nonneg _ (by omega), Int.emod_lt_of_pos _ h⟩
    · rcases List.mem_append.mp hx with z | z
      · exact digRun_in cell base h n x z
      · rw [List.mem_singleton.mp z]
        exact ⟨Int.emod_nonneg _ (by omega), Int.emod_lt_of_pos _ h⟩
theorem digits_len (sc : List Int) (at_ many base : Int) : (digits sc at_ many base).length = many.toNat := digRun_len _ _ _
/-- the k-th of the digits -/
def dg (sc : List Int) (at_ many base : Int) (k : Nat) : Int := (digits sc at_ many base).getD k 0
theorem dg_at {sc : List Int} {at_ many base : Int} {k : Nat} (h : k < many.toNat) : (digits sc at_ many base)[k]? = some (dg sc at_ many base k) := by
  have hl : k < (digits sc at_ many base).length := by rw [digits_len]; exact h
  unfold dg
  rw [List.getD_eq_getElem?_getD, List.getElem?_eq_getElem hl]
  rfl
theorem dg_in {sc : List Int} {at_ many base : Int} {k : Nat} (hb : 0 < base) (h : k < many.toNat) : 0 ≤ dg sc at_ many base k ∧ dg sc at_ many base k < base :=
  digRun_in _ _ hb _ _ (List.mem_of_getElem? (dg_at (sc := sc) (at_ := at_) (base := base) h))
def aDig (xs : List D) (r : DS) : Prop := ∃ (sc : List Int) (a m b : Int), xs = [.lst (sc.map .int), .int a, .int m, .int b] ∧ 0 ≤ a ∧ 0 ≤ m ∧ m ≤ 1000 ∧ 0 < b ∧ b < 1073741824 ∧ r = .own ((digits sc a m b).map .int)
abbrev nDig : List Str := ["_law_script", "_law_at", "_law_many", "_law_base", "_law_cell", "_law_found", "_law_left", "_law_turn", "_law_blend", "_law_more"]
abbrev qDig : List Str := ["_law_script", "_law_at", "_law_many", "_law_base"]
theorem scDig : FnScope nDig qDig (defScope S_law_digits) := ⟨rfl, rfl, rfl, by decide +kernel, rfl, by decide +kernel, by decide +kernel⟩
theorem ok_digits {G : Glb} (Z : Facts G) : CallD G 3 "_law_digits" qDig false aDig := by
  refine ⟨?_, Z.g_law_digits, Z.n_law_digits, Z.f_law_digits.kp⟩
  refine okD (N := nDig) Z.f_law_digits scDig (fun xs r ⟨_, _, _, _, e, _⟩ => by rw [e]; rfl) fun cdv Ar outer s H E hr xs r ⟨sc, a, m, b, e, ha, hm, hm2, hb, hb2, er⟩ => ?_
  subst e er
  refine dss_cons (ds_par2 4 5 (dv_c (ok_cell Z) hr (da_cons (de_var 0 rfl) (da_cons (de_var 1 rfl) da_nil)) ⟨_, _, rfl, ha, rfl⟩) (dv_lst da_nil (by decide)) ?_ scDig.nd (by decide)
    (ps_par rfl scDig.nd rfl rfl (by decide) rfl rfl (pa_cons (dv_c (ok_cell Z) hr (da_cons (de_var 0 rfl) (da_cons (de_var 1 rfl) da_nil)) ⟨_, _, rfl, ha, rfl⟩) (pa_cons (dv_lst da_nil (by decide)) pa_nil)) (by rfl)))
  refine dss_cons (ds_set 6 (de_sub (de_var 4 rfl) (de_pow de_int de_int ⟨by decide, by decide, by decide⟩)) ?_ scDig.nd)
  have he : digits sc a m b = (digRun (cellAt sc a) b m.toNat).2 := rfl
  rw [he]
  have hc0 := cellAt_ge sc a
  generalize cellAt sc a = c at hc0 ⊢
  refine dss_cons (ds_forR [7, 8, 9] (fun i => [.im (.lst (sc.map .int)), .im (.int a), .im (.int m), .im (.int b), .im (.int c), .own ((digRun c b i).2.map .int), .im (.int (digRun c b i).1), .no, .no, .no]) (fun d ds1 => ds1.set 7 (.im (.int (0 + (d : Int))))) rfl
    (di_rng1 (de_var 2 rfl) rfl Z.b_range (by omega) (by omega)) (fun d _ ds1 => dg_name 7 scDig.nd) (fun i hi => ?_) ?_ PassesOwn.never)
  · rw [Int.zero_add]
    refine dss_one (ds_if (dt_ge (de_var 4 rfl) (de_pow de_int de_int ⟨by decide, by decide, by decide⟩)) (fun hc => ?_) (fun hc => ?_))
    · have hc' : p18 ≤ c := by simpa [p18] using hc
      refine dss_cons (ds_append 5 rfl (de_mod (de_var 6 rfl) (de_var 3 rfl) hb) (by rw [List.length_map, digRun_len]; omega) ?_)
      refine dss_one (ds_set 6 (de_div (de_var 6 rfl) (de_var 3 rfl) ⟨hb, hb2⟩) ?_ scDig.nd)
      show _ = _
      rw [digRun_succ]
      unfold digStep
      rw [if_pos hc', List.map_append]
      rfl
    · have hc' : ¬ p18 ≤ c := by simpa [p18] using hc
      have hc2 : c < 1000000000000000000 := by rw [p18_eq] at hc'; omega
      refine dss_cons (ds_set 8 (dv_c (ok_draw Z) hr (da_cons (de_mul (de_add (de_var 4 rfl) (de_mul de_int (de_var 7 rfl) (.inl (by decide)))) (de_add (de_add (de_var 4 rfl) (de_mul de_int (de_var 7 rfl) (.inl (by decide)))) de_int) (.inl ⟨by omega, by omega⟩)) (da_cons (de_add (de_mod (de_var 7 rfl) de_int (by decide)) de_int) (da_cons de_int da_nil))) ⟨_, _, _, rfl, by decide, rfl⟩) ?_ scDig.nd)
      refine dss_cons (ds_set 9 (dv_c (ok_draw Z) hr (da_cons (de_add (de_mul (de_add (de_var 4 rfl) (de_mul de_int (de_var 7 rfl) (.inl (by decide)))) (de_add (de_var 4 rfl) de_int) (.inl ⟨by omega, by omega⟩)) (de_mul de_int (de_var 7 rfl) (.inl (by decide)))) (da_cons (de_add (de_mod (de_var 7 rfl) de_int (by decide)) de_int) (da_cons de_int da_nil))) ⟨_, _, _, rfl, by decide, rfl⟩) ?_ scDig.nd)
      refine dss_one (ds_append 5 rfl (de_mod (de_add (de_mul (de_var 8 rfl) de_int (.inr (by decide))) (de_var 9 rfl)) (de_var 3 rfl) hb) (by rw [List.length_map, digRun_len]; omega) ?_)
      show _ = _
      rw [digRun_succ]
      unfold digStep
      rw [if_neg hc', List.map_append]
      rfl
  · exact dss_one (ds_retOwn 5 rfl (.inl rfl))

/-! ### the law's names -/
abbrev lettersS : Str := "abcdefghijklmnopqrstuvwxyz"
def sgn (i : Int) : Str := ⟨#[97 + i.toNat]⟩
theorem letters_at {i : Int} (h0 : 0 ≤ i) (h1 : i < 26) : atI lettersS.cps.toList i = some (97 + i.toNat) := by
  have h : ∀ n < 26, (lettersS.cps.toList)[n]? = some (97 + n) := by decide +kernel
  have e : lettersS.cps.toList.length = 26 := by decide +kernel
  unfold atI ixN
  rw [if_pos h0, if_pos (by rw [e]; omega)]
  exact h _ (by omega)
theorem mulOk {x : Str} {n : Int} (hx : x.length ≤ 1000) (h0 : 0 ≤ n) (hn : n ≤ 1000) : PySem.MulOk x n := by
  have h1 : x.length * n.toNat ≤ 1000 * 1000 := Nat.mul_le_mul hx (by omega : n.toNat ≤ 1000)
  refine ⟨?_, fun h2 h3 => ?_, fun h2 h3 => ?_⟩
  · rw [Bool.or_eq_false_iff]
    exact ⟨decide_eq_false (by omega), decide_eq_false (by omega)⟩
  · have z : (x.length : Int) ≤ (2 ^ 63 - 1) / n := by
      refine Int.le_ediv_of_mul_le (by omega) ?_
      have e : (x.length : Int) * n = ((x.length * n.toNat : Nat) : Int) := by rw [Int.natCast_mul, Int.toNat_of_nonneg h0]
      rw [e]
      omega
    omega
  · exact decide_eq_false (by show ¬ _ > sizeLine; have : sizeLine = 16777216 := rfl; omega)
/-! signs of texts -/
theorem app_l (a b : Str) : (a ++ b).cps.toList = a.cps.toList ++ b.cps.toList := by
  show (a.cps ++ b.cps).toList = _
  simp
theorem app_len (a b : Str) : (a ++ b).length = a.length + b.length := by rw [str_len, str_len, str_len, app_l, List.length_append]
theorem cut_l (z : Str) {k : Int} (h : 0 ≤ k) : (cutS z none (some k)).cps.toList = z.cps.toList.take k.toNat := by
  obtain ⟨n, rfl⟩ : ∃ n : Nat, k = (n : Int) := ⟨k.toNat, by omega⟩
  unfold cutS
  rw [HT.sIx_none, HT.sIx_nat]
  show ((z.cps.toList.drop 0).take _) = _
  rw [List.drop_zero, Nat.sub_zero, Int.toNat_natCast, str_len]
  by_cases hn : n ≤ z.cps.toList.length
  · rw [Nat.min_eq_left hn]
  · rw [Nat.min_eq_right (by omega), List.take_of_length_le (Nat.le_refl _), List.take_of_length_le (by omega)]
theorem cut_len (z : Str) {k : Int} (h : 0 ≤ k) : (cutS z none (some k)).length = min k.toNat z.length := by rw [str_len, cut_l z h, List.length_take, str_len]
theorem foldl_arr (x : Array Nat) : ∀ (n : Nat) (acc : Array Nat), ((List.replicate n x).foldl (· ++ ·) acc).toList = acc.toList ++ (List.replicate n x.toList).flatten
  | 0, acc => by simp
  | n + 1, acc => by
    rw [List.replicate_succ, List.foldl_cons, foldl_arr x n, List.replicate_succ, List.flatten_cons]
    simp
theorem mul_l (z : Str) {n : Int} (h : 0 ≤ n) : (PySem.Txt.mul z n).cps.toList = (List.replicate n.toNat z.cps.toList).flatten := by
  unfold PySem.Txt.mul
  by_cases h1 : n < 1
  · rw [if_pos h1]
    have e : n.toNat = 0 := by omega
    rw [e]
    rfl
  · rw [if_neg h1]
    by_cases h2 : (n == 1 || z.length == 0) = true
    · rw [if_pos h2]
      rcases Bool.or_eq_true_iff.mp h2 with a | a
      · have e : n.toNat = 1 := by
          have := eq_of_beq a
          omega
        rw [e]
        simp
      · have e : z.cps.toList = [] := List.eq_nil_of_length_eq_zero (by rw [← str_len]; exact eq_of_beq a)
        rw [e]
        have : ∀ k : Nat, (List.replicate k ([] : List Nat)).flatten = [] := fun k => by induction k with
          | zero => rfl
          | succ k ih => rw [List.replicate_succ, List.flatten_cons, ih]; rfl
        rw [this]
    · rw [if_neg h2]
      show ((List.replicate n.toNat z.cps).foldl (· ++ ·) #[]).toList = _
      rw [foldl_arr]
      simp
theorem flat_len (l : List Nat) : ∀ n : Nat, (List.replicate n l).flatten.length = n * l.length
  | 0 => by simp
  | n + 1 => by rw [List.replicate_succ, List.flatten_cons, List.length_append, flat_len l n, Nat.succ_mul]; omega
theorem mul_len (z : Str) {n : Int} (h : 0 ≤ n) : (PySem.Txt.mul z n).length = n.toNat * z.length := by rw [str_len, mul_l z h, flat_len, str_len]
/-- a name: one to twenty small letters -/
def okC (c : Nat) : Prop := 97 ≤ c ∧ c ≤ 122
structure Nm (n : Str) : Prop where
  lo : 1 ≤ n.length
  hi : n.length ≤ 20
  all : ∀ c ∈ n.cps.toList, okC c
theorem str_ext {a b : Str} (h : a.cps.toList = b.cps.toList) : a = b := by
  obtain ⟨x⟩ := a
  obtain ⟨y⟩ := b
  congr 1
  exact Array.toList_inj.mp h
theorem sgn_l (i : Int) : (sgn i).cps.toList = [97 + i.toNat] := rfl
theorem sgn_len (i : Int) : (sgn i).length = 1 := rfl
theorem sgn_ok {i : Int} (h0 : 0 ≤ i) (h1 : i < 26) : ∀ c ∈ (sgn i).cps.toList, okC c := fun c hc => by
  rw [sgn_l] at hc
  rw [List.mem_singleton.mp hc]
  unfold okC
  omega
/-- the t-th name by its number -/
def nmTail (d : Int) : Str := PySem.Txt.mul (sgn (d % 26)) (d / 26 % 3) ++ sgn (d / 78 % 26)
def nmAt (a d : Int) (t : Nat) : Str := sgn ((a + 3 * (t : Int)) % 26) ++ cutS (nmTail d) none (some (d / 1521))
theorem nmTail_len (d : Int) : (nmTail d).length ≤ 3 := by
  unfold nmTail
  rw [app_len, mul_len _ (by omega), sgn_len, sgn_len]
  omega
theorem mem_flat {l : List Nat} {c : Nat} : ∀ {n : Nat}, c ∈ (List.replicate n l).flatten → c ∈ l
  | 0, h => by simp at h
  | n + 1, h => by
    rw [List.replicate_succ, List.flatten_cons, List.mem_append] at h
    exact h.elim id mem_flat
theorem nmTail_ok (d : Int) : ∀ c ∈ (nmTail d).cps.toList, okC c := fun c hc => by
  unfold nmTail at hc
  rw [app_l, List.mem_append, mul_l _ (by omega)] at hc
  rcases hc with h | h
  · exact sgn_ok (by omega) (by omega) c (mem_flat h)
  · exact sgn_ok (by omega) (by omega) c h
theorem nmAt_l (a d : Int) (t : Nat) (hd : 0 ≤ d) : (nmAt a d t).cps.toList = (97 + ((a + 3 * (t : Int)) % 26).toNat) :: ((nmTail d).cps.toList.take (d / 1521).toNat) := by
  unfold nmAt
  rw [app_l, sgn_l, cut_l _ (by omega)]
  rfl
theorem nmAt_nm (a d : Int) (t : Nat) (hd : 0 ≤ d) : Nm (nmAt a d t) := by
  have h1 : (nmAt a d t).length ≤ 4 := by
    unfold nmAt
    have := nmTail_len d
    rw [app_len, sgn_len, cut_len _ (by omega)]
    omega
  refine ⟨?_, by omega, fun c hc => ?_⟩
  · rw [str_len, nmAt_l a d t hd]
    simp
  · rw [nmAt_l a d t hd] at hc
    rcases List.mem_cons.mp hc with rfl | h
    · unfold okC; omega
    · exact nmTail_ok d c (List.mem_of_mem_take h)
/-- made long -/
def nmLong (n : Str) (d : Int) : Str := cutS (PySem.Txt.mul n 20) none (some (6 + d % 15))
theorem nmLong_l (n : Str) (d : Int) : (nmLong n d).cps.toList = ((List.replicate 20 n.cps.toList).flatten).take (6 + d % 15).toNat := by
  unfold nmLong
  rw [cut_l _ (by omega), mul_l _ (by decide)]
  rfl
theorem nmLong_nm {n : Str} (h : Nm n) (d : Int) : Nm (nmLong n d) := by
  have e : (nmLong n d).length = min (6 + d % 15).toNat (20 * n.length) := by rw [str_len, nmLong_l, List.length_take, flat_len, str_len]
  have := h.lo
  refine ⟨by rw [e]; omega, by rw [e]; omega, fun c hc => ?_⟩
  rw [nmLong_l] at hc
  exact h.all c (mem_flat (List.mem_of_mem_take hc))
theorem nmLong_head {n : Str} (h : Nm n) (d : Int) : (nmLong n d).cps.toList.head? = n.cps.toList.head? := by
  rw [nmLong_l]
  have h1 := h.lo
  rw [str_len] at h1
  cases e : n.cps.toList with
  | nil => rw [e] at h1; simp at h1
  | cons c r =>
    obtain ⟨k, hk⟩ : ∃ k, (6 + d % 15).toNat = k + 1 := ⟨(6 + d % 15).toNat - 1, by omega⟩
    rw [hk]
    rfl
/-- the first sign -/
def hd (n : Str) : Option Nat := n.cps.toList.head?
def baseNames (ds : List Int) (many : Nat) : List Str := (List.range many).map fun t => nmAt (ds.getD many 0) (ds.getD t 0) t
def longNames (ds : List Int) (at_ : Nat) (l : List Str) : List Str := (List.range l.length).map fun t => nmLong (l.getD t Str.empty) (ds.getD at_ 0)
def names1 (ds : List Int) (many : Nat) : List Str := if ds.getD many 0 / 26 % 3 = 1 then (List.range many).map (fun t => nmLong (nmAt (ds.getD many 0) (ds.getD t 0) t) (ds.getD t 0)) else baseNames ds many
abbrev leftS : Str := "left"
abbrev byS : Str := "by"
def names2 (ds : List Int) (many : Nat) : List Str := if ds.getD many 0 / 26 % 3 = 0 ∧ leftS ∉ names1 ds many ∧ byS ∉ names1 ds many then ((names1 ds many).set (ds.getD many 0 % 2).toNat leftS).set (2 + ds.getD many 0 % 3).toNat byS else names1 ds many
theorem names1_at {ds : List Int} {many t : Nat} {n : Str} (hpos : ∀ d ∈ ds, 0 ≤ d) (h : (names1 ds many)[t]? = some n) : t < many ∧ Nm n ∧ hd n = some (97 + ((ds.getD many 0 + 3 * (t : Int)) % 26).toNat) := by
  have p : ∀ k, 0 ≤ ds.getD k 0 := fun k => by
    rw [List.getD_eq_getElem?_getD]
    cases e : ds[k]? with
    | none => simp
    | some d => exact hpos d (List.mem_of_getElem? e)
  have hr : ∀ {f : Nat → Str}, ((List.range many).map f)[t]? = some n → t < many ∧ n = f t := fun {f} q => by
    rw [List.getElem?_map] at q
    cases e : (List.range many)[t]? with
    | none => rw [e] at q; cases q
    | some j =>
      obtain ⟨h1, h2⟩ := List.getElem?_eq_some_iff.mp e
      rw [List.length_range] at h1
      rw [List.getElem_range] at h2
      rw [e] at q
      subst h2
      exact ⟨h1, (Option.some.inj q).symm⟩
  unfold names1 at h
  split at h
  · obtain ⟨h1, rfl⟩ := hr h
    have z := nmAt_nm (ds.getD many 0) (ds.getD t 0) t (p t)
    refine ⟨h1, nmLong_nm z _, ?_⟩
    unfold hd
    rw [nmLong_head z, nmAt_l _ _ _ (p t)]
    rfl
  · unfold baseNames at h
    obtain ⟨h1, rfl⟩ := hr h
    refine ⟨h1, nmAt_nm _ _ _ (p t), ?_⟩
    unfold hd
    rw [nmAt_l _ _ _ (p t)]
    rfl
theorem names1_len (ds : List Int) (many : Nat) : (names1 ds many).length = many := by
  unfold names1 baseNames
  split <;> rw [List.length_map, List.length_range]
theorem nodup_ix2 {α : Type} {l : List α} : l.Nodup ↔ ∀ i j, i < j → j < l.length → l[i]? ≠ l[j]? := by
  show List.Pairwise (· ≠ ·) l ↔ _
  rw [List.pairwise_iff_getElem]
  constructor
  · intro h i j hij hj e
    rw [List.getElem?_eq_getElem hj, List.getElem?_eq_getElem (by omega)] at e
    exact h i j (by omega) hj hij (Option.some.inj e)
  · intro h i j hi hj hij e
    exact h i j hij hj (by rw [List.getElem?_eq_getElem hj, List.getElem?_eq_getElem hi, e])
theorem names1_nd {ds : List Int} {many : Nat} (hpos : ∀ d ∈ ds, 0 ≤ d) (hm : many ≤ 9) : (names1 ds many).Nodup := by
  rw [nodup_ix2]
  intro i j hij hj e
  have hl := names1_len ds many
  have ej : (names1 ds many)[j]? = some (names1 ds many)[j] := List.getElem?_eq_getElem hj
  have a := names1_at hpos ej
  have b := names1_at hpos (e.trans ej)
  have z := b.2.2.symm.trans a.2.2
  have z2 := Option.some.inj z
  omega
structure Names (ns : List Str) (many : Nat) : Prop where
  len : ns.length = many
  nd : ns.Nodup
  nm : ∀ n ∈ ns, Nm n
theorem nodup_set {l : List Str} {x : Str} (h : l.Nodup) (hx : x ∉ l) (i : Nat) : (l.set i x).Nodup := by
  rw [nodup_ix2] at h ⊢
  intro a b hab hb e
  rw [List.length_set] at hb
  rw [List.getElem?_set, List.getElem?_set] at e
  by_cases h1 : i = a
  · subst h1
    have e2 : some x = l[b]? := by simpa [show i < l.length by omega, show ¬ i = b by omega] using e
    exact hx (List.mem_of_getElem? e2.symm)
  · rw [if_neg h1] at e
    by_cases h2 : i = b
    · subst h2
      rw [if_pos rfl, if_pos hb] at e
      exact hx (List.mem_of_getElem? e)
    · rw [if_neg h2] at e
      exact h a b hab hb e
theorem names2_ok {ds : List Int} {many : Nat} (hpos : ∀ d ∈ ds, 0 ≤ d) (hm : many ≤ 9) : Names (names2 ds many) many := by
  have n1 : Names (names1 ds many) many := ⟨names1_len ds many, names1_nd hpos hm, fun n hn => by
    obtain ⟨i, hi⟩ := List.mem_iff_getElem?.mp hn
    exact (names1_at hpos hi).2.1⟩
  unfold names2
  split
  · rename_i h
    obtain ⟨_, h1, h2⟩ := h
    refine ⟨by rw [List.length_set, List.length_set]; exact n1.len, ?_, fun n hn => ?_⟩
    · refine nodup_set (nodup_set n1.nd h1 _) (fun z => ?_) _
      rcases List.mem_or_eq_of_mem_set z with q | q
      · exact h2 q
      · exact absurd q (by decide +kernel)
    · rcases List.mem_or_eq_of_mem_set hn with q | q
      · rcases List.mem_or_eq_of_mem_set q with q | q
        · exact n1.nm n q
        · subst q
          exact ⟨by decide +kernel, by decide +kernel, by unfold okC; decide +kernel⟩
      · subst q
        exact ⟨by decide +kernel, by decide +kernel, by unfold okC; decide +kernel⟩
  · exact n1

/-! ### the law's names, walked -/
def aLetters (xs : List D) (r : DS) : Prop := xs = [] ∧ r = .im (.str lettersS)
theorem scLetters : FnScope [] [] (defScope S_law_letters) := ⟨rfl, rfl, rfl, by decide +kernel, rfl, by decide +kernel, by decide +kernel⟩
theorem ok_letters {G : Glb} (Z : Facts G) : CallD G 1 "_law_letters" [] false aLetters := by
  refine ⟨?_, Z.g_law_letters, Z.n_law_letters, Z.f_law_letters.kp⟩
  refine okD (N := []) Z.f_law_letters scLetters (fun xs r ⟨e, _⟩ => by rw [e]; rfl) fun cdv Ar outer s H E hr xs r ⟨e, er⟩ => ?_
  subst e er
  exact dss_one (ds_ret de_str (.inl rfl))
abbrev nameDs (sc : List Int) (a m : Int) : List Int := digits sc a (m + 1) (26 * 26 * 9)
def lawNames (sc : List Int) (a m : Int) : List Str := names2 (nameDs sc a m) m.toNat
theorem nameDs_pos (sc : List Int) (a m : Int) : ∀ d ∈ nameDs sc a m, 0 ≤ d := fun d hd => (digRun_in _ _ (by decide) _ d hd).1
theorem lawNames_ok (sc : List Int) (a : Int) {m : Int} (hm : m ≤ 9) : Names (lawNames sc a m) m.toNat := names2_ok (nameDs_pos sc a m) (by omega)
def aNames (xs : List D) (r : DS) : Prop := ∃ (sc : List Int) (a m : Int), xs = [.lst (sc.map .int), .int a, .int m] ∧ 0 ≤ a ∧ 5 ≤ m ∧ m ≤ 9 ∧ r = .own ((lawNames sc a m).map .str)
abbrev nNames : List Str := ["_law_script", "_law_at", "_law_many", "_law_draws", "_law_found", "_law_turn", "_law_first", "_law_number", "_law_tail", "_law_name"]
abbrev qNames : List Str := ["_law_script", "_law_at", "_law_many"]
theorem scNames : FnScope nNames qNames (defScope S_law_names) := ⟨rfl, rfl, rfl, by decide +kernel, rfl, by decide +kernel, by decide +kernel⟩
theorem ix_nat {n : Nat} {i : Int} {k : Nat} (e : i = (k : Int)) (h : k < n) : ixN n i = some k := by
  subst e
  unfold ixN
  rw [if_pos (by omega), if_pos (by omega)]
  rfl
/-- the last two statements -/
theorem names_end {G : Glb} (Z : Facts G) {cdv : Value} {Ar : Around} {outer : List Env} {s : Shared} {H : Hp} {E : XK} (hr : Room 3 (Ar.deeper (envOfC "_law_names" (defScope S_law_names) s.heap.objs.size (He.ga G.K "_law_names") cdv))) {sc : List Int} {a m : Int} {dsx : List Int} (hm : 5 ≤ m) (hm2 : m ≤ 9)
    (hp : ∀ d ∈ dsx, 0 ≤ d) (hl : dsx.length = m.toNat + 1) (hn1 : Names (names1 dsx m.toNat) m.toNat) (gd : ∀ k : Nat, k ≤ m.toNat → dsx[k]? = some (dsx.getD k 0) ∧ 0 ≤ dsx.getD k 0) {o5 o6 o7 o8 o9 : DS} :
    DSs (cxOf CX0 G.P G.w G.K G.mg G.base nNames "_law_names" (defScope S_law_names) (He.ga G.K "_law_names") cdv Ar outer s H E).nox G.T W0 false ((defBody S_law_names).drop 3) [.im (.lst (sc.map .int)), .im (.int a), .im (.int m), .im (.lst (dsx.map .int)), .own ((names1 dsx m.toNat).map .str), o5, o6, o7, o8, o9]
      { nx := fun _ => DS.own ((names2 dsx m.toNat).map D.str) = .im .non, rt := fun t => t = .own ((names2 dsx m.toNat).map D.str) ∨ t.fz = .own ((names2 dsx m.toNat).map D.str) } := by
  have gm := gd m.toNat (Nat.le_refl _)
  obtain ⟨dm, hdm⟩ : ∃ dm, dm = dsx.getD m.toNat 0 := ⟨_, rfl⟩
  rw [← hdm] at gm
  have hlen := hn1.len
  refine dss_cons (ds_if (dt_w (dw_and (dt_eqI (de_mod (de_div (de_ixL (de_var 3 rfl) (de_var 2 rfl) (lk_int (j := m.toNat) (by omega) gm.1)) de_int ⟨by decide, by decide⟩) de_int (by decide)) de_int) fun _ => dw_and (dt_view 4 rfl rfl (dt_niS de_str (de_var 4 rfl))) fun _ => dw_and1 (dt_view 4 rfl rfl (dt_niS de_str (de_var 4 rfl))))) (fun hc => ?_) (fun hc => ?_))
  · have hc' : dm / 26 % 3 = 0 ∧ leftS ∉ names1 dsx m.toNat ∧ byS ∉ names1 dsx m.toNat := by simpa using hc
    have e : names2 dsx m.toNat = ((names1 dsx m.toNat).set (dm % 2).toNat leftS).set (2 + dm % 3).toNat byS := by
      unfold names2
      rw [← hdm, if_pos hc']
    rw [e]
    refine dss_cons (ds_setI 4 rfl (de_mod (de_ixL (de_var 3 rfl) (de_var 2 rfl) (lk_int (j := m.toNat) (by omega) gm.1)) de_int (by decide)) de_str (ix_nat (k := (dm % 2).toNat) (by omega) (by rw [List.length_map, hlen]; omega)) ?_)
    refine dss_one (ds_setI 4 rfl (de_add de_int (de_mod (de_ixL (de_var 3 rfl) (de_var 2 rfl) (lk_int (j := m.toNat) (by omega) gm.1)) de_int (by decide))) de_str (ix_nat (k := (2 + dm % 3).toNat) (by omega) (by rw [List.length_set, List.length_map, hlen]; omega)) ?_)
    rw [← List.map_set, ← List.map_set]
    exact dss_one (ds_retOwn 4 rfl (.inl rfl))
  · have hc' : ¬ (dm / 26 % 3 = 0 ∧ leftS ∉ names1 dsx m.toNat ∧ byS ∉ names1 dsx m.toNat) := by simpa using hc
    have e : names2 dsx m.toNat = names1 dsx m.toNat := by
      unfold names2
      rw [← hdm, if_neg hc']
    rw [e]
    exact dss_nil (dss_one (ds_retOwn 4 rfl (.inl rfl)))
theorem ok_names {G : Glb} (Z : Facts G) : CallD G 4 "_law_names" qNames false aNames := by
  refine ⟨?_, Z.g_law_names, Z.n_law_names, Z.f_law_names.kp⟩
  refine okD (N := nNames) Z.f_law_names scNames (fun xs r ⟨_, _, _, e, _⟩ => by rw [e]; rfl) fun cdv Ar outer s H E hr xs r ⟨sc, a, m, e, ha, hm, hm2, er⟩ => ?_
  subst e er
  refine dss_cons (ds_p2t 3 4 (de_own (dv_c (ok_digits Z) hr (da_cons (de_var 0 rfl) (da_cons (de_var 1 rfl) (da_cons (de_add (de_var 2 rfl) de_int) (da_cons (de_mul (de_mul de_int de_int (.inr (by decide))) de_int (.inr (by decide))) da_nil)))) ⟨sc, a, m + 1, 26 * 26 * 9, rfl, ha, by omega, by omega, by decide, by decide, rfl⟩)) (dv_lst da_nil (by decide)) ?_ scNames.nd)
  have hl : (nameDs sc a m).length = m.toNat + 1 := by rw [digits_len]; omega
  have hp := nameDs_pos sc a m
  show DSs _ _ _ _ _ [.im (.lst (sc.map .int)), .im (.int a), .im (.int m), .im (.lst ((nameDs sc a m).map .int)), .own [], .no, .no, .no, .no, .no] _
  unfold lawNames
  generalize nameDs sc a m = dsx at hl hp ⊢
  have gd : ∀ k : Nat, k ≤ m.toNat → dsx[k]? = some (dsx.getD k 0) ∧ 0 ≤ dsx.getD k 0 := fun k hk => by
    have h1 : k < dsx.length := by omega
    rw [List.getD_eq_getElem?_getD, List.getElem?_eq_getElem h1]
    exact ⟨rfl, hp _ (List.getElem_mem h1)⟩
  have gm := gd m.toNat (Nat.le_refl _)
  have ok1 : ∀ {i : Int} (h0 : 0 ≤ i) (h1 : i < 26), (D.str ⟨#[97 + i.toNat]⟩ : D) = .str (sgn i) := fun _ _ => rfl
  have lz : lettersS.length ≤ sizeLine := by decide +kernel
  refine dss_cons (ds_forR [5, 6, 7, 8, 9] (fun i => [.im (.lst (sc.map .int)), .im (.int a), .im (.int m), .im (.lst (dsx.map .int)), .own (((List.range i).map fun t => nmAt (dsx.getD m.toNat 0) (dsx.getD t 0) t).map .str), .no, .no, .no, .no, .no]) (fun d ds1 => ds1.set 5 (.im (.int (0 + (d : Int))))) rfl
    (di_rng1 (de_var 2 rfl) rfl Z.b_range (by omega) (by omega)) (fun d _ ds1 => dg_name 5 scNames.nd) (fun i hi => ?_) ?_ PassesOwn.never)
  · rw [Int.zero_add]
    have gi := gd i (by omega)
    obtain ⟨di, hdi⟩ : ∃ di, di = dsx.getD i 0 := ⟨_, rfl⟩
    rw [← hdi] at gi
    refine dss_cons (ds_set 6 (de_ixS (dv_c0 (ok_letters Z) hr ⟨rfl, rfl⟩) (de_mod (de_add (de_ixL (de_var 3 rfl) (de_var 2 rfl) (lk_int (j := m.toNat) (by omega) gm.1)) (de_mul de_int (de_var 5 rfl) (.inl (by decide)))) de_int (by decide)) lz (letters_at (by omega) (by omega))) ?_ scNames.nd)
    refine dss_cons (ds_set 7 (de_ixL (de_var 3 rfl) (de_var 5 rfl) (lk_int (j := i) rfl gi.1)) ?_ scNames.nd)
    refine dss_cons (ds_set 8 (de_addS (de_mulS (de_ixS (dv_c0 (ok_letters Z) hr ⟨rfl, rfl⟩) (de_mod (de_var 7 rfl) de_int (by decide)) lz (letters_at (by omega) (by omega))) (de_mod (de_div (de_var 7 rfl) de_int ⟨by decide, by decide⟩) de_int (by decide)) (mulOk (by show 1 ≤ 1000; decide) (by omega) (by omega)))
      (de_ixS (dv_c0 (ok_letters Z) hr ⟨rfl, rfl⟩) (de_mod (de_div (de_var 7 rfl) de_int ⟨by decide, by decide⟩) de_int (by decide)) lz (letters_at (by omega) (by omega))) ?_) ?_ scNames.nd)
    · show (PySem.Txt.mul (sgn (di % 26)) (di / 26 % 3)).length + 1 ≤ sizeLine
      rw [mul_len _ (by omega), sgn_len]
      have : sizeLine = 16777216 := rfl
      omega
    have tl := nmTail_len di
    have sl : sizeLine = 16777216 := rfl
    refine dss_one (ds_append 4 rfl (de_addS (de_var 6 rfl) (de_slS (de_var 8 rfl) do_none (do_some (de_div (de_var 7 rfl) de_int ⟨by decide, by decide⟩)) ?_) ?_) (by rw [List.length_map, List.length_map, List.length_range]; omega) ?_)
    · show (nmTail di).length ≤ sizeLine
      omega
    · show 1 + (cutS (nmTail di) none (some (di / 1521))).length ≤ sizeLine
      rw [cut_len _ (by omega)]
      omega
    · show _ = _
      rw [List.range_succ, List.map_append, List.map_append, List.map_cons, ← hdi]
      rfl
  · obtain ⟨dm, hdm⟩ : ∃ dm, dm = dsx.getD m.toNat 0 := ⟨_, rfl⟩
    have hbase : (List.range m.toNat).map (fun t => nmAt (dsx.getD m.toNat 0) (dsx.getD t 0) t) = baseNames dsx m.toNat := rfl
    have hbl : (baseNames dsx m.toNat).length = m.toNat := by unfold baseNames; rw [List.length_map, List.length_range]
    rw [hbase]
    rw [← hdm] at gm
    have hn1 : Names (names1 dsx m.toNat) m.toNat := ⟨names1_len _ _, names1_nd hp (by omega), fun n hn => by
      obtain ⟨i, hi⟩ := List.mem_iff_getElem?.mp hn
      exact (names1_at hp hi).2.1⟩
    refine dss_cons (ds_if (dt_eqI (de_mod (de_div (de_ixL (de_var 3 rfl) (de_var 2 rfl) (lk_int (j := m.toNat) (by omega) gm.1)) de_int ⟨by decide, by decide⟩) de_int (by decide)) de_int) (fun hc => ?_) (fun hc => ?_))
    · have hc' : dm / 26 % 3 = 1 := by simpa using hc
      have e1 : names1 dsx m.toNat = (List.range m.toNat).map (fun t => nmLong (nmAt (dsx.getD m.toNat 0) (dsx.getD t 0) t) (dsx.getD t 0)) := by
        unfold names1
        rw [if_pos (by rw [← hdm]; exact hc')]
      refine dss_freeze 4 rfl rfl (dss_one (ds_setLcP 4 (ev := enE D.str) (xs := (baseNames dsx m.toNat).zipIdx) (own := [("_law_at", 1), ("_law_name", 9)]) (js := [1, 9]) (fun q => ([.im (.lst (sc.map .int)), .im (.int (q.2 : Int)), .im (.int m), .im (.lst (dsx.map .int)), .im (.lst ((baseNames dsx m.toNat).map .str)), .no, .no, .no, .no, .im (.str q.1)]))
        (fun _ => true) (fun q => .str (nmLong q.1 (dsx.getD q.2 0))) (by rw [← enumD_map]; exact di_enum (de_var 4 rfl) rfl Z.b_enumerate) (by rw [List.length_zipIdx, hbl]; omega) scNames.nd (blkOk_by (N := nNames) (sc := defScope S_law_names) (by decide +kernel))
        (fun s H C cl fp d hd => ?_) (fun s H C cl fp d hd => dts_nil) (fun s H C cl fp d hd _ => ?_) ?_))
      · exact dg_tup (dgs_cons (dg_name 1 scNames.nd) (dgs_cons (dg_name 9 scNames.nd) dgs_nil))
      · obtain ⟨i, hi⟩ := List.mem_iff_getElem?.mp hd
        obtain ⟨q1, q2⟩ := zi_get hi
        have q3 : d.2 < m.toNat := by
          rw [q1]
          have := (List.getElem?_eq_some_iff.mp q2).1
          omega
        have q4 : Nm d.1 := by
          unfold baseNames at q2
          rw [List.getElem?_map, List.getElem?_eq_getElem (by rw [List.length_range]; omega), List.getElem_range] at q2
          rw [← Option.some.inj q2]
          exact nmAt_nm _ _ _ (gd i (by omega)).2
        have q5 := gd d.2 (by omega)
        have := q4.hi
        have sl : sizeLine = 16777216 := rfl
        exact de_slS (de_mulS (de_var 9 rfl) de_int (mulOk (by omega) (by decide) (by decide))) do_none (do_some (de_add de_int (de_mod (de_ixL (de_var 3 rfl) (de_var 1 rfl) (lk_int (j := d.2) rfl q5.1)) de_int (by decide)))) (by rw [mul_len _ (by decide)]; show 20 * _ ≤ _; omega)
      · have e2 : (((baseNames dsx m.toNat).zipIdx.filter fun _ => true).map fun q => D.str (nmLong q.1 (dsx.getD q.2 0))) = (names1 dsx m.toNat).map D.str := by
          rw [List.filter_eq_self.mpr fun _ _ => rfl, e1]
          apply List.ext_getElem?
          intro i
          rw [List.getElem?_map, List.getElem?_map, List.getElem?_map, List.getElem?_zipIdx]
          unfold baseNames
          rw [List.getElem?_map]
          cases e : (List.range m.toNat)[i]? with
          | none => rfl
          | some a =>
            obtain ⟨_, rfl⟩ := rng_get e
            show some (D.str (nmLong _ (dsx.getD (0 + a) 0))) = _
            rw [Nat.zero_add]
            rfl
        rw [e2]
        exact names_end Z hr hm hm2 hp hl hn1 gd (o5 := .no) (o6 := .no) (o7 := .no) (o8 := .no) (o9 := .no)
    · have hc' : ¬ dm / 26 % 3 = 1 := by simpa using hc
      have e1 : names1 dsx m.toNat = baseNames dsx m.toNat := by
        unfold names1
        rw [if_neg (by rw [← hdm]; exact hc')]
      rw [← e1]
      exact dss_nil (names_end Z hr hm hm2 hp hl hn1 gd (o5 := .no) (o6 := .no) (o7 := .no) (o8 := .no) (o9 := .no))

/-! ### some of the names -/
def someStep (num : Int) (acc : List Str) (p : Str × Nat) : List Str :=
  if Builtin.bitAnd (num / 2 ^ ((p.2 : Int).toNat)) 1 = 1 then acc.take (num / 1009 * ((p.2 : Int) + 1) % ((acc.length : Int) + 1)).toNat ++ [p.1] ++ acc.drop (num / 1009 * ((p.2 : Int) + 1) % ((acc.length : Int) + 1)).toNat else acc
def someRun (ns : List Str) (num : Int) (i : Nat) : List Str := (ns.zipIdx.take i).foldl (someStep num) []
def some_ (ns : List Str) (num : Int) : List Str := ns.zipIdx.foldl (someStep num) []
theorem someRun_succ {ns : List Str} {num : Int} {i : Nat} {a : Str} (h : ns[i]? = some a) : someRun ns num (i + 1) = someStep num (someRun ns num i) (a, i) := by
  unfold someRun
  have e : ns.zipIdx[i]? = some (a, i) := by rw [List.getElem?_zipIdx, h, Nat.zero_add]; rfl
  rw [List.take_succ, e, List.foldl_append]
  rfl
theorem someRun_end (ns : List Str) (num : Int) : someRun ns num ns.length = some_ ns num := by
  unfold someRun some_
  rw [List.take_of_length_le (by rw [List.length_zipIdx]; exact Nat.le_refl _)]
theorem perm_ins (l : List Str) (x : Str) (k : Nat) : (l.take k ++ [x] ++ l.drop k).Perm (x :: l) := by
  rw [List.append_assoc]
  refine List.perm_middle.trans ?_
  show (x :: (l.take k ++ l.drop k)).Perm (x :: l)
  rw [List.take_append_drop]
theorem someRun_ok {ns : List Str} {num : Int} (hn : ns.Nodup) : ∀ i, i ≤ ns.length → (someRun ns num i).Nodup ∧ ∀ x ∈ someRun ns num i, x ∈ ns.take i
  | 0, _ => ⟨List.nodup_nil, fun x hx => by cases hx⟩
  | i + 1, hi => by
    have e : ns[i]? = some ns[i] := List.getElem?_eq_getElem hi
    obtain ⟨a, b⟩ := someRun_ok (num := num) hn i (by omega)
    have et : ns.take (i + 1) = ns.take i ++ [ns[i]] := by rw [List.take_succ, e]; rfl
    have nt : (ns.take (i + 1)).Nodup := hn.sublist (List.take_sublist _ _)
    rw [et] at nt
    have ni : ns[i] ∉ ns.take i := fun z => by
      have := (List.nodup_append.mp nt).2.2 _ z _ (List.mem_singleton_self _)
      exact this rfl
    rw [someRun_succ e]
    unfold someStep
    split
    · have p := perm_ins (someRun ns num i) ns[i] (num / 1009 * (((ns[i], i) : Str × Nat).2 + 1 : Int) % ((someRun ns num i).length + 1 : Int)).toNat
      refine ⟨p.nodup_iff.mpr (List.nodup_cons.mpr ⟨fun z => ni (b _ z), a⟩), fun x hx => ?_⟩
      rw [et]
      rcases List.mem_cons.mp (p.mem_iff.mp hx) with rfl | z
      · exact List.mem_append_right _ (List.mem_singleton_self _)
      · exact List.mem_append_left _ (b x z)
    · refine ⟨a, fun x hx => ?_⟩
      rw [et]
      exact List.mem_append_left _ (b x hx)
theorem some_ok {ns : List Str} (num : Int) (hn : ns.Nodup) : (some_ ns num).Nodup ∧ ∀ x ∈ some_ ns num, x ∈ ns := by
  have h := someRun_ok (num := num) hn ns.length (Nat.le_refl _)
  rw [someRun_end, List.take_length] at h
  exact h
theorem someRun_len (ns : List Str) (num : Int) : ∀ i, i ≤ ns.length → (someRun ns num i).length ≤ i
  | 0, _ => Nat.le_refl _
  | i + 1, hi => by
    rw [someRun_succ (List.getElem?_eq_getElem hi)]
    have := someRun_len ns num i (by omega)
    unfold someStep
    split
    · rw [List.length_append, List.length_append, List.length_take, List.length_drop, List.length_singleton]
      omega
    · omega
theorem some_len (ns : List Str) (num : Int) : (some_ ns num).length ≤ ns.length := by rw [← someRun_end]; exact someRun_len ns num _ (Nat.le_refl _)
def aSome (xs : List D) (r : DS) : Prop := ∃ (ns : List Str) (num : Int), xs = [.lst (ns.map .str), .int num] ∧ ns.length ≤ 1000 ∧ r = .own ((some_ ns num).map .str)
abbrev nSome : List Str := ["_law_names_here", "_law_number", "_law_found", "_law_at", "_law_name"]
abbrev qSome : List Str := ["_law_names_here", "_law_number"]
theorem scSome : FnScope nSome qSome (defScope S_law_some) := ⟨rfl, rfl, rfl, by decide +kernel, rfl, by decide +kernel, by decide +kernel⟩
theorem ok_some {G : Glb} (Z : Facts G) : CallD G 1 "_law_some" qSome false aSome := by
  refine ⟨?_, Z.g_law_some, Z.n_law_some, Z.f_law_some.kp⟩
  refine okD (N := nSome) Z.f_law_some scSome (fun xs r ⟨_, _, e, _⟩ => by rw [e]; rfl) fun cdv Ar outer s H E hr xs r ⟨ns, num, e, hn, er⟩ => ?_
  subst e er
  refine dss_cons (ds_set 2 (dv_lst da_nil (by decide)) ?_ scSome.nd)
  refine dss_cons (ds_forN [3, 4] (fun i => [.im (.lst (ns.map .str)), .im (.int num), .own ((someRun ns num i).map .str), .no, .no]) (fun i a ds1 => (ds1.set 3 (.im (.int (i : Int)))).set 4 (.im (.str a))) rfl (di_enum (de_var 0 rfl) rfl Z.b_enumerate)
    (fun i a _ ds1 => dg_tup (dgs_cons (dg_name 3 scSome.nd) (dgs_cons (dg_name 4 scSome.nd) dgs_nil))) (fun i a ha => ?_) ?_ PassesOwn.never)
  · have hi : i < ns.length := (List.getElem?_eq_some_iff.mp ha).1
    have hl := someRun_len ns num i (by omega)
    refine dss_one (ds_if (dt_eqI (de_band (de_shr (de_var 1 rfl) (de_var 3 rfl) (by omega)) de_int) de_int) (fun hc => ?_) (fun hc => ?_))
    · have hc' : Builtin.bitAnd (num / 2 ^ ((i : Int).toNat)) 1 = 1 := by simpa using hc
      refine dss_one (ds_insert 2 rfl (de_mod (de_mul (de_div (de_var 1 rfl) de_int ⟨by decide, by decide⟩) (de_add (de_var 3 rfl) de_int) (.inr ⟨by omega, by omega⟩)) (de_add (de_view 2 rfl rfl rfl (de_lenL (de_var 2 rfl) rfl Z.b_len)) de_int) (by omega)) (de_var 4 rfl) (by rw [List.length_map]; omega) (Int.emod_nonneg _ (by omega)) ?_ ?_)
      · rw [List.length_map]
        have := Int.emod_lt_of_pos (num / 1009 * ((i : Int) + 1)) (by omega : (0 : Int) < ((someRun ns num i).length : Int) + 1)
        omega
      · show _ = _
        rw [someRun_succ ha]
        unfold someStep
        rw [if_pos hc', List.length_map, ← List.map_take, ← List.map_drop, List.map_append, List.map_append]
        rfl
    · have hc' : ¬ Builtin.bitAnd (num / 2 ^ ((i : Int).toNat)) 1 = 1 := by simpa using hc
      refine dss_nil ?_
      show _ = _
      rw [someRun_succ ha]
      unfold someStep
      rw [if_neg hc']
      rfl
  · rw [someRun_end]
    exact dss_one (ds_retOwn 2 rfl (.inl rfl))

/-! ### names, as the program looks at them -/
abbrev LET : List Nat := lettersS.cps.toList
def isNm (d : D) : Bool := match d with
  | .str z => (decide (1 ≤ (z.length : Int)) && decide ((z.length : Int) ≤ 20)) && z.cps.toList.all fun c => decide (c ∈ LET)
  | _ => false
theorem let_ok {c : Nat} (h : okC c) : c ∈ LET := by
  have q : ∀ c < 123, 97 ≤ c → c ∈ LET := by decide +kernel
  unfold okC at h
  exact q c (by omega) h.1
theorem let_of {c : Nat} (h : c ∈ LET) : okC c := by
  have q : ∀ c ∈ LET, 97 ≤ c ∧ c ≤ 122 := by decide +kernel
  exact q c h
theorem isNm_of {n : Str} (h : Nm n) : isNm (.str n) = true := by
  have h1 := h.lo
  have h2 := h.hi
  unfold isNm
  show ((decide (1 ≤ (n.length : Int)) && decide ((n.length : Int) ≤ 20)) && n.cps.toList.all fun c => decide (c ∈ LET)) = true
  rw [decide_eq_true (by omega), decide_eq_true (by omega), Bool.and_true, Bool.true_and, List.all_eq_true]
  exact fun c hc => decide_eq_true (let_ok (h.all c hc))
theorem of_isNm {n : Str} (h : isNm (.str n) = true) : Nm n := by
  have h' : ((decide (1 ≤ (n.length : Int)) && decide ((n.length : Int) ≤ 20)) && n.cps.toList.all fun c => decide (c ∈ LET)) = true := h
  rw [Bool.and_eq_true, Bool.and_eq_true, decide_eq_true_eq, decide_eq_true_eq, List.all_eq_true] at h'
  exact ⟨by omega, by omega, fun c hc => let_of (of_decide_eq_true (h'.2 c hc))⟩
theorem kit_non_str : kitB "NoneType" "str" = some false := by decide +kernel
theorem kit_bool_str : kitB "bool" "str" = some false := by decide +kernel
theorem kit_int_str : kitB "int" "str" = some false := by decide +kernel
theorem kit_list_str : kitB "list" "str" = some false := by decide +kernel
theorem kit_tuple_str : kitB "tuple" "str" = some false := by decide +kernel
def Fine (d : D) : Prop := tyD d ≠ "?" ∧ ∀ z, d = .str z → z.length ≤ 100000
def aIsName (xs : List D) (r : DS) : Prop := ∃ d, xs = [d] ∧ Fine d ∧ r = .im (.bl (isNm d))
abbrev nIsName : List Str := ["thing", "sign"]
theorem scIsName : FnScope nIsName ["thing"] (defScope S_is_name) := ⟨rfl, rfl, rfl, by decide +kernel, rfl, by decide +kernel, by decide +kernel⟩
theorem ok_is_name {G : Glb} (Z : Facts G) : CallD G 1 "is_name" ["thing"] false aIsName := by
  refine ⟨?_, Z.g_is_name, Z.n_is_name, Z.f_is_name.kp⟩
  refine okD (N := nIsName) Z.f_is_name scIsName (fun xs r ⟨_, e, _⟩ => by rw [e]; rfl) fun cdv Ar outer s H E hr xs r ⟨d, e, hf, er⟩ => ?_
  subst e er
  by_cases hs : ∃ z, d = .str z
  · obtain ⟨z, rfl⟩ := hs
    have hz := hf.2 z rfl
    have hz2 : z.length ≤ sizeLine := Nat.le_trans hz (by decide)
    refine dss_cons (ds_if (dt_w (dw_or (dt_not (dt_val (de_isi (n := "str") (b := true) (de_var 0 rfl) (de_ty rfl Z.b_str (by decide +kernel)) (by show "str" ≠ "?"; decide) (show kitB "str" "str" = some true by decide +kernel) rfl Z.b_isinstance))) fun _ => dw_or1 (dt_not (dt_leLe de_int (de_lenS (de_var 0 rfl) hz2 rfl Z.b_len) (de_gint rfl Z.c_LONGEST))))) (fun hc => ?_) (fun hc => ?_))
    · have e : isNm (.str z) = false := by
        show ((decide (1 ≤ (z.length : Int)) && decide ((z.length : Int) ≤ 20)) && z.cps.toList.all fun c => decide (c ∈ LET)) = false
        have h : (decide (1 ≤ (z.length : Int)) && decide ((z.length : Int) ≤ 20)) = false := by
          cases ha : (decide (1 ≤ (z.length : Int)) && decide ((z.length : Int) ≤ 20)) with
          | false => rfl
          | true => rw [ha] at hc; cases hc
        rw [h]
        rfl
      rw [e]
      exact dss_one (ds_ret de_bl (.inl rfl))
    · have e : isNm (.str z) = z.cps.toList.all fun c => decide (c ∈ LET) := by
        show ((decide (1 ≤ (z.length : Int)) && decide ((z.length : Int) ≤ 20)) && z.cps.toList.all fun c => decide (c ∈ LET)) = _
        have h : (decide (1 ≤ (z.length : Int)) && decide ((z.length : Int) ≤ 20)) = true := by
          cases ha : (decide (1 ≤ (z.length : Int)) && decide ((z.length : Int) ≤ 20)) with
          | true => rfl
          | false => rw [ha] at hc; cases hc
        rw [h]
        rfl
      rw [e]
      refine dss_nil (dss_one (ds_ret (dv_is (de_all (bs := z.cps.toList.map fun c => decide (c ∈ LET)) (dv_is (de_own (dv_lcP (ev := fun c => D.str ⟨#[c]⟩) (xs := z.cps.toList) (own := [("sign", 1)]) (js := [1]) (fun c => [.im (.str z), .im (.str ⟨#[c]⟩)]) (fun _ => true) (fun c => .bl (decide (c ∈ LET))) (di_str (de_var 0 rfl))
        (by rw [← str_len]; exact hz) scIsName.nd (blkOk_by (N := nIsName) (sc := defScope S_is_name) (by decide +kernel)) (fun s H C cl fp c hc => dg_name 1 scIsName.nd) (fun s H C cl fp c hc => dts_nil) (fun s H C cl fp c hc _ => de_inC (de_var 1 rfl) (de_gstr rfl Z.c_LETTERS)))) ?_) rfl Z.b_all) rfl) (.inl ?_)))
      · rw [List.filter_eq_self.mpr fun _ _ => rfl, List.map_map]
        rfl
      · rw [List.all_map]
        rfl
  · have e : isNm d = false := by
      cases d <;> first | rfl | exact absurd ⟨_, rfl⟩ hs
    have ht : kitB (tyD d) "str" = some false := by
      have h1 := hf.1
      cases d with
      | non => exact kit_non_str
      | bl b => exact kit_bool_str
      | int i => exact kit_int_str
      | str z => exact absurd ⟨_, rfl⟩ hs
      | lst xs => exact kit_list_str
      | tup xs => exact kit_tuple_str
      | ty n => exact absurd rfl h1
      | dic k => exact absurd rfl h1
      | ins c f => exact absurd rfl h1
      | fn k d g => exact absurd rfl h1
    rw [e]
    exact dss_cons (ds_if (dt_w (dw_or (y := false) (dt_not (dt_val (de_isi (n := "str") (b := false) (de_var 0 rfl) (de_ty rfl Z.b_str (by decide +kernel)) hf.1 ht rfl Z.b_isinstance))) fun h => by cases h)) (fun hc => dss_one (ds_ret de_bl (.inl rfl))) (fun hc => by cases hc))

/-! ### lists of names; what a letter is -/
def strOf (d : D) : Option Str := match d with
  | .str z => some z
  | _ => none
theorem strs_back : ∀ {xs : List D}, xs.all isNm = true → xs = (xs.filterMap strOf).map D.str
  | [], _ => rfl
  | d :: xs, h => by
    rw [List.all_cons, Bool.and_eq_true] at h
    obtain ⟨z, rfl⟩ : ∃ z, d = .str z := by
      have h1 := h.1
      cases d with
      | str z => exact ⟨z, rfl⟩
      | non => cases h1
      | bl b => cases h1
      | int i => cases h1
      | lst xs => cases h1
      | tup xs => cases h1
      | ty n => cases h1
      | dic k => cases h1
      | ins c f => cases h1
      | fn k d g => cases h1
    show D.str z :: xs = D.str z :: (xs.filterMap strOf).map D.str
    rw [← strs_back h.2]
def areNm (d : D) : Bool := match d with
  | .lst xs => xs.all isNm && decide (((SetK.dd (xs.filterMap strOf)).length : Int) = (xs.length : Int))
  | _ => false
theorem filter_strs : ∀ ns : List Str, (ns.map D.str).filterMap strOf = ns
  | [] => rfl
  | n :: ns => by
    show n :: (ns.map D.str).filterMap strOf = _
    rw [filter_strs]
theorem areNm_of {ns : List Str} (h : ∀ n ∈ ns, Nm n) (hd : ns.Nodup) : areNm (.lst (ns.map .str)) = true := by
  show ((ns.map D.str).all isNm && decide (((SetK.dd ((ns.map D.str).filterMap strOf)).length : Int) = ((ns.map D.str).length : Int))) = true
  rw [filter_strs, (SetK.dd_len_eq ns).mpr hd, List.length_map, decide_eq_true rfl, Bool.and_true, List.all_map, List.all_eq_true]
  exact fun n hn => isNm_of (h n hn)
def aAreNames (xs : List D) (r : DS) : Prop := ∃ d, xs = [d] ∧ Fine d ∧ (∀ ys, d = .lst ys → ys.length ≤ 4000 ∧ ∀ y ∈ ys, Fine y) ∧ r = .im (.bl (areNm d))
abbrev nAre : List Str := ["thing", "one"]
theorem scAre : FnScope nAre ["thing"] (defScope S_are_names) := ⟨rfl, rfl, rfl, by decide +kernel, rfl, by decide +kernel, by decide +kernel⟩
theorem kit_list_list : kitB "list" "list" = some true := by decide +kernel
theorem kit_non_list : kitB "NoneType" "list" = some false := by decide +kernel
theorem kit_bool_list : kitB "bool" "list" = some false := by decide +kernel
theorem kit_int_list : kitB "int" "list" = some false := by decide +kernel
theorem kit_str_list : kitB "str" "list" = some false := by decide +kernel
theorem kit_tuple_list : kitB "tuple" "list" = some false := by decide +kernel
theorem ok_are_names {G : Glb} (Z : Facts G) : CallD G 2 "are_names" ["thing"] false aAreNames := by
  refine ⟨?_, Z.g_are_names, Z.n_are_names, Z.f_are_names.kp⟩
  refine okD (N := nAre) Z.f_are_names scAre (fun xs r ⟨_, e, _⟩ => by rw [e]; rfl) fun cdv Ar outer s H E hr xs r ⟨d, e, hf, hl, er⟩ => ?_
  subst e er
  by_cases hs : ∃ ys, d = .lst ys
  · obtain ⟨ys, rfl⟩ := hs
    obtain ⟨hy, hfy⟩ := hl ys rfl
    refine dss_cons (ds_if (dt_w (dw_or (dt_not (dt_val (de_isi (n := "list") (b := true) (de_var 0 rfl) (de_ty rfl Z.b_list (by decide +kernel)) (by show "list" ≠ "?"; decide) kit_list_list rfl Z.b_isinstance))) fun _ => dw_or1 (dt_not (dt_val (de_all (bs := ys.map isNm) (dv_is (de_own (dv_lcP (ev := id) (xs := ys) (own := [("one", 1)]) (js := [1])
      (fun c => [.im (.lst ys), .im c]) (fun _ => true) (fun c => .bl (isNm c)) (by rw [List.map_id]; exact di_list (de_var 0 rfl)) (by omega) scAre.nd (blkOk_by (N := nAre) (sc := defScope S_are_names) (by decide +kernel)) (fun s H C cl fp c hc => dg_name 1 scAre.nd) (fun s H C cl fp c hc => dts_nil)
      (fun s H C cl fp c hc _ => dv_c (ok_is_name Z) hr (da_cons (de_var 1 rfl) da_nil) ⟨c, rfl, hfy c hc, rfl⟩))) (by rw [List.filter_eq_self.mpr fun _ _ => rfl, List.map_map]; rfl)) rfl Z.b_all))))) (fun hc => ?_) (fun hc => ?_))
    · have e : areNm (.lst ys) = false := by
        have h : ys.all isNm = false := by
          rw [List.all_map] at hc
          cases q : ys.all isNm with
          | false => rfl
          | true =>
            have h2 : (ys.all fun x => (id ∘ isNm) x) = true := q
            rw [show ys.all (id ∘ isNm) = true from q] at hc
            cases hc
        show (ys.all isNm && _) = false
        rw [h]
        rfl
      rw [e]
      exact dss_one (ds_ret de_bl (.inl rfl))
    · have h : ys.all isNm = true := by
        rw [List.all_map] at hc
        cases q : ys.all isNm with
        | true => rfl
        | false =>
          rw [show ys.all (id ∘ isNm) = false from q] at hc
          cases hc
      have e := strs_back h
      have e2 : areNm (.lst ys) = decide (((SetK.dd (ys.filterMap strOf)).length : Int) = (ys.length : Int)) := by
        show (ys.all isNm && _) = _
        rw [h]
        rfl
      rw [e2]
      generalize ys.filterMap strOf = ns at e ⊢
      subst e
      rw [List.length_map] at hy ⊢
      refine dss_nil (dss_one (ds_ret (de_eqI (de_lenSet (de_var 0 rfl) hy rfl Z.b_len rfl Z.b_set) (dv_is (de_lenL (de_var 0 rfl) rfl Z.b_len) (by rw [List.length_map]))) (.inl rfl)))
  · have e : areNm d = false := by
      cases d <;> first | rfl | exact absurd ⟨_, rfl⟩ hs
    have ht : kitB (tyD d) "list" = some false := by
      have h1 := hf.1
      cases d with
      | non => exact kit_non_list
      | bl b => exact kit_bool_list
      | int i => exact kit_int_list
      | str z => exact kit_str_list
      | lst xs => exact absurd ⟨_, rfl⟩ hs
      | tup xs => exact kit_tuple_list
      | ty n => exact absurd rfl h1
      | dic k => exact absurd rfl h1
      | ins c f => exact absurd rfl h1
      | fn k d g => exact absurd rfl h1
    rw [e]
    exact dss_cons (ds_if (dt_w (dw_or (y := false) (dt_not (dt_val (de_isi (n := "list") (b := false) (de_var 0 rfl) (de_ty rfl Z.b_list (by decide +kernel)) hf.1 ht rfl Z.b_isinstance))) fun h => by cases h)) (fun hc => dss_one (ds_ret de_bl (.inl rfl))) (fun hc => by cases hc))
/-- a good name is no trouble -/
def aCheckName (xs : List D) (r : DS) : Prop := ∃ n, xs = [.str n] ∧ Nm n ∧ r = .im .non
theorem scCheckName : FnScope ["name"] ["name"] (defScope S_check_name) := ⟨rfl, rfl, rfl, by decide +kernel, rfl, by decide +kernel, by decide +kernel⟩
theorem fine_str {z : Str} (h : z.length ≤ 100000) : Fine (.str z) := ⟨by show "str" ≠ "?"; decide, fun y e => by cases e; exact h⟩
theorem Nm.fine {n : Str} (h : Nm n) : Fine (.str n) := fine_str (by have := h.hi; omega)
theorem ok_check_name {G : Glb} (Z : Facts G) : CallD G 2 "check_name" ["name"] false aCheckName := by
  refine ⟨?_, Z.g_check_name, Z.n_check_name, Z.f_check_name.kp⟩
  refine okD (N := ["name"]) Z.f_check_name scCheckName (fun xs r ⟨_, e, _⟩ => by rw [e]; rfl) fun cdv Ar outer s H E hr xs r ⟨n, e, hn, er⟩ => ?_
  subst e er
  exact dss_one (ds_if (dt_not (dt_val (dv_c (ok_is_name Z) hr (da_cons (de_var 0 rfl) da_nil) ⟨_, rfl, hn.fine, rfl⟩))) (fun hc => by rw [isNm_of hn] at hc; cases hc) (fun _ => dss_nil rfl))
/-- names to which a letter is sent -/
structure Ns (ns : List Str) : Prop where
  nm : ∀ n ∈ ns, Nm n
  nd : ns.Nodup
  ne : ns ≠ []
  le : ns.length ≤ 1000
theorem ns_fine {ns : List Str} (h : ∀ n ∈ ns, Nm n) (hl : ns.length ≤ 1000) : ∀ ys, D.lst (ns.map .str) = .lst ys → ys.length ≤ 4000 ∧ ∀ y ∈ ys, Fine y := fun ys e => by
  cases e
  refine ⟨by rw [List.length_map]; omega, fun y hy => ?_⟩
  obtain ⟨n, h1, rfl⟩ := List.mem_map.mp hy
  exact (h n h1).fine
theorem fine_lst (xs : List D) : Fine (.lst xs) := ⟨by show "list" ≠ "?"; decide, fun y e => by cases e⟩
def aCheckNames (xs : List D) (r : DS) : Prop := ∃ ns : List Str, xs = [.lst (ns.map .str)] ∧ Ns ns ∧ r = .im .non
theorem scCheckNames : FnScope ["names"] ["names"] (defScope S_check_names) := ⟨rfl, rfl, rfl, by decide +kernel, rfl, by decide +kernel, by decide +kernel⟩
theorem ok_check_names {G : Glb} (Z : Facts G) : CallD G 3 "check_names" ["names"] false aCheckNames := by
  refine ⟨?_, Z.g_check_names, Z.n_check_names, Z.f_check_names.kp⟩
  refine okD (N := ["names"]) Z.f_check_names scCheckNames (fun xs r ⟨_, e, _⟩ => by rw [e]; rfl) fun cdv Ar outer s H E hr xs r ⟨ns, e, hn, er⟩ => ?_
  subst e er
  refine dss_one (ds_if (dt_w (dw_or (dt_not (dt_val (dv_c (ok_are_names Z) hr (da_cons (de_var 0 rfl) da_nil) ⟨_, rfl, fine_lst _, ns_fine hn.nm hn.le, rfl⟩))) fun _ => dw_or1 (dt_eqX (x := ns) (y := []) (de_var 0 rfl) (de_own (dv_lst da_nil (by decide))) (units_of hr)))) (fun hc => ?_) (fun _ => dss_nil rfl))
  rw [areNm_of hn.nm hn.nd, decide_eq_false hn.ne] at hc
  cases hc
def aCheckLetter (xs : List D) (r : DS) : Prop := ∃ (s : Str) (ns : List Str), xs = [.str s, .lst (ns.map .str)] ∧ Nm s ∧ Ns ns ∧ r = .im .non
theorem scCheckLetter : FnScope ["sender", "names"] ["sender", "names"] (defScope S_check_letter) := ⟨rfl, rfl, rfl, by decide +kernel, rfl, by decide +kernel, by decide +kernel⟩
theorem ok_check_letter {G : Glb} (Z : Facts G) : CallD G 4 "check_letter" ["sender", "names"] false aCheckLetter := by
  refine ⟨?_, Z.g_check_letter, Z.n_check_letter, Z.f_check_letter.kp⟩
  refine okD (N := ["sender", "names"]) Z.f_check_letter scCheckLetter (fun xs r ⟨_, _, e, _⟩ => by rw [e]; rfl) fun cdv Ar outer s H E hr xs r ⟨se, ns, e, hse, hn, er⟩ => ?_
  subst e er
  exact dss_cons (ds_expr (dv_c (ok_check_name Z) hr (da_cons (de_var 0 rfl) da_nil) ⟨_, rfl, hse, rfl⟩) (dss_one (ds_expr (dv_c (ok_check_names Z) hr (da_cons (de_var 1 rfl) da_nil) ⟨_, rfl, hn, rfl⟩) rfl)))

/-! ### answers -/
def answerM (s : Str) (ns : List Str) (p : Str) : List Str := (s :: ns.filter fun n => !decide (n = s)).filter fun n => !decide (n = p)
def aAnswer (xs : List D) (r : XR) : Prop := ∃ (s : Str) (ns : List Str) (p : Str), xs = [.str s, .lst (ns.map .str), .str p] ∧ Nm s ∧ Ns ns ∧ Nm p ∧ r = if answerM s ns p = [] then .exc "NoOne" [] else .val (.own ((answerM s ns p).map .str))
abbrev nAnswer : List Str := ["sender", "names", "person", "found", "name"]
abbrev qAnswer : List Str := ["sender", "names", "person"]
theorem scAnswer : FnScope nAnswer qAnswer (defScope S_answer) := ⟨rfl, rfl, rfl, by decide +kernel, rfl, by decide +kernel, by decide +kernel⟩
theorem ok_answer {G : Glb} (Z : Facts G) : CallX G 5 "answer" qAnswer false aAnswer := by
  refine ⟨?_, Z.g_answer, Z.n_answer, Z.f_answer.kp⟩
  refine okX (N := nAnswer) Z.f_answer scAnswer (fun xs r ⟨_, _, _, e, _⟩ => by rw [e]; rfl) fun cdv Ar outer s H E hr tk xs r ⟨se, ns, pe, e, hs, hn, hp, er⟩ => ?_
  subst e er
  refine dss_cons (ds_expr (dv_c (ok_check_letter Z) hr (da_cons (de_var 0 rfl) (da_cons (de_var 1 rfl) da_nil)) ⟨_, _, rfl, hs, hn, rfl⟩) ?_)
  refine dss_cons (ds_expr (dv_c (ok_check_name Z) hr (da_cons (de_var 2 rfl) da_nil) ⟨_, rfl, hp, rfl⟩) ?_)
  have hl := hn.le
  have hl2 : (ns.filter fun n => !decide (n = se)).length ≤ ns.length := List.length_filter_le _ _
  refine dss_cons (ds_setLcP 3 (ev := D.str) (xs := se :: ns.filter fun n => !decide (n = se)) (own := [("name", 4)]) (js := [4]) (fun n => [.im (.str se), .im (.lst (ns.map .str)), .im (.str pe), .no, .im (.str n)]) (fun n => !decide (n = pe)) D.str
    (di_list (dv_is (de_own (dv_cat (de_own (dv_lst (da_cons (de_var 0 rfl) da_nil) (Nat.le_of_ble_eq_true rfl))) (de_own (dv_lcP (ev := D.str) (xs := ns) (own := [("name", 4)]) (js := [4]) (fun n => [.im (.str se), .im (.lst (ns.map .str)), .im (.str pe), .no, .im (.str n)]) (fun n => !decide (n = se)) D.str (di_list (de_var 1 rfl))
      (by omega) scAnswer.nd (blkOk_by (N := nAnswer) (sc := defScope S_answer) (by decide +kernel)) (fun s H C cl fp c hc => dg_name 4 scAnswer.nd) (fun s H C cl fp c hc => dts_one (dt_neS (de_var 4 rfl) (de_var 0 rfl))) (fun s H C cl fp c hc _ => de_var 4 rfl))) (by rw [List.length_map]; show 1 + _ ≤ _; omega))) rfl))
    (by show _ + 1 ≤ _; omega) scAnswer.nd (blkOk_by (N := nAnswer) (sc := defScope S_answer) (by decide +kernel)) (fun s H C cl fp c hc => dg_name 4 scAnswer.nd) (fun s H C cl fp c hc => dts_one (dt_neS (de_var 4 rfl) (de_var 2 rfl))) (fun s H C cl fp c hc _ => de_var 4 rfl) ?_)
  have e : ((se :: ns.filter fun n => !decide (n = se)).filter fun n => !decide (n = pe)) = answerM se ns pe := rfl
  rw [e]
  refine dss_cons (ds_if (dt_view 3 rfl rfl (dt_eqX (x := answerM se ns pe) (y := []) (de_var 3 rfl) (de_own (dv_lst da_nil (by decide))) (units_of hr))) (fun hc => ?_) (fun hc => ?_))
  · have hc' := of_decide_eq_true hc
    rw [if_pos hc']
    exact dss_one (ds_raise tk Z.e_NoOne Z.g_NoOne rfl)
  · have hc' := of_decide_eq_false hc
    rw [if_neg hc']
    exact dss_nil (dss_one (ds_retOwn 3 rfl (.inl rfl)))

/-! ### the law's own: to whom it is due -/
def dueStep (p : Str) (acc : List Str) (n : Str) : List Str := if n ∉ acc ∧ n ≠ p then acc ++ [n] else acc
def dueRun (l : List Str) (p : Str) (i : Nat) : List Str := (l.take i).foldl (dueStep p) []
def due (s : Str) (ns : List Str) (p : Str) : List Str := (s :: ns).foldl (dueStep p) []
theorem dueRun_succ {l : List Str} {p : Str} {i : Nat} {a : Str} (h : l[i]? = some a) : dueRun l p (i + 1) = dueStep p (dueRun l p i) a := by
  unfold dueRun
  rw [List.take_succ, h, List.foldl_append]
  rfl
theorem dueRun_le (l : List Str) (p : Str) : ∀ i, (dueRun l p i).length ≤ i
  | 0 => Nat.le_refl _
  | i + 1 => by
    cases h : l[i]? with
    | none =>
      have e : dueRun l p (i + 1) = dueRun l p i := by
        unfold dueRun
        rw [List.take_of_length_le (by have := List.getElem?_eq_none_iff.mp h; omega), List.take_of_length_le (by have := List.getElem?_eq_none_iff.mp h; omega)]
      rw [e]
      have := dueRun_le l p i
      omega
    | some a =>
      rw [dueRun_succ h]
      have := dueRun_le l p i
      unfold dueStep
      split
      · rw [List.length_append, List.length_singleton]; omega
      · omega
/-- with unlike names it is the filter -/
theorem due_fold (p : Str) : ∀ (l acc : List Str), l.Nodup → l.foldl (dueStep p) acc = acc ++ l.filter fun n => decide (n ∉ acc) && !decide (n = p)
  | [], acc, _ => by simp
  | n :: l, acc, h => by
    obtain ⟨h1, h2⟩ := List.nodup_cons.mp h
    rw [List.foldl_cons, due_fold p l _ h2, List.filter_cons]
    unfold dueStep
    by_cases hc : n ∉ acc ∧ n ≠ p
    · rw [if_pos hc, if_pos (by simp [hc.1, hc.2]), List.append_assoc]
      congr 1
      show [n] ++ _ = n :: _
      rw [List.singleton_append]
      congr 1
      apply List.filter_congr
      intro x hx
      have : x ≠ n := fun e => h1 (e ▸ hx)
      simp [this]
    · rw [if_neg hc, if_neg (by simp only [Bool.and_eq_true, decide_eq_true_eq, Bool.not_eq_true', decide_eq_false_iff_not]; exact hc)]
theorem answer_due (s : Str) (ns : List Str) (p : Str) (h : ns.Nodup) : answerM s ns p = due s ns p := by
  unfold answerM due
  have e : (s :: ns).foldl (dueStep p) [] = (s :: ns.filter fun n => !decide (n = s)).foldl (dueStep p) [] := by
    rw [List.foldl_cons, List.foldl_cons]
    by_cases hs : s = p
    · subst hs
      have e0 : dueStep s [] s = [] := by unfold dueStep; rw [if_neg (by simp)]
      rw [e0, due_fold s ns [] h, due_fold s _ [] (h.filter _), List.filter_filter]
      congr 1
      apply List.filter_congr
      intro x _
      simp
    · have e0 : dueStep p [] s = [s] := by unfold dueStep; rw [if_pos ⟨by simp, hs⟩]; rfl
      rw [e0, due_fold p ns [s] h, due_fold p _ [s] (h.filter _), List.filter_filter]
      congr 1
      apply List.filter_congr
      intro x _
      by_cases hx : x = s <;> simp [hx]
  rw [e, due_fold p _ [] (List.nodup_cons.mpr ⟨by simp, h.filter _⟩)]
  simp
def aDue (xs : List D) (r : DS) : Prop := ∃ (s : Str) (ns : List Str) (p : Str), xs = [.str s, .lst (ns.map .str), .str p] ∧ ns.length ≤ 1000 ∧ r = .own ((due s ns p).map .str)
abbrev nDue : List Str := ["_law_sender", "_law_names_here", "_law_person", "_law_found", "_law_name"]
abbrev qDue : List Str := ["_law_sender", "_law_names_here", "_law_person"]
theorem scDue : FnScope nDue qDue (defScope S_law_due) := ⟨rfl, rfl, rfl, by decide +kernel, rfl, by decide +kernel, by decide +kernel⟩
theorem ok_due {G : Glb} (Z : Facts G) : CallD G 1 "_law_due" qDue false aDue := by
  refine ⟨?_, Z.g_law_due, Z.n_law_due, Z.f_law_due.kp⟩
  refine okD (N := nDue) Z.f_law_due scDue (fun xs r ⟨_, _, _, e, _⟩ => by rw [e]; rfl) fun cdv Ar outer s H E hr xs r ⟨se, ns, pe, e, hl, er⟩ => ?_
  subst e er
  refine dss_cons (ds_set 3 (dv_lst da_nil (by decide)) ?_ scDue.nd)
  refine dss_cons (ds_forE [4] (e := D.str) (xs := se :: ns) (fun i => [.im (.str se), .im (.lst (ns.map .str)), .im (.str pe), .own ((dueRun (se :: ns) pe i).map .str), .no]) (fun n ds1 => ds1.set 4 (.im (.str n))) rfl (di_list (dv_is (de_own (dv_cat (de_own (dv_lst (da_cons (de_var 0 rfl) da_nil) (Nat.le_of_ble_eq_true rfl))) (de_var 1 rfl) (by rw [List.length_map]; show 1 + _ ≤ _; omega))) rfl))
    (fun n _ ds1 => dg_name 4 scDue.nd) (fun i n hn => ?_) ?_ PassesOwn.never)
  · have h1 := dueRun_le (se :: ns) pe i
    have h2 := (List.getElem?_eq_some_iff.mp hn).1
    rw [List.length_cons] at h2
    refine dss_one (ds_if (dt_w (dw_and (dt_view 3 rfl rfl (dt_niS (de_var 4 rfl) (de_var 3 rfl))) fun _ => dw_and1 (dt_neS (de_var 4 rfl) (de_var 2 rfl)))) (fun hc => ?_) (fun hc => ?_))
    · have hc' : n ∉ dueRun (se :: ns) pe i ∧ n ≠ pe := by simpa using hc
      refine dss_one (ds_append 3 rfl (de_var 4 rfl) (by rw [List.length_map]; omega) ?_)
      show _ = _
      rw [dueRun_succ hn]
      unfold dueStep
      rw [if_pos hc', List.map_append]
      rfl
    · have hc' : ¬ (n ∉ dueRun (se :: ns) pe i ∧ n ≠ pe) := by simpa using hc
      refine dss_nil ?_
      show _ = _
      rw [dueRun_succ hn]
      unfold dueStep
      rw [if_neg hc']
      rfl
  · have e : dueRun (se :: ns) pe (se :: ns).length = due se ns pe := by
      unfold dueRun due
      rw [List.take_length]
    rw [e]
    exact dss_one (ds_retOwn 3 rfl (.inl rfl))
/-! told -/
def aTold (xs : List D) (r : DS) : Prop := ∃ (s : Str) (ns : List Str) (p : Str), xs = [.str s, .lst (ns.map .str), .str p] ∧ Nm s ∧ Ns ns ∧ Nm p ∧ r = .own ((due s ns p).map .str)
abbrev nTold : List Str := ["_law_sender", "_law_names_here", "_law_person", "_law_found"]
theorem scTold : FnScope nTold qDue (defScope S_law_told) := ⟨rfl, rfl, rfl, by decide +kernel, rfl, by decide +kernel, by decide +kernel⟩
theorem ok_told {G : Glb} (Z : Facts G) : CallD G 6 "_law_told" qDue false aTold := by
  refine ⟨?_, Z.g_law_told, Z.n_law_told, Z.f_law_told.kp⟩
  refine okD (N := nTold) Z.f_law_told scTold (fun xs r ⟨_, _, _, e, _⟩ => by rw [e]; rfl) fun cdv Ar outer s H E hr xs r ⟨se, ns, pe, e, hs, hn, hp, er⟩ => ?_
  subst e er
  rw [← answer_due se ns pe hn.nd]
  refine dss_cons (ds_try (fun C => C == "NoOne") takes0 Z.g_NoOne (fun _ _ _ _ => trivial) fun W' pn xe tk ho => ?_)
  by_cases hc : answerM se ns pe = []
  · have er : (XR.exc "NoOne" [] : XR) = if answerM se ns pe = [] then .exc "NoOne" [] else .val (.own ((answerM se ns pe).map .str)) := by rw [if_pos hc]
    refine dss_one (ds_setX (i := 3) (dx_c (ok_answer Z) tk hr (da_cons (de_var 0 rfl) (da_cons (de_var 1 rfl) (da_cons (de_var 2 rfl) da_nil))) ⟨_, _, _, rfl, hs, hn, hp, er⟩) ⟨Z.m_NoOne_NoOne, fun z => ?_, fun _ a pn => ?_⟩ scTold.nd)
    · exact absurd z (by decide +kernel)
    · rw [hc]
      exact dss_one (ds_ret (dv_lst da_nil (by decide)) (.inl rfl))
  · have er : (XR.val (.own ((answerM se ns pe).map .str)) : XR) = if answerM se ns pe = [] then .exc "NoOne" [] else .val (.own ((answerM se ns pe).map .str)) := by rw [if_neg hc]
    refine dss_one (ds_set 3 (dv_cx (ok_answer Z) hr (da_cons (de_var 0 rfl) (da_cons (de_var 1 rfl) (da_cons (de_var 2 rfl) da_nil))) ⟨_, _, _, rfl, hs, hn, hp, er⟩) ?_ scTold.nd)
    exact dss_one (ds_retOwn 3 rfl (.inl rfl))

theorem due_names {s : Str} {ns : List Str} {p : Str} (hs : Nm s) (hn : Ns ns) (hl9 : ns.length ≤ 900) (h : due s ns p ≠ []) : Ns (due s ns p) := by
  have e := answer_due s ns p hn.nd
  have hl : (ns.filter fun n => !decide (n = s)).length ≤ ns.length := List.length_filter_le _ _
  rw [← e] at h ⊢
  unfold answerM at h ⊢
  refine ⟨fun n hm => ?_, ?_, h, ?_⟩
  · rcases List.mem_cons.mp (List.mem_filter.mp hm).1 with rfl | z
    · exact hs
    · exact hn.nm n (List.mem_filter.mp z).1
  · exact (List.nodup_cons.mpr ⟨by simp, hn.nd.filter _⟩ : (s :: ns.filter fun n => !decide (n = s)).Nodup).filter _
  · refine Nat.le_trans (List.length_filter_le _ _) ?_
    rw [List.length_cons]
    omega
def aRight (xs : List D) (r : DS) : Prop := ∃ (s : Str) (ns : List Str) (p : Str), xs = [.str s, .lst (ns.map .str), .str p] ∧ Nm s ∧ Ns ns ∧ ns.length ≤ 900 ∧ Nm p ∧ r = .im (.bl true)
abbrev nRight : List Str := ["_law_sender", "_law_names_here", "_law_person", "_law_handed", "_law_due_here", "_law_told_here"]
theorem scRight : FnScope nRight qDue (defScope S_law_answer_right) := ⟨rfl, rfl, rfl, by decide +kernel, rfl, by decide +kernel, by decide +kernel⟩
theorem flat_sm (l : List Str) : (l.map D.str).all flatD = true := by
  rw [List.all_map, List.all_eq_true]
  intro x _
  rfl
theorem due_len (s : Str) (ns : List Str) (p : Str) : (due s ns p).length ≤ ns.length + 1 := by
  have h := dueRun_le (s :: ns) p (s :: ns).length
  unfold dueRun at h
  rw [List.take_length] at h
  exact h
theorem ok_right {G : Glb} (Z : Facts G) : CallD G 7 "_law_answer_right" qDue false aRight := by
  refine ⟨?_, Z.g_law_answer_right, Z.n_law_answer_right, Z.f_law_answer_right.kp⟩
  refine okD (N := nRight) Z.f_law_answer_right scRight (fun xs r ⟨_, _, _, e, _⟩ => by rw [e]; rfl) fun cdv Ar outer s H E hr xs r ⟨se, ns, pe, e, hs, hn, hl, hp, er⟩ => ?_
  subst e er
  have hdl := due_len se ns pe
  refine dss_cons (ds_p2 3 4 (de_own (dv_list (de_var 1 rfl) rfl Z.b_list)) (de_own (dv_c (ok_due Z) hr (da_cons (de_var 0 rfl) (da_cons (de_var 1 rfl) (da_cons (de_var 2 rfl) da_nil))) ⟨_, _, _, rfl, by omega, rfl⟩)) ?_ scRight.nd)
  refine dss_cons (ds_set 5 (dv_c (ok_told Z) hr (da_cons (de_var 0 rfl) (da_cons (de_var 3 rfl) (da_cons (de_var 2 rfl) da_nil))) ⟨_, _, _, rfl, hs, hn, hp, rfl⟩) ?_ scRight.nd)
  refine dss_cons (ds_if (dt_w (dw_or (dt_not (dt_val (de_view 5 rfl rfl rfl (de_isi (n := "list") (b := true) (de_var 5 rfl) (de_ty rfl Z.b_list (by decide +kernel)) (by show "list" ≠ "?"; decide) kit_list_list rfl Z.b_isinstance)))) fun _ => dw_or (dt_view 5 rfl rfl (dt_neX (x := due se ns pe) (y := due se ns pe) (de_var 5 rfl) (de_var 4 rfl) (units_of hr))) fun _ =>
    dw_or1 (dt_neX (x := ns) (y := ns) (de_var 3 rfl) (de_var 1 rfl) (units_of hr)))) (fun hc => ?_) (fun _ => dss_nil ?_))
  · simp at hc
  refine dss_cons (ds_if (dt_eqX (x := due se ns pe) (y := []) (de_var 4 rfl) (de_own (dv_lst da_nil (by decide))) (units_of hr)) (fun hc => dss_one (ds_ret de_bl (.inl rfl))) (fun hc => dss_nil ?_))
  have hne : due se ns pe ≠ [] := of_decide_eq_false hc
  have hd := due_names (p := pe) hs hn hl hne
  refine dss_cons (ds_if (dt_neX (x := due pe (due se ns pe) se) (y := due pe (due se ns pe) se) (de_own (dv_c (ok_told Z) hr (da_cons (de_var 2 rfl) (da_cons (de_own (dv_viewL 5 rfl rfl (flat_sm _) (dv_list (de_var 5 rfl) rfl Z.b_list))) (da_cons (de_var 0 rfl) da_nil))) ⟨_, _, _, rfl, hp, hd, hs, rfl⟩))
    (de_own (dv_c (ok_due Z) hr (da_cons (de_var 2 rfl) (da_cons (de_var 4 rfl) (da_cons (de_var 0 rfl) da_nil))) ⟨_, _, _, rfl, by omega, rfl⟩)) (units_of hr)) (fun hc => ?_) (fun _ => dss_nil ?_))
  · simp at hc
  refine dss_cons (ds_append 5 rfl de_str (by rw [List.length_map]; omega) ?_)
  have er : (XR.val (.own ((answerM se ns pe).map .str)) : XR) = if answerM se ns pe = [] then .exc "NoOne" [] else .val (.own ((answerM se ns pe).map .str)) := by rw [if_neg (by rw [answer_due se ns pe hn.nd]; exact hne)]
  refine dss_one (ds_ret (de_eqX (x := answerM se ns pe) (y := due se ns pe) (de_own (dv_cx (ok_answer Z) hr (da_cons (de_var 0 rfl) (da_cons (de_var 3 rfl) (da_cons (de_var 2 rfl) da_nil))) ⟨_, _, _, rfl, hs, hn, hp, er⟩)) (de_var 4 rfl) (units_of hr)) (.inl ?_))
  rw [answer_due se ns pe hn.nd, decide_eq_true rfl]

/-! ### the law -/
abbrev nLaw : List Str := ["_law_script", "_law_names_here", "_law_by", "_law_draws", "_law_some_here", "_law_sender", "_law_person"]
theorem scLaw : FnScope nLaw ["_law_script"] (defScope S_law) := ⟨rfl, rfl, rfl, by decide +kernel, rfl, by decide +kernel, by decide +kernel⟩
theorem mem_at {ns : List Str} {i : Int} (h0 : 0 ≤ i) (h1 : i < (ns.length : Int)) : ∃ n, n ∈ ns ∧ atI (ns.map D.str) i = some (.str n) := by
  have h : i.toNat < ns.length := by omega
  exact ⟨ns[i.toNat], List.getElem_mem h, lk_str (j := i.toNat) (by omega) (List.getElem?_eq_getElem h)⟩
theorem first_at {ns : List Str} (h : ns ≠ []) : ∃ n, n ∈ ns ∧ atI (ns.map D.str) 0 = some (.str n) := by
  cases ns with
  | nil => exact absurd rfl h
  | cons a r => exact ⟨a, List.mem_cons_self, lk_str (j := 0) rfl rfl⟩
theorem last_at {ns : List Str} (h : ns ≠ []) : ∃ n, n ∈ ns ∧ atI (ns.map D.str) (-1) = some (.str n) := by
  have hl : 0 < ns.length := List.length_pos_iff.mpr h
  refine ⟨ns[ns.length - 1], List.getElem_mem _, ?_⟩
  unfold atI ixN
  rw [if_neg (by omega), if_pos (by rw [List.length_map]; omega), List.length_map]
  show (ns.map D.str)[(-1 + (ns.length : Int)).toNat]? = _
  rw [show (-1 + (ns.length : Int)).toNat = ns.length - 1 by omega, List.getElem?_map, List.getElem?_eq_getElem (by omega)]
  rfl
abbrev bS : Str := "b"
theorem reps_b (k : Int) (h : 0 ≤ k) (h2 : k < 20) : Nm (PySem.Txt.mul bS (1 + k)) := by
  have e : (PySem.Txt.mul bS (1 + k)).length = (1 + k).toNat := by
    rw [mul_len _ (by omega)]
    show _ * 1 = _
    omega
  refine ⟨by omega, by omega, fun c hc => ?_⟩
  rw [mul_l _ (by omega)] at hc
  have z := mem_flat hc
  have zz : c ∈ [98] := z
  rw [List.mem_singleton.mp zz]
  unfold okC
  omega
abbrev qS : Str := "qqqqq"
theorem nm_q : Nm qS := ⟨by decide +kernel, by decide +kernel, by unfold okC; decide +kernel⟩
abbrev aS : Str := "a"
theorem nm_a : Nm aS := ⟨by decide +kernel, by decide +kernel, by unfold okC; decide +kernel⟩
theorem nm_b : Nm bS := ⟨by decide +kernel, by decide +kernel, by unfold okC; decide +kernel⟩
theorem cutG_take {xs : List D} {k : Nat} : cutG xs none (some (k : Int)) = xs.take k := by
  unfold cutG
  rw [HT.sIx_none, HT.sIx_nat, List.drop_zero, Nat.sub_zero]
  by_cases h : k ≤ xs.length
  · rw [Nat.min_eq_left h]
  · rw [Nat.min_eq_right (by omega), List.take_of_length_le (Nat.le_refl _), List.take_of_length_le (by omega)]
theorem ok_law {G : Glb} (Z : Facts G) : FnOk G.P G.w G.K G.mg G.base CX0 8 (He.ga G.K "law") (fdOf G.K (He.ga G.K "law")) ["_law_script"] (spLaw G) := by
  refine okLaw (N := nLaw) Z.f_law rfl scLaw (fun cdv Ar outer s H E => ps_set scLaw.nd rfl (.inl rfl) (pe_slice sl_list (pv 0) po_none (po_some pe_int))) fun cdv Ar outer s H E hr sc hsc => ?_
  refine dss_cons (ds_set 1 (de_own (dv_c (ok_names Z) hr (da_cons (de_var 0 rfl) (da_cons de_int (da_cons de_int da_nil))) ⟨sc, 0, 8, rfl, by decide, by decide, by decide, rfl⟩)) ?_ scLaw.nd)
  have hN := lawNames_ok sc 0 (m := 8) (by decide)
  generalize lawNames sc 0 8 = ns at hN ⊢
  have hlen : ns.length = 8 := hN.len
  have hmx : -100000 ≤ (if (if (sc.length : Int) < 20 then (sc.length : Int) else 20) > 2 then (if (sc.length : Int) < 20 then (sc.length : Int) else 20) else 2) ∧ (if (if (sc.length : Int) < 20 then (sc.length : Int) else 20) > 2 then (if (sc.length : Int) < 20 then (sc.length : Int) else 20) else 2) ≤ 100000 := by
    constructor <;> (repeat' split) <;> omega
  refine dss_cons (ds_forR [2, 3, 4, 5, 6] (fun _ => [.im (.lst (sc.map .int)), .im (.lst (ns.map .str)), .no, .no, .no, .no, .no]) (fun i ds1 => ds1.set 2 (.im (.int (1 + (i : Int))))) rfl (di_rng2 de_int (de_max de_int (de_min de_int (de_lenL (de_var 0 rfl) rfl Z.b_len) rfl Z.b_min) rfl Z.b_max) rfl Z.b_range (by decide) (by decide) (by rw [List.length_map]; exact hmx.1) (by rw [List.length_map]; exact hmx.2))
    (fun i _ ds1 => dg_name 2 scLaw.nd) (fun i hi => ?_) ?_ PassesOwn.never)
  · have hb0 : (0 : Int) ≤ 1 + (i : Int) := by omega
    refine dss_cons (ds_set 3 (de_own (dv_c (ok_digits Z) hr (da_cons (de_var 0 rfl) (da_cons (de_var 2 rfl) (da_cons de_int (da_cons (de_mul de_int de_int (.inr (by decide))) da_nil)))) ⟨sc, 1 + (i : Int), 3, 1009 * 4096, rfl, hb0, by decide, by decide, by decide, by decide, rfl⟩)) ?_ scLaw.nd)
    have d0 := dg_at (sc := sc) (at_ := 1 + (i : Int)) (many := 3) (base := 1009 * 4096) (k := 0) (by decide)
    have d1 := dg_at (sc := sc) (at_ := 1 + (i : Int)) (many := 3) (base := 1009 * 4096) (k := 1) (by decide)
    have d2 := dg_at (sc := sc) (at_ := 1 + (i : Int)) (many := 3) (base := 1009 * 4096) (k := 2) (by decide)
    have b2 := dg_in (sc := sc) (at_ := 1 + (i : Int)) (many := 3) (base := 1009 * 4096) (k := 2) (by decide) (by decide)
    generalize dg sc (1 + (i : Int)) 3 (1009 * 4096) 0 = x0 at d0
    generalize dg sc (1 + (i : Int)) 3 (1009 * 4096) 1 = x1 at d1
    generalize dg sc (1 + (i : Int)) 3 (1009 * 4096) 2 = x2 at d2 b2
    generalize digits sc (1 + (i : Int)) 3 (1009 * 4096) = ds at d0 d1 d2 ⊢
    refine dss_cons (ds_set 4 (de_own (dv_c (ok_some Z) hr (da_cons (de_var 1 rfl) (da_cons (de_ixL (de_var 3 rfl) de_int (lk_int (j := 0) rfl d0)) da_nil)) ⟨ns, x0, rfl, by omega, rfl⟩)) ?_ scLaw.nd)
    have so := some_ok x0 hN.nd
    have sl := some_len ns x0
    generalize some_ ns x0 = so1 at so sl ⊢
    obtain ⟨S, hS⟩ : ∃ S, S = if so1 ≠ [] then so1 else ns.take 1 := ⟨_, rfl⟩
    have hS1 : Ns S := by
      rw [hS]
      split
      · rename_i h
        exact ⟨fun n hn => hN.nm n (so.2 n hn), so.1, h, by omega⟩
      · refine ⟨fun n hn => hN.nm n (List.mem_of_mem_take hn), hN.nd.sublist (List.take_sublist _ _), fun z => ?_, by rw [List.length_take]; omega⟩
        have := congrArg List.length z
        rw [List.length_take, hlen] at this
        cases this
    have hS2 : S.length ≤ 900 := by
      rw [hS]
      split
      · omega
      · rw [List.length_take]; omega
    refine dss_cons (ds_set 4 (s := .im (.lst (S.map .str))) (dv_if (x := !decide (so1 = [])) (dt_neX (x := so1) (y := []) (de_var 4 rfl) (de_own (dv_lst da_nil (by decide))) (units_of hr)) (fun h => ?_) (fun h => ?_)) ?_ scLaw.nd)
    · have h' : so1 ≠ [] := by simpa using h
      rw [hS, if_pos h']
      exact de_var 4 rfl
    · have h' : ¬ so1 ≠ [] := by simpa using h
      rw [hS, if_neg h', List.map_take]
      exact dv_is (de_own (dv_slL (de_var 1 rfl) do_none (do_some de_int))) (congrArg (fun l => DS.im (D.lst l)) (cutG_take (k := 1)))
    obtain ⟨n1, m1, e1⟩ := mem_at (ns := ns) (i := x1 % 8) (by omega) (by omega)
    obtain ⟨n2, m2, e2⟩ := first_at hS1.ne
    obtain ⟨n3, m3, e3⟩ := mem_at (ns := ns) (i := x2 % 8) (by omega) (by omega)
    obtain ⟨n4, m4, e4⟩ := last_at hS1.ne
    refine dss_one (ds_forE [5, 6] (e := D.str) (xs := [n1, n2, qS]) (fun _ => [.im (.lst (sc.map .int)), .im (.lst (ns.map .str)), .im (.int (1 + (i : Int))), .im (.lst (ds.map .int)), .im (.lst (S.map .str)), .no, .no]) (fun n ds1 => ds1.set 5 (.im (.str n))) rfl
      (di_tup (de_tup (da_cons (de_ixL (de_var 1 rfl) (de_mod (de_ixL (de_var 3 rfl) de_int (lk_int (j := 1) rfl d1)) de_int (by decide)) e1) (da_cons (de_ixL (de_var 4 rfl) de_int e2) (da_cons de_str da_nil))) (Nat.le_of_ble_eq_true rfl))) (fun n _ ds1 => dg_name 5 scLaw.nd) (fun j se hse => ?_) ?_ PassesOwn.never)
    · have hse1 : Nm se := by
        have z := List.mem_of_getElem? hse
        rcases List.mem_cons.mp z with rfl | z
        · exact hN.nm _ m1
        · rcases List.mem_cons.mp z with rfl | z
          · exact hS1.nm _ m2
          · rw [List.mem_singleton.mp z]; exact nm_q
      refine dss_one (ds_forE [6] (e := D.str) (xs := [n3, se, n4, PySem.Txt.mul bS (1 + x2 / 8 % 20)]) (fun _ => [.im (.lst (sc.map .int)), .im (.lst (ns.map .str)), .im (.int (1 + (i : Int))), .im (.lst (ds.map .int)), .im (.lst (S.map .str)), .im (.str se), .no]) (fun n ds1 => ds1.set 6 (.im (.str n))) rfl
        (di_tup (de_tup (da_cons (de_ixL (de_var 1 rfl) (de_mod (de_ixL (de_var 3 rfl) de_int (lk_int (j := 2) rfl d2)) de_int (by decide)) e3) (da_cons (de_var 5 rfl) (da_cons (de_ixL (de_var 4 rfl) (de_neg de_int) e4) (da_cons (de_mulS de_str (de_add de_int (de_mod (de_div (de_ixL (de_var 3 rfl) de_int (lk_int (j := 2) rfl d2)) de_int ⟨by decide, by decide⟩) de_int (by decide))) (mulOk (by decide) (by omega) (by omega))) da_nil)))) (Nat.le_of_ble_eq_true rfl)))
        (fun n _ ds1 => dg_name 6 scLaw.nd) (fun k pe hpe => ?_) ?_ PassesOwn.never)
      · have hpe1 : Nm pe := by
          have z := List.mem_of_getElem? hpe
          rcases List.mem_cons.mp z with rfl | z
          · exact hN.nm _ m3
          · rcases List.mem_cons.mp z with rfl | z
            · exact hse1
            · rcases List.mem_cons.mp z with rfl | z
              · exact hS1.nm _ m4
              · rw [List.mem_singleton.mp z]; exact reps_b _ (by omega) (by omega)
        exact dss_one (ds_if (dt_not (dt_val (dv_c (ok_right Z) hr (da_cons (de_var 5 rfl) (da_cons (de_var 4 rfl) (da_cons (de_var 6 rfl) da_nil))) ⟨_, _, _, rfl, hse1, hS1, hS2, hpe1, rfl⟩))) (fun hc => by cases hc) (fun _ => dss_nil rfl))
      · rfl
    · rfl
  · have e1 : (XR.val (.own ((answerM aS [aS] bS).map .str)) : XR) = if answerM aS [aS] bS = [] then .exc "NoOne" [] else .val (.own ((answerM aS [aS] bS).map .str)) := by rw [if_neg (by decide +kernel)]
    have e2 : (XR.val (.own ((answerM bS [aS, bS] aS).map .str)) : XR) = if answerM bS [aS, bS] aS = [] then .exc "NoOne" [] else .val (.own ((answerM bS [aS, bS] aS).map .str)) := by rw [if_neg (by decide +kernel)]
    have n1 : Ns [aS] := ⟨fun n hn => by rw [List.mem_singleton.mp hn]; exact nm_a, by decide +kernel, by decide, by decide⟩
    have n2 : Ns [aS, bS] := ⟨fun n hn => by
      rcases List.mem_cons.mp hn with rfl | hn
      · exact nm_a
      · rw [List.mem_singleton.mp hn]; exact nm_b, by decide +kernel, by decide, by decide⟩
    refine dss_cons (ds_if (dt_w (dw_or (dt_neX (x := due aS [aS] aS) (y := []) (de_own (dv_c (ok_told Z) hr (da_cons de_str (da_cons (de_own (dv_lst (da_cons de_str da_nil) (by decide))) (da_cons de_str da_nil))) ⟨_, [aS], _, rfl, nm_a, n1, nm_a, rfl⟩)) (de_own (dv_lst da_nil (by decide))) (units_of hr)) fun _ =>
      dw_or1 (dt_neX (x := answerM aS [aS] bS) (y := [aS]) (de_own (dv_cx (ok_answer Z) hr (da_cons de_str (da_cons (de_own (dv_lst (da_cons de_str da_nil) (by decide))) (da_cons de_str da_nil))) ⟨_, [aS], _, rfl, nm_a, n1, nm_b, e1⟩)) (de_own (dv_lst (da_cons de_str da_nil) (by decide))) (units_of hr)))) (fun hc => ?_) (fun _ => dss_nil ?_))
    · exact absurd hc (by decide +kernel)
    refine dss_one (ds_ret (de_eqX (x := answerM bS [aS, bS] aS) (y := [bS]) (de_own (dv_cx (ok_answer Z) hr (da_cons de_str (da_cons (de_own (dv_lst (da_cons de_str (da_cons de_str da_nil)) (by decide))) (da_cons de_str da_nil))) ⟨_, [aS, bS], _, rfl, nm_b, n2, nm_a, e2⟩)) (de_own (dv_lst (da_cons de_str da_nil) (by decide))) (units_of hr)) ?_)
    have z : decide (answerM bS [aS, bS] aS = [bS]) = true := by decide +kernel
    rw [z]

set_option maxHeartbeats 0
/-! ### the head -/
abbrev R : PySem.W.OpenRow := PySem.W.OpenLaw.row PySem.Challenge.rw_listpost_k08_answers
def fn_0 : He.DefD := ⟨("is_name", none), "is_name", "is_name", defArgs S_is_name, defBody S_is_name, defScope S_is_name, [], []⟩
def fn_1 : He.DefD := ⟨("are_names", none), "are_names", "are_names", defArgs S_are_names, defBody S_are_names, defScope S_are_names, [], []⟩
def fn_2 : He.DefD := ⟨("check_name", none), "check_name", "check_name", defArgs S_check_name, defBody S_check_name, defScope S_check_name, [], []⟩
def fn_3 : He.DefD := ⟨("check_names", none), "check_names", "check_names", defArgs S_check_names, defBody S_check_names, defScope S_check_names, [], []⟩
def fn_4 : He.DefD := ⟨("check_letter", none), "check_letter", "check_letter", defArgs S_check_letter, defBody S_check_letter, defScope S_check_letter, [], []⟩
def fn_5 : He.DefD := ⟨("answer", none), "answer", "answer", defArgs S_answer, defBody S_answer, defScope S_answer, [], []⟩
def fn_6 : He.DefD := ⟨("_law_draw", none), "_law_draw", "_law_draw", defArgs S_law_draw, defBody S_law_draw, defScope S_law_draw, [], []⟩
def fn_7 : He.DefD := ⟨("_law_cell_at", none), "_law_cell_at", "_law_cell_at", defArgs S_law_cell_at, defBody S_law_cell_at, defScope S_law_cell_at, [], []⟩
def fn_8 : He.DefD := ⟨("_law_digits", none), "_law_digits", "_law_digits", defArgs S_law_digits, defBody S_law_digits, defScope S_law_digits, [], []⟩
def fn_9 : He.DefD := ⟨("_law_letters", none), "_law_letters", "_law_letters", defArgs S_law_letters, defBody S_law_letters, defScope S_law_letters, [], []⟩
def fn_10 : He.DefD := ⟨("_law_names", none), "_law_names", "_law_names", defArgs S_law_names, defBody S_law_names, defScope S_law_names, [], []⟩
def fn_11 : He.DefD := ⟨("_law_some", none), "_law_some", "_law_some", defArgs S_law_some, defBody S_law_some, defScope S_law_some, [], []⟩
def fn_12 : He.DefD := ⟨("_law_due", none), "_law_due", "_law_due", defArgs S_law_due, defBody S_law_due, defScope S_law_due, [], []⟩
def fn_13 : He.DefD := ⟨("_law_told", none), "_law_told", "_law_told", defArgs S_law_told, defBody S_law_told, defScope S_law_told, [], []⟩
def fn_14 : He.DefD := ⟨("_law_answer_right", none), "_law_answer_right", "_law_answer_right", defArgs S_law_answer_right, defBody S_law_answer_right, defScope S_law_answer_right, [], []⟩
def fn_15 : He.DefD := ⟨("law", none), "law", "law", defArgs S_law, defBody S_law, defScope S_law, [], []⟩
def fnp_0 : List He.DefD := [fn_0, fn_1, fn_2, fn_3, fn_4, fn_5, fn_6, fn_7, fn_8, fn_9, fn_10, fn_11, fn_12, fn_13, fn_14, fn_15]
def fn : List He.DefD := fnp_0
def fap_0 : List He.Fa := [.free "len", .free "abs", .free "sum", .free "range", .free "enumerate", .free "isinstance", .free "all", .free "list", .free "max", .free "min", .free "set", .free "str", .free "ValueError", .str "LETTERS" "abcdefghijklmnopqrstuvwxyz", .int "LONGEST" 20, .glo "is_name", .glo "are_names", .glo "check_name", .glo "check_names", .glo "check_letter", .glo "answer", .glo "_law_draw", .glo "_law_cell_at", .glo "_law_digits", .glo "_law_letters", .glo "_law_names", .glo "_law_some", .glo "_law_due", .glo "_law_told", .glo "_law_answer_right"]
def fap_1 : List He.Fa := [.glo "law", .glo "PostError", .exc "PostError", .glo "BadName", .exc "BadName", .glo "BadNames", .exc "BadNames", .glo "NoOne", .exc "NoOne", .exm "BadName" "NoOne" false, .exm "BadNames" "NoOne" false, .exm "NoOne" "NoOne" true]
def fa : List He.Fa := fap_0 ++ fap_1
def lo_0 : List Str := ["__name__", "PostError", "BadName", "BadNames", "NoOne", "LETTERS", "LONGEST", "is_name", "are_names", "check_name", "check_names", "check_letter", "answer", "_law_draw", "_law_cell_at", "_law_digits", "_law_letters", "_law_names", "_law_some", "_law_due", "_law_told", "_law_answer_right"]
def loose : List Str := lo_0
abbrev hk : PySem.W.Hook := He.hookD 4 fa fn
def ob (s : PySem.W.SharedT) : He.AlD := He.obsDG 4 fa fn (HandSHeadRun.getT s)
theorem ob_eq (s : PySem.W.SharedT) : ob s = hk.obs s.abs := He.obsDG_eq (HandSHeadRun.getT_eq s)
theorem run (w : World) : HandSHeadRun.RunEq R (PySem.W.view R.prog [25]) hk ob 4000 loose w := by
  intro os
  kernel_rfl
theorem facts_of {P : Program} {w : World} {K : PySem.W.Frag} {h base : Heap} {T : List NdefX.NTab} {mg : Str → Option Value} (X : K.In h) (Gn : h.Ns mainGlobals mg) (c : He.SaysD fa fn K) : Facts ⟨P, w, K, mg, base, T⟩ := ⟨
He.free_ok X Gn (c.fact 0 (f := .free "len") rfl),
  He.free_ok X Gn (c.fact 1 (f := .free "abs") rfl),
  He.free_ok X Gn (c.fact 2 (f := .free "sum") rfl),
  He.free_ok X Gn (c.fact 3 (f := .free "range") rfl),
  He.free_ok X Gn (c.fact 4 (f := .free "enumerate") rfl),
  He.free_ok X Gn (c.fact 5 (f := .free "isinstance") rfl),
  He.free_ok X Gn (c.fact 6 (f := .free "all") rfl),
  He.free_ok X Gn (c.fact 7 (f := .free "list") rfl),
  He.free_ok X Gn (c.fact 8 (f := .free "max") rfl),
  He.free_ok X Gn (c.fact 9 (f := .free "min") rfl),
  He.free_ok X Gn (c.fact 10 (f := .free "set") rfl),
  He.free_ok X Gn (c.fact 11 (f := .free "str") rfl),
  He.free_ok X Gn (c.fact 12 (f := .free "ValueError") rfl),
  He.str_ok X Gn (c.fact 13 (f := .str "LETTERS" "abcdefghijklmnopqrstuvwxyz") rfl),
  He.int_ok X Gn (c.fact 14 (f := .int "LONGEST" 20) rfl),
  He.glo_ok X Gn (c.fact 15 (f := .glo "is_name") rfl),
  funD_of (c.def_ 0 (d := fn_0) rfl),
  FunD.bindsN (ps := ["thing"]) (funD_of (c.def_ 0 (d := fn_0) rfl)) fun _ _ _ _ _ _ us hl => match us, hl with | [_], _ => rfl,
  He.glo_ok X Gn (c.fact 16 (f := .glo "are_names") rfl),
  funD_of (c.def_ 1 (d := fn_1) rfl),
  FunD.bindsN (ps := ["thing"]) (funD_of (c.def_ 1 (d := fn_1) rfl)) fun _ _ _ _ _ _ us hl => match us, hl with | [_], _ => rfl,
  He.glo_ok X Gn (c.fact 17 (f := .glo "check_name") rfl),
  funD_of (c.def_ 2 (d := fn_2) rfl),
  FunD.bindsN (ps := ["name"]) (funD_of (c.def_ 2 (d := fn_2) rfl)) fun _ _ _ _ _ _ us hl => match us, hl with | [_], _ => rfl,
  He.glo_ok X Gn (c.fact 18 (f := .glo "check_names") rfl),
  funD_of (c.def_ 3 (d := fn_3) rfl),
  FunD.bindsN (ps := ["names"]) (funD_of (c.def_ 3 (d := fn_3) rfl)) fun _ _ _ _ _ _ us hl => match us, hl with | [_], _ => rfl,
  He.glo_ok X Gn (c.fact 19 (f := .glo "check_letter") rfl),
  funD_of (c.def_ 4 (d := fn_4) rfl),
  FunD.bindsN (ps := ["sender", "names"]) (funD_of (c.def_ 4 (d := fn_4) rfl)) fun _ _ _ _ _ _ us hl => match us, hl with | [_, _], _ => rfl,
  He.glo_ok X Gn (c.fact 20 (f := .glo "answer") rfl),
  funD_of (c.def_ 5 (d := fn_5) rfl),
  FunD.bindsN (ps := ["sender", "names", "person"]) (funD_of (c.def_ 5 (d := fn_5) rfl)) fun _ _ _ _ _ _ us hl => match us, hl with | [_, _, _], _ => rfl,
  He.glo_ok X Gn (c.fact 21 (f := .glo "_law_draw") rfl),
  funD_of (c.def_ 6 (d := fn_6) rfl),
  FunD.bindsN (ps := ["_law_cell", "_law_k", "_law_many"]) (funD_of (c.def_ 6 (d := fn_6) rfl)) fun _ _ _ _ _ _ us hl => match us, hl with | [_, _, _], _ => rfl,
  He.glo_ok X Gn (c.fact 22 (f := .glo "_law_cell_at") rfl),
  funD_of (c.def_ 7 (d := fn_7) rfl),
  FunD.bindsN (ps := ["_law_script", "_law_k"]) (funD_of (c.def_ 7 (d := fn_7) rfl)) fun _ _ _ _ _ _ us hl => match us, hl with | [_, _], _ => rfl,
  He.glo_ok X Gn (c.fact 23 (f := .glo "_law_digits") rfl),
  funD_of (c.def_ 8 (d := fn_8) rfl),
  FunD.bindsN (ps := ["_law_script", "_law_at", "_law_many", "_law_base"]) (funD_of (c.def_ 8 (d := fn_8) rfl)) fun _ _ _ _ _ _ us hl => match us, hl with | [_, _, _, _], _ => rfl,
  He.glo_ok X Gn (c.fact 24 (f := .glo "_law_letters") rfl),
  funD_of (c.def_ 9 (d := fn_9) rfl),
  FunD.bindsN (ps := []) (funD_of (c.def_ 9 (d := fn_9) rfl)) fun _ _ _ _ _ _ us hl => match us, hl with | [], _ => rfl,
  He.glo_ok X Gn (c.fact 25 (f := .glo "_law_names") rfl),
  funD_of (c.def_ 10 (d := fn_10) rfl),
  FunD.bindsN (ps := ["_law_script", "_law_at", "_law_many"]) (funD_of (c.def_ 10 (d := fn_10) rfl)) fun _ _ _ _ _ _ us hl => match us, hl with | [_, _, _], _ => rfl,
  He.glo_ok X Gn (c.fact 26 (f := .glo "_law_some") rfl),
  funD_of (c.def_ 11 (d := fn_11) rfl),
  FunD.bindsN (ps := ["_law_names_here", "_law_number"]) (funD_of (c.def_ 11 (d := fn_11) rfl)) fun _ _ _ _ _ _ us hl => match us, hl with | [_, _], _ => rfl,
  He.glo_ok X Gn (c.fact 27 (f := .glo "_law_due") rfl),
  funD_of (c.def_ 12 (d := fn_12) rfl),
  FunD.bindsN (ps := ["_law_sender", "_law_names_here", "_law_person"]) (funD_of (c.def_ 12 (d := fn_12) rfl)) fun _ _ _ _ _ _ us hl => match us, hl with | [_, _, _], _ => rfl,
  He.glo_ok X Gn (c.fact 28 (f := .glo "_law_told") rfl),
  funD_of (c.def_ 13 (d := fn_13) rfl),
  FunD.bindsN (ps := ["_law_sender", "_law_names_here", "_law_person"]) (funD_of (c.def_ 13 (d := fn_13) rfl)) fun _ _ _ _ _ _ us hl => match us, hl with | [_, _, _], _ => rfl,
  He.glo_ok X Gn (c.fact 29 (f := .glo "_law_answer_right") rfl),
  funD_of (c.def_ 14 (d := fn_14) rfl),
  FunD.bindsN (ps := ["_law_sender", "_law_names_here", "_law_person"]) (funD_of (c.def_ 14 (d := fn_14) rfl)) fun _ _ _ _ _ _ us hl => match us, hl with | [_, _, _], _ => rfl,
  He.glo_ok X Gn (c.fact 30 (f := .glo "law") rfl),
  funD_of (c.def_ 15 (d := fn_15) rfl),
  FunD.bindsN (ps := ["_law_script"]) (funD_of (c.def_ 15 (d := fn_15) rfl)) fun _ _ _ _ _ _ us hl => match us, hl with | [_], _ => rfl,
  He.glo_ok X Gn (c.fact 31 (f := .glo "PostError") rfl),
  He.exc_ok (c.fact 32 (f := .exc "PostError") rfl),
  He.glo_ok X Gn (c.fact 33 (f := .glo "BadName") rfl),
  He.exc_ok (c.fact 34 (f := .exc "BadName") rfl),
  He.glo_ok X Gn (c.fact 35 (f := .glo "BadNames") rfl),
  He.exc_ok (c.fact 36 (f := .exc "BadNames") rfl),
  He.glo_ok X Gn (c.fact 37 (f := .glo "NoOne") rfl),
  He.exc_ok (c.fact 38 (f := .exc "NoOne") rfl),
  He.exm_ok (c.fact 39 (f := .exm "BadName" "NoOne" false) rfl),
  He.exm_ok (c.fact 40 (f := .exm "BadNames" "NoOne" false) rfl),
  He.exm_ok (c.fact 41 (f := .exm "NoOne" "NoOne" true) rfl)⟩
theorem endF {P : Program} {w : World} {K : PySem.W.Frag} {h : Heap} {mg : Str → Option Value} {f : Addr} (X : K.In h) (Gn : h.Ns mainGlobals mg) (hfa : mg ("law" : Str) = some (.ref f)) (c : He.SaysD fa fn K) :
    ∃ fd : FuncData, (∀ (s : Shared) (v : Value), BindsTo s fd ⟨[v], []⟩ [("_law_script", v)]) ∧ ∀ base : Heap, K.In base → base.Ns mainGlobals mg → FnOk P w K mg base CX0 8 f fd ["_law_script"] (spLaw ⟨P, w, K, mg, base, []⟩) := by
  have Z : ∀ base : Heap, Facts ⟨P, w, K, mg, base, []⟩ := fun base => facts_of X Gn c
  have z := Z default
  have e := hfa.symm.trans z.g_law
  cases e
  have b := FunD.bindsA (ps := ["_law_script"]) z.f_law fun _ _ _ _ _ _ us hl => match us, hl with | [_], _ => rfl
  exact ⟨_, fun s v => b s [v] rfl, fun base _ _ => ok_law (G := ⟨P, w, K, mg, base, []⟩) (Z base)⟩
end K
open PySem PySem.W PySem.Calls PyProof.Rows
set_option maxRecDepth 100000 in
set_option maxHeartbeats 0 in
theorem PySem.Challenge.cw_listpost_k08_answers_holds : PySem.Challenge.rw_listpost_k08_answers.Holds := by
  w_on; o_law
  refine HandSHeadRun.head_any (r := OpenLaw.row PySem.Challenge.rw_listpost_k08_answers) (q := view (OpenLaw.row PySem.Challenge.rw_listpost_k08_answers).prog [25]) (H := K.hk) (ob := K.ob) (M := 4000) (loose := K.loose) (d := HandSHeadRun.topDef (OpenLaw.row PySem.Challenge.rw_listpost_k08_answers).prog 25) (kwd := []) K.ob_eq
    (by kernel_rfl) (fun s => by kernel_rfl) K.run (by kernel_rfl) (by kernel_rfl) (by kernel_rfl) (by rfl) (by first | assumption | decide +kernel) (by decide +kernel) ⟨rfl, rfl, rfl, rfl, rfl, by decide +kernel⟩ ?hw ?hc
  case hw => w_witness2
  case hc =>
    refine L2.walk_ofE (l := PySem.Challenge.rw_listpost_k08_answers) (n := 63) (k := 8) (x := "_law_script") (CX := L2.CX0) rfl (by decide) (by kernel_rfl) ⟨rfl, by decide, by decide⟩ ?F (fun _ _ _ _ z => z)
    intro w mg fa h Y G hmg0
    obtain ⟨KF, KX, c⟩ := Y
    have hmg : mg ("law" : PySem.Str) = some (.ref fa) := by
      have e : (HandSHeadRun.topDef (OpenLaw.row PySem.Challenge.rw_listpost_k08_answers).prog 25).name = ("law" : PySem.Str) := by kernel_rfl
      rw [← e]
      exact hmg0
    obtain ⟨fd, hb, hF⟩ := K.endF (P := (PySem.Challenge.rw_listpost_k08_answers).prog) (w := w) KX G hmg c
    exact ⟨KF, fd, fun vs H Q _ => ∃ (a : Addr) (ns : List Int), vs = [.ref a] ∧ L2.SqL KF H a (ns.map L2.V.int) ∧ ns.length ≤ 63 ∧ ∀ H', Q (.bl true) H', KX, hb, fun H a ns hl _ hS => ⟨a, ns, rfl, hS, hl, fun _ => rfl⟩, fun base h1 h2 => (hF base h1 h2).imp fun vs H Q E ⟨a, ns, e, hS, hl, k⟩ => ⟨a, ns, e, hS, hl, (fun p hp => nomatch hp), k⟩⟩
