import PyProof.Rows.All
import Wide.All
import OpenK.AllK
import Wide.FinOn
import HandS.ForMost
import HandS.ForExc
import HandS.More
import HandS.Sort
import HandS.SortKw
import HandS.IsInst
import HandS.Flow
import HandS.Strs
import HandS.SetKeys
import HandS.Conv
import HandS.Codes
import HandS.Lambda
import HandS.Nested
import HandS.NestedK
import HandS.CallLocal
import HandS.Defaults
import HandS.HeadHook1
import HandS.HeadHook2
import KE.Datum
import HandS.Style
import HandS.Head2
import HandS.HeadEnd
import HandS.TryOnly
import KE.SortUse
import HandS.Iter
import HandS.Deep
import HandS.StrMore
import HandS.Replace
import HandS.FStr
import HandS.DictSubView
import KE.DatumOrd
import KE.SortKeyHeap
import PyProof.CompTup
import HandS.TupLe
import HandS.List
import KE.KStateDown
import HandS.HeadHook4
import HandS.HeadWalk
import PySem.Challenge.RW_listpost_k03_whole_why
set_option Elab.async false
set_option linter.all false
set_option autoImplicit false
set_option maxRecDepth 100000
set_option maxHeartbeats 4000000
/-! Data-level judgements over the hand layer: what stands in the heap is told as data, once. -/
namespace Lp
open PySem PySem.Spec PyProof.Rows L2

structure Glb where
  P : Program
  w : World
  K : PySem.W.Frag
  mg : Str → Option Value
  base : Heap
  T : List NdefX.NTab

/-- a nested def's object, or a lambda's -/
def LamO (f : Addr) (F : NdefX.NF) (e : Expr) : HO := .ext fun h => ∃ pm ctv : Value, h.get? f = some (PySem.W.kla_obj F.name F.qual F.params e F.scope F.cl pm F.c ctv)
def CloO (f : Addr) (F : NdefX.NF) : Option Expr → HO
  | none => NdefX.FnO f F
  | some e => LamO f F e
theorem cloO_ext (f : Addr) (F : NdefX.NF) : ∀ oe : Option Expr, ∃ φ, CloO f F oe = .ext φ ∧ ∀ h, φ h → PySem.W.FnAt f h
  | none => ⟨_, rfl, fun h ⟨od, sl, doc, pm, ctv, z⟩ => ⟨_, od, _, sl, z⟩⟩
  | some e => ⟨_, rfl, fun h ⟨pm, ctv, z⟩ => ⟨_, _, _, _, z⟩⟩

inductive D where
  | non | bl (b : Bool) | int (i : Int) | str (x : Str) | ty (n : String)
  | lst (xs : List D) | tup (xs : List D)
  | dic (kvs : List (Str × D))
  | ins (C : Str) (fs : List (Str × D))
  | fn (k : Nat) (dom g : Str → Bool)
  | clo (F : NdefX.NF) (oe : Option Expr)
  | any
  | cloE (F : Addr → NdefX.NF) (oe : Option Expr)

/-- what I tells stands in H, a dict perhaps under a lock -/
def RdS (I H : Hp) : Prop := ∀ a u, I a = some u → (H a = some u ∧ ∀ ps, u ≠ HO.tbl ps) ∨ ((∃ kvs, u = HO.dK kvs) ∧ ∃ o, H a = some (.frz o u))
theorem RdS.lst {I H : Hp} {p : Addr} {vs : List V} (r : RdS I H) (h : I p = some (.lst vs)) : H p = some (.lst vs) := by
  rcases r _ _ h with z | ⟨⟨_, z⟩, _⟩
  · exact z.1
  · cases z
theorem RdS.tup {I H : Hp} {p : Addr} {vs : List V} (r : RdS I H) (h : I p = some (.tup vs)) : H p = some (.tup vs) := by
  rcases r _ _ h with z | ⟨⟨_, z⟩, _⟩
  · exact z.1
  · cases z
theorem RdS.ins {I H : Hp} {p C dx : Addr} {fs : List (Str × V)} (r : RdS I H) (h : I p = some (.ins C dx fs)) : H p = some (.ins C dx fs) := by
  rcases r _ _ h with z | ⟨⟨_, z⟩, _⟩
  · exact z.1
  · cases z
theorem RdS.ext {I H : Hp} {p : Addr} {φ : Heap → Prop} (r : RdS I H) (h : I p = some (.ext φ)) : H p = some (.ext φ) := by
  rcases r _ _ h with z | ⟨⟨_, z⟩, _⟩
  · exact z.1
  · cases z
theorem RdS.dic {I H : Hp} {p : Addr} {kvs : List (Key × V)} (r : RdS I H) (h : I p = some (.dK kvs)) : Rd H p (.dK kvs) := by
  rcases r _ _ h with z | ⟨_, z⟩
  · exact .inl z.1
  · exact .inr z

structure Step (G : Glb) (I H I' H' : Hp) : Prop where
  isub : Same I I'
  sub : RdS I' H'
  keep : ∀ a o, H a = some o → (∀ ps, o ≠ HO.tbl ps) → (I a = none ∨ ∀ kvs, o ≠ HO.dK kvs) → H' a = some o
  keepN : ∀ a, H a ≠ none → H' a ≠ none
  fresh : ∀ a u, I a = none → H a = some u → (∀ φ, u ≠ HO.ext φ) → (∀ ps, u ≠ HO.tbl ps) → I' a = none
  tabs : NdefX.TabsN G.T H → NdefX.TabsN G.T H'
theorem Step.refl {G : Glb} {I H : Hp} (r : RdS I H) : Step G I H I H := ⟨Same.refl I, r, fun _ _ h _ _ => h, fun _ h => h, fun _ _ h _ _ _ => h, fun h => h⟩
theorem Step.trans {G : Glb} {I H I1 H1 I2 H2 : Hp} (a : Step G I H I1 H1) (b : Step G I1 H1 I2 H2) : Step G I H I2 H2 where
  isub := a.isub.trans b.isub
  sub := b.sub
  keep := fun x o h n c => b.keep x o (a.keep x o h n c) n (by
    by_cases z : ∃ φ, o = HO.ext φ
    · obtain ⟨φ, rfl⟩ := z
      exact .inr fun _ q => nomatch q
    · exact c.imp (fun i => a.fresh x o i h (fun φ q => z ⟨φ, q⟩) n) id)
  keepN := fun x h => b.keepN x (a.keepN x h)
  fresh := fun x u i h n1 n2 => b.fresh x u (a.fresh x u i h n1 n2) (a.keep x u h n2 (.inl i)) n1 n2
  tabs := fun h => b.tabs (a.tabs h)
theorem Step.free {G : Glb} {I H I' H' : Hp} (a : Step G I H I' H') {p : Addr} (h : H' p = none) : H p = none := by
  cases e : H p with
  | none => rfl
  | some o => exact absurd h (a.keepN p (by rw [e]; exact fun z => nomatch z))
theorem RdS.free {I H : Hp} (r : RdS I H) {p : Addr} (h : H p = none) : I p = none := by
  cases e : I p with
  | none => rfl
  | some o =>
    rcases r p o e with z | ⟨_, _, z⟩
    · rw [h] at z; cases z.1
    · rw [h] at z; cases z
theorem tabs_upd {T : List NdefX.NTab} {H : Hp} {p : Addr} {o : HO} (h : NdefX.TabsN T H) (hp : ∀ u, H p = some u → (∀ ps, u ≠ HO.tbl ps) ∧ ∀ φ, u ≠ HO.ext φ) : NdefX.TabsN T (upd H p o) := fun t ht => by
  obtain ⟨ps, h1, h2, h3⟩ := h t ht
  have n1 : t.1 ≠ p := fun z => by
    rw [z] at h1
    exact (hp _ h1).1 ps rfl
  refine ⟨ps, by rw [upd_ne n1]; exact h1, h2, fun pos cv hc => ?_⟩
  obtain ⟨c, e1, e2⟩ := h3 pos cv hc
  have n2 : c ≠ p := fun z => by
    rw [z] at e2
    exact (hp _ e2).2 _ rfl
  exact ⟨c, e1, by rw [upd_ne n2]; exact e2⟩
/-- a new object that is told at once -/
theorem Step.new {G : Glb} {I H : Hp} {p : Addr} {o : HO} (r : RdS I H) (h : H p = none) (ho : ∀ ps, o ≠ HO.tbl ps := by intro _ z; cases z) : Step G I H (upd I p o) (upd H p o) := by
  have ip := r.free h
  refine ⟨fun a u e => ?_, fun a u e => ?_, fun a u e _ _ => ?_, fun a n => ?_, fun a w e n _ _ => ?_, fun t => tabs_upd t fun u e => ?_⟩
  · rw [upd_ne (ne_of_none e ip)]; exact e
  · by_cases z : a = p
    · subst z
      rw [upd_same] at e
      cases e
      exact .inl ⟨upd_same, ho⟩
    · rw [upd_ne z] at e
      rw [upd_ne z]
      exact r a u e
  · rw [upd_ne (ne_of_none e h)]; exact e
  · by_cases z : a = p
    · subst z
      exact absurd h n
    · rw [upd_ne z]; exact n
  · rw [upd_ne (ne_of_none n h)]; exact e
  · rw [h] at e; cases e
/-- a new object that stays one's own -/
theorem Step.newOwn {G : Glb} {I H : Hp} {p : Addr} {o : HO} (r : RdS I H) (h : H p = none) : Step G I H I (upd H p o) := by
  have ip := r.free h
  refine ⟨Same.refl I, fun a u e => ?_, fun a u e _ _ => ?_, fun a n => ?_, fun _ _ e _ _ _ => e, fun t => tabs_upd t fun u e => ?_⟩
  · rw [upd_ne (ne_of_none e ip)]; exact r a u e
  · rw [upd_ne (ne_of_none e h)]; exact e
  · by_cases z : a = p
    · subst z
      exact absurd h n
    · rw [upd_ne z]; exact n
  · rw [h] at e; cases e
/-- one's own objects (those in J) are told from now on -/
theorem Step.tell {G : Glb} {I H I' H' J : Hp} (s : Step G I H I' H') (sj : Same I' J) (h : ∀ a u, J a = some u → I' a = some u ∨ (H a = none ∧ H' a = some u ∧ ∀ ps, u ≠ HO.tbl ps)) : Step G I H J H' := by
  refine ⟨s.isub.trans sj, fun a u q => ?_, s.keep, s.keepN, fun a w q n n1 n2 => ?_, s.tabs⟩
  · rcases h a u q with z | z
    · exact s.sub a u z
    · exact .inl z.2
  · cases e : J a with
    | none => rfl
    | some u =>
      rcases h a u e with z | z
      · rw [s.fresh a w q n n1 n2] at z
        cases z
      · rw [z.1] at n
        cases n
theorem Step.freeze {G : Glb} {I H I' H' : Hp} {p : Addr} {o : HO} (s : Step G I H I' H') (h : H p = none) (hi : I' p = none) (e : H' p = some o) (ho : ∀ ps, o ≠ HO.tbl ps := by intro _ z; cases z) : Step G I H (upd I' p o) H' :=
  s.tell (fun a u q => by rw [upd_ne (ne_of_none q hi)]; exact q) fun a u q => by
    by_cases z : a = p
    · subst z
      rw [upd_same] at q
      cases q
      exact .inr ⟨h, e, ho⟩
    · rw [upd_ne z] at q
      exact .inl q

/-- what a statement keeps -/
structure Pres (I H I' H' : Hp) : Prop where
  same : Same I I'
  frz : ∀ a o u, H a = some (.frz o u) → H' a = some (.frz o u)
theorem Pres.refl (I H : Hp) : Pres I H I H := ⟨Same.refl I, fun _ _ _ h => h⟩
theorem Pres.trans {I H I1 H1 I2 H2 : Hp} (a : Pres I H I1 H1) (b : Pres I1 H1 I2 H2) : Pres I H I2 H2 := ⟨a.same.trans b.same, fun x o u h => b.frz x o u (a.frz x o u h)⟩
theorem Step.pres {G : Glb} {I H I' H' : Hp} (s : Step G I H I' H') : Pres I H I' H' := ⟨s.isub, fun a o u h => s.keep a _ h (fun _ q => nomatch q) (.inr fun _ q => nomatch q)⟩
theorem Pres.own {I H : Hp} {p : Addr} {o u : HO} (hi : I p = none) (hp : H p = some u) (hu : ∀ q w, u ≠ .frz q w) : Pres I H I (upd H p o) :=
  ⟨Same.refl I, fun a q w e => by rw [upd_ne (fun z => by rw [z, hp] at e; exact hu q w (Option.some.inj e))]; exact e⟩
/-- a told dict is locked from now on -/
theorem Step.lock {G : Glb} {I H : Hp} {p : Addr} {kvs : List (Key × V)} {o : Obj} (r : RdS I H) (hi : I p = some (.dK kvs)) (hp : H p = some (.dK kvs)) : Step G I H I (upd H p (.frz o (.dK kvs))) := by
  refine ⟨Same.refl I, fun a u e => ?_, fun a u e _ c => ?_, fun a n => ?_, fun _ _ e _ _ _ => e, fun t => tabs_upd t fun u e => ?_⟩
  · by_cases z : a = p
    · subst z
      rw [hi] at e
      cases e
      exact .inr ⟨⟨_, rfl⟩, _, upd_same⟩
    · rw [upd_ne z]
      exact r a u e
  · have z : a ≠ p := fun z => by
      subst z
      rw [hp] at e
      cases e
      rcases c with c | c
      · rw [hi] at c
        cases c
      · exact c _ rfl
    rw [upd_ne z]; exact e
  · by_cases z : a = p
    · rw [z, upd_same]; exact fun q => nomatch q
    · rw [upd_ne z]; exact n
  · rw [hp] at e
    cases e
    exact ⟨(fun _ z => nomatch z), (fun _ z => nomatch z)⟩

/-- f, called with a text of its domain, hands back g of it; the heap may grow -/
def Cal (G : Glb) (k : Nat) (f : Addr) (I : Hp) (dom g : Str → Bool) : Prop :=
  ∀ (I' H' : Hp), Same I I' → RdS I' H' → NdefX.TabsN G.T H' → ∀ (A : Around) (outer : List Env) (s : Shared) (x : Str) (u : Value) (Q : VK), dom x = true → Room k A → Env0 G.P G.w G.K G.mg G.base A outer s H' → RelV (.str x) u →
    (∀ I2 H2, Step G I' H' I2 H2 → Q (.bl (g x)) H2) → codeAny (model G.P G.w) A (.call (.ref f) ⟨[u], []⟩) (CR CX0 outer G.P G.w H' s Q E0) s
theorem Cal.mono {G : Glb} {k : Nat} {f : Addr} {I I1 : Hp} {dom g : Str → Bool} (c : Cal G k f I dom g) (h : Same I I1) : Cal G k f I1 dom g := fun I' H' s => c I' H' (h.trans s)

abbrev kvK (fs : List (Str × V)) : List (Key × V) := fs.map fun q => (Sum.inr q.1, q.2)
mutual
inductive Rep (G : Glb) (I : Hp) : V → D → Prop where
  | non : Rep G I .non .non
  | bl (b : Bool) : Rep G I (.bl b) (.bl b)
  | int (i : Int) : Rep G I (.int i) (.int i)
  | str (x : Str) : Rep G I (.str x) (.str x)
  | ty (n : String) : Rep G I (.ty n) (.ty n)
  | lst {p : Addr} {vs : List V} {ds : List D} : I p = some (.lst vs) → Reps G I vs ds → Rep G I (.ref p) (.lst ds)
  | tup {p : Addr} {vs : List V} {ds : List D} : I p = some (.tup vs) → Reps G I vs ds → Rep G I (.ref p) (.tup ds)
  | dic {p : Addr} {fs : List (Str × V)} {kds : List (Str × D)} : I p = some (.dK (kvK fs)) → RepF G I fs kds → Rep G I (.ref p) (.dic kds)
  | ins {p dx : Addr} {C : Str} {fs : List (Str × V)} {fds : List (Str × D)} : I p = some (.ins (He.ga G.K C) dx fs) → RepF G I fs fds → Rep G I (.ref p) (.ins C fds)
  | fn {f : Addr} {φ : Heap → Prop} {k : Nat} {dom g : Str → Bool} : I f = some (.ext φ) → (∀ h, φ h → PySem.W.FnAt f h) → Cal G k f I dom g → Rep G I (.ref f) (.fn k dom g)
  | clo {f : Addr} {F : NdefX.NF} {oe : Option Expr} : I f = some (CloO f F oe) → I F.c = some (LamX.CodeO F.c F.qual) → Rep G I (.ref f) (.clo F oe)
  | any (v : V) : Rep G I v .any
  | cloE {f c : Addr} {F : Addr → NdefX.NF} {oe : Option Expr} : I f = some (CloO f (F c) oe) → I (F c).c = some (LamX.CodeO (F c).c (F c).qual) → Rep G I (.ref f) (.cloE F oe)
inductive Reps (G : Glb) (I : Hp) : List V → List D → Prop where
  | nil : Reps G I [] []
  | cons {v : V} {d : D} {vs : List V} {ds : List D} : Rep G I v d → Reps G I vs ds → Reps G I (v :: vs) (d :: ds)
inductive RepF (G : Glb) (I : Hp) : List (Str × V) → List (Str × D) → Prop where
  | nil : RepF G I [] []
  | cons {x : Str} {v : V} {d : D} {vs : List (Str × V)} {ds : List (Str × D)} : Rep G I v d → RepF G I vs ds → RepF G I ((x, v) :: vs) ((x, d) :: ds)
end
section
variable {G : Glb} {I I1 : Hp}
mutual
theorem Rep.mono (s : Same I I1) : ∀ {v : V} {d : D}, Rep G I v d → Rep G I1 v d
  | _, _, .non => .non
  | _, _, .bl b => .bl b
  | _, _, .int i => .int i
  | _, _, .str x => .str x
  | _, _, .ty x => .ty x
  | _, _, .lst h r => .lst (s _ _ h) (Reps.mono s r)
  | _, _, .tup h r => .tup (s _ _ h) (Reps.mono s r)
  | _, _, .dic h r => .dic (s _ _ h) (RepF.mono s r)
  | _, _, .ins h r => .ins (s _ _ h) (RepF.mono s r)
  | _, _, .fn h a c => .fn (s _ _ h) a (c.mono s)
  | _, _, .clo h c => .clo (s _ _ h) (s _ _ c)
  | _, _, .any v => .any v
  | _, _, .cloE h c => .cloE (s _ _ h) (s _ _ c)
theorem Reps.mono (s : Same I I1) : ∀ {vs : List V} {ds : List D}, Reps G I vs ds → Reps G I1 vs ds
  | _, _, .nil => .nil
  | _, _, .cons h r => .cons (Rep.mono s h) (Reps.mono s r)
theorem RepF.mono (s : Same I I1) : ∀ {vs : List (Str × V)} {ds : List (Str × D)}, RepF G I vs ds → RepF G I1 vs ds
  | _, _, .nil => .nil
  | _, _, .cons h r => .cons (Rep.mono s h) (RepF.mono s r)
end
theorem Reps.len : ∀ {vs : List V} {ds : List D}, Reps G I vs ds → vs.length = ds.length
  | _, _, .nil => rfl
  | _, _, .cons _ r => congrArg (· + 1) r.len
theorem Reps.get : ∀ {vs : List V} {ds : List D} {i : Nat} {v : V}, Reps G I vs ds → vs[i]? = some v → ∃ d, ds[i]? = some d ∧ Rep G I v d
  | _, _, _, _, .nil, e => by simp at e
  | _, _, 0, _, .cons h _, e => by simp at e; subst e; exact ⟨_, rfl, h⟩
  | _, _, i + 1, v, .cons _ t, e => by
    obtain ⟨d, h1, h2⟩ := Reps.get (i := i) (v := v) t (by simpa using e)
    exact ⟨d, by simpa using h1, h2⟩
theorem Reps.get' : ∀ {vs : List V} {ds : List D} {i : Nat} {d : D}, Reps G I vs ds → ds[i]? = some d → ∃ v, vs[i]? = some v ∧ Rep G I v d
  | _, _, _, _, .nil, e => by simp at e
  | _, _, 0, _, .cons h _, e => by simp at e; subst e; exact ⟨_, rfl, h⟩
  | _, _, i + 1, v, .cons _ t, e => by
    obtain ⟨d, h1, h2⟩ := Reps.get' (i := i) (d := v) t (by simpa using e)
    exact ⟨d, by simpa using h1, h2⟩
theorem Reps.app : ∀ {vs ws : List V} {ds es : List D}, Reps G I vs ds → Reps G I ws es → Reps G I (vs ++ ws) (ds ++ es)
  | _, _, _, _, .nil, s => s
  | _, _, _, _, .cons h t, s => .cons h (t.app s)
theorem Reps.take : ∀ {vs : List V} {ds : List D} (n : Nat), Reps G I vs ds → Reps G I (vs.take n) (ds.take n)
  | _, _, 0, _ => .nil
  | _, _, _ + 1, .nil => .nil
  | _, _, n + 1, .cons h t => .cons h (t.take n)
theorem Reps.drop : ∀ {vs : List V} {ds : List D} (n : Nat), Reps G I vs ds → Reps G I (vs.drop n) (ds.drop n)
  | _, _, 0, r => r
  | _, _, _ + 1, .nil => .nil
  | _, _, n + 1, .cons _ t => t.drop n
theorem Reps.set {v : V} {d : D} (h : Rep G I v d) : ∀ {vs : List V} {ds : List D} (i : Nat), Reps G I vs ds → Reps G I (vs.set i v) (ds.set i d)
  | _, _, _, .nil => .nil
  | _, _, 0, .cons _ t => .cons h t
  | _, _, i + 1, .cons q t => .cons q (t.set h i)
theorem Reps.erase : ∀ {vs : List V} {ds : List D} (i : Nat), Reps G I vs ds → Reps G I (vs.eraseIdx i) (ds.eraseIdx i)
  | _, _, _, .nil => .nil
  | _, _, 0, .cons _ t => t
  | _, _, i + 1, .cons q t => .cons q (t.erase i)
theorem Reps.strs : ∀ {vs : List V} {ns : List Str}, Reps G I vs (ns.map D.str) → vs = ns.map V.str
  | _, [], .nil => rfl
  | _, _ :: _, .cons (.str _) t => by rw [List.map_cons, ← Reps.strs t]
theorem Reps.ofStrs : ∀ (ns : List Str), Reps G I (ns.map V.str) (ns.map D.str)
  | [] => .nil
  | n :: r => .cons (.str n) (Reps.ofStrs r)
theorem Reps.ints : ∀ {vs : List V} {ns : List Int}, Reps G I vs (ns.map D.int) → vs = ns.map V.int
  | _, [], .nil => rfl
  | _, _ :: _, .cons (.int _) t => by rw [List.map_cons, ← Reps.ints t]
theorem Reps.ofInts : ∀ (ns : List Int), Reps G I (ns.map V.int) (ns.map D.int)
  | [] => .nil
  | n :: r => .cons (.int n) (Reps.ofInts r)
theorem Reps.bls : ∀ {vs : List V} {ns : List Bool}, Reps G I vs (ns.map D.bl) → vs = ns.map V.bl
  | _, [], .nil => rfl
  | _, _ :: _, .cons (.bl _) t => by rw [List.map_cons, ← Reps.bls t]
end

/-! ### trees of one's own -/
inductive OT where
  | im (d : D) | lst (xs : List OT) | tup (xs : List OT) | dic (kvs : List (Str × OT)) | ins (C : Str) (fs : List (Str × OT)) | hole (p : Addr)
mutual
inductive OR (G : Glb) (I H : Hp) : V → OT → List Addr → Prop where
  | im {v : V} {d : D} : Rep G I v d → OR G I H v (.im d) []
  | lst {p : Addr} {vs : List V} {ts : List OT} {A : List Addr} : H p = some (.lst vs) → I p = none → p ∉ A → ORs G I H vs ts A → OR G I H (.ref p) (.lst ts) (p :: A)
  | tup {p : Addr} {vs : List V} {ts : List OT} {A : List Addr} : H p = some (.tup vs) → I p = none → p ∉ A → ORs G I H vs ts A → OR G I H (.ref p) (.tup ts) (p :: A)
  | hole (p : Addr) : OR G I H (.ref p) (.hole p) []
  | dic {p : Addr} {fs : List (Str × V)} {ts : List (Str × OT)} {A : List Addr} : H p = some (.dK (kvK fs)) → I p = none → p ∉ A → ORF G I H fs ts A → OR G I H (.ref p) (.dic ts) (p :: A)
  | ins {p dx : Addr} {C : Str} {fs : List (Str × V)} {ts : List (Str × OT)} {A : List Addr} : H p = some (.ins (He.ga G.K C) dx fs) → I p = none → p ∉ A → ORF G I H fs ts A → OR G I H (.ref p) (.ins C ts) (p :: A)
inductive ORs (G : Glb) (I H : Hp) : List V → List OT → List Addr → Prop where
  | nil : ORs G I H [] [] []
  | cons {v : V} {t : OT} {vs : List V} {ts : List OT} {A B : List Addr} : OR G I H v t A → ORs G I H vs ts B → (∀ a ∈ A, a ∉ B) → ORs G I H (v :: vs) (t :: ts) (A ++ B)
inductive ORF (G : Glb) (I H : Hp) : List (Str × V) → List (Str × OT) → List Addr → Prop where
  | nil : ORF G I H [] [] []
  | cons {x : Str} {v : V} {t : OT} {vs : List (Str × V)} {ts : List (Str × OT)} {A B : List Addr} : OR G I H v t A → ORF G I H vs ts B → (∀ a ∈ A, a ∉ B) → ORF G I H ((x, v) :: vs) ((x, t) :: ts) (A ++ B)
end
section
variable {G : Glb} {I H I' H' : Hp}
mutual
theorem OR.frame (s : Same I I') : ∀ {v : V} {t : OT} {A : List Addr}, OR G I H v t A → (∀ a ∈ A, I' a = none ∧ H' a = H a) → OR G I' H' v t A
  | _, _, _, .im r, _ => .im (r.mono s)
  | _, _, _, .lst h i n r, k => .lst ((k _ List.mem_cons_self).2.trans h) (k _ List.mem_cons_self).1 n (ORs.frame s r fun a ha => k a (List.mem_cons_of_mem _ ha))
  | _, _, _, .tup h i n r, k => .tup ((k _ List.mem_cons_self).2.trans h) (k _ List.mem_cons_self).1 n (ORs.frame s r fun a ha => k a (List.mem_cons_of_mem _ ha))
  | _, _, _, .hole p, _ => .hole p
  | _, _, _, .dic h i n r, k => .dic ((k _ List.mem_cons_self).2.trans h) (k _ List.mem_cons_self).1 n (ORF.frame s r fun a ha => k a (List.mem_cons_of_mem _ ha))
  | _, _, _, .ins h i n r, k => .ins ((k _ List.mem_cons_self).2.trans h) (k _ List.mem_cons_self).1 n (ORF.frame s r fun a ha => k a (List.mem_cons_of_mem _ ha))
theorem ORs.frame (s : Same I I') : ∀ {v : List V} {t : List OT} {A : List Addr}, ORs G I H v t A → (∀ a ∈ A, I' a = none ∧ H' a = H a) → ORs G I' H' v t A
  | _, _, _, .nil, _ => .nil
  | _, _, _, .cons a b d, k => .cons (OR.frame s a fun x hx => k x (List.mem_append_left _ hx)) (ORs.frame s b fun x hx => k x (List.mem_append_right _ hx)) d
theorem ORF.frame (s : Same I I') : ∀ {v : List (Str × V)} {t : List (Str × OT)} {A : List Addr}, ORF G I H v t A → (∀ a ∈ A, I' a = none ∧ H' a = H a) → ORF G I' H' v t A
  | _, _, _, .nil, _ => .nil
  | _, _, _, .cons a b d, k => .cons (OR.frame s a fun x hx => k x (List.mem_append_left _ hx)) (ORF.frame s b fun x hx => k x (List.mem_append_right _ hx)) d
end
/-- what stands at an address of the tree -/
def OwnO (I H : Hp) (a : Addr) : Prop := I a = none ∧ ∃ u, H a = some u ∧ (∀ ps, u ≠ HO.tbl ps) ∧ (∀ φ, u ≠ HO.ext φ) ∧ ∀ o w, u ≠ .frz o w
mutual
theorem OR.there : ∀ {v : V} {t : OT} {A : List Addr}, OR G I H v t A → ∀ a ∈ A, OwnO I H a
  | _, _, _, .im r, _, h => absurd h (by simp)
  | _, _, _, .lst h i n r, a, k => by
    rcases List.mem_cons.mp k with rfl | z
    · exact ⟨i, _, h, (fun _ z => nomatch z), (fun _ z => nomatch z), (fun _ _ z => nomatch z)⟩
    · exact ORs.there r a z
  | _, _, _, .tup h i n r, a, k => by
    rcases List.mem_cons.mp k with rfl | z
    · exact ⟨i, _, h, (fun _ z => nomatch z), (fun _ z => nomatch z), (fun _ _ z => nomatch z)⟩
    · exact ORs.there r a z
  | _, _, _, .hole p, _, h => absurd h (by simp)
  | _, _, _, .dic h i n r, a, k => by
    rcases List.mem_cons.mp k with rfl | z
    · exact ⟨i, _, h, (fun _ z => nomatch z), (fun _ z => nomatch z), (fun _ _ z => nomatch z)⟩
    · exact ORF.there r a z
  | _, _, _, .ins h i n r, a, k => by
    rcases List.mem_cons.mp k with rfl | z
    · exact ⟨i, _, h, (fun _ z => nomatch z), (fun _ z => nomatch z), (fun _ _ z => nomatch z)⟩
    · exact ORF.there r a z
theorem ORs.there : ∀ {v : List V} {t : List OT} {A : List Addr}, ORs G I H v t A → ∀ a ∈ A, OwnO I H a
  | _, _, _, .nil, _, h => absurd h (by simp)
  | _, _, _, .cons a b d, x, h => (List.mem_append.mp h).elim (OR.there a x) (ORs.there b x)
theorem ORF.there : ∀ {v : List (Str × V)} {t : List (Str × OT)} {A : List Addr}, ORF G I H v t A → ∀ a ∈ A, OwnO I H a
  | _, _, _, .nil, _, h => absurd h (by simp)
  | _, _, _, .cons a b d, x, h => (List.mem_append.mp h).elim (OR.there a x) (ORF.there b x)
end
mutual
def OT.fz : OT → D
  | .im d => d
  | .lst xs => .lst (OT.fzs xs)
  | .tup xs => .tup (OT.fzs xs)
  | .hole _ => .any
  | .dic xs => .dic (OT.fzF xs)
  | .ins C xs => .ins C (OT.fzF xs)
def OT.fzs : List OT → List D
  | [] => []
  | t :: ts => t.fz :: OT.fzs ts
def OT.fzF : List (Str × OT) → List (Str × D)
  | [] => []
  | (x, t) :: ts => (x, t.fz) :: OT.fzF ts
end
mutual
/-- no dict in it -/
def OT.nd : OT → Bool
  | .im _ => true
  | .lst xs => OT.nds xs
  | .tup xs => OT.nds xs
  | .dic _ => false
  | .ins _ xs => OT.ndF xs
  | .hole _ => true
def OT.nds : List OT → Bool
  | [] => true
  | t :: ts => t.nd && OT.nds ts
def OT.ndF : List (Str × OT) → Bool
  | [] => true
  | (_, t) :: ts => t.nd && OT.ndF ts
end
mutual
theorem OR.noD : ∀ {v : V} {t : OT} {A : List Addr}, OR G I H v t A → t.nd = true → ∀ a ∈ A, ∀ kvs, H a ≠ some (.dK kvs)
  | _, _, _, .im r, _, _, h, _ => absurd h (by simp)
  | _, _, _, .lst h i n r, e, a, k, kvs => by
    rw [OT.nd] at e
    rcases List.mem_cons.mp k with rfl | z
    · rw [h]; exact fun z => nomatch z
    · exact ORs.noD r e a z kvs
  | _, _, _, .tup h i n r, e, a, k, kvs => by
    rw [OT.nd] at e
    rcases List.mem_cons.mp k with rfl | z
    · rw [h]; exact fun z => nomatch z
    · exact ORs.noD r e a z kvs
  | _, _, _, .hole p, _, _, h, _ => absurd h (by simp)
  | _, _, _, .dic h i n r, e, _, _, _ => by
    rw [OT.nd] at e
    cases e
  | _, _, _, .ins h i n r, e, a, k, kvs => by
    rw [OT.nd] at e
    rcases List.mem_cons.mp k with rfl | z
    · rw [h]; exact fun z => nomatch z
    · exact ORF.noD r e a z kvs
theorem ORs.noD : ∀ {v : List V} {t : List OT} {A : List Addr}, ORs G I H v t A → OT.nds t = true → ∀ a ∈ A, ∀ kvs, H a ≠ some (.dK kvs)
  | _, _, _, .nil, _, _, h, _ => absurd h (by simp)
  | _, _, _, .cons a b d, e, x, h, kvs => by
    rw [OT.nds, Bool.and_eq_true] at e
    exact (List.mem_append.mp h).elim (fun z => OR.noD a e.1 x z kvs) fun z => ORs.noD b e.2 x z kvs
theorem ORF.noD : ∀ {v : List (Str × V)} {t : List (Str × OT)} {A : List Addr}, ORF G I H v t A → OT.ndF t = true → ∀ a ∈ A, ∀ kvs, H a ≠ some (.dK kvs)
  | _, _, _, .nil, _, _, h, _ => absurd h (by simp)
  | _, _, _, .cons a b d, e, x, h, kvs => by
    rw [OT.ndF, Bool.and_eq_true] at e
    exact (List.mem_append.mp h).elim (fun z => OR.noD a e.1 x z kvs) fun z => ORF.noD b e.2 x z kvs
end
/-- I with the objects at A told -/
def tellA (I H : Hp) (A : List Addr) : Hp := fun a => if a ∈ A then H a else I a
mutual
theorem OR.told (s : Same I I') : ∀ {v : V} {t : OT} {A : List Addr}, OR G I H v t A → (∀ a ∈ A, I' a = H a) → Rep G I' v t.fz
  | _, _, _, .im r, _ => by rw [OT.fz]; exact r.mono s
  | _, _, _, .lst h i n r, k => by rw [OT.fz]; exact .lst ((k _ List.mem_cons_self).trans h) (ORs.told s r fun a ha => k a (List.mem_cons_of_mem _ ha))
  | _, _, _, .tup h i n r, k => by rw [OT.fz]; exact .tup ((k _ List.mem_cons_self).trans h) (ORs.told s r fun a ha => k a (List.mem_cons_of_mem _ ha))
  | _, _, _, .hole p, _ => by rw [OT.fz]; exact .any _
  | _, _, _, .dic h i n r, k => by rw [OT.fz]; exact .dic ((k _ List.mem_cons_self).trans h) (ORF.told s r fun a ha => k a (List.mem_cons_of_mem _ ha))
  | _, _, _, .ins h i n r, k => by rw [OT.fz]; exact .ins ((k _ List.mem_cons_self).trans h) (ORF.told s r fun a ha => k a (List.mem_cons_of_mem _ ha))
theorem ORs.told (s : Same I I') : ∀ {v : List V} {t : List OT} {A : List Addr}, ORs G I H v t A → (∀ a ∈ A, I' a = H a) → Reps G I' v (OT.fzs t)
  | _, _, _, .nil, _ => by rw [OT.fzs]; exact .nil
  | _, _, _, .cons a b d, k => by rw [OT.fzs]; exact .cons (OR.told s a fun x hx => k x (List.mem_append_left _ hx)) (ORs.told s b fun x hx => k x (List.mem_append_right _ hx))
theorem ORF.told (s : Same I I') : ∀ {v : List (Str × V)} {t : List (Str × OT)} {A : List Addr}, ORF G I H v t A → (∀ a ∈ A, I' a = H a) → RepF G I' v (OT.fzF t)
  | _, _, _, .nil, _ => by rw [OT.fzF]; exact .nil
  | _, _, _, .cons a b d, k => by rw [OT.fzF]; exact .cons (OR.told s a fun x hx => k x (List.mem_append_left _ hx)) (ORF.told s b fun x hx => k x (List.mem_append_right _ hx))
end
theorem tell_same {A : List Addr} (h : ∀ a ∈ A, I a = none) : Same I (tellA I H A) := fun a u e => by
  unfold tellA
  rw [if_neg fun z => by rw [h a z] at e; cases e]
  exact e
theorem tell_at {A : List Addr} {a : Addr} (h : a ∈ A) : tellA I H A a = H a := if_pos h
theorem tell_of {A : List Addr} {a : Addr} {u : HO} (e : tellA I H A a = some u) : I a = some u ∨ (a ∈ A ∧ H a = some u) := by
  unfold tellA at e
  by_cases z : a ∈ A
  · rw [if_pos z] at e
    exact .inr ⟨z, e⟩
  · rw [if_neg z] at e
    exact .inl e
end

/-! ### slots -/
inductive DS where
  | no | im (d : D) | own (xs : List D) | ownD (kvs : List (Str × D)) | ot (a : Option Addr) (t : OT)
def DS.isOwn : DS → Bool
  | .own _ => true
  | .ownD _ => true
  | .ot _ _ => true
  | _ => false
/-- S: the addresses that are the slot's -/
def SlotR (G : Glb) (H0 I H : Hp) (ov : Option V) (S : Addr → Prop) : DS → Prop
  | .no => True
  | .im d => ∃ v, ov = some v ∧ Rep G I v d
  | .own xs => ∃ p vs, ov = some (.ref p) ∧ H p = some (.lst vs) ∧ Reps G I vs xs ∧ I p = none ∧ H0 p = none ∧ S p
  | .ownD kvs => ∃ p fs, ov = some (.ref p) ∧ H p = some (.dK (kvK fs)) ∧ RepF G I fs kvs ∧ I p = none ∧ H0 p = none ∧ S p
  | .ot q t => ∃ v A, ov = some v ∧ OR G I H v t A ∧ (∀ a ∈ A, H0 a = none ∧ S a) ∧ ∀ p, q = some p → v = .ref p
theorem Step.ownKeep {G : Glb} {I H I' H' : Hp} (s : Step G I H I' H') {a : Addr} (h : OwnO I H a) : I' a = none ∧ H' a = H a := by
  obtain ⟨i, u, e, n, n2, _⟩ := h
  exact ⟨s.fresh a u i e n2 n, (s.keep a u e n (.inl i)).trans e.symm⟩
theorem SlotR.step {G : Glb} {H0 I H I' H' : Hp} {ov : Option V} {S : Addr → Prop} (s : Step G I H I' H') : ∀ {d : DS}, SlotR G H0 I H ov S d → SlotR G H0 I' H' ov S d
  | .no, _ => trivial
  | .im _, ⟨v, e, r⟩ => ⟨v, e, r.mono s.isub⟩
  | .own _, ⟨p, vs, e, h, r, i, z⟩ => ⟨p, vs, e, s.keep p _ h (fun _ q => nomatch q) (.inl i), r.mono s.isub, s.fresh p _ i h (fun _ q => nomatch q) (fun _ q => nomatch q), z⟩
  | .ownD _, ⟨p, vs, e, h, r, i, z⟩ => ⟨p, vs, e, s.keep p _ h (fun _ q => nomatch q) (.inl i), r.mono s.isub, s.fresh p _ i h (fun _ q => nomatch q) (fun _ q => nomatch q), z⟩
  | .ot _ _, ⟨v, A, e, r, z⟩ => ⟨v, A, e, r.frame s.isub fun a ha => s.ownKeep (r.there a ha), z⟩
/-- a change elsewhere -/
theorem SlotR.away {G : Glb} {H0 I H I' H' : Hp} {ov : Option V} {S : Addr → Prop} (s : Same I I') (h : ∀ a, S a → OwnO I H a → I' a = none ∧ H' a = H a) : ∀ {d : DS}, SlotR G H0 I H ov S d → SlotR G H0 I' H' ov S d
  | .no, _ => trivial
  | .im _, ⟨v, e, r⟩ => ⟨v, e, r.mono s⟩
  | .own _, ⟨p, vs, e, h1, r, i, z1, z2⟩ => by
    obtain ⟨k1, k2⟩ := h p z2 ⟨i, _, h1, (fun _ z => nomatch z), (fun _ z => nomatch z), (fun _ _ z => nomatch z)⟩
    exact ⟨p, vs, e, k2.trans h1, r.mono s, k1, z1, z2⟩
  | .ownD _, ⟨p, vs, e, h1, r, i, z1, z2⟩ => by
    obtain ⟨k1, k2⟩ := h p z2 ⟨i, _, h1, (fun _ z => nomatch z), (fun _ z => nomatch z), (fun _ _ z => nomatch z)⟩
    exact ⟨p, vs, e, k2.trans h1, r.mono s, k1, z1, z2⟩
  | .ot _ _, ⟨v, A, e, r, z⟩ => ⟨v, A, e, r.frame s fun a ha => h a (z.1 a ha).2 (r.there a ha), z⟩
theorem SlotR.more {G : Glb} {H0 I H : Hp} {ov : Option V} {S S' : Addr → Prop} (h : ∀ a, S a → S' a) : ∀ {d : DS}, SlotR G H0 I H ov S d → SlotR G H0 I H ov S' d
  | .no, _ => trivial
  | .im _, ⟨v, e, r⟩ => ⟨v, e, r⟩
  | .own _, ⟨p, vs, e, h1, r, i, z1, z2⟩ => ⟨p, vs, e, h1, r, i, z1, h p z2⟩
  | .ownD _, ⟨p, vs, e, h1, r, i, z1, z2⟩ => ⟨p, vs, e, h1, r, i, z1, h p z2⟩
  | .ot _ _, ⟨v, A, e, r, z⟩ => ⟨v, A, e, r, fun a ha => ⟨(z.1 a ha).1, h a (z.1 a ha).2⟩, z.2⟩
/-- F i: the addresses of the slot i -/
structure Foot (G : Glb) (H0 I H : Hp) (σ : L2.St) (ds : List DS) (F : Nat → Addr → Prop) : Prop where
  sl : ∀ (i : Nat) (o : Option V) (s : DS), σ[i]? = some o → ds[i]? = some s → SlotR G H0 I H o (F i) s
  dj : ∀ (i j : Nat) (a : Addr), F i a → F j a → i = j
  th : ∀ (i : Nat) (a : Addr), F i a → H a ≠ none
structure EnvR (G : Glb) (U : Bool) (I0 H0 I H : Hp) (σ : L2.St) (ds : List DS) : Prop where
  st : Step G I0 H0 I H
  tb : NdefX.TabsN G.T H
  len : σ.length = ds.length
  fp : ∃ F, Foot G H0 I H σ ds F
section
variable {G : Glb} {U : Bool} {I0 H0 I H I' H' : Hp} {σ : L2.St} {ds : List DS}
theorem EnvR.sub (e : EnvR G U I0 H0 I H σ ds) : RdS I H := e.st.sub
theorem EnvR.step (e : EnvR G U I0 H0 I H σ ds) (s : Step G I H I' H') : EnvR G U I0 H0 I' H' σ ds := by
  obtain ⟨F, f⟩ := e.fp
  exact ⟨e.st.trans s, s.tabs e.tb, e.len, F, fun i o d h1 h2 => (f.sl i o d h1 h2).step s, f.dj, fun i a h => s.keepN a (f.th i a h)⟩
theorem EnvR.at_ (e : EnvR G U I0 H0 I H σ ds) {i : Nat} {s : DS} (h : ds[i]? = some s) : ∃ o S, σ[i]? = some o ∧ SlotR G H0 I H o S s := by
  have hl : i < σ.length := by rw [e.len]; exact (List.getElem?_eq_some_iff.mp h).1
  obtain ⟨F, f⟩ := e.fp
  exact ⟨σ[i], F i, List.getElem?_eq_getElem hl, f.sl i _ s (List.getElem?_eq_getElem hl) h⟩
theorem EnvR.im (e : EnvR G U I0 H0 I H σ ds) {i : Nat} {d : D} (h : ds[i]? = some (.im d)) : ∃ v, σ[i]? = some (some v) ∧ Rep G I v d := by
  obtain ⟨o, _, h1, v, rfl, r⟩ := e.at_ h
  exact ⟨v, h1, r⟩
theorem EnvR.own (e : EnvR G U I0 H0 I H σ ds) {i : Nat} {xs : List D} (h : ds[i]? = some (.own xs)) : ∃ p vs, σ[i]? = some (some (.ref p)) ∧ H p = some (.lst vs) ∧ Reps G I vs xs ∧ I p = none ∧ H0 p = none := by
  obtain ⟨o, _, h1, p, vs, rfl, r1, r2, r3, r4, _⟩ := e.at_ h
  exact ⟨p, vs, h1, r1, r2, r3, r4⟩
theorem EnvR.ownD (e : EnvR G U I0 H0 I H σ ds) {i : Nat} {xs : List (Str × D)} (h : ds[i]? = some (.ownD xs)) : ∃ p fs, σ[i]? = some (some (.ref p)) ∧ H p = some (.dK (kvK fs)) ∧ RepF G I fs xs ∧ I p = none ∧ H0 p = none := by
  obtain ⟨o, _, h1, p, vs, rfl, r1, r2, r3, r4, _⟩ := e.at_ h
  exact ⟨p, vs, h1, r1, r2, r3, r4⟩
theorem EnvR.ot (e : EnvR G U I0 H0 I H σ ds) {i : Nat} {q : Option Addr} {t : OT} (h : ds[i]? = some (.ot q t)) : ∃ v A, σ[i]? = some (some v) ∧ OR G I H v t A ∧ (∀ a ∈ A, H0 a = none) ∧ ∀ p, q = some p → v = .ref p := by
  obtain ⟨o, _, h1, v, A, rfl, r1, r2, r3⟩ := e.at_ h
  exact ⟨v, A, h1, r1, fun a ha => (r2 a ha).1, r3⟩
/-- the slot i changed: what is new of it has the addresses S -/
theorem EnvR.put (e : EnvR G U I0 H0 I H σ ds) {F : Nat → Addr → Prop} (f : Foot G H0 I H σ ds F) (st : Step G I0 H0 I' H') (tb : NdefX.TabsN G.T H') (kN : ∀ a, H a ≠ none → H' a ≠ none) (i : Nat) (o : Option V) (d : DS) (S : Addr → Prop)
    (far : ∀ j, j ≠ i → ∀ a, F j a → OwnO I H a → I' a = none ∧ H' a = H a) (sm : Same I I')
    (new : ∀ a, S a → H' a ≠ none ∧ (H a = none ∨ F i a)) (hs : SlotR G H0 I' H' o S d) : EnvR G U I0 H0 I' H' (σ.set i o) (ds.set i d) := by
  refine ⟨st, tb, by rw [List.length_set, List.length_set]; exact e.len, fun j a => if j = i then S a else F j a, fun j ov s h1 h2 => ?_, fun j k a h1 h2 => ?_, fun j a h => ?_⟩
  · by_cases hj : j = i
    · subst hj
      have l1 : j < ds.length := by
        have := (List.getElem?_eq_some_iff.mp h2).1
        rwa [List.length_set] at this
      rw [List.getElem?_set_self (by rw [e.len]; exact l1)] at h1
      rw [List.getElem?_set_self l1] at h2
      cases h1
      cases h2
      exact hs.more fun a ha => by rw [if_pos rfl]; exact ha
    · rw [List.getElem?_set_ne (Ne.symm hj)] at h1 h2
      exact ((f.sl j ov s h1 h2).away sm fun a ha => far j hj a ha).more fun a ha => by rw [if_neg hj]; exact ha
  · have two : ∀ j k, (if j = i then S a else F j a) → (if k = i then S a else F k a) → j = i → k ≠ i → False := fun j k h1 h2 hj hk => by
      rw [if_pos hj] at h1
      rw [if_neg hk] at h2
      rcases (new a h1).2 with z | z
      · exact f.th k a h2 z
      · exact hk (f.dj k i a h2 z)
    by_cases hj : j = i
    · by_cases hk : k = i
      · rw [hj, hk]
      · exact (two j k h1 h2 hj hk).elim
    · by_cases hk : k = i
      · exact (two k j h2 h1 hk hj).elim
      · rw [if_neg hj] at h1
        rw [if_neg hk] at h2
        exact f.dj j k a h1 h2
  · by_cases hj : j = i
    · rw [if_pos hj] at h
      exact (new a h).1
    · rw [if_neg hj] at h
      exact kN a (f.th j a h)
theorem EnvR.setIm (e : EnvR G U I0 H0 I H σ ds) {v : V} {d : D} (i : Nat) (r : Rep G I v d) : EnvR G U I0 H0 I H (σ.set i (some v)) (ds.set i (.im d)) :=
  let ⟨_, f⟩ := e.fp
  e.put f e.st e.tb (fun _ h => h) i _ _ (fun _ => False) (fun _ _ _ _ h => ⟨h.1, rfl⟩) (Same.refl I) (fun _ h => h.elim) ⟨v, rfl, r⟩
theorem EnvR.setNo (e : EnvR G U I0 H0 I H σ ds) (ov : Option V) (i : Nat) : EnvR G U I0 H0 I H (σ.set i ov) (ds.set i .no) :=
  let ⟨_, f⟩ := e.fp
  e.put f e.st e.tb (fun _ h => h) i _ _ (fun _ => False) (fun _ _ _ _ h => ⟨h.1, rfl⟩) (Same.refl I) (fun _ h => h.elim) trivial
/-- a new value of one's own comes to a slot -/
theorem EnvR.setNew (e : EnvR G U I0 H0 I H σ ds) (s : Step G I H I' H') (A : List Addr) (hp : ∀ a ∈ A, H a = none ∧ H' a ≠ none) {v : V} {d : DS} (i : Nat) (hs : SlotR G H0 I' H' (some v) (fun a => a ∈ A) d) : EnvR G U I0 H0 I' H' (σ.set i (some v)) (ds.set i d) :=
  let ⟨_, f⟩ := e.fp
  e.put f (e.st.trans s) (s.tabs e.tb) s.keepN i _ _ (fun a => a ∈ A) (fun _ _ _ _ h => s.ownKeep h) s.isub (fun a ha => ⟨(hp a ha).2, .inl (hp a ha).1⟩) hs
theorem Step.mutOwn {p : Addr} {o : HO} (s : Step G I0 H0 I H) (hi : I p = none) (h0 : H0 p = none) (hp : ∀ u, H p = some u → (∀ ps, u ≠ HO.tbl ps) ∧ ∀ φ, u ≠ HO.ext φ) : Step G I0 H0 I (upd H p o) := by
  refine ⟨s.isub, fun a u e => ?_, fun a u e n c => ?_, fun a n => ?_, s.fresh, fun t => tabs_upd (s.tabs t) hp⟩
  · rw [upd_ne (ne_of_none e hi)]; exact s.sub a u e
  · rw [upd_ne (ne_of_none e h0)]; exact s.keep a u e n c
  · by_cases z : a = p
    · rw [z, upd_same]; exact fun q => nomatch q
    · rw [upd_ne z]; exact s.keepN a n
/-- one's own object at slot i changes -/
theorem EnvR.mutOwn (e : EnvR G U I0 H0 I H σ ds) {p : Addr} {i : Nat} {o : HO} {d' : DS} (hσ : σ[i]? = some (some (.ref p))) (hd : (∃ xs, ds[i]? = some (.own xs)) ∨ ∃ xs, ds[i]? = some (.ownD xs)) (hi : I p = none) (h0 : H0 p = none)
    (hp : ∀ u, H p = some u → (∀ ps, u ≠ HO.tbl ps) ∧ ∀ φ, u ≠ HO.ext φ) (hs : SlotR G H0 I (upd H p o) (some (.ref p)) (fun a => a = p) d') : EnvR G U I0 H0 I (upd H p o) σ (ds.set i d') := by
  obtain ⟨F, f⟩ := e.fp
  have own : F i p := by
    rcases hd with ⟨xs, h⟩ | ⟨xs, h⟩
    · obtain ⟨q, vs, e1, _, _, _, _, z⟩ := f.sl i _ _ hσ h
      cases e1
      exact z
    · obtain ⟨q, vs, e1, _, _, _, _, z⟩ := f.sl i _ _ hσ h
      cases e1
      exact z
  have z := e.put f (e.st.mutOwn (o := o) hi h0 hp) (tabs_upd e.tb hp) (fun a n => by
    by_cases z : a = p
    · rw [z, upd_same]; exact fun q => nomatch q
    · rw [upd_ne z]; exact n) i (some (.ref p)) d' (fun a => a = p) (fun j hj a ha h => ⟨h.1, upd_ne fun z => hj (f.dj j i a ha (by rw [z]; exact own))⟩) (Same.refl I) (fun a ha => ⟨(by
      rw [ha, upd_same]
      exact fun q => nomatch q), .inr (by rw [ha]; exact own)⟩) hs
  rwa [show σ.set i (some (.ref p)) = σ from by
    obtain ⟨hl, he⟩ := List.getElem?_eq_some_iff.mp hσ
    rw [← he, List.set_getElem_self]] at z
end
end Lp

/-! The judgements over data: expressions, tests, arguments, statements. -/
namespace Lp
open PySem PySem.Spec PyProof.Rows L2

/-- a value that an expression gives: told at once, or a new object of one's own; Hb: the heap ahead of it -/
def ValR (G : Glb) (Hb I H : Hp) (v : V) : DS → Prop
  | .no => True
  | .im d => Rep G I v d
  | .own xs => ∃ p vs, v = .ref p ∧ Hb p = none ∧ I p = none ∧ H p = some (.lst vs) ∧ Reps G I vs xs
  | .ownD kvs => ∃ p fs, v = .ref p ∧ Hb p = none ∧ I p = none ∧ H p = some (.dK (kvK fs)) ∧ RepF G I fs kvs
  | .ot q t => ∃ A, OR G I H v t A ∧ (∀ a ∈ A, Hb a = none) ∧ ∀ p, q = some p → v = .ref p
theorem ValR.back {G : Glb} {I H I1 H1 I' H' : Hp} {v : V} (s : Step G I H I1 H1) : ∀ {d : DS}, ValR G H1 I' H' v d → ValR G H I' H' v d
  | .no, _ => trivial
  | .im _, r => r
  | .own _, ⟨p, vs, e, n, r⟩ => ⟨p, vs, e, s.free n, r⟩
  | .ownD _, ⟨p, vs, e, n, r⟩ => ⟨p, vs, e, s.free n, r⟩
  | .ot _ _, ⟨A, r, n, z⟩ => ⟨A, r, fun a ha => s.free (n a ha), z⟩
theorem ValR.step {G : Glb} {Hb I H I' H' : Hp} {v : V} (s : Step G I H I' H') : ∀ {d : DS}, ValR G Hb I H v d → ValR G Hb I' H' v d
  | .no, _ => trivial
  | .im _, r => r.mono s.isub
  | .own _, ⟨p, vs, e, n, i, h, r⟩ => ⟨p, vs, e, n, s.fresh p _ i h (fun _ q => nomatch q) (fun _ q => nomatch q), s.keep p _ h (fun _ q => nomatch q) (.inl i), r.mono s.isub⟩
  | .ownD _, ⟨p, vs, e, n, i, h, r⟩ => ⟨p, vs, e, n, s.fresh p _ i h (fun _ q => nomatch q) (fun _ q => nomatch q), s.keep p _ h (fun _ q => nomatch q) (.inl i), r.mono s.isub⟩
  | .ot _ _, ⟨A, r, n⟩ => ⟨A, r.frame s.isub fun a ha => s.ownKeep (r.there a ha), n⟩
def DS.fz : DS → DS
  | .ot _ t => .im t.fz
  | .own xs => .im (.lst xs)
  | .ownD kvs => .im (.dic kvs)
  | s => s
theorem ValR.fz {G : Glb} {I H I' H' : Hp} {v : V} (s : Step G I H I' H') : ∀ {d : DS}, ValR G H I' H' v d → ∃ I2, Step G I H I2 H' ∧ ValR G H I2 H' v d.fz
  | .no, _ => ⟨I', s, trivial⟩
  | .im _, r => ⟨I', s, r⟩
  | .own _, ⟨p, vs, e, n, i, h, r⟩ => ⟨upd I' p (.lst vs), s.freeze n i h, by
      subst e
      exact Rep.lst upd_same (r.mono fun a u q => by rw [upd_ne (ne_of_none q i)]; exact q)⟩
  | .ownD _, ⟨p, vs, e, n, i, h, r⟩ => ⟨upd I' p (.dK (kvK vs)), s.freeze n i h, by
      subst e
      exact Rep.dic upd_same (r.mono fun a u q => by rw [upd_ne (ne_of_none q i)]; exact q)⟩
  | .ot _ _, ⟨A, r, n, _⟩ => ⟨tellA I' H' A, s.tell (tell_same fun a ha => (r.there a ha).1) (fun a u e => (tell_of e).imp id fun ⟨ha, h⟩ => ⟨n a ha, h, by
      obtain ⟨_, w, z, z1, _⟩ := r.there a ha
      rw [h] at z
      cases z
      exact z1⟩), r.told (tell_same fun a ha => (r.there a ha).1) fun a ha => tell_at ha⟩

abbrev gx (X : Cx) (T : List NdefX.NTab) : Glb := ⟨X.prog, X.w, X.K, X.mg, X.base, T⟩
/-! ### readings by data -/
def eV (G : Glb) (U : Bool) (ds : List DS) (s : DS) : TE := fun σ H Q => ∃ I0 H0 I, EnvR G U I0 H0 I H σ ds ∧ ∀ v I' H', Step G I H I' H' → ValR G H I' H' v s → Q v H'
def tV (G : Glb) (U : Bool) (ds : List DS) (b : Bool) : TT := fun σ H Q => ∃ I0 H0 I, EnvR G U I0 H0 I H σ ds ∧ ∀ I' H', Step G I H I' H' → Q b H'
def aV (G : Glb) (U : Bool) (ds : List DS) (xs : List D) : TA := fun σ H Q => ∃ I0 H0 I, EnvR G U I0 H0 I H σ ds ∧ ∀ vs I' H', Step G I H I' H' → Reps G I' vs xs → Q vs H'
def oV (G : Glb) (U : Bool) (ds : List DS) (o : Option Int) : TO := fun σ H Q => ∃ I0 H0 I, EnvR G U I0 H0 I H σ ds ∧ ∀ I' H', Step G I H I' H' → Q o H'
/-- what a walked thing gives, turn by turn -/
def Goes (G : Glb) (J : It) (I H : Hp) (xs : List D) : Prop := ∀ I1 H1, Pres I H I1 H1 → RdS I1 H1 → ∀ i : Nat, (xs.length ≤ i → J.stop i H1) ∧ ∀ d, xs[i]? = some d → J.go i H1 ∧ ∀ x H2, J.yld i H1 x H2 → ∃ I2, Step G I1 H1 I2 H2 ∧ Rep G I2 x d
def iV (G : Glb) (U : Bool) (ds : List DS) (xs : List D) : TI := fun σ H R => ∃ I0 H0 I, EnvR G U I0 H0 I H σ ds ∧ ∀ J I' H', Step G I H I' H' → Goes G J I' H' xs → R J H'
/-- only the slots at js are changed -/
def ButAt (js : List Nat) (σ σ' : L2.St) : Prop := σ'.length = σ.length ∧ ∀ i, i ∉ js → σ'[i]? = σ[i]?
def gV (G : Glb) (U : Bool) (ds : List DS) (d : D) (ds' : List DS) (js : List Nat) : TG := fun v σ H Q => ∃ I0 H0 I, EnvR G U I0 H0 I H σ ds ∧ Rep G I v d ∧ ∀ σ', EnvR G U I0 H0 I H σ' ds' → ButAt js σ σ' → Q σ' H
def gsV (G : Glb) (U : Bool) (ds : List DS) (xs : List D) (ds' : List DS) (js : List Nat) : TGs := fun vs σ H Q => ∃ I0 H0 I, EnvR G U I0 H0 I H σ ds ∧ Reps G I vs xs ∧ ∀ σ', EnvR G U I0 H0 I H σ' ds' → ButAt js σ σ' → Q σ' H

/-- an exception's own fields -/
def ExcR (G : Glb) (H0 I H : Hp) (d : Option Addr) (fs : List (Str × D)) : Prop := match d with
  | none => fs = []
  | some a => ∃ vs, H a = some (.xd vs) ∧ RepF G I vs fs ∧ H0 a = none
structure DEn where
  nx : List DS → Prop
  rt : DS → Prop := fun _ => False
  bk : List DS → Prop := fun _ => False
  ct : List DS → Prop := fun _ => False
  xs : Str → List (Str × D) → List DS → Prop := fun _ _ _ => False
def RetR (G : Glb) (I0 H0 : Hp) (v : V) (H' : Hp) (s : DS) : Prop := ∃ I', Step G I0 H0 I' H' ∧ ValR G H0 I' H' v s
def NxR (G : Glb) (U : Bool) (I0 H0 I H : Hp) (P : List DS → Prop) (σ' : L2.St) (H' : Hp) : Prop := ∃ ds' I', EnvR G U I0 H0 I' H' σ' ds' ∧ Pres I H I' H' ∧ P ds'
def XsR (G : Glb) (U : Bool) (I0 H0 I H : Hp) (P : List DS → Prop) (fs : List (Str × D)) (d : Option Addr) (σ' : L2.St) (H' : Hp) : Prop := ∃ ds' I', EnvR G U I0 H0 I' H' σ' ds' ∧ Pres I H I' H' ∧ ExcR G H0 I' H' d fs ∧ P ds'
def sV (G : Glb) (W : WX) (U : Bool) (ds : List DS) (E : DEn) : TS := fun D σ H => ∃ I0 H0 I, EnvR G U I0 H0 I H σ ds ∧ (∀ σ' H', NxR G U I0 H0 I H E.nx σ' H' → D.nx σ' H') ∧ (∀ v H' s, RetR G I0 H0 v H' s → E.rt s → D.rt v H') ∧
  (∀ σ' H', NxR G U I0 H0 I H E.bk σ' H' → D.bk σ' H') ∧ (∀ σ' H', NxR G U I0 H0 I H E.ct σ' H' → D.ct σ' H') ∧
  ∀ C fs d σ' H', XsR G U I0 H0 I H (E.xs C fs) fs d σ' H' → W (.ref (He.ga G.K C)) d σ' H'

section
variable (X : Cx) (T : List NdefX.NTab) (W : WX) (U : Bool)
abbrev DV (e : Expr) (ds : List DS) (s : DS) : Prop := PE X e (eV (gx X T) U ds s)
abbrev DE (e : Expr) (ds : List DS) (d : D) : Prop := DV X T U e ds (.im d)
abbrev DT (e : Expr) (ds : List DS) (b : Bool) : Prop := PT X e (tV (gx X T) U ds b)
abbrev DA (es : List Expr) (ds : List DS) (xs : List D) : Prop := PA X es (aV (gx X T) U ds xs)
abbrev DO (e : Option Expr) (ds : List DS) (o : Option Int) : Prop := PO X e (oV (gx X T) U ds o)
abbrev DI (tg iter : Expr) (ds : List DS) (xs : List D) : Prop := PI X tg iter (iV (gx X T) U ds xs)
abbrev DG (tg : Expr) (ds : List DS) (d : D) (ds' : List DS) (js : List Nat) : Prop := PG X tg (gV (gx X T) U ds d ds' js)
abbrev DGs (tgs : List Expr) (ds : List DS) (xs : List D) (ds' : List DS) (js : List Nat) : Prop := PGs X tgs (gsV (gx X T) U ds xs ds' js)
abbrev DSt (st : Stmt) (ds : List DS) (E : DEn) : Prop := PS X st (sV (gx X T) W U ds E)
abbrev DSs (sts : List Stmt) (ds : List DS) (E : DEn) : Prop := PSs X sts (sV (gx X T) W U ds E)
end
section
variable {X : Cx} {T : List NdefX.NTab} {W : WX} {U : Bool} {ds : List DS} {s : DS}
theorem _root_.L2.PE.weak {e : Expr} {t t' : TE} (h : PE X e t) (w : ∀ σ H Q, t' σ H Q → t σ H Q) : PE X e t' := ⟨fun pins s σ H Q I q => h.run pins s σ H Q I (w _ _ _ q)⟩
theorem _root_.L2.PT.weak {e : Expr} {t t' : TT} (h : PT X e t) (w : ∀ σ H Q, t' σ H Q → t σ H Q) : PT X e t' := ⟨fun pins s σ H Q I q => h.run pins s σ H Q I (w _ _ _ q)⟩
theorem _root_.L2.PW.weak {e : Expr} {t t' : TT} (h : PW X e t) (w : ∀ σ H Q, t' σ H Q → t σ H Q) : PW X e t' := ⟨fun wh pins s σ H Q I q => h.run wh pins s σ H Q I (w _ _ _ q)⟩
theorem _root_.L2.PA.weak {e : List Expr} {t t' : TA} (h : PA X e t) (w : ∀ σ H Q, t' σ H Q → t σ H Q) : PA X e t' := ⟨fun pos pins s σ H Q I q => h.run pos pins s σ H Q I (w _ _ _ q)⟩
theorem _root_.L2.PS.weak {e : Stmt} {t t' : TS} (h : PS X e t) (w : ∀ D σ H, t' D σ H → t D σ H) : PS X e t' := ⟨fun pins s σ H D I q => h.run pins s σ H D I (w _ _ _ q)⟩
theorem _root_.L2.PSs.weak {e : List Stmt} {t t' : TS} (h : PSs X e t) (w : ∀ D σ H, t' D σ H → t D σ H) : PSs X e t' := ⟨fun pins s σ H D I q => h.run pins s σ H D I (w _ _ _ q)⟩
/-! ### names, constants -/
theorem dv_fz {e : Expr} (h : DV X T U e ds s) : DV X T U e ds s.fz := h.weak fun σ H Q ⟨I0, H0, I, en, k⟩ => ⟨I0, H0, I, en, fun v I' H' st r => by
  obtain ⟨I2, s2, r2⟩ := r.fz st
  exact k v I2 H' s2 r2⟩
theorem de_own {e : Expr} {xs : List D} (h : DV X T U e ds (.own xs)) : DE X T U e ds (.lst xs) := dv_fz h
theorem de_ownD {e : Expr} {xs : List (Str × D)} (h : DV X T U e ds (.ownD xs)) : DE X T U e ds (.dic xs) := dv_fz h
theorem de_var (i : Nat) {x : Str} {pos : Pos} {d : D} (h : ds[i]? = some (.im d)) (hN : X.N[i]? = some x := by rfl) (hv : Vis X.env.scope x := by first | exact Or.inl rfl | exact Or.inr (Or.inl rfl) | exact Or.inr (Or.inr rfl))
    (hd : (x == ("__debug__" : Str)) = false := by decide) (hcd : (x == ("__classdict__" : Str)) = false := by decide) : DE X T U (.Name x pos) ds d :=
  (pe_var hN hv hd hcd).weak fun σ H Q ⟨I0, H0, I, en, k⟩ => by
    obtain ⟨v, e, r⟩ := en.im h
    exact ⟨v, e, k v I H (Step.refl en.sub) r⟩
theorem de_int {i : Int} {j : Nat} {pos : Pos} : DE X T U (.Constant (.int i) j pos) ds (.int i) := pe_int.weak fun _ H _ ⟨_, _, I, en, k⟩ => k _ I H (Step.refl en.sub) (.int i)
theorem de_bl {i : Bool} {j : Nat} {pos : Pos} : DE X T U (.Constant (.bool i) j pos) ds (.bl i) := pe_bl.weak fun _ H _ ⟨_, _, I, en, k⟩ => k _ I H (Step.refl en.sub) (.bl i)
theorem de_str {i : Str} {j : Nat} {pos : Pos} : DE X T U (.Constant (.str i) j pos) ds (.str i) := pe_str.weak fun _ H _ ⟨_, _, I, en, k⟩ => k _ I H (Step.refl en.sub) (.str i)
theorem de_non {j : Nat} {pos : Pos} : DE X T U (.Constant .none j pos) ds .non := pe_non.weak fun _ H _ ⟨_, _, I, en, k⟩ => k _ I H (Step.refl en.sub) .non
theorem de_gstr {x z : Str} {pos : Pos} (hg : Gl X x) (hm : ∃ t, X.mg x = some (.str z t)) (hd : (x == ("__debug__" : Str)) = false := by decide) : DE X T U (.Name x pos) ds (.str z) := by
  obtain ⟨t, hm⟩ := hm
  exact (pe_glob (v := .str z) hg hm ⟨t, rfl⟩ hd).weak fun _ H _ ⟨_, _, I, en, k⟩ => k _ I H (Step.refl en.sub) (.str z)
theorem de_gint {x : Str} {z : Int} {pos : Pos} (hg : Gl X x) (hm : ∃ t, X.mg x = some (.int z t)) (hd : (x == ("__debug__" : Str)) = false := by decide) : DE X T U (.Name x pos) ds (.int z) := by
  obtain ⟨t, hm⟩ := hm
  exact (pe_glob (v := .int z) hg hm ⟨t, rfl⟩ hd).weak fun _ H _ ⟨_, _, I, en, k⟩ => k _ I H (Step.refl en.sub) (.int z)
/-! ### operators -/
/-- two values told, then r of them -/
def R2D (G : Glb) (r : R2) (x y : D) (s : DS) : Prop := ∀ (I H : Hp) (v w : V) (Q : VK), RdS I H → Rep G I v x → Rep G I w y → (∀ z I' H', Step G I H I' H' → ValR G H I' H' z s → Q z H') → r v w H Q
theorem op_run {G : Glb} {r : R2} {x y : D} {σ : L2.St} {H : Hp} {Q : VK} (hr : R2D G r x y s) (h : eV G U ds s σ H Q) : tOp r (eV G U ds (.im x)) (eV G U ds (.im y)) σ H Q := by
  obtain ⟨I0, H0, I, en, k⟩ := h
  refine ⟨I0, H0, I, en, fun v I1 H1 s1 r1 => ⟨I0, H0, I1, en.step s1, fun w I2 H2 s2 r2 => ?_⟩⟩
  exact hr I2 H2 v w Q s2.sub (Rep.mono s2.isub r1) r2 fun z I3 H3 s3 r3 => k z I3 H3 ((s1.trans s2).trans s3) (r3.back (s1.trans s2))
theorem dv_op {a b : Expr} {op : Operator} {pos : Pos} {r : R2} {x y : D} (ho : OpR X (binaryOp op) r) (hr : R2D (gx X T) r x y s) (ha : DE X T U a ds x) (hb : DE X T U b ds y) : DV X T U (.BinOp a op b pos) ds s :=
  (pe_op ho ha hb).weak fun _ _ _ h => op_run hr h
theorem dv_cmp {a b : Expr} {op : CmpOp} {pos : Pos} {r : R2} {x y : D} (ho : OpR X (compareOp op) r) (hr : R2D (gx X T) r x y s) (ha : DE X T U a ds x) (hb : DE X T U b ds y) (hn : behindInMarks op b = false := by first | exact nobehind _ (by decide) (by decide) | rfl) : DV X T U (.Compare a [op] [b] pos) ds s :=
  (pe_cmpR ho ha hb hn).weak fun _ _ _ h => op_run hr h
theorem dt_cmp {a b : Expr} {op : CmpOp} {pos : Pos} {r : R2} {x y : D} {c : Bool} (ho : OpR X (compareOp op) r) (hr : R2D (gx X T) r x y (.im (.bl c))) (ha : DE X T U a ds x) (hb : DE X T U b ds y) (hn : behindInMarks op b = false := by first | exact nobehind _ (by decide) (by decide) | rfl) : DT X T U (.Compare a [op] [b] pos) ds c :=
  (pt_cmpR ho ha hb hn).weak fun σ H Q ⟨I0, H0, I, en, k⟩ => op_run hr ⟨I0, H0, I, en, fun v I' H' st r => by
    cases r
    exact ⟨c, rfl, k I' H' st⟩⟩
theorem dt_chain {a b e : Expr} {op op' : CmpOp} {pos : Pos} {r r' : R2} {x y z : D} {c c' : Bool} (ho : OpR X (compareOp op) r) (ho' : OpR X (compareOp op') r') (hr : R2D (gx X T) r x y (.im (.bl c))) (hr' : R2D (gx X T) r' y z (.im (.bl c')))
    (ha : DE X T U a ds x) (hb : DE X T U b ds y) (he : DE X T U e ds z) (hl : lastMarks [op, op'] [b, e] = false := by rfl) : DT X T U (.Compare a [op, op'] [b, e] pos) ds (c && c') :=
  (pt_chain ho ho' ha hb he hl).weak fun σ H Q ⟨I0, H0, I, en, k⟩ => by
    refine ⟨I0, H0, I, en, fun v I1 H1 s1 r1 => ⟨I0, H0, I1, en.step s1, fun w I2 H2 s2 r2 => ?_⟩⟩
    refine hr I2 H2 v w _ s2.sub (Rep.mono s2.isub r1) r2 fun u I3 H3 s3 r3 => ?_
    cases r3
    refine ⟨c, rfl, ?_⟩
    cases c with
    | false => exact ⟨false, rfl, k I3 H3 ((s1.trans s2).trans s3)⟩
    | true =>
      refine ⟨I0, H0, I3, ((en.step s1).step s2).step s3, fun u4 I4 H4 s4 r4 => ?_⟩
      refine hr' I4 H4 w u4 _ s4.sub (Rep.mono (s3.isub.trans s4.isub) r2) r4 fun u I5 H5 s5 r5 => ?_
      cases r5
      exact ⟨c', rfl, k I5 H5 ((((s1.trans s2).trans s3).trans s4).trans s5)⟩
/-! the rules of values -/
section
variable {G : Glb} {i j : Int} {x y : Str}
theorem r2_I0 {g : Int → Int → Int} : R2D G (rI0 fun i j => .int (g i j)) (.int i) (.int j) (.im (.int (g i j))) := fun I H v w Q r h1 h2 k => by
  cases h1; cases h2
  exact ⟨i, j, rfl, rfl, k _ I H (Step.refl r) (.int _)⟩
theorem r2_I {C : Int → Int → Prop} {g : Int → Int → Int} (hc : C i j) : R2D G (rI C fun i j => .int (g i j)) (.int i) (.int j) (.im (.int (g i j))) := fun I H v w Q r h1 h2 k => by
  cases h1; cases h2
  exact ⟨i, j, rfl, rfl, hc, k _ I H (Step.refl r) (.int _)⟩
theorem r2_B0 {g : Int → Int → Bool} : R2D G (rI0 fun i j => .bl (g i j)) (.int i) (.int j) (.im (.bl (g i j))) := fun I H v w Q r h1 h2 k => by
  cases h1; cases h2
  exact ⟨i, j, rfl, rfl, k _ I H (Step.refl r) (.bl _)⟩
theorem r2_eqI : R2D G rEq (.int i) (.int j) (.im (.bl (decide (i = j)))) := fun I H v w Q r h1 h2 k => by
  cases h1; cases h2
  refine ⟨rfl, ?_⟩
  rw [show decide (V.int i = V.int j) = decide (i = j) from by simp]
  exact k _ I H (Step.refl r) (.bl _)
theorem r2_neI : R2D G rNe (.int i) (.int j) (.im (.bl (!decide (i = j)))) := fun I H v w Q r h1 h2 k => by
  cases h1; cases h2
  refine ⟨rfl, ?_⟩
  rw [show decide (V.int i = V.int j) = decide (i = j) from by simp]
  exact k _ I H (Step.refl r) (.bl _)
theorem r2_eqS : R2D G rEq (.str x) (.str y) (.im (.bl (decide (x = y)))) := fun I H v w Q r h1 h2 k => by
  cases h1; cases h2
  refine ⟨rfl, ?_⟩
  rw [show decide (V.str x = V.str y) = decide (x = y) from by simp]
  exact k _ I H (Step.refl r) (.bl _)
theorem r2_neS : R2D G rNe (.str x) (.str y) (.im (.bl (!decide (x = y)))) := fun I H v w Q r h1 h2 k => by
  cases h1; cases h2
  refine ⟨rfl, ?_⟩
  rw [show decide (V.str x = V.str y) = decide (x = y) from by simp]
  exact k _ I H (Step.refl r) (.bl _)
theorem r2_addS (hl : x.length + y.length ≤ sizeLine) : R2D G (fun x y H Q => ∃ i j, x = .str i ∧ y = .str j ∧ i.length + j.length ≤ sizeLine ∧ Q (.str (i ++ j)) H) (.str x) (.str y) (.im (.str (x ++ y))) := fun I H v w Q r h1 h2 k => by
  cases h1; cases h2
  exact ⟨_, _, rfl, rfl, hl, k _ I H (Step.refl r) (.str _)⟩
end
section
variable {a b : Expr} {pos : Pos} {i j : Int} {x y : Str}
theorem de_add (ha : DE X T U a ds (.int i)) (hb : DE X T U b ds (.int j)) : DE X T U (.BinOp a .Add b pos) ds (.int (i + j)) := dv_op op_add r2_I0 ha hb
theorem de_sub (ha : DE X T U a ds (.int i)) (hb : DE X T U b ds (.int j)) : DE X T U (.BinOp a .Sub b pos) ds (.int (i - j)) := dv_op op_sub r2_I0 ha hb
theorem de_mul (ha : DE X T U a ds (.int i)) (hb : DE X T U b ds (.int j)) (hc : CMul i j) : DE X T U (.BinOp a .Mult b pos) ds (.int (i * j)) := dv_op op_mul (r2_I hc) ha hb
theorem de_mod (ha : DE X T U a ds (.int i)) (hb : DE X T U b ds (.int j)) (hc : 0 < j) : DE X T U (.BinOp a .Mod b pos) ds (.int (i % j)) := dv_op op_mod (r2_I hc) ha hb
theorem de_div (ha : DE X T U a ds (.int i)) (hb : DE X T U b ds (.int j)) (hc : CDiv i j) : DE X T U (.BinOp a .FloorDiv b pos) ds (.int (i / j)) := dv_op op_fdiv (r2_I hc) ha hb
theorem de_pow (ha : DE X T U a ds (.int i)) (hb : DE X T U b ds (.int j)) (hc : CPow i j) : DE X T U (.BinOp a .Pow b pos) ds (.int (i ^ j.toNat)) := dv_op op_pow (r2_I hc) ha hb
theorem de_shr (ha : DE X T U a ds (.int i)) (hb : DE X T U b ds (.int j)) (hc : 0 ≤ j) : DE X T U (.BinOp a .RShift b pos) ds (.int (i / 2 ^ j.toNat)) := dv_op op_shr (r2_I hc) ha hb
theorem de_band (ha : DE X T U a ds (.int i)) (hb : DE X T U b ds (.int j)) : DE X T U (.BinOp a .BitAnd b pos) ds (.int (Builtin.bitAnd i j)) := dv_op op_and r2_I0 ha hb
theorem de_bor (ha : DE X T U a ds (.int i)) (hb : DE X T U b ds (.int j)) : DE X T U (.BinOp a .BitOr b pos) ds (.int (Builtin.bitOr i j)) := dv_op op_or r2_I0 ha hb
theorem de_addS (ha : DE X T U a ds (.str x)) (hb : DE X T U b ds (.str y)) (hl : x.length + y.length ≤ sizeLine) : DE X T U (.BinOp a .Add b pos) ds (.str (x ++ y)) := dv_op op_add_str (r2_addS hl) ha hb
theorem dt_lt (ha : DE X T U a ds (.int i)) (hb : DE X T U b ds (.int j)) : DT X T U (.Compare a [.Lt] [b] pos) ds (decide (i < j)) := dt_cmp op_lt r2_B0 ha hb
theorem dt_le (ha : DE X T U a ds (.int i)) (hb : DE X T U b ds (.int j)) : DT X T U (.Compare a [.LtE] [b] pos) ds (decide (i ≤ j)) := dt_cmp op_le r2_B0 ha hb
theorem dt_gt (ha : DE X T U a ds (.int i)) (hb : DE X T U b ds (.int j)) : DT X T U (.Compare a [.Gt] [b] pos) ds (decide (j < i)) := dt_cmp op_gt r2_B0 ha hb
theorem dt_ge (ha : DE X T U a ds (.int i)) (hb : DE X T U b ds (.int j)) : DT X T U (.Compare a [.GtE] [b] pos) ds (decide (j ≤ i)) := dt_cmp op_ge r2_B0 ha hb
theorem dt_eqI (ha : DE X T U a ds (.int i)) (hb : DE X T U b ds (.int j)) : DT X T U (.Compare a [.Eq] [b] pos) ds (decide (i = j)) := dt_cmp op_eq r2_eqI ha hb
theorem dt_neI (ha : DE X T U a ds (.int i)) (hb : DE X T U b ds (.int j)) : DT X T U (.Compare a [.NotEq] [b] pos) ds (!decide (i = j)) := dt_cmp op_ne r2_neI ha hb
theorem dt_eqS (ha : DE X T U a ds (.str x)) (hb : DE X T U b ds (.str y)) : DT X T U (.Compare a [.Eq] [b] pos) ds (decide (x = y)) := dt_cmp op_eq r2_eqS ha hb
theorem dt_neS (ha : DE X T U a ds (.str x)) (hb : DE X T U b ds (.str y)) : DT X T U (.Compare a [.NotEq] [b] pos) ds (!decide (x = y)) := dt_cmp op_ne r2_neS ha hb
theorem de_eqI (ha : DE X T U a ds (.int i)) (hb : DE X T U b ds (.int j)) : DE X T U (.Compare a [.Eq] [b] pos) ds (.bl (decide (i = j))) := dv_cmp op_eq r2_eqI ha hb
theorem de_eqS (ha : DE X T U a ds (.str x)) (hb : DE X T U b ds (.str y)) : DE X T U (.Compare a [.Eq] [b] pos) ds (.bl (decide (x = y))) := dv_cmp op_eq r2_eqS ha hb
/-- a <= b <= c -/
theorem dt_leLe {c : Expr} {k : Int} (ha : DE X T U a ds (.int i)) (hb : DE X T U b ds (.int j)) (hc : DE X T U c ds (.int k)) (hl : lastMarks [.LtE, .LtE] [b, c] = false := by rfl) : DT X T U (.Compare a [.LtE, .LtE] [b, c] pos) ds (decide (i ≤ j) && decide (j ≤ k)) :=
  dt_chain op_le op_le r2_B0 r2_B0 ha hb hc hl
theorem dt_leLt {c : Expr} {k : Int} (ha : DE X T U a ds (.int i)) (hb : DE X T U b ds (.int j)) (hc : DE X T U c ds (.int k)) (hl : lastMarks [.LtE, .Lt] [b, c] = false := by rfl) : DT X T U (.Compare a [.LtE, .Lt] [b, c] pos) ds (decide (i ≤ j) && decide (j < k)) :=
  dt_chain op_le op_lt r2_B0 r2_B0 ha hb hc hl
end
/-! ### tests -/
section
variable {e a b : Expr} {rest : List Expr} {pos : Pos} {x y : Bool}
theorem dt_is (h : DT X T U e ds x) (q : x = y) : DT X T U e ds y := q ▸ h
theorem dv_is {s' : DS} (h : DV X T U e ds s) (q : s = s') : DV X T U e ds s' := q ▸ h
theorem dt_val (h : DE X T U e ds (.bl x)) (he : ∀ whole, isTrue e X.env whole = (do let v ← whole; standAt e.pos; holding [v] (truthy v)) := by intro _; rfl) : DT X T U e ds x :=
  (pt_val h he).weak fun σ H Q ⟨I0, H0, I, en, k⟩ => ⟨I0, H0, I, en, fun v I' H' st r => by
    cases r
    exact ⟨x, rfl, k I' H' st⟩⟩
theorem dt_not (h : DT X T U a ds x) : DT X T U (.UnaryOp .Not a pos) ds (!x) := (pt_not h).weak fun σ H Q ⟨I0, H0, I, en, k⟩ => ⟨I0, H0, I, en, fun I' H' st => k I' H' st⟩
abbrev DW (X : Cx) (T : List NdefX.NTab) (U : Bool) (e : Expr) (ds : List DS) (b : Bool) : Prop := PW X e (tV (gx X T) U ds b)
theorem dw_and1 (h : DT X T U a ds x) : DW X T U (.BoolOp .And [a] pos) ds x := pw_and1 h
theorem dw_or1 (h : DT X T U a ds x) : DW X T U (.BoolOp .Or [a] pos) ds x := pw_or1 h
/-- the second one is asked where the first is true -/
theorem dw_and (h : DT X T U a ds x) (h2 : x = true → DW X T U (.BoolOp .And (b :: rest) pos) ds y) : DW X T U (.BoolOp .And (a :: b :: rest) pos) ds (x && y) := by
  refine ⟨fun wh pins s σ H Q I hw => ?_⟩
  obtain ⟨I0, H0, I1, en, k⟩ := hw
  cases x with
  | true =>
    refine (pw_and (tB' := fun σ H Q => tV (gx X T) U ds y σ H Q) h (h2 rfl)).run wh pins s σ H Q I ⟨I0, H0, I1, en, fun I' H' st => ?_⟩
    exact ⟨I0, H0, I', en.step st, fun I2 H2 s2 => k I2 H2 (st.trans s2)⟩
  | false =>
    refine (pw_and (tB' := fun _ _ _ => False) h ⟨fun _ _ _ _ _ _ _ z => z.elim⟩).run wh pins s σ H Q I ⟨I0, H0, I1, en, fun I' H' st => ?_⟩
    exact k I' H' st
theorem dw_or (h : DT X T U a ds x) (h2 : x = false → DW X T U (.BoolOp .Or (b :: rest) pos) ds y) : DW X T U (.BoolOp .Or (a :: b :: rest) pos) ds (x || y) := by
  refine ⟨fun wh pins s σ H Q I hw => ?_⟩
  obtain ⟨I0, H0, I1, en, k⟩ := hw
  cases x with
  | false =>
    refine (pw_or (tB' := fun σ H Q => tV (gx X T) U ds y σ H Q) h (h2 rfl)).run wh pins s σ H Q I ⟨I0, H0, I1, en, fun I' H' st => ?_⟩
    exact ⟨I0, H0, I', en.step st, fun I2 H2 s2 => k I2 H2 (st.trans s2)⟩
  | true =>
    refine (pw_or (tB' := fun _ _ _ => False) h ⟨fun _ _ _ _ _ _ _ z => z.elim⟩).run wh pins s σ H Q I ⟨I0, H0, I1, en, fun I' H' st => ?_⟩
    exact k I' H' st
theorem dt_w (h : DW X T U e ds x) : DT X T U e ds x := PW.pt h
/-- .. as values -/
theorem de_one {op : BoolOp} {t : D} (h : DE X T U a ds t) : DE X T U (.BoolOp op [a] pos) ds t := pe_one h
theorem de_and (h : DE X T U a ds (.bl x)) (h2 : x = true → DE X T U (.BoolOp .And (b :: rest) pos) ds (.bl y)) : DE X T U (.BoolOp .And (a :: b :: rest) pos) ds (.bl (x && y)) := by
  refine ⟨fun pins s σ H Q I hw => ?_⟩
  obtain ⟨I0, H0, I1, en, k⟩ := hw
  cases x with
  | true =>
    refine (pe_and h (h2 rfl)).run pins s σ H Q I ⟨I0, H0, I1, en, fun v I' H' st r => ?_⟩
    cases r
    exact ⟨true, rfl, I0, H0, I', en.step st, fun v I2 H2 s2 r2 => k v I2 H2 (st.trans s2) r2⟩
  | false =>
    refine (pe_and (tb := fun _ _ _ => False) h ⟨fun _ _ _ _ _ _ z => z.elim⟩).run pins s σ H Q I ⟨I0, H0, I1, en, fun v I' H' st r => ?_⟩
    cases r
    exact ⟨false, rfl, k _ I' H' st (.bl false)⟩
theorem de_or (h : DE X T U a ds (.bl x)) (h2 : x = false → DE X T U (.BoolOp .Or (b :: rest) pos) ds (.bl y)) : DE X T U (.BoolOp .Or (a :: b :: rest) pos) ds (.bl (x || y)) := by
  refine ⟨fun pins s σ H Q I hw => ?_⟩
  obtain ⟨I0, H0, I1, en, k⟩ := hw
  cases x with
  | false =>
    refine (pe_or h (h2 rfl)).run pins s σ H Q I ⟨I0, H0, I1, en, fun v I' H' st r => ?_⟩
    cases r
    exact ⟨false, rfl, I0, H0, I', en.step st, fun v I2 H2 s2 r2 => k v I2 H2 (st.trans s2) r2⟩
  | true =>
    refine (pe_or (tb := fun _ _ _ => False) h ⟨fun _ _ _ _ _ _ z => z.elim⟩).run pins s σ H Q I ⟨I0, H0, I1, en, fun v I' H' st r => ?_⟩
    cases r
    exact ⟨true, rfl, k _ I' H' st (.bl true)⟩
theorem de_not (h : DE X T U a ds (.bl x)) : DE X T U (.UnaryOp .Not a pos) ds (.bl (!x)) := (pe_not h).weak fun σ H Q ⟨I0, H0, I, en, k⟩ => ⟨I0, H0, I, en, fun v I' H' st r => by
  cases r
  exact ⟨x, rfl, k _ I' H' st (.bl _)⟩⟩
/-- a if c else b -/
theorem dv_if {c : Expr} (h : DT X T U c ds x) (h1 : x = true → DV X T U a ds s) (h2 : x = false → DV X T U b ds s) : DV X T U (.IfExp c a b pos) ds s := by
  refine ⟨fun pins s' σ H Q I hw => ?_⟩
  obtain ⟨I0, H0, I1, en, k⟩ := hw
  cases x with
  | true =>
    refine (pe_ifExp (tb := fun _ _ _ => False) h (h1 rfl) ⟨fun _ _ _ _ _ _ z => z.elim⟩).run pins s' σ H Q I ⟨I0, H0, I1, en, fun I' H' st => ?_⟩
    exact ⟨I0, H0, I', en.step st, fun v I2 H2 s2 r2 => k v I2 H2 (st.trans s2) (r2.back st)⟩
  | false =>
    refine (pe_ifExp (ta := fun _ _ _ => False) h ⟨fun _ _ _ _ _ _ z => z.elim⟩ (h2 rfl)).run pins s' σ H Q I ⟨I0, H0, I1, en, fun I' H' st => ?_⟩
    exact ⟨I0, H0, I', en.step st, fun v I2 H2 s2 r2 => k v I2 H2 (st.trans s2) (r2.back st)⟩
end
/-! ### arguments, displays, calls of the built-in -/
section
variable {e : Expr} {es : List Expr} {pos : Pos} {d : D} {xs : List D}
theorem da_nil : DA X T U [] ds [] := ⟨fun pos pins s σ H Q I ⟨I0, H0, I1, en, k⟩ => pa_nil.run pos pins s σ H Q I (k [] I1 H (Step.refl en.sub) .nil)⟩
theorem da_cons (h : DE X T U e ds d) (hr : DA X T U es ds xs) (he : starEach (e :: es) X.env = (false, eval e X.env) :: starEach es X.env := by rfl) : DA X T U (e :: es) ds (d :: xs) :=
  (pa_cons h hr he).weak fun σ H Q ⟨I0, H0, I, en, k⟩ => ⟨I0, H0, I, en, fun v I1 H1 s1 r1 => ⟨I0, H0, I1, en.step s1, fun vs I2 H2 s2 r2 => k (v :: vs) I2 H2 (s1.trans s2) (.cons (Rep.mono s2.isub r1) r2)⟩⟩
theorem dv_lst (h : DA X T U es ds xs) (hl : xs.length ≤ 100000) : DV X T U (.List es pos) ds (.own xs) :=
  (pe_lst h).weak fun σ H Q ⟨I0, H0, I, en, k⟩ => ⟨I0, H0, I, en, fun vs I1 H1 s1 r1 => ⟨by rw [r1.len]; exact Nat.le_trans hl (by decide), fun p hp => by
    have s2 : Step (gx X T) I1 H1 I1 (upd H1 p (.lst vs)) := Step.newOwn s1.sub hp
    exact k _ I1 _ (s1.trans s2) ⟨p, vs, rfl, s1.free hp, s1.sub.free hp, upd_same, r1⟩⟩⟩
theorem de_tup {n : Nat} (h : DA X T U es ds xs) (hl : xs.length ≤ 100000) : DE X T U (.Tuple es n pos) ds (.tup xs) :=
  (pe_tup h).weak fun σ H Q ⟨I0, H0, I, en, k⟩ => ⟨I0, H0, I, en, fun vs I1 H1 s1 r1 => ⟨by rw [r1.len]; exact Nat.le_trans hl (by decide), fun p hp => by
    have s2 : Step (gx X T) I1 H1 (upd I1 p (.tup vs)) (upd H1 p (.tup vs)) := Step.new s1.sub hp
    exact k _ _ _ (s1.trans s2) (Rep.tup upd_same (r1.mono s2.isub))⟩⟩
/-- a call's rule by values, over arguments told -/
def RCD (G : Glb) (r : List V → Hp → VK → Prop) (xs : List D) (s : DS) : Prop := ∀ (I H : Hp) (vs : List V) (Q : VK), RdS I H → Reps G I vs xs → (∀ z I' H', Step G I H I' H' → ValR G H I' H' z s → Q z H') → r vs H Q
theorem cb_run {G : Glb} {r : List V → Hp → VK → Prop} {σ : L2.St} {H : Hp} {Q : VK} (hr : RCD G r xs s) (h : eV G U ds s σ H Q) : tCB r (aV G U ds xs) σ H Q := by
  obtain ⟨I0, H0, I, en, k⟩ := h
  refine ⟨I0, H0, I, en, fun vs I1 H1 s1 r1 => ?_⟩
  exact hr I1 H1 vs Q s1.sub r1 fun z I2 H2 s2 r2 => k z I2 H2 (s1.trans s2) (r2.back s1)
theorem dv_callB {x : Str} {p : Pos} {id : String} {r : List V → Hp → VK → Prop} (hc : CallR X (.builtin id) r) (hr : RCD (gx X T) r xs s) (hg : Gl X x) (hm : X.mg x = none) (hv : bootBuiltins x = some (.builtin id)) (ha : DA X T U (e :: es) ds xs) (hn : x ≠ ("__name__" : Str) := by decide)
    (hd : (x == ("__debug__" : Str)) = false := by decide) (he : starEach (e :: es) X.env = (false, eval e X.env) :: starEach es X.env := by rfl) (hpl : (backTo pos (starEach es X.env)).any (·.1) = false := by rfl) : DV X T U (.Call (.Name x p) (e :: es) [] pos) ds s :=
  (pe_callB hc hg hm hv ha hn hd he hpl).weak fun _ _ _ h => cb_run hr h
theorem dv_callTy {x : Str} {p : Pos} {id : String} {r : List V → Hp → VK → Prop} (hc : CallR X (.type id) r) (hr : RCD (gx X T) r xs s) (hg : Gl X x) (hm : X.mg x = none) (hv : bootBuiltins x = some (.type id)) (ha : DA X T U (e :: es) ds xs) (hn : x ≠ ("__name__" : Str) := by decide)
    (hd : (x == ("__debug__" : Str)) = false := by decide) (he : starEach (e :: es) X.env = (false, eval e X.env) :: starEach es X.env := by rfl) (hpl : (backTo pos (starEach es X.env)).any (·.1) = false := by rfl) : DV X T U (.Call (.Name x p) (e :: es) [] pos) ds s :=
  (pe_callTy hc hg hm hv ha hn hd he hpl).weak fun _ _ _ h => cb_run hr h
end
end
end Lp

/-! The judgements over data: statements, loops, defs and their calls. -/
namespace Lp
open PySem PySem.Spec PyProof.Rows L2
section
variable {G : Glb} {U : Bool} {I0 H0 I H I' H' : Hp} {σ : L2.St} {ds : List DS}
theorem EnvR.setV (e : EnvR G U I0 H0 I H σ ds) (s : Step G I H I' H') {v : V} {d : DS} (i : Nat) (r : ValR G H I' H' v d) : EnvR G U I0 H0 I' H' (σ.set i (some v)) (ds.set i d) := by
  cases d with
  | no => exact (e.step s).setNo _ i
  | im d => exact (e.step s).setIm i r
  | own xs =>
    obtain ⟨p, vs, rfl, n, hi, h, rs⟩ := r
    exact e.setNew s [p] (fun a ha => by rw [List.mem_singleton.mp ha]; exact ⟨n, by rw [h]; exact fun z => nomatch z⟩) i ⟨p, vs, rfl, h, rs, hi, e.st.free n, List.mem_singleton_self p⟩
  | ownD xs =>
    obtain ⟨p, vs, rfl, n, hi, h, rs⟩ := r
    exact e.setNew s [p] (fun a ha => by rw [List.mem_singleton.mp ha]; exact ⟨n, by rw [h]; exact fun z => nomatch z⟩) i ⟨p, vs, rfl, h, rs, hi, e.st.free n, List.mem_singleton_self p⟩
  | ot q t =>
    obtain ⟨A, h, n, z⟩ := r
    exact e.setNew s A (fun a ha => ⟨n a ha, by
      obtain ⟨_, u, z, _⟩ := h.there a ha
      rw [z]
      exact fun q => nomatch q⟩) i ⟨v, A, rfl, h, fun a ha => ⟨e.st.free (n a ha), ha⟩, z⟩
theorem NxR.imp {P Q : List DS → Prop} {σ' : L2.St} (h : ∀ ds', P ds' → Q ds') (n : NxR G U I0 H0 I H P σ' H') : NxR G U I0 H0 I H Q σ' H' := by
  obtain ⟨d, I1, e, p, q⟩ := n
  exact ⟨d, I1, e, p, h d q⟩
theorem XsR.pre {P : List DS → Prop} {fs : List (Str × D)} {d : Option Addr} {σ' : L2.St} {I1 H1 H2 : Hp} (p : Pres I H I1 H1) (n : XsR G U I0 H0 I1 H1 P fs d σ' H2) : XsR G U I0 H0 I H P fs d σ' H2 := by
  obtain ⟨ds', I2, e, q, x, r⟩ := n
  exact ⟨ds', I2, e, p.trans q, x, r⟩
theorem NxR.pre {P : List DS → Prop} {σ' : L2.St} {I1 H1 H2 : Hp} (p : Pres I H I1 H1) (n : NxR G U I0 H0 I1 H1 P σ' H2) : NxR G U I0 H0 I H P σ' H2 := by
  obtain ⟨d, I2, e, q, r⟩ := n
  exact ⟨d, I2, e, p.trans q, r⟩
/-- behind a part, the rest with what it wants -/
theorem sV_from {W : WX} {E : DEn} {D : Ends} {ds ds' : List DS} {I1 H1 : Hp} {σ σ' : L2.St} (p : Pres I H I1 H1) (e : EnvR G U I0 H0 I1 H1 σ' ds')
    (k1 : ∀ σ' H', NxR G U I0 H0 I H E.nx σ' H' → D.nx σ' H') (k2 : ∀ v H' s, RetR G I0 H0 v H' s → E.rt s → D.rt v H') (k3 : ∀ σ' H', NxR G U I0 H0 I H E.bk σ' H' → D.bk σ' H') (k4 : ∀ σ' H', NxR G U I0 H0 I H E.ct σ' H' → D.ct σ' H')
    (k5 : ∀ C fs d σ' H', XsR G U I0 H0 I H (E.xs C fs) fs d σ' H' → W (.ref (He.ga G.K C)) d σ' H') : sV G W U ds' E D σ' H1 :=
  ⟨I0, H0, I1, e, fun s h n => k1 s h (n.pre p), k2, fun s h n => k3 s h (n.pre p), fun s h n => k4 s h (n.pre p), fun C fs d s h n => k5 C fs d s h (n.pre p)⟩
end
section
variable {X : Cx} {T : List NdefX.NTab} {W : WX} {U : Bool} {ds : List DS} {s : DS} {E : DEn}
theorem sV_imp {G : Glb} {E E' : DEn} {D : Ends} {σ : L2.St} {H : Hp} (h1 : ∀ d, E.nx d → E'.nx d) (h2 : ∀ d, E.rt d → E'.rt d) (h3 : ∀ d, E.bk d → E'.bk d) (h4 : ∀ d, E.ct d → E'.ct d) (h5 : ∀ C f d, E.xs C f d → E'.xs C f d) (h : sV G W U ds E' D σ H) : sV G W U ds E D σ H := by
  obtain ⟨I0, H0, I, e, k1, k2, k3, k4, k5⟩ := h
  exact ⟨I0, H0, I, e, fun s h n => k1 s h (n.imp h1), fun v h s r q => k2 v h s r (h2 s q), fun s h n => k3 s h (n.imp h3), fun s h n => k4 s h (n.imp h4), fun C f d s h ⟨ds', I', a, b, c, q⟩ => k5 C f d s h ⟨ds', I', a, b, c, h5 C f ds' q⟩⟩
/-! ### blocks -/
theorem dss_nil (h : E.nx ds) : DSs X T W U [] ds E := pss_nil.weak fun D σ H ⟨I0, H0, I, e, k1, _⟩ => k1 σ H ⟨ds, I, e, Pres.refl I H, h⟩
theorem dss_cons {st : Stmt} {rest : List Stmt} (h : DSt X T W U st ds { E with nx := fun ds' => DSs X T W U rest ds' E }) : DSs X T W U (st :: rest) ds E := by
  have h2 : PSs X rest (fun D σ H => ∃ ds', DSs X T W U rest ds' E ∧ sV (gx X T) W U ds' E D σ H) := ⟨fun pins s σ H D I ⟨ds', a, b⟩ => a.run pins s σ H D I b⟩
  refine (pss_cons h h2).weak fun D σ H ⟨I0, H0, I, e, k1, k2, k3, k4, k5⟩ => ?_
  refine ⟨I0, H0, I, e, fun σ' H' ⟨ds', I', e', p, q⟩ => ⟨ds', q, sV_from (ds := ds) (σ := σ) p e' k1 k2 k3 k4 k5⟩, k2, k3, k4, k5⟩
theorem dss_one {st : Stmt} (h : DSt X T W U st ds E) : DSs X T W U [st] ds E := pss_one h
theorem dss_never {sts : List Stmt} (h : False) : DSs X T W U sts ds E := h.elim
/-! ### simple statements -/
section
variable {e : Expr} {pos : Pos}
theorem ds_set (i : Nat) {x : Str} {pos' : Pos} (he : DV X T U e ds s) (k : E.nx (ds.set i s)) (hN : X.N.Nodup) (hi : X.N[i]? = some x := by rfl) (hx : Loc X.env.scope x := by first | exact Or.inl rfl | exact Or.inr rfl)
    (hs : swapsWith e (some (.Name x pos')) pos.line X.env = pure false := by rfl) (hf : X.fn x = true ∨ X.env.scope.names.lookup x = some .local := by first | exact .inl rfl | exact .inr rfl | assumption) : DSt X T W U (.Assign [.Name x pos'] e pos) ds E :=
  (ps_set hN hi hx he hs hf).weak fun D σ H ⟨I0, H0, I, en, k1, _⟩ => ⟨I0, H0, I, en, fun v I1 H1 s1 r1 => k1 _ H1 ⟨_, I1, en.setV s1 i r1, s1.pres, k⟩⟩
theorem ds_expr (he : DV X T U e ds s) (k : E.nx ds) (hs : swapsWith e none pos.line X.env = pure false := by rfl) : DSt X T W U (.Expr e pos) ds E :=
  (ps_expr he hs).weak fun D σ H ⟨I0, H0, I, en, k1, _⟩ => ⟨I0, H0, I, en, fun v I1 H1 s1 r1 => k1 _ H1 ⟨_, I1, en.step s1, s1.pres, k⟩⟩
theorem ds_ret (he : DV X T U e ds s) (k : E.rt s) : DSt X T W U (.Return (some e) pos) ds E :=
  (ps_ret he).weak fun D σ H ⟨I0, H0, I, en, _, k2, _⟩ => ⟨I0, H0, I, en, fun v I1 H1 s1 r1 => k2 v H1 s ⟨I1, en.st.trans s1, r1.back en.st⟩ k⟩
theorem ds_retN (k : E.rt (.im .non)) : DSt X T W U (.Return none pos) ds E :=
  ps_retN.weak fun D σ H ⟨I0, H0, I, en, _, k2, _⟩ => k2 _ H (.im .non) ⟨I, en.st, Rep.non⟩ k
/-- a name that holds a list of one's own is handed back -/
theorem ds_retOwn (i : Nat) {x : Str} {p : Pos} {xs : List D} (h : ds[i]? = some (.own xs)) (k : E.rt (.own xs)) (hN : X.N[i]? = some x := by rfl) (hv : Vis X.env.scope x := by first | exact Or.inl rfl | exact Or.inr (Or.inl rfl) | exact Or.inr (Or.inr rfl))
    (hd : (x == ("__debug__" : Str)) = false := by decide) (hcd : (x == ("__classdict__" : Str)) = false := by decide) : DSt X T W U (.Return (some (.Name x p)) pos) ds E :=
  (ps_ret (pe_var hN hv hd hcd)).weak fun D σ H ⟨I0, H0, I, en, _, k2, _⟩ => by
    obtain ⟨q, vs, e1, e2, e3, e4, e5⟩ := en.own h
    exact ⟨_, e1, k2 _ H (.own xs) ⟨I, en.st, q, vs, rfl, e5, e4, e2, e3⟩ k⟩
theorem ds_retOwnD (i : Nat) {x : Str} {p : Pos} {xs : List (Str × D)} (h : ds[i]? = some (.ownD xs)) (k : E.rt (.ownD xs)) (hN : X.N[i]? = some x := by rfl) (hv : Vis X.env.scope x := by first | exact Or.inl rfl | exact Or.inr (Or.inl rfl) | exact Or.inr (Or.inr rfl))
    (hd : (x == ("__debug__" : Str)) = false := by decide) (hcd : (x == ("__classdict__" : Str)) = false := by decide) : DSt X T W U (.Return (some (.Name x p)) pos) ds E :=
  (ps_ret (pe_var hN hv hd hcd)).weak fun D σ H ⟨I0, H0, I, en, _, k2, _⟩ => by
    obtain ⟨q, vs, e1, e2, e3, e4, e5⟩ := en.ownD h
    exact ⟨_, e1, k2 _ H (.ownD xs) ⟨I, en.st, q, vs, rfl, e5, e4, e2, e3⟩ k⟩
theorem ds_pass (k : E.nx ds) : DSt X T W U (.Pass pos) ds E := ps_pass.weak fun D σ H ⟨I0, H0, I, e, k1, _⟩ => k1 σ H ⟨ds, I, e, Pres.refl I H, k⟩
theorem ds_continue (k : E.ct ds) : DSt X T W U (.Continue pos) ds E := ps_continue.weak fun D σ H ⟨I0, H0, I, e, k1, k2, k3, k4, _⟩ => k4 σ H ⟨ds, I, e, Pres.refl I H, k⟩
theorem ds_break (k : E.bk ds) : DSt X T W U (.Break pos) ds E := ps_break.weak fun D σ H ⟨I0, H0, I, e, k1, k2, k3, _⟩ => k3 σ H ⟨ds, I, e, Pres.refl I H, k⟩
theorem ds_if {c : Expr} {a b : List Stmt} {x : Bool} (h : DT X T U c ds x) (h1 : x = true → DSs X T W U a ds E) (h2 : x = false → DSs X T W U b ds E) : DSt X T W U (.If c a b pos) ds E := by
  cases x with
  | true =>
    refine (ps_if h (h1 rfl) pss_never).weak fun D σ H ⟨I0, H0, I, e, k1, k2, k3, k4, k5⟩ => ⟨I0, H0, I, e, fun I' H' st => ?_⟩
    exact sV_from (ds := ds) (σ := σ) st.pres (e.step st) k1 k2 k3 k4 k5
  | false =>
    refine (ps_if h pss_never (h2 rfl)).weak fun D σ H ⟨I0, H0, I, e, k1, k2, k3, k4, k5⟩ => ⟨I0, H0, I, e, fun I' H' st => ?_⟩
    exact sV_from (ds := ds) (σ := σ) st.pres (e.step st) k1 k2 k3 k4 k5
/-- from now on a slot's own objects are told -/
theorem EnvR.growTo {G : Glb} {I0 H0 I H J : Hp} {σ : L2.St} {i : Nat} {c : D} {v : V} {F : Nat → Addr → Prop} (en : EnvR G U I0 H0 I H σ ds) (f : Foot G H0 I H σ ds F) (e1 : σ[i]? = some (some v)) (sj : Same I J) (hJ : ∀ a u, J a = some u → I a = some u ∨ (I a = none ∧ H a = some u ∧ H0 a = none ∧ F i a)) (hnt : ∀ a u, I a = none → J a = some u → ∀ ps, u ≠ HO.tbl ps)
    (r : Rep G J v c) : Pres I H J H ∧ EnvR G U I0 H0 J H σ (ds.set i (.im c)) := by
  refine ⟨⟨sj, fun _ _ _ q => q⟩, ?_⟩
  have st := en.st.tell sj fun a u e => (hJ a u e).imp id fun z => ⟨z.2.2.1, z.2.1, hnt a u z.1 e⟩
  have z := en.put f st en.tb (fun _ h => h) i (some v) (.im c) (fun _ => False) (fun j hj a ha h => ⟨?_, rfl⟩) sj (fun _ h => h.elim) ⟨v, rfl, r⟩
  · rwa [show σ.set i (some v) = σ from by
      obtain ⟨hl, he⟩ := List.getElem?_eq_some_iff.mp e1
      rw [← he, List.set_getElem_self]] at z
  · cases e : J a with
    | none => rfl
    | some u =>
      rcases hJ a u e with z | z
      · rw [h.1] at z; cases z
      · exact absurd (f.dj j i a ha z.2.2.2) hj
/-- J tells more: no dict but where nd is false -/
structure View (nd : Bool) (I H J : Hp) : Prop where
  pres : Pres I H J H
  of : ∀ a u, J a = some u → I a = some u ∨ (I a = none ∧ H a = some u)
  nd : nd = true → ∀ a kvs, I a = none → J a ≠ some (.dK kvs)
def DS.nodict : DS → Bool
  | .own _ => true
  | .ot _ t => t.nd
  | _ => false
theorem EnvR.freezeAt {G : Glb} {I0 H0 I H : Hp} {σ : L2.St} (en : EnvR G U I0 H0 I H σ ds) {i : Nat} {d : DS} (h : ds[i]? = some d) (ho : d.isOwn = true) : ∃ I', View d.nodict I H I' ∧ EnvR G U I0 H0 I' H σ (ds.set i d.fz) := by
  obtain ⟨F, f⟩ := en.fp
  have hl : i < σ.length := by rw [en.len]; exact (List.getElem?_eq_some_iff.mp h).1
  have hs := f.sl i _ _ (List.getElem?_eq_getElem hl) h
  have one : ∀ {p : Addr} {o : HO}, H p = some o → I p = none → H0 p = none → F i p → ∀ a u, upd I p o a = some u → I a = some u ∨ (I a = none ∧ H a = some u ∧ H0 a = none ∧ F i a) := fun {p o} hp hi h0 hf a u q => by
    by_cases z : a = p
    · subst z
      rw [upd_same] at q
      cases q
      exact .inr ⟨hi, hp, h0, hf⟩
    · rw [upd_ne z] at q
      exact .inl q
  have sm : ∀ {p : Addr} {o : HO}, I p = none → Same I (upd I p o) := fun hi a u q => by rw [upd_ne (ne_of_none q hi)]; exact q
  cases d with
  | no => cases ho
  | im d => cases ho
  | own xs =>
    obtain ⟨p, vs, e1, e2, e3, e4, e5, e6⟩ := hs
    obtain ⟨p1, p2⟩ := en.growTo (J := upd I p (.lst vs)) (c := .lst xs) f (by rw [List.getElem?_eq_getElem hl, e1]) (sm e4) (one e2 e4 e5 e6) (fun a u hi e => by
      by_cases z : a = p
      · rw [z, upd_same] at e
        cases e
        exact fun _ z => nomatch z
      · rw [upd_ne z, hi] at e
        cases e) (Rep.lst upd_same (e3.mono (sm e4)))
    refine ⟨_, ⟨p1, fun a u q => (one e2 e4 e5 e6 a u q).imp id fun z => ⟨z.1, z.2.1⟩, fun _ a kvs hi q => ?_⟩, p2⟩
    by_cases z : a = p
    · rw [z, upd_same] at q
      cases q
    · rw [upd_ne z, hi] at q
      cases q
  | ownD xs =>
    obtain ⟨p, vs, e1, e2, e3, e4, e5, e6⟩ := hs
    obtain ⟨p1, p2⟩ := en.growTo (J := upd I p (.dK (kvK vs))) (c := .dic xs) f (by rw [List.getElem?_eq_getElem hl, e1]) (sm e4) (one e2 e4 e5 e6) (fun a u hi e => by
      by_cases z : a = p
      · rw [z, upd_same] at e
        cases e
        exact fun _ z => nomatch z
      · rw [upd_ne z, hi] at e
        cases e) (Rep.dic upd_same (e3.mono (sm e4)))
    exact ⟨_, ⟨p1, fun a u q => (one e2 e4 e5 e6 a u q).imp id fun z => ⟨z.1, z.2.1⟩, fun z => nomatch z⟩, p2⟩
  | ot q t =>
    obtain ⟨v, A, e1, r, hA, _⟩ := hs
    have ti : ∀ a u, tellA I H A a = some u → I a = some u ∨ (I a = none ∧ H a = some u ∧ H0 a = none ∧ F i a) := fun a u q => (tell_of q).imp id fun z => ⟨(r.there a z.1).1, z.2, hA a z.1⟩
    have ts : Same I (tellA I H A) := tell_same fun a ha => (r.there a ha).1
    obtain ⟨p1, p2⟩ := en.growTo (J := tellA I H A) (c := t.fz) f (by rw [List.getElem?_eq_getElem hl, e1]) ts ti (fun a u hi e => by
      rcases tell_of e with z | z
      · rw [hi] at z; cases z
      · obtain ⟨_, w, y, y1, _⟩ := r.there a z.1
        rw [z.2] at y
        cases y
        exact y1) (r.told ts fun a ha => tell_at ha)
    exact ⟨_, ⟨p1, fun a u q => (ti a u q).imp id fun z => ⟨z.1, z.2.1⟩, fun hn a kvs hi e => by
      rcases tell_of e with z | z
      · rw [hi] at z
        cases z
      · exact r.noD hn a z.1 kvs z.2⟩, p2⟩
theorem nodict_own : ∀ {d : DS}, d.nodict = true → d.isOwn = true
  | .own _, _ => rfl
  | .ot _ _, _ => rfl
theorem ds_freeze (i : Nat) {st : Stmt} {d : DS} (h : ds[i]? = some d) (ho : d.isOwn = true) (hs : DSt X T W U st (ds.set i d.fz) E) : DSt X T W U st ds E :=
  PS.weak hs fun D σ H ⟨I0, H0, I, e, k1, k2, k3, k4, k5⟩ => by
    obtain ⟨I', p, e'⟩ := e.freezeAt h ho
    exact sV_from (ds := ds) (σ := σ) p.pres e' k1 k2 k3 k4 k5
theorem dss_freeze (i : Nat) {st : List Stmt} {d : DS} (h : ds[i]? = some d) (ho : d.isOwn = true) (hs : DSs X T W U st (ds.set i d.fz) E) : DSs X T W U st ds E :=
  PSs.weak hs fun D σ H ⟨I0, H0, I, e, k1, k2, k3, k4, k5⟩ => by
    obtain ⟨I', p, e'⟩ := e.freezeAt h ho
    exact sV_from (ds := ds) (σ := σ) p.pres e' k1 k2 k3 k4 k5
/-- a slot forgotten -/
theorem EnvR.forget {G : Glb} {I0 H0 I H : Hp} {σ : L2.St} (en : EnvR G U I0 H0 I H σ ds) (i : Nat) : EnvR G U I0 H0 I H σ (ds.set i .no) := by
  by_cases hl : i < ds.length
  · have z := en.setNo (σ[i]'(by rw [en.len]; exact hl)) i
    rwa [List.set_getElem_self] at z
  · rw [List.set_eq_of_length_le (by omega)]
    exact en
/-! ### what is read while it is one's own -/
/-- scalars: they name no object -/
def flat : DS → Bool
  | .im (.non) => true
  | .im (.bl _) => true
  | .im (.int _) => true
  | .im (.str _) => true
  | _ => false
theorem flat_rep {G : Glb} {Hb I I' H : Hp} {v : V} : ∀ {d : DS}, flat d = true → ValR G Hb I H v d → ValR G Hb I' H v d
  | .im .non, _, r => by cases r; exact Rep.non
  | .im (.bl _), _, r => by cases r; exact Rep.bl _
  | .im (.int _), _, r => by cases r; exact Rep.int _
  | .im (.str _), _, r => by cases r; exact Rep.str _
theorem View.back {G : Glb} {I H I1 I' H' : Hp} (p : View true I H I1) (r : RdS I H) (s : Step G I1 H I' H') : Step G I H I H' := by
  refine ⟨Same.refl I, fun a u q => s.sub a u (s.isub a u (p.pres.same a u q)), fun a o h n c => s.keep a o h n (c.elim (fun hi => ?_) .inr), s.keepN, fun _ _ q _ _ _ => q, s.tabs⟩
  cases e : I1 a with
  | none => exact .inl rfl
  | some u =>
    rcases p.of a u e with z | z
    · rw [hi] at z; cases z
    · rw [h] at z
      cases z.2
      exact .inr fun kvs q => p.nd rfl a kvs hi (by rw [e, q])
theorem de_view (i : Nat) {e : Expr} {d : DS} (h : ds[i]? = some d) (ho : d.nodict = true) (hf : flat s = true) (he : DV X T U e (ds.set i d.fz) s) : DV X T U e ds s :=
  PE.weak he fun σ H Q ⟨I0, H0, I, en, k⟩ => by
    obtain ⟨I', p, e'⟩ := en.freezeAt h (nodict_own ho)
    rw [ho] at p
    exact ⟨I0, H0, I', e', fun v I2 H2 s2 r2 => k v I H2 (p.back en.sub s2) (flat_rep hf r2)⟩
theorem dt_view (i : Nat) {e : Expr} {d : DS} {b : Bool} (h : ds[i]? = some d) (ho : d.nodict = true) (he : DT X T U e (ds.set i d.fz) b) : DT X T U e ds b :=
  PT.weak he fun σ H Q ⟨I0, H0, I, en, k⟩ => by
    obtain ⟨I', p, e'⟩ := en.freezeAt h (nodict_own ho)
    rw [ho] at p
    exact ⟨I0, H0, I', e', fun I2 H2 s2 => k I H2 (p.back en.sub s2)⟩
/-- a new list of scalars -/
def flatD : D → Bool
  | .non => true
  | .bl _ => true
  | .int _ => true
  | .str _ => true
  | _ => false
theorem flatD_reps {G : Glb} {I I' : Hp} : ∀ {vs : List V} {xs : List D}, xs.all flatD = true → Reps G I vs xs → Reps G I' vs xs
  | _, _, _, .nil => .nil
  | _, _ :: _, h, .cons a b => by
    rw [List.all_cons, Bool.and_eq_true] at h
    refine .cons ?_ (flatD_reps h.2 b)
    have h1 := h.1
    cases a with
    | non => exact .non
    | bl b => exact .bl b
    | int b => exact .int b
    | str b => exact .str b
    | ty _ => cases h1
    | lst _ _ => cases h1
    | tup _ _ => cases h1
    | dic _ _ => cases h1
    | ins _ _ => cases h1
    | fn _ _ _ => cases h1
    | clo _ _ => cases h1
    | any _ => cases h1
    | cloE _ _ => cases h1
theorem dv_viewL (i : Nat) {e : Expr} {d : DS} {xs : List D} (h : ds[i]? = some d) (ho : d.nodict = true) (hf : xs.all flatD = true) (he : DV X T U e (ds.set i d.fz) (.own xs)) : DV X T U e ds (.own xs) :=
  PE.weak he fun σ H Q ⟨I0, H0, I, en, k⟩ => by
    obtain ⟨I', p, e'⟩ := en.freezeAt h (nodict_own ho)
    rw [ho] at p
    refine ⟨I0, H0, I', e', fun v I2 H2 s2 r2 => k v I H2 (p.back en.sub s2) ?_⟩
    obtain ⟨q, vs, e1, e2, e3, e4, e5⟩ := r2
    exact ⟨q, vs, e1, e2, en.sub.free e2, e4, flatD_reps hf e5⟩
/-! ### lists and dicts of one's own, changed -/
theorem tyL {K : PySem.W.Frag} {H : Hp} {p : Addr} {xs : List V} (h : H p = some (.lst xs)) : tyV K "list" (.ref p) H := .inl ⟨rfl, _, SqL.of h⟩
theorem ownNt {xs : List V} : ∀ u, some (HO.lst xs) = some u → (∀ ps, u ≠ HO.tbl ps) ∧ ∀ φ, u ≠ HO.ext φ := fun u e => by
  cases e
  exact ⟨fun _ z => (nomatch z), fun _ z => (nomatch z)⟩
theorem ownNd {xs : List (Key × V)} : ∀ u, some (HO.dK xs) = some u → (∀ ps, u ≠ HO.tbl ps) ∧ ∀ φ, u ≠ HO.ext φ := fun u e => by
  cases e
  exact ⟨fun _ z => (nomatch z), fun _ z => (nomatch z)⟩
section
variable {e : Expr} {pos : Pos} {d : D} {xs : List D}
theorem EnvR.putL {G : Glb} {I0 H0 I H : Hp} {σ : L2.St} (en : EnvR G U I0 H0 I H σ ds) {i : Nat} {p : Addr} {vs ws : List V} {ys : List D} (h : ds[i]? = some (.own xs)) (e1 : σ[i]? = some (some (.ref p))) (e2 : H p = some (.lst vs)) (e4 : I p = none) (e5 : H0 p = none) (r : Reps G I ws ys) :
    EnvR G U I0 H0 I (upd H p (.lst ws)) σ (ds.set i (.own ys)) ∧ Pres I H I (upd H p (.lst ws)) :=
  ⟨en.mutOwn e1 (.inl ⟨_, h⟩) e4 e5 (by rw [e2]; exact ownNt) ⟨p, ws, rfl, upd_same, r, e4, e5, rfl⟩, Pres.own e4 e2 fun _ _ z => nomatch z⟩
theorem ds_append (i : Nat) {x : Str} {p apos cpos : Pos} (h : ds[i]? = some (.own xs)) (he : DE X T U e ds d) (hl : xs.length < 100000) (k : E.nx (ds.set i (.own (xs ++ [d])))) (hN : X.N[i]? = some x := by rfl) (hv : Vis X.env.scope x := by first | exact Or.inl rfl | exact Or.inr (Or.inl rfl) | exact Or.inr (Or.inr rfl))
    (hd : (x == ("__debug__" : Str)) = false := by decide) (hcd : (x == ("__classdict__" : Str)) = false := by decide) (hb : attributeBase (.Name x p) "append" X.env (eval (.Name x p) X.env) = eval (.Name x p) X.env := by rfl) (ha : ((((backTo cpos (starEach [e] X.env)).all fun x => !x.fst) && (backToKw cpos (keywordEach [] X.env)).all fun x => x.fst.isSome) && decide (([e].length + ([] : List Keyword).length + if ([] : List Keyword).isEmpty = true then 0 else 1) < 30)) = true := by rfl)
    (hln : (apos.endLine == cpos.line) = true := by rfl) (hse : starEach [e] X.env = (false, eval e X.env) :: starEach [] X.env := by rfl) (hsw : swapsWith (.Call (.Attribute (.Name x p) "append" apos) [e] [] cpos) none pos.line X.env = pure false := by rfl) :
    DSt X T W U (.Expr (.Call (.Attribute (.Name x p) "append" apos) [e] [] cpos) pos) ds E :=
  (ps_expr (pe_bm PySem.F.plainAttrs_list PySem.F.slot_list_append PySem.F.type_list_append mt_append (pe_var hN hv hd hcd) (pa_cons he pa_nil hse) hb ha hln hse) hsw).weak fun D σ H ⟨I0, H0, I, en, k1, _⟩ => by
    obtain ⟨q, vs, e1, e2, e3, e4, e5⟩ := en.own h
    refine ⟨_, e1, tyL e2, I0, H0, I, en, fun v I1 H1 s1 r1 => ?_⟩
    have a1 := s1.keep q _ e2 (fun _ z => nomatch z) (.inl e4)
    have a2 := s1.fresh q _ e4 e2 (fun _ q => nomatch q) (fun _ q => nomatch q)
    refine ⟨q, vs, v, rfl, rfl, a1, by rw [e3.len]; exact Nat.lt_of_lt_of_le hl (by decide), ?_⟩
    obtain ⟨b1, b2⟩ := (en.step s1).putL h e1 a1 a2 e5 ((e3.mono s1.isub).app (.cons r1 .nil))
    exact k1 _ _ ⟨_, I1, b1, s1.pres.trans b2, k⟩
theorem ds_insert (i : Nat) {e' : Expr} {x : Str} {p apos cpos : Pos} {j : Int} (h : ds[i]? = some (.own xs)) (hj : DE X T U e' ds (.int j)) (he : DE X T U e ds d) (hl : xs.length < 100000) (hj0 : 0 ≤ j) (hj1 : j ≤ 100000) (k : E.nx (ds.set i (.own (xs.take j.toNat ++ [d] ++ xs.drop j.toNat)))) (hN : X.N[i]? = some x := by rfl)
    (hv : Vis X.env.scope x := by first | exact Or.inl rfl | exact Or.inr (Or.inl rfl) | exact Or.inr (Or.inr rfl)) (hd : (x == ("__debug__" : Str)) = false := by decide) (hcd : (x == ("__classdict__" : Str)) = false := by decide) (hb : attributeBase (.Name x p) "insert" X.env (eval (.Name x p) X.env) = eval (.Name x p) X.env := by rfl)
    (ha : ((((backTo cpos (starEach [e', e] X.env)).all fun x => !x.fst) && (backToKw cpos (keywordEach [] X.env)).all fun x => x.fst.isSome) && decide (([e', e].length + ([] : List Keyword).length + if ([] : List Keyword).isEmpty = true then 0 else 1) < 30)) = true := by rfl)
    (hln : (apos.endLine == cpos.line) = true := by rfl) (hse : starEach [e', e] X.env = (false, eval e' X.env) :: starEach [e] X.env := by rfl) (hse2 : starEach [e] X.env = (false, eval e X.env) :: starEach [] X.env := by rfl) (hpl : (backTo cpos (starEach [e] X.env)).any (·.1) = false := by rfl)
    (hsw : swapsWith (.Call (.Attribute (.Name x p) "insert" apos) [e', e] [] cpos) none pos.line X.env = pure false := by rfl) :
    DSt X T W U (.Expr (.Call (.Attribute (.Name x p) "insert" apos) [e', e] [] cpos) pos) ds E :=
  (ps_expr (pe_bm PySem.F.plainAttrs_list PySem.F.slot_list_insert PySem.F.type_list_insert mt_insert (pe_var hN hv hd hcd) (pa_cons hj (pa_cons he pa_nil hse2) hse) hb ha hln hse hpl) hsw).weak fun D σ H ⟨I0, H0, I, en, k1, _⟩ => by
    obtain ⟨q, vs, e1, e2, e3, e4, e5⟩ := en.own h
    refine ⟨_, e1, tyL e2, I0, H0, I, en, fun v I1 H1 s1 r1 => ⟨I0, H0, I1, en.step s1, fun w I2 H2 s2 r2 => ?_⟩⟩
    cases r1
    have s3 := s1.trans s2
    have a1 := s3.keep q _ e2 (fun _ z => nomatch z) (.inl e4)
    have a2 := s3.fresh q _ e4 e2 (fun _ q => nomatch q) (fun _ q => nomatch q)
    refine ⟨q, vs, j, w, rfl, rfl, a1, by rw [e3.len]; exact Nat.lt_of_lt_of_le hl (by decide), hj0, by omega, ?_⟩
    have e3' := e3.mono s3.isub
    obtain ⟨b1, b2⟩ := (en.step s3).putL h e1 a1 a2 e5 (((e3'.take j.toNat).app (.cons r2 .nil)).app (e3'.drop j.toNat))
    exact k1 _ _ ⟨_, I2, b1, s3.pres.trans b2, k⟩
/-- x[k] = e, x a list of one's own -/
theorem ds_setL (i : Nat) {eo ei : Expr} {p : Pos} {j : Int} {n : Nat} (h : ds[i]? = some (.own xs)) (hg : PG X (.Subscript eo ei p) (gSub (tVar i) (eV (gx X T) U ds (.im (.int j))) rSetL)) (he : DE X T U e ds d) (hj : ixN xs.length j = some n) (k : E.nx (ds.set i (.own (xs.set n d))))
    (hs : swapsWithSole [.Subscript eo ei p] e pos.line X.env = pure false := by rfl) (hw : swappedStores [.Subscript eo ei p] e X.env = pure none := by rfl) : DSt X T W U (.Assign [.Subscript eo ei p] e pos) ds E :=
  (ps_asg he hg hs hw).weak fun D σ H ⟨I0, H0, I, en, k1, _⟩ => by
    refine ⟨I0, H0, I, en, fun v I1 H1 s1 r1 => ?_⟩
    have en1 := en.step s1
    obtain ⟨q, vs, e1, e2, e3, e4, e5⟩ := en1.own h
    refine ⟨_, e1, I0, H0, I1, en1, fun w I2 H2 s2 r2 => ?_⟩
    cases r2
    have a1 := s2.keep q _ e2 (fun _ z => nomatch z) (.inl e4)
    have a2 := s2.fresh q _ e4 e2 (fun _ q => nomatch q) (fun _ q => nomatch q)
    refine ⟨q, vs, j, n, rfl, rfl, a1, by rw [e3.len]; exact hj, ?_⟩
    obtain ⟨b1, b2⟩ := (en1.step s2).putL h e1 a1 a2 e5 ((e3.mono s2.isub).set (Rep.mono s2.isub r1) n)
    exact k1 _ _ ⟨_, I2, b1, (s1.trans s2).pres.trans b2, k⟩
/-- x += e, ints -/
theorem ds_augI (i : Nat) {x : Str} {pos' : Pos} {a b : Int} (h : ds[i]? = some (.im (.int a))) (he : DE X T U e ds (.int b)) (k : E.nx (ds.set i (.im (.int (a + b))))) (hN : X.N.Nodup) (hi : X.N[i]? = some x := by rfl) (hx : Loc X.env.scope x := by first | exact Or.inl rfl | exact Or.inr rfl)
    (hf : X.fn x = true ∨ X.env.scope.names.lookup x = some .local := by first | exact .inl rfl | exact .inr rfl | assumption) : DSt X T W U (.AugAssign (.Name x pos') .Add e pos) ds E :=
  (ps_aug hN hi hx he ip_add hf).weak fun D σ H ⟨I0, H0, I, en, k1, _⟩ => by
    obtain ⟨v, e1, r⟩ := en.im h
    cases r
    refine ⟨_, e1, I0, H0, I, en, fun w I1 H1 s1 r1 => ?_⟩
    cases r1
    exact ⟨a, b, rfl, rfl, k1 _ H1 ⟨_, I1, (en.step s1).setIm i (.int _), s1.pres, k⟩⟩
end
/-! ### targets -/
theorem dg_name (i : Nat) {x : Str} {pos : Pos} {d : D} (hN : X.N.Nodup) (hi : X.N[i]? = some x := by rfl) (hx : Loc X.env.scope x := by first | exact Or.inl rfl | exact Or.inr rfl) (hf : X.fn x = true ∨ X.env.scope.names.lookup x = some .local := by first | exact .inl rfl | exact .inr rfl | assumption) :
    DG X T U (.Name x pos) ds d (ds.set i (.im d)) [i] := by
  have h := pg_name (pos := pos) hN hi hx hf
  exact ⟨fun pins s σ H v u Q I r ⟨I0, H0, I1, en, rp, k⟩ => h.run pins s σ H v u Q I r (k _ (en.setIm i rp) ⟨List.length_set, fun j hj => List.getElem?_set_ne fun z => hj (by rw [z]; exact List.mem_singleton_self _)⟩)⟩
end
end
end Lp

/-! The judgements over data: loops, walked things, defs and their calls. -/
namespace Lp
open PySem PySem.Spec PyProof.Rows L2
section
variable {X : Cx} {T : List NdefX.NTab} {W : WX} {U : Bool} {ds : List DS} {s : DS} {E : DEn}
/-! ### tuples as targets -/
theorem dgs_nil : DGs X T U [] ds [] ds [] := by
  have h : PGs X [] gNil := pgs_nil
  exact ⟨fun pins s σ H vs us Q I r ⟨I0, H0, I1, en, rp, k⟩ => h.run pins s σ H vs us Q I r ⟨by cases rp; rfl, k σ en ⟨rfl, fun _ _ => rfl⟩⟩⟩
theorem dgs_cons {e : Expr} {es : List Expr} {d : D} {xs : List D} {ds1 ds2 : List DS} {js js' : List Nat} (h1 : DG X T U e ds d ds1 js) (h2 : DGs X T U es ds1 xs ds2 js')
    (hs : (assignEach (e :: es) X.env).map (·.2) = assign e X.env :: (assignEach es X.env).map (·.2) := by rfl) : DGs X T U (e :: es) ds (d :: xs) ds2 (js ++ js') :=
  ⟨fun pins s σ H vs us Q I r ⟨I0, H0, I1, en, rp, k⟩ => (pgs_cons h1 h2 hs).run pins s σ H vs us Q I r (by
    cases rp with
    | cons a b => exact ⟨_, _, rfl, I0, H0, I1, en, a, fun σ' en' b1 => ⟨I0, H0, I1, en', b, fun σ2 e2 b2 => k σ2 e2 ⟨b2.1.trans b1.1, fun i hi => (b2.2 i fun z => hi (List.mem_append_right _ z)).trans (b1.2 i fun z => hi (List.mem_append_left _ z))⟩⟩⟩)⟩
theorem dg_tup {es : List Expr} {n : Nat} {pos : Pos} {xs : List D} {ds' : List DS} {js : List Nat} (h : DGs X T U es ds xs ds' js) (hc : X.calm = true := by rfl) (hn : (assignEach es X.env).length = xs.length := by rfl) (hst : (assignEach es X.env).findIdx? (·.1) = none := by rfl) : DG X T U (.Tuple es n pos) ds (.tup xs) ds' js :=
  ⟨fun pins s σ H v u Q I r ⟨I0, H0, I1, en, rp, k⟩ => (pg_tup hc h hn hst).run pins s σ H v u Q I r (by
    cases rp with
    | tup a b => exact ⟨_, _, rfl, SqT.of (en.sub.tup a), b.len, I0, H0, I1, en, b, k⟩)⟩
/-! ### walked things -/
theorem goes_list {G : Glb} {p : Addr} {vs : List V} {xs : List D} {I H : Hp} (hp : I p = some (.lst vs)) (r : Reps G I vs xs) : Goes G (Itl G.K p) I H xs := fun I1 H1 ps rd i => by
  have h1 : SqL G.K H1 p vs := SqL.of (rd.lst (ps.same _ _ hp))
  refine ⟨fun hi => ⟨vs, h1, by rw [r.len]; exact hi⟩, fun d hd => ?_⟩
  obtain ⟨v, hv, rv⟩ := r.get' hd
  refine ⟨⟨vs, v, h1, hv⟩, fun x H2 ⟨e, f⟩ => ?_⟩
  subst e
  have e2 := f vs h1
  rw [hv] at e2
  cases e2
  exact ⟨I1, Step.refl rd, rv.mono ps.same⟩
theorem di_list {tg iter : Expr} {xs : List D} (h : DE X T U iter ds (.lst xs)) : DI X T U tg iter ds xs := by
  have q := pi_list (tg := tg) h
  refine ⟨fun pins s σ H R I ⟨I0, H0, I1, en, k⟩ => q.run pins s σ H R I ⟨I0, H0, I1, en, fun v I2 H2 s2 r2 => ?_⟩⟩
  cases r2 with
  | lst a b => exact ⟨_, rfl, ⟨_, SqL.of (s2.sub.lst a)⟩, k _ I2 H2 s2 (goes_list a b)⟩
theorem goes_tup {G : Glb} {p : Addr} {vs : List V} {xs : List D} {I H : Hp} (hp : I p = some (.tup vs)) (r : Reps G I vs xs) : Goes G (Itt G.K p) I H xs := fun I1 H1 ps rd i => by
  have h1 : SqT G.K H1 p vs := SqT.of (rd.tup (ps.same _ _ hp))
  refine ⟨fun hi => ⟨vs, h1, by rw [r.len]; exact hi⟩, fun d hd => ?_⟩
  obtain ⟨v, hv, rv⟩ := r.get' hd
  refine ⟨⟨vs, v, h1, hv⟩, fun x H2 ⟨e, f⟩ => ?_⟩
  subst e
  have e2 := f vs h1
  rw [hv] at e2
  cases e2
  exact ⟨I1, Step.refl rd, rv.mono ps.same⟩
theorem di_tup {tg iter : Expr} {xs : List D} (h : DE X T U iter ds (.tup xs)) : DI X T U tg iter ds xs := by
  have q := pi_tup (tg := tg) h
  refine ⟨fun pins s σ H R I ⟨I0, H0, I1, en, k⟩ => q.run pins s σ H R I ⟨I0, H0, I1, en, fun v I2 H2 s2 r2 => ?_⟩⟩
  cases r2 with
  | tup a b => exact ⟨_, rfl, ⟨_, SqT.of (s2.sub.tup a)⟩, k _ I2 H2 s2 (goes_tup a b)⟩
abbrev rngD (lo : Int) (n : Nat) : List D := (List.range n).map fun i : Nat => D.int (lo + (i : Int))
theorem rng_get {n i a : Nat} (h : (List.range n)[i]? = some a) : i < n ∧ a = i := by
  obtain ⟨h1, h2⟩ := List.getElem?_eq_some_iff.mp h
  rw [List.length_range] at h1
  rw [List.getElem_range] at h2
  exact ⟨h1, h2.symm⟩
theorem rngD_len (lo : Int) (n : Nat) : (rngD lo n).length = n := by rw [List.length_map, List.length_range]
theorem rngD_get {lo : Int} {n i : Nat} {d : D} (h : (rngD lo n)[i]? = some d) : i < n ∧ d = .int (lo + (i : Int)) := by
  rw [List.getElem?_map] at h
  cases e : (List.range n)[i]? with
  | none => rw [e] at h; cases h
  | some j =>
    obtain ⟨h1, h2⟩ := List.getElem?_eq_some_iff.mp e
    rw [e] at h
    rw [List.length_range] at h1
    rw [List.getElem_range] at h2
    subst h2
    exact ⟨h1, (Option.some.inj h).symm⟩
theorem goes_rng {G : Glb} {lo : Int} {n : Nat} {I H : Hp} : Goes G (Itr lo n) I H (rngD lo n) := fun I1 H1 ps rd i => by
  refine ⟨fun hi => by rw [rngD_len] at hi; exact hi, fun d hd => ?_⟩
  obtain ⟨h1, rfl⟩ := rngD_get hd
  refine ⟨h1, fun x H2 ⟨e, f⟩ => ?_⟩
  subst e f
  exact ⟨I1, Step.refl rd, .int _⟩
theorem di_rng1 {tg a : Expr} {p pos : Pos} {n : Int} (h : DE X T U a ds (.int n)) (hg : Gl X "range") (hm : X.mg "range" = none) (hn : -100000 ≤ n) (hn2 : n ≤ 100000) (he : starEach [a] X.env = [(false, eval a X.env)] := by rfl) : DI X T U tg (.Call (.Name "range" p) [a] [] pos) ds (rngD 0 n.toNat) := by
  have q := pi_range1 (tg := tg) (p := p) (pos := pos) hg hm (da_cons h da_nil he) he
  refine ⟨fun pins s σ H R I ⟨I0, H0, I1, en, k⟩ => q.run pins s σ H R I ⟨I0, H0, I1, en, fun vs I2 H2 s2 r2 => ?_⟩⟩
  cases r2 with
  | cons a b =>
    cases a
    cases b
    exact ⟨n, rfl, by omega, by omega, k _ I2 H2 s2 goes_rng⟩
theorem di_rng2 {tg a b : Expr} {p pos : Pos} {m n : Int} (h : DE X T U a ds (.int m)) (h2 : DE X T U b ds (.int n)) (hg : Gl X "range") (hm : X.mg "range" = none) (hm1 : -100000 ≤ m) (hm2 : m ≤ 100000) (hn : -100000 ≤ n) (hn2 : n ≤ 100000)
    (he : starEach [a, b] X.env = [(false, eval a X.env), (false, eval b X.env)] := by rfl) (he2 : starEach [b] X.env = [(false, eval b X.env)] := by rfl) : DI X T U tg (.Call (.Name "range" p) [a, b] [] pos) ds (rngD m (n - m).toNat) := by
  have q := pi_range2 (tg := tg) (p := p) (pos := pos) hg hm (da_cons h (da_cons h2 da_nil he2) (by rw [he, he2])) he he2
  refine ⟨fun pins s σ H R I ⟨I0, H0, I1, en, k⟩ => q.run pins s σ H R I ⟨I0, H0, I1, en, fun vs I2 H2 s2 r2 => ?_⟩⟩
  cases r2 with
  | cons a b =>
    cases a
    cases b with
    | cons a b =>
      cases a
      cases b
      exact ⟨m, n, rfl, by omega, k _ I2 H2 s2 goes_rng⟩
def enumD (xs : List D) : List D := (List.range xs.length).map fun i : Nat => D.tup [.int (i : Int), xs.getD i .non]
theorem enumD_len (xs : List D) : (enumD xs).length = xs.length := by unfold enumD; rw [List.length_map, List.length_range]
theorem enumD_get {xs : List D} {i : Nat} {d : D} (h : (enumD xs)[i]? = some d) : ∃ x, xs[i]? = some x ∧ d = .tup [.int (i : Int), x] := by
  unfold enumD at h
  rw [List.getElem?_map] at h
  cases e : (List.range xs.length)[i]? with
  | none => rw [e] at h; cases h
  | some j =>
    obtain ⟨h1, h2⟩ := List.getElem?_eq_some_iff.mp e
    rw [e] at h
    rw [List.length_range] at h1
    rw [List.getElem_range] at h2
    subst h2
    refine ⟨xs[i], List.getElem?_eq_getElem h1, ?_⟩
    rw [← Option.some.inj h]
    show D.tup [.int (i : Int), xs.getD i .non] = _
    rw [List.getD_eq_getElem?_getD, List.getElem?_eq_getElem h1]
    rfl
theorem goes_enum {G : Glb} {p : Addr} {vs : List V} {xs : List D} {I H : Hp} (hp : I p = some (.lst vs)) (r : Reps G I vs xs) : Goes G (Ite G.K p) I H (enumD xs) := fun I1 H1 ps rd i => by
  have h1 : SqL G.K H1 p vs := SqL.of (rd.lst (ps.same _ _ hp))
  refine ⟨fun hi => ⟨vs, h1, by rw [r.len]; rw [enumD_len] at hi; exact hi⟩, fun d hd => ?_⟩
  obtain ⟨z, hz, rfl⟩ := enumD_get hd
  obtain ⟨v, hv, rv⟩ := r.get' hz
  refine ⟨⟨vs, v, h1, hv⟩, fun x H2 ⟨t, y, e1, e2, e3, f⟩ => ?_⟩
  have ey := f vs h1
  rw [hv] at ey
  cases ey
  subst e1 e3
  refine ⟨_, Step.new rd e2, Rep.tup upd_same (.cons (.int _) (.cons ?_ .nil))⟩
  exact (rv.mono ps.same).mono (Step.new (G := G) rd e2).isub
theorem di_enum {iter : Expr} {p pos tpos : Pos} {elts : List Expr} {kk : Nat} {xs : List D} (h : DE X T U iter ds (.lst xs)) (hg : Gl X "enumerate") (hm : X.mg "enumerate" = none) (he : starEach [iter] X.env = [(false, eval iter X.env)] := by rfl) :
    DI X T U (.Tuple elts kk tpos) (.Call (.Name "enumerate" p) [iter] [] pos) ds (enumD xs) := by
  have q := pi_enum (elts := elts) (kk := kk) (tpos := tpos) (p := p) (pos := pos) hg hm (da_cons h da_nil he) he
  refine ⟨fun pins s σ H R I ⟨I0, H0, I1, en, k⟩ => q.run pins s σ H R I ⟨I0, H0, I1, en, fun vs I2 H2 s2 r2 => ?_⟩⟩
  cases r2 with
  | cons a b =>
    cases b
    cases a with
    | lst a b => exact ⟨_, _, rfl, SqL.of (s2.sub.lst a), k _ I2 H2 s2 (goes_enum a b)⟩
/-! ### loops -/
/-- Pv i: what holds ahead of the turn i; g: what the target makes of the slots -/
theorem ds_for {α : Type} {tg iter : Expr} {body : List Stmt} {pos : Pos} {xs : List α} {e : α → D} (Pv : Nat → List DS → Prop) (g : α → List DS → List DS) (hi : DI X T U tg iter ds (xs.map e)) {js : List Nat} (hg : ∀ d ∈ xs, ∀ ds1, DG X T U tg ds1 (e d) (g d ds1) js) (h0 : Pv 0 ds)
    (hb : ∀ (i : Nat) (d : α) (ds1 : List DS), xs[i]? = some d → Pv i ds1 → DSs X T W U body (g d ds1) { E with nx := Pv (i + 1), ct := Pv (i + 1), bk := E.nx }) (hd : ∀ ds1, Pv xs.length ds1 → E.nx ds1)
    (hp : PassesOwn (model X.prog X.w) X.A X.env X.xe) (hc : X.calm = true := by rfl) (hs : ∀ x, foldedSetIterable iter X.env x = pure x := by intro _; rfl) : DSt X T W U (.For tg iter body [] pos) ds E := by
  have hG : PG X tg (fun v σ H Q => ∃ d ds1, d ∈ xs ∧ gV (gx X T) U ds1 (e d) (g d ds1) js v σ H Q) := ⟨fun pins s σ H v u Q I r ⟨d, ds1, m, q⟩ => (hg d m ds1).run pins s σ H v u Q I r q⟩
  have hB : PSs X body (fun D σ H => ∃ i d ds1, xs[i]? = some d ∧ Pv i ds1 ∧ sV (gx X T) W U (g d ds1) { E with nx := Pv (i + 1), ct := Pv (i + 1), bk := E.nx } D σ H) := ⟨fun pins s σ H D I ⟨i, d, ds1, h1, h2, q⟩ => (hb i d ds1 h1 h2).run pins s σ H D I q⟩
  refine (ps_for hp hc hi hG hB hs).weak fun D σ H ⟨I0, H0, I, en, k1, k2, k3, k4, k5⟩ => ⟨I0, H0, I, en, fun J I1 H1 s1 go => ?_⟩
  refine ⟨fun i m σ' H' => m = xs.length - i ∧ i ≤ xs.length ∧ ∃ ds1 I', EnvR (gx X T) U I0 H0 I' H' σ' ds1 ∧ Pres I1 H1 I' H' ∧ Pv i ds1, ⟨_, rfl, Nat.zero_le _, ds, I1, en.step s1, Pres.refl _ _, h0⟩, ?_⟩
  rintro i m σ' H' ⟨rfl, hi, ds1, I', en', ps, hv⟩
  obtain ⟨g1, g2⟩ := go I' H' ps en'.sub i
  by_cases hlt : i < xs.length
  · refine .inr ?_
    obtain ⟨a, b⟩ := g2 (e xs[i]) (by rw [List.getElem?_map, List.getElem?_eq_getElem hlt]; rfl)
    refine ⟨a, fun σ2 H2 => ∃ ds2 I2, EnvR (gx X T) U I0 H0 I2 H2 σ2 ds2 ∧ Pres I1 H1 I2 H2 ∧ Pv (i + 1) ds2, fun σ2 H2 ⟨ds2, I2, e2, p2, v2⟩ => ⟨xs.length - (i + 1), by omega, rfl, hlt, ds2, I2, e2, p2, v2⟩, fun x H2 y => ?_⟩
    obtain ⟨I2, s2, r2⟩ := b x H2 y
    refine ⟨xs[i], ds1, List.getElem_mem hlt, I0, H0, I2, en'.step s2, r2, fun σ3 e3 _ => ?_⟩
    have pp : Pres I1 H1 I2 H2 := ps.trans s2.pres
    refine ⟨i, xs[i], ds1, List.getElem?_eq_getElem hlt, hv, I0, H0, I2, e3, ?_, k2, ?_, ?_, fun C fs d s h n => k5 C fs d s h (n.pre (s1.pres.trans pp))⟩
    · rintro σ4 H4 ⟨ds4, I4, e4, p4, v4⟩
      exact ⟨ds4, I4, e4, pp.trans p4, v4⟩
    · rintro σ4 H4 ⟨ds4, I4, e4, p4, v4⟩
      exact k1 σ4 H4 ⟨ds4, I4, e4, (s1.pres.trans pp).trans p4, v4⟩
    · rintro σ4 H4 ⟨ds4, I4, e4, p4, v4⟩
      exact ⟨ds4, I4, e4, pp.trans p4, v4⟩
  · have e : i = xs.length := by omega
    subst e
    exact .inl ⟨g1 (by rw [List.length_map]; exact Nat.le_refl _), k1 σ' H' ⟨ds1, I', en', s1.pres.trans ps, hd ds1 hv⟩⟩
theorem ds_while {c : Expr} {body : List Stmt} {pos : Pos} (Pv : Nat → List DS → Prop) (m0 : Nat) (h0 : Pv m0 ds)
    (hb : ∀ m ds1, Pv m ds1 → ∃ b, DT X T U c ds1 b ∧ (b = true → DSs X T W U body ds1 { E with nx := fun ds2 => ∃ m', m' < m ∧ Pv m' ds2, ct := fun ds2 => ∃ m', m' < m ∧ Pv m' ds2, bk := E.nx }) ∧ (b = false → E.nx ds1))
    (hp : PassesOwn (model X.prog X.w) X.A X.env X.xe) : DSt X T W U (.While c body [] pos) ds E := by
  have hC : PT X c (fun σ H Q => ∃ b ds1, DT X T U c ds1 b ∧ tV (gx X T) U ds1 b σ H Q) := ⟨fun pins s σ H Q I ⟨b, ds1, h, q⟩ => h.run pins s σ H Q I q⟩
  have hB : PSs X body (fun D σ H => ∃ m ds1, DSs X T W U body ds1 { E with nx := fun ds2 => ∃ m', m' < m ∧ Pv m' ds2, ct := fun ds2 => ∃ m', m' < m ∧ Pv m' ds2, bk := E.nx } ∧ sV (gx X T) W U ds1 { E with nx := fun ds2 => ∃ m', m' < m ∧ Pv m' ds2, ct := fun ds2 => ∃ m', m' < m ∧ Pv m' ds2, bk := E.nx } D σ H) :=
    ⟨fun pins s σ H D I ⟨m, ds1, h1, q⟩ => h1.run pins s σ H D I q⟩
  refine (ps_while (pos := pos) hp hC hB).weak fun D σ H ⟨I0, H0, I, en, k1, k2, k3, k4, k5⟩ => ?_
  refine ⟨fun m σ' H' => ∃ ds1 I', EnvR (gx X T) U I0 H0 I' H' σ' ds1 ∧ Pres I H I' H' ∧ Pv m ds1, ⟨m0, ds, I, en, Pres.refl _ _, h0⟩, ?_⟩
  rintro m σ' H' ⟨ds1, I', en', ps, hv⟩
  obtain ⟨b, hc, ht, hf⟩ := hb m ds1 hv
  refine ⟨b, ds1, hc, I0, H0, I', en', fun I2 H2 s2 => ?_⟩
  cases b with
  | true =>
    rw [if_pos rfl]
    refine ⟨fun σ3 H3 => ∃ m', m' < m ∧ ∃ ds1 I', EnvR (gx X T) U I0 H0 I' H3 σ3 ds1 ∧ Pres I H I' H3 ∧ Pv m' ds1, fun σ3 H3 q => q, m, ds1, ht rfl, I0, H0, I2, en'.step s2, ?_, k2, ?_, ?_, fun C fs d s h n => k5 C fs d s h (n.pre (ps.trans s2.pres))⟩
    · rintro σ4 H4 ⟨ds4, I4, e4, p4, m', hm, v4⟩
      exact ⟨m', hm, ds4, I4, e4, (ps.trans s2.pres).trans p4, v4⟩
    · rintro σ4 H4 ⟨ds4, I4, e4, p4, v4⟩
      exact k1 σ4 H4 ⟨ds4, I4, e4, (ps.trans s2.pres).trans p4, v4⟩
    · rintro σ4 H4 ⟨ds4, I4, e4, p4, m', hm, v4⟩
      exact ⟨m', hm, ds4, I4, e4, (ps.trans s2.pres).trans p4, v4⟩
  | false =>
    rw [if_neg Bool.false_ne_true]
    exact k1 σ' H2 ⟨ds1, I2, en'.step s2, ps.trans s2.pres, hf rfl⟩
end
/-! ### defs and their calls -/
/-- the def called with data xs gives s, where A tells so; U: it wants every dict free -/
def spD (G : Glb) (U : Bool) (A : List D → DS → Prop) : Sp := fun vs H Q _ => ∃ I xs r, RdS I H ∧ NdefX.TabsN G.T H ∧ Reps G I vs xs ∧ A xs r ∧ ∀ v H', RetR G I H v H' r → Q v H'
def startD (n : Nat) (xs : List D) : List DS := xs.map DS.im ++ List.replicate (n - xs.length) DS.no
theorem env_start {G : Glb} {U : Bool} {I H : Hp} {N : List Str} {vs : List V} {xs : List D} (r : RdS I H) (tb : NdefX.TabsN G.T H) (rs : Reps G I vs xs) (hl : xs.length ≤ N.length) : EnvR G U I H I H (L2.start N vs) (startD N.length xs) := by
  have e := rs.len
  refine ⟨Step.refl r, tb, ?_, fun _ _ => False, fun i o s h1 h2 => ?_, fun _ _ _ h => h.elim, fun _ _ h => h.elim⟩
  · unfold L2.start startD
    rw [List.length_append, List.length_append, List.length_map, List.length_map, List.length_replicate, List.length_replicate, e]
  · unfold L2.start at h1
    unfold startD at h2
    by_cases hi : i < xs.length
    · rw [List.getElem?_append_left (by rw [List.length_map, e]; exact hi), List.getElem?_map] at h1
      rw [List.getElem?_append_left (by rw [List.length_map]; exact hi), List.getElem?_map] at h2
      obtain ⟨v, hv, rv⟩ := rs.get' (List.getElem?_eq_getElem hi)
      rw [hv] at h1
      rw [List.getElem?_eq_getElem hi] at h2
      cases h1
      cases h2
      exact ⟨v, rfl, rv⟩
    · rw [List.getElem?_append_right (by rw [List.length_map]; omega)] at h2
      have z := List.mem_of_getElem? h2
      rw [List.eq_of_mem_replicate z]
      trivial
theorem RetR.fz {G : Glb} {I0 H0 H' : Hp} {v : V} {s : DS} (h : RetR G I0 H0 v H' s) : RetR G I0 H0 v H' s.fz := by
  obtain ⟨I', st, r⟩ := h
  obtain ⟨I2, s2, r2⟩ := r.fz st
  exact ⟨I2, s2, r2⟩
abbrev W0 : WX := fun _ _ _ _ => False
/-- a def that lets no error out, by data -/
theorem okD {G : Glb} {U : Bool} {x qual : Str} {params : Arguments} {body : List Stmt} {scope : Scope} {f : Addr} {fd : FuncData} {N ps : List Str} {k : Nat} {A : List D → DS → Prop} (F : FunD G.K x qual params body scope [] [] f fd) (S : FnScope N ps scope)
    (hA : ∀ xs r, A xs r → xs.length = ps.length)
    (hb : ∀ (cdv : Value) (Ar : Around) (outer : List Env) (s : Shared) (H : Hp) (E : XK), Room k (Ar.deeper (envOfC qual scope s.heap.objs.size f cdv)) → ∀ xs r, A xs r →
      DSs (cxOf CX0 G.P G.w G.K G.mg G.base N qual scope f cdv Ar outer s H E).nox G.T W0 U body (startD N.length xs) { nx := fun _ => r = .im .non, rt := fun t => t = r ∨ t.fz = r }) :
    FnOk G.P G.w G.K G.mg G.base CX0 (k + 1) f fd ps (spD G U A) := by
  refine F.ok S (fun vs H Q E ⟨I, xs, r, _, _, rs, hAx, _⟩ => by rw [rs.len]; exact hA xs r hAx) (fun cdv Ar outer s H vs Q E hr ⟨I, xs, r, rd, tb, rs, hAx, k⟩ => ?_)
  have h := hb cdv Ar outer s H E hr xs r hAx
  have hl : xs.length ≤ N.length := by
    have e1 := S.pre
    have e2 := hA xs r hAx
    rw [e2, ← e1, List.length_take]
    exact Nat.min_le_right _ _
  refine ⟨_, PSs.nox h, I, H, I, env_start (G := G) rd tb rs hl, ?_, ?_, ?_, ?_, ?_⟩
  · rintro σ' H' ⟨ds', I', e', p', q⟩
    refine k .non H' ?_
    rw [q]
    exact ⟨I', e'.st, Rep.non⟩
  · rintro v H' t hr ht
    rcases ht with rfl | rfl
    · exact k v H' hr
    · exact k v H' hr.fz
  · rintro _ _ ⟨_, _, _, _, q⟩
    exact q
  · rintro _ _ ⟨_, _, _, _, q⟩
    exact q
  · rintro _ _ _ _ _ ⟨_, _, _, _, _, q⟩
    exact q
section
variable {X : Cx} {T : List NdefX.NTab} {W : WX} {U U' : Bool} {ds : List DS} {s : DS} {E : DEn}
/-- f(..) -/
theorem dv_call {A : List D → DS → Prop} {k : Nat} {f : Addr} {fd : FuncData} {ps : List Str} {x : Str} {p pos : Pos} {e : Expr} {es : List Expr} {xs : List D} (F : FnOk X.prog X.w X.K X.mg X.base CX0 k f fd ps (spD (gx X T) U' A)) (hU : U' = true → U = true) (hr : Room k X.A) (hg : Gl X x)
    (hm : X.mg x = some (.ref f)) (hk : PySem.W.keepIn X.K (.ref f) = true) (hb : L2.Binds X.K fd ps []) (ha : DA X T U (e :: es) ds xs) (hA : A xs s) (hdb : (x == ("__debug__" : Str)) = false := by decide) (he : starEach (e :: es) X.env = (false, eval e X.env) :: starEach es X.env := by rfl)
    (hpl : (backTo pos (starEach es X.env)).any (·.1) = false := by rfl) : DV X T U (.Call (.Name x p) (e :: es) [] pos) ds s :=
  (pe_call F hr hg hm hk hb .nil (E := E0) pass0 ha hdb he hpl).weak fun σ H Q ⟨I0, H0, I, en, k⟩ => ⟨I0, H0, I, en, fun vs I1 H1 s1 r1 => by
    show spD (gx X T) U' A (vs ++ []) H1 Q E0
    rw [List.append_nil]
    exact ⟨I1, xs, s, s1.sub, (en.step s1).tb, r1, hA, fun v H' ⟨I2, s2, r2⟩ => k v I2 H' (s1.trans s2) (r2.back s1)⟩⟩
theorem dv_call0 {A : List D → DS → Prop} {k : Nat} {f : Addr} {fd : FuncData} {ps : List Str} {x : Str} {p pos : Pos} (F : FnOk X.prog X.w X.K X.mg X.base CX0 k f fd ps (spD (gx X T) U' A)) (hU : U' = true → U = true) (hr : Room k X.A) (hg : Gl X x)
    (hm : X.mg x = some (.ref f)) (hk : PySem.W.keepIn X.K (.ref f) = true) (hb : L2.Binds X.K fd ps []) (hA : A [] s) (hdb : (x == ("__debug__" : Str)) = false := by decide) : DV X T U (.Call (.Name x p) [] [] pos) ds s :=
  (pe_call0 F hr hg hm hk hb .nil (E := E0) pass0 hdb).weak fun σ H Q ⟨I0, H0, I, en, k⟩ =>
    ⟨I, [], s, en.sub, en.tb, .nil, hA, fun v H' ⟨I2, s2, r2⟩ => k v I2 H' s2 r2⟩
end
end Lp

/-! The judgements over data: comprehensions. -/
namespace Lp
open PySem PySem.Spec PyProof.Rows L2
def wipeD (ds : List DS) : List Nat → List DS
  | [] => ds
  | v :: vs => (wipeD ds vs).set v .no
theorem env_wipe {G : Glb} {U : Bool} {I0 H0 I H : Hp} {σ : L2.St} {ds : List DS} (e : EnvR G U I0 H0 I H σ ds) : ∀ vs : List Nat, EnvR G U I0 H0 I H (wipe σ vs) (wipeD ds vs)
  | [] => e
  | v :: vs => (env_wipe e vs).setNo none v
theorem wipe_get {σ : L2.St} : ∀ {vs : List Nat} {i : Nat}, (wipe σ vs)[i]? = if i ∈ vs ∧ i < σ.length then some none else σ[i]?
  | [], i => by
    rw [if_neg (fun z => by cases z.1)]
    rfl
  | v :: vs, i => by
    show ((wipe σ vs).set v none)[i]? = _
    by_cases h : v = i
    · subst h
      by_cases hl : v < σ.length
      · rw [List.getElem?_set_self (by rw [wipe_length]; exact hl), if_pos ⟨List.mem_cons_self, hl⟩]
      · rw [if_neg fun z => hl z.2, List.getElem?_eq_none_iff.mpr (by rw [List.length_set, wipe_length]; omega), List.getElem?_eq_none_iff.mpr (by omega)]
    · rw [List.getElem?_set_ne h, wipe_get]
      have e : (i ∈ v :: vs) = (i ∈ vs) := by
        rw [List.mem_cons]
        simp [Ne.symm h]
      simp only [e]
theorem wipe_but {σ σ2 : L2.St} {vs js : List Nat} (b : ButAt js (wipe σ vs) σ2) (h : ∀ j ∈ js, j ∈ vs) : wipe σ2 vs = wipe σ vs := by
  apply List.ext_getElem?
  intro i
  have hl : σ2.length = σ.length := by rw [b.1, wipe_length]
  rw [wipe_get, wipe_get, hl]
  by_cases hi : i ∈ vs ∧ i < σ.length
  · rw [if_pos hi, if_pos hi]
  · rw [if_neg hi, if_neg hi]
    by_cases hj : i ∈ js
    · have hn : ¬ i < σ.length := fun z => hi ⟨h i hj, z⟩
      rw [List.getElem?_eq_none_iff.mpr (by omega), List.getElem?_eq_none_iff.mpr (by omega)]
    · rw [b.2 i hj, wipe_get, if_neg hi]
section
variable {G : Glb} {U : Bool} {ds : List DS}
/-- the turns of a comprehension: f tells what an item gives, if any -/
theorem lc_run {α : Type} {ev : α → D} {wi : TI} {g : TG} {tt : TT} {te : TE} {vs js : List Nat} {xs : List α} {gd : α → List DS} {f : α → Option D} {σ : L2.St} {H : Hp} {Q : VK} (hl : xs.length ≤ 100000)
    (hi : ∀ σ H R, iV G U ds (xs.map ev) σ H R → wi σ H R) (hg : ∀ d ∈ xs, ∀ v σ H Q, gV G U (wipeD ds vs) (ev d) (gd d) js v σ H Q → g v σ H Q) (hj : ∀ j ∈ js, j ∈ vs) (ht : ∀ d ∈ xs, ∀ σ H Q, tV G U (gd d) (f d).isSome σ H Q → tt σ H Q)
    (he : ∀ d ∈ xs, ∀ y, f d = some y → ∀ σ H Q, eV G U (gd d) (.im y) σ H Q → te σ H Q) (h : eV G U ds (.own (xs.filterMap f)) σ H Q) : tLc wi g tt te vs σ H Q := by
  obtain ⟨I0, H0, I, en, k⟩ := h
  refine hi σ H _ ⟨I0, H0, I, en, fun J I1 H1 s1 go Dl hD => ?_⟩
  have en1 := en.step s1
  refine ⟨fun i m H' => m = xs.length - i ∧ i ≤ xs.length ∧ ∃ I' ws, Step G I1 H1 I' H' ∧ H' Dl = some (.lst ws) ∧ I' Dl = none ∧ Reps G I' ws ((xs.take i).filterMap f), ⟨_, rfl, Nat.zero_le _, I1, [], Step.newOwn s1.sub hD, upd_same, s1.sub.free hD, .nil⟩, ?_⟩
  rintro i m H' ⟨rfl, hil, I', ws, st, hDl, iDl, rs⟩
  obtain ⟨g1, g2⟩ := go I' H' st.pres st.sub i
  by_cases hlt : i < xs.length
  · refine .inr ?_
    obtain ⟨a, b⟩ := g2 (ev xs[i]) (by rw [List.getElem?_map, List.getElem?_eq_getElem hlt]; rfl)
    refine ⟨a, fun H2 => i + 1 ≤ xs.length ∧ ∃ I' ws, Step G I1 H1 I' H2 ∧ H2 Dl = some (.lst ws) ∧ I' Dl = none ∧ Reps G I' ws ((xs.take (i + 1)).filterMap f), fun H2 ⟨q1, q2⟩ => ⟨xs.length - (i + 1), by omega, rfl, q1, q2⟩, fun x H2 y => ?_⟩
    obtain ⟨I2, s2, r2⟩ := b x H2 y
    have hm : xs[i] ∈ xs := List.getElem_mem hlt
    have et : xs.take (i + 1) = xs.take i ++ [xs[i]] := by rw [List.take_succ, List.getElem?_eq_getElem hlt]; rfl
    have en2 := (en1.step (st.trans s2))
    refine hg xs[i] hm x (wipe σ vs) H2 _ ⟨I0, H0, I2, env_wipe en2 vs, r2, fun σ2 e2 bt => ⟨wipe_but bt hj, ?_⟩⟩
    refine ht xs[i] hm σ2 H2 _ ⟨I0, H0, I2, e2, fun I3 H3 s3 => ?_⟩
    have s23 := s2.trans s3
    have k1 : H3 Dl = some (.lst ws) := s23.keep Dl _ hDl (fun _ z => nomatch z) (.inr fun _ z => nomatch z)
    have k2 : I3 Dl = none := s23.fresh Dl _ iDl hDl (fun _ q => nomatch q) (fun _ q => nomatch q)
    cases hf : f xs[i] with
    | none =>
      show if false = true then _ else _
      rw [if_neg Bool.false_ne_true]
      refine ⟨hlt, I3, ws, st.trans s23, k1, k2, ?_⟩
      rw [et, List.filterMap_append, List.filterMap_cons, hf, List.filterMap_nil, List.append_nil]
      exact rs.mono s23.isub
    | some y =>
      show if true = true then _ else _
      rw [if_pos rfl]
      refine he xs[i] hm y hf σ2 H3 _ ⟨I0, H0, I3, e2.step s3, fun v I4 H4 s4 r4 => ?_⟩
      have s24 := s23.trans s4
      have k3 : H4 Dl = some (.lst ws) := s4.keep Dl _ k1 (fun _ z => nomatch z) (.inr fun _ z => nomatch z)
      have k4 : I4 Dl = none := s4.fresh Dl _ k2 k1 (fun _ q => nomatch q) (fun _ q => nomatch q)
      refine ⟨ws, k3, ?_, hlt, I4, ws ++ [v], (st.trans s24).mutOwn k4 hD (by rw [k3]; exact ownNt), upd_same, k4, ?_⟩
      · rw [rs.len]
        have z := List.length_filterMap_le f (xs.take i)
        rw [List.length_take] at z
        exact Nat.lt_of_le_of_lt (Nat.le_trans z (Nat.min_le_left _ _)) (Nat.lt_of_lt_of_le hlt (Nat.le_trans hl (by decide)))
      · rw [et, List.filterMap_append, List.filterMap_cons, hf, List.filterMap_nil]
        exact (rs.mono s24.isub).app (.cons r4 .nil)
  · have e : i = xs.length := by omega
    subst e
    refine .inl ⟨g1 (by rw [List.length_map]; exact Nat.le_refl _), ?_⟩
    rw [List.take_length] at rs
    exact k _ I' H' (s1.trans st) ⟨Dl, ws, rfl, s1.free hD, iDl, hDl, rs⟩
end
section
variable {X : Cx} {T : List NdefX.NTab} {W : WX} {U : Bool} {ds : List DS} {s : DS} {E : DEn}
abbrev DTs (X : Cx) (T : List NdefX.NTab) (U : Bool) (ifs : List Expr) (ds : List DS) (b : Bool) : Prop := PTs X ifs (tV (gx X T) U ds b)
theorem dts_nil : DTs X T U [] ds true := ⟨fun pins s σ H Q I ⟨I0, H0, I1, en, k⟩ => pts_nil.run pins s σ H Q I (k I1 H (Step.refl en.sub))⟩
theorem dts_one {c : Expr} {b : Bool} (h : DT X T U c ds b) : DTs X T U [c] ds b := pts_one h
/-- the block of a comprehension -/
abbrev blkX (X : Cx) (scope : Scope) (s : Shared) (H : Hp) (C : Addr) (cl : List (Str × Addr)) (fp : List Addr) : Cx := X.blk s H scope (compEnvC scope cl C X.env) fp
section
variable {α : Type} {ev : α → D} {elt tg iter : Expr} {ifs : List Expr} {scope : Scope} {own : List (Str × Nat)} {pos : Pos} {xs : List α} {js : List Nat}
theorem dv_lc (gd : α → List DS) (f : α → Option D) (hi : DI X T U tg iter ds (xs.map ev)) (hl : xs.length ≤ 100000) (hN : X.N.Nodup) (ok : BlkOk X.N X.env.scope scope own) (hg : ∀ s H C cl fp, ∀ d ∈ xs, DG (blkX X scope s H C cl fp) T U tg (wipeD ds (own.map (·.2))) (ev d) (gd d) js) (hj : ∀ j ∈ js, j ∈ own.map (·.2))
    (ht : ∀ s H C cl fp, ∀ d ∈ xs, DTs (blkX X scope s H C cl fp) T U ifs (gd d) (f d).isSome) (he : ∀ s H C cl fp, ∀ d ∈ xs, ∀ y, f d = some y → DE (blkX X scope s H C cl fp) T U elt (gd d) y) (hc : X.calm = true := by rfl) (hs : ∀ x, foldedSetIterable iter X.env x = pure x := by intro _; rfl) :
    DV X T U (.ListComp elt [⟨tg, iter, ifs, 0⟩] scope pos) ds (.own (xs.filterMap f)) := by
  refine (pe_lc (own := own) (g := fun v σ H Q => ∃ d, d ∈ xs ∧ gV (gx X T) U (wipeD ds (own.map (·.2))) (ev d) (gd d) js v σ H Q) (tt := fun σ H Q => ∃ d, d ∈ xs ∧ tV (gx X T) U (gd d) (f d).isSome σ H Q) (te := fun σ H Q => ∃ d y, d ∈ xs ∧ f d = some y ∧ eV (gx X T) U (gd d) (.im y) σ H Q)
    hc hN hi ok (fun s H C cl fp => ⟨fun pins s' σ H' v u Q I r ⟨d, m, q⟩ => (hg s H C cl fp d m).run pins s' σ H' v u Q I r q⟩) (fun s H C cl fp => ⟨fun pins s' σ H' Q I ⟨d, m, q⟩ => (ht s H C cl fp d m).run pins s' σ H' Q I q⟩) (fun s H C cl fp => ⟨fun pins s' σ H' Q I ⟨d, y, m, e, q⟩ => (he s H C cl fp d m y e).run pins s' σ H' Q I q⟩) hs).weak fun σ H Q h => ?_
  exact lc_run hl (fun _ _ _ h => h) (fun d m v σ H Q h => ⟨d, m, h⟩) hj (fun d m σ H Q h => ⟨d, m, h⟩) (fun d m y e σ H Q h => ⟨d, y, m, e, h⟩) h
/-- y = [..] -/
theorem ds_setLc (i : Nat) {y : Str} {py spos : Pos} (gd : α → List DS) (f : α → Option D) (hi : DI X T U tg iter ds (xs.map ev)) (hl : xs.length ≤ 100000) (hN : X.N.Nodup) (ok : BlkOk X.N X.env.scope scope own) (hg : ∀ s H C cl fp, ∀ d ∈ xs, DG (blkX X scope s H C cl fp) T U tg (wipeD ds (own.map (·.2))) (ev d) (gd d) js) (hj : ∀ j ∈ js, j ∈ own.map (·.2))
    (ht : ∀ s H C cl fp, ∀ d ∈ xs, DTs (blkX X scope s H C cl fp) T U ifs (gd d) (f d).isSome) (he : ∀ s H C cl fp, ∀ d ∈ xs, ∀ y, f d = some y → DE (blkX X scope s H C cl fp) T U elt (gd d) y) (k : E.nx (ds.set i (.own (xs.filterMap f)))) (hsw : swapsWith (.ListComp elt [⟨tg, iter, ifs, 0⟩] scope pos) (some (.Name y py)) spos.line X.env = pure true)
    (hy : X.N[i]? = some y := by rfl) (hyl : X.env.scope.names.lookup y = some .local := by rfl) (hc : X.calm = true := by rfl) (hs : ∀ x, foldedSetIterable iter X.env x = pure x := by intro _; rfl) : DSt X T W U (.Assign [.Name y py] (.ListComp elt [⟨tg, iter, ifs, 0⟩] scope pos) spos) ds E := by
  refine (ps_setLc (i := i) (own := own) (g := fun v σ H Q => ∃ d, d ∈ xs ∧ gV (gx X T) U (wipeD ds (own.map (·.2))) (ev d) (gd d) js v σ H Q) (tt := fun σ H Q => ∃ d, d ∈ xs ∧ tV (gx X T) U (gd d) (f d).isSome σ H Q) (te := fun σ H Q => ∃ d y, d ∈ xs ∧ f d = some y ∧ eV (gx X T) U (gd d) (.im y) σ H Q)
    hc hN hy hyl hsw hi ok (fun s H C cl fp => ⟨fun pins s' σ H' v u Q I r ⟨d, m, q⟩ => (hg s H C cl fp d m).run pins s' σ H' v u Q I r q⟩) (fun s H C cl fp => ⟨fun pins s' σ H' Q I ⟨d, m, q⟩ => (ht s H C cl fp d m).run pins s' σ H' Q I q⟩) (fun s H C cl fp => ⟨fun pins s' σ H' Q I ⟨d, y, m, e, q⟩ => (he s H C cl fp d m y e).run pins s' σ H' Q I q⟩) hs).weak fun D σ H ⟨I0, H0, I, en, k1, _⟩ => ?_
  exact lc_run hl (fun _ _ _ h => h) (fun d m v σ H Q h => ⟨d, m, h⟩) hj (fun d m σ H Q h => ⟨d, m, h⟩) (fun d m y e σ H Q h => ⟨d, y, m, e, h⟩) ⟨I0, H0, I, en, fun v I1 H1 s1 r1 => k1 _ H1 ⟨_, I1, en.setV s1 i r1, s1.pres, k⟩⟩
/-- test and element by functions of the item -/
def lcF (p : α → Bool) (h : α → D) (a : α) : Option D := if p a = true then some (h a) else none
theorem lcF_eq {p : α → Bool} {h : α → D} : ∀ l : List α, l.filterMap (lcF p h) = (l.filter p).map h
  | [] => rfl
  | a :: l => by
    rw [List.filterMap_cons, List.filter_cons]
    unfold lcF
    by_cases c : p a = true
    · rw [if_pos c, if_pos c, List.map_cons]
      exact congrArg _ (lcF_eq l)
    · rw [if_neg c, if_neg c]
      exact lcF_eq l
theorem lcF_some {p : α → Bool} {h : α → D} (a : α) : (lcF p h a).isSome = p a := by
  unfold lcF
  cases p a <;> rfl
theorem lcF_is {p : α → Bool} {h : α → D} {a : α} {y : D} (q : lcF p h a = some y) : p a = true ∧ y = h a := by
  unfold lcF at q
  by_cases c : p a = true
  · rw [if_pos c] at q
    exact ⟨c, (Option.some.inj q).symm⟩
  · rw [if_neg c] at q
    cases q
theorem dv_lcP (gd : α → List DS) (p : α → Bool) (h : α → D) (hi : DI X T U tg iter ds (xs.map ev)) (hl : xs.length ≤ 100000) (hN : X.N.Nodup) (ok : BlkOk X.N X.env.scope scope own) (hg : ∀ s H C cl fp, ∀ d ∈ xs, DG (blkX X scope s H C cl fp) T U tg (wipeD ds (own.map (·.2))) (ev d) (gd d) js)
    (ht : ∀ s H C cl fp, ∀ d ∈ xs, DTs (blkX X scope s H C cl fp) T U ifs (gd d) (p d)) (he : ∀ s H C cl fp, ∀ d ∈ xs, p d = true → DE (blkX X scope s H C cl fp) T U elt (gd d) (h d)) (hj : ∀ j ∈ js, j ∈ own.map (·.2) := by decide) (hc : X.calm = true := by rfl)
    (hs : ∀ x, foldedSetIterable iter X.env x = pure x := by intro _; rfl) : DV X T U (.ListComp elt [⟨tg, iter, ifs, 0⟩] scope pos) ds (.own ((xs.filter p).map h)) := by
  rw [← lcF_eq]
  exact dv_lc gd (lcF p h) hi hl hN ok hg hj (fun s H C cl fp d hd => by rw [lcF_some]; exact ht s H C cl fp d hd) (fun s H C cl fp d hd y hy => by
    obtain ⟨a, rfl⟩ := lcF_is hy
    exact he s H C cl fp d hd a) hc hs
theorem ds_setLcP (i : Nat) {y : Str} {py spos : Pos} (gd : α → List DS) (p : α → Bool) (h : α → D) (hi : DI X T U tg iter ds (xs.map ev)) (hl : xs.length ≤ 100000) (hN : X.N.Nodup) (ok : BlkOk X.N X.env.scope scope own) (hg : ∀ s H C cl fp, ∀ d ∈ xs, DG (blkX X scope s H C cl fp) T U tg (wipeD ds (own.map (·.2))) (ev d) (gd d) js)
    (ht : ∀ s H C cl fp, ∀ d ∈ xs, DTs (blkX X scope s H C cl fp) T U ifs (gd d) (p d)) (he : ∀ s H C cl fp, ∀ d ∈ xs, p d = true → DE (blkX X scope s H C cl fp) T U elt (gd d) (h d)) (k : E.nx (ds.set i (.own ((xs.filter p).map h))))
    (hsw : swapsWith (.ListComp elt [⟨tg, iter, ifs, 0⟩] scope pos) (some (.Name y py)) spos.line X.env = pure true := by exact sw_true rfl rfl rfl (by decide +kernel)) (hj : ∀ j ∈ js, j ∈ own.map (·.2) := by decide) (hy : X.N[i]? = some y := by rfl) (hyl : X.env.scope.names.lookup y = some .local := by rfl)
    (hc : X.calm = true := by rfl) (hs : ∀ x, foldedSetIterable iter X.env x = pure x := by intro _; rfl) : DSt X T W U (.Assign [.Name y py] (.ListComp elt [⟨tg, iter, ifs, 0⟩] scope pos) spos) ds E := by
  rw [← lcF_eq] at k
  exact ds_setLc i gd (lcF p h) hi hl hN ok hg hj (fun s H C cl fp d hd => by rw [lcF_some]; exact ht s H C cl fp d hd) (fun s H C cl fp d hd y hy => by
    obtain ⟨a, rfl⟩ := lcF_is hy
    exact he s H C cl fp d hd a) k hsw hy hyl hc hs
end
end
end Lp

/-! len(set(xs)) of a list whose items are keys of one kind. -/
namespace SetK
open PySem PySem.Spec PyProof.Rows L2
section
variable {K : Type} [DecidableEq K] [BEq K] [LawfulBEq K]
/-- the unlike ones, in the turn in which they are met -/
def add1 (l : List K) (k : K) : List K := if l.any (· == k) then l else l ++ [k]
def dd (xs : List K) : List K := xs.foldl add1 []
theorem dd_snoc (xs : List K) (k : K) : dd (xs ++ [k]) = add1 (dd xs) k := by
  unfold dd
  rw [List.foldl_append]
  rfl
theorem add1_any (l : List K) (k q : K) : (add1 l k).any (· == q) = (l.any (· == q) || decide (q = k)) := by
  unfold add1
  by_cases h : l.any (· == k) = true
  · rw [if_pos h]
    by_cases e : q = k
    · subst e
      rw [h, decide_eq_true rfl]
      rfl
    · rw [decide_eq_false e, Bool.or_false]
  · rw [if_neg h, List.any_append]
    congr 1
    by_cases e : q = k
    · subst e; simp
    · have e2 : (k == q) = false := by simpa [beq_iff_eq] using (fun z : k = q => e z.symm)
      simp [e2, e]
theorem add1_len (l : List K) (k : K) : (add1 l k).length = if l.any (· == k) then l.length else l.length + 1 := by
  unfold add1
  split <;> simp
theorem dd_le : ∀ xs : List K, (dd xs).length ≤ xs.length := fun xs => by
  have h : ∀ (xs l : List K), (xs.foldl add1 l).length ≤ l.length + xs.length := by
    intro xs
    induction xs with
    | nil => intro l; simp
    | cons x r ih =>
      intro l
      rw [List.foldl_cons]
      have a := ih (add1 l x)
      rw [add1_len] at a
      rw [List.length_cons]
      split at a <;> omega
  have z := h xs []
  simpa [dd] using z
theorem dd_mem (xs : List K) (k : K) : (dd xs).any (· == k) = xs.any (· == k) := by
  have h : ∀ (xs l : List K), (xs.foldl add1 l).any (· == k) = (l.any (· == k) || xs.any (· == k)) := by
    intro xs
    induction xs with
    | nil => intro l; simp
    | cons x r ih =>
      intro l
      rw [List.foldl_cons, ih, add1_any, List.any_cons, Bool.or_assoc]
      congr 2
      by_cases e : k = x
      · subst e; simp
      · have e2 : (x == k) = false := by simpa [beq_iff_eq] using (fun z : x = k => e z.symm)
        simp [e2, e]
  have z := h xs []
  simpa [dd] using z
theorem dd_len_eq : ∀ xs : List K, (dd xs).length = xs.length ↔ xs.Nodup := by
  have h : ∀ (xs l : List K), (xs.foldl add1 l).length ≤ l.length + xs.length ∧ ((xs.foldl add1 l).length = l.length + xs.length ↔ xs.Nodup ∧ ∀ x ∈ xs, l.any (· == x) = false) := by
    intro xs
    induction xs with
    | nil => intro l; simp
    | cons x r ih =>
      intro l
      rw [List.foldl_cons, List.length_cons]
      obtain ⟨a, b⟩ := ih (add1 l x)
      have al := add1_len l x
      by_cases hx : l.any (· == x) = true
      · rw [if_pos hx] at al
        refine ⟨by omega, ⟨fun q => by omega, fun q => ?_⟩⟩
        have z := q.2 x List.mem_cons_self
        rw [hx] at z
        cases z
      · rw [if_neg hx] at al
        refine ⟨by omega, ?_⟩
        have e1 : (r.foldl add1 (add1 l x)).length = l.length + (r.length + 1) ↔ (r.foldl add1 (add1 l x)).length = (add1 l x).length + r.length := by omega
        rw [e1, b, List.nodup_cons]
        constructor
        · rintro ⟨q1, q2⟩
          refine ⟨⟨fun m => ?_, q1⟩, fun y hy => ?_⟩
          · have z := q2 x m
            rw [add1_any] at z
            simp at z
          · rcases List.mem_cons.mp hy with rfl | m
            · exact Bool.eq_false_iff.mpr hx
            · have z := q2 y m
              rw [add1_any, Bool.or_eq_false_iff] at z
              exact z.1
        · rintro ⟨⟨q1, q2⟩, q3⟩
          refine ⟨q2, fun y m => ?_⟩
          rw [add1_any, q3 y (List.mem_cons_of_mem _ m), Bool.false_or]
          exact decide_eq_false fun z => q1 (by rw [← z]; exact m)
  intro xs
  have z := (h xs []).2
  simpa [dd] using z
end
section
variable {prog : Program} {w : World} {A : Around} {R : Result → Shared → Prop} {I : Addr} {fp wr : List Addr} {G : Array GenState → Array GenState → Prop} {n : Nat} {P : Nat → Value → Prop} {St : Nat → Shared → Prop}
  {K : Type} [DecidableEq K] [BEq K] [LawfulBEq K]
theorem loop (knd : PySem.KeyKind prog w K) (W : WalksS prog w A.in1 I fp wr G n P St) (S : Addr) (hSf : S ∉ fp) (xs : List K) (hsz : xs.length = n) (hb : n + 1 < scanBound)
    (hval : ∀ i v, P i v → ∃ k, xs[i]? = some k ∧ knd.is k v = true ∧ v.scannable = true) :
    ∀ (k i : Nat) (s : Shared), n - i = k → i ≤ n → St i s → s.heap.SetOf knd S (fun q => (dd (xs.take i)).any (· == q)) (dd (xs.take i)).length →
      (∀ s', Moved (S :: wr) G s s' → s'.heap.SetOf knd S (fun q => (dd xs).any (· == q)) (dd xs).length → R (.ok (.ret .none)) s') →
      codeAny (model prog w) A (.builtin "set.update.loop" ⟨[.ref S, .ref I], []⟩) R s := by
  have nw : S ∉ wr := fun h => hSf (W.sub _ h)
  have up : ∀ b ∈ wr, b ∈ S :: wr := fun b hb => List.mem_cons_of_mem _ hb
  intro k
  induction k with
  | zero =>
    intro i s hk hi hst hS hR
    obtain rfl : i = n := by omega
    refine codeAny_builtin PyProof.Rows.F.entry_set_update_loop ?_
    rw [Around.under_plainId PyProof.Rows.F.plain_set_update_loop _]
    show wpAny _ A.in1 (pyNext (.ref I) >>= _) _ _ s
    refine wpAny_bind (W.done s _ _ hst fun s' hm => ?_)
    show wpAny _ A.in1 (ret Value.none) _ _ s'
    refine wpAny_pure (hR s' (hm.mono up) ?_)
    rw [← hsz, List.take_length] at hS
    obtain ⟨o, es, ep, t, ho, rest⟩ := hS
    exact ⟨o, es, ep, t, hm.heap S _ nw ho, rest⟩
  | succ k ih =>
    intro i s hk hi hst hS hR
    have hlt : i < n := by omega
    refine codeAny_builtin PyProof.Rows.F.entry_set_update_loop ?_
    rw [Around.under_plainId PyProof.Rows.F.plain_set_update_loop _]
    show wpAny _ A.in1 (pyNext (.ref I) >>= _) _ _ s
    refine wpAny_bind (W.item i s _ _ hlt hst fun v s' hP hst' hm => ?_)
    obtain ⟨q, hq, hk1, hk2⟩ := hval i v hP
    have hS' : s'.heap.SetOf knd S (fun q => (dd (xs.take i)).any (· == q)) (dd (xs.take i)).length := by
      obtain ⟨o, es, ep, tb, ho, rest⟩ := hS
      exact ⟨o, es, ep, tb, hm.heap S _ nw ho, rest⟩
    show wpAny _ A.in1 (holding [v] (setAdd S v) >>= _) _ _ s'
    refine wpAny_bind (wpAny_holding ?_)
    unfold setAdd
    refine wpAny_holding (wpAny_bind (knd.pyHash (k := q) hk1 ?_))
    have et : xs.take (i + 1) = xs.take i ++ [q] := by rw [List.take_succ, hq]; rfl
    have room : (dd (xs.take i)).length + 1 < scanBound := by
      have := dd_le (xs.take i)
      rw [List.length_take] at this
      omega
    refine wpAny_setAddHashed_of (knd := knd) (s := { s' with toks := s'.toks + 1 }) hk1 hk2 hS' room fun h' hsb hS2 => ?_
    have hSi : h'.SetOf knd S (fun q => (dd (xs.take (i + 1))).any (· == q)) (dd (xs.take (i + 1))).length :=
      SetOf_congr hS2 (fun q' => by rw [et, dd_snoc, add1_any]) (by rw [et, dd_snoc, add1_len])
    refine wpAny_pure ⟨plainId_quiet PyProof.Rows.F.plain_set_update_loop _, ih (i + 1) _ (by omega) hlt (W.frame _ s' _ _ hst' (Nat.le_succ _) fun b hb o e => ?_) hSi fun s'' hm'' hS'' => ?_⟩
    · rw [hsb.2 b (fun h : b = S => hSf (by rw [← h]; exact hb))]
      exact e
    · refine hR s'' (Moved.trans W.gtrans ((hm.mono up).then_heap (Nat.le_succ _) fun b o hb e => ?_) hm'') hS''
      rw [hsb.2 b (fun h : b = S => hb (by rw [h]; exact List.mem_cons_self))]
      exact e
end
section
variable {prog : Program} {w : World} {A : Around} {E : Value → Shared → Prop} {s : Shared} {K : Type} [DecidableEq K] [BEq K] [LawfulBEq K]
/-- what set.__init__ leaves -/
def Left (knd : PySem.KeyKind prog w K) (xs : List K) (s s₂ : Shared) : Prop := ∃ h' tk, s₂ = { s with heap := h', toks := tk } ∧ h'.SetOf knd s.heap.objs.size (fun q => (dd xs).any (· == q)) (dd xs).length ∧
  ∀ b o, b < s.heap.objs.size → s.heap.get? b = some o → h'.get? b = some o
theorem call_list (knd : PySem.KeyKind prog w K) {l : Addr} {items : Array Value} {xs : List K} {Q : Value → Shared → Prop} (hh : A.handled = none) (hl : s.heap.IsList l items) (hsz : xs.length = items.size) (hb : items.size + 1 < scanBound)
    (hi : ∀ (i : Nat) (v : Value), items[i]? = some v → ∃ k, xs[i]? = some k ∧ knd.is k v = true ∧ v.scannable = true)
    (h : ∀ s₂, Left knd xs s s₂ → Q (.ref s.heap.objs.size) s₂) : wpAny (model prog w) A (call (.type "set") [.ref l]) Q E s := by
  obtain ⟨c, tl, mro⟩ := PySem.F.called_set.mro
  have made := PySem.F.called_set.made
  have sub := PySem.F.called_set.sub
  refine wpAny_call (codeAny_of_tree ?_)
  show wpAny _ _ (callAny (.type "set") _) _ _ _
  refine wpAny_pure ⟨Code.quiet_builtin _ (by decide +kernel), codeAny_builtin PySem.F.entry_type_call ?_⟩
  rw [Around.under_plain (weight_type_call_type "set" [.ref l] []) rfl]
  have f1 := PySem.F.called_set.notType
  have f2 := PySem.F.called_set.canCreate
  have f3 := PySem.F.typeCall_set_1 (.ref l)
  repeat (any_goals (first | assumption | wp_step))
  refine codeAny_mono (code_set_new_1 (.ref l) (E := E) (Q₁ := fun obj s₁ => ∃ led : Bool, obj = .ref s.heap.objs.size ∧ s₁ = { s with heap := s.heap.push { cls := .type "set", dict := none, data := .set #[] 0 (.fresh 0 0 led) } }) fun led => ⟨led, rfl, rfl⟩) fun r s₁ hr => ?_
  cases r with
  | error e => exact hr
  | ok fl =>
    cases fl with
    | next => exact hr.elim
    | brk => exact hr.elim
    | cont => exact hr.elim
    | ret obj =>
      obtain ⟨led, rfl, rfl⟩ := hr
      have hS : (s.heap.push { cls := .type "set", dict := none, data := .set #[] 0 (.fresh 0 0 led) }).get? s.heap.objs.size = some { cls := .type "set", dict := none, data := .set #[] 0 (.fresh 0 0 led) } := Heap.get?_push_size _ rfl
      have hT : Shared.TypeIs { s with heap := s.heap.push { cls := .type "set", dict := none, data := .set #[] 0 (.fresh 0 0 led) } } (.ref s.heap.objs.size) "set" := ⟨_, hS, rfl⟩
      have f4 := PySem.F.called_set.init.lookup
      have f5 := PySem.F.called_set.init.bind (.ref s.heap.objs.size)
      repeat (any_goals (first | assumption | wp_step))
      refine codeAny_mono (codeAny_call_builtin (R := wants (fun r s₂ => r = .none ∧ Left knd xs s s₂) E) PySem.F.called_set.init.plain PySem.F.entry_set_init (check_set_init_1 hT ?_)) fun r₂ s₂ hr₂ => ?_
      · obtain ⟨ol, hol, hcl, nl, hdl⟩ := hl
        obtain ⟨ocls, odict, odata, oslots⟩ := ol
        simp only at hcl hdl
        subst hcl; subst hdl
        have hol' : (s.heap.push { cls := .type "set", dict := none, data := .set #[] 0 (.fresh 0 0 led) }).get? l = some { cls := .type "list", dict := odict, data := .seq items nl, slots := oslots } := Heap.get?_push_of_some _ hol
        have f6 := PySem.F.sub_list_set
        have f7 := PySem.F.sub_list_frozenset
        have f8 : (Value.type "list" == Value.type "dict") = false := by decide
        have hl1 : (s.heap.push { cls := .type "set", dict := none, data := .set #[] 0 (.fresh 0 0 led) }).IsList l items := ⟨_, hol', rfl, nl, rfl⟩
        unfold Builtin.«set.__init__» noKeywords Builtin.Frozenset.updateFrom
        generalize hPI : pyIter = PI
        wp_walk
        subst hPI
        refine wpAny_pyIter_list hl1 (wpAny_bind (wpAny_runValue ?_))
        have lt : l < s.heap.objs.size := Heap.lt_size hol
        have hh3 : A.in1.in1.in1.handled = none := by simp [hh]
        have neI : l ≠ (s.heap.push { cls := .type "set", dict := none, data := .set #[] 0 (.fresh 0 0 led) }).objs.size := by
          rw [Heap.size_push]; exact Nat.ne_of_lt (Nat.lt_succ_of_lt lt)
        have hSf : s.heap.objs.size ∉ [(s.heap.push { cls := .type "set", dict := none, data := .set #[] 0 (.fresh 0 0 led) }).objs.size, l] := by
          rw [Heap.size_push]; simp only [List.mem_cons, List.mem_singleton, List.not_mem_nil, or_false, not_or]
          exact ⟨Nat.ne_of_lt (Nat.lt_succ_self _), Nat.ne_of_gt lt⟩
        refine loop knd ((Walks.list hh3 _ l neI items).toS) s.heap.objs.size hSf xs hsz hb hi (items.size - 0) 0 _ (by omega) (Nat.zero_le _) ⟨⟨_, Heap.get?_push_size _ rfl, rfl, rfl⟩, (hl1.push _)⟩ ?hS0 ?hR
        case hS0 =>
          have hget : ((s.heap.push { cls := .type "set", dict := none, data := .set #[] 0 (.fresh 0 0 led) }).push { cls := .type "list_iterator", data := .fields #[.ref l, .int 0 0] }).get? s.heap.objs.size
              = some { cls := .type "set", dict := none, data := .set #[] 0 (.fresh 0 0 led) } := Heap.get?_push_of_some _ hS
          exact SetOf_congr ((setObjOf_fresh (knd := knd) led).setOf hget (by unfold scanBound; omega)) (fun _ => rfl) rfl
        case hR =>
          intro s' hm hS'
          obtain ⟨h', g', d', tk', os'⟩ := s'
          have eg : g' = s.gens := hm.gens
          have ed : d' = s.drawn := hm.drawn
          have eo : os' = s.os := hm.os
          subst eg; subst ed; subst eo
          show wpAny _ _ _ _ _ _
          refine wpAny_pure ?_
          show wpAny _ _ (ret Value.none) _ _ _
          refine wpAny_pure ⟨rfl, h', tk', rfl, hS', fun b o hb e => ?_⟩
          have n1 : b ≠ s.heap.objs.size := Nat.ne_of_lt hb
          have n2 : b ≠ (s.heap.push { cls := .type "set", dict := none, data := .set #[] 0 (.fresh 0 0 led) }).objs.size := by
            rw [Heap.size_push]; exact Nat.ne_of_lt (Nat.lt_succ_of_lt hb)
          exact hm.heap b o (by simp only [List.mem_cons, List.mem_singleton, List.not_mem_nil, or_false, not_or]; exact ⟨n1, n2⟩) (Heap.get?_push_of_some _ (Heap.get?_push_of_some _ e))
      · cases r₂ with
        | error e => exact hr₂
        | ok fl₂ =>
          cases fl₂ with
          | next => exact hr₂.elim
          | brk => exact hr₂.elim
          | cont => exact hr₂.elim
          | ret r =>
            obtain ⟨rfl, h', tk, rfl, hS', hk'⟩ := hr₂
            repeat (any_goals (first | assumption | wp_step))
            exact h _ ⟨h', tk, rfl, hS', hk'⟩
end
theorem strs_at : ∀ {xs : List Str} {us : List Value}, Vals (xs.map V.str) us → ∀ (i : Nat) (v : Value), us[i]? = some v → ∃ x t, xs[i]? = some x ∧ v = .str x t
  | [], _, .nil, i, v, h => by simp at h
  | x :: xs, _, .cons r t, 0, v, h => by
    obtain ⟨k, rfl⟩ := r
    exact ⟨x, k, rfl, (Option.some.inj h).symm⟩
  | x :: xs, _, .cons r t, i + 1, v, h => by
    simp only [List.getElem?_cons_succ] at h ⊢
    exact strs_at t i v h
def tLen (ta : TE) : TE := fun σ H Q => ta σ H fun x H1 => ∃ (l : Addr) (xs : List Str), x = .ref l ∧ H1 l = some (.lst (xs.map V.str)) ∧ xs.length ≤ 4000 ∧ Q (.int ((dd xs).length : Nat)) H1
theorem pe_len {X : Cx} {a : Expr} {ta : TE} {p p2 q pos : Pos} (hg : Gl X "len") (hm : X.mg "len" = none) (hg2 : Gl X "set") (hm2 : X.mg "set" = none) (ha : PE X a ta) (hc : X.calm = true := by rfl)
    (na : starEach [a] X.env = (false, eval a X.env) :: starEach [] X.env := by rfl) : PE X (.Call (.Name "len" p) [.Call (.Name "set" p2) [a] [] q] [] pos) (tLen ta) := by
  refine ⟨fun pins s σ H Q I h => ?_⟩
  refine Call_ (ld_blt I hg hm boot_len (PyProof.Rows.callWith_builtin1 (PyProof.Rows.args_cons ?_ rfl) rfl rfl))
  refine Call_ (ld_blt I hg2 hm2 boot_set (PyProof.Rows.callWith_type1 (PyProof.Rows.args_cons (thn (ha.run pins s σ H _ I h) fun v s1 ⟨x, H1, I1, r1, q1⟩ => PyProof.Rows.args_nil ?_) na) na rfl))
  obtain ⟨l, xs, rfl, hq, hl, q1⟩ := q1
  cases r1
  obtain ⟨its, r, pl, hz⟩ := I1.list (SqL.of hq)
  have e : xs.length = its.toArray.size := by rw [List.size_toArray, ← r.length, List.length_map]
  refine call_list (PySem.strKind X.prog X.w) (I1.ok.hd hc) pl.isList (xs := xs) e (by rw [← e]; unfold scanBound; omega) (fun i v hv => ?_) fun s₂ ⟨h', tk, e2, hS, hk⟩ => ?_
  · obtain ⟨x, t, h1, rfl⟩ := strs_at r i v (by rw [← Array.getElem?_toList] at hv; exact hv)
    exact ⟨x, h1, strKind_is _ _ _ _, rfl⟩
  · subst e2
    refine PyProof.Rows.args_nil ?_
    obtain ⟨o, es, ep, t, ho, hex, hd, _, _, _, hf, hn⟩ := hS
    have I2 : Inv X pins σ H1 { s1 with heap := h', toks := tk } := I1.kept fun b o e => hk b o (Heap.lt_size e) e
    have z := dd_le xs
    exact call_len_set ho hex hd hf (by rw [hn] <;> omega) ⟨.int (dd xs).length, H1, I2.tok _, ⟨_, by rw [hn]⟩, q1⟩
end SetK

/-! The judgements over data: what lists, texts, dicts and the built-in do. -/
namespace Lp
open PySem PySem.Spec PyProof.Rows L2
/-! ### data that may be compared -/
open PySem.W in
class En (α : Type) [DecidableEq α] extends PySem.W.Datum α where
  enc : α → D
  dp : ∀ {G : Glb} {I H : Hp} {v : V} {x : α}, RdS I H → Rep G I v (enc x) → Dp G.K H v (toD x)
abbrev en {α : Type} [DecidableEq α] [En α] : α → D := En.enc
instance : En Int where
  enc := .int
  dp _ h := by cases h; exact .int _
instance : En Str where
  enc := .str
  dp _ h := by cases h; exact .str _
instance : En Bool where
  enc := .bl
  dp _ h := by cases h; exact .bl _
theorem dps_of {α : Type} [DecidableEq α] [En α] {G : Glb} {I H : Hp} (r : RdS I H) : ∀ {vs : List V} {xs : List α}, Reps G I vs (xs.map En.enc) → DpAll G.K H vs (xs.map PySem.W.Datum.toD)
  | _, [], .nil => .nil
  | _, _ :: _, .cons a b => .cons (En.dp r a) (dps_of r b)
instance {α : Type} [DecidableEq α] [En α] : En (List α) where
  enc xs := .lst (xs.map En.enc)
  dp r h := by
    cases h with
    | lst a b => exact .lst (SqL.of (r.lst a)) (dps_of r b)
instance {α β : Type} [DecidableEq α] [En α] [DecidableEq β] [En β] : En (α × β) where
  enc p := .tup [En.enc p.1, En.enc p.2]
  dp r h := by
    cases h with
    | tup a b =>
      cases b with
      | cons c d =>
        cases d with
        | cons e f =>
          cases f
          exact .tup (SqT.of (r.tup a)) (.cons (En.dp r c) (.cons (En.dp r e) .nil))
def rEqP (K : PySem.W.Frag) : R2 := fun x y H Q => ∃ d e, Dp K H x d ∧ Dp K H y e ∧ d.plain = true ∧ e.plain = true ∧ d.depth ≤ 64 ∧ Q (.bl (PyData.eqv d e)) H
def rNeP (K : PySem.W.Frag) : R2 := fun x y H Q => ∃ d e, Dp K H x d ∧ Dp K H y e ∧ d.plain = true ∧ e.plain = true ∧ d.depth ≤ 64 ∧ Q (.bl (!PyData.eqv d e)) H
theorem op_eqP {X : Cx} (hu : X.A.units + 64 < cLine) : OpR X (compareOp .Eq) (rEqP X.K) := by
  intro pins s σ H x y v u Q I rx ry h
  obtain ⟨d, e, hd, he, pd, pe, l, q⟩ := h
  obtain ⟨as, r1⟩ := Dp.reads I d x v hd rx
  obtain ⟨bs, r2⟩ := Dp.reads I e y u he ry
  exact PySem.SeqAt.eq_plain r1 r2 pd pe (by have := Nat.min_le_left d.depth e.depth; omega) ⟨.bl _, H, I, rfl, q⟩
theorem op_neP {X : Cx} (hu : X.A.units + 64 < cLine) : OpR X (compareOp .NotEq) (rNeP X.K) := by
  intro pins s σ H x y v u Q I rx ry h
  obtain ⟨d, e, hd, he, pd, pe, l, q⟩ := h
  obtain ⟨as, r1⟩ := Dp.reads I d x v hd rx
  obtain ⟨bs, r2⟩ := Dp.reads I e y u he ry
  exact PySem.SeqAt.ne_plain r1 r2 pd pe (by have := Nat.min_le_left d.depth e.depth; omega) ⟨.bl _, H, I, rfl, q⟩
theorem units_of {k : Nat} {A : Around} (hr : Room k A) : A.units + 64 < cLine := Nat.lt_of_le_of_lt (Nat.le_refl _) hr.units
section
variable {G : Glb}
theorem r2_eqX {α : Type} [DecidableEq α] [En α] (hd : PySem.W.Datum.depth α ≤ 64) {x y : α} : R2D G (rEqP G.K) (en x) (en y) (.im (.bl (decide (x = y)))) := fun I H v w Q r h1 h2 k =>
  ⟨_, _, En.dp r h1, En.dp r h2, PySem.W.Datum.plain x, PySem.W.Datum.plain y, Nat.le_trans (PySem.W.Datum.depth_le x) hd, by rw [PySem.W.Datum.eqv]; exact k _ I H (Step.refl r) (.bl _)⟩
theorem r2_neX {α : Type} [DecidableEq α] [En α] (hd : PySem.W.Datum.depth α ≤ 64) {x y : α} : R2D G (rNeP G.K) (en x) (en y) (.im (.bl (!decide (x = y)))) := fun I H v w Q r h1 h2 k =>
  ⟨_, _, En.dp r h1, En.dp r h2, PySem.W.Datum.plain x, PySem.W.Datum.plain y, Nat.le_trans (PySem.W.Datum.depth_le x) hd, by rw [PySem.W.Datum.eqv]; exact k _ I H (Step.refl r) (.bl _)⟩
theorem at_reps {I : Hp} {vs : List V} {ds : List D} {i : Int} {d : D} (r : Reps G I vs ds) (h : atI ds i = some d) : ∃ v, atI vs i = some v ∧ Rep G I v d := by
  unfold atI at h ⊢
  rw [r.len]
  cases e : ixN ds.length i with
  | none => rw [e] at h; cases h
  | some j =>
    rw [e] at h
    obtain ⟨v, h1, h2⟩ := r.get' (show ds[j]? = some d from h)
    exact ⟨v, h1, h2⟩
theorem r2_ixL {xs : List D} {i : Int} {d : D} (h : atI xs i = some d) : R2D G (rIxL G.K) (.lst xs) (.int i) (.im d) := fun I H v w Q r h1 h2 k => by
  cases h2
  cases h1 with
  | lst a b =>
    obtain ⟨u, e1, e2⟩ := at_reps b h
    exact ⟨_, _, i, u, rfl, rfl, SqL.of (r.lst a), e1, k _ I H (Step.refl r) e2⟩
theorem r2_ixT {xs : List D} {i : Int} {d : D} (h : atI xs i = some d) : R2D G (rIxT G.K) (.tup xs) (.int i) (.im d) := fun I H v w Q r h1 h2 k => by
  cases h2
  cases h1 with
  | tup a b =>
    obtain ⟨u, e1, e2⟩ := at_reps b h
    exact ⟨_, _, i, u, rfl, rfl, SqT.of (r.tup a), e1, k _ I H (Step.refl r) e2⟩
theorem r2_ixS {z : Str} {i : Int} {c : Nat} (hl : z.length ≤ sizeLine) (h : atI z.cps.toList i = some c) : R2D G rIxS (.str z) (.int i) (.im (.str ⟨#[c]⟩)) := fun I H v w Q r h1 h2 k => by
  cases h1; cases h2
  exact ⟨z, i, c, rfl, rfl, hl, h, k _ I H (Step.refl r) (.str _)⟩
theorem inV_strs (x : Str) (ns : List Str) : inV (.str x) (ns.map V.str) = decide (x ∈ ns) := by
  unfold inV
  rw [List.any_map, Bool.eq_iff_iff, List.any_eq_true, decide_eq_true_eq]
  constructor
  · rintro ⟨y, h1, h2⟩
    have e : y = x := eq_of_beq (show (y == x) = true from h2)
    rw [← e]; exact h1
  · intro h
    exact ⟨x, h, show (x == x) = true from beq_self_eq_true x⟩
theorem flat_strs (ns : List Str) : (ns.map V.str).all flatV = true := by
  rw [List.all_map, List.all_eq_true]
  intro x _
  rfl
theorem r2_inS {x : Str} {ns : List Str} : R2D G (rIn G.K false) (.str x) (.lst (ns.map .str)) (.im (.bl (decide (x ∈ ns)))) := fun I H v w Q r h1 h2 k => by
  cases h1
  cases h2 with
  | lst a b =>
    obtain rfl := b.strs
    exact ⟨_, _, rfl, .inl (SqL.of (r.lst a)), rfl, flat_strs ns, by rw [if_neg Bool.false_ne_true, inV_strs]; exact k _ I H (Step.refl r) (.bl _)⟩
theorem r2_niS {x : Str} {ns : List Str} : R2D G (rIn G.K true) (.str x) (.lst (ns.map .str)) (.im (.bl (!decide (x ∈ ns)))) := fun I H v w Q r h1 h2 k => by
  cases h1
  cases h2 with
  | lst a b =>
    obtain rfl := b.strs
    exact ⟨_, _, rfl, .inl (SqL.of (r.lst a)), rfl, flat_strs ns, by rw [if_pos rfl, inV_strs]; exact k _ I H (Step.refl r) (.bl _)⟩
theorem r2_cat {xs ys : List D} (hl : xs.length + ys.length ≤ 100000) : R2D G rCat (.lst xs) (.lst ys) (.own (xs ++ ys)) := fun I H v w Q r h1 h2 k => by
  cases h1 with
  | lst a b =>
    cases h2 with
    | lst c d =>
      refine ⟨_, _, _, _, rfl, rfl, r.lst a, r.lst c, by rw [b.len, d.len]; exact Nat.le_trans hl (by decide), fun p hp => ?_⟩
      exact k _ I _ (Step.newOwn r hp) ⟨p, _, rfl, hp, r.free hp, upd_same, b.app d⟩
/-- texts by signs -/
theorem r2_inC {c : Nat} {z : Str} : R2D G (fun x y H Q => ∃ (c : Nat) (z : Str), x = .str ⟨#[c]⟩ ∧ y = .str z ∧ Q (.bl (decide (c ∈ z.cps.toList))) H) (.str ⟨#[c]⟩) (.str z) (.im (.bl (decide (c ∈ z.cps.toList)))) := fun I H v w Q r h1 h2 k => by
  cases h1; cases h2
  exact ⟨c, z, rfl, rfl, k _ I H (Step.refl r) (.bl _)⟩
def rMulS : R2 := fun x y H Q => ∃ z n, x = .str z ∧ y = .int n ∧ PySem.MulOk z n ∧ Q (.str (PySem.Txt.mul z n)) H
theorem op_mulS {X : Cx} : OpR X (binaryOp .Mult) rMulS := by
  intro pins s σ H x y v u Q I rx ry h
  obtain ⟨z, n, rfl, rfl, ok, q⟩ := h
  obtain ⟨t, rfl⟩ := rx
  obtain ⟨t', rfl⟩ := ry
  exact PySem.SB.mul ok fun t'' k => ⟨.str _, H, I.tok _, ⟨_, rfl⟩, q⟩
theorem r2_mulS {z : Str} {n : Int} (h : PySem.MulOk z n) : R2D G rMulS (.str z) (.int n) (.im (.str (PySem.Txt.mul z n))) := fun I H v w Q r h1 h2 k => by
  cases h1; cases h2
  exact ⟨z, n, rfl, rfl, h, k _ I H (Step.refl r) (.str _)⟩
end
section
variable {X : Cx} {T : List NdefX.NTab} {W : WX} {U : Bool} {ds : List DS} {s : DS} {E : DEn}
theorem dv_ix {a b : Expr} {pos : Pos} {r : R2} {x y : D} (ho : IxR X r) (hr : R2D (gx X T) r x y s) (ha : DE X T U a ds x) (hb : DE X T U b ds y) (hp : PlainIx b := by intro _ _; rfl) : DV X T U (.Subscript a b pos) ds s :=
  (pe_ix ho ha hb hp).weak fun _ _ _ h => op_run hr h
section
variable {a b : Expr} {pos : Pos} {i : Int} {d : D} {xs ys : List D} {z x : Str} {ns : List Str}
theorem de_ixL (ha : DE X T U a ds (.lst xs)) (hb : DE X T U b ds (.int i)) (h : atI xs i = some d) (hp : PlainIx b := by intro _ _; rfl) : DE X T U (.Subscript a b pos) ds d := dv_ix ix_list (r2_ixL h) ha hb hp
theorem de_ixT (ha : DE X T U a ds (.tup xs)) (hb : DE X T U b ds (.int i)) (h : atI xs i = some d) (hp : PlainIx b := by intro _ _; rfl) : DE X T U (.Subscript a b pos) ds d := dv_ix ix_tup (r2_ixT h) ha hb hp
theorem de_ixS {c : Nat} (ha : DE X T U a ds (.str z)) (hb : DE X T U b ds (.int i)) (hl : z.length ≤ sizeLine) (h : atI z.cps.toList i = some c) (hp : PlainIx b := by intro _ _; rfl) : DE X T U (.Subscript a b pos) ds (.str ⟨#[c]⟩) := dv_ix ix_str (r2_ixS hl h) ha hb hp
theorem dt_inS (ha : DE X T U a ds (.str x)) (hb : DE X T U b ds (.lst (ns.map .str))) (hn : behindInMarks .In b = false := by rfl) : DT X T U (.Compare a [.In] [b] pos) ds (decide (x ∈ ns)) := dt_cmp op_in_seq r2_inS ha hb hn
theorem dt_niS (ha : DE X T U a ds (.str x)) (hb : DE X T U b ds (.lst (ns.map .str))) (hn : behindInMarks .NotIn b = false := by rfl) : DT X T U (.Compare a [.NotIn] [b] pos) ds (!decide (x ∈ ns)) := dt_cmp op_notIn_seq r2_niS ha hb hn
theorem de_inS (ha : DE X T U a ds (.str x)) (hb : DE X T U b ds (.lst (ns.map .str))) (hn : behindInMarks .In b = false := by rfl) : DE X T U (.Compare a [.In] [b] pos) ds (.bl (decide (x ∈ ns))) := dv_cmp op_in_seq r2_inS ha hb hn
theorem de_inC {c : Nat} (ha : DE X T U a ds (.str ⟨#[c]⟩)) (hb : DE X T U b ds (.str z)) (hn : behindInMarks .In b = false := by rfl) : DE X T U (.Compare a [.In] [b] pos) ds (.bl (decide (c ∈ z.cps.toList))) := dv_cmp op_in_sign r2_inC ha hb hn
theorem dt_eqX {α : Type} [DecidableEq α] [En α] {x y : α} (ha : DE X T U a ds (en x)) (hb : DE X T U b ds (en y)) (hu : X.A.units + 64 < cLine) (hd : PySem.W.Datum.depth α ≤ 64 := by decide) : DT X T U (.Compare a [.Eq] [b] pos) ds (decide (x = y)) := dt_cmp (op_eqP hu) (r2_eqX hd) ha hb
theorem dt_neX {α : Type} [DecidableEq α] [En α] {x y : α} (ha : DE X T U a ds (en x)) (hb : DE X T U b ds (en y)) (hu : X.A.units + 64 < cLine) (hd : PySem.W.Datum.depth α ≤ 64 := by decide) : DT X T U (.Compare a [.NotEq] [b] pos) ds (!decide (x = y)) := dt_cmp (op_neP hu) (r2_neX hd) ha hb
theorem de_eqX {α : Type} [DecidableEq α] [En α] {x y : α} (ha : DE X T U a ds (en x)) (hb : DE X T U b ds (en y)) (hu : X.A.units + 64 < cLine) (hd : PySem.W.Datum.depth α ≤ 64 := by decide) : DE X T U (.Compare a [.Eq] [b] pos) ds (.bl (decide (x = y))) := dv_cmp (op_eqP hu) (r2_eqX hd) ha hb
theorem dt_isN {j : Nat} {p : Pos} {d : D} {c : Bool} (ha : DE X T U a ds d) (hc : ∀ (G : Glb) (I : Hp) (v : V), Rep G I v d → decide (v = .non) = c) : DT X T U (.Compare a [.Is] [.Constant .none j p] pos) ds c :=
  (pt_cmp (pc_isN ha)).weak fun σ H Q ⟨I0, H0, I, en, k⟩ => ⟨I0, H0, I, en, fun v I' H' st r => ⟨c, by rw [hc _ _ _ r], k I' H' st⟩⟩
theorem dt_notN {j : Nat} {p : Pos} {d : D} {c : Bool} (ha : DE X T U a ds d) (hc : ∀ (G : Glb) (I : Hp) (v : V), Rep G I v d → decide (v = .non) = c) : DT X T U (.Compare a [.IsNot] [.Constant .none j p] pos) ds (!c) :=
  (pt_cmp (pc_notN ha)).weak fun σ H Q ⟨I0, H0, I, en, k⟩ => ⟨I0, H0, I, en, fun v I' H' st r => ⟨!c, by rw [hc _ _ _ r], k I' H' st⟩⟩
theorem dv_cat (ha : DE X T U a ds (.lst xs)) (hb : DE X T U b ds (.lst ys)) (hl : xs.length + ys.length ≤ 100000) : DV X T U (.BinOp a .Add b pos) ds (.own (xs ++ ys)) := dv_op op_cat (r2_cat hl) ha hb
theorem de_mulS {n : Int} (ha : DE X T U a ds (.str z)) (hb : DE X T U b ds (.int n)) (h : PySem.MulOk z n) : DE X T U (.BinOp a .Mult b pos) ds (.str (PySem.Txt.mul z n)) := dv_op op_mulS (r2_mulS h) ha hb
end
end
end Lp

/-! The judgements over data: slices, calls of the built-in, dicts, several targets at once. -/
namespace Lp
open PySem PySem.Spec PyProof.Rows L2
def cutG {α : Type} (xs : List α) (lo hi : Option Int) : List α := (xs.drop (HT.sIx xs.length 0 lo)).take (HT.sIx xs.length xs.length hi - HT.sIx xs.length 0 lo)
section
variable {X : Cx} {T : List NdefX.NTab} {W : WX} {U : Bool} {ds : List DS} {s : DS} {E : DEn}
/-! ### slices -/
theorem do_none : DO X T U none ds none := by
  have h : PO X none tNoPart := po_none
  exact ⟨fun pins s σ H Q I ⟨I0, H0, I1, en, k⟩ => h.run pins s σ H Q I (k I1 H (Step.refl en.sub))⟩
theorem do_some {e : Expr} {i : Int} (h : DE X T U e ds (.int i)) : DO X T U (some e) ds (some i) := by
  have q := po_some h
  exact ⟨fun pins s σ H Q I ⟨I0, H0, I1, en, k⟩ => q.run pins s σ H Q I ⟨I0, H0, I1, en, fun v I2 H2 s2 r2 => by
    cases r2
    exact ⟨i, rfl, k I2 H2 s2⟩⟩⟩
theorem dv_slL {e : Expr} {lo hi : Option Expr} {pos p2 : Pos} {xs : List D} {l u : Option Int} (he : DE X T U e ds (.lst xs)) (hl : DO X T U lo ds l) (hh : DO X T U hi ds u) : DV X T U (.Subscript e (.Slice lo hi none p2) pos) ds (.own (cutG xs l u)) :=
  (pe_slice sl_list he hl hh).weak fun σ H Q ⟨I0, H0, I, en, k⟩ => ⟨I0, H0, I, en, fun v I1 H1 s1 r1 => ⟨I0, H0, I1, en.step s1, fun I2 H2 s2 => ⟨I0, H0, I2, (en.step s1).step s2, fun I3 H3 s3 => by
    cases r1 with
    | @lst p vs _ a b =>
      have s4 := (s1.trans s2).trans s3
      have s5 := s2.trans s3
      refine ⟨p, vs, rfl, SqL.of (s3.sub.lst (s5.isub _ _ a)), fun q hq => ?_⟩
      refine k _ I3 _ (s4.trans (Step.newOwn s3.sub hq)) ⟨q, _, rfl, s4.free hq, s3.sub.free hq, upd_same, ?_⟩
      show Reps _ I3 (cutV vs l u) (cutG xs l u)
      unfold cutV cutG
      rw [b.len]
      exact ((b.mono s5.isub).drop _).take _⟩⟩⟩
theorem de_slS {e : Expr} {lo hi : Option Expr} {pos p2 : Pos} {z : Str} {l u : Option Int} (he : DE X T U e ds (.str z)) (hl : DO X T U lo ds l) (hh : DO X T U hi ds u) (hz : z.length ≤ sizeLine) : DE X T U (.Subscript e (.Slice lo hi none p2) pos) ds (.str (cutS z l u)) :=
  (pe_slice sl_str he hl hh).weak fun σ H Q ⟨I0, H0, I, en, k⟩ => ⟨I0, H0, I, en, fun v I1 H1 s1 r1 => ⟨I0, H0, I1, en.step s1, fun I2 H2 s2 => ⟨I0, H0, I2, (en.step s1).step s2, fun I3 H3 s3 => by
    cases r1
    exact ⟨z, rfl, hz, k _ I3 H3 ((s1.trans s2).trans s3) (.str _)⟩⟩⟩⟩
/-! ### calls of the built-in -/
section
variable {G : Glb}
theorem rc_lenL {xs : List D} : RCD G (fun vs H Q => ∃ x n, vs = [x] ∧ LenV G.K x H n ∧ Q (.int n) H) [.lst xs] (.im (.int (xs.length : Int))) := fun I H vs Q r h k => by
  cases h with
  | cons a b =>
    cases b
    cases a with
    | @lst p ws _ a b => exact ⟨_, ws.length, rfl, .inl ⟨ws, SqL.of (r.lst a), rfl⟩, by rw [b.len]; exact k _ I H (Step.refl r) (.int _)⟩
theorem rc_lenT {xs : List D} : RCD G (fun vs H Q => ∃ x n, vs = [x] ∧ LenV G.K x H n ∧ Q (.int n) H) [.tup xs] (.im (.int (xs.length : Int))) := fun I H vs Q r h k => by
  cases h with
  | cons a b =>
    cases b
    cases a with
    | @tup p ws _ a b => exact ⟨_, ws.length, rfl, .inr ⟨ws, SqT.of (r.tup a), rfl⟩, by rw [b.len]; exact k _ I H (Step.refl r) (.int _)⟩
theorem rc_lenS {z : Str} (hz : z.length ≤ sizeLine) : RCD G (fun vs H Q => ∃ x n, vs = [x] ∧ LenV G.K x H n ∧ Q (.int n) H) [.str z] (.im (.int (z.length : Int))) := fun I H vs Q r h k => by
  cases h with
  | cons a b =>
    cases b
    cases a
    exact ⟨_, z.length, rfl, ⟨hz, rfl⟩, k _ I H (Step.refl r) (.int _)⟩
theorem rc_abs {i : Int} : RCD G (fun xs H Q => ∃ i, xs = [.int i] ∧ Q (.int (if i < 0 then -i else i)) H) [.int i] (.im (.int (if i < 0 then -i else i))) := fun I H vs Q r h k => by
  cases h with
  | cons a b =>
    cases b; cases a
    exact ⟨i, rfl, k _ I H (Step.refl r) (.int _)⟩
theorem rc_max {i j : Int} : RCD G (fun xs H Q => ∃ i j, xs = [.int i, .int j] ∧ Q (.int (if j > i then j else i)) H) [.int i, .int j] (.im (.int (if j > i then j else i))) := fun I H vs Q r h k => by
  cases h with
  | cons a b =>
    cases a
    cases b with
    | cons a b =>
      cases a; cases b
      exact ⟨i, j, rfl, k _ I H (Step.refl r) (.int _)⟩
theorem rc_min {i j : Int} : RCD G (fun xs H Q => ∃ i j, xs = [.int i, .int j] ∧ Q (.int (if j < i then j else i)) H) [.int i, .int j] (.im (.int (if j < i then j else i))) := fun I H vs Q r h k => by
  cases h with
  | cons a b =>
    cases a
    cases b with
    | cons a b =>
      cases a; cases b
      exact ⟨i, j, rfl, k _ I H (Step.refl r) (.int _)⟩
theorem rc_sum {ns : List Int} : RCD G (rSum G.K) [.lst (ns.map .int)] (.im (.int ns.sum)) := fun I H vs Q r h k => by
  cases h with
  | cons a b =>
    cases b
    cases a with
    | lst a b =>
      obtain rfl := b.ints
      exact ⟨_, ns, rfl, SqL.of (r.lst a), k _ I H (Step.refl r) (.int _)⟩
theorem rc_all {bs : List Bool} : RCD G (rAll G.K) [.lst (bs.map .bl)] (.im (.bl (bs.all id))) := fun I H vs Q r h k => by
  cases h with
  | cons a b =>
    cases b
    cases a with
    | lst a b =>
      obtain rfl := b.bls
      exact ⟨_, bs, rfl, SqL.of (r.lst a), k _ I H (Step.refl r) (.bl _)⟩
theorem rc_any {bs : List Bool} : RCD G (rAny G.K) [.lst (bs.map .bl)] (.im (.bl (bs.any id))) := fun I H vs Q r h k => by
  cases h with
  | cons a b =>
    cases b
    cases a with
    | lst a b =>
      obtain rfl := b.bls
      exact ⟨_, bs, rfl, SqL.of (r.lst a), k _ I H (Step.refl r) (.bl _)⟩
def rListOf (K : PySem.W.Frag) : List V → Hp → VK → Prop := fun xs H Q => ∃ p ys, xs = [.ref p] ∧ (SqL K H p ys ∨ SqT K H p ys) ∧ ∀ l, H l = none → Q (.ref l) (upd H l (.lst ys))
theorem rc_list {xs : List D} : RCD G (rListOf G.K) [.lst xs] (.own xs) := fun I H vs Q r h k => by
  cases h with
  | cons a b =>
    cases b
    cases a with
    | @lst p ws _ a b => exact ⟨p, ws, rfl, .inl (SqL.of (r.lst a)), fun l hl => k _ I _ (Step.newOwn r hl) ⟨l, ws, rfl, hl, r.free hl, upd_same, b⟩⟩
end
section
variable {e a b : Expr} {p pos : Pos} {xs : List D} {i j : Int} {z : Str} {ns : List Int} {bs : List Bool}
theorem de_lenL (ha : DE X T U e ds (.lst xs)) (hg : Gl X "len") (hm : X.mg "len" = none) (he : starEach [e] X.env = (false, eval e X.env) :: starEach [] X.env := by rfl) : DE X T U (.Call (.Name "len" p) [e] [] pos) ds (.int (xs.length : Int)) :=
  dv_callB call_len rc_lenL hg hm boot_len (da_cons ha da_nil he) (by decide) (by decide) he
theorem de_lenT (ha : DE X T U e ds (.tup xs)) (hg : Gl X "len") (hm : X.mg "len" = none) (he : starEach [e] X.env = (false, eval e X.env) :: starEach [] X.env := by rfl) : DE X T U (.Call (.Name "len" p) [e] [] pos) ds (.int (xs.length : Int)) :=
  dv_callB call_len rc_lenT hg hm boot_len (da_cons ha da_nil he) (by decide) (by decide) he
theorem de_lenS (ha : DE X T U e ds (.str z)) (hz : z.length ≤ sizeLine) (hg : Gl X "len") (hm : X.mg "len" = none) (he : starEach [e] X.env = (false, eval e X.env) :: starEach [] X.env := by rfl) : DE X T U (.Call (.Name "len" p) [e] [] pos) ds (.int (z.length : Int)) :=
  dv_callB call_len (rc_lenS hz) hg hm boot_len (da_cons ha da_nil he) (by decide) (by decide) he
theorem de_abs (ha : DE X T U e ds (.int i)) (hg : Gl X "abs") (hm : X.mg "abs" = none) (he : starEach [e] X.env = (false, eval e X.env) :: starEach [] X.env := by rfl) : DE X T U (.Call (.Name "abs" p) [e] [] pos) ds (.int (if i < 0 then -i else i)) :=
  dv_callB call_abs rc_abs hg hm (by decide +kernel) (da_cons ha da_nil he) (by decide) (by decide) he
theorem de_sum (ha : DE X T U e ds (.lst (ns.map .int))) (hg : Gl X "sum") (hm : X.mg "sum" = none) (he : starEach [e] X.env = (false, eval e X.env) :: starEach [] X.env := by rfl) (hc : X.calm = true := by rfl) : DE X T U (.Call (.Name "sum" p) [e] [] pos) ds (.int ns.sum) :=
  dv_callB (cr_sum hc) rc_sum hg hm (by decide +kernel) (da_cons ha da_nil he) (by decide) (by decide) he
theorem de_all (ha : DE X T U e ds (.lst (bs.map .bl))) (hg : Gl X "all") (hm : X.mg "all" = none) (he : starEach [e] X.env = (false, eval e X.env) :: starEach [] X.env := by rfl) (hc : X.calm = true := by rfl) : DE X T U (.Call (.Name "all" p) [e] [] pos) ds (.bl (bs.all id)) :=
  dv_callB (cr_all hc) rc_all hg hm (by decide +kernel) (da_cons ha da_nil he) (by decide) (by decide) he
theorem de_any (ha : DE X T U e ds (.lst (bs.map .bl))) (hg : Gl X "any") (hm : X.mg "any" = none) (he : starEach [e] X.env = (false, eval e X.env) :: starEach [] X.env := by rfl) (hc : X.calm = true := by rfl) : DE X T U (.Call (.Name "any" p) [e] [] pos) ds (.bl (bs.any id)) :=
  dv_callB (cr_any hc) rc_any hg hm (by decide +kernel) (da_cons ha da_nil he) (by decide) (by decide) he
theorem dv_list (ha : DE X T U e ds (.lst xs)) (hg : Gl X "list") (hm : X.mg "list" = none) (he : starEach [e] X.env = (false, eval e X.env) :: starEach [] X.env := by rfl) : DV X T U (.Call (.Name "list" p) [e] [] pos) ds (.own xs) :=
  dv_callTy call_list_of rc_list hg hm (by decide +kernel) (da_cons ha da_nil he) (by decide) (by decide) he
theorem de_max (ha : DE X T U a ds (.int i)) (hb : DE X T U b ds (.int j)) (hg : Gl X "max") (hm : X.mg "max" = none) (he : starEach [a, b] X.env = (false, eval a X.env) :: starEach [b] X.env := by rfl) (he2 : starEach [b] X.env = (false, eval b X.env) :: starEach [] X.env := by rfl)
    (hpl : (backTo pos (starEach [b] X.env)).any (·.1) = false := by rfl) (hc : X.calm = true := by rfl) : DE X T U (.Call (.Name "max" p) [a, b] [] pos) ds (.int (if j > i then j else i)) :=
  dv_callB (call_max2 hc) rc_max hg hm (by decide +kernel) (da_cons ha (da_cons hb da_nil he2) he) (by decide) (by decide) he hpl
theorem de_min (ha : DE X T U a ds (.int i)) (hb : DE X T U b ds (.int j)) (hg : Gl X "min") (hm : X.mg "min" = none) (he : starEach [a, b] X.env = (false, eval a X.env) :: starEach [b] X.env := by rfl) (he2 : starEach [b] X.env = (false, eval b X.env) :: starEach [] X.env := by rfl)
    (hpl : (backTo pos (starEach [b] X.env)).any (·.1) = false := by rfl) (hc : X.calm = true := by rfl) : DE X T U (.Call (.Name "min" p) [a, b] [] pos) ds (.int (if j < i then j else i)) :=
  dv_callB (call_min2 hc) rc_min hg hm (by decide +kernel) (da_cons ha (da_cons hb da_nil he2) he) (by decide) (by decide) he hpl
/-- len(set(names)) -/
theorem de_lenSet {p2 q : Pos} {ns : List Str} (ha : DE X T U e ds (.lst (ns.map .str))) (hl : ns.length ≤ 4000) (hg : Gl X "len") (hm : X.mg "len" = none) (hg2 : Gl X "set") (hm2 : X.mg "set" = none) (hc : X.calm = true := by rfl) (na : starEach [e] X.env = (false, eval e X.env) :: starEach [] X.env := by rfl) :
    DE X T U (.Call (.Name "len" p) [.Call (.Name "set" p2) [e] [] q] [] pos) ds (.int ((SetK.dd ns).length : Nat)) :=
  (SetK.pe_len hg hm hg2 hm2 ha hc na).weak fun σ H Q ⟨I0, H0, I, en, k⟩ => ⟨I0, H0, I, en, fun v I1 H1 s1 r1 => by
    cases r1 with
    | lst a b =>
      obtain rfl := b.strs
      exact ⟨_, ns, rfl, s1.sub.lst a, hl, k _ I1 H1 s1 (.int _)⟩⟩
end
/-! ### isinstance -/
def tyD : D → String
  | .non => "NoneType"
  | .bl _ => "bool"
  | .int _ => "int"
  | .str _ => "str"
  | .lst _ => "list"
  | .tup _ => "tuple"
  | _ => "?"
theorem tyX_of {G : Glb} {I H : Hp} {v : V} (r : RdS I H) : ∀ {d : D}, tyD d ≠ "?" → Rep G I v d → TyX G.K H v (.type (tyD d))
  | .non, _, h => by cases h; exact .base .non
  | .bl _, _, h => by cases h; exact .base (.bl _)
  | .int _, _, h => by cases h; exact .base (.int _)
  | .str _, _, h => by cases h; exact .base (.str _)
  | .lst _, _, h => by
    cases h with
    | lst a b => exact .base (.lst (r.lst a))
  | .tup _, _, h => by
    cases h with
    | tup a b => exact .base (.tup (r.tup a))
  | .ty _, n, _ => absurd rfl n
  | .dic _, n, _ => absurd rfl n
  | .ins _ _, n, _ => absurd rfl n
  | .fn _ _ _, n, _ => absurd rfl n
  | .any, n, _ => absurd rfl n
  | .cloE _ _, n, _ => absurd rfl n
theorem de_ty {x : Str} {n : String} {pos : Pos} (hg : Gl X x) (hm : X.mg x = none) (hv : bootBuiltins x = some (.type n)) (hn : x ≠ ("__name__" : Str) := by decide) (hd : (x == ("__debug__" : Str)) = false := by decide) : DE X T U (.Name x pos) ds (.ty n) :=
  (pe_bltn (v := .ty n) hg hm hv rfl hn hd).weak fun _ H _ ⟨_, _, I, en, k⟩ => k _ I H (Step.refl en.sub) (.ty n)
theorem de_isi {e : Expr} {x : Str} {n : String} {p pos q : Pos} {d : D} {b : Bool} (ha : DE X T U e ds d) (hb : DE X T U (.Name x q) ds (.ty n)) (ht : tyD d ≠ "?") (hk : kitB (tyD d) n = some b) (hg : Gl X "isinstance") (hm : X.mg "isinstance" = none)
    (he : starEach [e, .Name x q] X.env = (false, eval e X.env) :: starEach [.Name x q] X.env := by rfl) : DE X T U (.Call (.Name "isinstance" p) [e, .Name x q] [] pos) ds (.bl b) := by
  refine dv_callB call_isi (fun I H vs Q r h k => ?_) hg hm (by decide +kernel) (da_cons ha (da_cons hb da_nil) he) (by decide) (by decide) he
  cases h with
  | cons a c =>
    cases c with
    | cons c f =>
      cases f
      cases c
      exact ⟨_, _, _, _, b, rfl, .ty n, tyX_of r ht a, kit_ty hk, k _ I H (Step.refl r) (.bl b)⟩
/-! ### dicts with texts as keys -/
def lookD (kvs : List (Str × D)) (k : Str) : Option D := (kvs.find? fun kv => decide (kv.1 = k)).map (·.2)
def putD (kvs : List (Str × D)) (k : Str) (d : D) : List (Str × D) := if (kvs.any fun kv => decide (kv.1 = k)) = true then kvs.map (fun kv => if kv.1 = k then (kv.1, d) else kv) else kvs ++ [(k, d)]
def dropD (kvs : List (Str × D)) (k : Str) : List (Str × D) := kvs.filter fun kv => decide (kv.1 ≠ k)
section
variable {G : Glb} {I : Hp}
theorem inr_dec (a b : Str) : decide ((Sum.inr a : Key) = Sum.inr b) = decide (a = b) := key_rr a b
theorem look_rep : ∀ {fs : List (Str × V)} {kds : List (Str × D)}, RepF G I fs kds → ∀ (k : Str), match lookD kds k with
    | none => valV (kvK fs) (Sum.inr k) = none
    | some d => ∃ v, valV (kvK fs) (Sum.inr k) = some v ∧ Rep G I v d
  | _, _, .nil, k => rfl
  | _, _, .cons (x := x) (v := v) (d := d) (vs := vs) (ds := r) a b, k => by
    by_cases e : x = k
    · have h1 : lookD ((x, d) :: r) k = some d := by
        unfold lookD
        rw [List.find?_cons, decide_eq_true e]
        rfl
      rw [h1]
      exact ⟨v, valV_pos (by rw [← e]), a⟩
    · have h1 : lookD ((x, d) :: r) k = lookD r k := by
        unfold lookD
        rw [List.find?_cons, decide_eq_false e]
      rw [h1]
      have h2 : valV (kvK ((x, v) :: vs)) (Sum.inr k) = valV (kvK vs) (Sum.inr k) := valV_neg fun z => e (Sum.inr.inj z)
      rw [h2]
      exact look_rep b k
theorem any_rep (k : Str) : ∀ {fs : List (Str × V)} {kds : List (Str × D)}, RepF G I fs kds → ((kvK fs).any fun kv => decide (kv.1 = Sum.inr k)) = kds.any fun kv => decide (kv.1 = k)
  | _, _, .nil => rfl
  | _, _, .cons (x := x) a b => by
    show (decide ((Sum.inr x : Key) = Sum.inr k) || _) = (decide (x = k) || _)
    rw [inr_dec, any_rep k b]
theorem RepF.len : ∀ {fs : List (Str × V)} {kds : List (Str × D)}, RepF G I fs kds → fs.length = kds.length
  | _, _, .nil => rfl
  | _, _, .cons _ b => congrArg (· + 1) b.len
theorem RepF.app : ∀ {fs gs : List (Str × V)} {kds lds : List (Str × D)}, RepF G I fs kds → RepF G I gs lds → RepF G I (fs ++ gs) (kds ++ lds)
  | _, _, _, _, .nil, h => h
  | _, _, _, _, .cons a b, h => .cons a (b.app h)
theorem put_map {k : Str} {v : V} {d : D} (hv : Rep G I v d) : ∀ {fs : List (Str × V)} {kds : List (Str × D)}, RepF G I fs kds → ∃ fs', (kvK fs).map (fun kv => if kv.1 = Sum.inr k then (kv.1, v) else kv) = kvK fs' ∧ RepF G I fs' (kds.map fun kv => if kv.1 = k then (kv.1, d) else kv)
  | _, _, .nil => ⟨[], rfl, .nil⟩
  | _, _, .cons (x := x) (v := v1) (d := d1) a b => by
    obtain ⟨fs', e, r⟩ := put_map hv b
    by_cases h : x = k
    · refine ⟨(x, v) :: fs', ?_, ?_⟩
      · show (if (Sum.inr x : Key) = Sum.inr k then ((Sum.inr x : Key), v) else _) :: _ = _
        rw [if_pos (by rw [h])]
        exact congrArg _ e
      · rw [List.map_cons]
        show RepF G I _ ((if x = k then (x, d) else (x, d1)) :: _)
        rw [if_pos h]
        exact .cons hv r
    · refine ⟨(x, v1) :: fs', ?_, ?_⟩
      · show (if (Sum.inr x : Key) = Sum.inr k then ((Sum.inr x : Key), v) else ((Sum.inr x : Key), v1)) :: _ = _
        rw [if_neg fun z => h (Sum.inr.inj z)]
        exact congrArg _ e
      · rw [List.map_cons]
        show RepF G I _ ((if x = k then (x, d) else (x, d1)) :: _)
        rw [if_neg h]
        exact .cons a r
theorem put_rep {fs : List (Str × V)} {kds : List (Str × D)} {k : Str} {v : V} {d : D} (h : RepF G I fs kds) (hv : Rep G I v d) : ∃ fs', putK (kvK fs) (Sum.inr k) v = kvK fs' ∧ RepF G I fs' (putD kds k d) := by
  unfold putK putD
  rw [any_rep k h]
  by_cases e : (kds.any fun kv => decide (kv.1 = k)) = true
  · rw [if_pos e, if_pos e]
    exact put_map hv h
  · rw [if_neg e, if_neg e]
    exact ⟨fs ++ [(k, v)], (List.map_append (l₁ := fs) (l₂ := [(k, v)])).symm, h.app (.cons hv .nil)⟩
end
section
variable {a b : Expr} {pos : Pos} {k : Str} {kvs : List (Str × D)} {d : D}
theorem dv_newD : DV X T U (.Dict [] [] pos) ds (.ownD []) := pe_dnewK.weak fun σ H Q ⟨I0, H0, I, en, k⟩ => fun p hp =>
  k _ I _ (Step.newOwn en.sub hp) ⟨p, [], rfl, hp, en.sub.free hp, upd_same, .nil⟩
theorem din_run {G : Glb} {f : Option V → Bool} {σ : L2.St} {H : Hp} {Q : VK} {c : Bool} (hc : ∀ o : Option V, o.isSome = (lookD kvs k).isSome → f o = c) (h : eV G U ds (.im (.bl c)) σ H Q) :
    (eV G U ds (.im (.str k))) σ H fun y H1 => (eV G U ds (.im (.dic kvs))) σ H1 fun x H2 => ∃ a o, x = .ref a ∧ DGet H2 a y o ∧ Q (.bl (f o)) H2 := by
  obtain ⟨I0, H0, I, en, kk⟩ := h
  refine ⟨I0, H0, I, en, fun v I1 H1 s1 r1 => ⟨I0, H0, I1, en.step s1, fun w I2 H2 s2 r2 => ?_⟩⟩
  cases r1
  cases r2 with
  | @dic p fs _ e1 e2 =>
    refine ⟨p, valV (kvK fs) (Sum.inr k), rfl, .inl ⟨_, Sum.inr k, s2.sub.dic e1, rfl, rfl⟩, ?_⟩
    have z := look_rep e2 k
    have e : (valV (kvK fs) (Sum.inr k)).isSome = (lookD kvs k).isSome := by
      cases q : lookD kvs k with
      | none =>
        rw [q] at z
        have z2 : valV (kvK fs) (Sum.inr k) = none := z
        rw [z2] <;> rfl
      | some d =>
        rw [q] at z
        obtain ⟨v, z1, _⟩ := z
        rw [z1] <;> rfl
    rw [hc _ e]
    exact kk _ I2 H2 (s1.trans s2) (.bl c)
theorem dt_inD (ha : DE X T U a ds (.str k)) (hb : DE X T U b ds (.dic kvs)) (hu : X.A.units + 1 < cLine) (hn : behindInMarks .In b = false := by rfl) : DT X T U (.Compare a [.In] [b] pos) ds (lookD kvs k).isSome :=
  (pt_cmp (pc_din hu ha hb) hn).weak fun σ H Q ⟨I0, H0, I, en, kk⟩ => din_run (f := fun o => o.isSome) (Q := fun x H' => ∃ c, x = .bl c ∧ Q c H') (fun _ h => h) ⟨I0, H0, I, en, fun v I' H' st r => by cases r; exact ⟨_, rfl, kk I' H' st⟩⟩
theorem de_inD (ha : DE X T U a ds (.str k)) (hb : DE X T U b ds (.dic kvs)) (hu : X.A.units + 1 < cLine) (hn : behindInMarks .In b = false := by rfl) : DE X T U (.Compare a [.In] [b] pos) ds (.bl (lookD kvs k).isSome) :=
  (pe_cmp (pc_din hu ha hb) hn).weak fun σ H Q h => din_run (f := fun o => o.isSome) (fun _ h => h) h
theorem dt_niD (ha : DE X T U a ds (.str k)) (hb : DE X T U b ds (.dic kvs)) (hu : X.A.units + 1 < cLine) (hn : behindInMarks .NotIn b = false := by rfl) : DT X T U (.Compare a [.NotIn] [b] pos) ds (!(lookD kvs k).isSome) :=
  (pt_cmp (pc_dnotin hu ha hb) hn).weak fun σ H Q ⟨I0, H0, I, en, kk⟩ => din_run (f := fun o => !o.isSome) (Q := fun x H' => ∃ c, x = .bl c ∧ Q c H') (fun _ h => by rw [h]) ⟨I0, H0, I, en, fun v I' H' st r => by cases r; exact ⟨_, rfl, kk I' H' st⟩⟩
theorem de_dget (ha : DE X T U a ds (.dic kvs)) (hb : DE X T U b ds (.str k)) (hk : lookD kvs k = some d) (hu : X.A.units + 1 < cLine) (hn : NoSl b := by intro _ _; rfl) : DE X T U (.Subscript a b pos) ds d :=
  (pe_dget hu ha hb hn).weak fun σ H Q ⟨I0, H0, I, en, kk⟩ => ⟨I0, H0, I, en, fun v I1 H1 s1 r1 => ⟨I0, H0, I1, en.step s1, fun w I2 H2 s2 r2 => by
    cases r2
    cases r1 with
    | @dic p fs _ e1 e2 =>
      have z := look_rep (e2.mono s2.isub) k
      rw [hk] at z
      obtain ⟨v, z1, z2⟩ := z
      exact ⟨p, v, rfl, .inl ⟨_, Sum.inr k, s2.sub.dic (s2.isub _ _ e1), rfl, z1.symm⟩, kk _ I2 H2 (s1.trans s2) z2⟩⟩⟩
/-- x[k] = e, x a dict of one's own -/
theorem ds_dput (i : Nat) {e : Expr} {x : Str} {p pos' : Pos} (h : ds[i]? = some (.ownD kvs)) (hb : DE X T U b ds (.str k)) (he : DE X T U e ds d) (hl : kvs.length < 100000) (q : E.nx (ds.set i (.ownD (putD kvs k d)))) (hu : X.A.units + 1 < cLine) (hN : X.N[i]? = some x := by rfl)
    (hv : Vis X.env.scope x := by first | exact Or.inl rfl | exact Or.inr (Or.inl rfl) | exact Or.inr (Or.inr rfl)) (hd : (x == ("__debug__" : Str)) = false := by decide) (hcd : (x == ("__classdict__" : Str)) = false := by decide)
    (hs : swapsWith e (some (.Subscript (.Name x p) b pos')) pos.line X.env = pure false := by rfl) : DSt X T W U (.Assign [.Subscript (.Name x p) b pos'] e pos) ds E :=
  (ps_dput hu (pe_var hN hv hd hcd) hb he hs).weak fun D σ H ⟨I0, H0, I, en, k1, _⟩ => ⟨I0, H0, I, en, fun v I1 H1 s1 r1 => by
    obtain ⟨a, fs, e1, e2, e3, e4, e5⟩ := (en.step s1).ownD h
    refine ⟨_, e1, I0, H0, I1, en.step s1, fun w I2 H2 s2 r2 => ?_⟩
    cases r2
    have a1 := s2.keep a _ e2 (fun _ z => nomatch z) (.inl e4)
    have a2 := s2.fresh a _ e4 e2 (fun _ q => nomatch q) (fun _ q => nomatch q)
    obtain ⟨fs', z1, z2⟩ := put_rep (k := k) (e3.mono s2.isub) (Rep.mono s2.isub r1)
    refine ⟨a, _, rfl, .inl ⟨_, Sum.inr k, a1, rfl, ?_, rfl⟩, ?_⟩
    · rw [kvK, List.length_map, e3.len]
      exact Nat.lt_of_lt_of_le hl (by decide)
    · rw [z1]
      refine k1 _ _ ⟨_, I2, ((en.step s1).step s2).mutOwn (d' := .ownD (putD kvs k d)) e1 (.inr ⟨_, h⟩) a2 e5 (by rw [a1]; exact ownNd) ⟨a, fs', rfl, upd_same, z2, a2, e5, rfl⟩, (s1.trans s2).pres.trans (Pres.own a2 a1 fun _ _ z => nomatch z), q⟩⟩
end
/-! ### two, three targets at once -/
section
variable {a b c : Expr} {x y z : Str} {px py pz pt pos pt2 : Pos} {kt k2 : Nat} {s1 s2 s3 : DS}
theorem ds_par2 (i j : Nat) (ha : DV X T U a ds s1) (hb : DV X T U b ds s2) (k : E.nx ((ds.set i s1).set j s2)) (hN : X.N.Nodup) (hij : i ≠ j)
    (hp : PS X (.Assign [.Tuple [.Name x px, .Name y py] kt pt] (.Tuple [a, b] k2 pt2) pos) (tPar i j (tCons (eV (gx X T) U ds s1) (tCons (eV (gx X T) U ds s2) tNil)))) : DSt X T W U (.Assign [.Tuple [.Name x px, .Name y py] kt pt] (.Tuple [a, b] k2 pt2) pos) ds E :=
  hp.weak fun D σ H ⟨I0, H0, I, en, k1, _⟩ => ⟨I0, H0, I, en, fun v I1 H1 q1 r1 => ⟨I0, H0, I1, en.step q1, fun w I2 H2 q2 r2 => ⟨v, w, rfl, k1 _ H2 ⟨_, I2, ((en.setV q1 i r1).setV q2 j r2), (q1.trans q2).pres, k⟩⟩⟩⟩
/-- the tuple is made, then taken apart -/
theorem ds_par2t (i j : Nat) (ha : DV X T U a ds s1) (hb : DV X T U b ds s2) (k : E.nx ((ds.set i s1).set j s2))
    (hp : PS X (.Assign [.Tuple [.Name x px, .Name y py] kt pt] (.Tuple [a, b] k2 pt2) pos) (tAsg (tTup (tCons (eV (gx X T) U ds s1) (tCons (eV (gx X T) U ds s2) tNil))) (gTup X.K 2 (gCons (gName i) (gCons (gName j) gNil))))) : DSt X T W U (.Assign [.Tuple [.Name x px, .Name y py] kt pt] (.Tuple [a, b] k2 pt2) pos) ds E :=
  hp.weak fun D σ H ⟨I0, H0, I, en, k1, _⟩ => ⟨I0, H0, I, en, fun v I1 H1 q1 r1 => ⟨I0, H0, I1, en.step q1, fun w I2 H2 q2 r2 => ⟨(by decide : 2 ≤ sizeLine), fun p hp => by
    have q3 : Step (gx X T) I2 H2 I2 (upd H2 p (.tup [v, w])) := Step.newOwn q2.sub hp
    exact ⟨p, [v, w], rfl, SqT.of upd_same, rfl, v, [w], rfl, w, [], rfl, rfl, k1 _ _ ⟨_, I2, ((en.setV q1 i r1).setV q2 j r2).step q3, ((q1.trans q2).trans q3).pres, k⟩⟩⟩⟩⟩
theorem ds_par3 (i j l : Nat) (ha : DV X T U a ds s1) (hb : DV X T U b ds s2) (hc : DV X T U c ds s3) (k : E.nx (((ds.set i s1).set j s2).set l s3))
    (hp : PS X (.Assign [.Tuple [.Name x px, .Name y py, .Name z pz] kt pt] (.Tuple [a, b, c] k2 pt2) pos) (tPar3 i j l (tCons (eV (gx X T) U ds s1) (tCons (eV (gx X T) U ds s2) (tCons (eV (gx X T) U ds s3) tNil))))) : DSt X T W U (.Assign [.Tuple [.Name x px, .Name y py, .Name z pz] kt pt] (.Tuple [a, b, c] k2 pt2) pos) ds E :=
  hp.weak fun D σ H ⟨I0, H0, I, en, k1, _⟩ => ⟨I0, H0, I, en, fun v I1 H1 q1 r1 => ⟨I0, H0, I1, en.step q1, fun w I2 H2 q2 r2 => ⟨I0, H0, I2, (en.step q1).step q2, fun u I3 H3 q3 r3 =>
    ⟨v, w, u, rfl, k1 _ H3 ⟨_, I3, (((en.setV q1 i r1).setV q2 j r2).setV q3 l r3), ((q1.trans q2).trans q3).pres, k⟩⟩⟩⟩⟩
theorem ds_par3t (i j l : Nat) (ha : DV X T U a ds s1) (hb : DV X T U b ds s2) (hc : DV X T U c ds s3) (k : E.nx (((ds.set i s1).set j s2).set l s3))
    (hp : PS X (.Assign [.Tuple [.Name x px, .Name y py, .Name z pz] kt pt] (.Tuple [a, b, c] k2 pt2) pos) (tAsg (tTup (tCons (eV (gx X T) U ds s1) (tCons (eV (gx X T) U ds s2) (tCons (eV (gx X T) U ds s3) tNil)))) (gTup X.K 3 (gCons (gName i) (gCons (gName j) (gCons (gName l) gNil)))))) :
    DSt X T W U (.Assign [.Tuple [.Name x px, .Name y py, .Name z pz] kt pt] (.Tuple [a, b, c] k2 pt2) pos) ds E :=
  hp.weak fun D σ H ⟨I0, H0, I, en, k1, _⟩ => ⟨I0, H0, I, en, fun v I1 H1 q1 r1 => ⟨I0, H0, I1, en.step q1, fun w I2 H2 q2 r2 => ⟨I0, H0, I2, (en.step q1).step q2, fun u I3 H3 q3 r3 => ⟨(by decide : 3 ≤ sizeLine), fun p hp => by
    have q4 : Step (gx X T) I3 H3 I3 (upd H3 p (.tup [v, w, u])) := Step.newOwn q3.sub hp
    exact ⟨p, [v, w, u], rfl, SqT.of upd_same, rfl, v, [w, u], rfl, w, [u], rfl, u, [], rfl, rfl, k1 _ _ ⟨_, I3, (((en.setV q1 i r1).setV q2 j r2).setV q3 l r3).step q4, (((q1.trans q2).trans q3).trans q4).pres, k⟩⟩⟩⟩⟩⟩
end
end
end Lp

/-! Defs by names; texts' lengths; what is often asked. -/
namespace Lp
open PySem PySem.Spec PyProof.Rows L2
def noFd : FuncData := PySem.W.fnOf "" "" { posonlyargs := [], args := [], vararg := none, kwonlyargs := [], kw_defaults := [], kwarg := none, defaults := [] } [] { kind := .function, names := [], isGenerator := false, isCoroutine := false } .none .none .none .none none .none .none
def fdOf (K : PySem.W.Frag) (f : Addr) : FuncData := match K.lookup f with
  | some ⟨_, _, .func fd, _⟩ => fd
  | _ => noFd
theorem funD_of {K : PySem.W.Frag} {x q : Str} {ps : Arguments} {b : List Stmt} {sc : Scope} {dv : List V} {kw : List (Str × V)} {f : Addr} (h : ∃ fd, FunD K x q ps b sc dv kw f fd) : FunD K x q ps b sc dv kw f (fdOf K f) := by
  obtain ⟨fd, F⟩ := h
  have e : fdOf K f = fd := by
    obtain ⟨oc, od, dV, kV, doc, pm, an, cdv, ct, osl, e1, lk, _⟩ := F.ex
    unfold fdOf
    rw [lk]
  rw [e]
  exact F
/-- a def by its name, with what it does -/
structure CallD (G : Glb) (k : Nat) (x : Str) (ps : List Str) (U : Bool) (A : List D → DS → Prop) : Prop where
  ok : FnOk G.P G.w G.K G.mg G.base CX0 k (He.ga G.K x) (fdOf G.K (He.ga G.K x)) ps (spD G U A)
  g : G.mg x = some (.ref (He.ga G.K x))
  n : L2.Binds G.K (fdOf G.K (He.ga G.K x)) ps []
  kp : PySem.W.keepIn G.K (.ref (He.ga G.K x)) = true
section
variable {X : Cx} {T : List NdefX.NTab} {W : WX} {U U' : Bool} {ds : List DS} {s : DS} {E : DEn}
theorem dv_c {A : List D → DS → Prop} {k j : Nat} {ps : List Str} {x : Str} {p pos : Pos} {e : Expr} {es : List Expr} {xs : List D} (C : CallD (gx X T) k x ps U' A) (hr : Room j X.A) (ha : DA X T U (e :: es) ds xs) (hA : A xs s) (hU : U' = true → U = true := by first | exact id | exact fun z => nomatch z) (hk : k ≤ j := by decide)
    (hg : Gl X x := by rfl) (hdb : (x == ("__debug__" : Str)) = false := by decide) (he : starEach (e :: es) X.env = (false, eval e X.env) :: starEach es X.env := by rfl) (hpl : (backTo pos (starEach es X.env)).any (·.1) = false := by rfl) : DV X T U (.Call (.Name x p) (e :: es) [] pos) ds s :=
  dv_call C.ok hU (hr.mono hk) hg C.g C.kp C.n ha hA hdb he hpl
theorem dv_c0 {A : List D → DS → Prop} {k j : Nat} {ps : List Str} {x : Str} {p pos : Pos} (C : CallD (gx X T) k x ps U' A) (hr : Room j X.A) (hA : A [] s) (hU : U' = true → U = true := by first | exact id | exact fun z => nomatch z) (hk : k ≤ j := by decide)
    (hg : Gl X x := by rfl) (hdb : (x == ("__debug__" : Str)) = false := by decide) : DV X T U (.Call (.Name x p) [] [] pos) ds s :=
  dv_call0 C.ok hU (hr.mono hk) hg C.g C.kp C.n hA hdb
end
/-! ### items of tuples, filterMap -/
def D.at (d : D) (i : Nat) : D := match d with
  | .tup xs => xs.getD i .non
  | _ => .non
theorem fm_map {α β : Type} {f : α → Option β} {h : α → β} : ∀ {l : List α}, (∀ a ∈ l, f a = some (h a)) → l.filterMap f = l.map h
  | [], _ => rfl
  | a :: l, q => by
    rw [List.filterMap_cons, q a List.mem_cons_self, List.map_cons, fm_map fun b hb => q b (List.mem_cons_of_mem _ hb)]
theorem fm_filter {α β γ : Type} {f : β → Option γ} {e : α → β} {p : α → Bool} {h : α → γ} : ∀ {l : List α}, (∀ a ∈ l, f (e a) = if p a = true then some (h a) else none) → (l.map e).filterMap f = (l.filter p).map h
  | [], _ => rfl
  | a :: l, q => by
    have q1 := q a List.mem_cons_self
    rw [List.map_cons, List.filterMap_cons, q1, List.filter_cons, fm_filter (p := p) (h := h) fun b hb => q b (List.mem_cons_of_mem _ hb)]
    by_cases c : p a = true
    · rw [if_pos c, if_pos c, List.map_cons]
    · rw [if_neg c, if_neg c]
/-- enumerate of typed items -/
def enE {α : Type} (e : α → D) (p : α × Nat) : D := .tup [.int (p.2 : Int), e p.1]
theorem enumD_map {α : Type} (e : α → D) (l : List α) : enumD (l.map e) = l.zipIdx.map (enE e) := by
  apply List.ext_getElem?
  intro i
  unfold enumD
  rw [List.getElem?_map, List.getElem?_map, List.getElem?_zipIdx, List.length_map]
  by_cases h : i < l.length
  · rw [List.getElem?_eq_getElem (by rw [List.length_range]; exact h), List.getElem_range, List.getElem?_eq_getElem h]
    show some (D.tup [.int (i : Int), (l.map e).getD i .non]) = some (enE e (l[i], 0 + i))
    rw [List.getD_eq_getElem?_getD, List.getElem?_map, List.getElem?_eq_getElem h, Nat.zero_add]
    rfl
  · rw [List.getElem?_eq_none_iff.mpr (by rw [List.length_range]; omega), List.getElem?_eq_none_iff.mpr (by omega)]
    rfl
theorem zi_get {α : Type} {l : List α} {i : Nat} {p : α × Nat} (h : l.zipIdx[i]? = some p) : p.2 = i ∧ l[i]? = some p.1 := by
  rw [List.getElem?_zipIdx] at h
  cases e : l[i]? with
  | none => rw [e] at h; cases h
  | some a =>
    rw [e] at h
    have q := (Option.some.inj h).symm
    subst q
    exact ⟨Nat.zero_add i, rfl⟩
theorem enum_mem {xs : List D} {d : D} (h : d ∈ enumD xs) : ∃ (i : Nat) (x : D), xs[i]? = some x ∧ d = .tup [.int (i : Int), x] := by
  obtain ⟨i, hi⟩ := List.mem_iff_getElem?.mp h
  obtain ⟨x, h1, h2⟩ := enumD_get hi
  exact ⟨i, x, h1, h2⟩
theorem enum_fm {γ : Type} {xs : List D} {f : D → Option γ} {h : Nat → γ} (q : ∀ (i : Nat) (x : D), xs[i]? = some x → f (.tup [.int (i : Int), x]) = some (h i)) : (enumD xs).filterMap f = (List.range xs.length).map h := by
  unfold enumD
  rw [List.filterMap_map]
  refine fm_map fun i hi => ?_
  have hl := List.mem_range.mp hi
  have e := q i xs[i] (List.getElem?_eq_getElem hl)
  show f (.tup [.int (i : Int), xs.getD i .non]) = _
  rw [List.getD_eq_getElem?_getD, List.getElem?_eq_getElem hl]
  exact e
/-! ### slots forgotten -/
def forg (fs : List Nat) (ds : List DS) : List DS := fs.foldl (fun d i => d.set i .no) ds
theorem EnvR.forg {G : Glb} {U : Bool} {I0 H0 I H : Hp} {σ : L2.St} : ∀ (fs : List Nat) {ds : List DS}, EnvR G U I0 H0 I H σ ds → EnvR G U I0 H0 I H σ (Lp.forg fs ds)
  | [], _, e => e
  | i :: fs, _, e => EnvR.forg fs (e.forget i)
section
variable {X : Cx} {T : List NdefX.NTab} {W : WX} {U : Bool} {ds : List DS} {s : DS} {E : DEn}
theorem NxR.forg {G : Glb} {I0 H0 I H : Hp} {P : List DS → Prop} {σ' : L2.St} {H' : Hp} (fs : List Nat) (n : NxR G U I0 H0 I H (fun d => P (Lp.forg fs d)) σ' H') : NxR G U I0 H0 I H P σ' H' := by
  obtain ⟨d, I1, e, p, q⟩ := n
  exact ⟨_, I1, e.forg fs, p, q⟩
/-- the rest may be shown with slots forgotten -/
theorem dss_forg (fs : List Nat) {sts : List Stmt} (h : DSs X T W U sts (forg fs ds) E) : DSs X T W U sts ds E := PSs.weak h fun D σ H ⟨I0, H0, I, e, k⟩ => ⟨I0, H0, I, e.forg fs, k⟩
theorem dss_wk (fs : List Nat) (fc : List Nat) {sts : List Stmt} {P Q : List DS → Prop} (h : DSs X T W U sts ds { E with nx := fun d => P (forg fs d), ct := fun d => Q (forg fc d) }) : DSs X T W U sts ds { E with nx := P, ct := Q } :=
  PSs.weak h fun D σ H ⟨I0, H0, I, e, k1, k2, k3, k4, k5⟩ => ⟨I0, H0, I, e, fun s h n => k1 s h (n.forg fs), k2, k3, fun s h n => k4 s h (n.forg fc), k5⟩
theorem ds_forg (fs : List Nat) {st : Stmt} (h : DSt X T W U st (forg fs ds) E) : DSt X T W U st ds E := PS.weak h fun D σ H ⟨I0, H0, I, e, k⟩ => ⟨I0, H0, I, e.forg fs, k⟩
/-- a loop whose slots are known turn by turn: env i ahead of the turn i, but for those at fs -/
theorem ds_forE {α : Type} {e : α → D} {tg iter : Expr} {body : List Stmt} {pos : Pos} {xs : List α} (fs : List Nat) (env : Nat → List DS) (g : α → List DS → List DS) {js : List Nat} (h0 : forg fs ds = env 0) (hi : DI X T U tg iter (env 0) (xs.map e)) (hg : ∀ d ∈ xs, ∀ ds1, DG X T U tg ds1 (e d) (g d ds1) js)
    (hb : ∀ (i : Nat) (d : α), xs[i]? = some d → DSs X T W U body (g d (env i)) { E with nx := fun ds2 => forg fs ds2 = env (i + 1), ct := fun ds2 => forg fs ds2 = env (i + 1), bk := E.nx }) (hd : E.nx (env xs.length))
    (hp : PassesOwn (model X.prog X.w) X.A X.env X.xe) (hc : X.calm = true := by rfl) (hs : ∀ x, foldedSetIterable iter X.env x = pure x := by intro _; rfl) : DSt X T W U (.For tg iter body [] pos) ds E := by
  refine ds_forg fs ?_
  rw [h0]
  refine ds_for (fun i ds1 => ds1 = env i) g hi hg rfl (fun i d ds1 hx he => ?_) (fun ds1 he => ?_) hp hc hs
  · rw [he]
    exact dss_wk (E := { E with bk := E.nx }) (P := fun ds2 => ds2 = env (i + 1)) (Q := fun ds2 => ds2 = env (i + 1)) fs fs (hb i d hx)
  · rw [he]
    exact hd
/-- over a range -/
theorem ds_forR {tg iter : Expr} {body : List Stmt} {pos : Pos} {lo : Int} {n : Nat} (fs : List Nat) (env : Nat → List DS) (g : Nat → List DS → List DS) {js : List Nat} (h0 : forg fs ds = env 0) (hi : DI X T U tg iter (env 0) (rngD lo n)) (hg : ∀ i ∈ List.range n, ∀ ds1, DG X T U tg ds1 (.int (lo + (i : Int))) (g i ds1) js)
    (hb : ∀ i, i < n → DSs X T W U body (g i (env i)) { E with nx := fun ds2 => forg fs ds2 = env (i + 1), ct := fun ds2 => forg fs ds2 = env (i + 1), bk := E.nx }) (hd : E.nx (env n))
    (hp : PassesOwn (model X.prog X.w) X.A X.env X.xe) (hc : X.calm = true := by rfl) (hs : ∀ x, foldedSetIterable iter X.env x = pure x := by intro _; rfl) : DSt X T W U (.For tg iter body [] pos) ds E :=
  ds_forE (α := Nat) (e := fun i : Nat => .int (lo + (i : Int))) (xs := List.range n) fs env g h0 hi hg (fun i d hd => by
    obtain ⟨h1, rfl⟩ := rng_get hd
    exact hb _ h1) (by rw [List.length_range]; exact hd) hp hc hs
/-- over the enumeration of typed items -/
theorem ds_forN {α : Type} {e : α → D} {tg iter : Expr} {body : List Stmt} {pos : Pos} {xs : List α} (fs : List Nat) (env : Nat → List DS) (g : Nat → α → List DS → List DS) {js : List Nat} (h0 : forg fs ds = env 0) (hi : DI X T U tg iter (env 0) (enumD (xs.map e)))
    (hg : ∀ (i : Nat) (a : α), xs[i]? = some a → ∀ ds1, DG X T U tg ds1 (.tup [.int (i : Int), e a]) (g i a ds1) js)
    (hb : ∀ (i : Nat) (a : α), xs[i]? = some a → DSs X T W U body (g i a (env i)) { E with nx := fun ds2 => forg fs ds2 = env (i + 1), ct := fun ds2 => forg fs ds2 = env (i + 1), bk := E.nx }) (hd : E.nx (env xs.length))
    (hp : PassesOwn (model X.prog X.w) X.A X.env X.xe) (hc : X.calm = true := by rfl) (hs : ∀ x, foldedSetIterable iter X.env x = pure x := by intro _; rfl) : DSt X T W U (.For tg iter body [] pos) ds E :=
  ds_forE (α := α × Nat) (e := enE e) (xs := xs.zipIdx) fs env (fun p => g p.2 p.1) h0 (by rw [← enumD_map]; exact hi) (fun p hp ds1 => by
    obtain ⟨i, hi⟩ := List.mem_iff_getElem?.mp hp
    obtain ⟨h1, h2⟩ := zi_get hi
    exact hg p.2 p.1 (by rw [h1]; exact h2) ds1) (fun i p hd => by
    obtain ⟨h1, h2⟩ := zi_get hd
    rw [h1]
    exact hb i p.1 h2) (by rw [List.length_zipIdx]; exact hd) hp hc hs
end
/-! ### several targets, with their sides -/
section
variable {X : Cx} {T : List NdefX.NTab} {W : WX} {U : Bool} {ds : List DS} {s : DS} {E : DEn} {a b c : Expr} {x y z : Str} {px py pz pt pos pt2 : Pos} {kt k2 : Nat} {s1 s2 s3 : DS}
/-- two plain names -/
theorem ds_p2 (i j : Nat) (ha : DV X T U a ds s1) (hb : DV X T U b ds s2) (k : E.nx ((ds.set i s1).set j s2)) (hN : X.N.Nodup) (hij : i ≠ j := by decide) (hc : X.calm = true := by rfl) (hi : X.N[i]? = some x := by rfl) (hj : X.N[j]? = some y := by rfl)
    (hx : X.env.scope.names.lookup x = some .local := by rfl) (hy : X.env.scope.names.lookup y = some .local := by rfl) (he : starEach [a, b] X.env = (false, eval a X.env) :: starEach [b] X.env := by rfl) (he2 : starEach [b] X.env = (false, eval b X.env) :: starEach [] X.env := by rfl)
    (hw : swappedStores [.Tuple [.Name x px, .Name y py] kt pt] (.Tuple [a, b] k2 pt2) X.env = pure (some [x, y]) := by rfl) (hs : swapsWithSole [.Tuple [.Name x px, .Name y py] kt pt] (.Tuple [a, b] k2 pt2) pos.line X.env = pure false := by rfl) :
    DSt X T W U (.Assign [.Tuple [.Name x px, .Name y py] kt pt] (.Tuple [a, b] k2 pt2) pos) ds E :=
  ds_par2 i j ha hb k hN hij (ps_par hc hN hi hj hij hx hy (pa_cons ha (pa_cons hb pa_nil he2) he) hw hs)
/-- two names, one at least a cell -/
theorem ds_p2t (i j : Nat) (ha : DV X T U a ds s1) (hb : DV X T U b ds s2) (k : E.nx ((ds.set i s1).set j s2)) (hN : X.N.Nodup) (hc : X.calm = true := by rfl) (hi : X.N[i]? = some x := by rfl) (hj : X.N[j]? = some y := by rfl)
    (hx : Loc X.env.scope x := by first | exact Or.inl rfl | exact Or.inr rfl) (hy : Loc X.env.scope y := by first | exact Or.inl rfl | exact Or.inr rfl) (hfx : X.fn x = true ∨ X.env.scope.names.lookup x = some .local := by first | exact .inl rfl | exact .inr rfl) (hfy : X.fn y = true ∨ X.env.scope.names.lookup y = some .local := by first | exact .inl rfl | exact .inr rfl)
    (he : starEach [a, b] X.env = (false, eval a X.env) :: starEach [b] X.env := by rfl) (he2 : starEach [b] X.env = (false, eval b X.env) :: starEach [] X.env := by rfl)
    (hw : swappedStores [.Tuple [.Name x px, .Name y py] kt pt] (.Tuple [a, b] k2 pt2) X.env = pure none := by rfl) (hs : swapsWithSole [.Tuple [.Name x px, .Name y py] kt pt] (.Tuple [a, b] k2 pt2) pos.line X.env = pure false := by rfl)
    (h2 : (assignEach [.Name y py] X.env).map (·.2) = assign (.Name y py) X.env :: (assignEach [] X.env).map (·.2) := by rfl) (h1 : (assignEach [.Name x px, .Name y py] X.env).map (·.2) = assign (.Name x px) X.env :: (assignEach [.Name y py] X.env).map (·.2) := by rfl)
    (hn : (assignEach [.Name x px, .Name y py] X.env).length = 2 := by rfl) (hst : (assignEach [.Name x px, .Name y py] X.env).findIdx? (·.1) = none := by rfl) :
    DSt X T W U (.Assign [.Tuple [.Name x px, .Name y py] kt pt] (.Tuple [a, b] k2 pt2) pos) ds E :=
  ds_par2t i j ha hb k (ps_asg (pe_tup (pa_cons ha (pa_cons hb pa_nil he2) he)) (pg_tup hc (pgs_cons (pg_name hN hi hx hfx) (pgs_cons (pg_name hN hj hy hfy) pgs_nil h2) h1) hn hst) hs hw)
theorem ds_p3 (i j l : Nat) (ha : DV X T U a ds s1) (hb : DV X T U b ds s2) (hd : DV X T U c ds s3) (k : E.nx (((ds.set i s1).set j s2).set l s3)) (hN : X.N.Nodup) (hij : i ≠ j := by decide) (hil : i ≠ l := by decide) (hjl : j ≠ l := by decide) (hc : X.calm = true := by rfl) (hi : X.N[i]? = some x := by rfl) (hj : X.N[j]? = some y := by rfl) (hl : X.N[l]? = some z := by rfl)
    (hx : X.env.scope.names.lookup x = some .local := by rfl) (hy : X.env.scope.names.lookup y = some .local := by rfl) (hz : X.env.scope.names.lookup z = some .local := by rfl) (he : starEach [a, b, c] X.env = (false, eval a X.env) :: starEach [b, c] X.env := by rfl) (he2 : starEach [b, c] X.env = (false, eval b X.env) :: starEach [c] X.env := by rfl) (he3 : starEach [c] X.env = (false, eval c X.env) :: starEach [] X.env := by rfl)
    (hw : swappedStores [.Tuple [.Name x px, .Name y py, .Name z pz] kt pt] (.Tuple [a, b, c] k2 pt2) X.env = pure (some [x, y, z]) := by rfl) (hs : swapsWithSole [.Tuple [.Name x px, .Name y py, .Name z pz] kt pt] (.Tuple [a, b, c] k2 pt2) pos.line X.env = pure false := by rfl) :
    DSt X T W U (.Assign [.Tuple [.Name x px, .Name y py, .Name z pz] kt pt] (.Tuple [a, b, c] k2 pt2) pos) ds E :=
  ds_par3 i j l ha hb hd k (ps_par3 hc hN hi hj hl hij hil hjl hx hy hz (pa_cons ha (pa_cons hb (pa_cons hd pa_nil he3) he2) he) hw hs)
theorem ds_p3t (i j l : Nat) (ha : DV X T U a ds s1) (hb : DV X T U b ds s2) (hd : DV X T U c ds s3) (k : E.nx (((ds.set i s1).set j s2).set l s3)) (hN : X.N.Nodup) (hc : X.calm = true := by rfl) (hi : X.N[i]? = some x := by rfl) (hj : X.N[j]? = some y := by rfl) (hl : X.N[l]? = some z := by rfl)
    (hx : Loc X.env.scope x := by first | exact Or.inl rfl | exact Or.inr rfl) (hy : Loc X.env.scope y := by first | exact Or.inl rfl | exact Or.inr rfl) (hz : Loc X.env.scope z := by first | exact Or.inl rfl | exact Or.inr rfl) (hfx : X.fn x = true ∨ X.env.scope.names.lookup x = some .local := by first | exact .inl rfl | exact .inr rfl)
    (hfy : X.fn y = true ∨ X.env.scope.names.lookup y = some .local := by first | exact .inl rfl | exact .inr rfl) (hfz : X.fn z = true ∨ X.env.scope.names.lookup z = some .local := by first | exact .inl rfl | exact .inr rfl)
    (he : starEach [a, b, c] X.env = (false, eval a X.env) :: starEach [b, c] X.env := by rfl) (he2 : starEach [b, c] X.env = (false, eval b X.env) :: starEach [c] X.env := by rfl) (he3 : starEach [c] X.env = (false, eval c X.env) :: starEach [] X.env := by rfl)
    (hw : swappedStores [.Tuple [.Name x px, .Name y py, .Name z pz] kt pt] (.Tuple [a, b, c] k2 pt2) X.env = pure none := by rfl) (hs : swapsWithSole [.Tuple [.Name x px, .Name y py, .Name z pz] kt pt] (.Tuple [a, b, c] k2 pt2) pos.line X.env = pure false := by rfl)
    (h3 : (assignEach [.Name z pz] X.env).map (·.2) = assign (.Name z pz) X.env :: (assignEach [] X.env).map (·.2) := by rfl) (h2 : (assignEach [.Name y py, .Name z pz] X.env).map (·.2) = assign (.Name y py) X.env :: (assignEach [.Name z pz] X.env).map (·.2) := by rfl)
    (h1 : (assignEach [.Name x px, .Name y py, .Name z pz] X.env).map (·.2) = assign (.Name x px) X.env :: (assignEach [.Name y py, .Name z pz] X.env).map (·.2) := by rfl) (hn : (assignEach [.Name x px, .Name y py, .Name z pz] X.env).length = 3 := by rfl) (hst : (assignEach [.Name x px, .Name y py, .Name z pz] X.env).findIdx? (·.1) = none := by rfl) :
    DSt X T W U (.Assign [.Tuple [.Name x px, .Name y py, .Name z pz] kt pt] (.Tuple [a, b, c] k2 pt2) pos) ds E :=
  ds_par3t i j l ha hb hd k (ps_asg (pe_tup (pa_cons ha (pa_cons hb (pa_cons hd pa_nil he3) he2) he)) (pg_tup hc (pgs_cons (pg_name hN hi hx hfx) (pgs_cons (pg_name hN hj hy hfy) (pgs_cons (pg_name hN hl hz hfz) pgs_nil h3) h2) h1) hn hst) hs hw)
/-- x[e] = e', x a list of one's own -/
theorem ds_setI (i : Nat) {e ei : Expr} {p p2 : Pos} {d : D} {xs : List D} {j : Int} {n : Nat} (h : ds[i]? = some (.own xs)) (hi : DE X T U ei ds (.int j)) (he : DE X T U e ds d) (hj : ixN xs.length j = some n) (k : E.nx (ds.set i (.own (xs.set n d)))) (hN : X.N[i]? = some x := by rfl)
    (hv : Vis X.env.scope x := by first | exact Or.inl rfl | exact Or.inr (Or.inl rfl) | exact Or.inr (Or.inr rfl)) (hd : (x == ("__debug__" : Str)) = false := by decide) (hcd : (x == ("__classdict__" : Str)) = false := by decide)
    (ha : ∀ v, assign (.Subscript (.Name x p2) ei p) X.env v = (do
      let ov ← holding [v] (eval (.Name x p2) X.env)
      let iv ← holding [v, ov] (eval ei X.env)
      standAt p
      holding [v, ov, iv] (setItem ov iv v)
      release [v, ov, iv] []) := by intro _; rfl)
    (hs : swapsWithSole [.Subscript (.Name x p2) ei p] e pos.line X.env = pure false := by rfl) (hw : swappedStores [.Subscript (.Name x p2) ei p] e X.env = pure none := by rfl) : DSt X T W U (.Assign [.Subscript (.Name x p2) ei p] e pos) ds E :=
  ds_setL i h (pg_sub (pe_var hN hv hd hcd) hi set_list ha) he hj k hs hw
end
/-! ### texts -/
theorem str_len (z : Str) : z.length = z.cps.toList.length := by
  show z.cps.size = _
  simp
end Lp

/-! Errors; signs of a text walked. -/
namespace Lp
open PySem PySem.Spec PyProof.Rows L2
/-! ### a text's signs -/
def sgD (z : Str) : List D := z.cps.toList.map fun c => D.str ⟨#[c]⟩
theorem goes_str {G : Glb} {z : Str} {I H : Hp} : Goes G (Its z) I H (sgD z) := fun I1 H1 ps rd i => by
  unfold sgD
  refine ⟨fun hi => ?_, fun d hd => ?_⟩
  · rw [List.length_map] at hi
    show z.cps.size ≤ i
    simpa using hi
  · rw [List.getElem?_map] at hd
    cases e : z.cps.toList[i]? with
    | none => rw [e] at hd; cases hd
    | some c =>
      rw [e] at hd
      obtain rfl := (Option.some.inj hd).symm
      have e2 : z.cps[i]? = some c := by rw [← Array.getElem?_toList]; exact e
      have hlt := (Array.getElem?_eq_some_iff.mp e2).1
      refine ⟨hlt, fun x H2 ⟨h1, c', h2, h3⟩ => ?_⟩
      subst h1
      rw [e2] at h2
      cases h2
      subst h3
      exact ⟨I1, Step.refl rd, .str _⟩
section
variable {X : Cx} {T : List NdefX.NTab} {W : WX} {U U' : Bool} {ds : List DS} {s : DS} {E : DEn}
theorem di_str {tg iter : Expr} {z : Str} (h : DE X T U iter ds (.str z)) : DI X T U tg iter ds (sgD z) := by
  have q := pi_str (tg := tg) h
  refine ⟨fun pins s σ H R I ⟨I0, H0, I1, en, k⟩ => q.run pins s σ H R I ⟨I0, H0, I1, en, fun v I2 H2 s2 r2 => ?_⟩⟩
  cases r2
  exact ⟨z, rfl, k _ I2 H2 s2 goes_str⟩
end
/-! ### what a call gives: a value or an error -/
inductive XR where
  | val (s : DS)
  | exc (C : Str) (fs : List (Str × D))
def spX (G : Glb) (U : Bool) (A : List D → XR → Prop) : Sp := fun vs H Q E => ∃ I xs r, RdS I H ∧ NdefX.TabsN G.T H ∧ Reps G I vs xs ∧ A xs r ∧ match r with
  | .val s => ∀ v H', RetR G I H v H' s → Q v H'
  | .exc C fs => ∀ d I' H', Step G I H I' H' → ExcR G H I' H' d fs → E (.ref (He.ga G.K C)) d H'
/-- a def that may let errors out -/
theorem okX {G : Glb} {U : Bool} {x qual : Str} {params : Arguments} {body : List Stmt} {scope : Scope} {f : Addr} {fd : FuncData} {N ps : List Str} {k : Nat} {A : List D → XR → Prop} (F : FunD G.K x qual params body scope [] [] f fd) (S : FnScope N ps scope)
    (hA : ∀ xs r, A xs r → xs.length = ps.length)
    (hb : ∀ (cdv : Value) (Ar : Around) (outer : List Env) (s : Shared) (H : Hp) (E : XK), Room k (Ar.deeper (envOfC qual scope s.heap.objs.size f cdv)) → Takes (cxOf (L2.CX G.P G.w) G.P G.w G.K G.mg G.base N qual scope f cdv Ar outer s H E) (fun cls d _ H => E cls d H) → ∀ xs r, A xs r →
      DSs (cxOf (L2.CX G.P G.w) G.P G.w G.K G.mg G.base N qual scope f cdv Ar outer s H E) G.T (fun cls d _ H => E cls d H) U body (startD N.length xs) { nx := fun _ => r = .val (.im .non), rt := fun t => r = .val t ∨ r = .val t.fz, xs := fun C fs _ => r = .exc C fs }) :
    FnOk G.P G.w G.K G.mg G.base (L2.CX G.P G.w) (k + 1) f fd ps (spX G U A) := by
  refine F.ok S (fun vs H Q E ⟨I, xs, r, _, _, rs, hAx, _⟩ => by rw [rs.len]; exact hA xs r hAx) (fun cdv Ar outer s H vs Q E hr ⟨I, xs, r, rd, tb, rs, hAx, k⟩ => ?_)
  have h := hb cdv Ar outer s H E hr (takes_of rfl rfl rfl rfl) xs r hAx
  have hl : xs.length ≤ N.length := by
    have e1 := S.pre
    have e2 := hA xs r hAx
    rw [e2, ← e1, List.length_take]
    exact Nat.min_le_right _ _
  refine ⟨_, h, I, H, I, env_start (G := G) rd tb rs hl, ?_, ?_, ?_, ?_, ?_⟩
  · rintro σ' H' ⟨ds', I', e', p', q⟩
    have q2 : r = .val (.im .non) := q
    subst q2
    exact k .non H' ⟨I', e'.st, Rep.non⟩
  · rintro v H' t hr ht
    rcases ht with q2 | q2
    · subst q2
      exact k v H' hr
    · subst q2
      exact k v H' hr.fz
  · rintro _ _ ⟨_, _, _, _, q⟩
    exact q
  · rintro _ _ ⟨_, _, _, _, q⟩
    exact q
  · rintro C fs d σ' H' ⟨ds', I', e', p', x', q⟩
    have q2 : r = .exc C fs := q
    subst q2
    exact k d I' H' e'.st x'
structure CallX (G : Glb) (k : Nat) (x : Str) (ps : List Str) (U : Bool) (A : List D → XR → Prop) : Prop where
  ok : FnOk G.P G.w G.K G.mg G.base (L2.CX G.P G.w) k (He.ga G.K x) (fdOf G.K (He.ga G.K x)) ps (spX G U A)
  g : G.mg x = some (.ref (He.ga G.K x))
  n : L2.Binds G.K (fdOf G.K (He.ga G.K x)) ps []
  kp : PySem.W.keepIn G.K (.ref (He.ga G.K x)) = true
/-- an expression that raises -/
def xV (G : Glb) (W : WX) (U : Bool) (ds : List DS) (C : Str) (fs : List (Str × D)) : TE := fun σ H _ => ∃ I0 H0 I, EnvR G U I0 H0 I H σ ds ∧ ∀ d I' H', Step G I H I' H' → ExcR G H I' H' d fs → W (.ref (He.ga G.K C)) d σ H'
abbrev DX (X : Cx) (T : List NdefX.NTab) (W : WX) (U : Bool) (e : Expr) (ds : List DS) (C : Str) (fs : List (Str × D)) : Prop := PE X e (xV (gx X T) W U ds C fs)
theorem ExcR.later {G : Glb} {I0 H0 I H I' H' : Hp} {d : Option Addr} {fs : List (Str × D)} (s : Step G I0 H0 I H) (x : ExcR G H I' H' d fs) : ExcR G H0 I' H' d fs := by
  cases d with
  | none => exact x
  | some a =>
    obtain ⟨vs, h1, h2, h3⟩ := x
    exact ⟨vs, h1, h2, s.free h3⟩
section
variable {X : Cx} {T : List NdefX.NTab} {W : WX} {U U' : Bool} {ds : List DS} {s : DS} {E : DEn} {C : Str} {fs : List (Str × D)}
/-- a call that gives a value, of a def that may let errors out -/
theorem dv_cx {A : List D → XR → Prop} {k j : Nat} {ps : List Str} {x : Str} {p pos : Pos} {e : Expr} {es : List Expr} {xs : List D} (c : CallX (gx X T) k x ps U' A) (hr : Room j X.A) (ha : DA X T U (e :: es) ds xs) (hA : A xs (.val s)) (hU : U' = true → U = true := by first | exact id | exact fun z => nomatch z) (hk : k ≤ j := by decide)
    (hg : Gl X x := by rfl) (hdb : (x == ("__debug__" : Str)) = false := by decide) (he : starEach (e :: es) X.env = (false, eval e X.env) :: starEach es X.env := by rfl) (hpl : (backTo pos (starEach es X.env)).any (·.1) = false := by rfl) : DV X T U (.Call (.Name x p) (e :: es) [] pos) ds s :=
  (pe_callS c.ok (hr.mono hk) hg c.g c.kp c.n (E := fun _ _ _ _ => False) (fun _ _ _ _ _ _ _ ⟨_, _, _, _, _, _, _, _, _, _, _, _, z⟩ => z.elim) ha hdb he hpl).weak fun σ H Q ⟨I0, H0, I, en, k⟩ => ⟨I0, H0, I, en, fun vs I1 H1 s1 r1 =>
    ⟨I1, xs, _, s1.sub, (en.step s1).tb, r1, hA, fun v H' ⟨I2, s2, r2⟩ => k v I2 H' (s1.trans s2) (r2.back s1)⟩⟩
/-- a call that raises -/
theorem dx_c {A : List D → XR → Prop} {k j : Nat} {ps : List Str} {x : Str} {p pos : Pos} {e : Expr} {es : List Expr} {xs : List D} (c : CallX (gx X T) k x ps U' A) (tk : Takes X W) (hr : Room j X.A) (ha : DA X T U (e :: es) ds xs) (hA : A xs (.exc C fs)) (hU : U' = true → U = true := by first | exact id | exact fun z => nomatch z) (hk : k ≤ j := by decide)
    (hg : Gl X x := by rfl) (hdb : (x == ("__debug__" : Str)) = false := by decide) (he : starEach (e :: es) X.env = (false, eval e X.env) :: starEach es X.env := by rfl) (hpl : (backTo pos (starEach es X.env)).any (·.1) = false := by rfl) : DX X T W U (.Call (.Name x p) (e :: es) [] pos) ds C fs :=
  (pe_callS c.ok (hr.mono hk) hg c.g c.kp c.n (E := WE W) (fun σ => passAt tk σ) ha hdb he hpl).weak fun σ H Q ⟨I0, H0, I, en, k⟩ => ⟨I0, H0, I, en, fun vs I1 H1 s1 r1 =>
    ⟨I1, xs, _, s1.sub, (en.step s1).tb, r1, hA, fun d I2 H2 s2 x2 => k d I2 H2 (s1.trans s2) (x2.later s1)⟩⟩
theorem xs_of {σ : L2.St} {I0 H0 I H : Hp} {D : Ends} (en : EnvR (gx X T) U I0 H0 I H σ ds) (k : E.xs C fs ds) (k5 : ∀ C fs d σ' H', XsR (gx X T) U I0 H0 I H (E.xs C fs) fs d σ' H' → W (.ref (He.ga X.K C)) d σ' H') {Q : VK} : xV (gx X T) W U ds C fs σ H Q :=
  ⟨I0, H0, I, en, fun d I' H' st x => k5 C fs d σ H' ⟨ds, I', en.step st, st.pres, x.later en.st, k⟩⟩
theorem ds_setX {i : Nat} {x : Str} {pos' pos : Pos} {e : Expr} (he : DX X T W U e ds C fs) (k : E.xs C fs ds) (hN : X.N.Nodup) (hi : X.N[i]? = some x := by rfl) (hx : Loc X.env.scope x := by first | exact Or.inl rfl | exact Or.inr rfl)
    (hs : swapsWith e (some (.Name x pos')) pos.line X.env = pure false := by rfl) (hf : X.fn x = true ∨ X.env.scope.names.lookup x = some .local := by first | exact .inl rfl | exact .inr rfl | assumption) : DSt X T W U (.Assign [.Name x pos'] e pos) ds E :=
  (ps_set hN hi hx he hs hf).weak fun D σ H ⟨I0, H0, I, en, k1, k2, k3, k4, k5⟩ => xs_of (D := D) en k k5
theorem ds_exprX {pos : Pos} {e : Expr} (he : DX X T W U e ds C fs) (k : E.xs C fs ds) (hs : swapsWith e none pos.line X.env = pure false := by rfl) : DSt X T W U (.Expr e pos) ds E :=
  (ps_expr he hs).weak fun D σ H ⟨I0, H0, I, en, k1, k2, k3, k4, k5⟩ => xs_of (D := D) en k k5
theorem ds_retX {pos : Pos} {e : Expr} (he : DX X T W U e ds C fs) (k : E.xs C fs ds) : DSt X T W U (.Return (some e) pos) ds E :=
  (ps_ret he).weak fun D σ H ⟨I0, H0, I, en, k1, k2, k3, k4, k5⟩ => xs_of (D := D) en k k5
/-- raise X('..') -/
theorem ds_raise {m x : Str} {j : Nat} {p p2 pos pos2 : Pos} (tk : Takes X W) (q : PySem.W.excIn X.K (He.ga X.K x) He.veBase "ValueError.__new__" = true ∧ PySem.W.keepIn X.K (.ref (He.ga X.K x)) = true ∧ PySem.W.subIn X.K (.ref (He.ga X.K x)) (.type "BaseException") = some true ∧ PySem.W.typeIn X.K (.ref (He.ga X.K x)) = some (.type "type"))
    (gC : X.mg x = some (.ref (He.ga X.K x))) (k : E.xs x [] ds) (hg : Gl X x := by rfl) (hc : X.calm = true := by rfl) (hdb : (x == ("__debug__" : Str)) = false := by decide) : DSt X T W U (.Raise (some (.Call (.Name x p) [.Constant (.str m) j p2] [] pos)) none pos2) ds E :=
  (ps_raise hc tk (pmk_own PySem.F.excBase_ValueError q.1 gC q.2.1 (raises_own q.2.2.1 q.2.2.2) hg hdb)).weak fun D σ H ⟨I0, H0, I, en, k1, k2, k3, k4, k5⟩ =>
    k5 x [] none σ H ⟨ds, I, en, Pres.refl I H, rfl, k⟩
/-- try: body except X: suite, X an own class; the suite is in another context -/
theorem ds_try {body suite : List Stmt} {b₀ : Stmt} {x : Str} {np pos pos' : Pos} (M : Str → Bool) (tk : Takes X W) (gC : X.mg x = some (.ref (He.ga X.K x))) (hM : ∀ C fs ds', E.xs C fs ds' → True)
    (hb : ∀ (W' : WX) (pn : List (Addr × Obj)) (xe : Value → Shared → Prop), Takes (X.tr pn xe) W' → PassesOwn (model X.prog X.w) X.A X.env xe →
      DSs (X.tr pn xe) T W' U body ds { E with xs := fun C fs ds' => PySem.W.exmOne X.K (.ref (He.ga X.K C)) (.ref (He.ga X.K x)) = some (M C) ∧ (M C = false → E.xs C fs ds') ∧ (M C = true → ∀ (a : Addr) (pn : List (Addr × Obj)), DSs (X.suite a pn) T W0 U (b₀ :: suite) ds' { E with xs := fun _ _ _ => False }) })
    (hs : X.stack = X.env :: X.outer := by rfl) (hf : X.env.frame = some X.env.locals := by rfl) (hg : Gl X x := by rfl) (hdb : (x == ("__debug__" : Str)) = false := by decide) :
    DSt X T W U (.Try body [.ExceptHandler (some (.Name x np)) none (b₀ :: suite) pos'] [] [] pos) ds E := by
  refine (ps_try_only (x := x) (c := .ref (He.ga X.K x)) (pos' := pos') (np := np) (Wout := W) hs hf ⟨hg, hdb, .inl gC⟩ tk (tb := fun W' => sV (gx X T) W' U ds { E with xs := fun C fs ds' => PySem.W.exmOne X.K (.ref (He.ga X.K C)) (.ref (He.ga X.K x)) = some (M C) ∧ (M C = false → E.xs C fs ds') ∧ (M C = true → ∀ (a : Addr) (pn : List (Addr × Obj)), DSs (X.suite a pn) T W0 U (b₀ :: suite) ds' { E with xs := fun _ _ _ => False }) })
    (ts := fun a cls d => fun D σ H => ∃ ds', (∀ (a : Addr) (pn : List (Addr × Obj)), DSs (X.suite a pn) T W0 U (b₀ :: suite) ds' { E with xs := fun _ _ _ => False }) ∧ sV (gx X T) W0 U ds' { E with xs := fun _ _ _ => False } D σ H)
    (fun W' pn xe tk' ho => hb W' pn xe tk' ho) (fun a oe cls d pn _ _ => ⟨fun pins s σ H D I ⟨ds', h1, h2⟩ => (h1 a _).run pins s σ H D I h2⟩)).weak fun D σ H ⟨I0, H0, I, en, k1, k2, k3, k4, k5⟩ => ?_
  refine ⟨I0, H0, I, en, k1, k2, k3, k4, ?_⟩
  rintro C fs d σ' H' ⟨ds', I', e', p', x', m1, m2, m3⟩
  refine ⟨M C, m1, fun hb' a _ => ⟨ds', m3 hb', ?_⟩, fun hb' => k5 C fs d σ' H' ⟨ds', I', e', p', x', m2 hb'⟩⟩
  exact ⟨I0, H0, I', e', fun s h n => k1 s h (n.pre p'), k2, fun s h n => k3 s h (n.pre p'), fun s h n => k4 s h (n.pre p'), fun _ _ _ _ _ ⟨_, _, _, _, _, q⟩ => q.elim⟩
end
end Lp

/-! A law's own def: its script cut off, the rest over data. -/
namespace Lp
open PySem PySem.Spec PyProof.Rows L2
def spLaw (G : Glb) : Sp := fun vs H Q _ => ∃ (a : Addr) (ns : List Int), vs = [.ref a] ∧ SqL G.K H a (ns.map V.int) ∧ ns.length ≤ 63 ∧ NdefX.TabsN G.T H ∧ ∀ H', Q (.bl true) H'
abbrev tCut63 (K : PySem.W.Frag) : TS := tAsg (tSl (rSlL K) (tVar 0) tNoPart (tPart (tC (.int 63)))) (gName 0)
theorem cut63 {ns : List Int} (h : ns.length ≤ 63) : cutV (ns.map V.int) none (some 63) = ns.map V.int := by
  unfold cutV
  rw [HT.sIx_none, show (some (63 : Int)) = some ((63 : Nat) : Int) from rfl, HT.sIx_nat, List.drop_zero, List.length_map, Nat.min_eq_right h, Nat.sub_zero]
  exact List.take_of_length_le (by rw [List.length_map]; exact Nat.le_refl _)
theorem okLaw {G : Glb} {x qual : Str} {params : Arguments} {first : Stmt} {rest : List Stmt} {body : List Stmt} {scope : Scope} {f : Addr} {fd : FuncData} {N : List Str} {p : Str} {k : Nat} (F : FunD G.K x qual params body scope [] [] f fd) (eb : body = first :: rest) (S : FnScope N [p] scope)
    (hp : ∀ (cdv : Value) (Ar : Around) (outer : List Env) (s : Shared) (H : Hp) (E : XK), PS (cxOf CX0 G.P G.w G.K G.mg G.base N qual scope f cdv Ar outer s H E).nox first (tCut63 G.K))
    (hb : ∀ (cdv : Value) (Ar : Around) (outer : List Env) (s : Shared) (H : Hp) (E : XK), Room k (Ar.deeper (envOfC qual scope s.heap.objs.size f cdv)) → ∀ ns : List Int, ns.length ≤ 63 →
      DSs (cxOf CX0 G.P G.w G.K G.mg G.base N qual scope f cdv Ar outer s H E).nox G.T W0 true rest (startD N.length [.lst (ns.map .int)]) { nx := fun _ => False, rt := fun t => t = .im (.bl true) }) :
    FnOk G.P G.w G.K G.mg G.base CX0 (k + 1) f fd [p] (spLaw G) := by
  subst eb
  refine F.ok S (fun vs H Q E ⟨a, ns, e, _⟩ => by rw [e]; rfl) (fun cdv Ar outer s H vs Q E hr ⟨a, ns, e, hS, hl, tb, k⟩ => ?_)
  subst e
  have h := hb cdv Ar outer s H E hr ns hl
  refine ⟨_, PSs.nox (pss_cons (hp cdv Ar outer s H E) h), ?_⟩
  have hN : 1 ≤ N.length := by
    have e1 := congrArg List.length S.pre
    rw [List.length_take] at e1
    have : [p].length = 1 := rfl
    omega
  obtain ⟨m, hm⟩ : ∃ m, N.length = m + 1 := ⟨N.length - 1, by omega⟩
  refine ⟨_, rfl, 63, rfl, a, _, rfl, hS, fun q hq => ?_⟩
  rw [cut63 hl]
  have rd : RdS (fun _ => none) H := fun a u (z : (none : Option HO) = some u) => nomatch z
  have st : Step G (fun _ => none) H (upd (fun _ => none) q (.lst (ns.map V.int))) (upd H q (.lst (ns.map V.int))) := Step.new rd hq
  have en : EnvR G true (upd (fun _ => none) q (.lst (ns.map V.int))) (upd H q (.lst (ns.map V.int))) (upd (fun _ => none) q (.lst (ns.map V.int))) (upd H q (.lst (ns.map V.int))) (L2.start N [.ref q]) (startD N.length [.lst (ns.map .int)]) :=
    env_start st.sub (st.tabs tb) (.cons (Rep.lst upd_same (Reps.ofInts ns)) .nil) hN
  have es : (L2.start N [V.ref a]).set 0 (some (.ref q)) = L2.start N [.ref q] := by
    unfold L2.start
    rfl
  show sV G W0 true _ _ _ ((L2.start N [V.ref a]).set 0 (some (.ref q))) _
  rw [es]
  refine ⟨_, _, _, en, ?_, ?_, ?_, ?_, ?_⟩
  · rintro _ _ ⟨_, _, _, _, z⟩
    exact z.elim
  · rintro v H' t ⟨I', s1, r1⟩ ht
    have ht2 : t = .im (.bl true) := ht
    subst ht2
    cases r1
    exact k H'
  · rintro _ _ ⟨_, _, _, _, z⟩
    exact z
  · rintro _ _ ⟨_, _, _, _, z⟩
    exact z
  · rintro _ _ _ _ _ ⟨_, _, _, _, _, z⟩
    exact z
section
variable {X : Cx} {T : List NdefX.NTab} {U : Bool} {ds : List DS}
theorem de_neg {a : Expr} {pos : Pos} {i : Int} (ha : DE X T U a ds (.int i)) : DE X T U (.UnaryOp .USub a pos) ds (.int (-i)) :=
  (pe_un un_neg ha).weak fun σ H Q ⟨I0, H0, I, en, k⟩ => ⟨I0, H0, I, en, fun v I1 H1 s1 r1 => by
    cases r1
    exact ⟨i, rfl, k _ I1 H1 s1 (.int _)⟩⟩
end
end Lp

/-! sorted(names, key=f), f a def that only makes objects. -/
namespace Lp
open PySem PySem.Spec PyProof.Rows L2
/-- f called with a text keeps all, and gives the key -/
structure PureKey (G : Glb) (f : Addr) (k : Str → PyData) : Prop where
  run : ∀ (A : Around) (outer : List Env) (s : Shared) (H : Hp) (x : Str) (t : Tok), Room 1 A → x.length ≤ 100000 → Env0 G.P G.w G.K G.mg G.base A outer s H → wpAny (model G.P G.w) A (call (.ref f) [.str x t]) (PySem.W.KeyPure (k x) s) (fun _ _ => False) s
/-- the order of keys (length, text) -/
def rankD (x : Str) : PyData := .tuple [.int (x.length : Int), .str x]
def sortN (ns : List Str) : List Str := ns.mergeSort (PySem.W.dataLe false rankD)
theorem vals_each : ∀ {us : List Value} {ns : List Str}, Vals (ns.map V.str) us → PySem.W.EachIs (fun v x => ∃ t, v = Value.str x t) us ns
  | [], [], _ => .nil
  | [], _ :: _, h => nomatch h
  | _ :: _, [], h => nomatch h
  | _ :: _, _ :: _, .cons a b => .cons a (vals_each b)
theorem each_vals : ∀ {us : List Value} {ns : List Str}, PySem.W.EachIs (fun v x => ∃ t, v = Value.str x t) us ns → Vals (ns.map V.str) us
  | _, _, .nil => .nil
  | _, _, .cons a b => .cons a (each_vals b)
def rSortedF (K : PySem.W.Frag) (f : Addr) : List V → List V → Hp → VK → Prop := fun xs zs H Q => ∃ (a : Addr) (ns : List Str), xs = [.ref a] ∧ zs = [.ref f] ∧ SqL K H a (ns.map V.str) ∧ (∀ n ∈ ns, n.length ≤ 100000) ∧ ∀ p, H p = none → Q (.ref p) (upd H p (.lst ((sortN ns).map V.str)))
theorem cr_sortedF {X : Cx} {T : List NdefX.NTab} {f : Addr} {j : Nat} (hk : PureKey (gx X T) f rankD) (hr : Room j X.A) (hj : 3 ≤ j) : CallRK X (.builtin "sorted") [Str.ofString "key"] (rSortedF X.K f) := by
  intro pins s σ H vs zs us ws Q I r rz h
  obtain ⟨a, ns, rfl, rfl, hs, hbd, q⟩ := h
  obtain rfl := Vals.ref1 r
  obtain ⟨w1, rfl, e1⟩ := vals1 rz
  obtain rfl : w1 = Value.ref f := e1
  obtain ⟨its, rv, hl, hz⟩ := I.list hs
  rw [List.length_map] at hz
  have ei := vals_each rv
  refine PySem.W.sorted_key_data (b := false) (kw := [(Str.ofString "key", Value.ref f)]) rankD hl.isList ei (PySem.W.AllAlike.of fun _ _ => by simp [rankD, PySem.W.alike, PySem.W.alikeAll]) (PySem.W.Sortable.tuples fun _ => ⟨_, _, rfl⟩) hz (fun p _ => ?_) (PyProof.Rows.ksk_s1 _ _) (fun _ => PyProof.Rows.ksk_l1 _ _) (fun _ => PyProof.Rows.ksk_t1 _ _)
    (fun v x ⟨t, e⟩ hx h tk kp => ?_) fun out c h' tk kp _ hD hlen eo => ?_
  · have hd : (rankD p).depth = 1 := by simp [rankD, PyData.depth, PyData.depthAll]
    have := hr.units
    omega
  · subst e
    have I2 : Inv X pins σ H { s with heap := h, toks := tk } := I.kept kp
    have hr2 : Room 1 X.A.in1.in1 := (((hr.mono hj).in1).in1)
    exact hk.run X.A.in1.in1 X.stack _ H x t hr2 (hbd x hx) I2.env0.in1.in1
  · have hv := each_vals (ns := ns.mergeSort (PySem.W.dataLe false rankD)) eo
    have hl2 : (sortN ns).length = ns.length := List.length_mergeSort _
    refine ⟨.ref _, upd H (s.heap.objs.size + 1) (.lst ((sortN ns).map V.str)), I.laid (t' := tk) kp (Nat.le_succ _) ⟨?_, out, c, hv, hD⟩, rfl, q _ (I.hok.fresh (Nat.le_succ _))⟩
    rw [List.length_map, hl2]
    exact hz
section
variable {X : Cx} {T : List NdefX.NTab} {U : Bool} {ds : List DS} {e : Expr} {x : Str} {p p2 pos kpos : Pos} {ns : List Str}
/-- sorted(e, key=x), x a def of the program -/
theorem dv_sortN {j : Nat} (h : DE X T U e ds (.lst (ns.map .str))) (hb : ∀ n ∈ ns, n.length ≤ 100000) (hk : PureKey (gx X T) (He.ga X.K x) rankD) (hm : X.mg x = some (.ref (He.ga X.K x))) (hr : Room j X.A) (hs : X.mg "sorted" = none) (hj : 3 ≤ j := by decide) (hg : Gl X x := by rfl) (hgs : Gl X "sorted" := by rfl) (hdb : (x == ("__debug__" : Str)) = false := by decide)
    (he1 : starEach [e] X.env = [(false, eval e X.env)] := by rfl)
    (he : backTo pos (starEach [e] X.env) = (false, eval e X.env) :: backTo pos (starEach [] X.env) := by rfl) (hpl : (backTo pos (starEach [e] X.env)).any (·.1) = false := by rfl)
    (hall : (backToKw pos (keywordEach [⟨some "key", .Name x p2, kpos⟩] X.env)).all (·.1.isSome) = true := by rfl) (hnone : (backToKw pos (keywordEach [⟨some "key", .Name x p2, kpos⟩] X.env)).any (·.1.isNone) = false := by rfl) (hks : (backToKw pos (keywordEach [⟨some "key", .Name x p2, kpos⟩] X.env)).filterMap (·.1) = [Str.ofString "key"] := by rfl) :
    DV X T U (.Call (.Name "sorted" p) [e] [⟨some "key", .Name x p2, kpos⟩] pos) ds (.own ((sortN ns).map .str)) :=
  (pe_callBK (p := p) (r := rSortedF X.K (He.ga X.K x)) (cr_sortedF hk hr hj) hgs hs rfl (da_cons h da_nil he1) (pk_cons (pe_glob (v := .ref (He.ga X.K x)) hg hm rfl hdb) pk_nil) (by decide) (by decide) he hpl hall hnone hks).weak
    fun σ H Q ⟨I0, H0, I, en, k⟩ => ⟨I0, H0, I, en, fun vs I1 H1 s1 r1 => by
      cases r1 with
      | cons a b =>
        cases b
        cases a with
        | lst a b =>
          obtain rfl := b.strs
          exact ⟨_, ns, rfl, rfl, SqL.of (s1.sub.lst a), hb, fun q hq => k _ I1 _ (s1.trans (Step.newOwn s1.sub hq)) ⟨q, _, rfl, s1.free hq, s1.sub.free hq, upd_same, Reps.ofStrs _⟩⟩⟩
end
end Lp

/-! Dicts walked over (locked for good), instances made and read, None or a text. -/
namespace Lp
open PySem PySem.Spec PyProof.Rows L2
/-! ### a dict that is walked over is locked -/
def tLk (te : TE) : TE := fun σ H Q => te σ H fun v H' => ∃ d kvs, v = .ref d ∧ ((H' d = some (.dK kvs) ∧ ∀ o, Q v (upd H' d (.frz o (.dK kvs)))) ∨ ((∃ o, H' d = some (.frz o (.dK kvs))) ∧ Q v H'))
theorem pe_lk {X : Cx} {e : Expr} {te : TE} (he : PE X e te) : PE X e (tLk te) := ⟨fun pins s σ H Q I h => thn (he.run pins s σ H _ I h) fun u s1 ⟨v, H1, I1, r, d, kvs, ev, q⟩ => by
  rcases q with ⟨hd, q⟩ | ⟨_, q⟩
  · obtain ⟨od, I2⟩ := I1.lock hd trivial
    exact ⟨v, _, I2, r, q od⟩
  · exact ⟨v, H1, I1, r, q⟩⟩
/-- what the walk over a dict reads -/
inductive DK where | keys | vals | items
def DK.it : DK → Addr → Obj → List (Key × V) → It
  | .keys => Itk
  | .vals => Itd
  | .items => Iti
def DK.ds : DK → List (Str × D) → List D
  | .keys, kvs => kvs.map fun kv => .str kv.1
  | .vals, kvs => kvs.map fun kv => kv.2
  | .items, kvs => kvs.map fun kv => .tup [.str kv.1, kv.2]
section
variable {G : Glb} {I : Hp}
theorem RepF.get : ∀ {fs : List (Str × V)} {kds : List (Str × D)} {i : Nat} {x : Str} {d : D}, RepF G I fs kds → kds[i]? = some (x, d) → ∃ v, (kvK fs)[i]? = some (Sum.inr x, v) ∧ Rep G I v d
  | _, _, _, _, _, .nil, e => by simp at e
  | _, _, 0, _, _, .cons h _, e => by simp at e; obtain ⟨rfl, rfl⟩ := e; exact ⟨_, rfl, h⟩
  | _, _, i + 1, x, d, .cons _ t, e => by
    obtain ⟨v, h1, h2⟩ := RepF.get (i := i) (x := x) (d := d) t (by simpa using e)
    exact ⟨v, by simpa using h1, h2⟩
theorem RepF.mono' {I1 : Hp} (s : Same I I1) {fs : List (Str × V)} {kds : List (Str × D)} (h : RepF G I fs kds) : RepF G I1 fs kds := h.mono s
end
theorem goes_dict {G : Glb} {q : DK} {p : Addr} {o : Obj} {fs : List (Str × V)} {kvs : List (Str × D)} {I H : Hp} (hp : H p = some (.frz o (.dK (kvK fs)))) (r : RepF G I fs kvs) : Goes G (q.it p o (kvK fs)) I H (q.ds kvs) := fun I1 H1 ps rd i => by
  have h1 : H1 p = some (.frz o (.dK (kvK fs))) := ps.frz _ _ _ hp
  have hl : (kvK fs).length = kvs.length := by rw [kvK, List.length_map, r.len]
  have r1 := r.mono ps.same
  cases q with
  | keys =>
    refine ⟨fun hi => ⟨h1, by rw [hl]; rw [DK.ds, List.length_map] at hi; exact hi⟩, fun d hd => ?_⟩
    rw [DK.ds, List.getElem?_map] at hd
    cases e : kvs[i]? with
    | none => rw [e] at hd; cases hd
    | some kd =>
      rw [e] at hd
      cases hd
      obtain ⟨v, hv, rv⟩ := r1.get (x := kd.1) (d := kd.2) e
      refine ⟨⟨h1, (List.getElem?_eq_some_iff.mp hv).1⟩, fun x H2 ⟨e2, k, v2, f1, f2⟩ => ?_⟩
      subst e2
      rw [hv] at f1
      cases f1
      subst f2
      exact ⟨I1, Step.refl rd, .str _⟩
  | vals =>
    refine ⟨fun hi => ⟨h1, by rw [hl]; rw [DK.ds, List.length_map] at hi; exact hi⟩, fun d hd => ?_⟩
    rw [DK.ds, List.getElem?_map] at hd
    cases e : kvs[i]? with
    | none => rw [e] at hd; cases hd
    | some kd =>
      rw [e] at hd
      cases hd
      obtain ⟨v, hv, rv⟩ := r1.get (x := kd.1) (d := kd.2) e
      refine ⟨⟨h1, (List.getElem?_eq_some_iff.mp hv).1⟩, fun x H2 ⟨e2, k, f1⟩ => ?_⟩
      subst e2
      rw [hv] at f1
      cases f1
      exact ⟨I1, Step.refl rd, rv⟩
  | items =>
    refine ⟨fun hi => ⟨h1, by rw [hl]; rw [DK.ds, List.length_map] at hi; exact hi⟩, fun d hd => ?_⟩
    rw [DK.ds, List.getElem?_map] at hd
    cases e : kvs[i]? with
    | none => rw [e] at hd; cases hd
    | some kd =>
      rw [e] at hd
      cases hd
      obtain ⟨v, hv, rv⟩ := r1.get (x := kd.1) (d := kd.2) e
      refine ⟨⟨h1, (List.getElem?_eq_some_iff.mp hv).1⟩, fun x H2 ⟨t, k, v2, f1, f2, f3, f4⟩ => ?_⟩
      rw [hv] at f1
      cases f1
      subst f2 f4
      refine ⟨_, Step.new rd f3, Rep.tup upd_same (.cons (.str _) (.cons ?_ .nil))⟩
      exact rv.mono (Step.new (G := G) rd f3).isub
section
variable {X : Cx} {T : List NdefX.NTab} {U : Bool} {ds : List DS} {tg e : Expr} {kvs : List (Str × D)} {apos cpos : Pos}
/-- a told dict -/
theorem lk_told {q : DK} {σ : L2.St} {H : Hp} {R : It → Hp → Prop} (h : iV (gx X T) U ds (q.ds kvs) σ H R) : tLk (eV (gx X T) U ds (.im (.dic kvs))) σ H fun x H1 => ∃ d o ks, x = .ref d ∧ H1 d = some (.frz o (.dK ks)) ∧ R (q.it d o ks) H1 := by
  obtain ⟨I0, H0, I, en, k⟩ := h
  refine ⟨I0, H0, I, en, fun v I' H' st r => ?_⟩
  cases r with
  | @dic p fs _ a b =>
    refine ⟨p, kvK fs, rfl, ?_⟩
    rcases st.sub.dic a with z | ⟨o, z⟩
    · refine .inl ⟨z, fun o => ⟨p, o, _, rfl, upd_same, ?_⟩⟩
      have s2 := st.trans (Step.lock (o := o) st.sub a z)
      exact k _ _ _ s2 (goes_dict upd_same b)
    · exact .inr ⟨⟨o, z⟩, p, o, _, rfl, z, k _ _ _ st (goes_dict z b)⟩
/-- a dict just made -/
theorem lk_new {q : DK} {σ : L2.St} {H : Hp} {R : It → Hp → Prop} (h : iV (gx X T) U ds (q.ds kvs) σ H R) : tLk (eV (gx X T) U ds (.ownD kvs)) σ H fun x H1 => ∃ d o ks, x = .ref d ∧ H1 d = some (.frz o (.dK ks)) ∧ R (q.it d o ks) H1 := by
  obtain ⟨I0, H0, I, en, k⟩ := h
  refine ⟨I0, H0, I, en, fun v I' H' st ⟨p, fs, ev, hn, hi, hp, r⟩ => ?_⟩
  subst ev
  refine ⟨p, kvK fs, rfl, .inl ⟨hp, fun o => ⟨p, o, _, rfl, upd_same, ?_⟩⟩⟩
  have s2 : Step (gx X T) I H I' (upd H' p (.frz o (.dK (kvK fs)))) := st.mutOwn hi hn (by rw [hp]; exact ownNd)
  exact k _ _ _ s2 (goes_dict upd_same r)
theorem di_keys (h : DE X T U e ds (.dic kvs)) : DI X T U tg e ds (DK.keys.ds kvs) := ⟨fun pins s σ H R I q => (pi_keys (tg := tg) (pe_lk h)).run pins s σ H R I (by
  obtain ⟨I0, H0, I1, en, k⟩ := lk_told (q := .keys) q
  refine ⟨I0, H0, I1, en, fun v I' H' st r => ?_⟩
  obtain ⟨d, ks, ev, z⟩ := k v I' H' st r
  refine ⟨d, ks, ev, z.imp (fun ⟨a, b⟩ => ⟨a, fun o => ?_⟩) fun ⟨a, b⟩ => ⟨a, ?_⟩⟩
  · obtain ⟨d, o, ks, e1, e2, e3⟩ := b o
    exact ⟨d, o, e1, .inl ⟨ks, e2, e3⟩⟩
  · obtain ⟨d, o, ks, e1, e2, e3⟩ := b
    exact ⟨d, o, e1, .inl ⟨ks, e2, e3⟩⟩)⟩
theorem di_keysNew (h : DV X T U e ds (.ownD kvs)) : DI X T U tg e ds (DK.keys.ds kvs) := ⟨fun pins s σ H R I q => (pi_keys (tg := tg) (pe_lk h)).run pins s σ H R I (by
  obtain ⟨I0, H0, I1, en, k⟩ := lk_new (q := .keys) q
  refine ⟨I0, H0, I1, en, fun v I' H' st r => ?_⟩
  obtain ⟨d, ks, ev, z⟩ := k v I' H' st r
  refine ⟨d, ks, ev, z.imp (fun ⟨a, b⟩ => ⟨a, fun o => ?_⟩) fun ⟨a, b⟩ => ⟨a, ?_⟩⟩
  · obtain ⟨d, o, ks, e1, e2, e3⟩ := b o
    exact ⟨d, o, e1, .inl ⟨ks, e2, e3⟩⟩
  · obtain ⟨d, o, ks, e1, e2, e3⟩ := b
    exact ⟨d, o, e1, .inl ⟨ks, e2, e3⟩⟩)⟩
theorem di_items {elts : List Expr} {kk : Nat} {tpos : Pos} (h : DE X T U e ds (.dic kvs)) (hb : attributeBase e "items" X.env (eval e X.env) = eval e X.env := by rfl) (hl : (apos.endLine == cpos.line) = true := by rfl) : DI X T U (.Tuple elts kk tpos) (.Call (.Attribute e "items" apos) [] [] cpos) ds (DK.items.ds kvs) :=
  ⟨fun pins s σ H R I q => (pi_items (pe_lk h) hb hl).run pins s σ H R I (lk_told (q := .items) q)⟩
theorem di_itemsNew {elts : List Expr} {kk : Nat} {tpos : Pos} (h : DV X T U e ds (.ownD kvs)) (hb : attributeBase e "items" X.env (eval e X.env) = eval e X.env := by rfl) (hl : (apos.endLine == cpos.line) = true := by rfl) : DI X T U (.Tuple elts kk tpos) (.Call (.Attribute e "items" apos) [] [] cpos) ds (DK.items.ds kvs) :=
  ⟨fun pins s σ H R I q => (pi_items (pe_lk h) hb hl).run pins s σ H R I (lk_new (q := .items) q)⟩
theorem di_vals (h : DE X T U e ds (.dic kvs)) (hb : attributeBase e "values" X.env (eval e X.env) = eval e X.env := by rfl) (hl : (apos.endLine == cpos.line) = true := by rfl) : DI X T U tg (.Call (.Attribute e "values" apos) [] [] cpos) ds (DK.vals.ds kvs) :=
  ⟨fun pins s σ H R I q => (pi_values (pe_lk h) hb hl).run pins s σ H R I (lk_told (q := .vals) q)⟩
end
/-! ### None or a text -/
def gD : Option Str → D
  | none => .non
  | some x => .str x
instance : PySem.W.Datum (Option Str) where
  toD
    | none => .none
    | some x => .str x
  plain a := by cases a <;> rfl
  eqv a b := by
    cases a with
    | none => cases b with
      | none => rfl
      | some y => rfl
    | some x => cases b with
      | none => rfl
      | some y =>
        rw [show decide (some x = some y) = decide (x = y) from decide_eq_decide.mpr ⟨fun e => Option.some.inj e, fun e => by rw [e]⟩]
        exact PySem.W.Datum.eqv (α := Str) x y
  depth := 0
  depth_le a := by cases a <;> exact Nat.le_refl _
instance : En (Option Str) where
  enc := gD
  dp {_ _ _ _ x} r h := by
    cases x with
    | none => cases h; exact .non
    | some y => cases h; exact .str _
/-! ### an entry of a book -/
structure Ent where
  nm : Str
  mem : List Str
  left : List Str
  gate : Option Str
  deriving DecidableEq
def Ent.d (e : Ent) : D := .tup [.str e.nm, .lst (e.mem.map .str), .lst (e.left.map .str), gD e.gate]
instance : PySem.W.Datum Ent where
  toD e := .tuple [PySem.W.Datum.toD e.nm, PySem.W.Datum.toD e.mem, PySem.W.Datum.toD e.left, PySem.W.Datum.toD e.gate]
  plain e := by simp only [PyData.plain, PyData.plainAll, PySem.W.Datum.plain, Bool.and_self]
  eqv a b := by
    simp only [PyData.eqv, PyData.eqvAll]
    rw [PySem.W.Datum.eqv, PySem.W.Datum.eqv, PySem.W.Datum.eqv, PySem.W.Datum.eqv, Bool.and_true, ← Bool.decide_and, ← Bool.decide_and, ← Bool.decide_and]
    cases a
    cases b
    exact decide_eq_decide.mpr ⟨fun ⟨h1, h2, h3, h4⟩ => by
      dsimp only at h1 h2 h3 h4
      rw [h1, h2, h3, h4], fun e => by cases e; exact ⟨rfl, rfl, rfl, rfl⟩⟩
  depth := 2
  depth_le e := by
    simp only [PyData.depth, PyData.depthAll]
    have h1 := PySem.W.Datum.depth_le e.nm
    have h2 := PySem.W.Datum.depth_le e.mem
    have h3 := PySem.W.Datum.depth_le e.left
    have h4 := PySem.W.Datum.depth_le e.gate
    have d1 : PySem.W.Datum.depth Str = 0 := rfl
    have d2 : PySem.W.Datum.depth (List Str) = 1 := rfl
    have d4 : PySem.W.Datum.depth (Option Str) = 0 := rfl
    omega
instance : En Ent where
  enc := Ent.d
  dp r h := by
    cases h with
    | tup a b =>
      cases b with
      | cons b1 b =>
        cases b with
        | cons b2 b =>
          cases b with
          | cons b3 b =>
            cases b with
            | cons b4 b =>
              cases b
              exact .tup (SqT.of (r.tup a)) (.cons (En.dp (α := Str) r b1) (.cons (En.dp (α := List Str) r b2) (.cons (En.dp (α := List Str) r b3) (.cons (En.dp (α := Option Str) r b4) .nil))))
end Lp

/-! Instances: made, read. -/
namespace Lp
open PySem PySem.Spec PyProof.Rows L2
/-! ### trees -/
def DS.tree : DS → Option OT
  | .no => none
  | .im d => some (.im d)
  | .own xs => some (.lst (xs.map .im))
  | .ownD kvs => some (.dic (kvs.map fun kv => (kv.1, .im kv.2)))
  | .ot _ t => some t
section
variable {G : Glb} {I H Hb : Hp}
theorem ors_im : ∀ {vs : List V} {xs : List D}, Reps G I vs xs → ORs G I H vs (xs.map .im) []
  | _, _, .nil => .nil
  | _, _, .cons a b => .cons (A := []) (B := []) (.im a) (ors_im b) (fun _ h => absurd h (by simp))
theorem orf_im : ∀ {vs : List (Str × V)} {xs : List (Str × D)}, RepF G I vs xs → ORF G I H vs (xs.map fun kv => (kv.1, .im kv.2)) []
  | _, _, .nil => .nil
  | _, _, .cons a b => .cons (A := []) (B := []) (.im a) (orf_im b) (fun _ h => absurd h (by simp))
theorem ValR.tree {v : V} : ∀ {s : DS} {t : OT}, ValR G Hb I H v s → s.tree = some t → ∃ A, OR G I H v t A ∧ ∀ a ∈ A, Hb a = none
  | .no, _, _, e => nomatch e
  | .im _, _, r, e => by cases e; exact ⟨[], .im r, fun _ h => absurd h (by simp)⟩
  | .own _, _, ⟨p, vs, ev, n, i, h, r⟩, e => by
    cases e
    subst ev
    exact ⟨[p], .lst h i (by simp) (ors_im r), fun a ha => by rw [List.mem_singleton.mp ha]; exact n⟩
  | .ownD _, _, ⟨p, vs, ev, n, i, h, r⟩, e => by
    cases e
    subst ev
    exact ⟨[p], .dic h i (by simp) (orf_im r), fun a ha => by rw [List.mem_singleton.mp ha]; exact n⟩
  | .ot _ _, _, ⟨A, r, n, _⟩, e => by cases e; exact ⟨A, r, n⟩
theorem ORF.snoc {x : Str} {v : V} {t : OT} {B : List Addr} (h : OR G I H v t B) : ∀ {vs : List (Str × V)} {ts : List (Str × OT)} {A : List Addr}, ORF G I H vs ts A → (∀ a ∈ A, a ∉ B) → ORF G I H (vs ++ [(x, v)]) (ts ++ [(x, t)]) (A ++ B)
  | _, _, _, .nil, _ => by
    have z := ORF.cons (x := x) h (ORF.nil (G := G) (I := I) (H := H)) (fun _ _ z => absurd z (by simp))
    rwa [List.append_nil] at z
  | _, _, _, .cons (A := A0) (B := A1) a b d, k => by
    rw [List.append_assoc]
    refine .cons a (ORF.snoc h b fun x hx => k x (List.mem_append_right _ hx)) fun x hx z => ?_
    rcases List.mem_append.mp z with z | z
    · exact d x hx z
    · exact k x (List.mem_append_left _ hx) z
theorem ORs.snoc {v : V} {t : OT} {B : List Addr} (h : OR G I H v t B) : ∀ {vs : List V} {ts : List OT} {A : List Addr}, ORs G I H vs ts A → (∀ a ∈ A, a ∉ B) → ORs G I H (vs ++ [v]) (ts ++ [t]) (A ++ B)
  | _, _, _, .nil, _ => by
    have z := ORs.cons h (ORs.nil (G := G) (I := I) (H := H)) (fun _ _ z => absurd z (by simp))
    rwa [List.append_nil] at z
  | _, _, _, .cons (A := A0) (B := A1) a b d, k => by
    rw [List.append_assoc]
    refine .cons a (ORs.snoc h b fun x hx => k x (List.mem_append_right _ hx)) fun x hx z => ?_
    rcases List.mem_append.mp z with z | z
    · exact d x hx z
    · exact k x (List.mem_append_left _ hx) z
theorem ORF.names : ∀ {vs : List (Str × V)} {ts : List (Str × OT)} {A : List Addr}, ORF G I H vs ts A → vs.map (·.1) = ts.map (·.1)
  | _, _, _, .nil => rfl
  | _, _, _, .cons _ b _ => congrArg _ b.names
theorem ORF.len {vs : List (Str × V)} {ts : List (Str × OT)} {A : List Addr} (h : ORF G I H vs ts A) : vs.length = ts.length := by
  have e := congrArg List.length h.names
  rwa [List.length_map, List.length_map] at e
theorem RepF.look (f : Str) : ∀ {fs : List (Str × V)} {kds : List (Str × D)} {d : D}, RepF G I fs kds → kds.lookup f = some d → ∃ v, fs.lookup f = some v ∧ Rep G I v d
  | _, _, _, .nil, e => nomatch e
  | _, _, d, .cons (x := x) a b, e => by
    rw [List.lookup_cons] at e ⊢
    cases q : f == x with
    | true =>
      rw [q] at e
      cases e
      exact ⟨_, rfl, a⟩
    | false =>
      rw [q] at e
      exact RepF.look f b e
end
theorem putF_new {f : Str} {v : V} : ∀ {fs : List (Str × V)}, f ∉ fs.map (·.1) → putF f v fs = fs ++ [(f, v)]
  | [], _ => rfl
  | (g, x) :: r, h => by
    rw [List.map_cons, List.mem_cons, not_or] at h
    rw [putF, if_neg fun z => h.1 z.symm, putF_new h.2]
    rfl
/-! ### fields read -/
section
variable {X : Cx} {T : List NdefX.NTab} {W : WX} {U : Bool} {ds : List DS} {s : DS} {E : DEn} {e : Expr} {C f : Str} {fds : List (Str × D)} {d : D} {pos : Pos}
theorem de_fld (h : DE X T U e ds (.ins C fds)) (hc : Cls X.K (He.ga X.K C)) (hn : NoAttr X.K (He.ga X.K C) f) (hl : fds.lookup f = some d) (hb : attributeBase e f X.env (eval e X.env) = eval e X.env := by rfl) : DE X T U (.Attribute e f pos) ds d :=
  (pe_fld h hb).weak fun σ H Q ⟨I0, H0, I, en, k⟩ => ⟨I0, H0, I, en, fun v I1 H1 s1 r1 => by
    cases r1 with
    | ins a b =>
      obtain ⟨v, e1, e2⟩ := b.look f hl
      exact ⟨_, _, _, _, v, rfl, s1.sub.ins a, hc, hn, e1, k v I1 H1 s1 e2⟩⟩
/-- x.f = e, x an instance of one's own; the field is new -/
theorem ds_setF (i : Nat) {x : Str} {px pos' : Pos} {ts : List (Str × OT)} {t : OT} {q : Option Addr} (h : ds[i]? = some (.ot q (.ins C ts))) (he : DV X T U e ds s) (ht : s.tree = some t) (k : E.nx (ds.set i (.ot q (.ins C (ts ++ [(f, t)]))))) (hc : Cls X.K (He.ga X.K C)) (hn : NoAttr X.K (He.ga X.K C) f)
    (hnew : f ∉ ts.map (·.1)) (hl : ts.length < 1000) (hN : X.N[i]? = some x := by rfl) (hv : Vis X.env.scope x := by first | exact Or.inl rfl | exact Or.inr (Or.inl rfl) | exact Or.inr (Or.inr rfl))
    (hd : (x == ("__debug__" : Str)) = false := by decide) (hcd : (x == ("__classdict__" : Str)) = false := by decide) (hs : swapsWith e (some (.Attribute (.Name x px) f pos')) pos.line X.env = pure false := by rfl) : DSt X T W U (.Assign [.Attribute (.Name x px) f pos'] e pos) ds E :=
  (ps_fld (pe_var hN hv hd hcd) he hs).weak fun D σ H ⟨I0, H0, I, en, k1, _⟩ => by
    obtain ⟨F, ft⟩ := en.fp
    have hi : i < σ.length := by rw [en.len]; exact (List.getElem?_eq_some_iff.mp h).1
    obtain ⟨w, A, e1, r, hA, hq⟩ := ft.sl i _ _ (List.getElem?_eq_getElem hi) h
    cases r with
    | @ins p dx _ fs _ A a1 a2 a3 a4 =>
    have e2 : σ[i]? = some (some (.ref p)) := by rw [List.getElem?_eq_getElem hi, e1]
    refine ⟨I0, H0, I, en, fun v I1 H1 s1 r1 => ⟨_, e2, ?_⟩⟩
    obtain ⟨B, rB, nB⟩ := r1.tree ht
    have kp : ∀ a ∈ p :: A, I1 a = none ∧ H1 a = H a := fun a ha => by
      refine s1.ownKeep ?_
      exact (OR.ins (dx := dx) (C := C) a1 a2 a3 a4).there a ha
    have p1 := kp p List.mem_cons_self
    have nf : f ∉ fs.map (·.1) := by rw [a4.names]; exact hnew
    have thereN : ∀ a ∈ p :: A, H a ≠ none := fun a ha => by
      obtain ⟨_, u, z, _⟩ := (OR.ins (dx := dx) (C := C) a1 a2 a3 a4).there a ha
      rw [z]
      exact fun q => nomatch q
    have pB : p ∉ B := fun z => thereN p List.mem_cons_self (nB p z)
    refine ⟨p, _, dx, fs, rfl, p1.2.trans a1, hc, hn, by rw [a4.len]; exact hl, k1 _ _ ⟨_, I1, ?_, s1.pres.trans (Pres.own p1.1 (p1.2.trans a1) fun _ _ z => nomatch z), k⟩⟩
    rw [putF_new nf]
    have st : Step (gx X T) I0 H0 I1 (upd H1 p (.ins (He.ga X.K C) dx (fs ++ [(f, v)]))) := (en.st.trans s1).mutOwn p1.1 (hA p List.mem_cons_self).1 (by
      rw [p1.2, a1]
      intro u q
      cases q
      exact ⟨(fun _ z => nomatch z), (fun _ z => nomatch z)⟩)
    have notT : ∀ u, H1 p = some u → (∀ ps, u ≠ HO.tbl ps) ∧ ∀ φ, u ≠ HO.ext φ := by
      rw [p1.2, a1]
      intro u q
      cases q
      exact ⟨(fun _ z => nomatch z), (fun _ z => nomatch z)⟩
    have oB : ∀ a ∈ B, OwnO I1 H1 a := rB.there
    have neB : ∀ a ∈ B, a ≠ p := fun a ha z => pB (by rw [← z]; exact ha)
    have frA : ORF (gx X T) I1 (upd H1 p (.ins (He.ga X.K C) dx (fs ++ [(f, v)]))) fs ts A := a4.frame s1.isub fun a ha => by
      obtain ⟨z1, z2⟩ := kp a (List.mem_cons_of_mem _ ha)
      exact ⟨z1, by rw [upd_ne fun z => a3 (by rw [← z]; exact ha)]; exact z2⟩
    have frB : OR (gx X T) I1 (upd H1 p (.ins (He.ga X.K C) dx (fs ++ [(f, v)]))) v t B := rB.frame (Same.refl I1) fun a ha => ⟨(oB a ha).1, upd_ne (neB a ha)⟩
    have dis : ∀ a ∈ A, a ∉ B := fun a ha z => thereN a (List.mem_cons_of_mem _ ha) (nB a z)
    have new : OR (gx X T) I1 (upd H1 p (.ins (He.ga X.K C) dx (fs ++ [(f, v)]))) (.ref p) (.ins C (ts ++ [(f, t)])) (p :: (A ++ B)) :=
      .ins upd_same p1.1 (fun z => (List.mem_append.mp z).elim a3 pB) (ORF.snoc frB frA dis)
    have z := en.put ft st (tabs_upd (s1.tabs en.tb) notT) (fun a n => by
      by_cases z : a = p
      · rw [z, upd_same]; exact fun q => nomatch q
      · rw [upd_ne z]; exact s1.keepN a n) i (some (.ref p)) (.ot q (.ins C (ts ++ [(f, t)]))) (fun a => a ∈ p :: (A ++ B)) (fun j hj a ha ho => by
        obtain ⟨z1, z2⟩ := s1.ownKeep ho
        exact ⟨z1, by rw [upd_ne fun z => hj (ft.dj j i a ha (by rw [z]; exact (hA p List.mem_cons_self).2))]; exact z2⟩) s1.isub (fun a ha => ⟨(by
        obtain ⟨_, u, z, _⟩ := new.there a ha
        rw [z]
        exact fun q => nomatch q), ?_⟩) ⟨_, _, rfl, new, fun a ha => ⟨?_, ha⟩, hq⟩
    · rwa [show σ.set i (some (.ref p)) = σ from by
        obtain ⟨hl, he⟩ := List.getElem?_eq_some_iff.mp e2
        rw [← he, List.set_getElem_self]] at z
    · rcases List.mem_cons.mp ha with z | z
      · exact .inr (by rw [z]; exact (hA p List.mem_cons_self).2)
      · rcases List.mem_append.mp z with z | z
        · exact .inr (hA a (List.mem_cons_of_mem _ z)).2
        · exact .inl (nB a z)
    · rcases List.mem_cons.mp ha with z | z
      · rw [z]; exact (hA p List.mem_cons_self).1
      · rcases List.mem_append.mp z with z | z
        · exact (hA a (List.mem_cons_of_mem _ z)).1
        · exact en.st.free (nB a z)
end
/-! ### instances made -/
/-- C(..) with data xs gives the tree t, where A tells so -/
def spI (G : Glb) (C : Str) (A : List D → OT → Prop) : Sp := fun vs H Q _ => ∃ (I H0 : Hp) (p dx : Addr) (us : List V) (xs : List D) (t : OT), vs = .ref p :: us ∧ RdS I H0 ∧ NdefX.TabsN G.T H0 ∧ Reps G I us xs ∧ A xs t ∧ H0 p = none ∧ H0 dx = none ∧ dx ≠ p ∧
  H = upd (upd H0 dx (.own p)) p (.ins (He.ga G.K C) dx []) ∧ ∀ I' H' B, Step G I H0 I' H' → OR G I' H' (.ref p) t B → (∀ a ∈ B, H0 a = none) → Q .non H'
theorem okI {G : Glb} {C x qual : Str} {params : Arguments} {body : List Stmt} {scope : Scope} {f : Addr} {fd : FuncData} {N ps : List Str} {k : Nat} {A : List D → OT → Prop} (F : FunD G.K x qual params body scope [] [] f fd) (S : FnScope N ps scope)
    (hA : ∀ xs t, A xs t → xs.length + 1 = ps.length)
    (hb : ∀ (cdv : Value) (Ar : Around) (outer : List Env) (s : Shared) (H : Hp) (E : XK), Room k (Ar.deeper (envOfC qual scope s.heap.objs.size f cdv)) → ∀ p xs t, A xs t →
      DSs (cxOf CX0 G.P G.w G.K G.mg G.base N qual scope f cdv Ar outer s H E).nox G.T W0 false body (.ot (some p) (.ins C []) :: startD (N.length - 1) xs) { nx := fun ds => ds[0]? = some (.ot (some p) t) }) :
    FnOk G.P G.w G.K G.mg G.base CX0 (k + 1) f fd ps (spI G C A) := by
  refine F.ok S (fun vs H Q E ⟨I, H0, p, dx, us, xs, t, e, _, _, rs, hAx, _⟩ => by rw [e, List.length_cons, rs.len]; exact hA xs t hAx) (fun cdv Ar outer s H vs Q E hr ⟨I, H0, p, dx, us, xs, t, e, rd, tb, rs, hAx, hp, hdx, hne, eH, k⟩ => ?_)
  subst e eH
  have h := hb cdv Ar outer s (upd (upd H0 dx (.own p)) p (.ins (He.ga G.K C) dx [])) E hr p xs t hAx
  have hl : xs.length + 1 ≤ N.length := by
    have e1 := S.pre
    have e2 := hA xs t hAx
    rw [e2, ← e1, List.length_take]
    exact Nat.min_le_right _ _
  have s1 : Step G I H0 I (upd H0 dx (.own p)) := Step.newOwn rd hdx
  have hp1 : upd H0 dx (.own p) p = none := by rw [upd_ne fun z => hne z.symm]; exact hp
  have s2 : Step G I H0 I (upd (upd H0 dx (.own p)) p (.ins (He.ga G.K C) dx [])) := s1.trans (Step.newOwn s1.sub hp1)
  have e0 : EnvR G false I H0 I H0 (L2.start (List.replicate (N.length - 1) Str.empty) us) (startD (N.length - 1) xs) := by
    have z := env_start (G := G) (U := false) (N := List.replicate (N.length - 1) Str.empty) rd tb rs (by rw [List.length_replicate]; omega)
    rwa [List.length_replicate] at z
  have e1 : EnvR G false I H0 I H0 (none :: L2.start (List.replicate (N.length - 1) Str.empty) us) (.no :: startD (N.length - 1) xs) := by
    obtain ⟨F, ft⟩ := e0.fp
    refine ⟨e0.st, e0.tb, congrArg (· + 1) e0.len, fun i a => match i with | 0 => False | i + 1 => F i a, fun i o s h1 h2 => ?_, fun i j a h1 h2 => ?_, fun i a h1 => ?_⟩
    · cases i with
      | zero => cases h2; trivial
      | succ i => exact ft.sl i o s h1 h2
    · cases i with
      | zero => exact h1.elim
      | succ i =>
        cases j with
        | zero => exact h2.elim
        | succ j => exact congrArg (· + 1) (ft.dj i j a h1 h2)
    · cases i with
      | zero => exact h1.elim
      | succ i => exact ft.th i a h1
  have e2 : EnvR G false I H0 I (upd (upd H0 dx (.own p)) p (.ins (He.ga G.K C) dx [])) (some (.ref p) :: L2.start (List.replicate (N.length - 1) Str.empty) us) (.ot (some p) (.ins C []) :: startD (N.length - 1) xs) :=
    e1.setNew s2 [p] (fun a ha => by
      rw [List.mem_singleton.mp ha, upd_same]
      exact ⟨hp, fun z => nomatch z⟩) 0 ⟨_, [p], rfl, .ins (A := []) upd_same (rd.free hp) (by simp) .nil, fun a ha => ⟨by rw [List.mem_singleton.mp ha]; exact hp, ha⟩, fun _ z => by cases z; rfl⟩
  have es : L2.start N (.ref p :: us) = some (.ref p) :: L2.start (List.replicate (N.length - 1) Str.empty) us := by
    unfold L2.start
    rw [List.length_replicate, List.map_cons, List.cons_append, List.length_cons, Nat.sub_sub, Nat.add_comm us.length 1]
  refine ⟨_, PSs.nox h, I, H0, I, by rw [es]; exact e2, ?_, ?_, ?_, ?_, ?_⟩
  · rintro σ' H' ⟨ds', I', e', p', q⟩
    obtain ⟨v, B, _, r, hB, hv⟩ := e'.ot q
    rw [hv p rfl] at r
    exact k I' H' B e'.st r hB
  · rintro _ _ _ _ z
    exact z.elim
  · rintro _ _ ⟨_, _, _, _, q⟩
    exact q
  · rintro _ _ ⟨_, _, _, _, q⟩
    exact q
  · rintro _ _ _ _ _ ⟨_, _, _, _, _, q⟩
    exact q
/-- a class by its name, with what an instance is -/
structure MakD (G : Glb) (k : Nat) (x : Str) (ps : List Str) (A : List D → OT → Prop) : Prop where
  mkr : Mk G.K (He.ga G.K x) (He.ma G.K (He.ga G.K x) "__init__")
  ok : FnOk G.P G.w G.K G.mg G.base CX0 k (He.ma G.K (He.ga G.K x) "__init__") (fdOf G.K (He.ma G.K (He.ga G.K x) "__init__")) ps (spI G x A)
  g : G.mg x = some (.ref (He.ga G.K x))
  n : L2.Binds G.K (fdOf G.K (He.ma G.K (He.ga G.K x) "__init__")) ps []
section
variable {X : Cx} {T : List NdefX.NTab} {U : Bool} {ds : List DS}
theorem dv_mk {A : List D → OT → Prop} {k j : Nat} {ps : List Str} {x : Str} {p pos : Pos} {e : Expr} {es : List Expr} {xs : List D} {t : OT} (C : MakD (gx X T) k x ps A) (hr : Room j X.A) (ha : DA X T U (e :: es) ds xs) (hA : A xs t) (hk : k + 1 ≤ j := by decide)
    (hg : Gl X x := by rfl) (hdb : (x == ("__debug__" : Str)) = false := by decide) (he : starEach (e :: es) X.env = (false, eval e X.env) :: starEach es X.env := by rfl) (hpl : (backTo pos (starEach es X.env)).any (·.1) = false := by rfl) : DV X T U (.Call (.Name x p) (e :: es) [] pos) ds (.ot none t) :=
  (pe_make C.mkr C.ok (hr.mono hk) hg C.g C.n .nil (E := E0) pass0 ha hdb he hpl).weak fun σ H Q ⟨I0, H0, I, en, k⟩ => ⟨I0, H0, I, en, fun vs I1 H1 s1 r1 p dx hp hdx hne => by
    refine ⟨I1, H1, p, dx, vs, xs, t, by rw [List.append_nil], s1.sub, (en.step s1).tb, r1, hA, hp, hdx, hne, rfl, fun I' H' B s2 r2 hB => ⟨rfl, ?_⟩⟩
    exact k _ I' H' (s1.trans s2) ⟨B, r2, fun a ha => s1.free (hB a ha), fun _ z => nomatch z⟩⟩
theorem de_mk {A : List D → OT → Prop} {k j : Nat} {ps : List Str} {x : Str} {p pos : Pos} {e : Expr} {es : List Expr} {xs : List D} {t : OT} (C : MakD (gx X T) k x ps A) (hr : Room j X.A) (ha : DA X T U (e :: es) ds xs) (hA : A xs t) (hk : k + 1 ≤ j := by decide)
    (hg : Gl X x := by rfl) (hdb : (x == ("__debug__" : Str)) = false := by decide) (he : starEach (e :: es) X.env = (false, eval e X.env) :: starEach es X.env := by rfl) (hpl : (backTo pos (starEach es X.env)).any (·.1) = false := by rfl) : DE X T U (.Call (.Name x p) (e :: es) [] pos) ds t.fz :=
  dv_fz (dv_mk C hr ha hA hk hg hdb he hpl)
end
end Lp

/-! Dicts of one's own: read, grown. -/
namespace Lp
open PySem PySem.Spec PyProof.Rows L2
theorem u1 {k : Nat} {A : Around} (hr : Room k A) : A.units + 1 < cLine := by
  have := hr.units
  omega
/-- the keys of a slot's own dict -/
def DS.ks : DS → Option (List Str)
  | .ownD kvs => some (kvs.map (·.1))
  | .ot _ (.dic ts) => some (ts.map (·.1))
  | _ => none
theorem RepF.names {G : Glb} {I : Hp} : ∀ {vs : List (Str × V)} {ts : List (Str × D)}, RepF G I vs ts → vs.map (·.1) = ts.map (·.1)
  | _, _, .nil => rfl
  | _, _, .cons _ b => congrArg _ b.names
theorem EnvR.dictAt {G : Glb} {U : Bool} {I0 H0 I H : Hp} {σ : L2.St} {ds : List DS} (e : EnvR G U I0 H0 I H σ ds) {i : Nat} {s : DS} {ks : List Str} (h : ds[i]? = some s) (hk : s.ks = some ks) : ∃ p fs, σ[i]? = some (some (.ref p)) ∧ H p = some (.dK (kvK fs)) ∧ fs.map (·.1) = ks ∧ I p = none := by
  cases s with
  | no => cases hk
  | im d => cases hk
  | own xs => cases hk
  | ownD kvs =>
    cases hk
    obtain ⟨p, fs, e1, e2, e3, e4, _⟩ := e.ownD h
    exact ⟨p, fs, e1, e2, e3.names, e4⟩
  | ot q t =>
    obtain ⟨v, A, e1, r, _⟩ := e.ot h
    cases r with
    | im _ => cases hk
    | lst _ _ _ _ => cases hk
    | tup _ _ _ _ => cases hk
    | hole _ => cases hk
    | ins _ _ _ _ => cases hk
    | dic a1 a2 a3 a4 =>
      cases hk
      exact ⟨_, _, e1, a1, a4.names, a2⟩
theorem val_in : ∀ {fs : List (Str × V)} {k : Str}, (valV (kvK fs) (Sum.inr k)).isSome = decide (k ∈ fs.map (·.1))
  | [], k => rfl
  | (x, v) :: r, k => by
    by_cases e : x = k
    · rw [show valV (kvK ((x, v) :: r)) (Sum.inr k) = some v from valV_pos (by rw [← e]), decide_eq_true (by rw [e]; exact List.mem_cons_self)]
      rfl
    · rw [show valV (kvK ((x, v) :: r)) (Sum.inr k) = valV (kvK r) (Sum.inr k) from valV_neg fun z => e (Sum.inr.inj z), val_in]
      refine decide_eq_decide.mpr ?_
      rw [List.map_cons, List.mem_cons]
      exact ⟨.inr, fun z => z.elim (fun z => absurd z.symm e) id⟩
section
variable {X : Cx} {T : List NdefX.NTab} {W : WX} {U : Bool} {ds : List DS} {s : DS} {E : DEn}
section
variable {a : Expr} {k x : Str} {p pos : Pos} {ks : List Str}
theorem inK_run {f : Option V → Bool} {σ : L2.St} {H : Hp} {Q : VK} {c : Bool} (i : Nat) (h : ds[i]? = some s) (hk : s.ks = some ks) (hc : ∀ o : Option V, o.isSome = decide (k ∈ ks) → f o = c) (hw : eV (gx X T) U ds (.im (.bl c)) σ H Q) :
    (eV (gx X T) U ds (.im (.str k))) σ H fun y H1 => tVar i σ H1 fun x H2 => ∃ a o, x = .ref a ∧ DGet H2 a y o ∧ Q (.bl (f o)) H2 := by
  obtain ⟨I0, H0, I, en, kk⟩ := hw
  refine ⟨I0, H0, I, en, fun v I1 H1 s1 r1 => ?_⟩
  cases r1
  obtain ⟨p, fs, e1, e2, e3, e4⟩ := (en.step s1).dictAt h hk
  refine ⟨_, e1, p, valV (kvK fs) (Sum.inr k), rfl, .inl ⟨_, Sum.inr k, .inl e2, rfl, rfl⟩, ?_⟩
  rw [hc _ (by rw [val_in, e3])]
  exact kk _ I1 H1 s1 (.bl c)
/-- k in x, x a dict of one's own -/
theorem dt_inK (i : Nat) (h : ds[i]? = some s) (ha : DE X T U a ds (.str k)) (hu : X.A.units + 1 < cLine) (hk : s.ks = some ks := by rfl) (hN : X.N[i]? = some x := by rfl) (hv : Vis X.env.scope x := by first | exact Or.inl rfl | exact Or.inr (Or.inl rfl) | exact Or.inr (Or.inr rfl))
    (hd : (x == ("__debug__" : Str)) = false := by decide) (hcd : (x == ("__classdict__" : Str)) = false := by decide) : DT X T U (.Compare a [.In] [.Name x p] pos) ds (decide (k ∈ ks)) :=
  (pt_cmp (pc_din hu ha (pe_var hN hv hd hcd)) rfl).weak fun σ H Q ⟨I0, H0, I, en, kk⟩ => inK_run (f := fun o => o.isSome) (Q := fun x H' => ∃ c, x = .bl c ∧ Q c H') i h hk (fun _ h => h) ⟨I0, H0, I, en, fun v I' H' st r => by cases r; exact ⟨_, rfl, kk I' H' st⟩⟩
theorem dt_niK (i : Nat) (h : ds[i]? = some s) (ha : DE X T U a ds (.str k)) (hu : X.A.units + 1 < cLine) (hk : s.ks = some ks := by rfl) (hN : X.N[i]? = some x := by rfl) (hv : Vis X.env.scope x := by first | exact Or.inl rfl | exact Or.inr (Or.inl rfl) | exact Or.inr (Or.inr rfl))
    (hd : (x == ("__debug__" : Str)) = false := by decide) (hcd : (x == ("__classdict__" : Str)) = false := by decide) : DT X T U (.Compare a [.NotIn] [.Name x p] pos) ds (!decide (k ∈ ks)) :=
  (pt_cmp (pc_dnotin hu ha (pe_var hN hv hd hcd)) rfl).weak fun σ H Q ⟨I0, H0, I, en, kk⟩ => inK_run (f := fun o => !o.isSome) (Q := fun x H' => ∃ c, x = .bl c ∧ Q c H') i h hk (fun _ h => by rw [h]) ⟨I0, H0, I, en, fun v I' H' st r => by cases r; exact ⟨_, rfl, kk I' H' st⟩⟩
end
/-- x[k], x a dict of one's own with told values -/
theorem de_dgetO {b : Expr} {k x : Str} {p pos : Pos} {kvs : List (Str × D)} {d : D} (i : Nat) (h : ds[i]? = some (.ownD kvs)) (hb : DE X T U b ds (.str k)) (hk : lookD kvs k = some d) (hu : X.A.units + 1 < cLine) (hN : X.N[i]? = some x := by rfl) (hv : Vis X.env.scope x := by first | exact Or.inl rfl | exact Or.inr (Or.inl rfl) | exact Or.inr (Or.inr rfl))
    (hd : (x == ("__debug__" : Str)) = false := by decide) (hcd : (x == ("__classdict__" : Str)) = false := by decide) (hn : NoSl b := by intro _ _; rfl) : DE X T U (.Subscript (.Name x p) b pos) ds d :=
  (pe_dget hu (pe_var hN hv hd hcd) hb hn).weak fun σ H Q ⟨I0, H0, I, en, kk⟩ => by
    obtain ⟨q, fs, e1, _⟩ := en.ownD h
    refine ⟨_, e1, I0, H0, I, en, fun v I1 H1 s1 r1 => ?_⟩
    cases r1
    obtain ⟨q2, fs2, f1, f2, f3, f4, _⟩ := (en.step s1).ownD h
    rw [e1] at f1
    cases f1
    have z := look_rep f3 k
    rw [hk] at z
    obtain ⟨v, z1, z2⟩ := z
    exact ⟨q, v, rfl, .inl ⟨_, Sum.inr k, .inl f2, rfl, z1.symm⟩, kk _ I1 H1 s1 z2⟩
/-- list(d), d a told dict -/
theorem dv_listD {e : Expr} {p pos : Pos} {kvs : List (Str × D)} (ha : DE X T U e ds (.dic kvs)) (hg : Gl X "list") (hm : X.mg "list" = none) (hc : X.calm = true := by rfl) (he : starEach [e] X.env = (false, eval e X.env) :: starEach [] X.env := by rfl) : DV X T U (.Call (.Name "list" p) [e] [] pos) ds (.own (DK.keys.ds kvs)) := by
  refine dv_callTy (call_listD hc) (fun I H vs Q r h k => ?_) hg hm (by decide +kernel) (da_cons ha da_nil he) (by decide) (by decide) he
  cases h with
  | cons a c =>
    cases c
    cases a with
    | @dic q fs _ e1 e2 =>
      refine ⟨q, kvK fs, rfl, r.dic e1, fun p hp => k _ I _ (Step.newOwn r hp) ⟨p, _, rfl, hp, r.free hp, upd_same, ?_⟩⟩
      have en := e2.names
      have z : (kvK fs).map (fun kv => kV kv.1) = (fs.map (·.1)).map V.str := by
        rw [kvK, List.map_map, List.map_map]
        rfl
      rw [z, en]
      have z2 : DK.keys.ds kvs = (kvs.map (·.1)).map D.str := by
        rw [List.map_map]
        rfl
      rw [z2]
      exact Reps.ofStrs _
theorem putK_new {fs : List (Str × V)} {k : Str} {v : V} (h : k ∉ fs.map (·.1)) : putK (kvK fs) (Sum.inr k) v = kvK (fs ++ [(k, v)]) := by
  unfold putK
  rw [if_neg]
  · rw [kvK, kvK, List.map_append]
    rfl
  · intro z
    obtain ⟨kv, h1, h2⟩ := List.any_eq_true.mp z
    obtain ⟨f, h3, rfl⟩ := List.mem_map.mp h1
    have h4 : (Sum.inr f.1 : Key) = Sum.inr k := of_decide_eq_true h2
    exact h (by rw [← Sum.inr.inj h4]; exact List.mem_map_of_mem h3)
/-- x[k] = e, x a dict of one's own, k new -/
theorem ds_dputO (i : Nat) {b e : Expr} {k x : Str} {p pos' pos : Pos} {ts : List (Str × OT)} {t : OT} {q : Option Addr} (h : ds[i]? = some (.ot q (.dic ts))) (hb : DE X T U b ds (.str k)) (he : DV X T U e ds s) (ht : s.tree = some t) (hnew : k ∉ ts.map (·.1)) (hl : ts.length < 100000) (kk : E.nx (ds.set i (.ot q (.dic (ts ++ [(k, t)]))))) (hu : X.A.units + 1 < cLine) (hN : X.N[i]? = some x := by rfl)
    (hv : Vis X.env.scope x := by first | exact Or.inl rfl | exact Or.inr (Or.inl rfl) | exact Or.inr (Or.inr rfl)) (hd : (x == ("__debug__" : Str)) = false := by decide) (hcd : (x == ("__classdict__" : Str)) = false := by decide)
    (hs : swapsWith e (some (.Subscript (.Name x p) b pos')) pos.line X.env = pure false := by rfl) : DSt X T W U (.Assign [.Subscript (.Name x p) b pos'] e pos) ds E :=
  (ps_dput hu (pe_var hN hv hd hcd) hb he hs).weak fun D σ H ⟨I0, H0, I, en, k1, _⟩ => by
    obtain ⟨F, ft⟩ := en.fp
    have hi : i < σ.length := by rw [en.len]; exact (List.getElem?_eq_some_iff.mp h).1
    obtain ⟨w, A, e1, r, hA, hq⟩ := ft.sl i _ _ (List.getElem?_eq_getElem hi) h
    cases r with
    | @dic p fs _ A a1 a2 a3 a4 =>
    have e2 : σ[i]? = some (some (.ref p)) := by rw [List.getElem?_eq_getElem hi, e1]
    refine ⟨I0, H0, I, en, fun v I1 H1 s1 r1 => ⟨_, e2, I0, H0, I1, en.step s1, fun y I2 H2 s2 r2 => ?_⟩⟩
    cases r2
    obtain ⟨B, rB, nB⟩ := r1.tree ht
    have rB := rB.frame (H' := H2) s2.isub fun a ha => s2.ownKeep (rB.there a ha)
    have s12 := s1.trans s2
    have kp : ∀ a ∈ p :: A, I2 a = none ∧ H2 a = H a := fun a ha => s12.ownKeep ((OR.dic a1 a2 a3 a4).there a ha)
    have p1 := kp p List.mem_cons_self
    have nf : k ∉ fs.map (·.1) := by rw [a4.names]; exact hnew
    have thereN : ∀ a ∈ p :: A, H a ≠ none := fun a ha => by
      obtain ⟨_, u, z, _⟩ := (OR.dic a1 a2 a3 a4).there a ha
      rw [z]
      exact fun q => nomatch q
    have pB : p ∉ B := fun z => thereN p List.mem_cons_self (nB p z)
    refine ⟨p, _, rfl, .inl ⟨_, Sum.inr k, p1.2.trans a1, rfl, ?_, rfl⟩, k1 _ _ ⟨_, I2, ?_, s12.pres.trans (Pres.own p1.1 (p1.2.trans a1) fun _ _ z => nomatch z), kk⟩⟩
    · rw [kvK, List.length_map, a4.len]
      exact Nat.lt_of_lt_of_le hl (by decide)
    rw [putK_new nf]
    have notT : ∀ u, H2 p = some u → (∀ ps, u ≠ HO.tbl ps) ∧ ∀ φ, u ≠ HO.ext φ := by
      rw [p1.2, a1]
      intro u q
      cases q
      exact ⟨(fun _ z => nomatch z), (fun _ z => nomatch z)⟩
    have st : Step (gx X T) I0 H0 I2 (upd H2 p (.dK (kvK (fs ++ [(k, v)])))) := (en.st.trans s12).mutOwn p1.1 (hA p List.mem_cons_self).1 notT
    have neB : ∀ a ∈ B, a ≠ p := fun a ha z => pB (by rw [← z]; exact ha)
    have frA : ORF (gx X T) I2 (upd H2 p (.dK (kvK (fs ++ [(k, v)])))) fs ts A := a4.frame s12.isub fun a ha => by
      obtain ⟨z1, z2⟩ := kp a (List.mem_cons_of_mem _ ha)
      exact ⟨z1, by rw [upd_ne fun z => a3 (by rw [← z]; exact ha)]; exact z2⟩
    have frB : OR (gx X T) I2 (upd H2 p (.dK (kvK (fs ++ [(k, v)])))) v t B := rB.frame (Same.refl I2) fun a ha => ⟨(rB.there a ha).1, upd_ne (neB a ha)⟩
    have dis : ∀ a ∈ A, a ∉ B := fun a ha z => thereN a (List.mem_cons_of_mem _ ha) (nB a z)
    have new : OR (gx X T) I2 (upd H2 p (.dK (kvK (fs ++ [(k, v)])))) (.ref p) (.dic (ts ++ [(k, t)])) (p :: (A ++ B)) :=
      .dic upd_same p1.1 (fun z => (List.mem_append.mp z).elim a3 pB) (ORF.snoc frB frA dis)
    have z := en.put ft st (tabs_upd (s12.tabs en.tb) notT) (fun a n => by
      by_cases z : a = p
      · rw [z, upd_same]; exact fun q => nomatch q
      · rw [upd_ne z]; exact s12.keepN a n) i (some (.ref p)) (.ot q (.dic (ts ++ [(k, t)]))) (fun a => a ∈ p :: (A ++ B)) (fun j hj a ha ho => by
        obtain ⟨z1, z2⟩ := s12.ownKeep ho
        exact ⟨z1, by rw [upd_ne fun z => hj (ft.dj j i a ha (by rw [z]; exact (hA p List.mem_cons_self).2))]; exact z2⟩) s12.isub (fun a ha => ⟨(by
        obtain ⟨_, u, z, _⟩ := new.there a ha
        rw [z]
        exact fun q => nomatch q), ?_⟩) ⟨_, _, rfl, new, fun a ha => ⟨?_, ha⟩, hq⟩
    · rwa [show σ.set i (some (.ref p)) = σ from by
        obtain ⟨hl, he⟩ := List.getElem?_eq_some_iff.mp e2
        rw [← he, List.set_getElem_self]] at z
    · rcases List.mem_cons.mp ha with z | z
      · exact .inr (by rw [z]; exact (hA p List.mem_cons_self).2)
      · rcases List.mem_append.mp z with z | z
        · exact .inr (hA a (List.mem_cons_of_mem _ z)).2
        · exact .inl (nB a z)
    · rcases List.mem_cons.mp ha with z | z
      · rw [z]; exact (hA p List.mem_cons_self).1
      · rcases List.mem_append.mp z with z | z
        · exact (hA a (List.mem_cons_of_mem _ z)).1
        · exact en.st.free (nB a z)
/-- a dict display of one's own, as a tree -/
theorem dv_newT {pos : Pos} : DV X T U (.Dict [] [] pos) ds (.ot none (.dic [])) := pe_dnewK.weak fun σ H Q ⟨I0, H0, I, en, k⟩ => fun p hp =>
  k _ I _ (Step.newOwn en.sub hp) ⟨[p], .dic (fs := []) (A := []) upd_same (en.sub.free hp) (by simp) .nil, fun a ha => by rw [List.mem_singleton.mp ha]; exact hp, fun _ z => nomatch z⟩
/-- a name that holds a tree is handed back -/
theorem ds_retT (i : Nat) {x : Str} {p pos : Pos} {t : OT} {q : Option Addr} (h : ds[i]? = some (.ot q t)) (k : E.rt (.ot q t)) (hN : X.N[i]? = some x := by rfl) (hv : Vis X.env.scope x := by first | exact Or.inl rfl | exact Or.inr (Or.inl rfl) | exact Or.inr (Or.inr rfl))
    (hd : (x == ("__debug__" : Str)) = false := by decide) (hcd : (x == ("__classdict__" : Str)) = false := by decide) : DSt X T W U (.Return (some (.Name x p)) pos) ds E :=
  (ps_ret (pe_var hN hv hd hcd)).weak fun D σ H ⟨I0, H0, I, en, _, k2, _⟩ => by
    obtain ⟨v, A, e1, r, hA, hq⟩ := en.ot h
    exact ⟨_, e1, k2 _ H (.ot q t) ⟨I, en.st, A, r, hA, hq⟩ k⟩
theorem de_isN {a : Expr} {pos : Pos} {j : Nat} {p : Pos} {d : D} {c : Bool} (ha : DE X T U a ds d) (hc : ∀ (G : Glb) (I : Hp) (v : V), Rep G I v d → decide (v = .non) = c) : DE X T U (.Compare a [.Is] [.Constant .none j p] pos) ds (.bl c) :=
  (pe_cmp (pc_isN ha)).weak fun σ H Q ⟨I0, H0, I, en, k⟩ => ⟨I0, H0, I, en, fun v I' H' st r => by
    show Q (.bl (decide (v = .non))) H'
    rw [hc _ _ _ r]
    exact k _ I' H' st (.bl c)⟩
theorem isN_g (g : Option Str) : ∀ (G : Glb) (I : Hp) (v : V), Rep G I v (gD g) → decide (v = .non) = g.isNone := fun G I v h => by
  cases g with
  | none => cases h; rfl
  | some x => cases h; rfl
end
end Lp

/-! Closures handed over: the frame's cells are told for the time of the call. -/
namespace Lp
open PySem PySem.Spec PyProof.Rows L2 NdefX
/-! ### cells told -/
def CelO (c : Addr) (o : Obj) : HO := .ext fun h => h.get? c = some o
abbrev Cels := List (Addr × Obj)
def lay (L : Cels) (H : Hp) : Hp := fun a => match L.lookup a with
  | some o => some (CelO a o)
  | none => H a
def unl (L : Cels) (H : Hp) : Hp := fun a => match L.lookup a with
  | some _ => none
  | none => H a
theorem lay_in {L : Cels} {H : Hp} {a : Addr} {o : Obj} (h : L.lookup a = some o) : lay L H a = some (CelO a o) := by
  unfold lay
  rw [h]
theorem lay_out {L : Cels} {H : Hp} {a : Addr} (h : L.lookup a = none) : lay L H a = H a := by
  unfold lay
  rw [h]
theorem unl_in {L : Cels} {H : Hp} {a : Addr} {o : Obj} (h : L.lookup a = some o) : unl L H a = none := by
  unfold unl
  rw [h]
theorem unl_out {L : Cels} {H : Hp} {a : Addr} (h : L.lookup a = none) : unl L H a = H a := by
  unfold unl
  rw [h]
/-- the cells stand in h and are no one's -/
structure Fr (L : Cels) (h : Heap) (H : Hp) : Prop where
  at_ : ∀ a o, L.lookup a = some o → h.get? a = some o ∧ ∃ v, o.data = .cell v
  no : ∀ a o, L.lookup a = some o → H a = none
theorem Fr.out {L : Cels} {h : Heap} {H : Hp} (f : Fr L h H) {a : Addr} (n : H a ≠ none) : L.lookup a = none := by
  cases e : L.lookup a with
  | none => rfl
  | some o => exact absurd (f.no a o e) n
theorem Fr.out' {L : Cels} {h : Heap} {H : Hp} (f : Fr L h H) {a : Addr} {u : HO} (n : H a = some u) : L.lookup a = none := f.out (by rw [n]; exact fun z => nomatch z)
/-- the cells are told in H -/
structure Laid (L : Cels) (H : Hp) : Prop where
  at_ : ∀ a o, L.lookup a = some o → H a = some (CelO a o)
theorem laid_lay (L : Cels) (H : Hp) : Laid L (lay L H) := ⟨fun _ _ h => lay_in h⟩
theorem Laid.mono {L : Cels} {H H' : Hp} (l : Laid L H) (s : Same H H') : Laid L H' := ⟨fun a o h => s _ _ (l.at_ a o h)⟩
theorem Laid.up {L : Cels} {I H : Hp} (l : Laid L I) (r : RdS I H) : Laid L H := ⟨fun a o h => r.ext (l.at_ a o h)⟩
theorem lay_same {L : Cels} {h : Heap} {H : Hp} (f : Fr L h H) : Same H (lay L H) := fun a u e => by rw [lay_out (f.out' e)]; exact e
theorem celO_ne {c : Addr} {o : Obj} {u : HO} (h : ∀ φ, u ≠ HO.ext φ) : CelO c o ≠ u := fun z => h _ z.symm
section
variable {P : Program} {w : World} {H H' : Hp} {h h' : Heap} {L : Cels} {fs : List Addr}
theorem hok_lay (x : HOk P w H h) (f : Fr L h H) : HOk P w (lay L H) h := fun a u e => by
  cases q : L.lookup a with
  | some o =>
    rw [lay_in q] at e
    cases e
    obtain ⟨z, _⟩ := f.at_ a o q
    exact ⟨z, ⟨o, z⟩, fun h1 h2 k1 k2 => k2 o k1⟩
  | none =>
    rw [lay_out q] at e
    exact (x a u e).stay (fun _ _ _ z => z) (fun b z => by rw [lay_out (f.out' z)]; exact z) fun b xs z => by rw [lay_out (f.out' z)]; exact z
theorem Laid.other (l : Laid L H) {a : Addr} {u : HO} (h : H a = some u) (hu : ∀ φ, u ≠ HO.ext φ) : L.lookup a = none := by
  cases e : L.lookup a with
  | none => rfl
  | some o =>
    rw [l.at_ a o e] at h
    exact absurd (Option.some.inj h) (celO_ne hu)
theorem Laid.none' (l : Laid L H) {a : Addr} (h : H a = none) : L.lookup a = none := by
  cases e : L.lookup a with
  | none => rfl
  | some o => rw [l.at_ a o e] at h; cases h
theorem hok_unl (x : HOk P w H h) (l : Laid L H) : HOk P w (unl L H) h := fun a u e => by
  cases q : L.lookup a with
  | some o => rw [unl_in q] at e; cases e
  | none =>
    rw [unl_out q] at e
    exact (x a u e).stay (fun _ _ _ z => z) (fun b z => by rw [unl_out (l.other z fun _ z => nomatch z)]; exact z) fun b xs z => by rw [unl_out (l.other z fun _ z => nomatch z)]; exact z
/-- behind a call with the cells told -/
theorem un_after (u : Un fs [] (lay L H) H' h h') (x : HOk P w H' h') (l : Laid L H') (f : Fr L h H) : Un fs [] H (unl L H') h h' where
  keep := fun b o e n hb hx => by
    cases q : L.lookup b with
    | some o' =>
      obtain ⟨z, _⟩ := f.at_ b o' q
      rw [e] at z
      cases z
      exact (x b _ (l.at_ b o q)).1
    | none => exact u.keep b o e (by rw [lay_out q]; exact n) hb hx
  slot := fun b o e n hb hx => by
    cases q : L.lookup b with
    | some o' =>
      obtain ⟨z, _⟩ := f.at_ b o' q
      rw [e] at z
      cases z
      exact ⟨o.slots, (x b _ (l.at_ b o q)).1⟩
    | none => exact u.slot b o e (by rw [lay_out q]; exact n) hb hx
  free := fun b o e n hx => by
    cases q : L.lookup b with
    | some o' => exact unl_in q
    | none => rw [unl_out q]; exact u.free b o e (by rw [lay_out q]; exact n) hx
  there := u.there
  tups := fun b xs e => by
    have q := f.out' e
    rw [unl_out q]
    exact u.tups b xs (by rw [lay_out q]; exact e)
  frzs := fun b o x e => by
    have q := f.out' e
    rw [unl_out q]
    exact u.frzs b o x (by rw [lay_out q]; exact e)
  tbls := fun b ps e => by
    have q := f.out' e
    obtain ⟨m, z⟩ := u.tbls b ps (by rw [lay_out q]; exact e)
    exact ⟨m, by rw [unl_out q]; exact z⟩
/-- behind a call of the closure itself -/
theorem un_in {H2 : Hp} (u : Un fs [] (unl L H) H2 h h') (l : Laid L H) : Un fs [] H (lay L H2) h h' where
  keep := fun b o e n hb hx => u.keep b o e (by rw [unl_out (l.none' n)]; exact n) hb hx
  slot := fun b o e n hb hx => u.slot b o e (by rw [unl_out (l.none' n)]; exact n) hb hx
  free := fun b o e n hx => by
    have q := l.none' n
    rw [lay_out q]
    exact u.free b o e (by rw [unl_out q]; exact n) hx
  there := u.there
  tups := fun b xs e => by
    have q := l.other e fun _ z => nomatch z
    rw [lay_out q]
    exact u.tups b xs (by rw [unl_out q]; exact e)
  frzs := fun b o x e => by
    have q := l.other e fun _ z => nomatch z
    rw [lay_out q]
    exact u.frzs b o x (by rw [unl_out q]; exact e)
  tbls := fun b ps e => by
    have q := l.other e fun _ z => nomatch z
    obtain ⟨m, z⟩ := u.tbls b ps (by rw [unl_out q]; exact e)
    exact ⟨m, by rw [lay_out q]; exact z⟩
theorem code_ne {c : Addr} {o : Obj} {q : Str} {h : Heap} (hc : h.get? c = some o) (hd : ∃ v, o.data = .cell v) : LamX.CodeO c q ≠ CelO c o := fun z => by
  have e : (fun h : Heap => ∃ (oc : Obj) (vs : Array Value) (t : Tok), h.get? c = some oc ∧ oc.data = .fields vs ∧ vs[1]? = some (.str q t)) = fun h : Heap => h.get? c = some o := HO.ext.inj z
  have e2 : ∃ (oc : Obj) (vs : Array Value) (t : Tok), h.get? c = some oc ∧ oc.data = .fields vs ∧ vs[1]? = some (.str q t) := by
    have := congrFun e h
    exact (show (∃ (oc : Obj) (vs : Array Value) (t : Tok), h.get? c = some oc ∧ oc.data = .fields vs ∧ vs[1]? = some (.str q t)) = (h.get? c = some o) from this) ▸ hc
  obtain ⟨oc, vs, t, h1, h2, _⟩ := e2
  obtain ⟨v, hd⟩ := hd
  rw [hc] at h1
  cases h1
  rw [hd] at h2
  cases h2
theorem tabs_lay {T : List NTab} (t : TabsN T H) (f : Fr L h H) : TabsN T (lay L H) := t.ext fun b o e => lay_same f b o e
/-- the cells as they stood at some time -/
def WasCel (L : Cels) : Prop := ∀ a o, L.lookup a = some o → (∃ h : Heap, h.get? a = some o) ∧ ∃ v, o.data = .cell v
theorem Fr.was (f : Fr L h H) : WasCel L := fun a o e => ⟨⟨h, (f.at_ a o e).1⟩, (f.at_ a o e).2⟩
theorem tabs_unl {T : List NTab} (t : TabsN T H) (l : Laid L H) (w : WasCel L) : TabsN T (unl L H) := fun p hp => by
  obtain ⟨ps, h1, h2, h3⟩ := t p hp
  refine ⟨ps, by rw [unl_out (l.other h1 fun _ z => nomatch z)]; exact h1, h2, fun pos cv hc => ?_⟩
  obtain ⟨c, e1, e2⟩ := h3 pos cv hc
  refine ⟨c, e1, ?_⟩
  have q : L.lookup c = none := by
    cases e : L.lookup c with
    | none => rfl
    | some o =>
      obtain ⟨⟨g, hg⟩, hd⟩ := w c o e
      rw [l.at_ c o e] at e2
      exact absurd (Option.some.inj e2).symm (code_ne hg hd)
  rw [unl_out q]
  exact e2
theorem step_after {G : Glb} {I I' : Hp} (s : Step G (lay L I) (lay L H) I' H') (fi : ∀ a o, L.lookup a = some o → I a = none) (f : Fr L h H) (l : Laid L H') : Step G I H (unl L I') (unl L H') where
  isub := fun a u e => by
    have q : L.lookup a = none := by
      cases z : L.lookup a with
      | none => rfl
      | some o => rw [fi a o z] at e; cases e
    rw [unl_out q]
    exact s.isub a u (by rw [lay_out q]; exact e)
  sub := fun a u e => by
    cases q : L.lookup a with
    | some o => rw [unl_in q] at e; cases e
    | none =>
      rw [unl_out q] at e ⊢
      exact s.sub a u e
  keep := fun a o e n c => by
    have q := f.out' e
    rw [unl_out q]
    exact s.keep a o (by rw [lay_out q]; exact e) n (c.imp (fun z => by rw [lay_out q]; exact z) id)
  keepN := fun a n => by
    have q := f.out n
    rw [unl_out q]
    exact s.keepN a (by rw [lay_out q]; exact n)
  fresh := fun a u e n n1 n2 => by
    have q := f.out' n
    rw [unl_out q]
    exact s.fresh a u (by rw [lay_out q]; exact e) (by rw [lay_out q]; exact n) n1 n2
  tabs := fun t => tabs_unl (s.tabs (tabs_lay t f)) l f.was
theorem step_in {G : Glb} {I I2 H2 : Hp} (s : Step G (unl L I) (unl L H) I2 H2) (li : Laid L I) (l : Laid L H) (w : WasCel L) (f2 : Fr L h H2) : Step G I H (lay L I2) (lay L H2) where
  isub := fun a u e => by
    cases q : L.lookup a with
    | some o =>
      rw [li.at_ a o q] at e
      rw [lay_in q]
      exact e
    | none =>
      rw [lay_out q]
      exact s.isub a u (by rw [unl_out q]; exact e)
  sub := fun a u e => by
    cases q : L.lookup a with
    | some o =>
      rw [lay_in q] at e ⊢
      exact .inl ⟨e, by cases e; exact fun _ z => nomatch z⟩
    | none =>
      rw [lay_out q] at e ⊢
      exact s.sub a u e
  keep := fun a o e n c => by
    cases q : L.lookup a with
    | some o' =>
      rw [l.at_ a o' q] at e
      rw [lay_in q]
      exact e
    | none =>
      rw [lay_out q]
      exact s.keep a o (by rw [unl_out q]; exact e) n (c.imp (fun z => by rw [unl_out q]; exact z) id)
  keepN := fun a n => by
    cases q : L.lookup a with
    | some o' => rw [lay_in q]; exact fun z => nomatch z
    | none =>
      rw [lay_out q]
      exact s.keepN a (by rw [unl_out q]; exact n)
  fresh := fun a u e n n1 n2 => by
    have q := li.none' e
    rw [lay_out q]
    exact s.fresh a u (by rw [unl_out q]; exact e) (by rw [unl_out q]; exact n) n1 n2
  tabs := fun t => tabs_lay (s.tabs (tabs_unl t l w)) f2
end
section
variable {P : Program} {w : World} {K : PySem.W.Frag} {mg : Str → Option Value} {base : Heap} {A : Around} {outer : List Env} {s : Shared} {H : Hp} {L : Cels}
theorem env0_lay (e : Env0 P w K mg base A outer s H) (f : Fr L s.heap H) (hb : ∀ a o, L.lookup a = some o → base.get? a = none ∧ a ∉ frs outer) : Env0 P w K mg base A outer s (lay L H) :=
  ⟨e.frames, e.mod, fun b o z => ⟨(e.bs b o z).1, by
    have q : L.lookup b = none := by
      cases q : L.lookup b with
      | none => rfl
      | some o' => rw [(hb b o' q).1] at z; cases z
    rw [lay_out q]
    exact (e.bs b o z).2⟩, e.bsz, e.funs, fun b z => by
    have q : L.lookup b = none := by
      cases q : L.lookup b with
      | none => rfl
      | some o' => exact absurd z (hb b o' q).2
    rw [lay_out q]
    exact e.frf b z, hok_lay e.hok f, e.bare⟩
theorem env0_unl (e : Env0 P w K mg base A outer s H) (l : Laid L H) : Env0 P w K mg base A outer s (unl L H) :=
  ⟨e.frames, e.mod, fun b o z => ⟨(e.bs b o z).1, by rw [unl_out (l.none' (e.bs b o z).2)]; exact (e.bs b o z).2⟩, e.bsz, e.funs, fun b z => by
    rw [unl_out (l.none' (e.frf b z))]
    exact e.frf b z, hok_unl e.hok l, e.bare⟩
end
end Lp

/-! Closures handed over: calls. -/
namespace Lp
open PySem PySem.Spec PyProof.Rows L2 NdefX
/-- L tells what the captured cells hold -/
structure Holds (cl : List (Str × Addr)) (fr : List Str) (ws : List (Option V)) (L : Cels) : Prop where
  len : ws.length = fr.length
  all : ∀ y c, cl.lookup y = some c → ∃ o, L.lookup c = some o
  inj : ∀ x y c, cl.lookup x = some c → cl.lookup y = some c → x = y
  has : ∀ (i : Nat) (y : Str), fr[i]? = some y → ∃ c o, cl.lookup y = some c ∧ L.lookup c = some o ∧ ∀ v, ws[i]? = some (some v) → ∃ u, L2.RelV v u ∧ o.data = .cell (some u)
theorem Holds.cells {cl : List (Str × Addr)} {fr : List Str} {ws : List (Option V)} {L : Cels} (d : Holds cl fr ws L) {h : Heap} {H : Hp} (f : Fr L h H) : CellsAt cl fr ws h H := by
  refine ⟨d.len, fun y c e => ?_, d.inj, fun i y e => ?_⟩
  · obtain ⟨o, ho⟩ := d.all y c e
    obtain ⟨h1, v, h2⟩ := f.at_ c o ho
    exact ⟨f.no c o ho, v, o, h1, h2⟩
  · obtain ⟨c, o, e1, e2, e3⟩ := d.has i y e
    refine ⟨c, e1, fun v ev => ?_⟩
    obtain ⟨u, r, z⟩ := e3 v ev
    exact ⟨u, r, o, (f.at_ c o e2).1, z⟩
theorem look_mem {α β : Type} [BEq α] [LawfulBEq α] : ∀ {l : List (α × β)} {a : α} {b : β}, l.lookup a = some b → (a, b) ∈ l
  | (x, y) :: r, a, b, h => by
    rw [List.lookup_cons] at h
    cases q : a == x with
    | true =>
      rw [q] at h
      cases h
      rw [eq_of_beq q]
      exact List.mem_cons_self
    | false =>
      rw [q] at h
      exact List.mem_cons_of_mem _ (look_mem h)
theorem look_has {α β : Type} [BEq α] [LawfulBEq α] : ∀ {l : List (α × β)} {a : α} {b : β}, (a, b) ∈ l → ∃ b', l.lookup a = some b'
  | (x, y) :: r, a, b, h => by
    rw [List.lookup_cons]
    cases q : a == x with
    | true => exact ⟨y, rfl⟩
    | false =>
      rcases List.mem_cons.mp h with z | z
      · cases z
        rw [beq_self_eq_true] at q
        cases q
      · exact look_has z
/-- the cells as they stand now -/
def celNow (h : Heap) (cl : List (Str × Addr)) : Cels := cl.filterMap fun y => (cl.lookup y.1).map fun c => (c, (h.get? c).getD { cls := .none, data := .cell none })
theorem celNow_of {h : Heap} {cl : List (Str × Addr)} {a : Addr} {o : Obj} (e : (celNow h cl).lookup a = some o) : (∃ y, cl.lookup y = some a) ∧ o = (h.get? a).getD { cls := .none, data := .cell none } := by
  have m := look_mem e
  obtain ⟨y, hy, e2⟩ := List.mem_filterMap.mp m
  cases q : cl.lookup y.1 with
  | none => rw [q] at e2; cases e2
  | some c =>
    rw [q] at e2
    cases e2
    exact ⟨⟨y.1, q⟩, rfl⟩
theorem celNow_in {h : Heap} {cl : List (Str × Addr)} {y : Str} {c : Addr} (e : cl.lookup y = some c) : (celNow h cl).lookup c = some ((h.get? c).getD { cls := .none, data := .cell none }) := by
  have m : (c, (h.get? c).getD { cls := .none, data := .cell none }) ∈ celNow h cl := List.mem_filterMap.mpr ⟨(y, c), look_mem e, by
    show (cl.lookup y).map _ = _
    rw [e]
    rfl⟩
  obtain ⟨b, hb⟩ := look_has m
  rw [hb, (celNow_of hb).2]
theorem now_fr {cl : List (Str × Addr)} {fr : List Str} {ws : List (Option V)} {h : Heap} {H : Hp} (C : CellsAt cl fr ws h H) : Fr (celNow h cl) h H ∧ Holds cl fr ws (celNow h cl) := by
  refine ⟨⟨fun a o e => ?_, fun a o e => ?_⟩, C.len, fun y c e => ⟨_, celNow_in e⟩, C.inj, fun i y e => ?_⟩
  · obtain ⟨⟨y, hy⟩, rfl⟩ := celNow_of e
    obtain ⟨_, v, o, ho, hv⟩ := C.all y a hy
    rw [ho]
    exact ⟨rfl, v, hv⟩
  · obtain ⟨⟨y, hy⟩, _⟩ := celNow_of e
    exact (C.all y a hy).1
  · obtain ⟨c, e1, e2⟩ := C.has i y e
    refine ⟨c, _, e1, celNow_in e1, fun v ev => ?_⟩
    obtain ⟨u, r, o, ho, hv⟩ := e2 v ev
    exact ⟨u, r, by rw [ho]; exact hv⟩
/-! ### a call with the frame's cells told -/
def tCallL (cl : List (Str × Addr)) (fr : List Str) (js : List Nat) (sp : Sp) (t : TA) : TE := fun σ H Q => t σ H fun vs H1 => ∀ L h, Fr L h H1 → Holds cl fr (js.map (slotAt σ)) L → sp vs (lay L H1) (fun v H' => Laid L H' ∧ Q v (unl L H')) E0
section
variable {X : Cx} {k : Nat} {f : Addr} {fd : FuncData} {ps : List Str} {sp : Sp} {x : Str} {p pos : Pos} {e : Expr} {es : List Expr} {t : TA} {cl : List (Str × Addr)} {fr : List Str} {js : List Nat}
theorem pe_callL (F : FnOk X.prog X.w X.K X.mg X.base CX0 k f fd ps sp) (cp : X.Ok → Caps X cl fr js) (hfn : ∀ y, X.fn y = true) (hr : Room k X.A) (hg : Gl X x) (hm : X.mg x = some (.ref f)) (hk : PySem.W.keepIn X.K (.ref f) = true) (hb : L2.Binds X.K fd ps [])
    (ha : PA X (e :: es) t) (hdb : (x == ("__debug__" : Str)) = false := by decide) (he : starEach (e :: es) X.env = (false, eval e X.env) :: starEach es X.env := by rfl) (hpl : (backTo pos (starEach es X.env)).any (·.1) = false := by rfl) :
    PE X (.Call (.Name x p) (e :: es) [] pos) (tCallL cl fr js sp t) := by
  refine ⟨fun pins s σ H Q I h => ?_⟩
  refine wpAny_Call_Name_kw (ld_glob I hg hm ?_ hdb)
  refine PySem.W.callWith_K (h₀ := X.base) I.ok.mod.kin hk (thn (ha.run pos pins s σ H _ I h) fun us s1 ⟨vs, H1, I1, r, q⟩ => ⟨I1.kIn, ?_⟩) he hpl
  have C := cells_of I1 (cp I1.ok)
  obtain ⟨f1, d1⟩ := now_fr C
  have hsp := q _ _ f1 d1
  have e0 : Env0 X.prog X.w X.K X.mg X.base X.A X.stack s1 (lay (celNow s1.heap cl) H1) := env0_lay I1.env0 f1 fun a o ea => by
    obtain ⟨⟨y, hy⟩, _⟩ := celNow_of ea
    have hc := (cp I1.ok).sub y a hy
    have hge := I1.ok.cab y a (hfn y) hc
    refine ⟨?_, fun z => ?_⟩
    · cases eb : X.base.get? a with
      | none => rfl
      | some ob => exact absurd (Heap.lt_size (I1.ok.bs a ob eb).1) (Nat.not_lt.mpr hge)
    · rcases List.mem_cons.mp (I1.stkSub a z) with z | z
      · obtain ⟨m, ⟨ob, es2, ep, ho, hdat, _⟩, _⟩ := I1.loc
        obtain ⟨h1, v, h2⟩ := f1.at_ a o ea
        rw [z] at h1
        rw [ho] at h1
        cases h1
        rw [hdat] at h2
        cases h2
      · obtain ⟨_, ob, hob, _⟩ := I1.ok.funs.mem z
        exact absurd (Heap.lt_size hob) (Nat.not_lt.mpr hge)
  have hl : (us ++ []).length = ps.length := by rw [List.append_nil, ← r.length]; exact F.len _ _ _ _ hsp
  have hbd := hb s1 us I1.kIn hl
  rw [List.append_nil] at hbd
  refine wpAny_call (codeAny_mono (F.run X.A X.stack s1 _ ⟨us, []⟩ us vs _ E0 hr e0 hbd r hsp) fun rr s' hq => ?_)
  cases rr with
  | error e => exact (pass0 (X := X)) pins σ H1 s1 e s' I1 hq
  | ok fl =>
    cases fl with
    | ret u =>
      obtain ⟨v, H', os, bare, un, hok, rv, l, q2⟩ := hq
      exact I1.after ⟨v, unl _ H', os, bare, un_after un hok l f1, hok_unl hok l, rv, q2⟩
    | next => exact False.elim hq
    | brk => exact False.elim hq
    | cont => exact False.elim hq
end
end Lp

/-! Closures by data. -/
namespace Lp
open PySem PySem.Spec PyProof.Rows L2 NdefX
/-- what is captured, by data -/
def CapR (G : Glb) (I : Hp) (ws : List (Option V)) (cd : List D) : Prop := ∀ (i : Nat) (d : D), cd[i]? = some d → ∃ v, ws[i]? = some (some v) ∧ Rep G I v d
theorem CapR.mono {G : Glb} {I I1 : Hp} {ws : List (Option V)} {cd : List D} (h : CapR G I ws cd) (s : Same I I1) : CapR G I1 ws cd := fun i d e => by
  obtain ⟨v, h1, h2⟩ := h i d e
  exact ⟨v, h1, h2.mono s⟩
/-- a nested def, by data: A captured arguments result -/
def spN (G : Glb) (A : List D → List D → DS → Prop) : List (Option V) → Sp := fun ws vs H Q _ => ∃ I cd xs r, RdS I H ∧ TabsN G.T H ∧ CapR G I ws cd ∧ ws.length = cd.length ∧ Reps G I vs xs ∧ A cd xs r ∧ ∀ v H', RetR G I H v H' r → Q v H'
theorem env_startF {G : Glb} {U : Bool} {I H : Hp} {N : List Str} {vs : List V} {ws : List (Option V)} {xs cd : List D} (r : RdS I H) (tb : TabsN G.T H) (rs : Reps G I vs xs) (hc : CapR G I ws cd) (hl : ws.length = cd.length) :
    EnvR G U I H I H (startF N vs ws) (xs.map DS.im ++ (cd.map DS.im ++ List.replicate (N.length - xs.length - cd.length) DS.no)) := by
  have e := rs.len
  refine ⟨Step.refl r, tb, ?_, fun _ _ => False, fun i o s h1 h2 => ?_, fun _ _ _ h => h.elim, fun _ _ h => h.elim⟩
  · unfold startF
    rw [List.length_append, List.length_append, List.length_append, List.length_append, List.length_map, List.length_map, List.length_map, List.length_replicate, List.length_replicate, e, hl]
  · unfold startF at h1
    by_cases hi : i < xs.length
    · rw [List.getElem?_append_left (by rw [List.length_map, e]; exact hi), List.getElem?_map] at h1
      rw [List.getElem?_append_left (by rw [List.length_map]; exact hi), List.getElem?_map] at h2
      obtain ⟨v, hv, rv⟩ := rs.get' (List.getElem?_eq_getElem hi)
      rw [hv] at h1
      rw [List.getElem?_eq_getElem hi] at h2
      cases h1
      cases h2
      exact ⟨v, rfl, rv⟩
    · rw [List.getElem?_append_right (by rw [List.length_map, e]; omega), List.length_map, e] at h1
      rw [List.getElem?_append_right (by rw [List.length_map]; omega), List.length_map] at h2
      by_cases hj : i - xs.length < cd.length
      · rw [List.getElem?_append_left (by rw [hl]; exact hj)] at h1
        rw [List.getElem?_append_left (by rw [List.length_map]; exact hj), List.getElem?_map, List.getElem?_eq_getElem hj] at h2
        cases h2
        obtain ⟨v, hv, rv⟩ := hc _ _ (List.getElem?_eq_getElem hj)
        rw [hv] at h1
        cases h1
        exact ⟨v, rfl, rv⟩
      · rw [List.getElem?_append_right (by rw [List.length_map]; omega)] at h2
        rw [List.eq_of_mem_replicate (List.mem_of_getElem? h2)]
        trivial
theorem okN {G : Glb} {N ps fr : List Str} {F : NF} {f : Addr} {k : Nat} {A : List D → List D → DS → Prop} (S : NScope N ps fr F.scope) (hb : ∀ (doc pm ctv : Value) (us : List Value), us.length = ps.length → bindArgs (F.fd doc pm ctv) ⟨us, []⟩ = pure (ps.zip us)) (hA : ∀ cd xs r, A cd xs r → xs.length = ps.length)
    (hbody : ∀ (Ar : Around) (outer : List Env) (s : Shared) (H : Hp) (E : XK), Room k (Ar.deeper (envF F f s.heap.objs.size)) → ∀ cd xs r, A cd xs r →
      DSs (ncx CX0 G.P G.w G.K G.mg G.base N F f Ar outer s H E).nox G.T W0 false F.body (xs.map DS.im ++ (cd.map DS.im ++ List.replicate (N.length - xs.length - cd.length) DS.no)) { nx := fun _ => r = .im .non, rt := fun t => t = r ∨ t.fz = r }) :
    NOk G.P G.w G.K G.mg G.base CX0 (k + 1) f F ps fr (spN G A) := by
  refine nok_of S hb (fun ws vs H Q E ⟨I, cd, xs, r, _, _, _, _, rs, hAx, _⟩ => by rw [rs.len]; exact hA cd xs r hAx) (fun Ar outer s H vs ws Q E hr hf hcc hl ⟨I, cd, xs, r, rd, tb, cp, wl, rs, hAx, k⟩ => ?_)
  have h := hbody Ar outer s H E hr cd xs r hAx
  refine ⟨_, PSs.nox h, I, H, I, env_startF (G := G) rd tb rs cp wl, ?_, ?_, ?_, ?_, ?_⟩
  · rintro σ' H' ⟨ds', I', e', p', q⟩
    refine k .non H' ?_
    rw [q]
    exact ⟨I', e'.st, Rep.non⟩
  · rintro v H' t hr ht
    rcases ht with rfl | rfl
    · exact k v H' hr
    · exact k v H' hr.fz
  · rintro _ _ ⟨_, _, _, _, q⟩
    exact q
  · rintro _ _ ⟨_, _, _, _, q⟩
    exact q
  · rintro _ _ _ _ _ ⟨_, _, _, _, _, q⟩
    exact q
theorem rds_unl {L : Cels} {I H : Hp} (r : RdS I H) : RdS (unl L I) (unl L H) := fun a u e => by
  cases q : L.lookup a with
  | some o => rw [unl_in q] at e; cases e
  | none =>
    rw [unl_out q] at e ⊢
    exact r a u e
/-- a closure that answers texts -/
structure CloOk (G : Glb) (k : Nat) (F : NF) (oe : Option Expr) (fr : List Str) (A : List D → List D → DS → Prop) : Prop where
  run : ∀ (f : Addr) (Ar : Around) (outer : List Env) (s : Shared) (H : Hp) (u : Value) (x : Str) (ws : List (Option V)) (Q : VK), Room k Ar → Env0 G.P G.w G.K G.mg G.base Ar outer s H → H f = some (CloO f F oe) → H F.c = some (LamX.CodeO F.c F.qual) → CellsAt F.cl fr ws s.heap H → RelV (.str x) u → spN G A ws [.str x] H Q E0 →
    codeAny (model G.P G.w) Ar (.call (.ref f) ⟨[u], []⟩) (CR CX0 outer G.P G.w H s Q E0) s
theorem CloOk.ofN {G : Glb} {k : Nat} {F : NF} {p : Str} {fr : List Str} {A : List D → List D → DS → Prop} (N : ∀ f, NOk G.P G.w G.K G.mg G.base CX0 k f F [p] fr (spN G A)) : CloOk G k F none fr A :=
  ⟨fun f Ar outer s H u x ws Q hr e0 hf hc C ru h => (N f).run Ar outer s H [u] [.str x] ws Q E0 hr e0 hf hc C (.cons ru .nil) h⟩
/-- a closure whose cells are told answers -/
theorem rep_fn {G : Glb} {F : NF} {oe : Option Expr} {f : Addr} {k : Nat} {fr : List Str} {A : List D → List D → DS → Prop} {dom g : Str → Bool} (N : CloOk G k F oe fr A) {I : Hp} {L : Cels} {ws : List (Option V)} {cd : List D} (hI : Rep G I (.ref f) (.clo F oe)) (hc : CapR G I ws cd) (hwl : ws.length = cd.length)
    (hd : Holds F.cl fr ws L) (hw : WasCel L) (hn : ∀ a o, L.lookup a = some o → I a = none) (hA : ∀ x, dom x = true → A cd [.str x] (.im (.bl (g x)))) : Rep G (lay L I) (.ref f) (.fn k dom g) := by
  have sm : Same I (lay L I) := fun a u e => by
    have q : L.lookup a = none := by
      cases q : L.lookup a with
      | none => rfl
      | some o => rw [hn a o q] at e; cases e
    rw [lay_out q]
    exact e
  cases hI with
  | clo h1 h2 =>
  obtain ⟨φ, eφ, hφ⟩ := cloO_ext f F oe
  refine Rep.fn (φ := φ) (by rw [← eφ]; exact sm _ _ h1) hφ fun I' H' hs rd tb Ar outer s x u Q hdom hroom e0 ru kk => ?_
  have li : Laid L I' := (laid_lay L I).mono hs
  have l : Laid L H' := li.up rd
  have s2 : Same I (unl L I') := fun a w e => by
    have q : L.lookup a = none := by
      cases q : L.lookup a with
      | none => rfl
      | some o => rw [hn a o q] at e; cases e
    rw [unl_out q]
    exact hs a w (sm a w e)
  have atC : ∀ a o, L.lookup a = some o → s.heap.get? a = some o ∧ ∃ v, o.data = .cell v := fun a o e => ⟨(e0.hok a _ (l.at_ a o e)).1, (hw a o e).2⟩
  have fr0 : Fr L s.heap (unl L H') := ⟨atC, fun a o e => unl_in e⟩
  have rdu := rds_unl (L := L) rd
  have hf : unl L H' f = some (CloO f F oe) := by
    rw [eφ]
    exact rdu.ext (by rw [← eφ]; exact s2 _ _ h1)
  have hcd : unl L H' F.c = some (LamX.CodeO F.c F.qual) := rdu.ext (s2 _ _ h2)
  refine codeAny_mono (N.run f Ar outer s (unl L H') u x ws (fun v H2 => RetR G (unl L I') (unl L H') v H2 (.im (.bl (g x)))) hroom (env0_unl e0 l) hf hcd (hd.cells fr0) ru ⟨unl L I', cd, [.str x], _, rdu, tabs_unl tb l hw, hc.mono s2, hwl, .cons (.str x) .nil, hA x hdom, fun v H2 z => z⟩) fun rr s' hq => ?_
  cases rr with
  | error e => exact hq
  | ok fl =>
    cases fl with
    | ret u2 =>
      obtain ⟨v, H2, os, bare, un, hok, rv, I2, st, rp⟩ := hq
      have nof : ∀ a o, L.lookup a = some o → a ∉ frs outer := fun a o e z => by
        have := e0.frf a z
        rw [l.at_ a o e] at this
        cases this
      have f2 : Fr L s'.heap H2 := ⟨fun a o e => ⟨un.keep a o (atC a o e).1 (unl_in e) (nof a o e) (by simp), (hw a o e).2⟩, fun a o e => un.free a o (atC a o e).1 (unl_in e) (by simp)⟩
      cases rp
      exact ⟨.bl (g x), lay L H2, os, bare, un_in un l, hok_lay hok f2, rv, kk _ _ (step_in st li l hw f2)⟩
    | next => exact False.elim hq
    | brk => exact False.elim hq
    | cont => exact False.elim hq
/-- results that name nothing told -/
def DS.clean : DS → Bool
  | .im .non => true
  | .im (.bl _) => true
  | .im (.int _) => true
  | .im (.str _) => true
  | .own xs => xs.all flatD
  | .ownD kvs => kvs.all fun kv => flatD kv.2
  | _ => false
theorem flatF_rep {G : Glb} {I I' : Hp} : ∀ {fs : List (Str × V)} {kvs : List (Str × D)}, (kvs.all fun kv => flatD kv.2) = true → RepF G I fs kvs → RepF G I' fs kvs
  | _, _, _, .nil => .nil
  | (_, v) :: _, (_, d) :: _, h, .cons a b => by
    rw [List.all_cons, Bool.and_eq_true] at h
    have z := flatD_reps (G := G) (I := I) (I' := I') (vs := [v]) (xs := [d]) (by rw [List.all_cons, h.1]; rfl) (.cons a .nil)
    cases z with
    | cons a' _ => exact .cons a' (flatF_rep h.2 b)
theorem clean_back {G : Glb} {L : Cels} {h : Heap} {H I' H' : Hp} {v : V} (f : Fr L h H) (l : Laid L H') : ∀ {s : DS}, s.clean = true → ValR G (lay L H) I' H' v s → ValR G H (unl L I') (unl L H') v s
  | .im .non, _, r => by cases r; exact Rep.non
  | .im (.bl _), _, r => by cases r; exact Rep.bl _
  | .im (.int _), _, r => by cases r; exact Rep.int _
  | .im (.str _), _, r => by cases r; exact Rep.str _
  | .own _, hc, ⟨p, vs, ev, n, i, hp, r⟩ => by
    have q : L.lookup p = none := l.other hp fun _ z => nomatch z
    exact ⟨p, vs, ev, by rw [lay_out q] at n; exact n, by rw [unl_out q]; exact i, by rw [unl_out q]; exact hp, flatD_reps hc r⟩
  | .ownD _, hc, ⟨p, vs, ev, n, i, hp, r⟩ => by
    have q : L.lookup p = none := l.other hp fun _ z => nomatch z
    exact ⟨p, vs, ev, by rw [lay_out q] at n; exact n, by rw [unl_out q]; exact i, by rw [unl_out q]; exact hp, flatF_rep hc r⟩
section
variable {X : Cx} {T : List NTab} {W : WX} {U U' : Bool} {ds : List DS} {s : DS} {E : DEn}
/-- f(.., g), g a closure of this frame -/
theorem dv_cl {A : List D → DS → Prop} {k j : Nat} {ps : List Str} {x : Str} {p pos : Pos} {e : Expr} {es : List Expr} {xs : List D} (cl : List (Str × Addr)) (fr : List Str) (js : List Nat) (cd : List D) (ys : List D) (C : CallD (gx X T) k x ps U' A) (hr : Room j X.A) (ha : DA X T U (e :: es) ds xs) (cp : X.Ok → Caps X cl fr js) (hfn : ∀ y, X.fn y = true)
    (hcd : ∀ (i : Nat) (d : D), cd[i]? = some d → ∃ m, js[i]? = some m ∧ ds[m]? = some (.im d)) (hjl : js.length = cd.length)
    (hy : ∀ (I : Hp) (L : Cels) (vs : List V) (ws : List (Option V)), CapR (gx X T) I ws cd → ws.length = cd.length → Holds cl fr ws L → WasCel L → (∀ a o, L.lookup a = some o → I a = none) → Same I (lay L I) → Reps (gx X T) I vs xs → Reps (gx X T) (lay L I) vs ys) (hA : A ys s) (hcl : s.clean = true) (hk : k ≤ j := by decide)
    (hg : Gl X x := by rfl) (hdb : (x == ("__debug__" : Str)) = false := by decide) (he : starEach (e :: es) X.env = (false, eval e X.env) :: starEach es X.env := by rfl) (hpl : (backTo pos (starEach es X.env)).any (·.1) = false := by rfl) : DV X T U (.Call (.Name x p) (e :: es) [] pos) ds s :=
  (pe_callL C.ok cp hfn (hr.mono hk) hg C.g C.kp C.n ha hdb he hpl).weak fun σ H Q ⟨I0, H0, I, en, kk⟩ => ⟨I0, H0, I, en, fun vs I1 H1 s1 r1 L h f hd => by
    have e1 := en.step s1
    have hn : ∀ a o, L.lookup a = some o → I1 a = none := fun a o q => s1.sub.free (f.no a o q)
    have sm : Same I1 (lay L I1) := fun a u z => by
      have q : L.lookup a = none := by
        cases q : L.lookup a with
        | none => rfl
        | some o => rw [hn a o q] at z; cases z
      rw [lay_out q]
      exact z
    have cap : CapR (gx X T) I1 (js.map (slotAt σ)) cd := fun i d q => by
      obtain ⟨m, h1, h2⟩ := hcd i d q
      obtain ⟨v, h3, h4⟩ := e1.im h2
      exact ⟨v, by rw [List.getElem?_map, h1]; exact congrArg some (slotAt_of h3), h4⟩
    have wl : (js.map (slotAt σ)).length = cd.length := by rw [List.length_map, hjl]
    have rl : RdS (lay L I1) (lay L H1) := fun a u z => by
      cases q : L.lookup a with
      | some o =>
        rw [lay_in q] at z ⊢
        exact .inl ⟨z, by cases z; exact fun _ z => nomatch z⟩
      | none =>
        rw [lay_out q] at z ⊢
        exact s1.sub a u z
    refine ⟨lay L I1, ys, s, rl, tabs_lay e1.tb f, hy I1 L vs _ cap wl hd f.was hn sm r1, hA, fun v H' ⟨I2, s2, r2⟩ => ?_⟩
    have l2 : Laid L I2 := (laid_lay L I1).mono s2.isub
    have l3 : Laid L H' := l2.up s2.sub
    have s3 := step_after s2 hn f l3
    exact ⟨l3, kk v _ _ (s1.trans s3) (ValR.back s1 (clean_back f l3 hcl r2))⟩⟩
/-- g(e), g a local name that holds a function of texts -/
theorem de_fn {k j : Nat} {dom g : Str → Bool} {x z : Str} {p pos : Pos} {e : Expr} (i : Nat) (h : ds[i]? = some (.im (.fn k dom g))) (he : DE X T U e ds (.str z)) (hz : dom z = true) (hr : Room j X.A) (hk : k ≤ j) (hN : X.N[i]? = some x := by rfl) (hv : Vis X.env.scope x := by first | exact Or.inl rfl | exact Or.inr (Or.inl rfl) | exact Or.inr (Or.inr rfl))
    (hd : (x == ("__debug__" : Str)) = false := by decide) (hcd : (x == ("__classdict__" : Str)) = false := by decide) (hse : starEach [e] X.env = (false, eval e X.env) :: starEach [] X.env := by rfl) (hpl : (backTo pos (starEach [] X.env)).any (·.1) = false := by rfl) : DE X T U (.Call (.Name x p) [e] [] pos) ds (.bl (g z)) := by
  refine ⟨fun pins s σ H Q I ⟨I0, H0, Id, en, kk⟩ => ?_⟩
  obtain ⟨v, e1, r⟩ := en.im h
  cases r with
  | @fn f φ _ _ _ h1 hφ hc =>
  refine wpAny_Call_Name_kw (thn ((pe_var (pos := p) hN hv hd hcd).run pins s σ H (fun v H1 => v = .ref f ∧ H1 = H) I ⟨.ref f, e1, rfl, rfl⟩) fun u s1 ⟨v, H1, I1, r1, q1⟩ => ?_)
  obtain ⟨ev, eH⟩ := q1
  subst ev
  rw [eH] at I1
  obtain rfl : u = Value.ref f := r1
  have fa : ∀ {s2 : Shared} {H2 : Hp}, L2.Inv X pins σ H2 s2 → H2 f = some (.ext φ) → PySem.W.FnAt f s2.heap := fun I2 hh => hφ _ (I2.hok f _ hh).1
  refine PySem.W.callWith_F (first := []) (fa I1 (en.sub.ext h1)) (thn ((da_cons he da_nil hse).run pos pins s1 σ H (fun vs H2 => ∃ I2, Step (gx X T) Id H I2 H2 ∧ Reps (gx X T) I2 vs [.str z]) I1 ⟨I0, H0, Id, en, fun vs I2 H2 s2 r2 => ⟨I2, s2, r2⟩⟩) fun us s2 ⟨vs, H2, J2, rv, I2, st2, rs⟩ => ⟨fa J2 (st2.sub.ext (st2.isub _ _ h1)), ?_⟩) hse hpl
  cases rs with
  | cons a b =>
  cases b
  cases a
  cases rv with
  | cons ru rn =>
  cases rn
  refine wpAny_call (codeAny_mono (hc I2 H2 st2.isub st2.sub (st2.tabs en.tb) X.A X.stack s2 z _ Q hz (hr.mono hk) J2.env0 ru fun I3 H3 s3 => kk _ I3 H3 (st2.trans s3) (.bl _)) fun rr s' hq => ?_)
  cases rr with
  | error e => exact (pass0 (X := X)) pins σ H2 s2 e s' J2 hq
  | ok fl =>
    cases fl with
    | ret u => exact J2.after hq
    | next => exact False.elim hq
    | brk => exact False.elim hq
    | cont => exact False.elim hq
end
end Lp

/-! Nested defs and lambdas made. -/
namespace Lp
open PySem PySem.Spec PyProof.Rows L2 NdefX LamX
/-- a new function and its code are told -/
theorem clo_told {G : Glb} {I H H1 : Hp} {f : Addr} {F : NF} {oe : Option Expr} (r : RdS I H) (eN : ExtN H H1) (nn : ∀ b, H1 b = none → H b = none) (T1 : TabsN G.T H1) (f0 : H f = none) (f1 : H1 f = some (CloO f F oe)) (c1 : H1 F.c = some (CodeO F.c F.qual)) :
    ∃ J, Step G I H J H1 ∧ Rep G J (.ref f) (.clo F oe) := by
  obtain ⟨φ, eφ, hφ⟩ := cloO_ext f F oe
  have i0 := r.free f0
  have ic : ∀ u, I F.c = some u → u = CodeO F.c F.qual := fun u e => by
    rcases r _ _ e with ⟨z, nt⟩ | ⟨⟨kvs, z⟩, o, z2⟩
    · have := eN _ _ z nt
      rw [c1] at this
      exact (Option.some.inj this).symm
    · have := eN _ _ z2 (fun _ z => nomatch z)
      rw [c1] at this
      cases this
  let J : Hp := fun a => if a = f then some (CloO f F oe) else if a = F.c then some (CodeO F.c F.qual) else I a
  have Jf : J f = some (CloO f F oe) := if_pos rfl
  have Jc : J F.c = some (CodeO F.c F.qual) := by
    show (if F.c = f then some (CloO f F oe) else if F.c = F.c then some (CodeO F.c F.qual) else I F.c) = _
    by_cases z : F.c = f
    · rw [if_pos z]
      rw [z, f1] at c1
      rw [z]
      exact c1
    · rw [if_neg z, if_pos rfl]
  have same : Same I J := fun a u e => by
    show (if a = f then some (CloO f F oe) else if a = F.c then some (CodeO F.c F.qual) else I a) = some u
    rw [if_neg (ne_of_none e i0)]
    by_cases z : a = F.c
    · rw [if_pos z]
      subst z
      rw [ic u e]
    · rw [if_neg z]
      exact e
  refine ⟨J, ⟨same, fun a u e => ?_, fun a o e n c => eN a o e n, fun a n z => n (nn a z), fun a w e n n1 n2 => ?_, fun _ => T1⟩, .clo Jf Jc⟩
  · have e2 : (if a = f then some (CloO f F oe) else if a = F.c then some (CodeO F.c F.qual) else I a) = some u := e
    by_cases z : a = f
    · rw [if_pos z] at e2
      cases e2
      rw [z]
      exact .inl ⟨f1, by rw [eφ]; exact fun _ z => nomatch z⟩
    · rw [if_neg z] at e2
      by_cases z2 : a = F.c
      · rw [if_pos z2] at e2
        cases e2
        rw [z2]
        exact .inl ⟨c1, fun _ z => nomatch z⟩
      · rw [if_neg z2] at e2
        rcases r _ _ e2 with ⟨y, nt⟩ | ⟨y, o, y2⟩
        · exact .inl ⟨eN _ _ y nt, nt⟩
        · exact .inr ⟨y, o, eN _ _ y2 fun _ z => nomatch z⟩
  · have z1 : a ≠ f := ne_of_none n f0
    have z2 : a ≠ F.c := fun z => by
      have := eN a w n n2
      rw [z, c1] at this
      exact n1 _ (Option.some.inj this).symm
    show (if a = f then some (CloO f F oe) else if a = F.c then some (CodeO F.c F.qual) else I a) = none
    rw [if_neg z1, if_neg z2]
    exact e
section
variable {X : Cx} {T : List NTab} {W : WX} {U : Bool} {ds : List DS} {s : DS} {E : DEn}
/-- def name(..): .. inside a def -/
theorem ds_ndef (i : Nat) {st : Stmt} {nm : Nat → Nat → Str} {c P : Addr} {name : Str} {pos : Pos} (hst : st = .FunctionDef name (C8.fnArgs st) (C8.fnBody st) [] none [] (C8.fnScope st) none name pos) (TB : TabB X.base X.mg c P) (hcode : X.env.code = .ref c) (hm : (P, nm) ∈ T) (hn : nm pos.line pos.col = X.env.qual ++ name)
    (hu : ∀ p ∈ T, p.1 = P → p.2 = nm) (hfree : ∀ y ∈ (C8.fnScope st).names, y.2 = .free → X.env.scope.names.lookup y.1 = some .cell ∨ X.env.scope.names.lookup y.1 = some .free) (hN : X.N.Nodup)
    (k : ∀ c', E.nx (ds.set i (.im (.clo (NF.of st name (X.env.qual ++ name) (cloFrom X.env.cells (C8.fnScope st).names []) c') none)))) (hd0 : (C8.fnArgs st).defaults = [] := by rfl) (hk0 : (C8.fnArgs st).kw_defaults = [] := by rfl) (ha : annTrees (C8.fnArgs st) none X.env = [] := by rfl)
    (hi : X.N[i]? = some name := by rfl) (hx : Loc X.env.scope name := by first | exact Or.inl rfl | exact Or.inr rfl) (hf : X.fn name = true ∨ X.env.scope.names.lookup name = some .local := by first | exact .inl rfl | exact .inr rfl) : DSt X T W U st ds E :=
  (ps_ndefMS (i := i) hst TB hcode hm hn hu hfree hd0 hk0 ha hN hi hx hf).weak fun D σ H ⟨I0, H0, I, en, k1, _⟩ => ⟨en.tb, fun f c' H1 eN nn T1 f0 f1 c1 => by
    obtain ⟨J, st, r⟩ := clo_told (G := gx X T) (oe := none) en.sub eN nn T1 f0 f1 c1
    exact k1 _ H1 ⟨_, J, (en.step st).setIm i r, st.pres, k c'⟩⟩
end
section
variable {X : Cx} {pins : List (Addr × Obj)} {σ : L2.St} {H : Hp} {s : Shared}
theorem inv_lam {F : NF} {e : Expr} {o : Obj} {t' : Nat} {pm ctv : Value} (I : L2.Inv X pins σ H s) (ho : o = PySem.W.kla_obj F.name F.qual F.params e F.scope F.cl pm F.c ctv) :
    L2.Inv X pins σ (upd H s.heap.objs.size (LamO s.heap.objs.size F e)) { s with heap := s.heap.push o, toks := t' } := by
  subst ho
  refine I.laid (a := s.heap.objs.size) (fun b u e => Heap.get?_push_of_some _ e) (Nat.le_refl _) ?_
  have e1 : (s.heap.push (PySem.W.kla_obj F.name F.qual F.params e F.scope F.cl pm F.c ctv)).get? s.heap.objs.size = some (PySem.W.kla_obj F.name F.qual F.params e F.scope F.cl pm F.c ctv) := Heap.get?_push_size _ rfl
  exact ⟨⟨pm, ctv, e1⟩, ⟨_, e1⟩, fun h1 h2 ⟨p, t, z⟩ st => ⟨p, t, st _ z⟩⟩
/-- a lambda made -/
theorem lam_makeN {T : List NTab} {nm : Nat → Nat → Str} {c P : Addr} {params : Arguments} {body : Expr} {scope : Scope} {pos : Pos} {E : Value → Shared → Prop} {Q : Value → Shared → Prop} (I : L2.Inv X pins σ H s) (TB : TabB X.base X.mg c P) (hcode : X.env.code = .ref c)
    (hm : (P, nm) ∈ T) (hn : nm pos.line pos.col = X.env.qual ++ "<lambda>") (hu : ∀ p ∈ T, p.1 = P → p.2 = nm) (hT : TabsN T H) (hdef : defaultsOf params X.env = ([], [])) (hfree : ∀ y ∈ scope.names, y.2 = .free → ∃ c, X.env.cells.lookup y.1 = some c)
    (h : ∀ (f c' : Addr) (H1 : Hp) (s' : Shared), L2.Inv X pins σ H1 s' → ExtN H H1 → (∀ b, H1 b = none → H b = none) → TabsN T H1 → H f = none → H1 f = some (LamO f ⟨"<lambda>", X.env.qual ++ "<lambda>", params, [], scope, cloFrom X.env.cells scope.names [], c'⟩ body) → H1 c' = some (CodeO c' (X.env.qual ++ "<lambda>")) → Q (.ref f) s') :
    wpAny (model X.prog X.w) X.A (eval (.Lambda params body scope pos) X.env) Q E s := by
  obtain ⟨ps, hP, ht, ha⟩ := (show TabN H P nm from hT _ hm)
  refine PySem.W.kla_eval hdef ?_
  have bP : s.heap.BuiltinsAt X.mg P := TB.bm.keeps I.bk
  have hP' : s.heap.get? P = some { cls := .none, data := .fields ps } := I.hok P _ hP
  cases hc : codeAmong pos ps.toList with
  | none =>
    refine PySem.W.kla_makeFunction (mg := X.mg) (c := c) (P := P) (ps := ps) (closure_ok hfree) I.ok.glob (I.mod.glob.keeps I.bk) hcode (TB.code.keeps I.bk) hP' ht hc TB.gP bP fun c' ctv h' tk hx hge hlt hrec htb => ?_
    obtain ⟨c2, oc, vs, t, e2, hoc, hd, hv⟩ := hrec
    cases e2
    have nC : H c' = none := I.hok.fresh hge
    have I1 := inv_table (t' := tk) (more := #[rawInt pos.line, rawInt pos.col, .ref c']) (h' := h') I hP (fun b o hb e => hx b o hb e) htb hge ⟨oc, vs, t, hoc, hd, hv⟩
    have hE : ExtN H (upd (upd H P (.tbl (ps ++ #[rawInt pos.line, rawInt pos.col, .ref c']))) c' (CodeO c' (X.env.qual ++ "<lambda>"))) := fun b o e n => by
      rw [upd_ne (ne_of_none e nC), upd_ne (fun z => n ps (Option.some.inj (e.symm.trans (by rw [z]; exact hP))))]
      exact e
    have eL : (ps ++ #[rawInt pos.line, rawInt pos.col, .ref c']).toList = ps.toList ++ [rawInt pos.line, rawInt pos.col, .ref c'] := by simp
    have T1 : TabsN T (upd (upd H P (.tbl (ps ++ #[rawInt pos.line, rawInt pos.col, .ref c']))) c' (CodeO c' (X.env.qual ++ "<lambda>"))) := fun p hp => by
      by_cases hb : p.1 = P
      · rw [hu p hp hb, hb]
        refine ⟨_, by rw [upd_ne (ne_of_none hP nC), upd_same], by rw [eL]; exact PySem.TriplesOk_snoc _ _ _ _ ht, fun p' cv hcv => ?_⟩
        rw [eL] at hcv
        rcases among_app2 _ ht hcv with z | ⟨z, z1, z2⟩
        · obtain ⟨c0, e1, e2⟩ := ha p' cv z
          exact ⟨c0, e1, hE _ _ e2 codeO_ne⟩
        · refine ⟨c', z, ?_⟩
          rw [← z1, ← z2, hn]
          exact upd_same
      · obtain ⟨ps', a1, a2, a3⟩ := hT p hp
        refine ⟨ps', by rw [upd_ne (ne_of_none a1 nC), upd_ne hb]; exact a1, a2, fun p' cv hcv => ?_⟩
        obtain ⟨c0, e1, e2⟩ := a3 p' cv hcv
        exact ⟨c0, e1, hE _ _ e2 codeO_ne⟩
    have nF := I1.hok.fresh (Nat.le_refl _)
    have I2 := inv_lam (F := ⟨"<lambda>", X.env.qual ++ "<lambda>", params, [], scope, cloFrom X.env.cells scope.names [], c'⟩) (e := body) (t' := tk) (pm := (X.mg "__name__").getD .none) (ctv := ctv) I1 rfl
    refine h h'.objs.size c' _ _ I2 (fun b o e n => ?_) (fun b e => upd_none (upd_none (upd_none e))) (T1.ext fun b o e => ?_) (I.hok.fresh (Nat.le_trans hge (Nat.le_of_lt hlt))) upd_same ?_
    · have e1 := hE b o e n
      exact (upd_ne (ne_of_none e1 nF)).trans e1
    · exact (upd_ne (ne_of_none e nF)).trans e
    · exact (upd_ne (Nat.ne_of_lt hlt)).trans upd_same
  | some cv =>
    obtain ⟨c', e, hco⟩ := ha pos cv hc
    subst e
    rw [hn] at hco
    refine PySem.W.kla_makeFunctionHit (mg := X.mg) (c := c) (P := P) (ps := ps) (closure_ok hfree) I.ok.glob (I.mod.glob.keeps I.bk) hcode (TB.code.keeps I.bk) hP' ht hc bP fun ctv h' tk hx hsz => ?_
    have I1 : L2.Inv X pins σ H { s with heap := h', toks := tk } := I.kept hx
    have nF : H h'.objs.size = none := I1.hok.fresh (Nat.le_refl _)
    have I2 := inv_lam (F := ⟨"<lambda>", X.env.qual ++ "<lambda>", params, [], scope, cloFrom X.env.cells scope.names [], c'⟩) (e := body) (t' := tk) (pm := (X.mg "__name__").getD .none) (ctv := ctv) I1 rfl
    refine h h'.objs.size c' _ _ I2 (fun b o e n => ?_) (fun b e => upd_none e) (hT.ext fun b o e => ?_) nF upd_same ?_
    · exact (upd_ne (ne_of_none e nF)).trans e
    · exact (upd_ne (ne_of_none e nF)).trans e
    · exact (upd_ne (ne_of_none hco nF)).trans hco
end
section
variable {X : Cx} {T : List NTab} {W : WX} {U : Bool} {ds : List DS} {s : DS} {E : DEn}
/-- the closure a lambda makes -/
abbrev lamF (X : Cx) (params : Arguments) (scope : Scope) (c' : Addr) : NF := ⟨"<lambda>", X.env.qual ++ "<lambda>", params, [], scope, cloFrom X.env.cells scope.names [], c'⟩
/-- lambda ..: .., as a value: d is what is told of it -/
theorem de_lam {nm : Nat → Nat → Str} {c P : Addr} {params : Arguments} {body : Expr} {scope : Scope} {pos : Pos} {d : D} (TB : TabB X.base X.mg c P) (hcode : X.env.code = .ref c) (hm : (P, nm) ∈ T) (hn : nm pos.line pos.col = X.env.qual ++ "<lambda>") (hu : ∀ p ∈ T, p.1 = P → p.2 = nm)
    (hfree : ∀ y ∈ scope.names, y.2 = .free → X.env.scope.names.lookup y.1 = some .cell ∨ X.env.scope.names.lookup y.1 = some .free) (hd : ∀ (J : Hp) (f c' : Addr), Rep (gx X T) J (.ref f) (.clo (lamF X params scope c') (some body)) → Rep (gx X T) J (.ref f) d) (hdef : defaultsOf params X.env = ([], []) := by rfl) : DE X T U (.Lambda params body scope pos) ds d :=
  ⟨fun pins s σ H Q I ⟨I0, H0, Id, en, k⟩ => by
    have hfr : ∀ y ∈ scope.names, y.2 = .free → ∃ c, X.env.cells.lookup y.1 = some c := fun y hy e => (hfree y hy e).elim (fun z => I.ok.has _ (.inl z)) fun z => I.ok.has _ (.inr z)
    refine lam_makeN I TB hcode hm hn hu en.tb hdef hfr fun f c' H1 s' I1 eN nn T1 f0 f1 c1 => ?_
    obtain ⟨J, st, r⟩ := clo_told (G := gx X T) (F := lamF X params scope c') (oe := some body) en.sub eN nn T1 f0 f1 c1
    exact ⟨.ref f, H1, I1, rfl, k _ J H1 st (hd J f c' r)⟩⟩
end
/-- a lambda of one parameter by data -/
theorem okL {G : Glb} {N fr : List Str} {p : Str} {F : NF} {e : Expr} {k : Nat} {A : List D → List D → DS → Prop} (S : NScope N [p] fr F.scope) (hx : ∀ cd xs r, A cd xs r → ∃ z : Str, xs = [.str z]) (hb : ∀ (pm ctv u : Value), bindArgs (PySem.W.kla_fn F.name F.qual F.params e F.scope F.cl pm (.ref F.c) ctv) ⟨[u], []⟩ = pure [(p, u)])
    (hbody : ∀ (f : Addr) (Ar : Around) (outer : List Env) (s : Shared) (H : Hp) (E : XK), Room k (Ar.deeper (envF F f s.heap.objs.size)) → ∀ cd x r, A cd [.str x] r →
      DV (ncx CX0 G.P G.w G.K G.mg G.base N F f Ar outer s H E) G.T false e ([.im (.str x)] ++ (cd.map DS.im ++ List.replicate (N.length - 1 - cd.length) DS.no)) r) : CloOk G (k + 1) F (some e) fr A := by
  refine ⟨fun f Ar outer s H u x ws Q hr e0 hf hcc C ru ⟨I, cd, xs, r, rd, tb, cp, wl, rs, hAx, kk⟩ => ?_⟩
  have ex : xs = [.str x] := by
    obtain ⟨z, rfl⟩ := hx cd xs r hAx
    cases rs with
    | cons a b => cases b; cases a; rfl
  subst ex
  have lim : s.heap.NoLimit := e0.mod.nolimit.keeps fun b o e => (e0.bs b o e).1
  obtain ⟨⟨pm, ctv, ho⟩, _, _⟩ := e0.hok f _ hf
  refine PySem.W.kla_callFunE hr.depth ho rfl S.co S.gen rfl (codeO_at e0.hok hcc) ?_
  rw [hb pm ctv u]
  refine wpAny_pure (wpAny_newFunctionEnv S.nocell (fun ⟨n, v⟩ hy => S.par n (by
    have := List.mem_singleton.mp hy
    cases this
    exact List.mem_singleton_self _)) (fun h₁ hns hsb => ⟨lim.fresh _ hsb, ?_⟩) S.kind)
  show codeAny _ _ (.expr e (envF F f s.heap.objs.size)) _ _
  have kp : ∀ b o, s.heap.get? b = some o → h₁.get? b = some o := fun b o e => hsb.extBut b o (Nat.ne_of_lt (Heap.lt_size e)) (Heap.get?_push_of_some _ e)
  have J : L2.Inv (ncx CX0 G.P G.w G.K G.mg G.base N F f Ar outer s H E0) [] (startF N [.str x] ws) H { s with heap := h₁, toks := s.toks + ([p].zip [u]).length } := inv_startN S hr.hd e0 rfl (.cons ru .nil) C hns kp
  have hv := hbody f Ar outer s H E0 (hr.deeper _) cd x r hAx
  refine PySem.W.kla_codeExpr (wpAny_mono (hv.run [] _ _ H Q J ⟨I, H, I, env_startF (G := G) rd tb (.cons (.str x) .nil) cp wl, fun v I' H' st rv => kk v H' ⟨I', st, rv⟩⟩) (fun v s' hq => ?_) fun e s' hq => hq)
  obtain ⟨w', H', J', rv, q⟩ := hq
  exact ⟨w', H', J'.os, J'.bare, J'.base, J'.hok, rv, q⟩
end Lp

/-! Defs that make functions: their code object and its table. -/
namespace Lp
open PySem PySem.Spec PyProof.Rows L2 NdefX LamX
/-- the def at f has a table; what it makes bears the name q -/
structure Tbl (G : Glb) (c P : Addr) (q : Str) : Prop where
  tb : TabB G.base G.mg c P
  mem : (P, fun _ _ => q) ∈ G.T
  one : ∀ p ∈ G.T, p.1 = P → p.2 = fun _ _ => q
def HasTab (G : Glb) (f : Addr) (q : Str) : Prop := ∃ c P, (fdOf G.K f).code = .ref c ∧ Tbl G c P q
theorem okDc {G : Glb} {U : Bool} {x qual q : Str} {params : Arguments} {body : List Stmt} {scope : Scope} {f : Addr} {N ps : List Str} {k : Nat} {A : List D → DS → Prop} (F : FunD G.K x qual params body scope [] [] f (fdOf G.K f)) (t : HasTab G f q) (S : FnScope N ps scope)
    (hA : ∀ xs r, A xs r → xs.length = ps.length)
    (hb : ∀ (c P : Addr), Tbl G c P q → ∀ (Ar : Around) (outer : List Env) (s : Shared) (H : Hp) (E : XK), Room k (Ar.deeper (envOfC qual scope s.heap.objs.size f (.ref c))) → ∀ xs r, A xs r →
      DSs (cxOf CX0 G.P G.w G.K G.mg G.base N qual scope f (.ref c) Ar outer s H E).nox G.T W0 U body (startD N.length xs) { nx := fun _ => r = .im .non, rt := fun t => t = r ∨ t.fz = r }) :
    FnOk G.P G.w G.K G.mg G.base CX0 (k + 1) f (fdOf G.K f) ps (spD G U A) := by
  obtain ⟨c, P, hc, tb⟩ := t
  have gen : ∀ fd : FuncData, FunD G.K x qual params body scope [] [] f fd → fd.code = .ref c → FnOk G.P G.w G.K G.mg G.base CX0 (k + 1) f fd ps (spD G U A) := fun fd F hc => by
    obtain ⟨oc, od, dV, kV, doc, pm, an, cdv, ct, osl, rfl, lk, hcd, _, _⟩ := F.ex
    obtain rfl : cdv = .ref c := hc
    refine fn_of lk hcd S (fun vs H Q E ⟨I, xs, r, _, _, rs, hAx, _⟩ => by rw [rs.len]; exact hA xs r hAx) fun Ar outer s H vs Q E hr ⟨I, xs, r, rd, tb2, rs, hAx, k⟩ => ?_
    have h := hb c P tb Ar outer s H E hr xs r hAx
    have hl : xs.length ≤ N.length := by
      have e1 := S.pre
      have e2 := hA xs r hAx
      rw [e2, ← e1, List.length_take]
      exact Nat.min_le_right _ _
    refine ⟨_, PSs.nox h, I, H, I, env_start (G := G) rd tb2 rs hl, ?_, ?_, ?_, ?_, ?_⟩
    · rintro σ' H' ⟨ds', I', e', p', q⟩
      refine k .non H' ?_
      rw [q]
      exact ⟨I', e'.st, Rep.non⟩
    · rintro v H' t hr ht
      rcases ht with rfl | rfl
      · exact k v H' hr
      · exact k v H' hr.fz
    · rintro _ _ ⟨_, _, _, _, q⟩
      exact q
    · rintro _ _ ⟨_, _, _, _, q⟩
      exact q
    · rintro _ _ _ _ _ ⟨_, _, _, _, _, q⟩
      exact q
  exact gen _ F hc
section
variable {X : Cx} {T : List NTab} {U : Bool} {ds : List DS}
theorem de_niS {a b : Expr} {pos : Pos} {x : Str} {ns : List Str} (ha : DE X T U a ds (.str x)) (hb : DE X T U b ds (.lst (ns.map .str))) (hn : behindInMarks .NotIn b = false := by rfl) : DE X T U (.Compare a [.NotIn] [b] pos) ds (.bl (!decide (x ∈ ns))) := dv_cmp op_notIn_seq r2_niS ha hb hn
end
theorem keys_true (l : List Str) : DK.keys.ds (l.map fun n => (n, D.bl true)) = l.map D.str := by
  show (l.map fun n => (n, D.bl true)).map (fun kv => D.str kv.1) = _
  rw [List.map_map]
  rfl
end Lp

/-! Places within trees of one's own: read, changed. -/
namespace Lp
open PySem PySem.Spec PyProof.Rows L2
abbrev Pth := List Nat
def setFk : List (Str × OT) → Nat → OT → List (Str × OT)
  | [], _, _ => []
  | (x, _) :: r, 0, u => (x, u) :: r
  | p :: r, k + 1, u => p :: setFk r k u
def OT.kid : OT → Nat → Option OT
  | .lst xs, k => xs[k]?
  | .tup xs, k => xs[k]?
  | .dic xs, k => (xs[k]?).map (·.2)
  | .ins _ xs, k => (xs[k]?).map (·.2)
  | _, _ => none
def OT.setKid : OT → Nat → OT → OT
  | .lst xs, k, u => .lst (xs.set k u)
  | .tup xs, k, u => .tup (xs.set k u)
  | .dic xs, k, u => .dic (setFk xs k u)
  | .ins C xs, k, u => .ins C (setFk xs k u)
  | t, _, _ => t
def OT.get : OT → Pth → Option OT
  | t, [] => some t
  | t, k :: π => match t.kid k with
    | some u => u.get π
    | none => none
def OT.put : OT → Pth → OT → OT
  | _, [], u => u
  | t, k :: π, u => match t.kid k with
    | some w => t.setKid k (w.put π u)
    | none => t
inductive Kid (H : Hp) : V → Nat → V → Prop where
  | lst {p : Addr} {vs : List V} {k : Nat} {w : V} : H p = some (.lst vs) → vs[k]? = some w → Kid H (.ref p) k w
  | tup {p : Addr} {vs : List V} {k : Nat} {w : V} : H p = some (.tup vs) → vs[k]? = some w → Kid H (.ref p) k w
  | dic {p : Addr} {fs : List (Str × V)} {k : Nat} {x : Str} {w : V} : H p = some (.dK (kvK fs)) → fs[k]? = some (x, w) → Kid H (.ref p) k w
  | ins {p C dx : Addr} {fs : List (Str × V)} {k : Nat} {x : Str} {w : V} : H p = some (.ins C dx fs) → fs[k]? = some (x, w) → Kid H (.ref p) k w
inductive AtV (H : Hp) : V → Pth → V → Prop where
  | nil (v : V) : AtV H v [] v
  | cons {v u w : V} {k : Nat} {π : Pth} : Kid H v k u → AtV H u π w → AtV H v (k :: π) w
/-- what may be put in the place of a part -/
def Back (G : Glb) (I H : Hp) (A B : List Addr) (w : V) (K : Hp → Hp → OT → List Addr → Prop) : Prop :=
  ∀ (I' H' : Hp) (t' : OT) (B' : List Addr), Same I I' → (∀ a ∈ A, a ∉ B → I' a = none ∧ H' a = H a) → OR G I' H' w t' B' → (∀ a ∈ B', a ∈ A → a ∈ B) → ∃ A', K I' H' t' A' ∧ ∀ a ∈ A', a ∈ B' ∨ (a ∈ A ∧ a ∉ B)
section
variable {G : Glb} {I H : Hp}
theorem ors_lens : ∀ {vs : List V} {ts : List OT} {A : List Addr} {k : Nat} {t : OT}, ORs G I H vs ts A → ts[k]? = some t → ∃ w B, vs[k]? = some w ∧ OR G I H w t B ∧ (∀ a ∈ B, a ∈ A) ∧ Back G I H A B w fun I' H' t' A' => ORs G I' H' vs (ts.set k t') A'
  | _, _, _, _, _, .nil, e => by simp at e
  | _, _, _, 0, t, .cons (A := A0) (B := B0) a b d, e => by
    simp at e
    subst e
    refine ⟨_, A0, rfl, a, fun x hx => List.mem_append_left _ hx, fun I' H' t' B' sm fr r' dj => ?_⟩
    have rb : ORs G I' H' _ _ B0 := b.frame sm fun x hx => fr x (List.mem_append_right _ hx) fun z => d x z hx
    refine ⟨B' ++ B0, .cons r' rb fun x hx z => d x (dj x hx (List.mem_append_right _ z)) z, fun x hx => ?_⟩
    rcases List.mem_append.mp hx with z | z
    · exact .inl z
    · exact .inr ⟨List.mem_append_right _ z, fun y => d x y z⟩
  | _, _, _, k + 1, t, .cons (A := A0) (B := B0) a b d, e => by
    obtain ⟨w, B, h1, h2, h3, h4⟩ := ors_lens (k := k) (t := t) b (by simpa using e)
    refine ⟨w, B, by simpa using h1, h2, fun x hx => List.mem_append_right _ (h3 x hx), fun I' H' t' B' sm fr r' dj => ?_⟩
    obtain ⟨A', k1, k2⟩ := h4 I' H' t' B' sm (fun x hx hn => fr x (List.mem_append_right _ hx) hn) r' fun x hx hz => dj x hx (List.mem_append_right _ hz)
    have ra : OR G I' H' _ _ A0 := a.frame sm fun x hx => fr x (List.mem_append_left _ hx) fun z => d x hx (h3 x z)
    refine ⟨A0 ++ A', .cons ra k1 fun x hx z => ?_, fun x hx => ?_⟩
    · rcases k2 x z with y | y
      · exact d x hx (h3 x (dj x y (List.mem_append_left _ hx)))
      · exact d x hx y.1
    · rcases List.mem_append.mp hx with z | z
      · exact .inr ⟨List.mem_append_left _ z, fun y => d x z (h3 x y)⟩
      · exact (k2 x z).imp id fun y => ⟨List.mem_append_right _ y.1, y.2⟩
theorem orf_lens : ∀ {vs : List (Str × V)} {ts : List (Str × OT)} {A : List Addr} {k : Nat} {x : Str} {t : OT}, ORF G I H vs ts A → ts[k]? = some (x, t) → ∃ w B, vs[k]? = some (x, w) ∧ OR G I H w t B ∧ (∀ a ∈ B, a ∈ A) ∧ Back G I H A B w fun I' H' t' A' => ORF G I' H' vs (setFk ts k t') A'
  | _, _, _, _, _, _, .nil, e => by simp at e
  | _, _, _, 0, x, t, .cons (A := A0) (B := B0) a b d, e => by
    simp at e
    obtain ⟨rfl, rfl⟩ := e
    refine ⟨_, A0, rfl, a, fun x hx => List.mem_append_left _ hx, fun I' H' t' B' sm fr r' dj => ?_⟩
    have rb : ORF G I' H' _ _ B0 := b.frame sm fun x hx => fr x (List.mem_append_right _ hx) fun z => d x z hx
    refine ⟨B' ++ B0, .cons r' rb fun x hx z => d x (dj x hx (List.mem_append_right _ z)) z, fun x hx => ?_⟩
    rcases List.mem_append.mp hx with z | z
    · exact .inl z
    · exact .inr ⟨List.mem_append_right _ z, fun y => d x y z⟩
  | _, _, _, k + 1, y, t, .cons (A := A0) (B := B0) a b d, e => by
    obtain ⟨w, B, h1, h2, h3, h4⟩ := orf_lens (k := k) (x := y) (t := t) b (by simpa using e)
    refine ⟨w, B, by simpa using h1, h2, fun x hx => List.mem_append_right _ (h3 x hx), fun I' H' t' B' sm fr r' dj => ?_⟩
    obtain ⟨A', k1, k2⟩ := h4 I' H' t' B' sm (fun x hx hn => fr x (List.mem_append_right _ hx) hn) r' fun x hx hz => dj x hx (List.mem_append_right _ hz)
    have ra : OR G I' H' _ _ A0 := a.frame sm fun x hx => fr x (List.mem_append_left _ hx) fun z => d x hx (h3 x z)
    refine ⟨A0 ++ A', .cons ra k1 fun x hx z => ?_, fun x hx => ?_⟩
    · rcases k2 x z with y | y
      · exact d x hx (h3 x (dj x y (List.mem_append_left _ hx)))
      · exact d x hx y.1
    · rcases List.mem_append.mp hx with z | z
      · exact .inr ⟨List.mem_append_left _ z, fun y => d x z (h3 x y)⟩
      · exact (k2 x z).imp id fun y => ⟨List.mem_append_right _ y.1, y.2⟩
/-- a node over a row of parts -/
theorem back_node {A B : List Addr} {p : Addr} {w : V} {K K2 : Hp → Hp → OT → List Addr → Prop} (hn : p ∉ A) (hs : ∀ a ∈ B, a ∈ A) (hb : Back G I H A B w K) (hk : ∀ I' H' t' A', I' p = none → H' p = H p → p ∉ A' → K I' H' t' A' → K2 I' H' t' (p :: A')) : Back G I H (p :: A) B w K2 := fun I' H' t' B' sm fr r' dj => by
  obtain ⟨A', k1, k2⟩ := hb I' H' t' B' sm (fun x hx => fr x (List.mem_cons_of_mem _ hx)) r' fun x hx hz => dj x hx (List.mem_cons_of_mem _ hz)
  obtain ⟨f1, f2⟩ := fr p List.mem_cons_self fun z => hn (hs p z)
  refine ⟨p :: A', hk I' H' t' A' f1 f2 (fun z => ?_) k1, fun x hx => ?_⟩
  · rcases k2 p z with y | y
    · exact hn (hs p (dj p y List.mem_cons_self))
    · exact hn y.1
  · rcases List.mem_cons.mp hx with rfl | z
    · exact .inr ⟨List.mem_cons_self, fun y => hn (hs x y)⟩
    · exact (k2 x z).imp id fun y => ⟨List.mem_cons_of_mem _ y.1, y.2⟩
theorem or_kid {v : V} {T : OT} {A : List Addr} {k : Nat} {t : OT} (h : OR G I H v T A) (e : T.kid k = some t) : ∃ w B, Kid H v k w ∧ OR G I H w t B ∧ (∀ a ∈ B, a ∈ A) ∧ Back G I H A B w fun I' H' t' A' => OR G I' H' v (T.setKid k t') A' := by
  cases h with
  | im _ => cases e
  | hole _ => cases e
  | lst h i n r =>
    obtain ⟨w, B, h1, h2, h3, h4⟩ := ors_lens (k := k) (t := t) r e
    exact ⟨w, B, .lst h h1, h2, fun a ha => List.mem_cons_of_mem _ (h3 a ha), back_node n h3 h4 fun I' H' t' A' f1 f2 f3 f4 => .lst (f2.trans h) f1 f3 f4⟩
  | tup h i n r =>
    obtain ⟨w, B, h1, h2, h3, h4⟩ := ors_lens (k := k) (t := t) r e
    exact ⟨w, B, .tup h h1, h2, fun a ha => List.mem_cons_of_mem _ (h3 a ha), back_node n h3 h4 fun I' H' t' A' f1 f2 f3 f4 => .tup (f2.trans h) f1 f3 f4⟩
  | @dic p fs ts A h i n r =>
    have e' : (ts[k]?).map (·.2) = some t := e
    obtain ⟨⟨x, t2⟩, e1, e2⟩ := Option.map_eq_some_iff.mp e'
    cases e2
    obtain ⟨w, B, h1, h2, h3, h4⟩ := orf_lens (k := k) r e1
    exact ⟨w, B, .dic h h1, h2, fun a ha => List.mem_cons_of_mem _ (h3 a ha), back_node n h3 h4 fun I' H' t' A' f1 f2 f3 f4 => .dic (f2.trans h) f1 f3 f4⟩
  | @ins p dx C fs ts A h i n r =>
    have e' : (ts[k]?).map (·.2) = some t := e
    obtain ⟨⟨x, t2⟩, e1, e2⟩ := Option.map_eq_some_iff.mp e'
    cases e2
    obtain ⟨w, B, h1, h2, h3, h4⟩ := orf_lens (k := k) r e1
    exact ⟨w, B, .ins h h1, h2, fun a ha => List.mem_cons_of_mem _ (h3 a ha), back_node n h3 h4 fun I' H' t' A' f1 f2 f3 f4 => .ins (f2.trans h) f1 f3 f4⟩
theorem or_lens : ∀ {π : Pth} {v : V} {T : OT} {A : List Addr} {t : OT}, OR G I H v T A → T.get π = some t → ∃ w B, AtV H v π w ∧ OR G I H w t B ∧ (∀ a ∈ B, a ∈ A) ∧ Back G I H A B w fun I' H' t' A' => OR G I' H' v (T.put π t') A'
  | [], v, T, A, t, h, e => by
    cases e
    exact ⟨v, A, .nil v, h, fun _ h => h, fun I' H' t' B' sm fr r' dj => ⟨B', r', fun a ha => .inl ha⟩⟩
  | k :: π, v, T, A, t, h, e => by
    rw [OT.get] at e
    cases e2 : T.kid k with
    | none => rw [e2] at e; cases e
    | some u =>
      rw [e2] at e
      obtain ⟨w1, B1, a1, a2, a3, a4⟩ := or_kid h e2
      obtain ⟨w, B, b1, b2, b3, b4⟩ := or_lens (π := π) a2 e
      refine ⟨w, B, .cons a1 b1, b2, fun a ha => a3 a (b3 a ha), fun I' H' t' B' sm fr r' dj => ?_⟩
      obtain ⟨A1, c1, c2⟩ := b4 I' H' t' B' sm (fun a ha => fr a (a3 a ha)) r' fun a ha hz => dj a ha (a3 a hz)
      obtain ⟨A', d1, d2⟩ := a4 I' H' _ A1 sm (fun a ha hn => fr a ha fun z => hn (b3 a z)) c1 fun a ha hz => by
        rcases c2 a ha with y | y
        · exact b3 a (dj a y hz)
        · exact y.1
      refine ⟨A', by
        show OR G I' H' v (T.put (k :: π) t') A'
        rw [OT.put, e2]
        exact d1, fun a ha => ?_⟩
      rcases d2 a ha with y | y
      · exact (c2 a y).imp id fun z => ⟨a3 a z.1, z.2⟩
      · exact .inr ⟨y.1, fun z => y.2 (b3 a z)⟩
theorem kid_fun {v u w : V} {k : Nat} (h1 : Kid H v k u) (h2 : Kid H v k w) : u = w := by
  have inj : ∀ {a b : List (Str × V)}, kvK a = kvK b → a = b := fun {a b} e => by
    have z := congrArg (List.map fun q : Key × V => (match q.1 with | .inr x => x | .inl _ => Str.empty, q.2)) e
    rw [kvK, kvK, List.map_map, List.map_map] at z
    have id2 : ∀ l : List (Str × V), l.map ((fun q : Key × V => ((match q.1 with | .inr x => x | .inl _ => Str.empty), q.2)) ∘ fun q : Str × V => ((Sum.inr q.1 : Key), q.2)) = l := fun l => List.map_id'' (fun _ => rfl) l
    rw [id2, id2] at z
    exact z
  cases h1 with
  | lst a b => cases h2 with
    | lst c d => rw [a] at c; cases c; rw [b] at d; cases d; rfl
    | tup c d => rw [a] at c; cases c
    | dic c d => rw [a] at c; cases c
    | ins c d => rw [a] at c; cases c
  | tup a b => cases h2 with
    | lst c d => rw [a] at c; cases c
    | tup c d => rw [a] at c; cases c; rw [b] at d; cases d; rfl
    | dic c d => rw [a] at c; cases c
    | ins c d => rw [a] at c; cases c
  | dic a b => cases h2 with
    | lst c d => rw [a] at c; cases c
    | tup c d => rw [a] at c; cases c
    | dic c d =>
      rw [a] at c
      have z := inj (HO.dK.inj (Option.some.inj c))
      rw [z, d] at b
      cases b
      rfl
    | ins c d => rw [a] at c; cases c
  | ins a b => cases h2 with
    | lst c d => rw [a] at c; cases c
    | tup c d => rw [a] at c; cases c
    | dic c d => rw [a] at c; cases c
    | ins c d => rw [a] at c; cases c; rw [b] at d; cases d; rfl
theorem atv_fun : ∀ {π : Pth} {v u w : V}, AtV H v π u → AtV H v π w → u = w
  | [], _, _, _, .nil _, .nil _ => rfl
  | _ :: _, _, _, _, .cons a b, .cons c d => by
    cases kid_fun a c
    exact atv_fun b d
theorem kid_keep {H' : Hp} {v u : V} {T t : OT} {A : List Addr} {k : Nat} (h : OR G I H v T A) (e : T.kid k = some t) (hk : Kid H v k u) (s : ∀ a ∈ A, H' a = H a) : Kid H' v k u := by
  have go : ∀ p, v = .ref p → p ∈ A → Kid H' v k u := fun p ev hp => by
    have z := s p hp
    cases hk with
    | lst a b => cases ev; exact .lst (z.trans a) b
    | tup a b => cases ev; exact .tup (z.trans a) b
    | dic a b => cases ev; exact .dic (z.trans a) b
    | ins a b => cases ev; exact .ins (z.trans a) b
  cases h with
  | im _ => cases e
  | hole _ => cases e
  | lst _ _ _ _ => exact go _ rfl List.mem_cons_self
  | tup _ _ _ _ => exact go _ rfl List.mem_cons_self
  | dic _ _ _ _ => exact go _ rfl List.mem_cons_self
  | ins _ _ _ _ => exact go _ rfl List.mem_cons_self
theorem atv_keep {H' : Hp} : ∀ {π : Pth} {v w : V} {T t : OT} {A : List Addr}, OR G I H v T A → T.get π = some t → AtV H v π w → (∀ a ∈ A, H' a = H a) → AtV H' v π w
  | [], _, _, _, _, _, _, _, .nil v, _ => .nil v
  | k :: π, _, _, T, t, A, h, e, .cons a b, s => by
    rw [OT.get] at e
    cases q : T.kid k with
    | none => rw [q] at e; cases e
    | some u =>
      rw [q] at e
      obtain ⟨w, B, c1, c2, c3, _⟩ := or_kid h q
      cases kid_fun a c1
      exact .cons (kid_keep h q a s) (atv_keep c2 e b fun x hx => s x (c3 x hx))
theorem atv_snoc : ∀ {π : Pth} {v u w : V} {k : Nat}, AtV H v π u → Kid H u k w → AtV H v (π ++ [k]) w
  | [], _, _, _, _, .nil _, h => .cons h (.nil _)
  | _ :: _, _, _, _, _, .cons a b, h => .cons a (atv_snoc b h)
theorem get_snoc {k : Nat} : ∀ {π : Pth} {T t : OT}, T.get π = some t → T.get (π ++ [k]) = t.kid k
  | [], T, t, e => by
    cases e
    show (match T.kid k with | some u => u.get [] | none => none) = _
    cases T.kid k <;> rfl
  | j :: π, T, t, e => by
    rw [OT.get] at e
    show (match T.kid j with | some u => u.get (π ++ [k]) | none => none) = _
    cases q : T.kid j with
    | none => rw [q] at e; cases e
    | some u =>
      rw [q] at e
      exact get_snoc e
end
section
variable {G : Glb} {U : Bool} {I0 H0 I H I1 H1 : Hp} {σ : L2.St} {ds : List DS}
/-- a place in a slot's tree, now -/
theorem EnvR.place (en : EnvR G U I0 H0 I H σ ds) {i : Nat} {q : Option Addr} {T t : OT} {π : Pth} (h : ds[i]? = some (.ot q T)) (hg : T.get π = some t) : ∃ v w B, σ[i]? = some (some v) ∧ AtV H v π w ∧ OR G I H w t B := by
  obtain ⟨v, A, e1, r, _⟩ := en.ot h
  obtain ⟨w, B, a1, a2, _⟩ := or_lens r hg
  exact ⟨v, w, B, e1, a1, a2⟩
/-- the node at p, a place of slot i, changes -/
theorem EnvR.mutP (en : EnvR G U I0 H0 I H σ ds) {i : Nat} {q : Option Addr} {T t : OT} {π : Pth} (h : ds[i]? = some (.ot q T)) (hg : T.get π = some t) (s : Step G I H I1 H1) : ∃ v w B, σ[i]? = some (some v) ∧ AtV H1 v π w ∧ OR G I1 H1 w t B ∧ (∀ a ∈ B, H a ≠ none) ∧
    ∀ p o t' B', w = .ref p → p ∈ B → OR G I1 (upd H1 p o) w t' B' → (∀ a ∈ B', a ∈ B ∨ H a = none) → EnvR G U I0 H0 I1 (upd H1 p o) σ (ds.set i (.ot q (T.put π t'))) ∧ Pres I H I1 (upd H1 p o) := by
  obtain ⟨F, ft⟩ := en.fp
  have hi : i < σ.length := by rw [en.len]; exact (List.getElem?_eq_some_iff.mp h).1
  obtain ⟨v, A, e1, r, hA, hq⟩ := ft.sl i _ _ (List.getElem?_eq_getElem hi) h
  have e2 : σ[i]? = some (some v) := by rw [List.getElem?_eq_getElem hi, e1]
  have hk : ∀ a ∈ A, I1 a = none ∧ H1 a = H a := fun a ha => s.ownKeep (r.there a ha)
  have r1 := r.frame s.isub hk
  obtain ⟨w, B, b1, b2, b3, b4⟩ := or_lens r1 hg
  have thereN : ∀ a ∈ A, H a ≠ none := fun a ha => by
    obtain ⟨_, u, z, _⟩ := r.there a ha
    rw [z]
    exact fun q => nomatch q
  refine ⟨v, w, B, e2, b1, b2, fun a ha => thereN a (b3 a ha), fun p o t' B' ew hp rn hn => ?_⟩
  obtain ⟨A', c1, c2⟩ := b4 I1 (upd H1 p o) t' B' (Same.refl I1) (fun a ha hb => ⟨(hk a ha).1, upd_ne fun z => hb (by rw [z]; exact hp)⟩) rn fun a ha hz => (hn a ha).elim id fun z => absurd z (thereN a hz)
  have pA := b3 p hp
  obtain ⟨p1, u, p2, p3, p4, p5⟩ := r1.there p pA
  have notT : ∀ w, H1 p = some w → (∀ ps, w ≠ HO.tbl ps) ∧ ∀ φ, w ≠ HO.ext φ := fun w e => by
    rw [p2] at e
    cases e
    exact ⟨p3, p4⟩
  refine ⟨?_, s.pres.trans (Pres.own p1 p2 p5)⟩
  have z := en.put ft ((en.st.trans s).mutOwn (o := o) p1 (hA p pA).1 notT) (tabs_upd (s.tabs en.tb) notT) (fun a n => by
    by_cases z : a = p
    · rw [z, upd_same]; exact fun q => nomatch q
    · rw [upd_ne z]; exact s.keepN a n) i (some v) (.ot q (T.put π t')) (fun a => a ∈ A') (fun j hj a ha ho => by
      obtain ⟨z1, z2⟩ := s.ownKeep ho
      exact ⟨z1, by rw [upd_ne fun z => hj (ft.dj j i a ha (by rw [z]; exact (hA p pA).2))]; exact z2⟩) s.isub (fun a ha => ⟨(by
      obtain ⟨_, u, z, _⟩ := c1.there a ha
      rw [z]
      exact fun q => nomatch q), ?_⟩) ⟨v, A', rfl, c1, fun a ha => ⟨?_, ha⟩, hq⟩
  · rwa [show σ.set i (some v) = σ from by
      obtain ⟨hl, he⟩ := List.getElem?_eq_some_iff.mp e2
      rw [← he, List.set_getElem_self]] at z
  · rcases c2 a ha with y | y
    · rcases hn a y with y | y
      · exact .inr (hA a (b3 a y)).2
      · exact .inl y
    · exact .inr (hA a y.1).2
  · rcases c2 a ha with y | y
    · rcases hn a y with y | y
      · exact (hA a (b3 a y)).1
      · exact en.st.free y
    · exact (hA a y.1).1
end
/-! ### expressions that are places -/
/-- e is the place π of slot i -/
def plV (G : Glb) (U : Bool) (ds : List DS) (i : Nat) (π : Pth) : TE := fun σ H Q => ∃ I0 H0 I, EnvR G U I0 H0 I H σ ds ∧ ∀ v w I' H', Step G I H I' H' → σ[i]? = some (some v) → AtV H' v π w → Q w H'
abbrev DPl (X : Cx) (T : List NdefX.NTab) (U : Bool) (e : Expr) (ds : List DS) (i : Nat) (π : Pth) : Prop := PE X e (plV (gx X T) U ds i π)
section
variable {X : Cx} {T : List NdefX.NTab} {W : WX} {U : Bool} {ds : List DS} {s : DS} {E : DEn} {e : Expr} {pos : Pos}
theorem dp_var (i : Nat) {x : Str} {q : Option Addr} {T' : OT} (h : ds[i]? = some (.ot q T')) (hN : X.N[i]? = some x := by rfl) (hv : Vis X.env.scope x := by first | exact Or.inl rfl | exact Or.inr (Or.inl rfl) | exact Or.inr (Or.inr rfl))
    (hd : (x == ("__debug__" : Str)) = false := by decide) (hcd : (x == ("__classdict__" : Str)) = false := by decide) : DPl X T U (.Name x pos) ds i [] :=
  (pe_var hN hv hd hcd).weak fun σ H Q ⟨I0, H0, I, en, k⟩ => by
    obtain ⟨v, A, e1, r, _⟩ := en.ot h
    exact ⟨v, e1, k v v I H (Step.refl en.sub) e1 (.nil v)⟩
/-- behind a place, something else is evaluated -/
theorem ORs.len {G : Glb} {I H : Hp} : ∀ {vs : List V} {ts : List OT} {A : List Addr}, ORs G I H vs ts A → vs.length = ts.length
  | _, _, _, .nil => rfl
  | _, _, _, .cons _ b _ => congrArg (· + 1) b.len
theorem EnvR.place2 {G : Glb} {I0 H0 I H I1 H1 : Hp} {σ : L2.St} (en : EnvR G U I0 H0 I H σ ds) {i : Nat} {q : Option Addr} {T' t : OT} {π : Pth} (h : ds[i]? = some (.ot q T')) (hg : T'.get π = some t) {v w : V} (e1 : σ[i]? = some (some v)) (h1 : AtV H v π w) (s : Step G I H I1 H1) : AtV H1 v π w ∧ ∃ B, OR G I1 H1 w t B ∧ ∀ a ∈ B, H0 a = none := by
  obtain ⟨v', A, f1, r, hA, _⟩ := en.ot h
  rw [e1] at f1
  cases f1
  have hk : ∀ a ∈ A, I1 a = none ∧ H1 a = H a := fun a ha => s.ownKeep (r.there a ha)
  have z := atv_keep r hg h1 fun a ha => (hk a ha).2
  obtain ⟨w', B, g1, g2, g3, _⟩ := or_lens (r.frame s.isub hk) hg
  cases atv_fun z g1
  exact ⟨z, B, g2, fun a ha => hA a (g3 a ha)⟩
theorem ixN_of {n j : Nat} (h : j < n) : ixN n (j : Int) = some j := by
  unfold ixN
  rw [if_pos (by omega), if_pos (by omega)]
  rfl
theorem ixN_lt {n k : Nat} {j : Int} (h : ixN n j = some k) : k < n := (ixN_seq h).2.1
/-- an item of a list, of a tuple -/
theorem dp_ixL {i : Nat} {a b : Expr} {q : Option Addr} {T' : OT} {π : Pth} {ts : List OT} {j : Int} {k : Nat} (h : ds[i]? = some (.ot q T')) (hg : T'.get π = some (.lst ts)) (ha : DPl X T U a ds i π) (hb : DE X T U b ds (.int j)) (hj : ixN ts.length j = some k) (hp : PlainIx b := by intro _ _; rfl) : DPl X T U (.Subscript a b pos) ds i (π ++ [k]) :=
  (pe_ix ix_list ha hb hp).weak fun σ H Q ⟨I0, H0, I, en, kk⟩ => ⟨I0, H0, I, en, fun v w I1 H1 s1 e1 h1 => ⟨I0, H0, I1, en.step s1, fun y I2 H2 s2 r2 => by
    cases r2
    obtain ⟨g1, B, g2, _⟩ := (en.step s1).place2 h hg e1 h1 s2
    cases g2 with
    | @lst p vs _ A a1 a2 a3 a4 =>
      have hl : k < vs.length := by rw [a4.len]; exact ixN_lt hj
      refine ⟨p, vs, j, vs[k], rfl, rfl, SqL.of a1, ?_, kk v _ I2 H2 (s1.trans s2) e1 (atv_snoc g1 (.lst a1 (List.getElem?_eq_getElem hl)))⟩
      unfold atI
      rw [a4.len, hj]
      exact List.getElem?_eq_getElem hl⟩⟩
theorem dp_ixT {i : Nat} {a b : Expr} {q : Option Addr} {T' : OT} {π : Pth} {ts : List OT} {j : Int} {k : Nat} (h : ds[i]? = some (.ot q T')) (hg : T'.get π = some (.tup ts)) (ha : DPl X T U a ds i π) (hb : DE X T U b ds (.int j)) (hj : ixN ts.length j = some k) (hp : PlainIx b := by intro _ _; rfl) : DPl X T U (.Subscript a b pos) ds i (π ++ [k]) :=
  (pe_ix ix_tup ha hb hp).weak fun σ H Q ⟨I0, H0, I, en, kk⟩ => ⟨I0, H0, I, en, fun v w I1 H1 s1 e1 h1 => ⟨I0, H0, I1, en.step s1, fun y I2 H2 s2 r2 => by
    cases r2
    obtain ⟨g1, B, g2, _⟩ := (en.step s1).place2 h hg e1 h1 s2
    cases g2 with
    | @tup p vs _ A a1 a2 a3 a4 =>
      have hl : k < vs.length := by rw [a4.len]; exact ixN_lt hj
      refine ⟨p, vs, j, vs[k], rfl, rfl, SqT.of a1, ?_, kk v _ I2 H2 (s1.trans s2) e1 (atv_snoc g1 (.tup a1 (List.getElem?_eq_getElem hl)))⟩
      unfold atI
      rw [a4.len, hj]
      exact List.getElem?_eq_getElem hl⟩⟩
/-- what stands at a place and is told -/
theorem de_at {i : Nat} {q : Option Addr} {T' : OT} {π : Pth} {d : D} (h : ds[i]? = some (.ot q T')) (hg : T'.get π = some (.im d)) (ha : DPl X T U e ds i π) : DE X T U e ds d :=
  ha.weak fun σ H Q ⟨I0, H0, I, en, k⟩ => ⟨I0, H0, I, en, fun v w I1 H1 s1 e1 h1 => by
    obtain ⟨_, B, g2, _⟩ := (en.step s1).place2 h hg e1 h1 (Step.refl s1.sub)
    cases g2 with
    | im r => exact k w I1 H1 s1 r⟩
/-- a new value, as a tree -/
theorem dv_tree {t : OT} (h : DV X T U e ds s) (ht : s.tree = some t) : DV X T U e ds (.ot none t) :=
  h.weak fun σ H Q ⟨I0, H0, I, en, k⟩ => ⟨I0, H0, I, en, fun v I1 H1 s1 r1 => by
    obtain ⟨A, r, n⟩ := r1.tree ht
    exact k v I1 H1 s1 ⟨A, r, n, fun _ z => nomatch z⟩⟩
/-- place.append(e) -/
theorem ds_appP (i : Nat) {b : Expr} {q : Option Addr} {T' : OT} {π : Pth} {ts : List OT} {t : OT} {apos cpos : Pos} (h : ds[i]? = some (.ot q T')) (hg : T'.get π = some (.lst ts)) (hp : DPl X T U b ds i π) (he : DV X T U e ds s) (ht : s.tree = some t) (hl : ts.length < 100000) (k : E.nx (ds.set i (.ot q (T'.put π (.lst (ts ++ [t]))))))
    (hb : attributeBase b "append" X.env (eval b X.env) = eval b X.env := by rfl) (ha : ((((backTo cpos (starEach [e] X.env)).all fun x => !x.fst) && (backToKw cpos (keywordEach [] X.env)).all fun x => x.fst.isSome) && decide (([e].length + ([] : List Keyword).length + if ([] : List Keyword).isEmpty = true then 0 else 1) < 30)) = true := by rfl)
    (hln : (apos.endLine == cpos.line) = true := by rfl) (hse : starEach [e] X.env = (false, eval e X.env) :: starEach [] X.env := by rfl) (hsw : swapsWith (.Call (.Attribute b "append" apos) [e] [] cpos) none pos.line X.env = pure false := by rfl) :
    DSt X T W U (.Expr (.Call (.Attribute b "append" apos) [e] [] cpos) pos) ds E :=
  (ps_expr (pe_bm PySem.F.plainAttrs_list PySem.F.slot_list_append PySem.F.type_list_append mt_append hp (pa_cons he pa_nil hse) hb ha hln hse) hsw).weak fun D σ H ⟨I0, H0, I, en, k1, _⟩ => by
    refine ⟨I0, H0, I, en, fun v w I1 H1 s1 e1 h1 => ?_⟩
    obtain ⟨g1, B, g2, g3⟩ := (en.step s1).place2 h hg e1 h1 (Step.refl s1.sub)
    cases g2 with
    | @lst p vs _ B a1 a2 a3 a4 =>
    refine ⟨tyL a1, I0, H0, I1, en.step s1, fun y I2 H2 s2 r2 => ?_⟩
    obtain ⟨C, rC, nC⟩ := r2.tree ht
    obtain ⟨v', w', B2, b1, b2, b3, bN, b4⟩ := (en.step s1).mutP h hg s2
    rw [e1] at b1
    cases b1
    obtain ⟨c1, _⟩ := (en.step s1).place2 h hg e1 h1 s2
    cases atv_fun b2 c1
    cases b3 with
    | @lst _ ws _ B3 d1 d2 d3 d4 =>
    have pC : p ∉ C := fun z => bN p List.mem_cons_self (nC p z)
    have dis : ∀ a ∈ B3, a ∉ C := fun a ha z => bN a (List.mem_cons_of_mem _ ha) (nC a z)
    have fB : ORs (gx X T) I2 (upd H2 p (.lst (ws ++ [y]))) ws ts B3 := d4.frame (Same.refl _) fun a ha => ⟨(d4.there a ha).1, upd_ne fun z => d3 (by rw [← z]; exact ha)⟩
    have fC : OR (gx X T) I2 (upd H2 p (.lst (ws ++ [y]))) y t C := rC.frame (Same.refl _) fun a ha => ⟨(rC.there a ha).1, upd_ne fun z => pC (by rw [← z]; exact ha)⟩
    obtain ⟨e2, p2⟩ := b4 p (.lst (ws ++ [y])) (.lst (ts ++ [t])) (p :: (B3 ++ C)) rfl List.mem_cons_self (.lst upd_same d2 (fun z => (List.mem_append.mp z).elim d3 pC) (ORs.snoc fC fB dis)) fun a ha => by
      rcases List.mem_cons.mp ha with rfl | z
      · exact .inl List.mem_cons_self
      · exact (List.mem_append.mp z).imp (List.mem_cons_of_mem _) (nC a)
    exact ⟨p, ws, y, rfl, rfl, d1, by rw [d4.len]; exact Nat.lt_of_lt_of_le hl (by decide), k1 _ _ ⟨_, I2, e2, s1.pres.trans p2, k⟩⟩
end
end Lp

/-! Data among a list's items. -/
namespace Lp
open PySem PySem.Spec PyProof.Rows L2
def rInP (K : PySem.W.Frag) (f : Bool → Bool) : R2 := fun x y H Q => ∃ d ds, Dp K H x d ∧ Dp K H y (.list ds) ∧ d.plain = true ∧ PyData.plainAll ds = true ∧ d.depth ≤ 64 ∧ Q (.bl (f (ds.any fun z => PyData.eqv z d))) H
theorem op_inP {X : Cx} (hu : X.A.units + 65 < cLine) : OpR X (compareOp .In) (rInP X.K id) := by
  intro pins s σ H x y v u Q I rx ry h
  obtain ⟨d, ds, hd, he, sd, se, hl, q⟩ := h
  obtain ⟨as, r1⟩ := Dp.reads I d x v hd rx
  obtain ⟨bs, r2⟩ := Dp.reads I (.list ds) y u he ry
  exact SeqAt.in_list_data r2 r1 se sd (by have := Nat.min_le_right (PyData.depthAll ds) d.depth; omega) ⟨.bl _, H, I, rfl, q⟩
theorem op_niP {X : Cx} (hu : X.A.units + 65 < cLine) : OpR X (compareOp .NotIn) (rInP X.K not) := by
  intro pins s σ H x y v u Q I rx ry h
  obtain ⟨d, ds, hd, he, sd, se, hl, q⟩ := h
  obtain ⟨as, r1⟩ := Dp.reads I d x v hd rx
  obtain ⟨bs, r2⟩ := Dp.reads I (.list ds) y u he ry
  exact SeqAt.notIn_list_data r2 r1 se sd (by have := Nat.min_le_right (PyData.depthAll ds) d.depth; omega) ⟨.bl _, H, I, rfl, q⟩
theorem plains_en {α : Type} [DecidableEq α] [En α] : ∀ xs : List α, PyData.plainAll (xs.map PySem.W.Datum.toD) = true
  | [] => rfl
  | x :: xs => by rw [List.map_cons, PyData.plainAll, PySem.W.Datum.plain x, plains_en xs]; rfl
theorem any_en {α : Type} [DecidableEq α] [En α] (x : α) : ∀ xs : List α, ((xs.map PySem.W.Datum.toD).any fun z => PyData.eqv z (PySem.W.Datum.toD x)) = decide (x ∈ xs)
  | [] => rfl
  | y :: xs => by
    rw [List.map_cons, List.any_cons, any_en x xs, PySem.W.Datum.eqv, ← Bool.decide_or]
    refine decide_eq_decide.mpr ?_
    rw [List.mem_cons]
    exact ⟨fun z => z.imp Eq.symm id, fun z => z.imp Eq.symm id⟩
section
variable {G : Glb}
theorem dp_list {α : Type} [DecidableEq α] [En α] {I H : Hp} {v : V} {xs : List α} (r : RdS I H) (h : Rep G I v (.lst (xs.map en))) : Dp G.K H v (.list (xs.map PySem.W.Datum.toD)) := by
  cases h with
  | lst a b => exact .lst (SqL.of (r.lst a)) (dps_of r b)
theorem r2_inX {α : Type} [DecidableEq α] [En α] (hd : PySem.W.Datum.depth α ≤ 64) {x : α} {xs : List α} : R2D G (rInP G.K id) (en x) (.lst (xs.map en)) (.im (.bl (decide (x ∈ xs)))) := fun I H v w Q r h1 h2 k =>
  ⟨_, _, En.dp r h1, dp_list r h2, PySem.W.Datum.plain x, plains_en xs, Nat.le_trans (PySem.W.Datum.depth_le x) hd, by rw [any_en]; exact k _ I H (Step.refl r) (.bl _)⟩
theorem r2_niX {α : Type} [DecidableEq α] [En α] (hd : PySem.W.Datum.depth α ≤ 64) {x : α} {xs : List α} : R2D G (rInP G.K not) (en x) (.lst (xs.map en)) (.im (.bl (!decide (x ∈ xs)))) := fun I H v w Q r h1 h2 k =>
  ⟨_, _, En.dp r h1, dp_list r h2, PySem.W.Datum.plain x, plains_en xs, Nat.le_trans (PySem.W.Datum.depth_le x) hd, by rw [any_en]; exact k _ I H (Step.refl r) (.bl _)⟩
end
section
variable {X : Cx} {T : List NdefX.NTab} {W : WX} {U : Bool} {ds : List DS} {s : DS} {E : DEn} {a b : Expr} {pos : Pos}
theorem un65 {k : Nat} {A : Around} (hr : Room k A) : A.units + 65 < cLine := by
  have h1 := hr.un
  omega
theorem dt_inX {α : Type} [DecidableEq α] [En α] {x : α} {xs : List α} (ha : DE X T U a ds (en x)) (hb : DE X T U b ds (.lst (xs.map en))) (hu : X.A.units + 65 < cLine) (hd : PySem.W.Datum.depth α ≤ 64 := by decide) (hn : behindInMarks .In b = false := by rfl) : DT X T U (.Compare a [.In] [b] pos) ds (decide (x ∈ xs)) := dt_cmp (op_inP hu) (r2_inX hd) ha hb hn
theorem dt_niX {α : Type} [DecidableEq α] [En α] {x : α} {xs : List α} (ha : DE X T U a ds (en x)) (hb : DE X T U b ds (.lst (xs.map en))) (hu : X.A.units + 65 < cLine) (hd : PySem.W.Datum.depth α ≤ 64 := by decide) (hn : behindInMarks .NotIn b = false := by rfl) : DT X T U (.Compare a [.NotIn] [b] pos) ds (!decide (x ∈ xs)) := dt_cmp (op_niP hu) (r2_niX hd) ha hb hn
theorem de_inX {α : Type} [DecidableEq α] [En α] {x : α} {xs : List α} (ha : DE X T U a ds (en x)) (hb : DE X T U b ds (.lst (xs.map en))) (hu : X.A.units + 65 < cLine) (hd : PySem.W.Datum.depth α ≤ 64 := by decide) (hn : behindInMarks .In b = false := by rfl) : DE X T U (.Compare a [.In] [b] pos) ds (.bl (decide (x ∈ xs))) := dv_cmp (op_inP hu) (r2_inX hd) ha hb hn
theorem de_niX {α : Type} [DecidableEq α] [En α] {x : α} {xs : List α} (ha : DE X T U a ds (en x)) (hb : DE X T U b ds (.lst (xs.map en))) (hu : X.A.units + 65 < cLine) (hd : PySem.W.Datum.depth α ≤ 64 := by decide) (hn : behindInMarks .NotIn b = false := by rfl) : DE X T U (.Compare a [.NotIn] [b] pos) ds (.bl (!decide (x ∈ xs))) := dv_cmp (op_niP hu) (r2_niX hd) ha hb hn
/-- a statement, then the rest from what it leaves -/
theorem dss_mid {st : Stmt} {rest : List Stmt} (P : List DS → Prop) (h : DSt X T W U st ds { E with nx := P }) (k : ∀ ds', P ds' → DSs X T W U rest ds' E) : DSs X T W U (st :: rest) ds E :=
  dss_cons (PS.weak h fun D σ H q => sV_imp (E' := { E with nx := fun ds' => DSs X T W U rest ds' E }) k (fun _ z => z) (fun _ z => z) (fun _ z => z) (fun _ _ _ z => z) q)
end
end Lp

/-! Displays of values of one's own; membership in a tuple of scalars; sorting known lists. -/
namespace Lp
open PySem PySem.Spec PyProof.Rows L2
def aVT (G : Glb) (U : Bool) (ds : List DS) (ts : List OT) : TA := fun σ H Q => ∃ I0 H0 I, EnvR G U I0 H0 I H σ ds ∧ ∀ vs I' H' A, Step G I H I' H' → ORs G I' H' vs ts A → (∀ a ∈ A, H a = none) → Q vs H'
abbrev DAT (X : Cx) (T : List NdefX.NTab) (U : Bool) (es : List Expr) (ds : List DS) (ts : List OT) : Prop := PA X es (aVT (gx X T) U ds ts)
section
variable {X : Cx} {T : List NdefX.NTab} {W : WX} {U : Bool} {ds : List DS} {s : DS} {E : DEn} {e : Expr} {es : List Expr} {pos : Pos} {ts : List OT} {t : OT}
theorem dat_nil : DAT X T U [] ds [] := ⟨fun pos pins s σ H Q I ⟨I0, H0, I1, en, k⟩ => pa_nil.run pos pins s σ H Q I (k [] I1 H [] (Step.refl en.sub) .nil fun _ h => absurd h (by simp))⟩
theorem dat_cons (h : DV X T U e ds s) (ht : s.tree = some t) (hr : DAT X T U es ds ts) (he : starEach (e :: es) X.env = (false, eval e X.env) :: starEach es X.env := by rfl) : DAT X T U (e :: es) ds (t :: ts) :=
  (pa_cons h hr he).weak fun σ H Q ⟨I0, H0, I, en, k⟩ => ⟨I0, H0, I, en, fun v I1 H1 s1 r1 => ⟨I0, H0, I1, en.step s1, fun vs I2 H2 B s2 r2 n2 => by
    obtain ⟨A, rA, nA⟩ := r1.tree ht
    have rA2 := rA.frame (H' := H2) s2.isub fun a ha => s2.ownKeep (rA.there a ha)
    refine k (v :: vs) I2 H2 (A ++ B) (s1.trans s2) (.cons rA2 r2 fun a ha hb => ?_) fun a ha => ?_
    · obtain ⟨_, u, z, _⟩ := rA.there a ha
      rw [n2 a hb] at z
      cases z
    · exact (List.mem_append.mp ha).elim (nA a) fun z => s1.free (n2 a z)⟩⟩
theorem dv_tupT {n : Nat} (h : DAT X T U es ds ts) (hl : ts.length ≤ 100000) : DV X T U (.Tuple es n pos) ds (.ot none (.tup ts)) :=
  (pe_tup h).weak fun σ H Q ⟨I0, H0, I, en, k⟩ => ⟨I0, H0, I, en, fun vs I1 H1 A s1 r1 n1 => ⟨by rw [r1.len]; exact Nat.le_trans hl (by decide), fun p hp => by
    have s2 : Step (gx X T) I1 H1 I1 (upd H1 p (.tup vs)) := Step.newOwn s1.sub hp
    have pA : p ∉ A := fun z => by
      obtain ⟨_, u, y, _⟩ := r1.there p z
      rw [hp] at y
      cases y
    refine k _ I1 _ (s1.trans s2) ⟨p :: A, .tup upd_same (s1.sub.free hp) pA (r1.frame (Same.refl _) fun a ha => s2.ownKeep (r1.there a ha)), fun a ha => ?_, fun _ z => nomatch z⟩
    rcases List.mem_cons.mp ha with rfl | z
    · exact s1.free hp
    · exact n1 a z⟩⟩
theorem dv_lstT (h : DAT X T U es ds ts) (hl : ts.length ≤ 100000) : DV X T U (.List es pos) ds (.ot none (.lst ts)) :=
  (pe_lst h).weak fun σ H Q ⟨I0, H0, I, en, k⟩ => ⟨I0, H0, I, en, fun vs I1 H1 A s1 r1 n1 => ⟨by rw [r1.len]; exact Nat.le_trans hl (by decide), fun p hp => by
    have s2 : Step (gx X T) I1 H1 I1 (upd H1 p (.lst vs)) := Step.newOwn s1.sub hp
    have pA : p ∉ A := fun z => by
      obtain ⟨_, u, y, _⟩ := r1.there p z
      rw [hp] at y
      cases y
    refine k _ I1 _ (s1.trans s2) ⟨p :: A, .lst upd_same (s1.sub.free hp) pA (r1.frame (Same.refl _) fun a ha => s2.ownKeep (r1.there a ha)), fun a ha => ?_, fun _ z => nomatch z⟩
    rcases List.mem_cons.mp ha with rfl | z
    · exact s1.free hp
    · exact n1 a z⟩⟩
end
/-! ### a gate in (None, sender) -/
theorem r2_inNS {G : Glb} {g : Option Str} {x : Str} : R2D G (rIn G.K false) (gD g) (.tup [.non, .str x]) (.im (.bl (g.isNone || decide (g = some x)))) := fun I H v w Q r h1 h2 k => by
  cases h2 with
  | tup a b =>
    cases b with
    | cons b1 b =>
      cases b with
      | cons b2 b =>
        cases b
        cases b1
        cases b2
        cases g with
        | none =>
          cases h1
          exact ⟨_, _, rfl, .inr (SqT.of (r.tup a)), rfl, rfl, by rw [if_neg Bool.false_ne_true]; exact k _ I H (Step.refl r) (.bl _)⟩
        | some g =>
          cases h1
          refine ⟨_, _, rfl, .inr (SqT.of (r.tup a)), rfl, rfl, ?_⟩
          rw [if_neg Bool.false_ne_true]
          have e : inV (.str g) [.non, .str x] = (Option.isNone (some g) || decide (some g = some x)) := by
            unfold inV
            rw [List.any_cons, List.any_cons, List.any_nil, Bool.or_false]
            show (eqV .non (.str g) || eqV (.str x) (.str g)) = (false || decide (some g = some x))
            have e1 : eqV .non (.str g) = false := rfl
            have e2 : eqV (.str x) (.str g) = decide (some g = some x) := by
              show (x == g) = _
              rw [Bool.eq_iff_iff, beq_iff_eq, decide_eq_true_eq]
              exact ⟨fun e => by rw [e], fun e => (Option.some.inj e).symm⟩
            rw [e1, e2]
          rw [e]
          exact k _ I H (Step.refl r) (.bl _)
theorem de_inNS {X : Cx} {T : List NdefX.NTab} {U : Bool} {ds : List DS} {a b : Expr} {pos : Pos} {g : Option Str} {x : Str} (ha : DE X T U a ds (gD g)) (hb : DE X T U b ds (.tup [.non, .str x])) (hn : behindInMarks .In b = false := by rfl) : DE X T U (.Compare a [.In] [b] pos) ds (.bl (g.isNone || decide (g = some x))) := dv_cmp op_in_seq r2_inNS ha hb hn
/-! ### sorting known lists -/
def sortedB : List Str → Bool
  | [] => true
  | x :: l => (l.all fun y => PySem.W.dataLe false rankD x y) && sortedB l
theorem sortedB_pw : ∀ {l : List Str}, sortedB l = true → l.Pairwise fun a b => PySem.W.dataLe false rankD a b = true
  | [], _ => .nil
  | x :: l, h => by
    rw [sortedB, Bool.and_eq_true, List.all_eq_true] at h
    exact .cons h.1 (sortedB_pw h.2)
theorem sortN_sorted {l : List Str} (h : sortedB l = true) : sortN l = l := List.mergeSort_of_pairwise (sortedB_pw h)
end Lp

/-! Methods of texts and dicts; zip; slices backwards; closures told by what they are. -/
namespace Lp
open PySem PySem.Spec PyProof.Rows L2
/-! ### dict.update -/
def mergeK (kvs more : List (Key × V)) : List (Key × V) := more.foldl (fun acc kv => putK acc kv.1 kv.2) kvs
theorem kv_merge {more : List (Key × V)} {ws : List (Key × Value)} (r : KV more ws) : ∀ {kvs : List (Key × V)} {vs : List (Key × Value)}, KV kvs vs → KV (mergeK kvs more) (merged vs ws) := by
  induction r with
  | nil => exact fun h => h
  | @cons a b as bs h t ih =>
    intro kvs vs hk
    obtain ⟨h1, h2⟩ := h
    have z := ih (kvs := putK kvs a.1 a.2) (vs := stored vs b.1 b.2) (by rw [← h1]; exact hk.put a.1 h2)
    exact z
theorem mergeK_len : ∀ (more kvs : List (Key × V)), (mergeK kvs more).length ≤ kvs.length + more.length
  | [], kvs => Nat.le_refl _
  | kv :: more, kvs => by
    have z := mergeK_len more (putK kvs kv.1 kv.2)
    have y := length_putK kvs kv.1 kv.2
    show (mergeK (putK kvs kv.1 kv.2) more).length ≤ _
    rw [List.length_cons]
    omega
def rUpd : V → List V → Hp → VK → Prop := fun x xs H Q => ∃ (a b : Addr) (kvs more : List (Key × V)), x = .ref a ∧ xs = [.ref b] ∧ a ≠ b ∧ H a = some (.dK kvs) ∧ Rd H b (.dK more) ∧ kvs.length + more.length ≤ sizeLine ∧ Q .non (upd H a (.dK (mergeK kvs more)))
theorem mt_update {X : Cx} : MtR X "dict.update" rUpd := by
  intro pins s σ H x xs v us Q I rx rxs h
  obtain ⟨a, b, kvs, more, rfl, rfl, hne, ha, hb, hl, q⟩ := h
  cases rx
  obtain ⟨u1, rfl, r1⟩ := vals1 rxs
  cases (show u1 = Value.ref b from r1)
  obtain ⟨z, hd, vs, rel, dd⟩ := dk_of I.hok ha
  obtain ⟨z2, hd2, ws, rel2, dd2⟩ := dk_rd I.hok hb
  refine call_meetsIn PySem.F.slot_dict_update dd.typeIs PySem.F.entry_dict_update (PySem.F.args_dict_update_2 _ _) (meets_dict_update (mixKind X.prog X.w) a b hne hd2)
    ⟨vs, ws, dd, dd2, by rw [← rel.length, ← rel2.length]; exact hl, fun h' dd' _ hs => ?_⟩
  have he : ∃ q, h'.get? a = some q := let ⟨q, _, _, hq, _⟩ := dd'; ⟨q, hq⟩
  have hml := mergeK_len more kvs
  exact ⟨.non, _, d_write (t' := s.toks) I (by rw [ha]; exact True.intro) hs he (dk_new (by omega) hd (kv_merge rel2 rel) dd'), rfl, q⟩
def mergeD (kvs more : List (Str × D)) : List (Str × D) := more.foldl (fun acc kv => putD acc kv.1 kv.2) kvs
theorem merge_rep {G : Glb} {I : Hp} : ∀ {gs : List (Str × V)} {more : List (Str × D)}, RepF G I gs more → ∀ {fs : List (Str × V)} {kvs : List (Str × D)}, RepF G I fs kvs → ∃ fs', mergeK (kvK fs) (kvK gs) = kvK fs' ∧ RepF G I fs' (mergeD kvs more)
  | _, _, .nil, fs, kvs, h => ⟨fs, rfl, h⟩
  | _, _, .cons (x := x) (v := v) (d := d) (vs := vs) (ds := ds) a b, fs, kvs, h => by
    obtain ⟨f1, e1, r1⟩ := put_rep (k := x) h a
    obtain ⟨f2, e2, r2⟩ := merge_rep b r1
    refine ⟨f2, ?_, r2⟩
    show mergeK (putK (kvK fs) (Sum.inr x) v) (kvK vs) = _
    rw [e1, e2]
section
variable {X : Cx} {T : List NdefX.NTab} {W : WX} {U : Bool} {ds : List DS} {s : DS} {E : DEn} {e : Expr} {pos : Pos}
theorem tyD_dict {K : PySem.W.Frag} {H : Hp} {p : Addr} {kvs : List (Key × V)} (h : H p = some (.dK kvs)) : tyV K "dict" (.ref p) H := .inr (.inr (.inl ⟨rfl, .inl ⟨_, h⟩⟩))
/-- x.update(e), x a dict of one's own with told values -/
theorem ds_updD (i : Nat) {x : Str} {p apos cpos : Pos} {kvs more : List (Str × D)} (h : ds[i]? = some (.ownD kvs)) (he : DE X T U e ds (.dic more)) (hl : kvs.length + more.length ≤ 100000) (k : E.nx (ds.set i (.ownD (mergeD kvs more)))) (hN : X.N[i]? = some x := by rfl) (hv : Vis X.env.scope x := by first | exact Or.inl rfl | exact Or.inr (Or.inl rfl) | exact Or.inr (Or.inr rfl))
    (hd : (x == ("__debug__" : Str)) = false := by decide) (hcd : (x == ("__classdict__" : Str)) = false := by decide) (hb : attributeBase (.Name x p) "update" X.env (eval (.Name x p) X.env) = eval (.Name x p) X.env := by rfl) (ha : ((((backTo cpos (starEach [e] X.env)).all fun x => !x.fst) && (backToKw cpos (keywordEach [] X.env)).all fun x => x.fst.isSome) && decide (([e].length + ([] : List Keyword).length + if ([] : List Keyword).isEmpty = true then 0 else 1) < 30)) = true := by rfl)
    (hln : (apos.endLine == cpos.line) = true := by rfl) (hse : starEach [e] X.env = (false, eval e X.env) :: starEach [] X.env := by rfl) (hsw : swapsWith (.Call (.Attribute (.Name x p) "update" apos) [e] [] cpos) none pos.line X.env = pure false := by rfl) :
    DSt X T W U (.Expr (.Call (.Attribute (.Name x p) "update" apos) [e] [] cpos) pos) ds E :=
  (ps_expr (pe_bm PySem.F.plainAttrs_dict PySem.F.slot_dict_update PySem.F.type_dict_update mt_update (pe_var hN hv hd hcd) (pa_cons he pa_nil hse) hb ha hln hse) hsw).weak fun D σ H ⟨I0, H0, I, en, k1, _⟩ => by
    obtain ⟨q, fs, e1, e2, e3, e4, e5⟩ := en.ownD h
    refine ⟨_, e1, tyD_dict e2, I0, H0, I, en, fun v I1 H1 s1 r1 => ?_⟩
    have a1 := s1.keep q _ e2 (fun _ z => nomatch z) (.inl e4)
    have a2 := s1.fresh q _ e4 e2 (fun _ q => nomatch q) (fun _ q => nomatch q)
    cases r1 with
    | @dic p2 gs _ b1 b2 =>
      have hne : q ≠ p2 := fun z => by
        rw [z] at a2
        rw [a2] at b1
        cases b1
      obtain ⟨fs', z1, z2⟩ := merge_rep b2 (e3.mono s1.isub)
      refine ⟨q, p2, _, _, rfl, rfl, hne, a1, s1.sub.dic b1, ?_, ?_⟩
      · rw [kvK, kvK, List.length_map, List.length_map, e3.len, b2.len]
        exact Nat.le_trans hl (by decide)
      · rw [z1]
        exact k1 _ _ ⟨_, I1, (en.step s1).mutOwn (d' := .ownD (mergeD kvs more)) e1 (.inr ⟨_, h⟩) a2 e5 (by rw [a1]; exact ownNd) ⟨q, fs', rfl, upd_same, z2, a2, e5, rfl⟩, s1.pres.trans (Pres.own a2 a1 fun _ _ z => nomatch z), k⟩
/-! ### methods by values -/
def RMD (G : Glb) (r : V → List V → Hp → VK → Prop) (x : D) (xs : List D) (s : DS) : Prop := ∀ (I H : Hp) (v : V) (vs : List V) (Q : VK), RdS I H → Rep G I v x → Reps G I vs xs → (∀ z I' H', Step G I H I' H' → ValR G H I' H' z s → Q z H') → r v vs H Q
theorem dv_bmS {a : Expr} {es : List Expr} {name : Str} {apos cpos : Pos} {id : String} {r : V → List V → Hp → VK → Prop} {z : Str} {xs : List D} (slot : Slot "str" name id) (hty : typeOf (.builtin id) = pure (.type "method_descriptor")) (hm : MtR X id r) (hr : RMD (gx X T) r (.str z) xs s) (ho : DE X T U a ds (.str z)) (ha : DA X T U (e :: es) ds xs)
    (hb : attributeBase a name X.env (eval a X.env) = eval a X.env) (hf : ((backTo cpos (starEach (e :: es) X.env)).all (fun x => !x.1) && (backToKw cpos (keywordEach [] X.env)).all (fun x => x.1.isSome) && decide ((e :: es).length + ([] : List Keyword).length + (if ([] : List Keyword).isEmpty then 0 else 1) < 30)) = true)
    (hl : (apos.endLine == cpos.line) = true) (hs : starEach (e :: es) X.env = (false, eval e X.env) :: starEach es X.env) (hp : (backTo cpos (starEach es X.env)).any (·.1) = false) : DV X T U (.Call (.Attribute a name apos) (e :: es) [] cpos) ds s :=
  (pe_bm PySem.F.plainAttrs_str slot hty hm ho ha hb hf hl hs hp).weak fun σ H Q ⟨I0, H0, I, en, k⟩ => ⟨I0, H0, I, en, fun v I1 H1 s1 r1 => by
    cases r1
    exact ⟨rfl, I0, H0, I1, en.step s1, fun vs I2 H2 s2 r2 => hr I2 H2 _ vs Q s2.sub (.str z) r2 fun z I3 H3 s3 r3 => k z I3 H3 ((s1.trans s2).trans s3) (r3.back (s1.trans s2))⟩⟩
section
variable {a : Expr} {apos cpos : Pos} {x y : Str}
/-- a.rstrip(e) -/
theorem de_rstripC (ho : DE X T U a ds (.str x)) (he : DE X T U e ds (.str y)) (hl : x.length ≤ sizeLine) (hb : attributeBase a "rstrip" X.env (eval a X.env) = eval a X.env := by rfl) (hf : ((backTo cpos (starEach [e] X.env)).all (fun x => !x.1) && (backToKw cpos (keywordEach [] X.env)).all (fun x => x.1.isSome) && decide ([e].length + ([] : List Keyword).length + (if ([] : List Keyword).isEmpty then 0 else 1) < 30)) = true := by rfl)
    (hln : (apos.endLine == cpos.line) = true := by rfl) (hs : starEach [e] X.env = (false, eval e X.env) :: starEach [] X.env := by rfl) : DE X T U (.Call (.Attribute a "rstrip" apos) [e] [] cpos) ds (.str (Txt.rstripChars x y)) :=
  dv_bmS PySem.F.slot_str_rstrip PySem.F.type_str_rstrip mt_rstripChars (fun I H v vs Q r h1 h2 k => by
    cases h1
    cases h2 with
    | cons b1 b2 =>
      cases b2
      cases b1
      exact ⟨x, y, rfl, rfl, hl, k _ I H (Step.refl r) (.str _)⟩) ho (da_cons he da_nil hs) hb hf hln hs rfl
/-- a.strip(e) -/
theorem de_stripC (ho : DE X T U a ds (.str x)) (he : DE X T U e ds (.str y)) (hl : x.length ≤ sizeLine) (hb : attributeBase a "strip" X.env (eval a X.env) = eval a X.env := by rfl) (hf : ((backTo cpos (starEach [e] X.env)).all (fun x => !x.1) && (backToKw cpos (keywordEach [] X.env)).all (fun x => x.1.isSome) && decide ([e].length + ([] : List Keyword).length + (if ([] : List Keyword).isEmpty then 0 else 1) < 30)) = true := by rfl)
    (hln : (apos.endLine == cpos.line) = true := by rfl) (hs : starEach [e] X.env = (false, eval e X.env) :: starEach [] X.env := by rfl) : DE X T U (.Call (.Attribute a "strip" apos) [e] [] cpos) ds (.str (Txt.stripChars x y)) :=
  dv_bmS PySem.F.slot_str_strip PySem.F.type_str_strip mt_stripChars (fun I H v vs Q r h1 h2 k => by
    cases h1
    cases h2 with
    | cons b1 b2 =>
      cases b2
      cases b1
      exact ⟨x, y, rfl, rfl, hl, k _ I H (Step.refl r) (.str _)⟩) ho (da_cons he da_nil hs) hb hf hln hs rfl
/-- a.index(e), there -/
theorem de_index {i : Nat} {rest : List Nat} (ho : DE X T U a ds (.str x)) (he : DE X T U e ds (.str y)) (hi : Builtin.Str.occurrences x y 0 x.length 1 = i :: rest) (hb : attributeBase a "index" X.env (eval a X.env) = eval a X.env := by rfl) (hf : ((backTo cpos (starEach [e] X.env)).all (fun x => !x.1) && (backToKw cpos (keywordEach [] X.env)).all (fun x => x.1.isSome) && decide ([e].length + ([] : List Keyword).length + (if ([] : List Keyword).isEmpty then 0 else 1) < 30)) = true := by rfl)
    (hln : (apos.endLine == cpos.line) = true := by rfl) (hs : starEach [e] X.env = (false, eval e X.env) :: starEach [] X.env := by rfl) : DE X T U (.Call (.Attribute a "index" apos) [e] [] cpos) ds (.int (i : Nat)) :=
  dv_bmS PySem.F.slot_str_index PySem.F.type_str_index mt_sindex (fun I H v vs Q r h1 h2 k => by
    cases h1
    cases h2 with
    | cons b1 b2 =>
      cases b2
      cases b1
      exact ⟨x, y, i, rest, rfl, rfl, hi, k _ I H (Step.refl r) (.int _)⟩) ho (da_cons he da_nil hs) hb hf hln hs rfl
/-- a.join(e), e a told list of texts -/
theorem de_join {ys : List Str} (ho : DE X T U a ds (.str x)) (he : DE X T U e ds (.lst (ys.map .str))) (hl : (ys.map (·.length)).sum + ys.length * x.length ≤ 16777216) (hb : attributeBase a "join" X.env (eval a X.env) = eval a X.env := by rfl) (hf : ((backTo cpos (starEach [e] X.env)).all (fun x => !x.1) && (backToKw cpos (keywordEach [] X.env)).all (fun x => x.1.isSome) && decide ([e].length + ([] : List Keyword).length + (if ([] : List Keyword).isEmpty then 0 else 1) < 30)) = true := by rfl)
    (hln : (apos.endLine == cpos.line) = true := by rfl) (hs : starEach [e] X.env = (false, eval e X.env) :: starEach [] X.env := by rfl) : DE X T U (.Call (.Attribute a "join" apos) [e] [] cpos) ds (.str (Txt.join x ys)) :=
  dv_bmS PySem.F.slot_str_join PySem.F.type_str_join mt_join (fun I H v vs Q r h1 h2 k => by
    cases h1
    cases h2 with
    | cons b1 b2 =>
      cases b2
      cases b1 with
      | lst c1 c2 =>
        obtain rfl := c2.strs
        exact ⟨x, _, ys, rfl, rfl, .inl (SqL.of (r.lst c1)), hl, k _ I H (Step.refl r) (.str _)⟩) ho (da_cons he da_nil hs) hb hf hln hs rfl
end
/-! ### slices backwards, lists many times -/
theorem dv_revL {k : Nat} {p1 p2 p3 : Pos} {xs : List D} (he : DE X T U e ds (.lst xs)) : DV X T U (.Subscript e (.Slice none none (some (.UnaryOp .USub (.Constant (.int 1) k p1) p2)) p3) pos) ds (.own xs.reverse) :=
  (pe_revL he).weak fun σ H Q ⟨I0, H0, I, en, kk⟩ => ⟨I0, H0, I, en, fun v I1 H1 s1 r1 => by
    cases r1 with
    | @lst p vs _ a b =>
      refine ⟨p, vs, rfl, SqL.of (s1.sub.lst a), fun q hq => kk _ I1 _ (s1.trans (Step.newOwn s1.sub hq)) ⟨q, _, rfl, s1.free hq, s1.sub.free hq, upd_same, ?_⟩⟩
      have gen : ∀ {vs : List V} {ds : List D}, Reps (gx X T) I1 vs ds → Reps (gx X T) I1 vs.reverse ds.reverse := fun {vs ds} h => by
        induction vs generalizing ds with
        | nil => cases h; exact .nil
        | cons v vs ih =>
          cases h with
          | cons h1 h2 =>
            rw [List.reverse_cons, List.reverse_cons]
            exact (ih h2).app (.cons h1 .nil)
      exact gen b⟩
theorem r2_rep {G : Glb} {xs : List D} {n : Int} (h1 : -(2 ^ 63) ≤ n) (h2 : n < 2 ^ 63) (hl : xs.length * n.toNat ≤ 100000) : R2D G rRep (.lst xs) (.int n) (.own (List.replicate n.toNat xs).flatten) := fun I H v w Q r ha hb k => by
  cases hb
  cases ha with
  | lst a b =>
    refine ⟨_, n, _, rfl, rfl, r.lst a, h1, h2, by rw [b.len]; exact Nat.le_trans hl (by decide), fun p hp => k _ I _ (Step.newOwn r hp) ⟨p, _, rfl, hp, r.free hp, upd_same, ?_⟩⟩
    generalize n.toNat = m
    induction m with
    | zero => exact .nil
    | succ m ih =>
      rw [List.replicate_succ, List.replicate_succ, List.flatten_cons, List.flatten_cons]
      exact b.app ih
theorem dv_rep {a b : Expr} {xs : List D} {n : Int} (ha : DE X T U a ds (.lst xs)) (hb : DE X T U b ds (.int n)) (h1 : -(2 ^ 63) ≤ n) (h2 : n < 2 ^ 63) (hl : xs.length * n.toNat ≤ 100000) : DV X T U (.BinOp a .Mult b pos) ds (.own (List.replicate n.toNat xs).flatten) := dv_op op_rep (r2_rep h1 h2 hl) ha hb
/-! ### zip -/
def zipD (xs ys : List D) : List D := (List.zip xs ys).map fun p => .tup [p.1, p.2]
theorem goes_zip {G : Glb} {p q : Addr} {vs ws : List V} {xs ys : List D} {I H : Hp} (hp : I p = some (.lst vs)) (hq : I q = some (.lst ws)) (r : Reps G I vs xs) (r2 : Reps G I ws ys) : Goes G (Itz G.K p q) I H (zipD xs ys) := fun I1 H1 ps rd i => by
  have h1 : SqL G.K H1 p vs := SqL.of (rd.lst (ps.same _ _ hp))
  have h2 : SqL G.K H1 q ws := SqL.of (rd.lst (ps.same _ _ hq))
  unfold zipD
  refine ⟨fun hi => ?_, fun d hd => ?_⟩
  · rw [List.length_map, List.length_zip] at hi
    refine ⟨vs, ws, h1, h2, ?_⟩
    rw [r.len, r2.len]
    omega
  · rw [List.getElem?_map] at hd
    cases e : (List.zip xs ys)[i]? with
    | none => rw [e] at hd; cases hd
    | some z =>
      rw [e] at hd
      obtain rfl := (Option.some.inj hd).symm
      obtain ⟨z1, z2⟩ := z
      obtain ⟨e1, e2⟩ := List.getElem?_zip_eq_some.mp e
      obtain ⟨v, hv, rv⟩ := r.get' e1
      obtain ⟨w, hw, rw_⟩ := r2.get' e2
      refine ⟨⟨vs, ws, v, w, h1, h2, hv, hw⟩, fun x H2 ⟨t, y1, y2, f1, f2, f3, f4, f5⟩ => ?_⟩
      have g1 := f4 vs h1
      have g2 := f5 ws h2
      rw [hv] at g1
      rw [hw] at g2
      cases g1
      cases g2
      subst f1 f3
      refine ⟨_, Step.new rd f2, Rep.tup upd_same (.cons ?_ (.cons ?_ .nil))⟩
      · exact (rv.mono ps.same).mono (Step.new (G := G) rd f2).isub
      · exact (rw_.mono ps.same).mono (Step.new (G := G) rd f2).isub
theorem di_zip {a b : Expr} {p tpos : Pos} {elts : List Expr} {kk : Nat} {xs ys : List D} (ha : DE X T U a ds (.lst xs)) (hb : DE X T U b ds (.lst ys)) (hg : Gl X "zip") (hm : X.mg "zip" = none) (he : starEach [a, b] X.env = (false, eval a X.env) :: starEach [b] X.env := by rfl) (he2 : starEach [b] X.env = (false, eval b X.env) :: starEach [] X.env := by rfl) (hpl : (backTo pos (starEach [b] X.env)).any (·.1) = false := by rfl) :
    DI X T U (.Tuple elts kk tpos) (.Call (.Name "zip" p) [a, b] [] pos) ds (zipD xs ys) := by
  have q := pi_zip (elts := elts) (kk := kk) (tpos := tpos) (p := p) (pos := pos) hg hm (da_cons ha (da_cons hb da_nil he2) he) he hpl
  refine ⟨fun pins s σ H R I ⟨I0, H0, I1, en, k⟩ => q.run pins s σ H R I ⟨I0, H0, I1, en, fun vs I2 H2 s2 r2 => ?_⟩⟩
  cases r2 with
  | cons a b =>
    cases b with
    | cons b c =>
      cases c
      cases a with
      | lst a1 a2 =>
        cases b with
        | lst b1 b2 => exact ⟨_, _, _, _, rfl, SqL.of (s2.sub.lst a1), SqL.of (s2.sub.lst b1), k _ I2 H2 s2 (goes_zip a1 b1 a2 b2)⟩
end
/-! ### a lambda's closure, handed over -/
theorem rep_fnE {G : Glb} {F : Addr → NdefX.NF} {oe : Option Expr} {f : Addr} {k : Nat} {fr : List Str} {A : List D → List D → DS → Prop} {dom g : Str → Bool} {cl : List (Str × Addr)} (hF : ∀ c, (F c).cl = cl) (N : ∀ c, CloOk G k (F c) oe fr A) {I : Hp} {L : Cels} {ws : List (Option V)} {cd : List D} (hI : Rep G I (.ref f) (.cloE F oe)) (hc : CapR G I ws cd) (hwl : ws.length = cd.length)
    (hd : Holds cl fr ws L) (hw : WasCel L) (hn : ∀ a o, L.lookup a = some o → I a = none) (hA : ∀ x, dom x = true → A cd [.str x] (.im (.bl (g x)))) : Rep G (lay L I) (.ref f) (.fn k dom g) := by
  cases hI with
  | @cloE _ c _ _ h1 h2 => exact rep_fn (N c) (.clo h1 h2) hc hwl (by rw [hF c]; exact hd) hw hn hA
theorem rep_cloE {G : Glb} {F : Addr → NdefX.NF} {oe : Option Expr} {f c : Addr} {I : Hp} (h : Rep G I (.ref f) (.clo (F c) oe)) : Rep G I (.ref f) (.cloE F oe) := by
  cases h with
  | clo a b => exact .cloE a b
/-! ### None or a pair of texts -/
instance : PySem.W.Datum (Option (Str × Str)) where
  toD
    | none => .none
    | some p => PySem.W.Datum.toD p
  plain a := by
    cases a with
    | none => rfl
    | some p => exact PySem.W.Datum.plain p
  eqv a b := by
    cases a with
    | none => cases b with
      | none => rfl
      | some y => rfl
    | some x => cases b with
      | none => rfl
      | some y =>
        rw [show decide (some x = some y) = decide (x = y) from decide_eq_decide.mpr ⟨fun e => Option.some.inj e, fun e => by rw [e]⟩]
        exact PySem.W.Datum.eqv (α := Str × Str) x y
  depth := 1
  depth_le a := by
    cases a with
    | none => exact Nat.zero_le _
    | some p => exact PySem.W.Datum.depth_le p
instance : En (Option (Str × Str)) where
  enc
    | none => .non
    | some p => En.enc p
  dp {_ _ _ _ x} r h := by
    cases x with
    | none => cases h; exact .non
    | some y => exact En.dp (α := Str × Str) r h
end Lp

/-! More of statements and comparisons. -/
namespace Lp
open PySem PySem.Spec PyProof.Rows L2
section
variable {X : Cx} {T : List NdefX.NTab} {W : WX} {U : Bool} {ds : List DS} {s : DS} {E : DEn} {e a b : Expr} {pos : Pos}
/-- a target that takes a told value apart -/
theorem ds_asgT {tg : Expr} {d : D} {ds' : List DS} {js : List Nat} (he : DE X T U e ds d) (hg : DG X T U tg ds d ds' js) (k : E.nx ds') (hs : swapsWithSole [tg] e pos.line X.env = pure false := by rfl) (hw : swappedStores [tg] e X.env = pure none := by rfl) (h1 : (assignEach [tg] X.env).map (·.2) = [assign tg X.env] := by rfl) : DSt X T W U (.Assign [tg] e pos) ds E :=
  (ps_asg he hg hs hw h1).weak fun D σ H ⟨I0, H0, I, en, k1, _⟩ => ⟨I0, H0, I, en, fun v I1 H1 s1 r1 => ⟨I0, H0, I1, en.step s1, r1, fun σ' en' _ => k1 _ H1 ⟨ds', I1, en', s1.pres, k⟩⟩⟩
theorem de_neX {α : Type} [DecidableEq α] [En α] {x y : α} (ha : DE X T U a ds (en x)) (hb : DE X T U b ds (en y)) (hu : X.A.units + 64 < cLine) (hd : PySem.W.Datum.depth α ≤ 64 := by decide) : DE X T U (.Compare a [.NotEq] [b] pos) ds (.bl (!decide (x = y))) := dv_cmp (op_neP hu) (r2_neX hd) ha hb
end
theorem isN_p (o : Option (Str × Str)) : ∀ (G : Glb) (I : Hp) (v : V), Rep G I v (en o) → decide (v = .non) = o.isNone := fun G I v h => by
  cases o with
  | none => cases h; rfl
  | some p => cases h; rfl
theorem cutG_take {xs : List D} {k : Nat} : cutG xs none (some (k : Int)) = xs.take k := by
  unfold cutG
  rw [HT.sIx_none, HT.sIx_nat, List.drop_zero, Nat.sub_zero]
  by_cases h : k ≤ xs.length
  · rw [Nat.min_eq_left h]
  · rw [Nat.min_eq_right (by omega), List.take_of_length_le (Nat.le_refl _), List.take_of_length_le (by omega)]
theorem cutG_drop {xs : List D} {k : Nat} : cutG xs (some (k : Int)) none = xs.drop k := by
  unfold cutG
  rw [HT.sIx_none, HT.sIx_nat]
  by_cases h : k ≤ xs.length
  · rw [Nat.min_eq_left h]
    exact List.take_of_length_le (by rw [List.length_drop]; exact Nat.le_refl _)
  · rw [Nat.min_eq_right (by omega), List.drop_of_length_le (Nat.le_refl _), List.drop_of_length_le (by omega), List.take_nil]
end Lp

/-! Trees handed from slot to slot; loops over lists of trees of one's own; the values of a dict; parts of texts. -/
namespace Lp
open PySem PySem.Spec PyProof.Rows L2
def OT.ptr : OT → Bool
  | .im _ => false
  | .hole _ => false
  | _ => true
def DS.ptree : DS → Option OT
  | .own xs => some (.lst (xs.map .im))
  | .ownD kvs => some (.dic (kvs.map fun kv => (kv.1, .im kv.2)))
  | .ot _ t => if t.ptr then some t else none
  | _ => none
section
variable {G : Glb} {U : Bool} {I0 H0 I H : Hp} {σ : L2.St} {ds : List DS}
theorem OR.ref {v : V} {t : OT} {A : List Addr} (h : OR G I H v t A) (hp : t.ptr = true) : ∃ p, v = .ref p := by
  cases h with
  | im _ => cases hp
  | lst _ _ _ _ => exact ⟨_, rfl⟩
  | tup _ _ _ _ => exact ⟨_, rfl⟩
  | hole _ => cases hp
  | dic _ _ _ _ => exact ⟨_, rfl⟩
  | ins _ _ _ _ => exact ⟨_, rfl⟩
theorem SlotR.pin {ov : Option V} {S : Addr → Prop} {t : OT} : ∀ {s : DS}, SlotR G H0 I H ov S s → s.ptree = some t → ∃ p, SlotR G H0 I H ov S (.ot (some p) t)
  | .no, _, e => nomatch e
  | .im _, _, e => nomatch e
  | .own _, ⟨p, vs, e, h, r, i, z1, z2⟩, e2 => by
    cases e2
    exact ⟨p, .ref p, [p], e, .lst h i (by simp) (ors_im r), fun a ha => by rw [List.mem_singleton.mp ha]; exact ⟨z1, z2⟩, fun q e => by cases e; rfl⟩
  | .ownD _, ⟨p, vs, e, h, r, i, z1, z2⟩, e2 => by
    cases e2
    exact ⟨p, .ref p, [p], e, .dic h i (by simp) (orf_im r), fun a ha => by rw [List.mem_singleton.mp ha]; exact ⟨z1, z2⟩, fun q e => by cases e; rfl⟩
  | .ot q t', ⟨v, A, e, r, z1, z2⟩, e2 => by
    change (if t'.ptr = true then some t' else none) = some t at e2
    cases hp : t'.ptr with
    | false => rw [hp] at e2; cases e2
    | true =>
      rw [hp] at e2
      cases e2
      obtain ⟨p, rfl⟩ := r.ref hp
      exact ⟨p, _, A, e, r, z1, fun q e => by cases e; rfl⟩
/-- one slot told anew; its addresses stay -/
theorem EnvR.retell (en : EnvR G U I0 H0 I H σ ds) (i : Nat) {s : DS} (h : ∀ o S, σ[i]? = some o → (∃ s0, ds[i]? = some s0 ∧ SlotR G H0 I H o S s0) → SlotR G H0 I H o S s) : EnvR G U I0 H0 I H σ (ds.set i s) := by
  obtain ⟨F, ft⟩ := en.fp
  refine ⟨en.st, en.tb, by rw [List.length_set]; exact en.len, F, fun j o d h1 h2 => ?_, ft.dj, ft.th⟩
  by_cases hj : j = i
  · subst hj
    have hl : j < ds.length := by
      have := (List.getElem?_eq_some_iff.mp h2).1
      rwa [List.length_set] at this
    rw [List.getElem?_set_self hl] at h2
    cases h2
    exact h o (F j) h1 ⟨_, List.getElem?_eq_getElem hl, ft.sl j o _ h1 (List.getElem?_eq_getElem hl)⟩
  · rw [List.getElem?_set_ne (Ne.symm hj)] at h2
    exact ft.sl j o d h1 h2
theorem EnvR.pin (en : EnvR G U I0 H0 I H σ ds) {i : Nat} {s : DS} {t : OT} (h : ds[i]? = some s) (ht : s.ptree = some t) : ∃ p, EnvR G U I0 H0 I H σ (ds.set i (.ot (some p) t)) := by
  obtain ⟨F, ft⟩ := en.fp
  have hi : i < σ.length := by rw [en.len]; exact (List.getElem?_eq_some_iff.mp h).1
  obtain ⟨p, hp⟩ := (ft.sl i _ _ (List.getElem?_eq_getElem hi) h).pin ht
  refine ⟨p, en.st, en.tb, by rw [List.length_set]; exact en.len, F, fun j o d h1 h2 => ?_, ft.dj, ft.th⟩
  by_cases hj : j = i
  · subst hj
    rw [List.getElem?_set_self (by rw [← en.len]; exact hi)] at h2
    rw [List.getElem?_eq_getElem hi] at h1
    cases h1
    cases h2
    exact hp
  · rw [List.getElem?_set_ne (Ne.symm hj)] at h2
    exact ft.sl j o d h1 h2
/-- what slot i holds goes to the hole that names it, in slot k -/
theorem EnvR.fill (en : EnvR G U I0 H0 I H σ ds) {i k : Nat} {q : Option Addr} {T t : OT} {π : Pth} {p : Addr} (hik : i ≠ k) (h : ds[i]? = some (.ot (some p) t)) (hk : ds[k]? = some (.ot q T)) (hg : T.get π = some (.hole p)) : EnvR G U I0 H0 I H σ ((ds.set i (.ot (some p) (.hole p))).set k (.ot q (T.put π t))) := by
  obtain ⟨F, ft⟩ := en.fp
  have li : i < σ.length := by rw [en.len]; exact (List.getElem?_eq_some_iff.mp h).1
  have lk : k < σ.length := by rw [en.len]; exact (List.getElem?_eq_some_iff.mp hk).1
  obtain ⟨v, A, e1, r, hA, hq⟩ := ft.sl i _ _ (List.getElem?_eq_getElem li) h
  obtain ⟨w, B, f1, g, hB, gq⟩ := ft.sl k _ _ (List.getElem?_eq_getElem lk) hk
  obtain rfl := hq p rfl
  obtain ⟨u, C, c1, c2, c3, c4⟩ := or_lens g hg
  cases c2
  obtain ⟨A', d1, d2⟩ := c4 I H t A (Same.refl _) (fun a ha _ => ⟨(g.there a ha).1, rfl⟩) r (fun a ha hb => (hik (ft.dj i k a (hA a ha).2 (hB a hb).2)).elim)
  refine ⟨en.st, en.tb, by rw [List.length_set, List.length_set]; exact en.len, fun j a => if j = k then F k a ∨ F i a else if j = i then False else F j a, fun j o d h1 h2 => ?_, fun a b x h1 h2 => ?_, fun j a ha => ?_⟩
  · by_cases jk : j = k
    · subst jk
      rw [List.getElem?_set_self (by rw [List.length_set, ← en.len]; exact lk)] at h2
      rw [List.getElem?_eq_getElem lk] at h1
      cases h1
      cases h2
      refine ⟨w, A', f1, d1, fun a ha => ?_, gq⟩
      show H0 a = none ∧ (if j = j then F j a ∨ F i a else if j = i then False else F j a)
      rw [if_pos rfl]
      rcases d2 a ha with z | z
      · exact ⟨(hA a z).1, .inr (hA a z).2⟩
      · exact ⟨(hB a z.1).1, .inl (hB a z.1).2⟩
    · rw [List.getElem?_set_ne (Ne.symm jk)] at h2
      by_cases ji : j = i
      · subst ji
        rw [List.getElem?_set_self (by rw [← en.len]; exact li)] at h2
        rw [List.getElem?_eq_getElem li] at h1
        cases h1
        cases h2
        exact ⟨_, [], e1, .hole p, fun a ha => absurd ha (by simp), fun q z => by cases z; rfl⟩
      · rw [List.getElem?_set_ne (Ne.symm ji)] at h2
        exact (ft.sl j o d h1 h2).more fun a ha => by rw [if_neg jk, if_neg ji]; exact ha
  · have w : ∀ j, (if j = k then F k x ∨ F i x else if j = i then False else F j x) → (j = k ∧ (F k x ∨ F i x)) ∨ (j ≠ k ∧ j ≠ i ∧ F j x) := fun j z => by
      by_cases jk : j = k
      · rw [if_pos jk] at z
        exact .inl ⟨jk, z⟩
      · rw [if_neg jk] at z
        by_cases ji : j = i
        · rw [if_pos ji] at z
          exact z.elim
        · rw [if_neg ji] at z
          exact .inr ⟨jk, ji, z⟩
    rcases w a h1 with ⟨z1, y1⟩ | ⟨z1, z2, y1⟩
    · rcases w b h2 with ⟨z3, y2⟩ | ⟨z3, z4, y2⟩
      · rw [z1, z3]
      · rcases y1 with y1 | y1
        · exact (z3 (ft.dj k b x y1 y2).symm).elim
        · exact (z4 (ft.dj i b x y1 y2).symm).elim
    · rcases w b h2 with ⟨z3, y2⟩ | ⟨z3, z4, y2⟩
      · rcases y2 with y2 | y2
        · exact (z1 (ft.dj a k x y1 y2)).elim
        · exact (z2 (ft.dj a i x y1 y2)).elim
      · exact ft.dj a b x y1 y2
  · by_cases jk : j = k
    · rw [if_pos jk] at ha
      exact ha.elim (ft.th k a) (ft.th i a)
    · rw [if_neg jk] at ha
      by_cases ji : j = i
      · rw [if_pos ji] at ha
        exact ha.elim
      · rw [if_neg ji] at ha
        exact ft.th j a ha
end
section
variable {X : Cx} {T : List NdefX.NTab} {W : WX} {U : Bool} {ds : List DS} {s : DS} {E : DEn} {e : Expr} {pos : Pos}
theorem dss_pin (i : Nat) {sts : List Stmt} {t : OT} (h : ds[i]? = some s) (ht : s.ptree = some t) (hs : ∀ p, DSs X T W U sts (ds.set i (.ot (some p) t)) E) : DSs X T W U sts ds E :=
  ⟨fun pins s σ H D I ⟨I0, H0, I1, en, k1, k2, k3, k4, k5⟩ => by
    obtain ⟨p, e'⟩ := en.pin h ht
    exact (hs p).run pins s σ H D I (sV_from (ds := ds) (σ := σ) (Pres.refl _ _) e' k1 k2 k3 k4 k5)⟩
theorem dss_fill (i k : Nat) {sts : List Stmt} {q : Option Addr} {T' t : OT} (π : Pth) {p : Addr} (hik : i ≠ k) (h : ds[i]? = some (.ot (some p) t)) (hk : ds[k]? = some (.ot q T')) (hg : T'.get π = some (.hole p)) (hs : DSs X T W U sts ((ds.set i (.ot (some p) (.hole p))).set k (.ot q (T'.put π t))) E) : DSs X T W U sts ds E :=
  PSs.weak hs fun D σ H ⟨I0, H0, I, en, k1, k2, k3, k4, k5⟩ => sV_from (ds := ds) (σ := σ) (Pres.refl _ _) (en.fill hik h hk hg) k1 k2 k3 k4 k5
/-- a name whose tree is handed over later -/
theorem dv_hole (i : Nat) {x : Str} {p : Addr} {t : OT} (h : ds[i]? = some (.ot (some p) t)) (hN : X.N[i]? = some x := by rfl) (hv : Vis X.env.scope x := by first | exact Or.inl rfl | exact Or.inr (Or.inl rfl) | exact Or.inr (Or.inr rfl))
    (hd : (x == ("__debug__" : Str)) = false := by decide) (hcd : (x == ("__classdict__" : Str)) = false := by decide) : DV X T U (.Name x pos) ds (.ot none (.hole p)) :=
  (pe_var hN hv hd hcd).weak fun σ H Q ⟨I0, H0, I, en, k⟩ => by
    obtain ⟨v, A, e1, r, _, hq⟩ := en.ot h
    obtain rfl := hq p rfl
    exact ⟨_, e1, k _ I H (Step.refl en.sub) ⟨[], .hole p, fun a ha => absurd ha (by simp), fun _ z => nomatch z⟩⟩
/-! ### for x in y, y a list of trees of one's own -/
def FillP (i j n : Nat) (p : Addr) (P : List DS → Prop) : List DS → Prop := fun ds2 => ∃ (q : Option Addr) (T t : OT), ds2[i]? = some (.ot q T) ∧ ds2[j]? = some (.ot (some p) t) ∧ T.get [n] = some (.hole p) ∧ P ((ds2.set j (.ot (some p) (.hole p))).set i (.ot q (T.put [n] t)))
theorem ors_ptr {G : Glb} {I H : Hp} {vs : List V} {ts : List OT} {A : List Addr} (r : ORs G I H vs ts A) {n : Nat} {t : OT} (h : ts[n]? = some t) (hp : t.ptr = true) : ∃ p, vs[n]? = some (.ref p) := by
  obtain ⟨w, B, h1, h2, _⟩ := ors_lens r h
  obtain ⟨p, rfl⟩ := h2.ref hp
  exact ⟨p, h1⟩
/-- item n of the list at slot i is taken to slot j -/
theorem EnvR.take {G : Glb} {I0 H0 I H : Hp} {σ : L2.St} (en : EnvR G U I0 H0 I H σ ds) {i j n : Nat} {q : Option Addr} {ts : List OT} {t : OT} {p0 p : Addr} {vs : List V} (hij : j ≠ i) (hj : j < ds.length) (h : ds[i]? = some (.ot q (.lst ts))) (hn : ts[n]? = some t) (e0 : σ[i]? = some (some (.ref p0))) (h0 : H p0 = some (.lst vs)) (hv : vs[n]? = some (.ref p)) :
    EnvR G U I0 H0 I H (σ.set j (some (.ref p))) ((ds.set i (.ot q (.lst (ts.set n (.hole p))))).set j (.ot (some p) t)) := by
  obtain ⟨F, ft⟩ := en.fp
  have li : i < σ.length := by rw [en.len]; exact (List.getElem?_eq_some_iff.mp h).1
  obtain ⟨v, A, e1, r, hA, hq⟩ := ft.sl i _ _ (List.getElem?_eq_getElem li) h
  have e2 : v = .ref p0 := by
    rw [List.getElem?_eq_getElem li, e1] at e0
    exact Option.some.inj (Option.some.inj e0)
  subst e2
  cases r with
  | @lst _ vs2 _ A a1 a2 a3 a4 =>
  rw [h0] at a1
  cases a1
  obtain ⟨w, B, c1, c2, c3, c4⟩ := ors_lens a4 hn
  rw [hv] at c1
  cases c1
  obtain ⟨A', d1, d2⟩ := c4 I H (.hole p) [] (Same.refl _) (fun a ha _ => ⟨(a4.there a ha).1, rfl⟩) (.hole p) (fun a ha => absurd ha (by simp))
  have hA' : ∀ a ∈ A', a ∈ A ∧ a ∉ B := fun a ha => (d2 a ha).elim (fun z => absurd z (by simp)) id
  have pB : p0 ∉ B := fun z => a3 (c3 p0 z)
  have e3 : OR G I H (.ref p0) (.lst (ts.set n (.hole p))) (p0 :: A') := .lst h0 a2 (fun z => a3 (hA' p0 z).1) d1
  refine ⟨en.st, en.tb, by rw [List.length_set, List.length_set, List.length_set]; exact en.len, fun k a => if k = j then a ∈ B else if k = i then F i a ∧ a ∉ B else F k a, fun k o d h1 h2 => ?_, fun a b x h1 h2 => ?_, fun k a ha => ?_⟩
  · by_cases kj : k = j
    · subst kj
      rw [List.getElem?_set_self (by rw [List.length_set]; exact hj)] at h2
      rw [List.getElem?_set_self (by rw [en.len]; exact hj)] at h1
      cases h1
      cases h2
      exact ⟨_, B, rfl, c2, fun a ha => ⟨(hA a (List.mem_cons_of_mem _ (c3 a ha))).1, by show (if k = k then a ∈ B else if k = i then F i a ∧ a ∉ B else F k a); rw [if_pos rfl]; exact ha⟩, fun q z => by cases z; rfl⟩
    · rw [List.getElem?_set_ne (Ne.symm kj)] at h1 h2
      by_cases ki : k = i
      · subst ki
        rw [List.getElem?_set_self (by rw [← en.len]; exact li)] at h2
        rw [List.getElem?_eq_getElem li] at h1
        cases h1
        cases h2
        refine ⟨_, _, e1, e3, fun a ha => ?_, hq⟩
        show H0 a = none ∧ (if k = j then a ∈ B else if k = k then F k a ∧ a ∉ B else F k a)
        rw [if_neg kj, if_pos rfl]
        rcases List.mem_cons.mp ha with rfl | z
        · exact ⟨(hA _ List.mem_cons_self).1, (hA _ List.mem_cons_self).2, pB⟩
        · exact ⟨(hA a (List.mem_cons_of_mem _ (hA' a z).1)).1, (hA a (List.mem_cons_of_mem _ (hA' a z).1)).2, (hA' a z).2⟩
      · rw [List.getElem?_set_ne (Ne.symm ki)] at h2
        exact (ft.sl k o d h1 h2).more fun a ha => by rw [if_neg kj, if_neg ki]; exact ha
  · have w : ∀ k, (if k = j then x ∈ B else if k = i then F i x ∧ x ∉ B else F k x) → (k = j ∧ x ∈ B ∧ F i x) ∨ (k ≠ j ∧ F k x ∧ (k = i → x ∉ B)) := fun k z => by
      by_cases kj : k = j
      · rw [if_pos kj] at z
        exact .inl ⟨kj, z, (hA x (List.mem_cons_of_mem _ (c3 x z))).2⟩
      · rw [if_neg kj] at z
        by_cases ki : k = i
        · rw [if_pos ki] at z
          exact .inr ⟨kj, by rw [ki]; exact z.1, fun _ => z.2⟩
        · rw [if_neg ki] at z
          exact .inr ⟨kj, z, fun y => (ki y).elim⟩
    rcases w a h1 with ⟨z1, y1, u1⟩ | ⟨z1, y1, u1⟩
    · rcases w b h2 with ⟨z3, y2, u2⟩ | ⟨z3, y2, u2⟩
      · rw [z1, z3]
      · exact (u2 (ft.dj b i x y2 u1) y1).elim
    · rcases w b h2 with ⟨z3, y2, u2⟩ | ⟨z3, y2, u2⟩
      · exact (u1 (ft.dj a i x y1 u2) y2).elim
      · exact ft.dj a b x y1 y2
  · by_cases kj : k = j
    · rw [if_pos kj] at ha
      obtain ⟨_, u, z, _⟩ := c2.there a ha
      rw [z]
      exact fun q => nomatch q
    · rw [if_neg kj] at ha
      by_cases ki : k = i
      · rw [if_pos ki] at ha
        exact ft.th i a ha.1
      · rw [if_neg ki] at ha
        exact ft.th k a ha
theorem ds_forT (i j : Nat) {x y : Str} {tp ip : Pos} {body : List Stmt} {m : Nat} {p0 : Addr} (Pv : Nat → List DS → Prop) (hij : j ≠ i) (h0 : Pv 0 ds) (hl : ∀ n ds1, Pv n ds1 → ds1.length = ds.length ∧ j < ds1.length ∧ ∃ ts, ds1[i]? = some (.ot (some p0) (.lst ts)) ∧ ts.length = m ∧ ∀ t ∈ ts, t.ptr = true)
    (hb : ∀ n ds1 ts t p, Pv n ds1 → ds1[i]? = some (.ot (some p0) (.lst ts)) → ts[n]? = some t → DSs X T W U body ((ds1.set i (.ot (some p0) (.lst (ts.set n (.hole p))))).set j (.ot (some p) t)) { E with nx := FillP i j n p (Pv (n + 1)), ct := FillP i j n p (Pv (n + 1)), bk := E.nx }) (hd : ∀ ds1, Pv m ds1 → E.nx ds1)
    (hp : PassesOwn (model X.prog X.w) X.A X.env X.xe) (hN : X.N.Nodup) (hNj : X.N[j]? = some x := by rfl) (hx : Loc X.env.scope x := by first | exact Or.inl rfl | exact Or.inr rfl) (hf : X.fn x = true ∨ X.env.scope.names.lookup x = some .local := by first | exact .inl rfl | exact .inr rfl | assumption)
    (hNi : X.N[i]? = some y := by rfl) (hv : Vis X.env.scope y := by first | exact Or.inl rfl | exact Or.inr (Or.inl rfl) | exact Or.inr (Or.inr rfl)) (hdd : (y == ("__debug__" : Str)) = false := by decide) (hcd : (y == ("__classdict__" : Str)) = false := by decide)
    (hc : X.calm = true := by rfl) (hs : ∀ x, foldedSetIterable (.Name y ip) X.env x = pure x := by intro _; rfl) : DSt X T W U (.For (.Name x tp) (.Name y ip) body [] pos) ds E := by
  have hB : PSs X body (fun D σ H => ∃ n ds1 ts t p, Pv n ds1 ∧ ds1[i]? = some (.ot (some p0) (.lst ts)) ∧ ts[n]? = some t ∧ sV (gx X T) W U ((ds1.set i (.ot (some p0) (.lst (ts.set n (.hole p))))).set j (.ot (some p) t)) { E with nx := FillP i j n p (Pv (n + 1)), ct := FillP i j n p (Pv (n + 1)), bk := E.nx } D σ H) :=
    ⟨fun pins s σ H D I ⟨n, ds1, ts, t, p, a1, a2, a3, q⟩ => (hb n ds1 ts t p a1 a2 a3).run pins s σ H D I q⟩
  refine (ps_for hp hc (pi_list (pe_var hNi hv hdd hcd)) (pg_name (pos := tp) hN hNj hx hf) hB hs).weak fun D σ H ⟨I0, H0, I, en, k1, k2, k3, k4, k5⟩ => ?_
  obtain ⟨_, _, ts0, g1, g2, g3⟩ := hl 0 ds h0
  have root : ∀ {ds1 : List DS} {I' H' : Hp} {σ' : L2.St} {ts : List OT}, EnvR (gx X T) U I0 H0 I' H' σ' ds1 → ds1[i]? = some (.ot (some p0) (.lst ts)) → σ'[i]? = some (some (.ref p0)) ∧ ∃ vs A, H' p0 = some (.lst vs) ∧ ORs (gx X T) I' H' vs ts A := fun {ds1 I' H' σ' ts} en h => by
    obtain ⟨v, A, e1, r, _, hq⟩ := en.ot h
    obtain rfl := hq p0 rfl
    cases r with
    | lst a1 a2 a3 a4 => exact ⟨e1, _, _, a1, a4⟩
  obtain ⟨r1, vs0, A0, r2, r3⟩ := root en g1
  refine ⟨_, r1, p0, rfl, ⟨vs0, SqL.of r2⟩, fun n mm σ' H' => mm = m - n ∧ n ≤ m ∧ ∃ ds1 I', EnvR (gx X T) U I0 H0 I' H' σ' ds1 ∧ Pres I H I' H' ∧ Pv n ds1, ⟨_, rfl, Nat.zero_le _, ds, I, en, Pres.refl _ _, h0⟩, ?_⟩
  rintro n mm σ' H' ⟨rfl, hn, ds1, I', en', ps, hv⟩
  obtain ⟨l1, l2, ts, g1, g2, g3⟩ := hl n ds1 hv
  obtain ⟨r1, vs, A, r2, r3⟩ := root en' g1
  by_cases hlt : n < m
  · refine .inr ?_
    have hl2 : n < ts.length := by rw [g2]; exact hlt
    obtain ⟨p, hp2⟩ := ors_ptr r3 (List.getElem?_eq_getElem hl2) (g3 _ (List.getElem_mem hl2))
    refine ⟨⟨vs, .ref p, SqL.of r2, hp2⟩, fun σ2 H2 => ∃ ds2 I2, EnvR (gx X T) U I0 H0 I2 H2 σ2 ds2 ∧ Pres I H I2 H2 ∧ Pv (n + 1) ds2, fun σ2 H2 ⟨ds2, I2, e2, p2, v2⟩ => ⟨m - (n + 1), by omega, rfl, hlt, ds2, I2, e2, p2, v2⟩, fun z H2 ⟨y1, y2⟩ => ?_⟩
    have y3 := y2 vs (SqL.of r2)
    rw [hp2] at y3
    cases y3
    rw [y1]
    have e3 := en'.take hij l2 g1 (List.getElem?_eq_getElem hl2) r1 r2 hp2
    have fin : ∀ σ4 H4, NxR (gx X T) U I0 H0 I' H' (FillP i j n p (Pv (n + 1))) σ4 H4 → ∃ ds2 I2, EnvR (gx X T) U I0 H0 I2 H4 σ4 ds2 ∧ Pres I H I2 H4 ∧ Pv (n + 1) ds2 := by
      rintro σ4 H4 ⟨ds4, I4, e4, p4, q, T4, t4, w1, w2, w3, w4⟩
      exact ⟨_, I4, e4.fill hij w2 w1 w3, ps.trans p4, w4⟩
    refine ⟨n, ds1, ts, ts[n], p, hv, g1, List.getElem?_eq_getElem hl2, I0, H0, I', e3, fin, k2, ?_, fin, fun C fs d s h n => k5 C fs d s h (n.pre ps)⟩
    rintro σ4 H4 ⟨ds4, I4, e4, p4, v4⟩
    exact k1 σ4 H4 ⟨ds4, I4, e4, ps.trans p4, v4⟩
  · have e : n = m := by omega
    subst e
    exact .inl ⟨⟨vs, SqL.of r2, by rw [r3.len, g2]; exact Nat.le_refl _⟩, k1 σ' H' ⟨ds1, I', en', ps, hd ds1 hv⟩⟩
end
/-! ### list(d.values()), handed back -/
def tVals (te : TE) : TE := fun σ H Q => te σ H fun x H1 => ∃ a kvs, x = .ref a ∧ Rd H1 a (.dK kvs) ∧ ∀ p, H1 p = none → Q (.ref p) (upd H1 p (viewO "dict_values" p a))
theorem vals_at : ∀ {kvs : List (Key × V)} {vs : List (Key × Value)} {us : List Value}, KV kvs vs → us.length = vs.length → (∀ (j : Nat) (v : Value), us[j]? = some v → ∃ k : Key, vs[j]? = some (k, v)) → Vals (kvs.map (·.2)) us
  | _, _, [], .nil, _, _ => .nil
  | _, _, u :: us, .cons a b, hl, h => by
    obtain ⟨k, e⟩ := h 0 u rfl
    cases Option.some.inj e
    exact .cons a.2 (vals_at b (by simpa using hl) fun j v e => h (j + 1) v e)
section
variable {X : Cx}
theorem pe_valsK {e : Expr} {td : TE} {apos cpos : Pos} (he : PE X e td) (hbase : attributeBase e "values" X.env (eval e X.env) = eval e X.env := by rfl) (hline : (apos.endLine == cpos.line) = true := by rfl) : PE X (.Call (.Attribute e "values" apos) [] [] cpos) (tVals td) := by
  refine ⟨fun pins s σ H Q I h => ?_⟩
  refine wpAny_Call_method (T := "dict") (id := "dict.values") hbase rfl hline F.plainAttrs_dict F.slot_dict_values F.type_dict_values (thn (he.run pins s σ H _ I h) fun u s1 ⟨x, H1, I1, rx, d, kvs, ex, hd, q⟩ => ?_)
  subst ex
  obtain rfl : u = Value.ref d := rx
  obtain ⟨z, lo, vs, rel, dd⟩ := dk_rd I1.hok hd
  refine ⟨dd.typeIs, dd.mapOf.noDict, ?_⟩
  have fin : EP X pins σ Q (.ref s1.heap.objs.size) { s1 with heap := s1.heap.push { cls := .type "dict_values", data := .fields #[.ref d] } } :=
    ⟨.ref s1.heap.objs.size, _, I1.laid (t' := s1.toks) (fun b o q => Heap.get?_push_of_some _ q) (Nat.le_refl _) (viewO_ok (Heap.get?_push_size _ rfl)), rfl, q _ (I1.hok.fresh (Nat.le_refl _))⟩
  show wpAny _ _ (callWith cpos (.builtin "dict.values") [.ref d] [] []) _ X.xe s1
  exact method_meetsIn F.slot_dict_values F.entry_dict_values rfl (PySem.evalArgs_none ⟨rfl, dd.typeIs, F.args_dict_values_1 _, _, meets_dict_values (mixKind X.prog X.w) d lo, ⟨vs, dd⟩, fin⟩)
theorem call_listV (hcalm : X.calm = true) : CallR X (.type "list") (fun xs H Q => ∃ (p a : Addr) (kvs : List (Key × V)), xs = [.ref p] ∧ H p = some (viewO "dict_values" p a) ∧ Rd H a (.dK kvs) ∧ ∀ l, H l = none → Q (.ref l) (upd H l (.lst (kvs.map (·.2))))) := by
  intro pins s σ H xs us Q I r q
  obtain ⟨p, a, kvs, ex, hp, hd, q⟩ := q
  subst ex
  obtain ⟨u, eu, rx⟩ := vals1 r
  subst eu
  cases rx
  obtain ⟨z, lo, vs, rel, dd⟩ := dk_rd I.hok hd
  obtain ⟨ep, hat⟩ := dd.dictAt
  have hv : s.heap.get? p = some (DSub.viewOb "dict_values" a) := (show ObjOk X.prog X.w H s.heap p (viewO "dict_values" p a) from I.hok p _ hp).1
  refine PySem.W.kdl_call (PySem.W.kdl_values (knd := mixKind X.prog X.w) (kvs := vs) (ep := ep)) (I.ok.hd hcalm) ⟨⟨_, hv, rfl, rfl⟩, hat⟩ (by rw [← rel.length]; exact z) fun h' tk acc c' hk hD hacc => ?_
  have hv : Vals (kvs.map (·.2)) acc.toList := vals_at rel (by rw [Array.length_toList]; exact hacc.1) fun j v e => hacc.2 j v (by rw [← Array.getElem?_toList]; exact e)
  refine ⟨.ref s.heap.objs.size, upd H s.heap.objs.size (.lst (kvs.map (·.2))), I.laid (t' := tk) hk (Nat.le_refl _)
    (show ObjOk X.prog X.w _ _ _ (.lst (kvs.map (·.2))) from ⟨by rw [List.length_map]; exact z, acc.toList, c', hv, by rw [Array.toArray_toList]; exact hD⟩), rfl, q _ (I.hok.fresh (Nat.le_refl _))⟩
end
theorem ORF.vals {G : Glb} {I H : Hp} : ∀ {fs : List (Str × V)} {ts : List (Str × OT)} {A : List Addr}, ORF G I H fs ts A → ORs G I H (fs.map (·.2)) (ts.map (·.2)) A
  | _, _, _, .nil => .nil
  | _, _, _, .cons a b c => .cons a b.vals c
section
variable {X : Cx} {T : List NdefX.NTab} {W : WX} {U : Bool} {ds : List DS} {s : DS} {E : DEn} {e a b : Expr} {pos : Pos}
/-- return list(x.values()), x a dict of one's own -/
theorem ds_retVals (i : Nat) {x : Str} {p lp pos' apos cpos : Pos} {q : Option Addr} {ts : List (Str × OT)} (h : ds[i]? = some (.ot q (.dic ts))) (k : E.rt (.ot none (.lst (ts.map (·.2))))) (hg : Gl X "list") (hm : X.mg "list" = none) (hc : X.calm = true := by rfl) (hN : X.N[i]? = some x := by rfl) (hv : Vis X.env.scope x := by first | exact Or.inl rfl | exact Or.inr (Or.inl rfl) | exact Or.inr (Or.inr rfl))
    (hd : (x == ("__debug__" : Str)) = false := by decide) (hcd : (x == ("__classdict__" : Str)) = false := by decide) (hb : attributeBase (.Name x p) "values" X.env (eval (.Name x p) X.env) = eval (.Name x p) X.env := by rfl) (hl : (apos.endLine == cpos.line) = true := by rfl)
    (he : starEach [(Expr.Call (.Attribute (.Name x p) "values" apos) [] [] cpos)] X.env = (false, eval (Expr.Call (.Attribute (.Name x p) "values" apos) [] [] cpos) X.env) :: starEach [] X.env := by rfl) :
    DSt X T W U (.Return (some (.Call (.Name "list" lp) [.Call (.Attribute (.Name x p) "values" apos) [] [] cpos] [] pos')) pos) ds E :=
  (ps_ret (pe_callTy (call_listV hc) hg hm (by decide +kernel) (pa_cons (pe_valsK (pe_var hN hv hd hcd) hb hl) pa_nil he) (by decide) (by decide) he rfl)).weak fun D σ H ⟨I0, H0, I, en, _, k2, _⟩ => by
    obtain ⟨v, A, e1, r, hA, hq⟩ := en.ot h
    cases r with
    | @dic p fs _ A a1 a2 a3 a4 =>
    refine ⟨_, e1, p, kvK fs, rfl, .inl a1, fun p2 hp2 => ?_⟩
    have pp : p ≠ p2 := fun z => by
      rw [z, hp2] at a1
      cases a1
    refine ⟨p2, p, kvK fs, rfl, upd_same, .inl (by rw [upd_ne pp]; exact a1), fun l hl => ?_⟩
    have s1 : Step (gx X T) I H I (upd H p2 (viewO "dict_values" p2 p)) := Step.newOwn en.sub hp2
    have s2 : Step (gx X T) I (upd H p2 (viewO "dict_values" p2 p)) I (upd (upd H p2 (viewO "dict_values" p2 p)) l (.lst ((kvK fs).map (·.2)))) := Step.newOwn s1.sub hl
    have hlH : H l = none := s1.free hl
    have z : (kvK fs).map (·.2) = fs.map (·.2) := by
      rw [kvK, List.map_map]
      rfl
    have r4 : ORs (gx X T) I (upd (upd H p2 (viewO "dict_values" p2 p)) l (.lst ((kvK fs).map (·.2)))) (fs.map (·.2)) (ts.map (·.2)) A := a4.vals.frame (Same.refl I) fun a ha => (s1.trans s2).ownKeep (a4.vals.there a ha)
    refine k2 _ _ (.ot none (.lst (ts.map (·.2)))) ⟨I, en.st.trans (s1.trans s2), l :: A, .lst (by rw [upd_same, z]) (en.sub.free hlH) (fun y => ?_) r4, fun a ha => ?_, fun _ z => nomatch z⟩ k
    · obtain ⟨_, u, y2, _⟩ := a4.vals.there l y
      rw [hlH] at y2
      cases y2
    · rcases List.mem_cons.mp ha with rfl | y
      · exact en.st.free hlH
      · exact hA a (List.mem_cons_of_mem _ y)
/-! ### texts in parts -/
section
variable {apos cpos : Pos} {x y : Str}
theorem de_partition (ho : DE X T U a ds (.str x)) (he : DE X T U e ds (.str y)) (hl : x.length ≤ sizeLine) (hy : (y.length == 0) = false) (hb : attributeBase a "partition" X.env (eval a X.env) = eval a X.env := by rfl) (hf : ((backTo cpos (starEach [e] X.env)).all (fun x => !x.1) && (backToKw cpos (keywordEach [] X.env)).all (fun x => x.1.isSome) && decide ([e].length + ([] : List Keyword).length + (if ([] : List Keyword).isEmpty then 0 else 1) < 30)) = true := by rfl)
    (hln : (apos.endLine == cpos.line) = true := by rfl) (hs : starEach [e] X.env = (false, eval e X.env) :: starEach [] X.env := by rfl) : DE X T U (.Call (.Attribute a "partition" apos) [e] [] cpos) ds (.tup [.str (Txt.partition x y).1, .str (Txt.partition x y).2.1, .str (Txt.partition x y).2.2]) :=
  dv_bmS PySem.F.slot_str_partition PySem.F.type_str_partition mt_partition (fun I H v vs Q r h1 h2 k => by
    cases h1
    cases h2 with
    | cons b1 b2 =>
      cases b2
      cases b1
      exact ⟨x, y, rfl, rfl, hy, hl, fun p hp => k _ _ _ (Step.new r hp) (.tup upd_same (.cons (.str _) (.cons (.str _) (.cons (.str _) .nil))))⟩) ho (da_cons he da_nil hs) hb hf hln hs rfl
theorem dv_split (ho : DE X T U a ds (.str x)) (he : DE X T U e ds (.str y)) (hl : x.length + 2 ≤ sizeLine) (hy : (y.length == 0) = false) (hb : attributeBase a "split" X.env (eval a X.env) = eval a X.env := by rfl) (hf : ((backTo cpos (starEach [e] X.env)).all (fun x => !x.1) && (backToKw cpos (keywordEach [] X.env)).all (fun x => x.1.isSome) && decide ([e].length + ([] : List Keyword).length + (if ([] : List Keyword).isEmpty then 0 else 1) < 30)) = true := by rfl)
    (hln : (apos.endLine == cpos.line) = true := by rfl) (hs : starEach [e] X.env = (false, eval e X.env) :: starEach [] X.env := by rfl) : DV X T U (.Call (.Attribute a "split" apos) [e] [] cpos) ds (.own ((Txt.split x y).map .str)) :=
  dv_bmS PySem.F.slot_str_split PySem.F.type_str_split mt_split (fun I H v vs Q r h1 h2 k => by
    cases h1
    cases h2 with
    | cons b1 b2 =>
      cases b2
      cases b1
      exact ⟨x, y, rfl, rfl, hy, hl, fun p hp => k _ I _ (Step.newOwn r hp) ⟨p, _, rfl, hp, r.free hp, upd_same, Reps.ofStrs _⟩⟩) ho (da_cons he da_nil hs) hb hf hln hs rfl
theorem de_starts (ho : DE X T U a ds (.str x)) (he : DE X T U e ds (.str y)) (hb : attributeBase a "startswith" X.env (eval a X.env) = eval a X.env := by rfl) (hf : ((backTo cpos (starEach [e] X.env)).all (fun x => !x.1) && (backToKw cpos (keywordEach [] X.env)).all (fun x => x.1.isSome) && decide ([e].length + ([] : List Keyword).length + (if ([] : List Keyword).isEmpty then 0 else 1) < 30)) = true := by rfl)
    (hln : (apos.endLine == cpos.line) = true := by rfl) (hs : starEach [e] X.env = (false, eval e X.env) :: starEach [] X.env := by rfl) : DE X T U (.Call (.Attribute a "startswith" apos) [e] [] cpos) ds (.bl (Txt.startswith x y)) :=
  dv_bmS PySem.F.slot_str_startswith PySem.F.type_str_startswith mt_startswith (fun I H v vs Q r h1 h2 k => by
    cases h1
    cases h2 with
    | cons b1 b2 =>
      cases b2
      cases b1
      exact ⟨x, y, rfl, rfl, k _ I H (Step.refl r) (.bl _)⟩) ho (da_cons he da_nil hs) hb hf hln hs rfl
/-- f'{e}..' -/
theorem de_fmt2 {j : Nat} {p1 p2 : Pos} (he : DE X T U e ds (.str x)) (h1 : x.length ≤ sizeLine) (h2 : (x ++ y).length ≤ sizeLine) : DE X T U (.JoinedStr [.FormattedValue e (-1) none p1, .Constant (.str y) j p2] pos) ds (.str (x ++ y)) :=
  (pe_joined (.cons (pe_fmt he) (.cons pe_str .nil))).weak fun σ H Q ⟨I0, H0, I, en, k⟩ => ⟨I0, H0, I, en, fun v I1 H1 s1 r1 => by
    cases r1
    have e0 : Str.empty ++ x = x := TL.ext_tl (by rw [TL.tl_append]; rfl)
    refine .inl ⟨x, rfl, h1, x, rfl, by rw [e0]; exact h1, y, rfl, by rw [e0]; exact h2, ?_⟩
    rw [e0]
    exact k _ I1 H1 s1 (.str _)⟩
end
/-- x += e, texts -/
theorem ds_augS (i : Nat) {x : Str} {pos' : Pos} {y z : Str} (h : ds[i]? = some (.im (.str y))) (he : DE X T U e ds (.str z)) (hl : y.length + z.length ≤ sizeLine) (k : E.nx (ds.set i (.im (.str (y ++ z))))) (hN : X.N.Nodup) (hi : X.N[i]? = some x := by rfl) (hx : Loc X.env.scope x := by first | exact Or.inl rfl | exact Or.inr rfl)
    (hf : X.fn x = true ∨ X.env.scope.names.lookup x = some .local := by first | exact .inl rfl | exact .inr rfl | assumption) : DSt X T W U (.AugAssign (.Name x pos') .Add e pos) ds E :=
  (ps_aug hN hi hx he (ti := fun x y H Q => ∃ i j, x = .str i ∧ y = .str j ∧ i.length + j.length ≤ sizeLine ∧ Q (.str (i ++ j)) H) iop_add_str hf).weak fun D σ H ⟨I0, H0, I, en, k1, _⟩ => by
    obtain ⟨v, e1, r⟩ := en.im h
    cases r
    refine ⟨_, e1, I0, H0, I, en, fun w I1 H1 s1 r1 => ?_⟩
    cases r1
    exact ⟨y, z, rfl, rfl, hl, k1 _ H1 ⟨_, I1, (en.step s1).setIm i (.str _), s1.pres, k⟩⟩
end
end Lp

/-! x.extend(e). -/
namespace Lp
open PySem PySem.Spec PyProof.Rows L2
section
variable {X : Cx} {T : List NdefX.NTab} {W : WX} {U : Bool} {ds : List DS} {s : DS} {E : DEn} {e a b : Expr} {pos : Pos} {xs ys : List D}
theorem ds_extL (i : Nat) {x : Str} {p apos cpos : Pos} (h : ds[i]? = some (.own xs)) (he : DE X T U e ds (.lst ys)) (hl : xs.length + ys.length ≤ 100000) (k : E.nx (ds.set i (.own (xs ++ ys)))) (hN : X.N[i]? = some x := by rfl) (hv : Vis X.env.scope x := by first | exact Or.inl rfl | exact Or.inr (Or.inl rfl) | exact Or.inr (Or.inr rfl))
    (hd : (x == ("__debug__" : Str)) = false := by decide) (hcd : (x == ("__classdict__" : Str)) = false := by decide) (hb : attributeBase (.Name x p) "extend" X.env (eval (.Name x p) X.env) = eval (.Name x p) X.env := by rfl) (ha : ((((backTo cpos (starEach [e] X.env)).all fun x => !x.fst) && (backToKw cpos (keywordEach [] X.env)).all fun x => x.fst.isSome) && decide (([e].length + ([] : List Keyword).length + if ([] : List Keyword).isEmpty = true then 0 else 1) < 30)) = true := by rfl)
    (hln : (apos.endLine == cpos.line) = true := by rfl) (hse : starEach [e] X.env = (false, eval e X.env) :: starEach [] X.env := by rfl) (hsw : swapsWith (.Call (.Attribute (.Name x p) "extend" apos) [e] [] cpos) none pos.line X.env = pure false := by rfl) :
    DSt X T W U (.Expr (.Call (.Attribute (.Name x p) "extend" apos) [e] [] cpos) pos) ds E :=
  (ps_expr (pe_bm PySem.F.plainAttrs_list PySem.F.slot_list_extend PySem.F.type_list_extend mt_extend (pe_var hN hv hd hcd) (pa_cons he pa_nil hse) hb ha hln hse) hsw).weak fun D σ H ⟨I0, H0, I, en, k1, _⟩ => by
    obtain ⟨q, vs, e1, e2, e3, e4, e5⟩ := en.own h
    refine ⟨_, e1, tyL e2, I0, H0, I, en, fun v I1 H1 s1 r1 => ?_⟩
    have a1 := s1.keep q _ e2 (fun _ z => nomatch z) (.inl e4)
    have a2 := s1.fresh q _ e4 e2 (fun _ q => nomatch q) (fun _ q => nomatch q)
    cases r1 with
    | @lst p2 ws _ b1 b2 =>
      refine ⟨q, p2, vs, ws, rfl, rfl, a1, s1.sub.lst b1, by rw [e3.len, b2.len]; exact Nat.le_trans hl (by decide), ?_⟩
      obtain ⟨c1, c2⟩ := (en.step s1).putL h e1 a1 a2 e5 ((e3.mono s1.isub).app b2)
      exact k1 _ _ ⟨_, I1, c1, s1.pres.trans c2, k⟩
end
end Lp

/-! Methods of told instances; isinstance of own classes. -/
namespace Lp
open PySem PySem.Spec PyProof.Rows L2
/-- a method, by data: the instance is told first -/
structure MethD (G : Glb) (k : Nat) (c m : Str) (ps : List Str) (A : List D → DS → Prop) : Prop where
  cls : Cls G.K (He.ga G.K c)
  mth : Meth G.K (He.ga G.K c) m (He.ma G.K (He.ga G.K c) m)
  ok : FnOk G.P G.w G.K G.mg G.base CX0 k (He.ma G.K (He.ga G.K c) m) (fdOf G.K (He.ma G.K (He.ga G.K c) m)) ps (spD G false A)
  n : L2.Binds G.K (fdOf G.K (He.ma G.K (He.ga G.K c) m)) ps []
theorem look_no {G : Glb} {I : Hp} {m : Str} : ∀ {vs : List (Str × V)} {ts : List (Str × D)}, RepF G I vs ts → ts.lookup m = none → vs.lookup m = none
  | _, _, .nil, _ => rfl
  | _, _, .cons (x := x) (vs := vs) (ds := ds) a b, h => by
    rw [List.lookup_cons] at h ⊢
    cases e : m == x with
    | true => rw [e] at h; cases h
    | false =>
      rw [e] at h
      exact look_no b h
section
variable {X : Cx} {T : List NdefX.NTab} {U : Bool} {ds : List DS} {s : DS} {o e : Expr} {es : List Expr} {pos apos : Pos} {c m : Str} {ps : List Str} {A : List D → DS → Prop} {k j : Nat} {fds : List (Str × D)} {xs : List D}
theorem dv_meth (C : MethD (gx X T) k c m ps A) (hr : Room j X.A) (ho : DE X T U o ds (.ins c fds)) (ha : DA X T U (e :: es) ds xs) (hA : A (.ins c fds :: xs) s) (hl : fds.lookup m = none := by rfl) (hk : k ≤ j := by decide) {pl : Sem Bool}
    (hst : starEach (e :: es) X.env = (false, eval e X.env) :: starEach es X.env := by rfl) (hpl : (backTo pos (starEach es X.env)).any (·.1) = false := by rfl)
    (ht : eval (.Call (.Attribute o m apos) (e :: es) [] pos) X.env = (do
      let ov ← eval o X.env
      standAt apos.atName
      let (f, first) ← holding [ov] (getMethod ov m pl)
      callWith pos f first (backTo pos (starEach (e :: es) X.env)) (backToKw pos (keywordEach [] X.env))) := by rfl) : DV X T U (.Call (.Attribute o m apos) (e :: es) [] pos) ds s :=
  (pe_meth (pl := pl) ho C.cls C.mth C.ok (hr.mono hk) C.n .nil (E := E0) pass0 ha hst hpl ht).weak fun σ H Q ⟨I0, H0, I, en, kk⟩ => ⟨I0, H0, I, en, fun v I1 H1 s1 r1 => by
    cases r1 with
    | @ins p dx _ fs _ a b =>
      refine ⟨p, dx, fs, rfl, s1.sub.ins a, look_no b hl, I0, H0, I1, en.step s1, fun vs I2 H2 s2 r2 => ?_⟩
      show spD (gx X T) false A (.ref p :: (vs ++ [])) H2 Q E0
      rw [List.append_nil]
      have s12 := s1.trans s2
      exact ⟨I2, .ins c fds :: xs, s, s2.sub, (en.step s12).tb, .cons (.ins (s2.isub _ _ a) (b.mono s2.isub)) r2, hA, fun v H' ⟨I3, s3, r3⟩ => kk v I3 H' (s12.trans s3) (r3.back s12)⟩⟩
theorem dv_meth0 (C : MethD (gx X T) k c m ps A) (hr : Room j X.A) (ho : DE X T U o ds (.ins c fds)) (hA : A [.ins c fds] s) (hl : fds.lookup m = none := by rfl) (hk : k ≤ j := by decide) {pl : Sem Bool}
    (ht : eval (.Call (.Attribute o m apos) [] [] pos) X.env = (do
      let ov ← eval o X.env
      standAt apos.atName
      let (f, first) ← holding [ov] (getMethod ov m pl)
      callWith pos f first (backTo pos (starEach [] X.env)) (backToKw pos (keywordEach [] X.env))) := by rfl) : DV X T U (.Call (.Attribute o m apos) [] [] pos) ds s :=
  (pe_meth0 (pl := pl) ho C.cls C.mth C.ok (hr.mono hk) C.n .nil (E := E0) pass0 ht).weak fun σ H Q ⟨I0, H0, I, en, kk⟩ => ⟨I0, H0, I, en, fun v I1 H1 s1 r1 => by
    cases r1 with
    | @ins p dx _ fs _ a b =>
      refine ⟨p, dx, fs, rfl, s1.sub.ins a, look_no b hl, ?_⟩
      show spD (gx X T) false A [.ref p] H1 Q E0
      exact ⟨I1, [.ins c fds], s, s1.sub, (en.step s1).tb, .cons (.ins a b) .nil, hA, fun v H' ⟨I3, s3, r3⟩ => kk v I3 H' (s1.trans s3) (r3.back s1)⟩⟩
/-- what isinstance asks of a class C of one's own and of the class D -/
structure IsC (K : PySem.W.Frag) (C D : Addr) (b : Bool) : Prop where
  i : C8.InsC K C
  me : PySem.W.kitOne K (.ref C) (.ref D) = some b
theorem de_isC {x : Str} {p1 : Pos} {b : Bool} {cc : Expr} (he : DE X T U e ds (.ins c fds)) (hI : IsC X.K (He.ga X.K c) (He.ga X.K x) b) (hx : X.mg x = some (.ref (He.ga X.K x))) (hm : X.mg "isinstance" = none) (hg : Gl X x := by rfl) (hgi : Gl X "isinstance" := by rfl) (hdb : (x == ("__debug__" : Str)) = false := by decide)
    (h1 : starEach [e, .Name x p1] X.env = (false, eval e X.env) :: starEach [.Name x p1] X.env := by rfl) (h2 : starEach [.Name x p1] X.env = (false, eval (.Name x p1) X.env) :: starEach [] X.env := by rfl) (hpl : (backTo pos (starEach [.Name x p1] X.env)).any (·.1) = false := by rfl) {p0 : Pos} :
    DE X T U (.Call (.Name "isinstance" p0) [e, .Name x p1] [] pos) ds (.bl b) :=
  (pe_callB (p := p0) call_isi hgi hm (by decide +kernel) (pa_cons he (pa_cons (pe_glob (v := .ref (He.ga X.K x)) hg hx rfl hdb) pa_nil h2) h1) (by decide) (by decide) h1 hpl).weak fun σ H Q ⟨I0, H0, I, en, kk⟩ => ⟨I0, H0, I, en, fun v I1 H1 s1 r1 => by
    cases r1 with
    | @ins p dx _ fs _ a b2 =>
      exact ⟨.ref p, .ref (He.ga X.K x), .ref (He.ga X.K c), .ref (He.ga X.K x), b, rfl, .own _, .base (.ins (s1.sub.ins a) hI.i.cl hI.i.ha hI.i.hn hI.i.htk hI.i.hm), hI.me, kk _ I1 H1 s1 (.bl b)⟩⟩
end
end Lp

/-! Loops over a list of one's own with told items. -/
namespace Lp
open PySem PySem.Spec PyProof.Rows L2
theorem imL_fz : ∀ l : List D, OT.fzs (l.map .im) = l
  | [] => by rw [List.map_nil, OT.fzs]
  | d :: l => by rw [List.map_cons, OT.fzs, OT.fz, imL_fz l]
theorem imL_nd : ∀ l : List D, OT.nds (l.map .im) = true
  | [] => by rw [List.map_nil, OT.nds]
  | d :: l => by rw [List.map_cons, OT.nds, OT.nd, imL_nd l]; rfl
theorem lstI_fz (l : List D) : (OT.lst (l.map .im)).fz = .lst l := by rw [OT.fz, imL_fz]
theorem lstI_nd (l : List D) : (OT.lst (l.map .im)).nd = true := by rw [OT.nd, imL_nd]
theorem lk_d {xs : List D} {j : Nat} {d : D} (h : xs[j]? = some d) : atI xs (j : Int) = some d := by
  unfold atI
  rw [ixN_of (List.getElem?_eq_some_iff.mp h).1]
  exact h
section
variable {X : Cx} {T : List NdefX.NTab} {W : WX} {U : Bool} {ds : List DS} {s : DS} {E : DEn} {e : Expr} {pos : Pos}
theorem ds_forI (i j : Nat) {x y : Str} {tp ip : Pos} {body : List Stmt} {m : Nat} {p0 : Addr} (Pv : Nat → List DS → Prop) (h0 : Pv 0 ds) (hl : ∀ n ds1, Pv n ds1 → ∃ xs : List D, ds1[i]? = some (.ot (some p0) (.lst (xs.map .im))) ∧ xs.length = m)
    (hb : ∀ (n : Nat) (ds1 : List DS) (xs : List D) (d : D), Pv n ds1 → ds1[i]? = some (.ot (some p0) (.lst (xs.map .im))) → xs[n]? = some d → DSs X T W U body (ds1.set j (.im d)) { E with nx := Pv (n + 1), ct := Pv (n + 1), bk := E.nx }) (hd : ∀ ds1, Pv m ds1 → E.nx ds1)
    (hp : PassesOwn (model X.prog X.w) X.A X.env X.xe) (hN : X.N.Nodup) (hNj : X.N[j]? = some x := by rfl) (hx : Loc X.env.scope x := by first | exact Or.inl rfl | exact Or.inr rfl) (hf : X.fn x = true ∨ X.env.scope.names.lookup x = some .local := by first | exact .inl rfl | exact .inr rfl | assumption)
    (hNi : X.N[i]? = some y := by rfl) (hv : Vis X.env.scope y := by first | exact Or.inl rfl | exact Or.inr (Or.inl rfl) | exact Or.inr (Or.inr rfl)) (hdd : (y == ("__debug__" : Str)) = false := by decide) (hcd : (y == ("__classdict__" : Str)) = false := by decide)
    (hc : X.calm = true := by rfl) (hs : ∀ x, foldedSetIterable (.Name y ip) X.env x = pure x := by intro _; rfl) : DSt X T W U (.For (.Name x tp) (.Name y ip) body [] pos) ds E := by
  have hB : PSs X body (fun D' σ H => ∃ (n : Nat) (ds1 : List DS) (xs : List D) (d : D), Pv n ds1 ∧ ds1[i]? = some (.ot (some p0) (.lst (xs.map .im))) ∧ xs[n]? = some d ∧ sV (gx X T) W U (ds1.set j (.im d)) { E with nx := Pv (n + 1), ct := Pv (n + 1), bk := E.nx } D' σ H) :=
    ⟨fun pins s σ H D I ⟨n, ds1, xs, d, a1, a2, a3, q⟩ => (hb n ds1 xs d a1 a2 a3).run pins s σ H D I q⟩
  refine (ps_for hp hc (pi_list (pe_var hNi hv hdd hcd)) (pg_name (pos := tp) hN hNj hx hf) hB hs).weak fun D σ H ⟨I0, H0, I, en, k1, k2, k3, k4, k5⟩ => ?_
  obtain ⟨xs0, g1, g2⟩ := hl 0 ds h0
  have root : ∀ {ds1 : List DS} {I' H' : Hp} {σ' : L2.St} {ts : List OT}, EnvR (gx X T) U I0 H0 I' H' σ' ds1 → ds1[i]? = some (.ot (some p0) (.lst ts)) → σ'[i]? = some (some (.ref p0)) ∧ ∃ vs A, H' p0 = some (.lst vs) ∧ ORs (gx X T) I' H' vs ts A := fun {ds1 I' H' σ' ts} en h => by
    obtain ⟨v, A, e1, r, _, hq⟩ := en.ot h
    obtain rfl := hq p0 rfl
    cases r with
    | lst a1 a2 a3 a4 => exact ⟨e1, _, _, a1, a4⟩
  obtain ⟨r1, vs0, A0, r2, r3⟩ := root en g1
  refine ⟨_, r1, p0, rfl, ⟨vs0, SqL.of r2⟩, fun n mm σ' H' => mm = m - n ∧ n ≤ m ∧ ∃ ds1 I', EnvR (gx X T) U I0 H0 I' H' σ' ds1 ∧ Pres I H I' H' ∧ Pv n ds1, ⟨_, rfl, Nat.zero_le _, ds, I, en, Pres.refl _ _, h0⟩, ?_⟩
  rintro n mm σ' H' ⟨rfl, hn, ds1, I', en', ps, hv⟩
  obtain ⟨xs, g1, g2⟩ := hl n ds1 hv
  obtain ⟨r1, vs, A, r2, r3⟩ := root en' g1
  by_cases hlt : n < m
  · refine .inr ?_
    have hx : xs[n]? = some xs[n] := List.getElem?_eq_getElem (by rw [g2]; exact hlt)
    have hx2 : (xs.map OT.im)[n]? = some (.im xs[n]) := by rw [List.getElem?_map, hx]; rfl
    obtain ⟨w, B, q1, q2, _⟩ := ors_lens r3 hx2
    have rw_ : Rep (gx X T) I' w xs[n] := by
      cases q2 with
      | im r => exact r
    refine ⟨⟨vs, w, SqL.of r2, q1⟩, fun σ2 H2 => ∃ ds2 I2, EnvR (gx X T) U I0 H0 I2 H2 σ2 ds2 ∧ Pres I H I2 H2 ∧ Pv (n + 1) ds2, fun σ2 H2 ⟨ds2, I2, e2, p2, v2⟩ => ⟨m - (n + 1), by omega, rfl, hlt, ds2, I2, e2, p2, v2⟩, fun z H2 ⟨y1, y2⟩ => ?_⟩
    have y3 := y2 vs (SqL.of r2)
    rw [q1] at y3
    cases y3
    rw [y1]
    refine ⟨n, ds1, xs, xs[n], hv, g1, hx, I0, H0, I', en'.setIm j rw_, ?_, k2, ?_, ?_, fun C fs d s h n => k5 C fs d s h (n.pre ps)⟩
    · rintro σ4 H4 ⟨ds4, I4, e4, p4, v4⟩
      exact ⟨ds4, I4, e4, ps.trans p4, v4⟩
    · rintro σ4 H4 ⟨ds4, I4, e4, p4, v4⟩
      exact k1 σ4 H4 ⟨ds4, I4, e4, ps.trans p4, v4⟩
    · rintro σ4 H4 ⟨ds4, I4, e4, p4, v4⟩
      exact ⟨ds4, I4, e4, ps.trans p4, v4⟩
  · have e : n = m := by omega
    subst e
    exact .inl ⟨⟨vs, SqL.of r2, by rw [r3.len, List.length_map, g2]; exact Nat.le_refl _⟩, k1 σ' H' ⟨ds1, I', en', ps, hd ds1 hv⟩⟩
end
end Lp

/-! Ranks compared. -/
namespace Lp
open PySem PySem.Spec PyProof.Rows L2
def rGeP (K : PySem.W.Frag) : R2 := fun x y H Q => ∃ d e, Dp K H x d ∧ Dp K H y e ∧ PySem.W.alike d e = true ∧ d ≠ .none ∧ d.depth ≤ 64 ∧ Q (.bl (!PySem.W.dataLt d e)) H
theorem op_geP {X : Cx} (hu : X.A.units + 64 < cLine) : OpR X (compareOp .GtE) (rGeP X.K) := by
  intro pins s σ H x y v u Q I rx ry h
  obtain ⟨d, e, hd, he, pa, pn, l, q⟩ := h
  obtain ⟨as, r1⟩ := Dp.reads I d x v hd rx
  obtain ⟨bs, r2⟩ := Dp.reads I e y u he ry
  exact PySem.W.ge_data r1 r2 pa pn (by have := Nat.min_le_left d.depth e.depth; omega) ⟨.bl _, H, I, rfl, q⟩
theorem r2_geR {G : Glb} {x y : Str} : R2D G (rGeP G.K) (.tup [.int (x.length : Int), .str x]) (.tup [.int (y.length : Int), .str y]) (.im (.bl (PySem.W.dataLe false rankD y x))) := fun I H v w Q r h1 h2 k => by
  refine ⟨rankD x, rankD y, En.dp (x := ((x.length : Int), x)) r h1, En.dp (x := ((y.length : Int), y)) r h2, by simp [rankD, PySem.W.alike, PySem.W.alikeAll], (fun z => by cases z), by simp [rankD, PyData.depth, PyData.depthAll], ?_⟩
  have e : PySem.W.dataLe false rankD y x = !PySem.W.dataLt (rankD x) (rankD y) := by rw [PySem.W.dataLe_eq]; rfl
  rw [← e]
  exact k _ I H (Step.refl r) (.bl _)
theorem de_geR {X : Cx} {T : List NdefX.NTab} {U : Bool} {ds : List DS} {a b : Expr} {pos : Pos} {x y : Str} (ha : DE X T U a ds (.tup [.int (x.length : Int), .str x])) (hb : DE X T U b ds (.tup [.int (y.length : Int), .str y])) (hu : X.A.units + 64 < cLine) : DE X T U (.Compare a [.GtE] [b] pos) ds (.bl (PySem.W.dataLe false rankD y x)) := dv_cmp (op_geP hu) r2_geR ha hb
end Lp

/-! sorted(xs, key=f), f's keys may hold lists that f has just made. -/
namespace Lp
open PySem PySem.Spec PyProof.Rows PySem.Calls
/-- a call that keeps all that was there and gives the key k; the key's lists are new -/
def KeyMade (k : PyData) (s₁ : Shared) (v : Value) (s₂ : Shared) : Prop := ∃ h' tk as, s₂ = { s₁ with heap := h', toks := tk } ∧ (∀ b o, s₁.heap.get? b = some o → h'.get? b = some o) ∧ PySem.Reads h' v k as ∧ ∀ x ∈ as, s₁.heap.get? x = none
/-- a key that the list at c does not touch -/
def Apart (c : Addr) (h : Heap) (v : Value) (k : PyData) : Prop := (∃ as, PySem.Reads h v k as ∧ c ∉ as) ∧ PySem.W.alike k k = true
section
variable {prog : Program} {w : World} {A : Around} {E : Value → Shared → Prop} {s : Shared} {a kS : Addr} {b : Bool} {vs : List Value} {e1 : Nat} {P : PySem.Fin → Shared → Prop} {kz : List PyData}
theorem Apart.keeps {c : Addr} {h h' : Heap} {v : Value} {k : PyData} (q : Apart c h v k) (kp : ∀ b o, h.get? b = some o → h'.get? b = some o) : Apart c h' v k := by
  obtain ⟨⟨as, r, n⟩, z⟩ := q
  exact ⟨⟨as, PyProof.Rows.Reads.keeps kp r, n⟩, z⟩
theorem Apart.change {c : Addr} {h h' : Heap} {v : Value} {k : PyData} (q : Apart c h v k) (kp : ∀ b o, b ≠ c → h.get? b = some o → h'.get? b = some o) (hl : ∀ o, h.get? c = some o → o.cls = .type "list") : Apart c h' v k := by
  obtain ⟨⟨as, r, n⟩, z⟩ := q
  exact ⟨⟨as, PySem.W.Reads.keepBut kp hl k v as z r n, n⟩, z⟩
/-- the keys' turn of list.sort -/
structure Turn (s : Shared) (a kS : Addr) (e1 : Nat) (h₁ : Heap) (kz : List PyData) (i : Nat) (s' : Shared) : Prop where
  ex : ∃ h' tk kA e, s' = { s with heap := h', toks := tk } ∧ PySem.W.KeepsBut a h₁ h' ∧ h'.get? kS = some (seqObj "list" kA e) ∧ h'.get? a = some (seqObj "list" #[] e1) ∧ PySem.W.EachIs (Apart kS h') kA.toList (kz.take i)
theorem keys_turn {f : Value} {h₁ : Heap} (hkS : h₁.get? kS = none) (hka : kS ≠ a) (hlen : kz.length = vs.length) (hZ : vs.length ≤ sizeLine) (hal : PySem.W.AllAlike kz)
    (turn : ∀ (i : Nat) (v : Value) (k : PyData), vs[i]? = some v → kz[i]? = some k → ∀ (h : Heap) (tk : Nat), PySem.W.KeepsBut a h₁ h → wpAny (model prog w) A (call f [v]) (KeyMade k { s with heap := h, toks := tk }) (fun _ _ => False) { s with heap := h, toks := tk })
    {j : Nat} {x : Value} {s' : Shared} (hx : vs[j]? = some x) (T : Turn s a kS e1 h₁ kz j s') {F : Value → Shared → Prop} :
    wpAny (model prog w) A (call f [x]) (fun v s2 => ∃ kA e, s2.heap.get? kS = some (seqObj "list" kA e) ∧ kA.size ≤ vs.length ∧ ∀ h3, Heap.SameBut kS s2.heap h3 → ∀ c2, h3.get? kS = some (seqObj "list" (kA.push v) c2) → Turn s a kS e1 h₁ kz (j + 1) { s2 with heap := h3 }) (fun _ _ => False) s' := by
  obtain ⟨h', tk, kA, e, rfl, kp', nk', na', hk⟩ := T.ex
  have hj : j < vs.length := (List.getElem?_eq_some_iff.mp hx).1
  obtain ⟨k, hkj⟩ : ∃ k, kz[j]? = some k := ⟨_, List.getElem?_eq_getElem (by omega)⟩
  have hkk : PySem.W.alike k k = true := hal k (List.mem_of_getElem? hkj) k (List.mem_of_getElem? hkj)
  have hz : kA.size ≤ vs.length := by
    have h1 := hk.length
    rw [Array.length_toList, List.length_take] at h1
    omega
  refine wpAny_mono (turn j x k hx hkj h' tk kp') (fun v s2 ⟨g, tk2, as, es, hg, hr, hn⟩ => ?_) fun _ _ z => z
  subst es
  have nk2 := hg _ _ nk'
  have nS : kS ∉ as := fun z => by
    have q := hn kS z
    rw [nk'] at q
    cases q
  refine ⟨kA, e, nk2, hz, fun h3 sb c2 hc2 => ⟨h3, tk2, kA.push v, c2, rfl, (kp'.trans_all hg).same sb (.inr hkS), hc2, (sb.2 a hka.symm).trans (hg _ _ na'), ?_⟩⟩
  have ek : kz.take (j + 1) = kz.take j ++ [k] := by rw [List.take_succ, hkj]; rfl
  have ea : (kA.push v).toList = kA.toList ++ [v] := by simp
  have ch : ∀ (u : Value) (d : PyData), Apart kS g u d → Apart kS h3 u d := fun u d q => q.change (fun b o hb e => (sb.2 b hb).trans e) (fun o e => by rw [nk2] at e; rw [← Option.some.inj e])
  rw [ea, ek]
  exact PySem.W.each_snoc (R := Apart kS h3) (ch v k ⟨⟨as, hr, nS⟩, hkk⟩) (hk.mono fun u d q => ch u d (q.keeps hg))
theorem keys_rest {f : Value} {h₁ : Heap} (T0 : Turn s a kS e1 h₁ kz 0 s) (hkS : h₁.get? kS = none) (hka : kS ≠ a) (hlen : kz.length = vs.length) (hZ : vs.length ≤ sizeLine) (hal : PySem.W.AllAlike kz) (hsk : PySem.W.Sortable kz) (hu : ∀ d, d ∈ kz → A.units + d.depth < cLine)
    (turn : ∀ (i : Nat) (v : Value) (k : PyData), vs[i]? = some v → kz[i]? = some k → ∀ (h : Heap) (tk : Nat), PySem.W.KeepsBut a h₁ h → wpAny (model prog w) A (call f [v]) (KeyMade k { s with heap := h, toks := tk }) (fun _ _ => False) { s with heap := h, toks := tk })
    (h : ∀ h' tk out c, PySem.W.KeepsBut a h₁ h' → h'.get? a = some (seqObj "list" (List.toArray out) c) → PySem.W.KeyedOut b kz vs out → P (.done (.ret .none)) { s with heap := h', toks := tk }) :
    wpAny (model prog w) A (PyProof.Rows.ksk_rest a f b vs.toArray e1 (.ref kS)) P E s := by
  unfold PyProof.Rows.ksk_rest
  refine wpAny_bind (wpAny_rule ?_)
  first
    | rw [List.forIn_toArray]
    | (rw [← Array.forIn_toList]; simp only [List.toList_toArray])
    | rw [← Array.forIn_toList]
  refine wpAny_bind (PyProof.Rows.ksk_fold (fun i s' => Turn s a kS e1 h₁ kz i s') vs 0 s T0 (fun j x s' hx T => ?_) fun s' T => ?_)
  · rw [Nat.zero_add] at T ⊢
    refine wpAny_bind (wpAny_attempt (wpAny_mono (keys_turn (F := E) hkS hka hlen hZ hal turn hx T) (fun v s2 ⟨kA, e, nk, hz, fin⟩ => ?_) fun _ _ hF => hF.elim))
    try dsimp only
    obtain ⟨c2, hc2⟩ : ∃ c2, (s2.heap.update kS (Obj.mapSeq (·.push v))).get? kS = some (seqObj "list" (kA.push v) c2) := ⟨_, get?_update_seq nk (·.push v)⟩
    refine wpAny_bind (listUpdate_at nk rfl ?_ (Nat.le_trans hz hZ) (Nat.le_trans (Nat.le_of_eq (Array.size_push ..)) (Nat.succ_le_succ (Nat.le_trans hz hZ))))
    exact wpAny_pure ⟨rfl, fin _ (Heap.SameBut.update s2.heap kS (Obj.mapSeq (·.push v))) c2 hc2⟩
  · obtain ⟨h', tk, kA, e, rfl, kp', nk', na', hk⟩ := T.ex
    have e3 : kz.take (0 + vs.length) = kz := List.take_of_length_le (by omega)
    rw [e3] at hk
    have hk' : PySem.W.EachIs (fun v k => ∃ as, PySem.Reads h' v k as) kA.toList kz := hk.mono fun v k q => ⟨q.1.choose, q.1.choose_spec.1⟩
    have hsz : kA.size = vs.length := by
      have h1 := hk'.length
      rw [Array.length_toList] at h1
      omega
    try dsimp only
    refine wpAny_bind (listItems_at nk' rfl ?_)
    exact PySem.W.keyH_end (κ := PySem.W.dataKind h' kz) (h₁ := h₁) kp' hkS nk' na' hka (PySem.W.SortsAt.data (s := { s with heap := h', toks := tk }) hk' hal hsk hu) hsz hZ fun h3 tk3 c k3 n3 => h h3 tk3 _ c k3 n3 ⟨h', kA.toList, hal, rfl, hk'⟩
theorem keys_tree {f : Value} {n : Nat} (ho : s.heap.get? a = some (seqObj "list" vs.toArray n)) (hlen : kz.length = vs.length) (hZ : vs.length ≤ sizeLine) (hal : PySem.W.AllAlike kz) (hsk : PySem.W.Sortable kz) (hu : ∀ d, d ∈ kz → A.units + d.depth < cLine)
    (turn : ∀ (i : Nat) (v : Value) (k : PyData), vs[i]? = some v → kz[i]? = some k → ∀ (h : Heap) (tk : Nat), PySem.W.KeepsBut a s.heap h → wpAny (model prog w) A (call f [v]) (KeyMade k { s with heap := h, toks := tk }) (fun _ _ => False) { s with heap := h, toks := tk })
    (h : ∀ h' tk out c, PySem.W.KeepsBut a s.heap h' → h'.get? a = some (seqObj "list" (List.toArray out) c) → PySem.W.KeyedOut b kz vs out → P (.done (.ret .none)) { s with heap := h', toks := tk }) :
    wpAny (model prog w) A (PyProof.Rows.ksk_tree a f b) P E s := by
  have ha : a < s.heap.objs.size := Heap.lt_size ho
  obtain ⟨e1, ho1⟩ : ∃ e1, (s.heap.update a (Obj.mapSeq fun _ => (#[] : Array Value))).get? a = some (seqObj "list" #[] e1) := ⟨_, get?_update_seq ho fun _ => #[]⟩
  have hS : ((s.heap.update a (Obj.mapSeq fun _ => (#[] : Array Value))).push (seqObj "tuple" vs.toArray 0)).objs.size = s.heap.objs.size + 1 := by rw [size_push', Heap.size_update]
  unfold PyProof.Rows.ksk_tree
  refine wpAny_bind (listItems_at ho rfl (wpAny_bind (listUpdate_at ho rfl ?_ (by rw [List.size_toArray]; exact hZ) (Nat.zero_le _))))
  refine wpAny_bind (seqEpoch_at ho1 rfl (wpAny_bind (wpAny_newTuple ?_ (by show vs.length ≤ _; exact hZ))))
  refine wpAny_bind (wpAny_newList (wpAny_holding ?_) (Nat.zero_le _))
  generalize hk : ((s.heap.update a (Obj.mapSeq fun _ => (#[] : Array Value))).push (seqObj "tuple" vs.toArray 0)) = hp at hS
  have kp : PySem.W.KeepsBut a s.heap (hp.push (seqObj "list" #[] 0)) := fun b o hb q => by
    rw [← hk]
    exact PySem.W.sortingHeap_old hb q
  refine keys_rest (kz := kz) (h₁ := s.heap) (s := { s with heap := hp.push (seqObj "list" #[] 0) }) (kS := hp.objs.size) ⟨_, s.toks, #[], 0, rfl, kp, Heap.get?_push_size _ rfl, Heap.get?_push_of_some _ (by rw [← hk]; exact Heap.get?_push_of_some _ ho1), by rw [List.take_zero]; exact .nil⟩
    (Heap.get?_none_of_le (by rw [hS]; exact Nat.le_succ _)) (by rw [hS]; exact Nat.ne_of_gt (Nat.lt_succ_of_lt ha)) hlen hZ hal hsk hu turn h
end
section
variable {prog : Program} {w : World} {A : Around} {E : Value → Shared → Prop} {s : Shared} {β : Type} {vs : List Value} {bs : List β} {R : Value → β → Prop}
theorem sorted_made {l : Addr} {f : Value} {kw : List (Str × Value)} {b : Bool} {Q : Value → Shared → Prop} (k : β → PyData) (hl : s.heap.IsList l vs.toArray) (e : PySem.W.EachIs R vs bs) (hal : PySem.W.AllAlike (bs.map k)) (hk : PySem.W.Sortable (bs.map k)) (hL : bs.length ≤ sizeLine)
    (hu : ∀ x, x ∈ bs → A.units + 2 + (k x).depth < cLine) (ha1 : argsOk "sorted" ⟨[.ref l], kw⟩) (ha2 : ∀ x, argsOk "list.sort" ⟨[.ref x], kw⟩) (ht : ∀ x, Builtin.«list.sort» ⟨[.ref x], kw⟩ = PyProof.Rows.ksk_tree x f b)
    (turn : ∀ (v : Value) (x : β), R v x → x ∈ bs → ∀ (h : Heap) (tk : Nat), (∀ b o, s.heap.get? b = some o → h.get? b = some o) → wpAny (model prog w) A.in1.in1 (call f [v]) (KeyMade (k x) { s with heap := h, toks := tk }) (fun _ _ => False) { s with heap := h, toks := tk })
    (h : ∀ out c h' tk, (∀ b o, s.heap.get? b = some o → h'.get? b = some o) → h'.get? (s.heap.objs.size + 1) = some (seqObj "list" (List.toArray out) c) → out.length = bs.length → PySem.W.EachIs R out (bs.mergeSort (PySem.W.dataLe b k)) → Q (.ref (s.heap.objs.size + 1)) { s with heap := h', toks := tk }) :
    wpAny (model prog w) A (call (.builtin "sorted") [.ref l] kw) Q E s := by
  have up : ∀ {g : Heap}, PySem.W.KeepsBut (s.heap.objs.size + 1) (PySem.W.copyHeap s.heap vs) g → ∀ b o, s.heap.get? b = some o → g.get? b = some o := fun {g} kp b o q => kp b o (Nat.ne_of_lt (Nat.lt_succ_of_lt (Heap.lt_size q))) (PySem.W.copyHeap_old q)
  refine PySem.W.sorted_of_sort hl (by rw [e.length]; exact hL) ha1 ha2 fun E' => ?_
  rw [ht]
  refine keys_tree (kz := bs.map k) (s := { s with heap := PySem.W.copyHeap s.heap vs }) (PySem.W.copyHeap_at s.heap vs) (by rw [List.length_map]; exact e.length.symm) (by rw [e.length]; exact hL) hal hk (PySem.W.bound_map (A := A.in1.in1) hu) (fun i v d hv hd g tk kp => ?_) fun h' tk out c kp hD ko => ⟨rfl, ?_⟩
  · rw [List.getElem?_map] at hd
    obtain ⟨x, hx, rfl⟩ : ∃ x, bs[i]? = some x ∧ k x = d := by
      cases q : bs[i]? with
      | none => rw [q] at hd; cases hd
      | some x => rw [q] at hd; exact ⟨x, rfl, Option.some.inj hd⟩
    have hz : (v, x) ∈ vs.zip bs := List.mem_of_getElem? (i := i) (by rw [List.getElem?_zip_eq_some]; exact ⟨hv, hx⟩)
    exact turn v x (e.zip _ hz) (List.mem_of_getElem? hx) g tk (up kp)
  · exact h out c h' tk (up kp) hD ((ko.length (by rw [List.length_map]; exact e.length.symm)).trans e.length) (PySem.W.keyedOut_each k ko e)
end
end Lp

/-! sorted(xs, key=f), xs told items of any kind, f a def that only makes objects, lists too. -/
namespace Lp
open PySem PySem.Spec PyProof.Rows L2
structure PureKeyR (G : Glb) {α : Type} (f : Addr) (ev : α → D) (k : α → PyData) (dom : α → Prop) : Prop where
  run : ∀ (A : Around) (outer : List Env) (s : Shared) (I H : Hp) (v : V) (u : Value) (x : α), Room 2 A → dom x → Env0 G.P G.w G.K G.mg G.base A outer s H → RdS I H → Rep G I v (ev x) → RelV v u → wpAny (model G.P G.w) A (call (.ref f) [u]) (KeyMade (k x) s) (fun _ _ => False) s
section
variable {G : Glb} {α : Type} {ev : α → D} {I : Hp}
theorem reps_each : ∀ {vs : List V} {us : List Value} {ns : List α}, Reps G I vs (ns.map ev) → Vals vs us → PySem.W.EachIs (fun v x => ∃ w, RelV w v ∧ Rep G I w (ev x)) us ns
  | [], [], [], _, _ => .nil
  | _ :: _, _ :: _, _ :: _, .cons a b, .cons c d => .cons ⟨_, c, a⟩ (reps_each b d)
theorem each_reps : ∀ {us : List Value} {ns : List α}, PySem.W.EachIs (fun v x => ∃ w, RelV w v ∧ Rep G I w (ev x)) us ns → ∃ ws, Vals ws us ∧ Reps G I ws (ns.map ev)
  | _, _, .nil => ⟨[], .nil, .nil⟩
  | _, _, .cons ⟨w, a, b⟩ c => by
    obtain ⟨ws, d, e⟩ := each_reps c
    exact ⟨w :: ws, .cons a d, .cons b e⟩
end
def rSortedR {α : Type} (G : Glb) (f : Addr) (ev : α → D) (k : α → PyData) (dom : α → Prop) (ns : List α) : List V → List V → Hp → VK → Prop := fun xs zs H Q => ∃ (I : Hp) (a : Addr) (ws : List V), xs = [.ref a] ∧ zs = [.ref f] ∧ SqL G.K H a ws ∧ RdS I H ∧ Reps G I ws (ns.map ev) ∧
  ∀ p ws', H p = none → Reps G I ws' ((ns.mergeSort (PySem.W.dataLe false k)).map ev) → Q (.ref p) (upd H p (.lst ws'))
theorem cr_sortedR {X : Cx} {T : List NdefX.NTab} {α : Type} {f : Addr} {ev : α → D} {k : α → PyData} {dom : α → Prop} {ns : List α} {j : Nat} (hk : PureKeyR (gx X T) f ev k dom) (hd : ∀ n ∈ ns, dom n) (hal : ∀ x y, PySem.W.alike (k x) (k y) = true) (hso : ∀ x, k x ≠ .none ∧ ∀ xs, k x ≠ .tuple xs) (hdep : ∀ x, (k x).depth ≤ 8) (hr : Room j X.A) (hj : 4 ≤ j) :
    CallRK X (.builtin "sorted") [Str.ofString "key"] (rSortedR (gx X T) f ev k dom ns) := by
  intro pins s σ H vs zs us ws Q I r rz h
  obtain ⟨I1, a, ws1, rfl, rfl, hs, rd, rp, q⟩ := h
  obtain rfl := Vals.ref1 r
  obtain ⟨w1, rfl, e1⟩ := vals1 rz
  obtain rfl : w1 = Value.ref f := e1
  obtain ⟨its, rv, hl, hz⟩ := I.list hs
  have el : ws1.length = ns.length := by rw [rp.len, List.length_map]
  rw [el] at hz
  have ei := reps_each rp rv
  refine sorted_made (b := false) (kw := [(Str.ofString "key", Value.ref f)]) k hl.isList ei (PySem.W.AllAlike.of hal) (PySem.W.Sortable.others hso) hz (fun p _ => ?_) (PyProof.Rows.ksk_s1 _ _) (fun _ => PyProof.Rows.ksk_l1 _ _) (fun _ => PyProof.Rows.ksk_t1 _ _)
    (fun v x ⟨w, rw1, rw2⟩ hx h tk kp => ?_) fun out c h' tk kp hD hlen eo => ?_
  · have := hdep p
    have := hr.units
    omega
  · have I2 : Inv X pins σ H { s with heap := h, toks := tk } := I.kept kp
    exact hk.run X.A.in1.in1 X.stack _ I1 H w v x (((hr.mono hj).in1).in1) (hd x hx) I2.env0.in1.in1 rd rw2 rw1
  · obtain ⟨ws', hv, hr'⟩ := each_reps eo
    refine ⟨.ref _, upd H (s.heap.objs.size + 1) (.lst ws'), I.laid (t' := tk) kp (Nat.le_succ _) ⟨?_, out, c, hv, hD⟩, rfl, q _ ws' (I.hok.fresh (Nat.le_succ _)) hr'⟩
    rw [hr'.len, List.length_map, List.length_mergeSort]
    exact hz
section
variable {X : Cx} {T : List NdefX.NTab} {U : Bool} {ds : List DS} {e : Expr} {x : Str} {p p2 pos kpos : Pos}
theorem dv_sortR {α : Type} {ev : α → D} {k : α → PyData} {dom : α → Prop} {ns : List α} {j : Nat} (h : DE X T U e ds (.lst (ns.map ev))) (hk : PureKeyR (gx X T) (He.ga X.K x) ev k dom) (hd : ∀ n ∈ ns, dom n) (hal : ∀ x y, PySem.W.alike (k x) (k y) = true) (hso : ∀ x, k x ≠ .none ∧ ∀ xs, k x ≠ .tuple xs) (hdep : ∀ x, (k x).depth ≤ 8) (hm : X.mg x = some (.ref (He.ga X.K x))) (hr : Room j X.A) (hs : X.mg "sorted" = none) (hj : 4 ≤ j := by decide) (hg : Gl X x := by rfl) (hgs : Gl X "sorted" := by rfl) (hdb : (x == ("__debug__" : Str)) = false := by decide)
    (he1 : starEach [e] X.env = [(false, eval e X.env)] := by rfl)
    (he : backTo pos (starEach [e] X.env) = (false, eval e X.env) :: backTo pos (starEach [] X.env) := by rfl) (hpl : (backTo pos (starEach [e] X.env)).any (·.1) = false := by rfl)
    (hall : (backToKw pos (keywordEach [⟨some "key", .Name x p2, kpos⟩] X.env)).all (·.1.isSome) = true := by rfl) (hnone : (backToKw pos (keywordEach [⟨some "key", .Name x p2, kpos⟩] X.env)).any (·.1.isNone) = false := by rfl) (hks : (backToKw pos (keywordEach [⟨some "key", .Name x p2, kpos⟩] X.env)).filterMap (·.1) = [Str.ofString "key"] := by rfl) :
    DV X T U (.Call (.Name "sorted" p) [e] [⟨some "key", .Name x p2, kpos⟩] pos) ds (.own ((ns.mergeSort (PySem.W.dataLe false k)).map ev)) :=
  (pe_callBK (p := p) (r := rSortedR (gx X T) (He.ga X.K x) ev k dom ns) (cr_sortedR hk hd hal hso hdep hr hj) hgs hs rfl (da_cons h da_nil he1) (pk_cons (pe_glob (v := .ref (He.ga X.K x)) hg hm rfl hdb) pk_nil) (by decide) (by decide) he hpl hall hnone hks).weak
    fun σ H Q ⟨I0, H0, I, en, k⟩ => ⟨I0, H0, I, en, fun vs I1 H1 s1 r1 => by
      cases r1 with
      | cons a b =>
        cases b
        cases a with
        | @lst p ws _ a b =>
          exact ⟨I1, _, ws, rfl, rfl, SqL.of (s1.sub.lst a), s1.sub, b, fun q ws' hq rr => k _ I1 _ (s1.trans (Step.newOwn s1.sub hq)) ⟨q, ws', rfl, s1.free hq, s1.sub.free hq, upd_same, rr⟩⟩⟩
end
end Lp

/-! Fields as places in trees of one's own. -/
namespace Lp
open PySem PySem.Spec PyProof.Rows L2
def fIx {α : Type} (f : Str) : List (Str × α) → Option Nat
  | [] => none
  | (g, _) :: r => if (f == g) = true then some 0 else (fIx f r).map (· + 1)
section
variable {G : Glb} {I H : Hp}
theorem orf_look {f : Str} : ∀ {vs : List (Str × V)} {ts : List (Str × OT)} {A : List Addr} {k : Nat}, ORF G I H vs ts A → fIx f ts = some k → ∃ w x, vs.lookup f = some w ∧ vs[k]? = some (x, w)
  | _, _, _, _, .nil, e => nomatch e
  | _, _, _, k, .cons (x := x) (v := v) a b _, e => by
    unfold fIx at e
    rw [List.lookup_cons]
    cases q : f == x with
    | true =>
      rw [q, if_pos rfl] at e
      cases e
      exact ⟨v, x, rfl, rfl⟩
    | false =>
      rw [q, if_neg Bool.false_ne_true] at e
      obtain ⟨j, e1, rfl⟩ := Option.map_eq_some_iff.mp e
      obtain ⟨w, y, z1, z2⟩ := orf_look b e1
      exact ⟨w, y, z1, z2⟩
end
section
variable {X : Cx} {T : List NdefX.NTab} {W : WX} {U : Bool} {ds : List DS} {s : DS} {E : DEn} {e : Expr} {pos : Pos}
/-- a field of a place -/
theorem dp_fld {i : Nat} {a : Expr} {q : Option Addr} {T' : OT} {π : Pth} {C f : Str} {ts : List (Str × OT)} {k : Nat} (h : ds[i]? = some (.ot q T')) (hg : T'.get π = some (.ins C ts)) (ha : DPl X T U a ds i π) (hk : fIx f ts = some k) (hc : Cls X.K (He.ga X.K C)) (hn : NoAttr X.K (He.ga X.K C) f) (hb : attributeBase a f X.env (eval a X.env) = eval a X.env := by rfl) :
    DPl X T U (.Attribute a f pos) ds i (π ++ [k]) :=
  (pe_fld ha hb).weak fun σ H Q ⟨I0, H0, I, en, kk⟩ => ⟨I0, H0, I, en, fun v w I1 H1 s1 e1 h1 => by
    obtain ⟨g1, B, g2, _⟩ := (en.step s1).place2 h hg e1 h1 (Step.refl s1.sub)
    cases g2 with
    | @ins p dx _ fs _ A a1 a2 a3 a4 =>
      obtain ⟨u, x, z1, z2⟩ := orf_look a4 hk
      exact ⟨p, _, dx, fs, u, rfl, a1, hc, hn, z1, kk v u I1 H1 s1 e1 (atv_snoc g1 (.ins a1 z2))⟩⟩
end
end Lp

/-! [f(x) for x in xs], each item a new tuple; all that is there stays. -/
namespace Lp
open PySem PySem.Spec PyProof.Rows
/-- what the walk of the items has come to -/
structure Rowed (s : Shared) (G : Value → Array Value → Prop) (C J D ax : Addr) (its : Array Value) (n : Nat) (z : Shared) : Prop where
  ex : ∃ g tk m ys i, z = { s with heap := g, toks := tk } ∧ g.IsListIter J ax i ∧ g.IsList ax its ∧ g.IsList D ys ∧ g.Ns C m ∧ Paired (TupAt C J D G g) (its.toList.take i) ys.toList ∧ i ≤ its.size ∧ n = its.size + 1 - i ∧ ∀ b o, b ≠ C → b ≠ J → b ≠ D → s.heap.get? b = some o → g.get? b = some o
section
variable {prog : Program} {w : World} {A : Around} {s : Shared} {env : Env} {elt iter : Expr} {x : Str} {px pos : Pos} {scope : Scope}
theorem rows_loop {C J D ax : Addr} {its : Array Value} {m : Str → Option Value} {R : Result → Shared → Prop} (G : Value → Array Value → Prop) (hh : A.handled = none) (hkind : scope.kind = .function) (hx : scope.names.lookup x = some .local)
    (n1 : D ≠ J) (n2 : D ≠ C) (n3 : J ≠ C) (n4 : ax ≠ J) (n5 : ax ≠ C) (n6 : ax ≠ D) (hi : s.heap.IsListIter J ax 0) (hl : s.heap.IsList ax its) (hd : s.heap.IsList D #[]) (hn : s.heap.Ns C m) (hz : its.size ≤ sizeLine)
    (one : ∀ (v : Value) (g : Heap) (tk : Nat) (m2 : Str → Option Value) (E2 : Value → Shared → Prop), v ∈ its → g.Ns C m2 → m2 x = some v → (∀ b o, b ≠ C → b ≠ J → b ≠ D → s.heap.get? b = some o → g.get? b = some o) →
      wpAny (model prog w) A (eval elt (compEnv scope C env)) (fun y z => (∃ P vs, y = .ref P ∧ g.get? P = none ∧ z.heap.IsTuple P vs ∧ G v vs) ∧ Keeps { s with heap := g, toks := tk } z) E2 { s with heap := g, toks := tk })
    (fin : ∀ g tk m2 ys, g.Ns C m2 → g.IsList D ys → Paired (TupAt C J D G g) its.toList ys.toList → (∀ b o, b ≠ C → b ≠ J → b ≠ D → s.heap.get? b = some o → g.get? b = some o) → R (.ok .next) { s with heap := g, toks := tk }) :
    codeAny (model prog w) A (.compLoop (.ListComp elt [⟨.Name x px, iter, [], 0⟩] scope pos) 0 (.ref J) (.ref D) (compEnv scope C env)) R s := by
  refine codeAny_compLoop_list (Rowed s G C J D ax its) (fun n z hI => ?_) (its.size + 1) ⟨s.heap, s.toks, m, #[], 0, rfl, hi, hl, hd, hn, by rw [List.take_zero]; exact .nil, Nat.zero_le _, rfl, fun _ _ _ _ _ e => e⟩
  obtain ⟨g, tk, m', ys, i, rfl, a1, a2, a3, a4, a5, a6, rfl, a8⟩ := hI
  cases hv : its[i]? with
  | none =>
    have hle : its.toList.length ≤ i := by simpa using hv
    refine wpAny_pyNext_list_end hh a1 a2 hv fun g1 k1 => ?_
    rw [List.take_of_length_le hle] at a5
    exact fin g1 tk m' ys (a4.extBut k1 (Ne.symm n3)) (a3.extBut k1 n1) (a5.mono fun _ _ q => q.keep fun b o _ hb _ e => k1 b o hb e) fun b o h1 h2 h3 e => k1 b o h2 (a8 b o h1 h2 h3 e)
  | some v =>
    obtain ⟨lt, ev⟩ := Array.getElem?_eq_some_iff.mp hv
    have mem : v ∈ its := by rw [← ev]; exact Array.getElem_mem lt
    have hvl : its.toList[i]? = some v := by simpa using hv
    refine wpAny_pyNext_list_item a1 a2 hv fun g1 b1 k1 => ?_
    refine wpAny_assign_Name (wpAny_storeName_local (show (compEnv scope C env).kindOf x = some .local from hx) (a4.sameBut k1 (Ne.symm n3)) (fun g2 b2 k2 => ?_) (by simp [compEnv, hkind]))
    have up2 : ∀ b o, b ≠ C → b ≠ J → g.get? b = some o → g2.get? b = some o := fun b o h1 h2 e => k2.extBut b o h1 (k1.extBut b o h2 e)
    refine wpAny_mono (one v g2 (tk + 1) _ _ mem b2 (by simp) fun b o h1 h2 h3 e => up2 b o h1 h2 (a8 b o h1 h2 h3 e)) (fun y z hy => ?_) fun _ _ e => e
    obtain ⟨⟨P, vs, rfl, new, tup, hG⟩, g3, tk3, rfl, k3⟩ := hy
    have up3 : ∀ b o, b ≠ C → b ≠ J → g.get? b = some o → g3.get? b = some o := fun b o h1 h2 e => k3 b o (up2 b o h1 h2 e)
    have nf : ∀ a o, g2.get? a = some o → P ≠ a := fun a o e z => by rw [← z, new] at e; cases e
    have it3 : g3.IsListIter J ax (i + 1) := (b1.extBut k2.extBut n3).at fun o e => k3 _ o e
    have PC : P ≠ C := by obtain ⟨o, _, _, e, _⟩ := b2; exact nf _ o e
    have PJ : P ≠ J := by obtain ⟨o, e, _⟩ := b1; exact nf _ o (k2.extBut J o n3 e)
    have PD : P ≠ D := by obtain ⟨o, e, _⟩ := a3; exact nf _ o (up2 D o n2 n1 e)
    have ysz : ys.size ≤ sizeLine := by
      have e1 := a5.length
      rw [List.length_take] at e1
      have e2 : ys.toList.length = ys.size := by simp
      omega
    refine wpAny_list_append (hsz := ysz) (a3.at fun o e => up3 D o n2 n1 e) fun g4 b4 k4 => ?_
    have up4 : ∀ b o, b ≠ C → b ≠ J → b ≠ D → g.get? b = some o → g4.get? b = some o := fun b o h1 h2 h3 e => k4.extBut b o h3 (up3 b o h1 h2 e)
    refine ⟨its.size + 1 - (i + 1), by omega, g4, tk3, _, ys.push (.ref P), i + 1, rfl, it3.extBut k4.extBut (Ne.symm n1), (a2.at fun o e => up3 ax o n5 n4 e).extBut k4.extBut n6, b4, (b2.keeps k3).sameBut k4 (Ne.symm n2), ?_, lt, rfl, fun b o h1 h2 h3 e => up4 b o h1 h2 h3 (a8 b o h1 h2 h3 e)⟩
    have et : its.toList.take (i + 1) = its.toList.take i ++ [v] := by rw [List.take_succ, hvl]; rfl
    have q4 : TupAt C J D G g4 v (.ref P) := by
      obtain ⟨o, e, r⟩ := tup
      exact ⟨P, vs, rfl, PC, PJ, PD, ⟨o, k4.extBut P o PD e, r⟩, hG⟩
    rw [et]
    have ep : (ys.push (.ref P)).toList = ys.toList ++ [.ref P] := by simp
    rw [ep]
    exact Paired.snoc (a5.mono fun _ _ q => q.keep fun b o h1 h2 h3 e => up4 b o h1 h2 h3 e) q4
theorem rows_comp {E : Value → Shared → Prop} {Q : Value → Shared → Prop} {ax : Addr} {its : Array Value} (G : Value → Array Value → Prop) (hh : A.handled = none) (hfree : ∀ y ∈ scope.names, y.2 ≠ .free) (hcell : ∀ y ∈ scope.names, y.2 ≠ .cell) (hkind : scope.kind = .function)
    (hnames : ∀ y ∈ scope.names, y.2 = .local → scope.names.lookup y.1 = some .local) (hx : scope.names.lookup x = some .local) (hl : s.heap.IsList ax its) (hz : its.size ≤ sizeLine)
    (hi : ∀ Q2 : Value → Shared → Prop, Q2 (.ref ax) s → wpAny (model prog w) A (eval iter env) Q2 E s)
    (one : ∀ (C : Addr) (v : Value) (g : Heap) (tk : Nat) (m2 : Str → Option Value) (E2 : Value → Shared → Prop), v ∈ its → g.Ns C m2 → m2 x = some v → (∀ b o, s.heap.get? b = some o → g.get? b = some o) →
      wpAny (model prog w) A (eval elt (compEnv scope C env)) (fun y z => (∃ P vs, y = .ref P ∧ g.get? P = none ∧ z.heap.IsTuple P vs ∧ G v vs) ∧ Keeps { s with heap := g, toks := tk } z) E2 { s with heap := g, toks := tk })
    (fin : ∀ D g tk ys, s.heap.get? D = none → g.IsList D ys → Paired (TupIs G g) its.toList ys.toList → (∀ b o, s.heap.get? b = some o → g.get? b = some o) → Q (.ref D) { s with heap := g, toks := tk })
    (hs : ∀ x, foldedSetIterable iter env x = pure x := by intro _; rfl) :
    wpAny (model prog w) A (eval (.ListComp elt [⟨.Name x px, iter, [], 0⟩] scope pos) env) Q E s := by
  refine wpAny_ListComp hfree hkind hnames (hi _ ?_) hs
  refine wpAny_pyIter_list hl (wpAny_newObj_type (hd := by size_fits) (wpAny_newFunctionEnv hcell (by intro y hy; simp at hy) (fun g1 ns1 k1 => ?_) hkind))
  dsimp only at ns1 k1 ⊢
  obtain ⟨ol, oe, _⟩ := id hl
  have lt := Heap.lt_size oe
  obtain ⟨H1, e1⟩ : ∃ H1, s.heap.push { cls := .type "list_iterator", data := .fields #[.ref ax, .int 0 0] } = H1 := ⟨_, rfl⟩
  rw [e1] at ns1 k1 ⊢
  have z1 : H1.objs.size = s.heap.objs.size + 1 := by rw [← e1, Heap.size_push]
  obtain ⟨H2, e2⟩ : ∃ H2, H1.push { cls := .type "list", dict := none, data := .seq ([] : List Value).toArray } = H2 := ⟨_, rfl⟩
  rw [e2] at ns1 k1 ⊢
  have z2 : H2.objs.size = s.heap.objs.size + 2 := by rw [← e2, Heap.size_push, z1]
  have n1 : H1.objs.size ≠ s.heap.objs.size := by rw [z1]; exact Nat.succ_ne_self _
  have n2 : H1.objs.size ≠ H2.objs.size := by rw [z1, z2]; exact Nat.ne_of_lt (Nat.lt_succ_self _)
  have n3 : s.heap.objs.size ≠ H2.objs.size := by rw [z2]; exact Nat.ne_of_lt (Nat.lt_succ_of_lt (Nat.lt_succ_self _))
  have far : ∀ b, b < s.heap.objs.size → b ≠ H2.objs.size ∧ b ≠ s.heap.objs.size ∧ b ≠ H1.objs.size := fun b hb => ⟨by rw [z2]; exact Nat.ne_of_lt (Nat.lt_succ_of_lt (Nat.lt_succ_of_lt hb)), Nat.ne_of_lt hb, by rw [z1]; exact Nat.ne_of_lt (Nat.lt_succ_of_lt hb)⟩
  have was : ∀ b o, s.heap.get? b = some o → g1.get? b = some o := fun b o e => k1.extBut b o (far b (Heap.lt_size e)).1 (Heap.get?_push_of_some _ (e2 ▸ Heap.get?_push_of_some _ (e1 ▸ Heap.get?_push_of_some _ e)))
  have itr : g1.IsListIter s.heap.objs.size ax 0 := ⟨_, k1.extBut _ _ n3 (Heap.get?_push_of_some _ (e2 ▸ Heap.get?_push_of_some _ (e1 ▸ Heap.get?_push_size _ rfl))), rfl, rfl⟩
  have acc : g1.IsList H1.objs.size #[] := ⟨_, k1.extBut _ _ n2 (Heap.get?_push_of_some _ (e2 ▸ Heap.get?_push_size _ rfl)), rfl, _, rfl⟩
  have new : s.heap.get? H1.objs.size = none := by
    cases e : s.heap.get? H1.objs.size with
    | none => rfl
    | some o => exact absurd (Heap.lt_size e) (by rw [z1]; exact Nat.not_lt.mpr (Nat.le_succ _))
  have loop : ∀ z : Shared, z = { s with heap := g1, toks := s.toks + ([] : List (Str × Value)).length } → codeAny (model prog w) A (.compLoop (.ListComp elt [⟨.Name x px, iter, [], 0⟩] scope pos) 0 (.ref s.heap.objs.size) (.ref H1.objs.size) (compEnv scope H2.objs.size env))
      (fun r s' => ∃ m, s'.heap.Ns H2.objs.size m ∧ ∀ h', Heap.SameBut H2.objs.size s'.heap h' →
          match r with | .ok _ => Q (.ref H1.objs.size) { s' with heap := h' } | .error x => wpAny (model prog w) A (passOn "comprehension.variables-let-go" x (compEnv scope H2.objs.size env)) Q E { s' with heap := h' }) z := by
    rintro z rfl
    refine rows_loop G hh hkind hx n1 n2 n3 (far ax lt).2.1 (far ax lt).1 (far ax lt).2.2 itr (hl.at fun o e => was ax o e) acc ns1 hz (fun v g tk m2 E2 hv hn hm k => one _ v g tk m2 E2 hv hn hm fun b o e => k b o (far b (Heap.lt_size e)).1 (far b (Heap.lt_size e)).2.1 (far b (Heap.lt_size e)).2.2 (was b o e)) fun g tk m2 ys hn hd hp k => ?_
    exact ⟨m2, hn, fun g2 k2 => fin _ g2 tk ys new (hd.extBut k2.extBut n2) (hp.mono fun v y q => (q.keep fun b o hb _ _ e => k2.extBut b o hb e).plain) fun b o e =>
      k2.extBut b o (far b (Heap.lt_size e)).1 (k b o (far b (Heap.lt_size e)).1 (far b (Heap.lt_size e)).2.1 (far b (Heap.lt_size e)).2.2 (was b o e))⟩
  exact codeAny_compStart_list (loop _ rfl) (wpAny_pyIter_listiter itr (loop _ rfl))
end
end Lp

/-! x is True, x is not True, x is not None as a value. -/
namespace Lp
open PySem PySem.Spec PyProof.Rows L2
section
variable {G : Glb}
def rIsBl : R2 := fun x y H Q => ∃ a b, x = .bl a ∧ y = .bl b ∧ Q (.bl (decide (a = b))) H
def rNotBl : R2 := fun x y H Q => ∃ a b, x = .bl a ∧ y = .bl b ∧ Q (.bl (!decide (a = b))) H
theorem r2_isBl {x y : Bool} : R2D G rIsBl (.bl x) (.bl y) (.im (.bl (decide (x = y)))) := fun I H v w Q r h1 h2 k => by
  cases h1; cases h2
  exact ⟨x, y, rfl, rfl, k _ I H (Step.refl r) (.bl _)⟩
theorem r2_notBl {x y : Bool} : R2D G rNotBl (.bl x) (.bl y) (.im (.bl (!decide (x = y)))) := fun I H v w Q r h1 h2 k => by
  cases h1; cases h2
  exact ⟨x, y, rfl, rfl, k _ I H (Step.refl r) (.bl _)⟩
end
section
variable {X : Cx} {T : List NdefX.NTab} {U : Bool} {ds : List DS} {a b : Expr} {pos : Pos} {x y : Bool}
theorem dt_isB (ha : DE X T U a ds (.bl x)) (hb : DE X T U b ds (.bl y)) (hn : behindInMarks .Is b = false := by rfl) : DT X T U (.Compare a [.Is] [b] pos) ds (decide (x = y)) := dt_cmp (r := rIsBl) op_is_bl r2_isBl ha hb hn
theorem dt_notB (ha : DE X T U a ds (.bl x)) (hb : DE X T U b ds (.bl y)) (hn : behindInMarks .IsNot b = false := by rfl) : DT X T U (.Compare a [.IsNot] [b] pos) ds (!decide (x = y)) := dt_cmp (r := rNotBl) op_isnot_bl r2_notBl ha hb hn
theorem de_notN {j : Nat} {p : Pos} {d : D} {c : Bool} (ha : DE X T U a ds d) (hc : ∀ (G : Glb) (I : Hp) (v : V), Rep G I v d → decide (v = .non) = c) : DE X T U (.Compare a [.IsNot] [.Constant .none j p] pos) ds (.bl (!c)) :=
  (pe_cmp (pc_notN ha)).weak fun σ H Q ⟨I0, H0, I, en, k⟩ => ⟨I0, H0, I, en, fun v I' H' st r => by
    show Q (.bl (!decide (v = .non))) H'
    rw [hc _ _ _ r]
    exact k _ I' H' st (.bl (!c))⟩
end
end Lp

/-! xs[::k], k 1 or -1, worked out. -/
namespace Lp
open PySem PySem.Spec PyProof.Rows L2
section
variable {X : Cx} {T : List NdefX.NTab} {U : Bool} {ds : List DS} {e st : Expr} {pos : Pos}
def turnL {α : Type} (k : Int) (xs : List α) : List α := if k = 1 then xs else xs.reverse
def tTurn (K : PySem.W.Frag) (te : TE) (tk : TO) : TE := fun σ H Q => te σ H fun x H1 => tk σ H1 fun o H2 => ∃ a xs k, x = .ref a ∧ o = some k ∧ (k = 1 ∨ k = -1) ∧ SqL K H2 a xs ∧ ∀ p, H2 p = none → Q (.ref p) (upd H2 p (.lst (turnL k xs)))
theorem pick_one (items : Array Value) : slicePick items none none (some 1) = items.toList.toArray := by
  have h : slicePick items none none (some 1) = slicePick items none none none := rfl
  have e : items = items.toList.toArray := by simp
  rw [h, e, slicePick_cut]
  simp only [HT.sIx, List.drop_zero]
  simp
  rw [List.take_of_length_le (Nat.le_of_eq (Array.length_toList (xs := items)))]
theorem pe_turnL {te : TE} {tk : TO} {p3 : Pos} (he : PE X e te) (hk : PO X (some st) tk)
    (ht : ∀ a b, subscripted (.Slice none none (some st) p3) false (.ref a) (.ref b) = operate [.ref a, .ref b] (getItem (.ref a) (.ref b)) := by intro _ _; with_unfolding_all rfl) : PE X (.Subscript e (.Slice none none (some st) p3) pos) (tTurn X.K te tk) := by
  refine ⟨fun pins s σ H Q I h => ?_⟩
  refine Subscript_ (thn (he.run pins s σ H _ I h) fun v s1 ⟨x, H1, I1, r1, q1⟩ => ?_)
  refine wpAny_Slice (thn (po_none.run pins s1 σ H1 (fun o H2 => o = none ∧ H2 = H1) I1 ⟨rfl, rfl⟩) fun lo s2 ⟨l, H2, I2, pl, el, e2⟩ => ?_)
  subst el e2
  refine thn (po_none.run pins s2 σ H2 (fun o H3 => o = none ∧ H3 = H2) I2 ⟨rfl, rfl⟩) fun hi s3 ⟨u, H3, I3, pu, eu, e3⟩ => ?_
  subst eu e3
  refine thn (hk.run pins s3 σ H3 _ I3 q1) fun sv s4 ⟨o, H4, I4, ps, q4⟩ => ?_
  obtain ⟨a, xs, k, rfl, rfl, hk1, hx, q⟩ := q4
  cases r1
  have I5 : Inv X pins σ H4 { s4 with heap := s4.heap.push { cls := .type "slice", data := .fields #[lo, hi, sv] } } := I4.kept (t' := s4.toks) fun b ob z => Heap.get?_push_of_some _ z
  obtain ⟨its, r, hl, hz⟩ := I5.list hx
  have hlen := r.length
  show wpAny (model X.prog X.w) X.A (subscriptTail e (.Slice none none (some st) p3) (.ref a) (.ref s4.heap.objs.size)) (EP X pins σ Q) X.xe { s4 with heap := s4.heap.push { cls := .type "slice", data := .fields #[lo, hi, sv] } }
  refine tail_any (ops := [.ref a, .ref s4.heap.objs.size]) hl.isList.typeIs (PySem.slot_list_getitem.lookup) ?_ (ht _ _)
  refine wpAny_getItem_list_slice (sl := s4.heap.objs.size) hl.isList (Heap.IsSliceOf.new _ lo hi sv) pl pu ps (by rcases hk1 with z | z <;> rw [z] <;> decide) ?_ (by rw [List.size_toArray]; omega)
  have fin : ∀ (zs : List V) (ys : List Value), Vals zs ys → zs.length = xs.length → turnL k xs = zs → slicePick its.toArray none none (some k) = ys.toArray → EP X pins σ Q (.ref { s4 with heap := s4.heap.push { cls := .type "slice", data := .fields #[lo, hi, sv] } }.heap.objs.size) { s4 with heap := (s4.heap.push { cls := .type "slice", data := .fields #[lo, hi, sv] }).push { cls := .type "list", data := .seq (slicePick its.toArray none none (some k)) } } := fun zs ys rz ez et ep => by
    rw [ep]
    refine ⟨.ref _, _, I5.laid (t' := s4.toks) (o := .lst zs) (fun b ob z => Heap.get?_push_of_some _ z) (Nat.le_refl _) ⟨by rw [ez]; exact hz, _, 0, rz, Heap.get?_push_size _ rfl⟩, rfl, ?_⟩
    have z := q _ (I5.hok.fresh (Nat.le_refl _))
    rw [et] at z
    exact z
  rcases hk1 with rfl | rfl
  · exact fin xs its r rfl (if_pos rfl) (by rw [pick_one])
  · exact fin xs.reverse its.reverse r.reverse (List.length_reverse ..) (if_neg (by decide)) (by rw [PySem.W.krv_pick])
theorem dv_turnL {k : Int} {p3 : Pos} {xs : List D} (he : DE X T U e ds (.lst xs)) (hk : DE X T U st ds (.int k)) (h1 : k = 1 ∨ k = -1)
    (ht : ∀ a b, subscripted (.Slice none none (some st) p3) false (.ref a) (.ref b) = operate [.ref a, .ref b] (getItem (.ref a) (.ref b)) := by intro _ _; with_unfolding_all rfl) : DV X T U (.Subscript e (.Slice none none (some st) p3) pos) ds (.own (turnL k xs)) :=
  (pe_turnL he (po_some hk) ht).weak fun σ H Q ⟨I0, H0, I, en, kk⟩ => ⟨I0, H0, I, en, fun v I1 H1 s1 r1 => ⟨I0, H0, I1, en.step s1, fun y I2 H2 s2 r2 => by
    cases r2
    cases r1 with
    | @lst p vs _ a b =>
      have s3 := s1.trans s2
      refine ⟨k, rfl, p, vs, k, rfl, rfl, h1, SqL.of (s2.sub.lst (s2.isub _ _ a)), fun q hq => kk _ I2 _ (s3.trans (Step.newOwn s2.sub hq)) ⟨q, _, rfl, s3.free hq, s2.sub.free hq, upd_same, ?_⟩⟩
      have gen : ∀ {vs : List V} {zs : List D}, Reps (gx X T) I1 vs zs → Reps (gx X T) I1 vs.reverse zs.reverse := fun {vs zs} h => by
        induction vs generalizing zs with
        | nil => cases h; exact .nil
        | cons v vs ih =>
          cases h with
          | cons h1 h2 =>
            rw [List.reverse_cons, List.reverse_cons]
            exact (ih h2).app (.cons h1 .nil)
      unfold turnL
      split
      · exact b.mono s2.isub
      · exact (gen b).mono s2.isub⟩⟩
end
end Lp

namespace K
open PySem PySem.Spec PyProof.Rows L2 Lp
def top (i : Nat) : Stmt := PySem.Challenge.pw_listpost_k03_whole_why.main.body.getD i (.Pass ⟨0, 0, 0, 0⟩)
abbrev FnP (K : PySem.W.Frag) (x : Str) (st : Stmt) (f : Addr) (fd : FuncData) : Prop := FunD K x x (defArgs st) (defBody st) (defScope st) [] [] f fd
abbrev MeP (K : PySem.W.Frag) (x q : Str) (st : Stmt) (f : Addr) (fd : FuncData) : Prop := FunD K x q (defArgs st) (defBody st) (defScope st) [] [] f fd
abbrev S_BadBook_init : Stmt := inClass (top 2) 0
abbrev S_is_name : Stmt := top 8
abbrev S_are_names : Stmt := top 9
abbrev S_rank : Stmt := top 10
abbrev S_in_order : Stmt := top 11
abbrev S_Entry_init : Stmt := inClass (top 12) 0
abbrev S_Entry_told : Stmt := inClass (top 12) 1
abbrev S_is_entry : Stmt := top 13
abbrev S_lists_of : Stmt := top 14
abbrev S_check_name : Stmt := top 15
abbrev S_check_names : Stmt := top 16
abbrev S_check_letter : Stmt := top 17
abbrev S_come_to : Stmt := top 18
abbrev S_reached_by : Stmt := top 19
abbrev S_stands_for : Stmt := top 20
abbrev S_lets_in : Stmt := top 21
abbrev S_holding : Stmt := top 22
abbrev S_reached : Stmt := top 23
abbrev S_Answer_shows : Stmt := inClass (top 25) 0
abbrev S_passing : Stmt := top 26
abbrev S_is_way : Stmt := top 27
abbrev S_steps_of : Stmt := top 28
abbrev S_Way_init : Stmt := inClass (top 29) 0
abbrev S_Way_shows : Stmt := inClass (top 29) 1
abbrev S_Shut_init : Stmt := inClass (top 30) 0
abbrev S_Shut_shows : Stmt := inClass (top 30) 1
abbrev S_Cut_init : Stmt := inClass (top 31) 0
abbrev S_Cut_shows : Stmt := inClass (top 31) 1
abbrev S_Named_shows : Stmt := inClass (top 32) 0
abbrev S_looked_at : Stmt := top 34
abbrev S_ways_in_order : Stmt := top 35
abbrev S_why : Stmt := top 36
abbrev S_law_draw : Stmt := top 38
abbrev S_law_cell_at : Stmt := top 39
abbrev S_law_digits : Stmt := top 40
abbrev S_law_letters : Stmt := top 41
abbrev S_law_names : Stmt := top 42
abbrev S_law_some : Stmt := top 43
abbrev S_law_entry : Stmt := top 44
abbrev S_law_book : Stmt := top 45
abbrev S_law_copy : Stmt := top 46
abbrev S_law_rank : Stmt := top 47
abbrev S_law_met : Stmt := top 48
abbrev S_law_lists : Stmt := top 49
abbrev S_law_all : Stmt := top 50
abbrev S_law_reached : Stmt := top 51
abbrev S_law_passed : Stmt := top 52
abbrev S_law_ranks : Stmt := top 53
abbrev S_law_first_way : Stmt := top 54
abbrev S_law_closed : Stmt := top 55
abbrev S_law_kinds : Stmt := top 56
abbrev S_law_why_right : Stmt := top 57
abbrev S_law_elsewhere : Stmt := top 58
abbrev S_law_ties_right : Stmt := top 59
abbrev S_law : Stmt := top 60
structure Facts (G : Glb) : Prop where
  b_len : G.mg "len" = none
  b_abs : G.mg "abs" = none
  b_sum : G.mg "sum" = none
  b_range : G.mg "range" = none
  b_enumerate : G.mg "enumerate" = none
  b_isinstance : G.mg "isinstance" = none
  b_all : G.mg "all" = none
  b_any : G.mg "any" = none
  b_list : G.mg "list" = none
  b_max : G.mg "max" = none
  b_min : G.mg "min" = none
  b_set : G.mg "set" = none
  b_str : G.mg "str" = none
  b_sorted : G.mg "sorted" = none
  b_zip : G.mg "zip" = none
  b_bool : G.mg "bool" = none
  b_tuple : G.mg "tuple" = none
  b_ValueError : G.mg "ValueError" = none
  c_LETTERS : ∃ t, G.mg "LETTERS" = some (.str "abcdefghijklmnopqrstuvwxyz" t)
  c_LONGEST : ∃ t, G.mg "LONGEST" = some (.int 20 t)
  g_is_name : G.mg "is_name" = some (.ref (He.ga G.K "is_name"))
  f_is_name : FnP G.K "is_name" S_is_name (He.ga G.K "is_name") (fdOf G.K (He.ga G.K "is_name"))
  n_is_name : L2.Binds G.K (fdOf G.K (He.ga G.K "is_name")) ["thing"] []
  g_are_names : G.mg "are_names" = some (.ref (He.ga G.K "are_names"))
  f_are_names : FnP G.K "are_names" S_are_names (He.ga G.K "are_names") (fdOf G.K (He.ga G.K "are_names"))
  n_are_names : L2.Binds G.K (fdOf G.K (He.ga G.K "are_names")) ["thing"] []
  g_rank : G.mg "rank" = some (.ref (He.ga G.K "rank"))
  f_rank : FnP G.K "rank" S_rank (He.ga G.K "rank") (fdOf G.K (He.ga G.K "rank"))
  n_rank : L2.Binds G.K (fdOf G.K (He.ga G.K "rank")) ["name"] []
  g_in_order : G.mg "in_order" = some (.ref (He.ga G.K "in_order"))
  f_in_order : FnP G.K "in_order" S_in_order (He.ga G.K "in_order") (fdOf G.K (He.ga G.K "in_order"))
  n_in_order : L2.Binds G.K (fdOf G.K (He.ga G.K "in_order")) ["names"] []
  g_is_entry : G.mg "is_entry" = some (.ref (He.ga G.K "is_entry"))
  f_is_entry : FnP G.K "is_entry" S_is_entry (He.ga G.K "is_entry") (fdOf G.K (He.ga G.K "is_entry"))
  n_is_entry : L2.Binds G.K (fdOf G.K (He.ga G.K "is_entry")) ["thing"] []
  g_lists_of : G.mg "lists_of" = some (.ref (He.ga G.K "lists_of"))
  f_lists_of : FnP G.K "lists_of" S_lists_of (He.ga G.K "lists_of") (fdOf G.K (He.ga G.K "lists_of"))
  n_lists_of : L2.Binds G.K (fdOf G.K (He.ga G.K "lists_of")) ["book"] []
  g_check_name : G.mg "check_name" = some (.ref (He.ga G.K "check_name"))
  f_check_name : FnP G.K "check_name" S_check_name (He.ga G.K "check_name") (fdOf G.K (He.ga G.K "check_name"))
  n_check_name : L2.Binds G.K (fdOf G.K (He.ga G.K "check_name")) ["name"] []
  g_check_names : G.mg "check_names" = some (.ref (He.ga G.K "check_names"))
  f_check_names : FnP G.K "check_names" S_check_names (He.ga G.K "check_names") (fdOf G.K (He.ga G.K "check_names"))
  n_check_names : L2.Binds G.K (fdOf G.K (He.ga G.K "check_names")) ["names"] []
  g_check_letter : G.mg "check_letter" = some (.ref (He.ga G.K "check_letter"))
  f_check_letter : FnP G.K "check_letter" S_check_letter (He.ga G.K "check_letter") (fdOf G.K (He.ga G.K "check_letter"))
  n_check_letter : L2.Binds G.K (fdOf G.K (He.ga G.K "check_letter")) ["sender", "names"] []
  g_come_to : G.mg "come_to" = some (.ref (He.ga G.K "come_to"))
  f_come_to : FnP G.K "come_to" S_come_to (He.ga G.K "come_to") (fdOf G.K (He.ga G.K "come_to"))
  n_come_to : L2.Binds G.K (fdOf G.K (He.ga G.K "come_to")) ["lists", "names", "goes"] []
  g_reached_by : G.mg "reached_by" = some (.ref (He.ga G.K "reached_by"))
  f_reached_by : FnP G.K "reached_by" S_reached_by (He.ga G.K "reached_by") (fdOf G.K (He.ga G.K "reached_by"))
  n_reached_by : L2.Binds G.K (fdOf G.K (He.ga G.K "reached_by")) ["lists", "names", "passes"] []
  g_stands_for : G.mg "stands_for" = some (.ref (He.ga G.K "stands_for"))
  f_stands_for : FnP G.K "stands_for" S_stands_for (He.ga G.K "stands_for") (fdOf G.K (He.ga G.K "stands_for"))
  n_stands_for : L2.Binds G.K (fdOf G.K (He.ga G.K "stands_for")) ["lists", "name"] []
  g_lets_in : G.mg "lets_in" = some (.ref (He.ga G.K "lets_in"))
  f_lets_in : FnP G.K "lets_in" S_lets_in (He.ga G.K "lets_in") (fdOf G.K (He.ga G.K "lets_in"))
  n_lets_in : L2.Binds G.K (fdOf G.K (He.ga G.K "lets_in")) ["lists", "sender"] []
  g_holding : G.mg "holding" = some (.ref (He.ga G.K "holding"))
  f_holding : FnP G.K "holding" S_holding (He.ga G.K "holding") (fdOf G.K (He.ga G.K "holding"))
  n_holding : L2.Binds G.K (fdOf G.K (He.ga G.K "holding")) ["lists", "names", "passes"] []
  g_reached : G.mg "reached" = some (.ref (He.ga G.K "reached"))
  f_reached : FnP G.K "reached" S_reached (He.ga G.K "reached") (fdOf G.K (He.ga G.K "reached"))
  n_reached : L2.Binds G.K (fdOf G.K (He.ga G.K "reached")) ["book", "sender", "names"] []
  g_passing : G.mg "passing" = some (.ref (He.ga G.K "passing"))
  f_passing : FnP G.K "passing" S_passing (He.ga G.K "passing") (fdOf G.K (He.ga G.K "passing"))
  n_passing : L2.Binds G.K (fdOf G.K (He.ga G.K "passing")) ["lists", "sender", "person"] []
  g_is_way : G.mg "is_way" = some (.ref (He.ga G.K "is_way"))
  f_is_way : FnP G.K "is_way" S_is_way (He.ga G.K "is_way") (fdOf G.K (He.ga G.K "is_way"))
  n_is_way : L2.Binds G.K (fdOf G.K (He.ga G.K "is_way")) ["lists", "passed", "names", "person", "way"] []
  g_steps_of : G.mg "steps_of" = some (.ref (He.ga G.K "steps_of"))
  f_steps_of : FnP G.K "steps_of" S_steps_of (He.ga G.K "steps_of") (fdOf G.K (He.ga G.K "steps_of"))
  n_steps_of : L2.Binds G.K (fdOf G.K (He.ga G.K "steps_of")) ["way"] []
  g_looked_at : G.mg "looked_at" = some (.ref (He.ga G.K "looked_at"))
  f_looked_at : FnP G.K "looked_at" S_looked_at (He.ga G.K "looked_at") (fdOf G.K (He.ga G.K "looked_at"))
  n_looked_at : L2.Binds G.K (fdOf G.K (He.ga G.K "looked_at")) ["book", "sender", "names", "person"] []
  g_ways_in_order : G.mg "ways_in_order" = some (.ref (He.ga G.K "ways_in_order"))
  f_ways_in_order : FnP G.K "ways_in_order" S_ways_in_order (He.ga G.K "ways_in_order") (fdOf G.K (He.ga G.K "ways_in_order"))
  n_ways_in_order : L2.Binds G.K (fdOf G.K (He.ga G.K "ways_in_order")) ["lists", "passed", "names"] []
  g_why : G.mg "why" = some (.ref (He.ga G.K "why"))
  f_why : FnP G.K "why" S_why (He.ga G.K "why") (fdOf G.K (He.ga G.K "why"))
  n_why : L2.Binds G.K (fdOf G.K (He.ga G.K "why")) ["book", "sender", "names", "person"] []
  g_law_draw : G.mg "_law_draw" = some (.ref (He.ga G.K "_law_draw"))
  f_law_draw : FnP G.K "_law_draw" S_law_draw (He.ga G.K "_law_draw") (fdOf G.K (He.ga G.K "_law_draw"))
  n_law_draw : L2.Binds G.K (fdOf G.K (He.ga G.K "_law_draw")) ["_law_cell", "_law_k", "_law_many"] []
  g_law_cell_at : G.mg "_law_cell_at" = some (.ref (He.ga G.K "_law_cell_at"))
  f_law_cell_at : FnP G.K "_law_cell_at" S_law_cell_at (He.ga G.K "_law_cell_at") (fdOf G.K (He.ga G.K "_law_cell_at"))
  n_law_cell_at : L2.Binds G.K (fdOf G.K (He.ga G.K "_law_cell_at")) ["_law_script", "_law_k"] []
  g_law_digits : G.mg "_law_digits" = some (.ref (He.ga G.K "_law_digits"))
  f_law_digits : FnP G.K "_law_digits" S_law_digits (He.ga G.K "_law_digits") (fdOf G.K (He.ga G.K "_law_digits"))
  n_law_digits : L2.Binds G.K (fdOf G.K (He.ga G.K "_law_digits")) ["_law_script", "_law_at", "_law_many", "_law_base"] []
  g_law_letters : G.mg "_law_letters" = some (.ref (He.ga G.K "_law_letters"))
  f_law_letters : FnP G.K "_law_letters" S_law_letters (He.ga G.K "_law_letters") (fdOf G.K (He.ga G.K "_law_letters"))
  n_law_letters : L2.Binds G.K (fdOf G.K (He.ga G.K "_law_letters")) [] []
  g_law_names : G.mg "_law_names" = some (.ref (He.ga G.K "_law_names"))
  f_law_names : FnP G.K "_law_names" S_law_names (He.ga G.K "_law_names") (fdOf G.K (He.ga G.K "_law_names"))
  n_law_names : L2.Binds G.K (fdOf G.K (He.ga G.K "_law_names")) ["_law_script", "_law_at", "_law_many"] []
  g_law_some : G.mg "_law_some" = some (.ref (He.ga G.K "_law_some"))
  f_law_some : FnP G.K "_law_some" S_law_some (He.ga G.K "_law_some") (fdOf G.K (He.ga G.K "_law_some"))
  n_law_some : L2.Binds G.K (fdOf G.K (He.ga G.K "_law_some")) ["_law_names_here", "_law_number"] []
  g_law_entry : G.mg "_law_entry" = some (.ref (He.ga G.K "_law_entry"))
  f_law_entry : FnP G.K "_law_entry" S_law_entry (He.ga G.K "_law_entry") (fdOf G.K (He.ga G.K "_law_entry"))
  n_law_entry : L2.Binds G.K (fdOf G.K (He.ga G.K "_law_entry")) ["_law_script", "_law_at", "_law_name", "_law_names_here"] []
  g_law_book : G.mg "_law_book" = some (.ref (He.ga G.K "_law_book"))
  f_law_book : FnP G.K "_law_book" S_law_book (He.ga G.K "_law_book") (fdOf G.K (He.ga G.K "_law_book"))
  n_law_book : L2.Binds G.K (fdOf G.K (He.ga G.K "_law_book")) ["_law_script", "_law_at", "_law_names_here", "_law_many"] []
  g_law_copy : G.mg "_law_copy" = some (.ref (He.ga G.K "_law_copy"))
  f_law_copy : FnP G.K "_law_copy" S_law_copy (He.ga G.K "_law_copy") (fdOf G.K (He.ga G.K "_law_copy"))
  n_law_copy : L2.Binds G.K (fdOf G.K (He.ga G.K "_law_copy")) ["_law_book_here"] []
  g_law_rank : G.mg "_law_rank" = some (.ref (He.ga G.K "_law_rank"))
  f_law_rank : FnP G.K "_law_rank" S_law_rank (He.ga G.K "_law_rank") (fdOf G.K (He.ga G.K "_law_rank"))
  n_law_rank : L2.Binds G.K (fdOf G.K (He.ga G.K "_law_rank")) ["_law_name"] []
  g_law_met : G.mg "_law_met" = some (.ref (He.ga G.K "_law_met"))
  f_law_met : FnP G.K "_law_met" S_law_met (He.ga G.K "_law_met") (fdOf G.K (He.ga G.K "_law_met"))
  n_law_met : L2.Binds G.K (fdOf G.K (He.ga G.K "_law_met")) ["_law_book_here", "_law_names_here", "_law_passed_here", "_law_person"] []
  g_law_lists : G.mg "_law_lists" = some (.ref (He.ga G.K "_law_lists"))
  f_law_lists : FnP G.K "_law_lists" S_law_lists (He.ga G.K "_law_lists") (fdOf G.K (He.ga G.K "_law_lists"))
  n_law_lists : L2.Binds G.K (fdOf G.K (He.ga G.K "_law_lists")) ["_law_book_here"] []
  g_law_all : G.mg "_law_all" = some (.ref (He.ga G.K "_law_all"))
  f_law_all : FnP G.K "_law_all" S_law_all (He.ga G.K "_law_all") (fdOf G.K (He.ga G.K "_law_all"))
  n_law_all : L2.Binds G.K (fdOf G.K (He.ga G.K "_law_all")) ["_law_book_here", "_law_names_here"] []
  g_law_reached : G.mg "_law_reached" = some (.ref (He.ga G.K "_law_reached"))
  f_law_reached : FnP G.K "_law_reached" S_law_reached (He.ga G.K "_law_reached") (fdOf G.K (He.ga G.K "_law_reached"))
  n_law_reached : L2.Binds G.K (fdOf G.K (He.ga G.K "_law_reached")) ["_law_book_here", "_law_names_here", "_law_passed_here"] []
  g_law_passed : G.mg "_law_passed" = some (.ref (He.ga G.K "_law_passed"))
  f_law_passed : FnP G.K "_law_passed" S_law_passed (He.ga G.K "_law_passed") (fdOf G.K (He.ga G.K "_law_passed"))
  n_law_passed : L2.Binds G.K (fdOf G.K (He.ga G.K "_law_passed")) ["_law_book_here", "_law_sender"] []
  g_law_ranks : G.mg "_law_ranks" = some (.ref (He.ga G.K "_law_ranks"))
  f_law_ranks : FnP G.K "_law_ranks" S_law_ranks (He.ga G.K "_law_ranks") (fdOf G.K (He.ga G.K "_law_ranks"))
  n_law_ranks : L2.Binds G.K (fdOf G.K (He.ga G.K "_law_ranks")) ["_law_way"] []
  g_law_first_way : G.mg "_law_first_way" = some (.ref (He.ga G.K "_law_first_way"))
  f_law_first_way : FnP G.K "_law_first_way" S_law_first_way (He.ga G.K "_law_first_way") (fdOf G.K (He.ga G.K "_law_first_way"))
  n_law_first_way : L2.Binds G.K (fdOf G.K (He.ga G.K "_law_first_way")) ["_law_book_here", "_law_names_here", "_law_passed_here", "_law_person"] []
  g_law_closed : G.mg "_law_closed" = some (.ref (He.ga G.K "_law_closed"))
  f_law_closed : FnP G.K "_law_closed" S_law_closed (He.ga G.K "_law_closed") (fdOf G.K (He.ga G.K "_law_closed"))
  n_law_closed : L2.Binds G.K (fdOf G.K (He.ga G.K "_law_closed")) ["_law_book_here", "_law_names_here", "_law_passed_here", "_law_person"] []
  g_law_kinds : G.mg "_law_kinds" = some (.ref (He.ga G.K "_law_kinds"))
  f_law_kinds : FnP G.K "_law_kinds" S_law_kinds (He.ga G.K "_law_kinds") (fdOf G.K (He.ga G.K "_law_kinds"))
  n_law_kinds : L2.Binds G.K (fdOf G.K (He.ga G.K "_law_kinds")) ["_law_told"] []
  g_law_why_right : G.mg "_law_why_right" = some (.ref (He.ga G.K "_law_why_right"))
  f_law_why_right : FnP G.K "_law_why_right" S_law_why_right (He.ga G.K "_law_why_right") (fdOf G.K (He.ga G.K "_law_why_right"))
  n_law_why_right : L2.Binds G.K (fdOf G.K (He.ga G.K "_law_why_right")) ["_law_book_here", "_law_sender", "_law_names_here", "_law_passed_here", "_law_person"] []
  g_law_elsewhere : G.mg "_law_elsewhere" = some (.ref (He.ga G.K "_law_elsewhere"))
  f_law_elsewhere : FnP G.K "_law_elsewhere" S_law_elsewhere (He.ga G.K "_law_elsewhere") (fdOf G.K (He.ga G.K "_law_elsewhere"))
  n_law_elsewhere : L2.Binds G.K (fdOf G.K (He.ga G.K "_law_elsewhere")) ["_law_book_here", "_law_sender", "_law_names_here", "_law_person", "_law_other"] []
  g_law_ties_right : G.mg "_law_ties_right" = some (.ref (He.ga G.K "_law_ties_right"))
  f_law_ties_right : FnP G.K "_law_ties_right" S_law_ties_right (He.ga G.K "_law_ties_right") (fdOf G.K (He.ga G.K "_law_ties_right"))
  n_law_ties_right : L2.Binds G.K (fdOf G.K (He.ga G.K "_law_ties_right")) ["_law_names_here", "_law_number"] []
  g_law : G.mg "law" = some (.ref (He.ga G.K "law"))
  f_law : FnP G.K "law" S_law (He.ga G.K "law") (fdOf G.K (He.ga G.K "law"))
  n_law : L2.Binds G.K (fdOf G.K (He.ga G.K "law")) ["_law_script"] []
  g_Entry : G.mg "Entry" = some (.ref (He.ga G.K "Entry"))
  k_Entry : Cls G.K (He.ga G.K "Entry")
  a_Entry_members : NoAttr G.K (He.ga G.K "Entry") "members"
  a_Entry_left : NoAttr G.K (He.ga G.K "Entry") "left"
  a_Entry_gate : NoAttr G.K (He.ga G.K "Entry") "gate"
  mk_Entry : Mk G.K (He.ga G.K "Entry") (He.ma G.K (He.ga G.K "Entry") "__init__")
  f_Entry_init : MeP G.K "__init__" "Entry.__init__" S_Entry_init (He.ma G.K (He.ga G.K "Entry") "__init__") (fdOf G.K (He.ma G.K (He.ga G.K "Entry") "__init__"))
  n_Entry_init : L2.Binds G.K (fdOf G.K (He.ma G.K (He.ga G.K "Entry") "__init__")) ["self", "members", "left", "gate"] []
  m_Entry_told : Meth G.K (He.ga G.K "Entry") "told" (He.ma G.K (He.ga G.K "Entry") "told")
  f_Entry_told : MeP G.K "told" "Entry.told" S_Entry_told (He.ma G.K (He.ga G.K "Entry") "told") (fdOf G.K (He.ma G.K (He.ga G.K "Entry") "told"))
  n_Entry_told : L2.Binds G.K (fdOf G.K (He.ma G.K (He.ga G.K "Entry") "told")) ["self", "name"] []
  g_Answer : G.mg "Answer" = some (.ref (He.ga G.K "Answer"))
  k_Answer : Cls G.K (He.ga G.K "Answer")
  m_Answer_shows : Meth G.K (He.ga G.K "Answer") "shows" (He.ma G.K (He.ga G.K "Answer") "shows")
  f_Answer_shows : MeP G.K "shows" "Answer.shows" S_Answer_shows (He.ma G.K (He.ga G.K "Answer") "shows") (fdOf G.K (He.ma G.K (He.ga G.K "Answer") "shows"))
  n_Answer_shows : L2.Binds G.K (fdOf G.K (He.ma G.K (He.ga G.K "Answer") "shows")) ["self", "book", "sender", "names", "person"] []
  g_Way : G.mg "Way" = some (.ref (He.ga G.K "Way"))
  k_Way : Cls G.K (He.ga G.K "Way")
  a_Way_names : NoAttr G.K (He.ga G.K "Way") "names"
  mk_Way : Mk G.K (He.ga G.K "Way") (He.ma G.K (He.ga G.K "Way") "__init__")
  f_Way_init : MeP G.K "__init__" "Way.__init__" S_Way_init (He.ma G.K (He.ga G.K "Way") "__init__") (fdOf G.K (He.ma G.K (He.ga G.K "Way") "__init__"))
  n_Way_init : L2.Binds G.K (fdOf G.K (He.ma G.K (He.ga G.K "Way") "__init__")) ["self", "names"] []
  m_Way_shows : Meth G.K (He.ga G.K "Way") "shows" (He.ma G.K (He.ga G.K "Way") "shows")
  f_Way_shows : MeP G.K "shows" "Way.shows" S_Way_shows (He.ma G.K (He.ga G.K "Way") "shows") (fdOf G.K (He.ma G.K (He.ga G.K "Way") "shows"))
  n_Way_shows : L2.Binds G.K (fdOf G.K (He.ma G.K (He.ga G.K "Way") "shows")) ["self", "book", "sender", "names", "person"] []
  g_Shut : G.mg "Shut" = some (.ref (He.ga G.K "Shut"))
  k_Shut : Cls G.K (He.ga G.K "Shut")
  a_Shut_names : NoAttr G.K (He.ga G.K "Shut") "names"
  mk_Shut : Mk G.K (He.ga G.K "Shut") (He.ma G.K (He.ga G.K "Shut") "__init__")
  f_Shut_init : MeP G.K "__init__" "Shut.__init__" S_Shut_init (He.ma G.K (He.ga G.K "Shut") "__init__") (fdOf G.K (He.ma G.K (He.ga G.K "Shut") "__init__"))
  n_Shut_init : L2.Binds G.K (fdOf G.K (He.ma G.K (He.ga G.K "Shut") "__init__")) ["self", "names"] []
  m_Shut_shows : Meth G.K (He.ga G.K "Shut") "shows" (He.ma G.K (He.ga G.K "Shut") "shows")
  f_Shut_shows : MeP G.K "shows" "Shut.shows" S_Shut_shows (He.ma G.K (He.ga G.K "Shut") "shows") (fdOf G.K (He.ma G.K (He.ga G.K "Shut") "shows"))
  n_Shut_shows : L2.Binds G.K (fdOf G.K (He.ma G.K (He.ga G.K "Shut") "shows")) ["self", "book", "sender", "names", "person"] []
  g_Cut : G.mg "Cut" = some (.ref (He.ga G.K "Cut"))
  k_Cut : Cls G.K (He.ga G.K "Cut")
  a_Cut_pairs : NoAttr G.K (He.ga G.K "Cut") "pairs"
  a_Cut_ways : NoAttr G.K (He.ga G.K "Cut") "ways"
  mk_Cut : Mk G.K (He.ga G.K "Cut") (He.ma G.K (He.ga G.K "Cut") "__init__")
  f_Cut_init : MeP G.K "__init__" "Cut.__init__" S_Cut_init (He.ma G.K (He.ga G.K "Cut") "__init__") (fdOf G.K (He.ma G.K (He.ga G.K "Cut") "__init__"))
  n_Cut_init : L2.Binds G.K (fdOf G.K (He.ma G.K (He.ga G.K "Cut") "__init__")) ["self", "pairs", "ways"] []
  m_Cut_shows : Meth G.K (He.ga G.K "Cut") "shows" (He.ma G.K (He.ga G.K "Cut") "shows")
  f_Cut_shows : MeP G.K "shows" "Cut.shows" S_Cut_shows (He.ma G.K (He.ga G.K "Cut") "shows") (fdOf G.K (He.ma G.K (He.ga G.K "Cut") "shows"))
  n_Cut_shows : L2.Binds G.K (fdOf G.K (He.ma G.K (He.ga G.K "Cut") "shows")) ["self", "book", "sender", "names", "person"] []
  g_Named : G.mg "Named" = some (.ref (He.ga G.K "Named"))
  k_Named : Cls G.K (He.ga G.K "Named")
  m_Named_shows : Meth G.K (He.ga G.K "Named") "shows" (He.ma G.K (He.ga G.K "Named") "shows")
  f_Named_shows : MeP G.K "shows" "Named.shows" S_Named_shows (He.ma G.K (He.ga G.K "Named") "shows") (fdOf G.K (He.ma G.K (He.ga G.K "Named") "shows"))
  n_Named_shows : L2.Binds G.K (fdOf G.K (He.ma G.K (He.ga G.K "Named") "shows")) ["self", "book", "sender", "names", "person"] []
  g_PostError : G.mg "PostError" = some (.ref (He.ga G.K "PostError"))
  e_PostError : PySem.W.excIn G.K (He.ga G.K "PostError") He.veBase "ValueError.__new__" = true ∧ PySem.W.keepIn G.K (.ref (He.ga G.K "PostError")) = true ∧ PySem.W.subIn G.K (.ref (He.ga G.K "PostError")) (.type "BaseException") = some true ∧ PySem.W.typeIn G.K (.ref (He.ga G.K "PostError")) = some (.type "type")
  g_BadBook : G.mg "BadBook" = some (.ref (He.ga G.K "BadBook"))
  g_BadName : G.mg "BadName" = some (.ref (He.ga G.K "BadName"))
  e_BadName : PySem.W.excIn G.K (He.ga G.K "BadName") He.veBase "ValueError.__new__" = true ∧ PySem.W.keepIn G.K (.ref (He.ga G.K "BadName")) = true ∧ PySem.W.subIn G.K (.ref (He.ga G.K "BadName")) (.type "BaseException") = some true ∧ PySem.W.typeIn G.K (.ref (He.ga G.K "BadName")) = some (.type "type")
  g_BadNames : G.mg "BadNames" = some (.ref (He.ga G.K "BadNames"))
  e_BadNames : PySem.W.excIn G.K (He.ga G.K "BadNames") He.veBase "ValueError.__new__" = true ∧ PySem.W.keepIn G.K (.ref (He.ga G.K "BadNames")) = true ∧ PySem.W.subIn G.K (.ref (He.ga G.K "BadNames")) (.type "BaseException") = some true ∧ PySem.W.typeIn G.K (.ref (He.ga G.K "BadNames")) = some (.type "type")
  t_reached_by : HasTab G (He.ga G.K "reached_by") "reached_by.<locals>.goes"
  t_stands_for : HasTab G (He.ga G.K "stands_for") "stands_for.<locals>.<lambda>"
  t_reached : HasTab G (He.ga G.K "reached") "reached.<locals>.passes"
  t_Cut_shows : HasTab G (He.ma G.K (He.ga G.K "Cut") "shows") "Cut.shows.<locals>.<lambda>"
  i_Way_Way : IsC G.K (He.ga G.K "Way") (He.ga G.K "Way") true
  i_Way_Shut : IsC G.K (He.ga G.K "Way") (He.ga G.K "Shut") false
  i_Way_Cut : IsC G.K (He.ga G.K "Way") (He.ga G.K "Cut") false
  i_Way_Named : IsC G.K (He.ga G.K "Way") (He.ga G.K "Named") false
  i_Way_Answer : IsC G.K (He.ga G.K "Way") (He.ga G.K "Answer") true
  i_Shut_Way : IsC G.K (He.ga G.K "Shut") (He.ga G.K "Way") false
  i_Shut_Shut : IsC G.K (He.ga G.K "Shut") (He.ga G.K "Shut") true
  i_Shut_Cut : IsC G.K (He.ga G.K "Shut") (He.ga G.K "Cut") false
  i_Shut_Named : IsC G.K (He.ga G.K "Shut") (He.ga G.K "Named") false
  i_Shut_Answer : IsC G.K (He.ga G.K "Shut") (He.ga G.K "Answer") true
  i_Cut_Way : IsC G.K (He.ga G.K "Cut") (He.ga G.K "Way") false
  i_Cut_Shut : IsC G.K (He.ga G.K "Cut") (He.ga G.K "Shut") false
  i_Cut_Cut : IsC G.K (He.ga G.K "Cut") (He.ga G.K "Cut") true
  i_Cut_Named : IsC G.K (He.ga G.K "Cut") (He.ga G.K "Named") false
  i_Cut_Answer : IsC G.K (He.ga G.K "Cut") (He.ga G.K "Answer") true
  i_Named_Way : IsC G.K (He.ga G.K "Named") (He.ga G.K "Way") false
  i_Named_Shut : IsC G.K (He.ga G.K "Named") (He.ga G.K "Shut") false
  i_Named_Cut : IsC G.K (He.ga G.K "Named") (He.ga G.K "Cut") false
  i_Named_Named : IsC G.K (He.ga G.K "Named") (He.ga G.K "Named") true
  i_Named_Answer : IsC G.K (He.ga G.K "Named") (He.ga G.K "Answer") true
/-! ### the law's draws -/
def primes : List Int := [1000003, 1000033, 1000037, 1000039, 1000081, 1000099, 1000117, 1000121, 1000133, 1000151, 1000159, 1000171, 1000183, 1000187, 1000193, 1000199]
def prime (k : Int) : Int := primes.getD (k % 16).toNat 1
def draw (c k m : Int) : Int := (c * 48271 + k * 69621) % prime k % m
theorem prime_pos (k : Int) : 0 < prime k := by
  unfold prime
  have h : ∀ n : Nat, 0 < primes.getD n 1 := by
    intro n
    by_cases hn : n < 16
    · have : ∀ n < 16, 0 < primes.getD n 1 := by decide
      exact this n hn
    · rw [List.getD_eq_getElem?_getD, List.getElem?_eq_none_iff.mpr (by show 16 ≤ n; omega)]; decide
  exact h _
theorem prime_at (k : Int) : atI (primes.map D.int) (k % 16) = some (.int (prime k)) := by
  have h0 : 0 ≤ k % 16 := by omega
  have h1 : k % 16 < 16 := by omega
  unfold atI ixN prime
  rw [if_pos h0, if_pos (by show k % 16 < 16; omega)]
  show (primes.map D.int)[(k % 16).toNat]? = _
  rw [List.getElem?_map, List.getElem?_eq_getElem (by show (k % 16).toNat < 16; omega), List.getD_eq_getElem?_getD, List.getElem?_eq_getElem (by show (k % 16).toNat < 16; omega)]
  rfl
theorem draw_ge (c k m : Int) (h : 0 < m) : 0 ≤ draw c k m := Int.emod_nonneg _ (by omega)
theorem draw_lt (c k m : Int) (h : 0 < m) : draw c k m < m := Int.emod_lt_of_pos _ h
theorem lk_int {i : Int} {xs : List Int} {j : Nat} {y : Int} (e : i = (j : Int)) (h : xs[j]? = some y) : atI (xs.map D.int) i = some (.int y) := by
  subst e
  exact atI_nat (by rw [List.getElem?_map, h]; rfl)
theorem lk_str {i : Int} {xs : List Str} {j : Nat} {y : Str} (e : i = (j : Int)) (h : xs[j]? = some y) : atI (xs.map D.str) i = some (.str y) := by
  subst e
  exact atI_nat (by rw [List.getElem?_map, h]; rfl)
def aDraw (xs : List D) (r : DS) : Prop := ∃ c k m : Int, xs = [.int c, .int k, .int m] ∧ 0 < m ∧ r = .im (.int (draw c k m))
abbrev nDraw : List Str := ["_law_cell", "_law_k", "_law_many", "_law_primes"]
theorem scDraw : FnScope nDraw ["_law_cell", "_law_k", "_law_many"] (defScope S_law_draw) := ⟨rfl, rfl, rfl, by decide +kernel, rfl, by decide +kernel, by decide +kernel⟩
theorem ok_draw {G : Glb} (Z : Facts G) : CallD G 1 "_law_draw" ["_law_cell", "_law_k", "_law_many"] false aDraw := by
  refine ⟨?_, Z.g_law_draw, Z.n_law_draw, Z.f_law_draw.kp⟩
  refine okD (N := nDraw) Z.f_law_draw scDraw (fun xs r ⟨c, k, m, e, _⟩ => by rw [e]; rfl) fun cdv Ar outer s H E hr xs r ⟨c, k, m, e, hm, er⟩ => ?_
  subst e er
  refine dss_cons (ds_set 3 (de_tup (xs := primes.map D.int) (da_cons de_int (da_cons de_int (da_cons de_int (da_cons de_int (da_cons de_int (da_cons de_int (da_cons de_int (da_cons de_int (da_cons de_int (da_cons de_int (da_cons de_int (da_cons de_int (da_cons de_int (da_cons de_int (da_cons de_int (da_cons de_int da_nil)))))))))))))))) (by decide)) ?_ scDraw.nd)
  exact dss_one (ds_ret (de_mod (de_mod (de_add (de_mul (de_var 0 rfl) de_int (.inr (by decide))) (de_mul (de_var 1 rfl) de_int (.inr (by decide)))) (de_ixT (de_var 3 rfl) (de_mod (de_var 1 rfl) de_int (by decide)) (prime_at k)) (prime_pos k)) (de_var 2 rfl) hm) (.inl rfl))
abbrev absI (i : Int) : Int := if i < 0 then -i else i
theorem absI_ge (i : Int) : 0 ≤ absI i := by unfold absI; split <;> omega
def cellAt (sc : List Int) (k : Int) : Int := if k < (sc.length : Int) then absI (sc.getD k.toNat 0) else draw (absI sc.sum + 7919 * k) k 999983
theorem cellAt_ge (sc : List Int) (k : Int) : 0 ≤ cellAt sc k := by
  unfold cellAt
  split
  · exact absI_ge _
  · exact draw_ge _ _ _ (by decide)
def aCell (xs : List D) (r : DS) : Prop := ∃ (sc : List Int) (k : Int), xs = [.lst (sc.map .int), .int k] ∧ 0 ≤ k ∧ r = .im (.int (cellAt sc k))
abbrev nCell : List Str := ["_law_script", "_law_k"]
theorem scCell : FnScope nCell nCell (defScope S_law_cell_at) := ⟨rfl, rfl, rfl, by decide +kernel, rfl, by decide +kernel, by decide +kernel⟩
theorem ok_cell {G : Glb} (Z : Facts G) : CallD G 2 "_law_cell_at" nCell false aCell := by
  refine ⟨?_, Z.g_law_cell_at, Z.n_law_cell_at, Z.f_law_cell_at.kp⟩
  refine okD (N := nCell) Z.f_law_cell_at scCell (fun xs r ⟨c, k, e, _⟩ => by rw [e]; rfl) fun cdv Ar outer s H E hr xs r ⟨sc, k, e, hk, er⟩ => ?_
  subst e er
  refine dss_cons (ds_if (dt_lt (de_var 1 rfl) (de_lenL (de_var 0 rfl) rfl Z.b_len)) (fun hc => ?_) (fun hc => dss_nil ?_))
  · have h1 : k < (sc.length : Int) := by simpa using hc
    have e : cellAt sc k = absI (sc.getD k.toNat 0) := if_pos h1
    rw [e]
    refine dss_one (ds_ret (de_abs (de_ixL (de_var 0 rfl) (de_var 1 rfl) (lk_int (j := k.toNat) (by omega) ?_)) rfl Z.b_abs) (.inl rfl))
    rw [List.getD_eq_getElem?_getD, List.getElem?_eq_getElem (by omega)]
    rfl
  · have h1 : ¬ k < (sc.length : Int) := by simpa using hc
    have e : cellAt sc k = draw (absI sc.sum + 7919 * k) k 999983 := if_neg h1
    rw [e]
    exact dss_one (ds_ret (dv_c (ok_draw Z) hr (da_cons (de_add (de_abs (de_sum (de_var 0 rfl) rfl Z.b_sum) rfl Z.b_abs) (de_mul de_int (de_var 1 rfl) (.inl (by decide)))) (da_cons (de_var 1 rfl) (da_cons de_int da_nil))) ⟨_, _, _, rfl, by decide, rfl⟩) (.inl rfl))

/-! ### numbers below a base -/
def p18 : Int := (10 : Int) ^ ((18 : Int).toNat)
theorem p18_eq : p18 = 1000000000000000000 := by decide
def digSmall (cell base : Int) (t : Int) : Int := (draw ((cell + 977 * t) * (cell + 31 * t + 5)) (t % 9 + 1) 999983 * 1000003 + draw ((cell + 31 * t) * (cell + 7) + 977 * t) (t % 7 + 2) 1000003) % base
def digStep (cell base : Int) (st : Int × List Int) (t : Nat) : Int × List Int :=
  if p18 ≤ cell then (st.1 / base, st.2 ++ [st.1 % base]) else (st.1, st.2 ++ [digSmall cell base (t : Int)])
def digRun (cell base : Int) (n : Nat) : Int × List Int := (List.range n).foldl (digStep cell base) (cell - p18, [])
theorem digRun_succ (cell base : Int) (n : Nat) : digRun cell base (n + 1) = digStep cell base (digRun cell base n) n := by
  unfold digRun
  rw [List.range_succ, List.foldl_append]
  rfl
def digits (sc : List Int) (at_ many base : Int) : List Int := (digRun (cellAt sc at_) base many.toNat).2
theorem digRun_len (cell base : Int) : ∀ n, (digRun cell base n).2.length = n
  | 0 => rfl
  | n + 1 => by
    rw [digRun_succ]
    unfold digStep
    split <;> (rw [List.length_append, digRun_len cell base n]; rfl)
theorem digRun_in (cell base : Int) (h : 0 < base) : ∀ n, ∀ x ∈ (digRun cell base n).2, 0 ≤ x ∧ x < base
  | 0 => fun x hx => by cases hx
  | n + 1 => by
    intro x hx
    rw [digRun_succ] at hx
    unfold digStep at hx
    split at hx
    · rcases List.mem_append.mp hx with z | z
      · exact digRun_in cell base h n x z
      · rw [List.mem_singleton.mp z]
        exact ⟨Int.emod_nonneg _ (by omega), Int.emod_lt_of_pos _ h⟩
    · rcases List.mem_append.mp hx with z | z
      · exact digRun_in cell base h n x z
      · rw [List.mem_singleton.mp z]
        exact ⟨Int.emod_nonneg _ (by omega), Int.emod_lt_of_pos _ h⟩
theorem digits_len (sc : List Int) (at_ many base : Int) : (digits sc at_ many base).length = many.toNat := digRun_len _ _ _
/-- the k-th of the digits -/
def dg (sc : List Int) (at_ many base : Int) (k : Nat) : Int := (digits sc at_ many base).getD k 0
theorem dg_at {sc : List Int} {at_ many base : Int} {k : Nat} (h : k < many.toNat) : (digits sc at_ many base)[k]? = some (dg sc at_ many base k) := by
  have hl : k < (digits sc at_ many base).length := by rw [digits_len]; exact h
  unfold dg
  rw [List.getD_eq_getElem?_getD, List.getElem?_eq_getElem hl]
  rfl
theorem dg_in {sc : List Int} {at_ many base : Int} {k : Nat} (hb : 0 < base) (h : k < many.toNat) : 0 ≤ dg sc at_ many base k ∧ dg sc at_ many base k < base :=
  digRun_in _ _ hb _ _ (List.mem_of_getElem? (dg_at (sc := sc) (at_ := at_) (base := base) h))
def aDig (xs : List D) (r : DS) : Prop := ∃ (sc : List Int) (a m b : Int), xs = [.lst (sc.map .int), .int a, .int m, .int b] ∧ 0 ≤ a ∧ 0 ≤ m ∧ m ≤ 1000 ∧ 0 < b ∧ b < 1073741824 ∧ r = .own ((digits sc a m b).map .int)
abbrev nDig : List Str := ["_law_script", "_law_at", "_law_many", "_law_base", "_law_cell", "_law_found", "_law_left", "_law_turn", "_law_blend", "_law_more"]
abbrev qDig : List Str := ["_law_script", "_law_at", "_law_many", "_law_base"]
theorem scDig : FnScope nDig qDig (defScope S_law_digits) := ⟨rfl, rfl, rfl, by decide +kernel, rfl, by decide +kernel, by decide +kernel⟩
theorem ok_digits {G : Glb} (Z : Facts G) : CallD G 3 "_law_digits" qDig false aDig := by
  refine ⟨?_, Z.g_law_digits, Z.n_law_digits, Z.f_law_digits.kp⟩
  refine okD (N := nDig) Z.f_law_digits scDig (fun xs r ⟨_, _, _, _, e, _⟩ => by rw [e]; rfl) fun cdv Ar outer s H E hr xs r ⟨sc, a, m, b, e, ha, hm, hm2, hb, hb2, er⟩ => ?_
  subst e er
  refine dss_cons (ds_par2 4 5 (dv_c (ok_cell Z) hr (da_cons (de_var 0 rfl) (da_cons (de_var 1 rfl) da_nil)) ⟨_, _, rfl, ha, rfl⟩) (dv_lst da_nil (by decide)) ?_ scDig.nd (by decide)
    (ps_par rfl scDig.nd rfl rfl (by decide) rfl rfl (pa_cons (dv_c (ok_cell Z) hr (da_cons (de_var 0 rfl) (da_cons (de_var 1 rfl) da_nil)) ⟨_, _, rfl, ha, rfl⟩) (pa_cons (dv_lst da_nil (by decide)) pa_nil)) (by rfl)))
  refine dss_cons (ds_set 6 (de_sub (de_var 4 rfl) (de_pow de_int de_int ⟨by decide, by decide, by decide⟩)) ?_ scDig.nd)
  have he : digits sc a m b = (digRun (cellAt sc a) b m.toNat).2 := rfl
  rw [he]
  have hc0 := cellAt_ge sc a
  generalize cellAt sc a = c at hc0 ⊢
  refine dss_cons (ds_forR [7, 8, 9] (fun i => [.im (.lst (sc.map .int)), .im (.int a), .im (.int m), .im (.int b), .im (.int c), .own ((digRun c b i).2.map .int), .im (.int (digRun c b i).1), .no, .no, .no]) (fun d ds1 => ds1.set 7 (.im (.int (0 + (d : Int))))) rfl
    (di_rng1 (de_var 2 rfl) rfl Z.b_range (by omega) (by omega)) (fun d _ ds1 => dg_name 7 scDig.nd) (fun i hi => ?_) ?_ PassesOwn.never)
  · rw [Int.zero_add]
    refine dss_one (ds_if (dt_ge (de_var 4 rfl) (de_pow de_int de_int ⟨by decide, by decide, by decide⟩)) (fun hc => ?_) (fun hc => ?_))
    · have hc' : p18 ≤ c := by simpa [p18] using hc
      refine dss_cons (ds_append 5 rfl (de_mod (de_var 6 rfl) (de_var 3 rfl) hb) (by rw [List.length_map, digRun_len]; omega) ?_)
      refine dss_one (ds_set 6 (de_div (de_var 6 rfl) (de_var 3 rfl) ⟨hb, hb2⟩) ?_ scDig.nd)
      show _ = _
      rw [digRun_succ]
      unfold digStep
      rw [if_pos hc', List.map_append]
      rfl
    · have hc' : ¬ p18 ≤ c := by simpa [p18] using hc
      have hc2 : c < 1000000000000000000 := by rw [p18_eq] at hc'; omega
      refine dss_cons (ds_set 8 (dv_c (ok_draw Z) hr (da_cons (de_mul (de_add (de_var 4 rfl) (de_mul de_int (de_var 7 rfl) (.inl (by decide)))) (de_add (de_add (de_var 4 rfl) (de_mul de_int (de_var 7 rfl) (.inl (by decide)))) de_int) (.inl ⟨by omega, by omega⟩)) (da_cons (de_add (de_mod (de_var 7 rfl) de_int (by decide)) de_int) (da_cons de_int da_nil))) ⟨_, _, _, rfl, by decide, rfl⟩) ?_ scDig.nd)
      refine dss_cons (ds_set 9 (dv_c (ok_draw Z) hr (da_cons (de_add (de_mul (de_add (de_var 4 rfl) (de_mul de_int (de_var 7 rfl) (.inl (by decide)))) (de_add (de_var 4 rfl) de_int) (.inl ⟨by omega, by omega⟩)) (de_mul de_int (de_var 7 rfl) (.inl (by decide)))) (da_cons (de_add (de_mod (de_var 7 rfl) de_int (by decide)) de_int) (da_cons de_int da_nil))) ⟨_, _, _, rfl, by decide, rfl⟩) ?_ scDig.nd)
      refine dss_one (ds_append 5 rfl (de_mod (de_add (de_mul (de_var 8 rfl) de_int (.inr (by decide))) (de_var 9 rfl)) (de_var 3 rfl) hb) (by rw [List.length_map, digRun_len]; omega) ?_)
      show _ = _
      rw [digRun_succ]
      unfold digStep
      rw [if_neg hc', List.map_append]
      rfl
  · exact dss_one (ds_retOwn 5 rfl (.inl rfl))

/-! ### the law's names -/
abbrev lettersS : Str := "abcdefghijklmnopqrstuvwxyz"
def sgn (i : Int) : Str := ⟨#[97 + i.toNat]⟩
theorem letters_at {i : Int} (h0 : 0 ≤ i) (h1 : i < 26) : atI lettersS.cps.toList i = some (97 + i.toNat) := by
  have h : ∀ n < 26, (lettersS.cps.toList)[n]? = some (97 + n) := by decide +kernel
  have e : lettersS.cps.toList.length = 26 := by decide +kernel
  unfold atI ixN
  rw [if_pos h0, if_pos (by rw [e]; omega)]
  exact h _ (by omega)
theorem mulOk {x : Str} {n : Int} (hx : x.length ≤ 1000) (h0 : 0 ≤ n) (hn : n ≤ 1000) : PySem.MulOk x n := by
  have h1 : x.length * n.toNat ≤ 1000 * 1000 := Nat.mul_le_mul hx (by omega : n.toNat ≤ 1000)
  refine ⟨?_, fun h2 h3 => ?_, fun h2 h3 => ?_⟩
  · rw [Bool.or_eq_false_iff]
    exact ⟨decide_eq_false (by omega), decide_eq_false (by omega)⟩
  · have z : (x.length : Int) ≤ (2 ^ 63 - 1) / n := by
      refine Int.le_ediv_of_mul_le (by omega) ?_
      have e : (x.length : Int) * n = ((x.length * n.toNat : Nat) : Int) := by rw [Int.natCast_mul, Int.toNat_of_nonneg h0]
      rw [e]
      omega
    omega
  · exact decide_eq_false (by show ¬ _ > sizeLine; have : sizeLine = 16777216 := rfl; omega)
/-! signs of texts -/
theorem app_l (a b : Str) : (a ++ b).cps.toList = a.cps.toList ++ b.cps.toList := by
  show (a.cps ++ b.cps).toList = _
  simp
theorem app_len (a b : Str) : (a ++ b).length = a.length + b.length := by rw [str_len, str_len, str_len, app_l, List.length_append]
theorem cut_l (z : Str) {k : Int} (h : 0 ≤ k) : (cutS z none (some k)).cps.toList = z.cps.toList.take k.toNat := by
  obtain ⟨n, rfl⟩ : ∃ n : Nat, k = (n : Int) := ⟨k.toNat, by omega⟩
  unfold cutS
  rw [HT.sIx_none, HT.sIx_nat]
  show ((z.cps.toList.drop 0).take _) = _
  rw [List.drop_zero, Nat.sub_zero, Int.toNat_natCast, str_len]
  by_cases hn : n ≤ z.cps.toList.length
  · rw [Nat.min_eq_left hn]
  · rw [Nat.min_eq_right (by omega), List.take_of_length_le (Nat.le_refl _), List.take_of_length_le (by omega)]
theorem cut_len (z : Str) {k : Int} (h : 0 ≤ k) : (cutS z none (some k)).length = min k.toNat z.length := by rw [str_len, cut_l z h, List.length_take, str_len]
theorem foldl_arr (x : Array Nat) : ∀ (n : Nat) (acc : Array Nat), ((List.replicate n x).foldl (· ++ ·) acc).toList = acc.toList ++ (List.replicate n x.toList).flatten
  | 0, acc => by simp
  | n + 1, acc => by
    rw [List.replicate_succ, List.foldl_cons, foldl_arr x n, List.replicate_succ, List.flatten_cons]
    simp
theorem mul_l (z : Str) {n : Int} (h : 0 ≤ n) : (PySem.Txt.mul z n).cps.toList = (List.replicate n.toNat z.cps.toList).flatten := by
  unfold PySem.Txt.mul
  by_cases h1 : n < 1
  · rw [if_pos h1]
    have e : n.toNat = 0 := by omega
    rw [e]
    rfl
  · rw [if_neg h1]
    by_cases h2 : (n == 1 || z.length == 0) = true
    · rw [if_pos h2]
      rcases Bool.or_eq_true_iff.mp h2 with a | a
      · have e : n.toNat = 1 := by
          have := eq_of_beq a
          omega
        rw [e]
        simp
      · have e : z.cps.toList = [] := List.eq_nil_of_length_eq_zero (by rw [← str_len]; exact eq_of_beq a)
        rw [e]
        have : ∀ k : Nat, (List.replicate k ([] : List Nat)).flatten = [] := fun k => by induction k with
          | zero => rfl
          | succ k ih => rw [List.replicate_succ, List.flatten_cons, ih]; rfl
        rw [this]
    · rw [if_neg h2]
      show ((List.replicate n.toNat z.cps).foldl (· ++ ·) #[]).toList = _
      rw [foldl_arr]
      simp
theorem flat_len (l : List Nat) : ∀ n : Nat, (List.replicate n l).flatten.length = n * l.length
  | 0 => by simp
  | n + 1 => by rw [List.replicate_succ, List.flatten_cons, List.length_append, flat_len l n, Nat.succ_mul]; omega
theorem mul_len (z : Str) {n : Int} (h : 0 ≤ n) : (PySem.Txt.mul z n).length = n.toNat * z.length := by rw [str_len, mul_l z h, flat_len, str_len]
/-- a name: one to twenty small letters -/
def okC (c : Nat) : Prop := 97 ≤ c ∧ c ≤ 122
structure Nm (n : Str) : Prop where
  lo : 1 ≤ n.length
  hi : n.length ≤ 20
  all : ∀ c ∈ n.cps.toList, okC c
theorem str_ext {a b : Str} (h : a.cps.toList = b.cps.toList) : a = b := by
  obtain ⟨x⟩ := a
  obtain ⟨y⟩ := b
  congr 1
  exact Array.toList_inj.mp h
theorem sgn_l (i : Int) : (sgn i).cps.toList = [97 + i.toNat] := rfl
theorem sgn_len (i : Int) : (sgn i).length = 1 := rfl
theorem sgn_ok {i : Int} (h0 : 0 ≤ i) (h1 : i < 26) : ∀ c ∈ (sgn i).cps.toList, okC c := fun c hc => by
  rw [sgn_l] at hc
  rw [List.mem_singleton.mp hc]
  unfold okC
  omega
/-- the t-th name by its number -/
def nmTail (d : Int) : Str := PySem.Txt.mul (sgn (d % 26)) (d / 26 % 3) ++ sgn (d / 78 % 26)
def nmAt (a d : Int) (t : Nat) : Str := sgn ((a + 3 * (t : Int)) % 26) ++ cutS (nmTail d) none (some (d / 1521))
theorem nmTail_len (d : Int) : (nmTail d).length ≤ 3 := by
  unfold nmTail
  rw [app_len, mul_len _ (by omega), sgn_len, sgn_len]
  omega
theorem mem_flat {l : List Nat} {c : Nat} : ∀ {n : Nat}, c ∈ (List.replicate n l).flatten → c ∈ l
  | 0, h => by simp at h
  | n + 1, h => by
    rw [List.replicate_succ, List.flatten_cons, List.mem_append] at h
    exact h.elim id mem_flat
theorem nmTail_ok (d : Int) : ∀ c ∈ (nmTail d).cps.toList, okC c := fun c hc => by
  unfold nmTail at hc
  rw [app_l, List.mem_append, mul_l _ (by omega)] at hc
  rcases hc with h | h
  · exact sgn_ok (by omega) (by omega) c (mem_flat h)
  · exact sgn_ok (by omega) (by omega) c h
theorem nmAt_l (a d : Int) (t : Nat) (hd : 0 ≤ d) : (nmAt a d t).cps.toList = (97 + ((a + 3 * (t : Int)) % 26).toNat) :: ((nmTail d).cps.toList.take (d / 1521).toNat) := by
  unfold nmAt
  rw [app_l, sgn_l, cut_l _ (by omega)]
  rfl
theorem nmAt_nm (a d : Int) (t : Nat) (hd : 0 ≤ d) : Nm (nmAt a d t) := by
  have h1 : (nmAt a d t).length ≤ 4 := by
    unfold nmAt
    have := nmTail_len d
    rw [app_len, sgn_len, cut_len _ (by omega)]
    omega
  refine ⟨?_, by omega, fun c hc => ?_⟩
  · rw [str_len, nmAt_l a d t hd]
    simp
  · rw [nmAt_l a d t hd] at hc
    rcases List.mem_cons.mp hc with rfl | h
    · unfold okC; omega
    · exact nmTail_ok d c (List.mem_of_mem_take h)
/-- made long -/
def nmLong (n : Str) (d : Int) : Str := cutS (PySem.Txt.mul n 20) none (some (6 + d % 15))
theorem nmLong_l (n : Str) (d : Int) : (nmLong n d).cps.toList = ((List.replicate 20 n.cps.toList).flatten).take (6 + d % 15).toNat := by
  unfold nmLong
  rw [cut_l _ (by omega), mul_l _ (by decide)]
  rfl
theorem nmLong_nm {n : Str} (h : Nm n) (d : Int) : Nm (nmLong n d) := by
  have e : (nmLong n d).length = min (6 + d % 15).toNat (20 * n.length) := by rw [str_len, nmLong_l, List.length_take, flat_len, str_len]
  have := h.lo
  refine ⟨by rw [e]; omega, by rw [e]; omega, fun c hc => ?_⟩
  rw [nmLong_l] at hc
  exact h.all c (mem_flat (List.mem_of_mem_take hc))
theorem nmLong_head {n : Str} (h : Nm n) (d : Int) : (nmLong n d).cps.toList.head? = n.cps.toList.head? := by
  rw [nmLong_l]
  have h1 := h.lo
  rw [str_len] at h1
  cases e : n.cps.toList with
  | nil => rw [e] at h1; simp at h1
  | cons c r =>
    obtain ⟨k, hk⟩ : ∃ k, (6 + d % 15).toNat = k + 1 := ⟨(6 + d % 15).toNat - 1, by omega⟩
    rw [hk]
    rfl
/-- the first sign -/
def hd (n : Str) : Option Nat := n.cps.toList.head?
def baseNames (ds : List Int) (many : Nat) : List Str := (List.range many).map fun t => nmAt (ds.getD many 0) (ds.getD t 0) t
def longNames (ds : List Int) (at_ : Nat) (l : List Str) : List Str := (List.range l.length).map fun t => nmLong (l.getD t Str.empty) (ds.getD at_ 0)
def names1 (ds : List Int) (many : Nat) : List Str := if ds.getD many 0 / 26 % 3 = 1 then (List.range many).map (fun t => nmLong (nmAt (ds.getD many 0) (ds.getD t 0) t) (ds.getD t 0)) else baseNames ds many
abbrev leftS : Str := "left"
abbrev byS : Str := "by"
def names2 (ds : List Int) (many : Nat) : List Str := if ds.getD many 0 / 26 % 3 = 0 ∧ leftS ∉ names1 ds many ∧ byS ∉ names1 ds many then ((names1 ds many).set (ds.getD many 0 % 2).toNat leftS).set (2 + ds.getD many 0 % 3).toNat byS else names1 ds many
theorem names1_at {ds : List Int} {many t : Nat} {n : Str} (hpos : ∀ d ∈ ds, 0 ≤ d) (h : (names1 ds many)[t]? = some n) : t < many ∧ Nm n ∧ hd n = some (97 + ((ds.getD many 0 + 3 * (t : Int)) % 26).toNat) := by
  have p : ∀ k, 0 ≤ ds.getD k 0 := fun k => by
    rw [List.getD_eq_getElem?_getD]
    cases e : ds[k]? with
    | none => simp
    | some d => exact hpos d (List.mem_of_getElem? e)
  have hr : ∀ {f : Nat → Str}, ((List.range many).map f)[t]? = some n → t < many ∧ n = f t := fun {f} q => by
    rw [List.getElem?_map] at q
    cases e : (List.range many)[t]? with
    | none => rw [e] at q; cases q
    | some j =>
      obtain ⟨h1, h2⟩ := List.getElem?_eq_some_iff.mp e
      rw [List.length_range] at h1
      rw [List.getElem_range] at h2
      rw [e] at q
      subst h2
      exact ⟨h1, (Option.some.inj q).symm⟩
  unfold names1 at h
  split at h
  · obtain ⟨h1, rfl⟩ := hr h
    have z := nmAt_nm (ds.getD many 0) (ds.getD t 0) t (p t)
    refine ⟨h1, nmLong_nm z _, ?_⟩
    unfold hd
    rw [nmLong_head z, nmAt_l _ _ _ (p t)]
    rfl
  · unfold baseNames at h
    obtain ⟨h1, rfl⟩ := hr h
    refine ⟨h1, nmAt_nm _ _ _ (p t), ?_⟩
    unfold hd
    rw [nmAt_l _ _ _ (p t)]
    rfl
theorem names1_len (ds : List Int) (many : Nat) : (names1 ds many).length = many := by
  unfold names1 baseNames
  split <;> rw [List.length_map, List.length_range]
theorem nodup_ix2 {α : Type} {l : List α} : l.Nodup ↔ ∀ i j, i < j → j < l.length → l[i]? ≠ l[j]? := by
  show List.Pairwise (· ≠ ·) l ↔ _
  rw [List.pairwise_iff_getElem]
  constructor
  · intro h i j hij hj e
    rw [List.getElem?_eq_getElem hj, List.getElem?_eq_getElem (by omega)] at e
    exact h i j (by omega) hj hij (Option.some.inj e)
  · intro h i j hi hj hij e
    exact h i j hij hj (by rw [List.getElem?_eq_getElem hj, List.getElem?_eq_getElem hi, e])
theorem names1_nd {ds : List Int} {many : Nat} (hpos : ∀ d ∈ ds, 0 ≤ d) (hm : many ≤ 9) : (names1 ds many).Nodup := by
  rw [nodup_ix2]
  intro i j hij hj e
  have hl := names1_len ds many
  have ej : (names1 ds many)[j]? = some (names1 ds many)[j] := List.getElem?_eq_getElem hj
  have a := names1_at hpos ej
  have b := names1_at hpos (e.trans ej)
  have z := b.2.2.symm.trans a.2.2
  have z2 := Option.some.inj z
  omega
structure Names (ns : List Str) (many : Nat) : Prop where
  len : ns.length = many
  nd : ns.Nodup
  nm : ∀ n ∈ ns, Nm n
theorem nodup_set {l : List Str} {x : Str} (h : l.Nodup) (hx : x ∉ l) (i : Nat) : (l.set i x).Nodup := by
  rw [nodup_ix2] at h ⊢
  intro a b hab hb e
  rw [List.length_set] at hb
  rw [List.getElem?_set, List.getElem?_set] at e
  by_cases h1 : i = a
  · subst h1
    have e2 : some x = l[b]? := by simpa [show i < l.length by omega, show ¬ i = b by omega] using e
    exact hx (List.mem_of_getElem? e2.symm)
  · rw [if_neg h1] at e
    by_cases h2 : i = b
    · subst h2
      rw [if_pos rfl, if_pos hb] at e
      exact hx (List.mem_of_getElem? e)
    · rw [if_neg h2] at e
      exact h a b hab hb e
theorem names2_ok {ds : List Int} {many : Nat} (hpos : ∀ d ∈ ds, 0 ≤ d) (hm : many ≤ 9) : Names (names2 ds many) many := by
  have n1 : Names (names1 ds many) many := ⟨names1_len ds many, names1_nd hpos hm, fun n hn => by
    obtain ⟨i, hi⟩ := List.mem_iff_getElem?.mp hn
    exact (names1_at hpos hi).2.1⟩
  unfold names2
  split
  · rename_i h
    obtain ⟨_, h1, h2⟩ := h
    refine ⟨by rw [List.length_set, List.length_set]; exact n1.len, ?_, fun n hn => ?_⟩
    · refine nodup_set (nodup_set n1.nd h1 _) (fun z => ?_) _
      rcases List.mem_or_eq_of_mem_set z with q | q
      · exact h2 q
      · exact absurd q (by decide +kernel)
    · rcases List.mem_or_eq_of_mem_set hn with q | q
      · rcases List.mem_or_eq_of_mem_set q with q | q
        · exact n1.nm n q
        · subst q
          exact ⟨by decide +kernel, by decide +kernel, by unfold okC; decide +kernel⟩
      · subst q
        exact ⟨by decide +kernel, by decide +kernel, by unfold okC; decide +kernel⟩
  · exact n1

/-! ### the law's names, walked -/
def aLetters (xs : List D) (r : DS) : Prop := xs = [] ∧ r = .im (.str lettersS)
theorem scLetters : FnScope [] [] (defScope S_law_letters) := ⟨rfl, rfl, rfl, by decide +kernel, rfl, by decide +kernel, by decide +kernel⟩
theorem ok_letters {G : Glb} (Z : Facts G) : CallD G 1 "_law_letters" [] false aLetters := by
  refine ⟨?_, Z.g_law_letters, Z.n_law_letters, Z.f_law_letters.kp⟩
  refine okD (N := []) Z.f_law_letters scLetters (fun xs r ⟨e, _⟩ => by rw [e]; rfl) fun cdv Ar outer s H E hr xs r ⟨e, er⟩ => ?_
  subst e er
  exact dss_one (ds_ret de_str (.inl rfl))
abbrev nameDs (sc : List Int) (a m : Int) : List Int := digits sc a (m + 1) (26 * 26 * 9)
def lawNames (sc : List Int) (a m : Int) : List Str := names2 (nameDs sc a m) m.toNat
theorem nameDs_pos (sc : List Int) (a m : Int) : ∀ d ∈ nameDs sc a m, 0 ≤ d := fun d hd => (digRun_in _ _ (by decide) _ d hd).1
theorem lawNames_ok (sc : List Int) (a : Int) {m : Int} (hm : m ≤ 9) : Names (lawNames sc a m) m.toNat := names2_ok (nameDs_pos sc a m) (by omega)
def aNames (xs : List D) (r : DS) : Prop := ∃ (sc : List Int) (a m : Int), xs = [.lst (sc.map .int), .int a, .int m] ∧ 0 ≤ a ∧ 5 ≤ m ∧ m ≤ 9 ∧ r = .own ((lawNames sc a m).map .str)
abbrev nNames : List Str := ["_law_script", "_law_at", "_law_many", "_law_draws", "_law_found", "_law_turn", "_law_first", "_law_number", "_law_tail", "_law_name"]
abbrev qNames : List Str := ["_law_script", "_law_at", "_law_many"]
theorem scNames : FnScope nNames qNames (defScope S_law_names) := ⟨rfl, rfl, rfl, by decide +kernel, rfl, by decide +kernel, by decide +kernel⟩
theorem ix_nat {n : Nat} {i : Int} {k : Nat} (e : i = (k : Int)) (h : k < n) : ixN n i = some k := by
  subst e
  unfold ixN
  rw [if_pos (by omega), if_pos (by omega)]
  rfl
/-- the last two statements -/
theorem names_end {G : Glb} (Z : Facts G) {cdv : Value} {Ar : Around} {outer : List Env} {s : Shared} {H : Hp} {E : XK} (hr : Room 3 (Ar.deeper (envOfC "_law_names" (defScope S_law_names) s.heap.objs.size (He.ga G.K "_law_names") cdv))) {sc : List Int} {a m : Int} {dsx : List Int} (hm : 5 ≤ m) (hm2 : m ≤ 9)
    (hp : ∀ d ∈ dsx, 0 ≤ d) (hl : dsx.length = m.toNat + 1) (hn1 : Names (names1 dsx m.toNat) m.toNat) (gd : ∀ k : Nat, k ≤ m.toNat → dsx[k]? = some (dsx.getD k 0) ∧ 0 ≤ dsx.getD k 0) {o5 o6 o7 o8 o9 : DS} :
    DSs (cxOf CX0 G.P G.w G.K G.mg G.base nNames "_law_names" (defScope S_law_names) (He.ga G.K "_law_names") cdv Ar outer s H E).nox G.T W0 false ((defBody S_law_names).drop 3) [.im (.lst (sc.map .int)), .im (.int a), .im (.int m), .im (.lst (dsx.map .int)), .own ((names1 dsx m.toNat).map .str), o5, o6, o7, o8, o9]
      { nx := fun _ => DS.own ((names2 dsx m.toNat).map D.str) = .im .non, rt := fun t => t = .own ((names2 dsx m.toNat).map D.str) ∨ t.fz = .own ((names2 dsx m.toNat).map D.str) } := by
  have gm := gd m.toNat (Nat.le_refl _)
  obtain ⟨dm, hdm⟩ : ∃ dm, dm = dsx.getD m.toNat 0 := ⟨_, rfl⟩
  rw [← hdm] at gm
  have hlen := hn1.len
  refine dss_cons (ds_if (dt_w (dw_and (dt_eqI (de_mod (de_div (de_ixL (de_var 3 rfl) (de_var 2 rfl) (lk_int (j := m.toNat) (by omega) gm.1)) de_int ⟨by decide, by decide⟩) de_int (by decide)) de_int) fun _ => dw_and (dt_view 4 rfl rfl (dt_niS de_str (de_var 4 rfl))) fun _ => dw_and1 (dt_view 4 rfl rfl (dt_niS de_str (de_var 4 rfl))))) (fun hc => ?_) (fun hc => ?_))
  · have hc' : dm / 26 % 3 = 0 ∧ leftS ∉ names1 dsx m.toNat ∧ byS ∉ names1 dsx m.toNat := by simpa using hc
    have e : names2 dsx m.toNat = ((names1 dsx m.toNat).set (dm % 2).toNat leftS).set (2 + dm % 3).toNat byS := by
      unfold names2
      rw [← hdm, if_pos hc']
    rw [e]
    refine dss_cons (ds_setI 4 rfl (de_mod (de_ixL (de_var 3 rfl) (de_var 2 rfl) (lk_int (j := m.toNat) (by omega) gm.1)) de_int (by decide)) de_str (ix_nat (k := (dm % 2).toNat) (by omega) (by rw [List.length_map, hlen]; omega)) ?_)
    refine dss_one (ds_setI 4 rfl (de_add de_int (de_mod (de_ixL (de_var 3 rfl) (de_var 2 rfl) (lk_int (j := m.toNat) (by omega) gm.1)) de_int (by decide))) de_str (ix_nat (k := (2 + dm % 3).toNat) (by omega) (by rw [List.length_set, List.length_map, hlen]; omega)) ?_)
    rw [← List.map_set, ← List.map_set]
    exact dss_one (ds_retOwn 4 rfl (.inl rfl))
  · have hc' : ¬ (dm / 26 % 3 = 0 ∧ leftS ∉ names1 dsx m.toNat ∧ byS ∉ names1 dsx m.toNat) := by simpa using hc
    have e : names2 dsx m.toNat = names1 dsx m.toNat := by
      unfold names2
      rw [← hdm, if_neg hc']
    rw [e]
    exact dss_nil (dss_one (ds_retOwn 4 rfl (.inl rfl)))
theorem ok_names {G : Glb} (Z : Facts G) : CallD G 4 "_law_names" qNames false aNames := by
  refine ⟨?_, Z.g_law_names, Z.n_law_names, Z.f_law_names.kp⟩
  refine okD (N := nNames) Z.f_law_names scNames (fun xs r ⟨_, _, _, e, _⟩ => by rw [e]; rfl) fun cdv Ar outer s H E hr xs r ⟨sc, a, m, e, ha, hm, hm2, er⟩ => ?_
  subst e er
  refine dss_cons (ds_p2t 3 4 (de_own (dv_c (ok_digits Z) hr (da_cons (de_var 0 rfl) (da_cons (de_var 1 rfl) (da_cons (de_add (de_var 2 rfl) de_int) (da_cons (de_mul (de_mul de_int de_int (.inr (by decide))) de_int (.inr (by decide))) da_nil)))) ⟨sc, a, m + 1, 26 * 26 * 9, rfl, ha, by omega, by omega, by decide, by decide, rfl⟩)) (dv_lst da_nil (by decide)) ?_ scNames.nd)
  have hl : (nameDs sc a m).length = m.toNat + 1 := by rw [digits_len]; omega
  have hp := nameDs_pos sc a m
  show DSs _ _ _ _ _ [.im (.lst (sc.map .int)), .im (.int a), .im (.int m), .im (.lst ((nameDs sc a m).map .int)), .own [], .no, .no, .no, .no, .no] _
  unfold lawNames
  generalize nameDs sc a m = dsx at hl hp ⊢
  have gd : ∀ k : Nat, k ≤ m.toNat → dsx[k]? = some (dsx.getD k 0) ∧ 0 ≤ dsx.getD k 0 := fun k hk => by
    have h1 : k < dsx.length := by omega
    rw [List.getD_eq_getElem?_getD, List.getElem?_eq_getElem h1]
    exact ⟨rfl, hp _ (List.getElem_mem h1)⟩
  have gm := gd m.toNat (Nat.le_refl _)
  have ok1 : ∀ {i : Int} (h0 : 0 ≤ i) (h1 : i < 26), (D.str ⟨#[97 + i.toNat]⟩ : D) = .str (sgn i) := fun _ _ => rfl
  have lz : lettersS.length ≤ sizeLine := by decide +kernel
  refine dss_cons (ds_forR [5, 6, 7, 8, 9] (fun i => [.im (.lst (sc.map .int)), .im (.int a), .im (.int m), .im (.lst (dsx.map .int)), .own (((List.range i).map fun t => nmAt (dsx.getD m.toNat 0) (dsx.getD t 0) t).map .str), .no, .no, .no, .no, .no]) (fun d ds1 => ds1.set 5 (.im (.int (0 + (d : Int))))) rfl
    (di_rng1 (de_var 2 rfl) rfl Z.b_range (by omega) (by omega)) (fun d _ ds1 => dg_name 5 scNames.nd) (fun i hi => ?_) ?_ PassesOwn.never)
  · rw [Int.zero_add]
    have gi := gd i (by omega)
    obtain ⟨di, hdi⟩ : ∃ di, di = dsx.getD i 0 := ⟨_, rfl⟩
    rw [← hdi] at gi
    refine dss_cons (ds_set 6 (de_ixS (dv_c0 (ok_letters Z) hr ⟨rfl, rfl⟩) (de_mod (de_add (de_ixL (de_var 3 rfl) (de_var 2 rfl) (lk_int (j := m.toNat) (by omega) gm.1)) (de_mul de_int (de_var 5 rfl) (.inl (by decide)))) de_int (by decide)) lz (letters_at (by omega) (by omega))) ?_ scNames.nd)
    refine dss_cons (ds_set 7 (de_ixL (de_var 3 rfl) (de_var 5 rfl) (lk_int (j := i) rfl gi.1)) ?_ scNames.nd)
    refine dss_cons (ds_set 8 (de_addS (de_mulS (de_ixS (dv_c0 (ok_letters Z) hr ⟨rfl, rfl⟩) (de_mod (de_var 7 rfl) de_int (by decide)) lz (letters_at (by omega) (by omega))) (de_mod (de_div (de_var 7 rfl) de_int ⟨by decide, by decide⟩) de_int (by decide)) (mulOk (by show 1 ≤ 1000; decide) (by omega) (by omega)))
      (de_ixS (dv_c0 (ok_letters Z) hr ⟨rfl, rfl⟩) (de_mod (de_div (de_var 7 rfl) de_int ⟨by decide, by decide⟩) de_int (by decide)) lz (letters_at (by omega) (by omega))) ?_) ?_ scNames.nd)
    · show (PySem.Txt.mul (sgn (di % 26)) (di / 26 % 3)).length + 1 ≤ sizeLine
      rw [mul_len _ (by omega), sgn_len]
      have : sizeLine = 16777216 := rfl
      omega
    have tl := nmTail_len di
    have sl : sizeLine = 16777216 := rfl
    refine dss_one (ds_append 4 rfl (de_addS (de_var 6 rfl) (de_slS (de_var 8 rfl) do_none (do_some (de_div (de_var 7 rfl) de_int ⟨by decide, by decide⟩)) ?_) ?_) (by rw [List.length_map, List.length_map, List.length_range]; omega) ?_)
    · show (nmTail di).length ≤ sizeLine
      omega
    · show 1 + (cutS (nmTail di) none (some (di / 1521))).length ≤ sizeLine
      rw [cut_len _ (by omega)]
      omega
    · show _ = _
      rw [List.range_succ, List.map_append, List.map_append, List.map_cons, ← hdi]
      rfl
  · obtain ⟨dm, hdm⟩ : ∃ dm, dm = dsx.getD m.toNat 0 := ⟨_, rfl⟩
    have hbase : (List.range m.toNat).map (fun t => nmAt (dsx.getD m.toNat 0) (dsx.getD t 0) t) = baseNames dsx m.toNat := rfl
    have hbl : (baseNames dsx m.toNat).length = m.toNat := by unfold baseNames; rw [List.length_map, List.length_range]
    rw [hbase]
    rw [← hdm] at gm
    have hn1 : Names (names1 dsx m.toNat) m.toNat := ⟨names1_len _ _, names1_nd hp (by omega), fun n hn => by
      obtain ⟨i, hi⟩ := List.mem_iff_getElem?.mp hn
      exact (names1_at hp hi).2.1⟩
    refine dss_cons (ds_if (dt_eqI (de_mod (de_div (de_ixL (de_var 3 rfl) (de_var 2 rfl) (lk_int (j := m.toNat) (by omega) gm.1)) de_int ⟨by decide, by decide⟩) de_int (by decide)) de_int) (fun hc => ?_) (fun hc => ?_))
    · have hc' : dm / 26 % 3 = 1 := by simpa using hc
      have e1 : names1 dsx m.toNat = (List.range m.toNat).map (fun t => nmLong (nmAt (dsx.getD m.toNat 0) (dsx.getD t 0) t) (dsx.getD t 0)) := by
        unfold names1
        rw [if_pos (by rw [← hdm]; exact hc')]
      refine dss_freeze 4 rfl rfl (dss_one (ds_setLcP 4 (ev := enE D.str) (xs := (baseNames dsx m.toNat).zipIdx) (own := [("_law_at", 1), ("_law_name", 9)]) (js := [1, 9]) (fun q => ([.im (.lst (sc.map .int)), .im (.int (q.2 : Int)), .im (.int m), .im (.lst (dsx.map .int)), .im (.lst ((baseNames dsx m.toNat).map .str)), .no, .no, .no, .no, .im (.str q.1)]))
        (fun _ => true) (fun q => .str (nmLong q.1 (dsx.getD q.2 0))) (by rw [← enumD_map]; exact di_enum (de_var 4 rfl) rfl Z.b_enumerate) (by rw [List.length_zipIdx, hbl]; omega) scNames.nd (blkOk_by (N := nNames) (sc := defScope S_law_names) (by decide +kernel))
        (fun s H C cl fp d hd => ?_) (fun s H C cl fp d hd => dts_nil) (fun s H C cl fp d hd _ => ?_) ?_))
      · exact dg_tup (dgs_cons (dg_name 1 scNames.nd) (dgs_cons (dg_name 9 scNames.nd) dgs_nil))
      · obtain ⟨i, hi⟩ := List.mem_iff_getElem?.mp hd
        obtain ⟨q1, q2⟩ := zi_get hi
        have q3 : d.2 < m.toNat := by
          rw [q1]
          have := (List.getElem?_eq_some_iff.mp q2).1
          omega
        have q4 : Nm d.1 := by
          unfold baseNames at q2
          rw [List.getElem?_map, List.getElem?_eq_getElem (by rw [List.length_range]; omega), List.getElem_range] at q2
          rw [← Option.some.inj q2]
          exact nmAt_nm _ _ _ (gd i (by omega)).2
        have q5 := gd d.2 (by omega)
        have := q4.hi
        have sl : sizeLine = 16777216 := rfl
        exact de_slS (de_mulS (de_var 9 rfl) de_int (mulOk (by omega) (by decide) (by decide))) do_none (do_some (de_add de_int (de_mod (de_ixL (de_var 3 rfl) (de_var 1 rfl) (lk_int (j := d.2) rfl q5.1)) de_int (by decide)))) (by rw [mul_len _ (by decide)]; show 20 * _ ≤ _; omega)
      · have e2 : (((baseNames dsx m.toNat).zipIdx.filter fun _ => true).map fun q => D.str (nmLong q.1 (dsx.getD q.2 0))) = (names1 dsx m.toNat).map D.str := by
          rw [List.filter_eq_self.mpr fun _ _ => rfl, e1]
          apply List.ext_getElem?
          intro i
          rw [List.getElem?_map, List.getElem?_map, List.getElem?_map, List.getElem?_zipIdx]
          unfold baseNames
          rw [List.getElem?_map]
          cases e : (List.range m.toNat)[i]? with
          | none => rfl
          | some a =>
            obtain ⟨_, rfl⟩ := rng_get e
            show some (D.str (nmLong _ (dsx.getD (0 + a) 0))) = _
            rw [Nat.zero_add]
            rfl
        rw [e2]
        exact names_end Z hr hm hm2 hp hl hn1 gd (o5 := .no) (o6 := .no) (o7 := .no) (o8 := .no) (o9 := .no)
    · have hc' : ¬ dm / 26 % 3 = 1 := by simpa using hc
      have e1 : names1 dsx m.toNat = baseNames dsx m.toNat := by
        unfold names1
        rw [if_neg (by rw [← hdm]; exact hc')]
      rw [← e1]
      exact dss_nil (names_end Z hr hm hm2 hp hl hn1 gd (o5 := .no) (o6 := .no) (o7 := .no) (o8 := .no) (o9 := .no))

/-! ### some of the names -/
def someStep (num : Int) (acc : List Str) (p : Str × Nat) : List Str :=
  if Builtin.bitAnd (num / 2 ^ ((p.2 : Int).toNat)) 1 = 1 then acc.take (num / 1009 * ((p.2 : Int) + 1) % ((acc.length : Int) + 1)).toNat ++ [p.1] ++ acc.drop (num / 1009 * ((p.2 : Int) + 1) % ((acc.length : Int) + 1)).toNat else acc
def someRun (ns : List Str) (num : Int) (i : Nat) : List Str := (ns.zipIdx.take i).foldl (someStep num) []
def some_ (ns : List Str) (num : Int) : List Str := ns.zipIdx.foldl (someStep num) []
theorem someRun_succ {ns : List Str} {num : Int} {i : Nat} {a : Str} (h : ns[i]? = some a) : someRun ns num (i + 1) = someStep num (someRun ns num i) (a, i) := by
  unfold someRun
  have e : ns.zipIdx[i]? = some (a, i) := by rw [List.getElem?_zipIdx, h, Nat.zero_add]; rfl
  rw [List.take_succ, e, List.foldl_append]
  rfl
theorem someRun_end (ns : List Str) (num : Int) : someRun ns num ns.length = some_ ns num := by
  unfold someRun some_
  rw [List.take_of_length_le (by rw [List.length_zipIdx]; exact Nat.le_refl _)]
theorem perm_ins (l : List Str) (x : Str) (k : Nat) : (l.take k ++ [x] ++ l.drop k).Perm (x :: l) := by
  rw [List.append_assoc]
  refine List.perm_middle.trans ?_
  show (x :: (l.take k ++ l.drop k)).Perm (x :: l)
  rw [List.take_append_drop]
theorem someRun_ok {ns : List Str} {num : Int} (hn : ns.Nodup) : ∀ i, i ≤ ns.length → (someRun ns num i).Nodup ∧ ∀ x ∈ someRun ns num i, x ∈ ns.take i
  | 0, _ => ⟨List.nodup_nil, fun x hx => by cases hx⟩
  | i + 1, hi => by
    have e : ns[i]? = some ns[i] := List.getElem?_eq_getElem hi
    obtain ⟨a, b⟩ := someRun_ok (num := num) hn i (by omega)
    have et : ns.take (i + 1) = ns.take i ++ [ns[i]] := by rw [List.take_succ, e]; rfl
    have nt : (ns.take (i + 1)).Nodup := hn.sublist (List.take_sublist _ _)
    rw [et] at nt
    have ni : ns[i] ∉ ns.take i := fun z => by
      have := (List.nodup_append.mp nt).2.2 _ z _ (List.mem_singleton_self _)
      exact this rfl
    rw [someRun_succ e]
    unfold someStep
    split
    · have p := perm_ins (someRun ns num i) ns[i] (num / 1009 * (((ns[i], i) : Str × Nat).2 + 1 : Int) % ((someRun ns num i).length + 1 : Int)).toNat
      refine ⟨p.nodup_iff.mpr (List.nodup_cons.mpr ⟨fun z => ni (b _ z), a⟩), fun x hx => ?_⟩
      rw [et]
      rcases List.mem_cons.mp (p.mem_iff.mp hx) with rfl | z
      · exact List.mem_append_right _ (List.mem_singleton_self _)
      · exact List.mem_append_left _ (b x z)
    · refine ⟨a, fun x hx => ?_⟩
      rw [et]
      exact List.mem_append_left _ (b x hx)
theorem some_ok {ns : List Str} (num : Int) (hn : ns.Nodup) : (some_ ns num).Nodup ∧ ∀ x ∈ some_ ns num, x ∈ ns := by
  have h := someRun_ok (num := num) hn ns.length (Nat.le_refl _)
  rw [someRun_end, List.take_length] at h
  exact h
theorem someRun_len (ns : List Str) (num : Int) : ∀ i, i ≤ ns.length → (someRun ns num i).length ≤ i
  | 0, _ => Nat.le_refl _
  | i + 1, hi => by
    rw [someRun_succ (List.getElem?_eq_getElem hi)]
    have := someRun_len ns num i (by omega)
    unfold someStep
    split
    · rw [List.length_append, List.length_append, List.length_take, List.length_drop, List.length_singleton]
      omega
    · omega
theorem some_len (ns : List Str) (num : Int) : (some_ ns num).length ≤ ns.length := by rw [← someRun_end]; exact someRun_len ns num _ (Nat.le_refl _)
def aSome (xs : List D) (r : DS) : Prop := ∃ (ns : List Str) (num : Int), xs = [.lst (ns.map .str), .int num] ∧ ns.length ≤ 1000 ∧ r = .own ((some_ ns num).map .str)
abbrev nSome : List Str := ["_law_names_here", "_law_number", "_law_found", "_law_at", "_law_name"]
abbrev qSome : List Str := ["_law_names_here", "_law_number"]
theorem scSome : FnScope nSome qSome (defScope S_law_some) := ⟨rfl, rfl, rfl, by decide +kernel, rfl, by decide +kernel, by decide +kernel⟩
theorem ok_some {G : Glb} (Z : Facts G) : CallD G 1 "_law_some" qSome false aSome := by
  refine ⟨?_, Z.g_law_some, Z.n_law_some, Z.f_law_some.kp⟩
  refine okD (N := nSome) Z.f_law_some scSome (fun xs r ⟨_, _, e, _⟩ => by rw [e]; rfl) fun cdv Ar outer s H E hr xs r ⟨ns, num, e, hn, er⟩ => ?_
  subst e er
  refine dss_cons (ds_set 2 (dv_lst da_nil (by decide)) ?_ scSome.nd)
  refine dss_cons (ds_forN [3, 4] (fun i => [.im (.lst (ns.map .str)), .im (.int num), .own ((someRun ns num i).map .str), .no, .no]) (fun i a ds1 => (ds1.set 3 (.im (.int (i : Int)))).set 4 (.im (.str a))) rfl (di_enum (de_var 0 rfl) rfl Z.b_enumerate)
    (fun i a _ ds1 => dg_tup (dgs_cons (dg_name 3 scSome.nd) (dgs_cons (dg_name 4 scSome.nd) dgs_nil))) (fun i a ha => ?_) ?_ PassesOwn.never)
  · have hi : i < ns.length := (List.getElem?_eq_some_iff.mp ha).1
    have hl := someRun_len ns num i (by omega)
    refine dss_one (ds_if (dt_eqI (de_band (de_shr (de_var 1 rfl) (de_var 3 rfl) (by omega)) de_int) de_int) (fun hc => ?_) (fun hc => ?_))
    · have hc' : Builtin.bitAnd (num / 2 ^ ((i : Int).toNat)) 1 = 1 := by simpa using hc
      refine dss_one (ds_insert 2 rfl (de_mod (de_mul (de_div (de_var 1 rfl) de_int ⟨by decide, by decide⟩) (de_add (de_var 3 rfl) de_int) (.inr ⟨by omega, by omega⟩)) (de_add (de_view 2 rfl rfl rfl (de_lenL (de_var 2 rfl) rfl Z.b_len)) de_int) (by omega)) (de_var 4 rfl) (by rw [List.length_map]; omega) (Int.emod_nonneg _ (by omega)) ?_ ?_)
      · rw [List.length_map]
        have := Int.emod_lt_of_pos (num / 1009 * ((i : Int) + 1)) (by omega : (0 : Int) < ((someRun ns num i).length : Int) + 1)
        omega
      · show _ = _
        rw [someRun_succ ha]
        unfold someStep
        rw [if_pos hc', List.length_map, ← List.map_take, ← List.map_drop, List.map_append, List.map_append]
        rfl
    · have hc' : ¬ Builtin.bitAnd (num / 2 ^ ((i : Int).toNat)) 1 = 1 := by simpa using hc
      refine dss_nil ?_
      show _ = _
      rw [someRun_succ ha]
      unfold someStep
      rw [if_neg hc']
      rfl
  · rw [someRun_end]
    exact dss_one (ds_retOwn 2 rfl (.inl rfl))

/-! ### names, as the program looks at them -/
abbrev LET : List Nat := lettersS.cps.toList
def isNm (d : D) : Bool := match d with
  | .str z => (decide (1 ≤ (z.length : Int)) && decide ((z.length : Int) ≤ 20)) && z.cps.toList.all fun c => decide (c ∈ LET)
  | _ => false
theorem let_ok {c : Nat} (h : okC c) : c ∈ LET := by
  have q : ∀ c < 123, 97 ≤ c → c ∈ LET := by decide +kernel
  unfold okC at h
  exact q c (by omega) h.1
theorem let_of {c : Nat} (h : c ∈ LET) : okC c := by
  have q : ∀ c ∈ LET, 97 ≤ c ∧ c ≤ 122 := by decide +kernel
  exact q c h
theorem isNm_of {n : Str} (h : Nm n) : isNm (.str n) = true := by
  have h1 := h.lo
  have h2 := h.hi
  unfold isNm
  show ((decide (1 ≤ (n.length : Int)) && decide ((n.length : Int) ≤ 20)) && n.cps.toList.all fun c => decide (c ∈ LET)) = true
  rw [decide_eq_true (by omega), decide_eq_true (by omega), Bool.and_true, Bool.true_and, List.all_eq_true]
  exact fun c hc => decide_eq_true (let_ok (h.all c hc))
theorem of_isNm {n : Str} (h : isNm (.str n) = true) : Nm n := by
  have h' : ((decide (1 ≤ (n.length : Int)) && decide ((n.length : Int) ≤ 20)) && n.cps.toList.all fun c => decide (c ∈ LET)) = true := h
  rw [Bool.and_eq_true, Bool.and_eq_true, decide_eq_true_eq, decide_eq_true_eq, List.all_eq_true] at h'
  exact ⟨by omega, by omega, fun c hc => let_of (of_decide_eq_true (h'.2 c hc))⟩
theorem kit_non_str : kitB "NoneType" "str" = some false := by decide +kernel
theorem kit_bool_str : kitB "bool" "str" = some false := by decide +kernel
theorem kit_int_str : kitB "int" "str" = some false := by decide +kernel
theorem kit_list_str : kitB "list" "str" = some false := by decide +kernel
theorem kit_tuple_str : kitB "tuple" "str" = some false := by decide +kernel
def Fine (d : D) : Prop := tyD d ≠ "?" ∧ ∀ z, d = .str z → z.length ≤ 100000
def aIsName (xs : List D) (r : DS) : Prop := ∃ d, xs = [d] ∧ Fine d ∧ r = .im (.bl (isNm d))
abbrev nIsName : List Str := ["thing", "sign"]
theorem scIsName : FnScope nIsName ["thing"] (defScope S_is_name) := ⟨rfl, rfl, rfl, by decide +kernel, rfl, by decide +kernel, by decide +kernel⟩
theorem ok_is_name {G : Glb} (Z : Facts G) : CallD G 1 "is_name" ["thing"] false aIsName := by
  refine ⟨?_, Z.g_is_name, Z.n_is_name, Z.f_is_name.kp⟩
  refine okD (N := nIsName) Z.f_is_name scIsName (fun xs r ⟨_, e, _⟩ => by rw [e]; rfl) fun cdv Ar outer s H E hr xs r ⟨d, e, hf, er⟩ => ?_
  subst e er
  by_cases hs : ∃ z, d = .str z
  · obtain ⟨z, rfl⟩ := hs
    have hz := hf.2 z rfl
    have hz2 : z.length ≤ sizeLine := Nat.le_trans hz (by decide)
    refine dss_cons (ds_if (dt_w (dw_or (dt_not (dt_val (de_isi (n := "str") (b := true) (de_var 0 rfl) (de_ty rfl Z.b_str (by decide +kernel)) (by show "str" ≠ "?"; decide) (show kitB "str" "str" = some true by decide +kernel) rfl Z.b_isinstance))) fun _ => dw_or1 (dt_not (dt_leLe de_int (de_lenS (de_var 0 rfl) hz2 rfl Z.b_len) (de_gint rfl Z.c_LONGEST))))) (fun hc => ?_) (fun hc => ?_))
    · have e : isNm (.str z) = false := by
        show ((decide (1 ≤ (z.length : Int)) && decide ((z.length : Int) ≤ 20)) && z.cps.toList.all fun c => decide (c ∈ LET)) = false
        have h : (decide (1 ≤ (z.length : Int)) && decide ((z.length : Int) ≤ 20)) = false := by
          cases ha : (decide (1 ≤ (z.length : Int)) && decide ((z.length : Int) ≤ 20)) with
          | false => rfl
          | true => rw [ha] at hc; cases hc
        rw [h]
        rfl
      rw [e]
      exact dss_one (ds_ret de_bl (.inl rfl))
    · have e : isNm (.str z) = z.cps.toList.all fun c => decide (c ∈ LET) := by
        show ((decide (1 ≤ (z.length : Int)) && decide ((z.length : Int) ≤ 20)) && z.cps.toList.all fun c => decide (c ∈ LET)) = _
        have h : (decide (1 ≤ (z.length : Int)) && decide ((z.length : Int) ≤ 20)) = true := by
          cases ha : (decide (1 ≤ (z.length : Int)) && decide ((z.length : Int) ≤ 20)) with
          | true => rfl
          | false => rw [ha] at hc; cases hc
        rw [h]
        rfl
      rw [e]
      refine dss_nil (dss_one (ds_ret (dv_is (de_all (bs := z.cps.toList.map fun c => decide (c ∈ LET)) (dv_is (de_own (dv_lcP (ev := fun c => D.str ⟨#[c]⟩) (xs := z.cps.toList) (own := [("sign", 1)]) (js := [1]) (fun c => [.im (.str z), .im (.str ⟨#[c]⟩)]) (fun _ => true) (fun c => .bl (decide (c ∈ LET))) (di_str (de_var 0 rfl))
        (by rw [← str_len]; exact hz) scIsName.nd (blkOk_by (N := nIsName) (sc := defScope S_is_name) (by decide +kernel)) (fun s H C cl fp c hc => dg_name 1 scIsName.nd) (fun s H C cl fp c hc => dts_nil) (fun s H C cl fp c hc _ => de_inC (de_var 1 rfl) (de_gstr rfl Z.c_LETTERS)))) ?_) rfl Z.b_all) rfl) (.inl ?_)))
      · rw [List.filter_eq_self.mpr fun _ _ => rfl, List.map_map]
        rfl
      · rw [List.all_map]
        rfl
  · have e : isNm d = false := by
      cases d <;> first | rfl | exact absurd ⟨_, rfl⟩ hs
    have ht : kitB (tyD d) "str" = some false := by
      have h1 := hf.1
      cases d with
      | non => exact kit_non_str
      | bl b => exact kit_bool_str
      | int i => exact kit_int_str
      | str z => exact absurd ⟨_, rfl⟩ hs
      | lst xs => exact kit_list_str
      | tup xs => exact kit_tuple_str
      | ty n => exact absurd rfl h1
      | dic k => exact absurd rfl h1
      | ins c f => exact absurd rfl h1
      | fn k d g => exact absurd rfl h1
      | clo F oe => exact absurd rfl h1
      | any => exact absurd rfl h1
      | cloE F oe => exact absurd rfl h1
    rw [e]
    exact dss_cons (ds_if (dt_w (dw_or (y := false) (dt_not (dt_val (de_isi (n := "str") (b := false) (de_var 0 rfl) (de_ty rfl Z.b_str (by decide +kernel)) hf.1 ht rfl Z.b_isinstance))) fun h => by cases h)) (fun hc => dss_one (ds_ret de_bl (.inl rfl))) (fun hc => by cases hc))

/-! ### lists of names; what a letter is -/
def strOf (d : D) : Option Str := match d with
  | .str z => some z
  | _ => none
theorem strs_back : ∀ {xs : List D}, xs.all isNm = true → xs = (xs.filterMap strOf).map D.str
  | [], _ => rfl
  | d :: xs, h => by
    rw [List.all_cons, Bool.and_eq_true] at h
    obtain ⟨z, rfl⟩ : ∃ z, d = .str z := by
      have h1 := h.1
      cases d with
      | str z => exact ⟨z, rfl⟩
      | non => cases h1
      | bl b => cases h1
      | int i => cases h1
      | lst xs => cases h1
      | tup xs => cases h1
      | ty n => cases h1
      | dic k => cases h1
      | ins c f => cases h1
      | fn k d g => cases h1
      | clo F oe => cases h1
      | any => cases h1
      | cloE F oe => cases h1
    show D.str z :: xs = D.str z :: (xs.filterMap strOf).map D.str
    rw [← strs_back h.2]
def areNm (d : D) : Bool := match d with
  | .lst xs => xs.all isNm && decide (((SetK.dd (xs.filterMap strOf)).length : Int) = (xs.length : Int))
  | _ => false
theorem filter_strs : ∀ ns : List Str, (ns.map D.str).filterMap strOf = ns
  | [] => rfl
  | n :: ns => by
    show n :: (ns.map D.str).filterMap strOf = _
    rw [filter_strs]
theorem areNm_of {ns : List Str} (h : ∀ n ∈ ns, Nm n) (hd : ns.Nodup) : areNm (.lst (ns.map .str)) = true := by
  show ((ns.map D.str).all isNm && decide (((SetK.dd ((ns.map D.str).filterMap strOf)).length : Int) = ((ns.map D.str).length : Int))) = true
  rw [filter_strs, (SetK.dd_len_eq ns).mpr hd, List.length_map, decide_eq_true rfl, Bool.and_true, List.all_map, List.all_eq_true]
  exact fun n hn => isNm_of (h n hn)
def aAreNames (xs : List D) (r : DS) : Prop := ∃ d, xs = [d] ∧ Fine d ∧ (∀ ys, d = .lst ys → ys.length ≤ 4000 ∧ ∀ y ∈ ys, Fine y) ∧ r = .im (.bl (areNm d))
abbrev nAre : List Str := ["thing", "one"]
theorem scAre : FnScope nAre ["thing"] (defScope S_are_names) := ⟨rfl, rfl, rfl, by decide +kernel, rfl, by decide +kernel, by decide +kernel⟩
theorem kit_list_list : kitB "list" "list" = some true := by decide +kernel
theorem kit_non_list : kitB "NoneType" "list" = some false := by decide +kernel
theorem kit_bool_list : kitB "bool" "list" = some false := by decide +kernel
theorem kit_int_list : kitB "int" "list" = some false := by decide +kernel
theorem kit_str_list : kitB "str" "list" = some false := by decide +kernel
theorem kit_tuple_list : kitB "tuple" "list" = some false := by decide +kernel
theorem ok_are_names {G : Glb} (Z : Facts G) : CallD G 2 "are_names" ["thing"] false aAreNames := by
  refine ⟨?_, Z.g_are_names, Z.n_are_names, Z.f_are_names.kp⟩
  refine okD (N := nAre) Z.f_are_names scAre (fun xs r ⟨_, e, _⟩ => by rw [e]; rfl) fun cdv Ar outer s H E hr xs r ⟨d, e, hf, hl, er⟩ => ?_
  subst e er
  by_cases hs : ∃ ys, d = .lst ys
  · obtain ⟨ys, rfl⟩ := hs
    obtain ⟨hy, hfy⟩ := hl ys rfl
    refine dss_cons (ds_if (dt_w (dw_or (dt_not (dt_val (de_isi (n := "list") (b := true) (de_var 0 rfl) (de_ty rfl Z.b_list (by decide +kernel)) (by show "list" ≠ "?"; decide) kit_list_list rfl Z.b_isinstance))) fun _ => dw_or1 (dt_not (dt_val (de_all (bs := ys.map isNm) (dv_is (de_own (dv_lcP (ev := id) (xs := ys) (own := [("one", 1)]) (js := [1])
      (fun c => [.im (.lst ys), .im c]) (fun _ => true) (fun c => .bl (isNm c)) (by rw [List.map_id]; exact di_list (de_var 0 rfl)) (by omega) scAre.nd (blkOk_by (N := nAre) (sc := defScope S_are_names) (by decide +kernel)) (fun s H C cl fp c hc => dg_name 1 scAre.nd) (fun s H C cl fp c hc => dts_nil)
      (fun s H C cl fp c hc _ => dv_c (ok_is_name Z) hr (da_cons (de_var 1 rfl) da_nil) ⟨c, rfl, hfy c hc, rfl⟩))) (by rw [List.filter_eq_self.mpr fun _ _ => rfl, List.map_map]; rfl)) rfl Z.b_all))))) (fun hc => ?_) (fun hc => ?_))
    · have e : areNm (.lst ys) = false := by
        have h : ys.all isNm = false := by
          rw [List.all_map] at hc
          cases q : ys.all isNm with
          | false => rfl
          | true =>
            have h2 : (ys.all fun x => (id ∘ isNm) x) = true := q
            rw [show ys.all (id ∘ isNm) = true from q] at hc
            cases hc
        show (ys.all isNm && _) = false
        rw [h]
        rfl
      rw [e]
      exact dss_one (ds_ret de_bl (.inl rfl))
    · have h : ys.all isNm = true := by
        rw [List.all_map] at hc
        cases q : ys.all isNm with
        | true => rfl
        | false =>
          rw [show ys.all (id ∘ isNm) = false from q] at hc
          cases hc
      have e := strs_back h
      have e2 : areNm (.lst ys) = decide (((SetK.dd (ys.filterMap strOf)).length : Int) = (ys.length : Int)) := by
        show (ys.all isNm && _) = _
        rw [h]
        rfl
      rw [e2]
      generalize ys.filterMap strOf = ns at e ⊢
      subst e
      rw [List.length_map] at hy ⊢
      refine dss_nil (dss_one (ds_ret (de_eqI (de_lenSet (de_var 0 rfl) hy rfl Z.b_len rfl Z.b_set) (dv_is (de_lenL (de_var 0 rfl) rfl Z.b_len) (by rw [List.length_map]))) (.inl rfl)))
  · have e : areNm d = false := by
      cases d <;> first | rfl | exact absurd ⟨_, rfl⟩ hs
    have ht : kitB (tyD d) "list" = some false := by
      have h1 := hf.1
      cases d with
      | non => exact kit_non_list
      | bl b => exact kit_bool_list
      | int i => exact kit_int_list
      | str z => exact kit_str_list
      | lst xs => exact absurd ⟨_, rfl⟩ hs
      | tup xs => exact kit_tuple_list
      | ty n => exact absurd rfl h1
      | dic k => exact absurd rfl h1
      | ins c f => exact absurd rfl h1
      | fn k d g => exact absurd rfl h1
      | clo F oe => exact absurd rfl h1
      | any => exact absurd rfl h1
      | cloE F oe => exact absurd rfl h1
    rw [e]
    exact dss_cons (ds_if (dt_w (dw_or (y := false) (dt_not (dt_val (de_isi (n := "list") (b := false) (de_var 0 rfl) (de_ty rfl Z.b_list (by decide +kernel)) hf.1 ht rfl Z.b_isinstance))) fun h => by cases h)) (fun hc => dss_one (ds_ret de_bl (.inl rfl))) (fun hc => by cases hc))
theorem fine_str {z : Str} (h : z.length ≤ 100000) : Fine (.str z) := ⟨by show "str" ≠ "?"; decide, fun y e => by cases e; exact h⟩
theorem Nm.fine {n : Str} (h : Nm n) : Fine (.str n) := fine_str (by have := h.hi; omega)

/-- a good name is no trouble -/
def aCheckName (xs : List D) (r : DS) : Prop := ∃ n, xs = [.str n] ∧ Nm n ∧ r = .im .non
theorem scCheckName : FnScope ["name"] ["name"] (defScope S_check_name) := ⟨rfl, rfl, rfl, by decide +kernel, rfl, by decide +kernel, by decide +kernel⟩
theorem ok_check_name {G : Glb} (Z : Facts G) : CallD G 2 "check_name" ["name"] false aCheckName := by
  refine ⟨?_, Z.g_check_name, Z.n_check_name, Z.f_check_name.kp⟩
  refine okD (N := ["name"]) Z.f_check_name scCheckName (fun xs r ⟨_, e, _⟩ => by rw [e]; rfl) fun cdv Ar outer s H E hr xs r ⟨n, e, hn, er⟩ => ?_
  subst e er
  exact dss_one (ds_if (dt_not (dt_val (dv_c (ok_is_name Z) hr (da_cons (de_var 0 rfl) da_nil) ⟨_, rfl, hn.fine, rfl⟩))) (fun hc => by rw [isNm_of hn] at hc; cases hc) (fun _ => dss_nil rfl))

/-- names to which a letter is sent -/
structure Ns (ns : List Str) : Prop where
  nm : ∀ n ∈ ns, Nm n
  nd : ns.Nodup
  ne : ns ≠ []
  le : ns.length ≤ 1000
theorem ns_fine {ns : List Str} (h : ∀ n ∈ ns, Nm n) (hl : ns.length ≤ 1000) : ∀ ys, D.lst (ns.map .str) = .lst ys → ys.length ≤ 4000 ∧ ∀ y ∈ ys, Fine y := fun ys e => by
  cases e
  refine ⟨by rw [List.length_map]; omega, fun y hy => ?_⟩
  obtain ⟨n, h1, rfl⟩ := List.mem_map.mp hy
  exact (h n h1).fine
theorem fine_lst (xs : List D) : Fine (.lst xs) := ⟨by show "list" ≠ "?"; decide, fun y e => by cases e⟩
def aCheckNames (xs : List D) (r : DS) : Prop := ∃ ns : List Str, xs = [.lst (ns.map .str)] ∧ Ns ns ∧ r = .im .non
theorem scCheckNames : FnScope ["names"] ["names"] (defScope S_check_names) := ⟨rfl, rfl, rfl, by decide +kernel, rfl, by decide +kernel, by decide +kernel⟩
theorem ok_check_names {G : Glb} (Z : Facts G) : CallD G 3 "check_names" ["names"] false aCheckNames := by
  refine ⟨?_, Z.g_check_names, Z.n_check_names, Z.f_check_names.kp⟩
  refine okD (N := ["names"]) Z.f_check_names scCheckNames (fun xs r ⟨_, e, _⟩ => by rw [e]; rfl) fun cdv Ar outer s H E hr xs r ⟨ns, e, hn, er⟩ => ?_
  subst e er
  refine dss_one (ds_if (dt_w (dw_or (dt_not (dt_val (dv_c (ok_are_names Z) hr (da_cons (de_var 0 rfl) da_nil) ⟨_, rfl, fine_lst _, ns_fine hn.nm hn.le, rfl⟩))) fun _ => dw_or1 (dt_eqX (x := ns) (y := []) (de_var 0 rfl) (de_own (dv_lst da_nil (by decide))) (units_of hr)))) (fun hc => ?_) (fun _ => dss_nil rfl))
  rw [areNm_of hn.nm hn.nd, decide_eq_false hn.ne] at hc
  cases hc
def aCheckLetter (xs : List D) (r : DS) : Prop := ∃ (s : Str) (ns : List Str), xs = [.str s, .lst (ns.map .str)] ∧ Nm s ∧ Ns ns ∧ r = .im .non
theorem scCheckLetter : FnScope ["sender", "names"] ["sender", "names"] (defScope S_check_letter) := ⟨rfl, rfl, rfl, by decide +kernel, rfl, by decide +kernel, by decide +kernel⟩
theorem ok_check_letter {G : Glb} (Z : Facts G) : CallD G 4 "check_letter" ["sender", "names"] false aCheckLetter := by
  refine ⟨?_, Z.g_check_letter, Z.n_check_letter, Z.f_check_letter.kp⟩
  refine okD (N := ["sender", "names"]) Z.f_check_letter scCheckLetter (fun xs r ⟨_, _, e, _⟩ => by rw [e]; rfl) fun cdv Ar outer s H E hr xs r ⟨se, ns, e, hse, hn, er⟩ => ?_
  subst e er
  exact dss_cons (ds_expr (dv_c (ok_check_name Z) hr (da_cons (de_var 0 rfl) da_nil) ⟨_, rfl, hse, rfl⟩) (dss_one (ds_expr (dv_c (ok_check_names Z) hr (da_cons (de_var 1 rfl) da_nil) ⟨_, rfl, hn, rfl⟩) rfl)))

/-! ### an entry, a book -/
abbrev eBase : Int := 1009 * 4096
def entM (sc : List Int) (a : Int) (n : Str) (ns : List Str) : Ent :=
  ⟨n, some_ ns (Builtin.bitAnd (dg sc a 4 eBase 0) (Builtin.bitOr (dg sc a 4 eBase 0 / 61) (dg sc a 4 eBase 1))),
   if 0 < dg sc a 4 eBase 3 % 3 then some_ ns (Builtin.bitAnd (dg sc a 4 eBase 1) (dg sc a 4 eBase 2)) else [],
   if dg sc a 4 eBase 3 / 3 % 2 = 0 then none else some (ns.getD (dg sc a 4 eBase 3 / 6 % (ns.length : Int)).toNat Str.empty)⟩
def aEntry (xs : List D) (r : DS) : Prop := ∃ (sc : List Int) (a : Int) (n : Str) (ns : List Str), xs = [.lst (sc.map .int), .int a, .str n, .lst (ns.map .str)] ∧ 0 ≤ a ∧ ns ≠ [] ∧ ns.length ≤ 1000 ∧ r = .im (entM sc a n ns).d
abbrev nEntry : List Str := ["_law_script", "_law_at", "_law_name", "_law_names_here", "_law_draws", "_law_left", "_law_gate"]
abbrev qEntry : List Str := ["_law_script", "_law_at", "_law_name", "_law_names_here"]
theorem scEntry : FnScope nEntry qEntry (defScope S_law_entry) := ⟨rfl, rfl, rfl, by decide +kernel, rfl, by decide +kernel, by decide +kernel⟩
theorem ok_entry {G : Glb} (Z : Facts G) : CallD G 4 "_law_entry" qEntry false aEntry := by
  refine ⟨?_, Z.g_law_entry, Z.n_law_entry, Z.f_law_entry.kp⟩
  refine okD (N := nEntry) Z.f_law_entry scEntry (fun xs r ⟨_, _, _, _, e, _⟩ => by rw [e]; rfl) fun cdv Ar outer s H E hr xs r ⟨sc, a, n, ns, e, ha, hne, hl, er⟩ => ?_
  subst e er
  have hns : 0 < ns.length := List.length_pos_iff.mpr hne
  have g := fun (k : Nat) (hk : k < 4) => dg_at (sc := sc) (at_ := a) (many := 4) (base := eBase) (k := k) (by omega)
  have gi := fun (k : Nat) (hk : k < 4) => dg_in (sc := sc) (at_ := a) (many := 4) (base := eBase) (k := k) (by decide) (by omega)
  have g3 := gi 3 (by decide)
  refine dss_cons (ds_set 4 (de_own (dv_c (ok_digits Z) hr (da_cons (de_var 0 rfl) (da_cons (de_var 1 rfl) (da_cons de_int (da_cons (de_mul de_int de_int (.inl (by decide))) da_nil)))) ⟨_, _, _, _, rfl, ha, by decide, by decide, by decide, by decide, rfl⟩)) ?_ scEntry.nd)
  have it : ∀ (k : Nat), k < 4 → atI ((digits sc a 4 eBase).map D.int) (k : Int) = some (.int (dg sc a 4 eBase k)) := fun k hk => lk_int rfl (g k hk)
  refine dss_cons (ds_set 5 (s := .im (.lst ((entM sc a n ns).left.map .str))) (dv_if (dt_gt (de_mod (de_ixL (de_var 4 rfl) de_int (it 3 (by decide))) de_int (by decide)) de_int) (fun hc => ?_) (fun hc => ?_)) ?_ scEntry.nd)
  · have hc' : 0 < dg sc a 4 eBase 3 % 3 := of_decide_eq_true hc
    have e : (entM sc a n ns).left = some_ ns (Builtin.bitAnd (dg sc a 4 eBase 1) (dg sc a 4 eBase 2)) := if_pos hc'
    rw [e]
    exact de_own (dv_c (ok_some Z) hr (da_cons (de_var 3 rfl) (da_cons (de_band (de_ixL (de_var 4 rfl) de_int (it 1 (by decide))) (de_ixL (de_var 4 rfl) de_int (it 2 (by decide)))) da_nil)) ⟨_, _, rfl, hl, rfl⟩)
  · have hc' : ¬ 0 < dg sc a 4 eBase 3 % 3 := of_decide_eq_false hc
    have e : (entM sc a n ns).left = [] := if_neg hc'
    rw [e]
    exact de_own (dv_lst da_nil (by decide))
  refine dss_cons (ds_set 6 (s := .im (gD (entM sc a n ns).gate)) (dv_if (dt_eqI (de_mod (de_div (de_ixL (de_var 4 rfl) de_int (it 3 (by decide))) de_int ⟨by decide, by decide⟩) de_int (by decide)) de_int) (fun hc => ?_) (fun hc => ?_)) ?_ scEntry.nd)
  · have e : (entM sc a n ns).gate = none := if_pos (of_decide_eq_true hc)
    rw [e]
    exact de_non
  · have e : (entM sc a n ns).gate = some (ns.getD (dg sc a 4 eBase 3 / 6 % (ns.length : Int)).toNat Str.empty) := if_neg (of_decide_eq_false hc)
    rw [e]
    have p1 := Int.emod_nonneg (dg sc a 4 eBase 3 / 6) (b := (ns.length : Int)) (by omega)
    have p2 := Int.emod_lt_of_pos (dg sc a 4 eBase 3 / 6) (b := (ns.length : Int)) (by omega)
    have p3 : (dg sc a 4 eBase 3 / 6 % (ns.length : Int)).toNat < ns.length := by omega
    refine de_ixL (de_var 3 rfl) (de_mod (de_div (de_ixL (de_var 4 rfl) de_int (it 3 (by decide))) de_int ⟨by decide, by decide⟩) (dv_is (de_lenL (de_var 3 rfl) rfl Z.b_len) (by rw [List.length_map])) (by omega)) (lk_str (j := (dg sc a 4 eBase 3 / 6 % (ns.length : Int)).toNat) (by omega) ?_)
    rw [List.getD_eq_getElem?_getD, List.getElem?_eq_getElem p3]
    rfl
  exact dss_one (ds_ret (de_tup (da_cons (de_var 2 rfl) (da_cons (de_own (dv_c (ok_some Z) hr (da_cons (de_var 3 rfl) (da_cons (de_band (de_ixL (de_var 4 rfl) de_int (it 0 (by decide))) (de_bor (de_div (de_ixL (de_var 4 rfl) de_int (it 0 (by decide))) de_int ⟨by decide, by decide⟩) (de_ixL (de_var 4 rfl) de_int (it 1 (by decide))))) da_nil)) ⟨_, _, rfl, hl, rfl⟩))
    (da_cons (de_var 5 rfl) (da_cons (de_var 6 rfl) da_nil)))) (by show 4 ≤ 100000; decide)) (.inl rfl))
/-- a good book -/
structure EntOk (e : Ent) : Prop where
  nm : Nm e.nm
  mem : ∀ x ∈ e.mem, Nm x
  memN : e.mem.Nodup
  memL : e.mem.length ≤ 900
  left : ∀ x ∈ e.left, Nm x
  leftN : e.left.Nodup
  leftL : e.left.length ≤ 900
  gate : ∀ g, e.gate = some g → Nm g
structure Bk (b : List Ent) : Prop where
  nd : (b.map Ent.nm).Nodup
  ok : ∀ e ∈ b, EntOk e
  le : b.length ≤ 900
theorem Bk.nil : Bk [] := ⟨List.nodup_nil, (fun _ h => nomatch h), by decide⟩
theorem entM_ok {sc : List Int} {a : Int} {n : Str} {ns : List Str} (hn : Nm n) (h : ∀ x ∈ ns, Nm x) (hd : ns.Nodup) (hl : ns.length ≤ 900) (hne : ns ≠ []) : EntOk (entM sc a n ns) := by
  have s1 := fun (k : Int) => some_ok (ns := ns) k hd
  have l1 := fun (k : Int) => some_len ns k
  refine ⟨hn, fun x hx => h x ((s1 _).2 x hx), (s1 _).1, Nat.le_trans (l1 _) hl, ?_, ?_, ?_, fun g hg => ?_⟩
  · intro x hx
    unfold entM at hx
    dsimp only at hx
    split at hx
    · exact h x ((s1 _).2 x hx)
    · cases hx
  · unfold entM
    dsimp only
    split
    · exact (s1 _).1
    · exact List.nodup_nil
  · unfold entM
    dsimp only
    split
    · exact Nat.le_trans (l1 _) hl
    · exact Nat.zero_le _
  · unfold entM at hg
    dsimp only at hg
    split at hg
    · cases hg
    · cases hg
      have hns : 0 < ns.length := List.length_pos_iff.mpr hne
      have p1 := Int.emod_nonneg (dg sc a 4 eBase 3 / 6) (b := (ns.length : Int)) (by omega)
      have p2 := Int.emod_lt_of_pos (dg sc a 4 eBase 3 / 6) (b := (ns.length : Int)) (by omega)
      rw [List.getD_eq_getElem?_getD, List.getElem?_eq_getElem (by omega)]
      exact h _ (List.getElem_mem _)
def bookStep (sc : List Int) (a : Int) (ns : List Str) (acc : List Ent) (t : Nat) : List Ent :=
  acc.take (cellAt sc (a + (t : Int)) % ((acc.length : Int) + 1)).toNat ++ [entM sc (a + (t : Int)) (ns.getD t Str.empty) ns] ++ acc.drop (cellAt sc (a + (t : Int)) % ((acc.length : Int) + 1)).toNat
def bookM (sc : List Int) (a : Int) (ns : List Str) (m : Nat) : List Ent := (List.range m).foldl (bookStep sc a ns) []
theorem bookM_succ (sc : List Int) (a : Int) (ns : List Str) (m : Nat) : bookM sc a ns (m + 1) = bookStep sc a ns (bookM sc a ns m) m := by
  unfold bookM
  rw [List.range_succ, List.foldl_append]
  rfl
theorem perm_insE {α : Type} (l : List α) (x : α) (k : Nat) : (l.take k ++ [x] ++ l.drop k).Perm (x :: l) := by
  rw [List.append_assoc]
  refine List.perm_middle.trans ?_
  show (x :: (l.take k ++ l.drop k)).Perm (x :: l)
  rw [List.take_append_drop]
theorem bookM_len (sc : List Int) (a : Int) (ns : List Str) : ∀ m, (bookM sc a ns m).length = m
  | 0 => rfl
  | m + 1 => by
    rw [bookM_succ]
    unfold bookStep
    rw [(perm_insE _ _ _).length_eq, List.length_cons, bookM_len sc a ns m]
theorem bookM_ok {sc : List Int} {a : Int} {ns : List Str} (h : ∀ x ∈ ns, Nm x) (hd : ns.Nodup) (hl : ns.length ≤ 900) : ∀ m, m ≤ ns.length → Bk (bookM sc a ns m) ∧ ∀ e ∈ bookM sc a ns m, e.nm ∈ ns.take m
  | 0, _ => ⟨Bk.nil, fun e he => by cases he⟩
  | m + 1, hm => by
    obtain ⟨b, c⟩ := bookM_ok (sc := sc) (a := a) h hd hl m (by omega)
    have hne : ns ≠ [] := fun z => by
      rw [z] at hm
      exact absurd hm (by simp)
    have em : ns[m]? = some ns[m] := List.getElem?_eq_getElem (by omega)
    have eg : ns.getD m Str.empty = ns[m] := by rw [List.getD_eq_getElem?_getD, em]; rfl
    have et : ns.take (m + 1) = ns.take m ++ [ns[m]] := by rw [List.take_succ, em]; rfl
    have nt : (ns.take (m + 1)).Nodup := hd.sublist (List.take_sublist _ _)
    rw [et] at nt
    have ni : ns[m] ∉ ns.take m := fun z => (List.nodup_append.mp nt).2.2 _ z _ (List.mem_singleton_self _) rfl
    rw [bookM_succ]
    unfold bookStep
    rw [eg]
    have p := perm_insE (bookM sc a ns m) (entM sc (a + (m : Int)) ns[m] ns) (cellAt sc (a + (m : Int)) % (((bookM sc a ns m).length : Int) + 1)).toNat
    have hl2 := p.length_eq
    rw [List.length_cons] at hl2
    have hl3 := bookM_len sc a ns m
    refine ⟨⟨?_, fun e he => ?_, by rw [hl2, hl3]; omega⟩, fun e he => ?_⟩
    · refine (p.map Ent.nm).nodup_iff.mpr (List.nodup_cons.mpr ⟨fun z => ?_, b.nd⟩)
      obtain ⟨e, he, e2⟩ := List.mem_map.mp z
      exact ni (by
        have := c e he
        rw [e2] at this
        exact this)
    · rcases List.mem_cons.mp (p.mem_iff.mp he) with rfl | z
      · exact entM_ok (h _ (List.getElem_mem _)) h hd hl hne
      · exact b.ok e z
    · rw [et]
      rcases List.mem_cons.mp (p.mem_iff.mp he) with rfl | z
      · exact List.mem_append_right _ (List.mem_singleton_self _)
      · exact List.mem_append_left _ (c e z)
abbrev bkD (b : List Ent) : D := .lst (b.map Ent.d)
def aBook (xs : List D) (r : DS) : Prop := ∃ (sc : List Int) (a : Int) (ns : List Str) (m : Int), xs = [.lst (sc.map .int), .int a, .lst (ns.map .str), .int m] ∧ 0 ≤ a ∧ 0 ≤ m ∧ m.toNat ≤ ns.length ∧ ns.length ≤ 900 ∧ r = .own ((bookM sc a ns m.toNat).map Ent.d)
abbrev nBook : List Str := ["_law_script", "_law_at", "_law_names_here", "_law_many", "_law_found", "_law_turn", "_law_entry_here"]
abbrev qBook : List Str := ["_law_script", "_law_at", "_law_names_here", "_law_many"]
theorem scBook : FnScope nBook qBook (defScope S_law_book) := ⟨rfl, rfl, rfl, by decide +kernel, rfl, by decide +kernel, by decide +kernel⟩
theorem ok_book {G : Glb} (Z : Facts G) : CallD G 5 "_law_book" qBook false aBook := by
  refine ⟨?_, Z.g_law_book, Z.n_law_book, Z.f_law_book.kp⟩
  refine okD (N := nBook) Z.f_law_book scBook (fun xs r ⟨_, _, _, _, e, _⟩ => by rw [e]; rfl) fun cdv Ar outer s H E hr xs r ⟨sc, a, ns, m, e, ha, hm0, hm, hl, er⟩ => ?_
  subst e er
  refine dss_cons (ds_set 4 (dv_lst da_nil (by decide)) ?_ scBook.nd)
  refine dss_cons (ds_forR [5, 6] (fun i => [.im (.lst (sc.map .int)), .im (.int a), .im (.lst (ns.map .str)), .im (.int m), .own ((bookM sc a ns i).map Ent.d), .no, .no]) (fun d ds1 => ds1.set 5 (.im (.int (0 + (d : Int))))) rfl
    (di_rng1 (de_var 3 rfl) rfl Z.b_range (by omega) (by omega)) (fun d _ ds1 => dg_name 5 scBook.nd) (fun i hi => ?_) ?_ PassesOwn.never)
  · rw [Int.zero_add]
    have hil : i < ns.length := by omega
    have hbl := bookM_len sc a ns i
    have hne : ns ≠ [] := fun z => by
      rw [z] at hil
      exact absurd hil (by simp)
    have ei : ns[i]? = some (ns.getD i Str.empty) := by rw [List.getD_eq_getElem?_getD, List.getElem?_eq_getElem hil]; rfl
    refine dss_cons (ds_set 6 (dv_c (ok_entry Z) hr (da_cons (de_var 0 rfl) (da_cons (de_add (de_var 1 rfl) (de_var 5 rfl)) (da_cons (de_ixL (de_var 2 rfl) (de_var 5 rfl) (lk_str (j := i) rfl ei)) (da_cons (de_var 2 rfl) da_nil)))) ⟨_, _, _, _, rfl, by omega, hne, by omega, rfl⟩) ?_ scBook.nd)
    have c0 := cellAt_ge sc (a + (i : Int))
    refine dss_one (ds_insert 4 rfl (de_mod (dv_c (ok_cell Z) hr (da_cons (de_var 0 rfl) (da_cons (de_add (de_var 1 rfl) (de_var 5 rfl)) da_nil)) ⟨_, _, rfl, by omega, rfl⟩) (de_add (de_view 4 rfl rfl rfl (de_lenL (de_var 4 rfl) rfl Z.b_len)) de_int) (by omega)) (de_var 6 rfl) (by rw [List.length_map]; omega) (Int.emod_nonneg _ (by omega)) ?_ ?_)
    · rw [List.length_map]
      have := Int.emod_lt_of_pos (cellAt sc (a + (i : Int))) (by omega : (0 : Int) < ((bookM sc a ns i).length : Int) + 1)
      omega
    · show _ = _
      rw [bookM_succ, List.length_map, ← List.map_take, ← List.map_drop]
      unfold bookStep
      rw [List.map_append, List.map_append]
      rfl
  · exact dss_one (ds_retOwn 4 rfl (.inl rfl))
def aCopy (xs : List D) (r : DS) : Prop := ∃ b : List Ent, xs = [bkD b] ∧ b.length ≤ 900 ∧ r = .own (b.map Ent.d)
abbrev nCopy : List Str := ["_law_book_here", "_law_name", "_law_members", "_law_left", "_law_gate"]
theorem scCopy : FnScope nCopy ["_law_book_here"] (defScope S_law_copy) := ⟨rfl, rfl, rfl, by decide +kernel, rfl, by decide +kernel, by decide +kernel⟩
theorem ok_copy {G : Glb} (Z : Facts G) : CallD G 1 "_law_copy" ["_law_book_here"] false aCopy := by
  refine ⟨?_, Z.g_law_copy, Z.n_law_copy, Z.f_law_copy.kp⟩
  refine okD (N := nCopy) Z.f_law_copy scCopy (fun xs r ⟨_, e, _⟩ => by rw [e]; rfl) fun cdv Ar outer s H E hr xs r ⟨b, e, hl, er⟩ => ?_
  subst e er
  exact dss_one (ds_ret (dv_lcP (ev := Ent.d) (xs := b) (own := [("_law_name", 1), ("_law_members", 2), ("_law_left", 3), ("_law_gate", 4)]) (js := [1, 2, 3, 4])
      (fun c => [.im (bkD b), .im (.str c.nm), .im (.lst (c.mem.map .str)), .im (.lst (c.left.map .str)), .im (gD c.gate)]) (fun _ => true) Ent.d (di_list (de_var 0 rfl)) (by omega) scCopy.nd (blkOk_by (N := nCopy) (sc := defScope S_law_copy) (by decide +kernel))
      (fun s H C cl fp c hc => dg_tup (dgs_cons (dg_name 1 scCopy.nd) (dgs_cons (dg_name 2 scCopy.nd) (dgs_cons (dg_name 3 scCopy.nd) (dgs_cons (dg_name 4 scCopy.nd) dgs_nil))))) (fun s H C cl fp c hc => dts_nil)
      (fun s H C cl fp c hc _ => de_tup (da_cons (de_var 1 rfl) (da_cons (de_own (dv_list (de_var 2 rfl) rfl Z.b_list)) (da_cons (de_own (dv_list (de_var 3 rfl) rfl Z.b_list)) (da_cons (de_var 4 rfl) da_nil)))) (by show 4 ≤ 100000; decide))) (.inl (by rw [List.filter_eq_self.mpr fun _ _ => rfl])))

/-! ### a book's lists -/
theorem kit_tuple_tuple : kitB "tuple" "tuple" = some true := by decide +kernel
theorem EntOk.fine_tup (e : Ent) : tyD e.d ≠ "?" := by show "tuple" ≠ "?"; decide
def aIsEntry (xs : List D) (r : DS) : Prop := ∃ e : Ent, xs = [e.d] ∧ EntOk e ∧ r = .im (.bl true)
theorem scIsEntry : FnScope ["thing"] ["thing"] (defScope S_is_entry) := ⟨rfl, rfl, rfl, by decide +kernel, rfl, by decide +kernel, by decide +kernel⟩
theorem nm_ns_fine {ns : List Str} (h : ∀ n ∈ ns, Nm n) (hl : ns.length ≤ 900) : ∀ ys, D.lst (ns.map .str) = .lst ys → ys.length ≤ 4000 ∧ ∀ y ∈ ys, Fine y := fun ys e => by
  cases e
  refine ⟨by rw [List.length_map]; omega, fun y hy => ?_⟩
  obtain ⟨n, h1, rfl⟩ := List.mem_map.mp hy
  exact fine_str (by have := (h n h1).hi; omega)
theorem fine_l (xs : List D) : Fine (.lst xs) := ⟨by show "list" ≠ "?"; decide, fun y e => by cases e⟩
theorem fine_s {n : Str} (h : Nm n) : Fine (.str n) := ⟨by show "str" ≠ "?"; decide, fun y e => by cases e; have := h.hi; omega⟩
theorem ok_is_entry {G : Glb} (Z : Facts G) : CallD G 3 "is_entry" ["thing"] false aIsEntry := by
  refine ⟨?_, Z.g_is_entry, Z.n_is_entry, Z.f_is_entry.kp⟩
  refine okD (N := ["thing"]) Z.f_is_entry scIsEntry (fun xs r ⟨_, e, _⟩ => by rw [e]; rfl) fun cdv Ar outer s H E hr xs r ⟨e, ex, ho, er⟩ => ?_
  subst ex er
  refine dss_cons (ds_if (dt_w (dw_or (dt_not (dt_val (de_isi (n := "tuple") (b := true) (de_var 0 rfl) (de_ty rfl Z.b_tuple (by decide +kernel)) (EntOk.fine_tup e) kit_tuple_tuple rfl Z.b_isinstance))) fun _ => dw_or (dt_neI (de_lenT (de_var 0 rfl) rfl Z.b_len) de_int) fun _ =>
    dw_or1 (dt_not (dt_val (dv_c (ok_is_name Z) hr (da_cons (de_ixT (de_var 0 rfl) de_int rfl) da_nil) ⟨_, rfl, fine_s ho.nm, rfl⟩))))) (fun hc => ?_) (fun _ => dss_nil ?_))
  · rw [isNm_of ho.nm] at hc
    cases hc
  have h1 := areNm_of ho.mem ho.memN
  have h2 := areNm_of ho.left ho.leftN
  refine dss_one (ds_ret (dv_is (de_and (dv_c (ok_are_names Z) hr (da_cons (de_ixT (de_var 0 rfl) de_int rfl) da_nil) ⟨_, rfl, fine_l _, nm_ns_fine ho.mem ho.memL, rfl⟩) fun _ => de_and (dv_c (ok_are_names Z) hr (da_cons (de_ixT (de_var 0 rfl) de_int rfl) da_nil) ⟨_, rfl, fine_l _, nm_ns_fine ho.left ho.leftL, rfl⟩) fun _ =>
    de_one (de_or (y := true) (de_isN (de_ixT (de_var 0 rfl) de_int rfl) (isN_g e.gate)) fun hg => de_one ?_)) ?_) (.inl rfl))
  · obtain ⟨g, hg2⟩ : ∃ g, e.gate = some g := by
      cases q : e.gate with
      | none => rw [q] at hg; cases hg
      | some g => exact ⟨g, rfl⟩
    have hn := ho.gate g hg2
    exact dv_c (ok_is_name Z) hr (da_cons (de_ixT (d := gD e.gate) (de_var 0 rfl) de_int rfl) da_nil) ⟨gD e.gate, rfl, by rw [hg2]; exact fine_s hn, by rw [hg2]; exact (congrArg (fun b => DS.im (.bl b)) (isNm_of hn)).symm⟩
  · rw [h1, h2, Bool.or_true]
    rfl
/-- an entry's own object -/
def entT (e : Ent) : OT := .ins "Entry" [("members", .lst ((e.mem.map D.str).map .im)), ("left", .lst ((e.left.map D.str).map .im)), ("gate", .im (gD e.gate))]
def aMkEntry (xs : List D) (t : OT) : Prop := ∃ (e : Ent), xs = [.lst (e.mem.map .str), .lst (e.left.map .str), gD e.gate] ∧ t = entT e
abbrev qMkEntry : List Str := ["self", "members", "left", "gate"]
theorem scMkEntry : FnScope qMkEntry qMkEntry (defScope S_Entry_init) := ⟨rfl, rfl, rfl, by decide +kernel, rfl, by decide +kernel, by decide +kernel⟩
theorem mk_entry {G : Glb} (Z : Facts G) : MakD G 1 "Entry" qMkEntry aMkEntry := by
  refine ⟨Z.mk_Entry, ?_, Z.g_Entry, Z.n_Entry_init⟩
  refine okI (N := qMkEntry) Z.f_Entry_init scMkEntry (fun xs r ⟨_, e, _⟩ => by rw [e]; rfl) fun cdv Ar outer s H E hr p xs t ⟨e, ex, et⟩ => ?_
  subst ex et
  refine dss_cons (ds_setF 0 rfl (dv_list (de_var 1 rfl) rfl Z.b_list) rfl ?_ Z.k_Entry Z.a_Entry_members (by simp) (by decide))
  refine dss_cons (ds_setF 0 rfl (dv_list (de_var 2 rfl) rfl Z.b_list) rfl ?_ Z.k_Entry Z.a_Entry_left (show ("left" : Str) ∉ (["members"] : List Str) by decide) (by show 1 < 1000; decide))
  exact dss_cons (ds_setF 0 rfl (de_var 3 rfl) rfl (dss_nil rfl) Z.k_Entry Z.a_Entry_gate (show ("gate" : Str) ∉ (["members", "left"] : List Str) by decide) (by show 2 < 1000; decide))
def lsT (b : List Ent) : OT := .dic (b.map fun e => (e.nm, entT e))
/-- as told -/
def entI (e : Ent) : D := .ins "Entry" [("members", .lst (e.mem.map .str)), ("left", .lst (e.left.map .str)), ("gate", gD e.gate)]
def lsK (b : List Ent) : List (Str × D) := b.map fun e => (e.nm, entI e)
abbrev lsD (b : List Ent) : D := .dic (lsK b)
theorem fzs_im : ∀ l : List D, OT.fzs (l.map .im) = l
  | [] => by rw [List.map_nil, OT.fzs]
  | d :: l => by rw [List.map_cons, OT.fzs, OT.fz, fzs_im l]
theorem entT_fz (e : Ent) : (entT e).fz = entI e := by
  unfold entT entI
  rw [OT.fz, OT.fzF, OT.fzF, OT.fzF, OT.fzF, OT.fz, OT.fz, OT.fz, fzs_im, fzs_im]
theorem fzF_ls : ∀ b : List Ent, OT.fzF (b.map fun e => (e.nm, entT e)) = lsK b
  | [] => by rw [List.map_nil, OT.fzF]; rfl
  | e :: b => by rw [List.map_cons, OT.fzF, fzF_ls b, entT_fz]; rfl
theorem lsT_fz (b : List Ent) : (lsT b).fz = lsD b := by
  unfold lsT
  rw [OT.fz, fzF_ls]
def aLists (xs : List D) (r : DS) : Prop := ∃ b : List Ent, xs = [bkD b] ∧ Bk b ∧ r = .ot none (lsT b)
abbrev nLists : List Str := ["book", "found", "row", "entry"]
theorem scLists : FnScope nLists ["book"] (defScope S_lists_of) := ⟨rfl, rfl, rfl, by decide +kernel, rfl, by decide +kernel, by decide +kernel⟩
theorem ok_lists_of {G : Glb} (Z : Facts G) : CallD G 4 "lists_of" ["book"] false aLists := by
  refine ⟨?_, Z.g_lists_of, Z.n_lists_of, Z.f_lists_of.kp⟩
  refine okD (N := nLists) Z.f_lists_of scLists (fun xs r ⟨_, e, _⟩ => by rw [e]; rfl) fun cdv Ar outer s H E hr xs r ⟨b, ex, hb, er⟩ => ?_
  subst ex er
  refine dss_cons (ds_if (dt_not (dt_val (de_isi (n := "list") (b := true) (de_var 0 rfl) (de_ty rfl Z.b_list (by decide +kernel)) (by show "list" ≠ "?"; decide) kit_list_list rfl Z.b_isinstance))) (fun hc => by cases hc) (fun _ => dss_nil ?_))
  refine dss_cons (ds_set 1 dv_newT ?_ scLists.nd)
  refine dss_cons (ds_forN [2, 3] (fun i => [.im (bkD b), .ot none (lsT (b.take i)), .no, .no]) (fun i a ds1 => (ds1.set 2 (.im (.int (i : Int)))).set 3 (.im a.d)) rfl (di_enum (de_var 0 rfl) rfl Z.b_enumerate)
    (fun i a _ ds1 => dg_tup (dgs_cons (dg_name 2 scLists.nd) (dgs_cons (dg_name 3 scLists.nd) dgs_nil))) (fun i a ha => ?_) ?_ PassesOwn.never)
  · have hm : a ∈ b := List.mem_of_getElem? ha
    have ho := hb.ok a hm
    have et : b.take (i + 1) = b.take i ++ [a] := by rw [List.take_succ, ha]; rfl
    have nt : ((b.take (i + 1)).map Ent.nm).Nodup := hb.nd.sublist ((List.take_sublist _ _).map _)
    rw [et, List.map_append] at nt
    have ni : a.nm ∉ (b.take i).map Ent.nm := fun z => (List.nodup_append.mp nt).2.2 _ z _ (List.mem_singleton_self _) rfl
    have nk : a.nm ∉ ((b.take i).map fun e => (e.nm, entT e)).map (·.1) := by rw [List.map_map]; exact ni
    refine dss_cons (ds_if (dt_w (dw_or (dt_not (dt_val (dv_c (ok_is_entry Z) hr (da_cons (de_var 3 rfl) da_nil) ⟨a, rfl, ho, rfl⟩))) fun _ => dw_or1 (dt_inK 1 rfl (de_ixT (de_var 3 rfl) de_int rfl) (u1 hr)))) (fun hc => ?_) (fun _ => dss_nil ?_))
    · rw [decide_eq_false nk] at hc
      cases hc
    refine dss_one (ds_dputO 1 rfl (de_ixT (de_var 3 rfl) de_int rfl) (dv_mk (mk_entry Z) hr (da_cons (de_ixT (de_var 3 rfl) de_int rfl) (da_cons (de_ixT (de_var 3 rfl) de_int rfl) (da_cons (de_ixT (de_var 3 rfl) de_int rfl) da_nil))) ⟨a, rfl, rfl⟩) rfl nk ?_ ?_ (u1 hr))
    · have := hb.le
      rw [List.length_map, List.length_take]
      omega
    · show _ = _
      unfold lsT
      rw [et, List.map_append]
      rfl
  · rw [List.take_length]
    exact dss_one (ds_retT 1 rfl (.inl rfl))
theorem lists_told {b : List Ent} : (DS.ot none (lsT b)).fz = .im (lsD b) := by
  show DS.im (lsT b).fz = _
  rw [lsT_fz]

/-! ### by what names are in order -/
theorem scRank : FnScope ["name"] ["name"] (defScope S_rank) := ⟨rfl, rfl, rfl, by decide +kernel, rfl, by decide +kernel, by decide +kernel⟩
theorem ok_rank {G : Glb} (Z : Facts G) : PureKey G (He.ga G.K "rank") rankD := by
  refine ⟨fun A outer s H x t hr hx e0 => ?_⟩
  obtain ⟨oc, od, dV, kV, doc, pm, an, cdv, ct, osl, e1, lk, hcd, _, _⟩ := Z.f_rank.ex
  have KX : G.K.In s.heap := e0.mod.kin.keeps fun b o e => (e0.bs b o e).1
  have lim : s.heap.NoLimit := e0.mod.nolimit.keeps fun b o e => (e0.bs b o e).1
  have hb := Z.n_rank s [.str x t] KX rfl
  rw [e1] at hb lk
  have S := scRank
  have hkind : ∀ y ∈ (["name"] : List Str).zip [Value.str x t], (defScope S_rank).names.lookup y.1 = some .local ∨ ((defScope S_rank).names.lookup y.1 = some .cell ∧ ((cellsFrom (s.heap.objs.size + 1) (defScope S_rank).names []).lookup y.1).isSome = true) := fun ⟨n, v⟩ hy => by
    rcases S.par n (List.of_mem_zip hy).1 with q | q
    · exact .inl q
    · exact .inr ⟨q, PySem.W.cellsFrom_some _ _ _ (.inl q)⟩
  refine wpAny_call (codeAny_call_function hr.depth (KX _ _ lk) rfl S.co S.gen rfl (PySem.W.codeRec_of KX hcd) (hb _ _ _ _ ?_))
  refine wpAny_newFunctionEnv_cells S.kind hkind fun env he s1 xx => ?_
  subst he
  refine ⟨lim.keeps xx.toInCall.keep, codeAny_func ?_⟩
  have I : L2.Inv (cxOf CX0 G.P G.w G.K G.mg G.base ["name"] "rank" (defScope S_rank) (He.ga G.K "rank") cdv A outer s H E0) [] (L2.start ["name"] [.str x]) H s1 := inv_start S hr.hd e0 rfl (.cons ⟨t, rfl⟩ .nil) xx
  obtain ⟨h1, tk, rfl, hk⟩ := xx.toInCall.done
  have nm : ∀ (s2 : Shared) (pos : Pos) (Q : Value → Shared → Prop) (E : Value → Shared → Prop) (A2 : Around), L2.Inv (cxOf CX0 G.P G.w G.K G.mg G.base ["name"] "rank" (defScope S_rank) (He.ga G.K "rank") cdv A outer s H E0) [] (L2.start ["name"] [.str x]) H s2 → (∀ t, Q (.str x t) s2) →
      wpAny (model G.P G.w) A2 (eval (.Name "name" pos) (envOfC "rank" (defScope S_rank) s.heap.objs.size (He.ga G.K "rank") cdv)) Q E s2 := fun s2 pos Q E A2 J q => by
    obtain ⟨m, hn, hl⟩ := J.loc
    obtain ⟨u, r, l⟩ := hl 0 "name" (.str x) rfl rfl (Or.inl rfl)
    obtain ⟨t2, rfl⟩ := (show ∃ t, u = Value.str x t from r)
    rcases l with ⟨hk, hm⟩ | ⟨hk, c, hc, hcell⟩
    · exact wpAny_Name (wpAny_loadName_local J.ok.kind hk hn hm (q t2)) (by decide)
    · rcases hk with z | z
      · exact absurd (show (defScope S_rank).names.lookup ("name" : Str) = some NameKind.cell from z) (by decide +kernel)
      · exact absurd (show (defScope S_rank).names.lookup ("name" : Str) = some NameKind.free from z) (by decide +kernel)
  refine wpAny_execs_cons (wpAny_Return_some (wpAny_Tuple_spliced ?_))
  refine Calls.spliced_cons ?_
  refine wpAny_Call_Name_kw (ld_blt I rfl Z.b_len rfl ?_)
  refine PyProof.Rows.callWith_kw (Calls.spliced_cons (nm _ _ _ _ _ I fun t2 => Calls.spliced_nil ?_)) rfl rfl rfl rfl
  refine wpAny_evalAll_nil ?_
  refine PySem.P.len_str (by omega) ?_
  refine Calls.spliced_cons (nm _ _ _ _ _ (I.tok _) fun t3 => Calls.spliced_nil ?_)
  refine ⟨(by decide : 2 ≤ sizeLine), ?_⟩
  refine ⟨_, _, rfl, fun b o e => Heap.get?_push_of_some _ (hk b o e), ?_⟩
  refine .tuple (Heap.get?_push_size _ rfl) rfl rfl (xs := [.int (x.length : Int), .str x]) (as := []) ?_
  exact .cons (as := []) (bs := []) (.int _ _) (.cons (as := []) (bs := []) (.str _ _) .nil)

abbrev srtOf (xs : List D) (r : DS) : Prop := ∃ ns : List Str, xs = [.lst (ns.map .str)] ∧ (∀ n ∈ ns, n.length ≤ 100000) ∧ r = .own ((sortN ns).map .str)
theorem scInOrder : FnScope ["names"] ["names"] (defScope S_in_order) := ⟨rfl, rfl, rfl, by decide +kernel, rfl, by decide +kernel, by decide +kernel⟩
theorem ok_in_order {G : Glb} (Z : Facts G) : CallD G 4 "in_order" ["names"] false srtOf := by
  refine ⟨?_, Z.g_in_order, Z.n_in_order, Z.f_in_order.kp⟩
  refine okD (N := ["names"]) Z.f_in_order scInOrder (fun xs r ⟨_, e, _⟩ => by rw [e]; rfl) fun cdv Ar outer s H E hr xs r ⟨ns, e, hn, er⟩ => ?_
  subst e er
  exact dss_one (ds_ret (dv_sortN (de_var 0 rfl) hn (ok_rank Z) Z.g_rank hr Z.b_sorted) (.inl rfl))

/-! ### whom one comes to -/
def memsOf (b : List Ent) (n : Str) : List Str := match b.find? fun e => decide (e.nm = n) with
  | some e => e.mem
  | none => []
def isL (b : List Ent) (n : Str) : Bool := b.any fun e => decide (e.nm = n)
def uni (b : List Ent) (ns : List Str) : List Str := ns ++ b.flatMap Ent.mem
def comeStep (b : List Ent) (g : Str → Bool) (line : List Str) (n : Str) : List Str := if (isL b n && g n) = true then line ++ (memsOf b n).filter fun m => !decide (m ∈ line) else line
def comeRun (b : List Ent) (g : Str → Bool) : Nat → List Str → Nat → List Str
  | 0, line, _ => line
  | f + 1, line, a => match line[a]? with
    | some n => comeRun b g f (comeStep b g line n) (a + 1)
    | none => line
def come (b : List Ent) (g : Str → Bool) (ns : List Str) : List Str := comeRun b g ((uni b ns).length + 1) ns 0
theorem look_ls (b : List Ent) (n : Str) : lookD (lsK b) n = (b.find? fun e => decide (e.nm = n)).map entI := by
  unfold lookD lsK
  rw [List.find?_map]
  cases h : b.find? (fun e => decide (e.nm = n)) with
  | none =>
    have : b.find? ((fun kv : Str × D => decide (kv.1 = n)) ∘ fun e => (e.nm, entI e)) = none := h
    rw [this]
    rfl
  | some e =>
    have : b.find? ((fun kv : Str × D => decide (kv.1 = n)) ∘ fun e => (e.nm, entI e)) = some e := h
    rw [this]
    rfl
theorem isL_look (b : List Ent) (n : Str) : (lookD (lsK b) n).isSome = isL b n := by
  rw [look_ls, Option.isSome_map]
  unfold isL
  rw [Bool.eq_iff_iff, List.find?_isSome, List.any_eq_true]
theorem isL_find {b : List Ent} {n : Str} (h : isL b n = true) : ∃ e, b.find? (fun e => decide (e.nm = n)) = some e ∧ e ∈ b ∧ e.nm = n := by
  cases q : b.find? (fun e => decide (e.nm = n)) with
  | none =>
    rw [← isL_look, look_ls, q] at h
    cases h
  | some e => exact ⟨e, rfl, List.mem_of_find?_eq_some q, of_decide_eq_true (List.find?_some (p := fun e : Ent => decide (e.nm = n)) q)⟩
theorem memsOf_mem {b : List Ent} {n m : Str} (h : m ∈ memsOf b n) : ∃ e ∈ b, m ∈ e.mem := by
  unfold memsOf at h
  cases q : b.find? (fun e => decide (e.nm = n)) with
  | none => rw [q] at h; cases h
  | some e =>
    rw [q] at h
    exact ⟨e, List.mem_of_find?_eq_some q, h⟩
theorem memsOf_nd {b : List Ent} (hb : Bk b) (n : Str) : (memsOf b n).Nodup := by
  unfold memsOf
  cases q : b.find? (fun e => decide (e.nm = n)) with
  | none => exact List.nodup_nil
  | some e => exact (hb.ok e (List.mem_of_find?_eq_some q)).memN
/-- what a line is like on the way -/
structure Line (b : List Ent) (ns line : List Str) : Prop where
  nd : line.Nodup
  sub : ∀ x ∈ line, x ∈ uni b ns
theorem nd_sub_len {α : Type} [BEq α] [LawfulBEq α] : ∀ {l m : List α}, l.Nodup → (∀ x ∈ l, x ∈ m) → l.length ≤ m.length
  | [], _, _, _ => Nat.zero_le _
  | x :: l, m, h, hs => by
    have hx := hs x List.mem_cons_self
    obtain ⟨h1, h2⟩ := List.nodup_cons.mp h
    have z := nd_sub_len (l := l) (m := m.erase x) h2 fun y hy => (List.mem_erase_of_ne fun e => h1 (by rw [← e]; exact hy)).mpr (hs y (List.mem_cons_of_mem _ hy))
    rw [List.length_erase_of_mem hx] at z
    have := List.length_pos_of_mem hx
    rw [List.length_cons]
    omega
theorem Line.len {b : List Ent} {ns line : List Str} (h : Line b ns line) : line.length ≤ (uni b ns).length := nd_sub_len h.nd h.sub
theorem Line.grow {b : List Ent} {ns line ms : List Str} (h : Line b ns line) (hm : ms.Nodup) (hs : ∀ m ∈ ms, ∃ e ∈ b, m ∈ e.mem) : Line b ns (line ++ ms.filter fun m => !decide (m ∈ line)) := by
  refine ⟨List.nodup_append.mpr ⟨h.nd, hm.filter _, fun x hx y hy e => ?_⟩, fun x hx => ?_⟩
  · have := (List.mem_filter.mp hy).2
    rw [← e] at this
    simp [hx] at this
  · rcases List.mem_append.mp hx with z | z
    · exact h.sub x z
    · obtain ⟨e, he, hm⟩ := hs x (List.mem_filter.mp z).1
      exact List.mem_append_right _ (List.mem_flatMap.mpr ⟨e, he, hm⟩)
theorem Line.step {b : List Ent} {ns line : List Str} {g : Str → Bool} (hb : Bk b) (h : Line b ns line) (n : Str) : Line b ns (comeStep b g line n) := by
  unfold comeStep
  split
  · exact h.grow (memsOf_nd hb n) fun m hm => memsOf_mem hm
  · exact h
abbrev trueD (line : List Str) : List (Str × D) := line.map fun n => (n, D.bl true)
abbrev eCome0 (b : List Ent) (k : Nat) (dom g : Str → Bool) (ns line kn : List Str) (a : Nat) (o6 o7 : DS) : List DS := [.im (lsD b), .im (.lst (ns.map .str)), .im (.fn k dom g), .own (line.map .str), .ownD (trueD kn), .im (.int (a : Int)), o6, o7]
theorem trueD_keys (line : List Str) : (trueD line).map (·.1) = line := by
  rw [List.map_map]
  exact List.map_id line
theorem putD_new {kvs : List (Str × D)} {k : Str} {d : D} (h : k ∉ kvs.map (·.1)) : putD kvs k d = kvs ++ [(k, d)] := by
  unfold putD
  rw [if_neg]
  intro z
  obtain ⟨kv, h1, h2⟩ := List.any_eq_true.mp z
  exact h (by rw [← of_decide_eq_true h2]; exact List.mem_map_of_mem h1)
theorem putT_new {line : List Str} {k : Str} (h : k ∉ line) : putD (trueD line) k (.bl true) = trueD (line ++ [k]) := by
  rw [putD_new (by rw [trueD_keys]; exact h)]
  show _ = (line ++ [k]).map fun n => (n, D.bl true)
  rw [List.map_append]
  rfl
theorem comeRun_at {b : List Ent} {g : Str → Bool} {m a : Nat} {line : List Str} {n : Str} (h : line[a]? = some n) : comeRun b g (m + 1) line a = comeRun b g m (comeStep b g line n) (a + 1) := by
  rw [comeRun, h]
theorem comeRun_end {b : List Ent} {g : Str → Bool} {m a : Nat} {line : List Str} (h : line.length ≤ a) : comeRun b g m line a = line := by
  cases m with
  | zero => rfl
  | succ m => rw [comeRun, List.getElem?_eq_none h]
theorem comeStep_len (b : List Ent) (g : Str → Bool) (line : List Str) (n : Str) : line.length ≤ (comeStep b g line n).length := by
  unfold comeStep
  split
  · rw [List.length_append]; omega
  · exact Nat.le_refl _
/-- ahead of a turn of the while: m turns are left at most -/
def PvCome (b : List Ent) (k : Nat) (dom g : Str → Bool) (ns : List Str) (m : Nat) (ds : List DS) : Prop := ∃ (line : List Str) (a : Nat) (o6 o7 : DS), ds = eCome0 b k dom g ns line line a o6 o7 ∧ m + a = (uni b ns).length + 1 ∧ a ≤ line.length ∧ Line b ns line ∧ comeRun b g m line a = come b g ns
def aCome (xs : List D) (r : DS) : Prop := ∃ (b : List Ent) (k : Nat) (dom g : Str → Bool) (ns : List Str), xs = [lsD b, .lst (ns.map .str), .fn k dom g] ∧ Bk b ∧ ns.Nodup ∧ (uni b ns).length ≤ 90000 ∧ (∀ n, isL b n = true → dom n = true) ∧ k ≤ 2 ∧ r = .ownD (trueD (come b g ns))
abbrev nCome : List Str := ["lists", "names", "goes", "line", "known", "at", "name", "member"]
abbrev qCome : List Str := ["lists", "names", "goes"]
theorem scCome : FnScope nCome qCome (defScope S_come_to) := ⟨rfl, rfl, rfl, by decide +kernel, rfl, by decide +kernel, by decide +kernel⟩
theorem ok_come_to {G : Glb} (Z : Facts G) : CallD G 3 "come_to" qCome false aCome := by
  refine ⟨?_, Z.g_come_to, Z.n_come_to, Z.f_come_to.kp⟩
  refine okD (N := nCome) Z.f_come_to scCome (fun xs r ⟨_, _, _, _, _, e, _⟩ => by rw [e]; rfl) fun cdv Ar outer s H E hr xs r ⟨b, k, dom, g, ns, e, hb, hn, hU, hdom, hk, er⟩ => ?_
  subst e er
  have hul : ns.length ≤ (uni b ns).length := by unfold uni; rw [List.length_append]; omega
  refine dss_cons (ds_p3 3 4 5 (dv_list (de_var 1 rfl) rfl Z.b_list) dv_newD de_int ?_ scCome.nd)
  refine dss_cons (ds_forE (e := D.str) (xs := ns) [6] (fun i => eCome0 b k dom g ns ns (ns.take i) 0 .no .no) (fun n ds1 => ds1.set 6 (.im (.str n))) rfl (di_list (de_var 1 rfl)) (fun n _ ds1 => dg_name 6 scCome.nd) (fun i n hi => ?_) ?_ PassesOwn.never)
  · have et : ns.take (i + 1) = ns.take i ++ [n] := by rw [List.take_succ, hi]; rfl
    have nt : (ns.take (i + 1)).Nodup := hn.sublist (List.take_sublist _ _)
    rw [et] at nt
    have ni : n ∉ ns.take i := fun z => (List.nodup_append.mp nt).2.2 _ z _ (List.mem_singleton_self _) rfl
    refine dss_one (ds_dput 4 rfl (de_var 6 rfl) de_bl ?_ ?_ (u1 hr))
    · rw [List.length_map, List.length_take]
      omega
    · show _ = _
      rw [putT_new ni, ← et]
      rfl
  · rw [List.take_length]
    have l0 : Line b ns ns := ⟨hn, fun x hx => List.mem_append_left _ hx⟩
    refine dss_cons (ds_while (PvCome b k dom g ns) ((uni b ns).length + 1) ⟨ns, 0, .no, .no, rfl, rfl, Nat.zero_le _, l0, rfl⟩ (fun m ds1 ⟨line, a, o6, o7, e1, e2, e3, e4, e5⟩ => ?_) PassesOwn.never)
    subst e1
    have hlu := e4.len
    refine ⟨_, dt_lt (de_var 5 rfl) (de_view 3 rfl rfl rfl (dv_is (de_lenL (de_var 3 rfl) rfl Z.b_len) (by rw [List.length_map]))), fun hc => ?_, fun hc => ?_⟩
    · have ha : a < line.length := by
        have := of_decide_eq_true hc
        omega
      obtain ⟨m', rfl⟩ : ∃ m', m = m' + 1 := ⟨m - 1, by omega⟩
      have hx : line[a]? = some line[a] := List.getElem?_eq_getElem ha
      generalize line[a] = n at hx
      rw [comeRun_at hx] at e5
      have l1 := e4.step (g := g) hb n
      have fin : ∀ o7', PvCome b k dom g ns m' (eCome0 b k dom g ns (comeStep b g line n) (comeStep b g line n) (a + 1) (.im (.str n)) o7') := fun o7' => ⟨_, a + 1, _, _, rfl, by omega, by have := comeStep_len b g line n; omega, l1, e5⟩
      refine dss_cons (ds_set 6 (de_view 3 rfl rfl rfl (de_ixL (de_var 3 rfl) (de_var 5 rfl) (lk_str (j := a) rfl hx))) ?_ scCome.nd)
      refine dss_cons (ds_if (dt_w (dw_and (x := isL b n) (y := g n) (isL_look b n ▸ dt_inD (de_var 6 rfl) (de_var 0 rfl) (u1 hr)) fun hl => dw_and1 (dt_val (de_fn 2 rfl (de_var 6 rfl) (hdom n hl) hr hk)))) (fun hc => ?_) (fun hc => ?_))
      · have hl : isL b n = true := (Bool.and_eq_true_iff.mp hc).1
        obtain ⟨en, f1, f2, f3⟩ := isL_find hl
        have em : memsOf b n = en.mem := by unfold memsOf; rw [f1]
        have es : comeStep b g line n = line ++ (memsOf b n).filter fun m => !decide (m ∈ line) := if_pos hc
        have mnd := memsOf_nd hb n
        refine dss_one (ds_forE (e := D.str) (xs := memsOf b n) [7] (fun i => eCome0 b k dom g ns (line ++ ((memsOf b n).take i).filter fun m => !decide (m ∈ line)) (line ++ ((memsOf b n).take i).filter fun m => !decide (m ∈ line)) a (.im (.str n)) .no) (fun n ds1 => ds1.set 7 (.im (.str n))) (by rw [List.take_zero, List.filter_nil, List.append_nil]; rfl)
          (di_list (de_fld (d := .lst ((memsOf b n).map .str)) (de_dget (d := entI en) (de_var 0 rfl) (de_var 6 rfl) (by rw [look_ls, f1]; rfl) (u1 hr)) Z.k_Entry Z.a_Entry_members (by rw [em]; rfl))) (fun n _ ds1 => dg_name 7 scCome.nd) (fun i x hi => ?_) ?_ PassesOwn.never)
        · have et : (memsOf b n).take (i + 1) = (memsOf b n).take i ++ [x] := by rw [List.take_succ, hi]; rfl
          have nt : ((memsOf b n).take (i + 1)).Nodup := mnd.sublist (List.take_sublist _ _)
          rw [et] at nt
          have ni : x ∉ (memsOf b n).take i := fun z => (List.nodup_append.mp nt).2.2 _ z _ (List.mem_singleton_self _) rfl
          have li := (e4.grow (ms := (memsOf b n).take i) (mnd.sublist (List.take_sublist _ _)) fun m hm => memsOf_mem (List.mem_of_mem_take hm)).len
          rw [et, List.filter_append]
          have inl : x ∈ line ++ ((memsOf b n).take i).filter (fun m => !decide (m ∈ line)) ↔ x ∈ line := by
            rw [List.mem_append]
            exact ⟨fun z => z.elim id fun z => absurd (List.mem_filter.mp z).1 ni, .inl⟩
          refine dss_one (ds_if (dt_niK 4 rfl (de_var 7 rfl) (u1 hr)) (fun hc => ?_) (fun hc => ?_))
          · rw [trueD_keys] at hc
            have nx : x ∉ line ++ ((memsOf b n).take i).filter (fun m => !decide (m ∈ line)) := fun z => by
              rw [decide_eq_true z] at hc
              cases hc
            have ef : [x].filter (fun m => !decide (m ∈ line)) = [x] := by
              rw [List.filter_cons, if_pos (by rw [decide_eq_false (fun z => nx (inl.mpr z))]; rfl)]
              rfl
            rw [ef, ← List.append_assoc]
            refine dss_cons (ds_dput 4 rfl (de_var 7 rfl) de_bl (by rw [List.length_map]; omega) ?_ (u1 hr))
            rw [putT_new nx]
            refine dss_one (ds_append 3 rfl (de_var 7 rfl) (by rw [List.length_map]; omega) ?_)
            show _ = _
            rw [show (line ++ ((memsOf b n).take i).filter (fun m => !decide (m ∈ line))).map D.str ++ [D.str x] = ((line ++ ((memsOf b n).take i).filter (fun m => !decide (m ∈ line))) ++ [x]).map D.str from by
              rw [List.map_append (l₁ := line ++ ((memsOf b n).take i).filter (fun m => !decide (m ∈ line)))]
              rfl]
            rfl
          · rw [trueD_keys] at hc
            have nx : x ∈ line ++ ((memsOf b n).take i).filter (fun m => !decide (m ∈ line)) := Decidable.byContradiction fun z => by
              rw [decide_eq_false z] at hc
              cases hc
            have ef : [x].filter (fun m => !decide (m ∈ line)) = [] := by
              rw [List.filter_cons, if_neg (by rw [decide_eq_true (inl.mp nx)]; exact fun z => nomatch z)]
              rfl
            rw [ef, List.append_nil]
            exact dss_nil rfl
        · rw [List.take_length, ← es]
          exact dss_one (ds_augI 5 rfl de_int ⟨m', Nat.lt_succ_self _, fin .no⟩ scCome.nd)
      · have es : comeStep b g line n = line := if_neg (by rw [hc]; exact fun z => nomatch z)
        rw [es] at fin
        exact dss_nil (dss_one (ds_augI 5 rfl de_int ⟨m', Nat.lt_succ_self _, fin o7⟩ scCome.nd))
    · have ha : line.length ≤ a := by
        have := of_decide_eq_false hc
        omega
      rw [comeRun_end ha] at e5
      refine dss_one (ds_retOwnD 4 rfl (.inl ?_))
      rw [e5]
theorem uni_short {b : List Ent} {ns : List Str} (hb : Bk b) (hn : ∀ x ∈ ns, Nm x) : ∀ x ∈ uni b ns, x.length ≤ 100000 := fun x hx => by
  have nm : Nm x := by
    rcases List.mem_append.mp hx with z | z
    · exact hn x z
    · obtain ⟨e, he, hm⟩ := List.mem_flatMap.mp z
      exact (hb.ok e he).mem x hm
  have := nm.hi
  omega

/-! ### all to whom a way leads -/
def leftOf (b : List Ent) (n : Str) : List Str := match b.find? fun e => decide (e.nm = n) with
  | some e => e.left
  | none => []
def goesM (b : List Ent) (g : Str → Bool) (p : Str) : Str → Bool := fun n => g n && !decide (p ∈ leftOf b n)
def reachedM (b : List Ent) (g : Str → Bool) (ns : List Str) : List Str := sortN (((come b g ns).filter fun n => !isL b n).filter fun p => decide (p ∈ come b (goesM b g p) ns))
theorem come_line {b : List Ent} (g : Str → Bool) {ns : List Str} (hb : Bk b) (hn : ns.Nodup) : Line b ns (come b g ns) := by
  unfold come
  have gen : ∀ (m a : Nat) (line : List Str), Line b ns line → Line b ns (comeRun b g m line a) := fun m => by
    induction m with
    | zero => exact fun a line h => h
    | succ m ih =>
      intro a line h
      rw [comeRun]
      cases line[a]? with
      | none => exact h
      | some n => exact ih _ _ (h.step hb n)
  exact gen _ _ _ ⟨hn, fun x hx => List.mem_append_left _ hx⟩
abbrev S_goes : Stmt := match (defBody S_reached_by).getD 1 (.Pass ⟨0, 0, 0, 0⟩) with
  | .For _ _ (s :: _) _ _ => s
  | _ => .Pass ⟨0, 0, 0, 0⟩
abbrev frGoes : List Str := ["passes", "person", "lists"]
abbrev nGoes : List Str := ["name", "passes", "person", "lists"]
theorem scGoes : NdefX.NScope nGoes ["name"] frGoes (C8.fnScope S_goes) := NdefX.nscope_by (by decide +kernel)
def aGoes (cd xs : List D) (r : DS) : Prop := ∃ (b : List Ent) (k : Nat) (dom g : Str → Bool) (p n : Str), cd = [.fn k dom g, .str p, lsD b] ∧ xs = [.str n] ∧ k ≤ 1 ∧ dom n = true ∧ isL b n = true ∧ r = .im (.bl (goesM b g p n))
theorem ok_goes {G : Glb} (Z : Facts G) (F : NdefX.NF) (hF : ∃ q cl c, F = NdefX.NF.of S_goes "goes" q cl c) : CloOk G 2 F none frGoes aGoes := by
  obtain ⟨q, cl, c, rfl⟩ := hF
  refine CloOk.ofN (p := "name") fun f => okN (N := nGoes) scGoes (fun doc pm ctv us hl => match us, hl with | [_], _ => rfl) (fun cd xs r ⟨_, _, _, _, _, _, _, e, _⟩ => by rw [e]; rfl) fun Ar outer s H E hr cd xs r ⟨b, k, dom, g, p, n, e1, e2, hk, hd, hl, er⟩ => ?_
  subst e1 e2 er
  obtain ⟨en, f1, f2, f3⟩ := isL_find hl
  have el : leftOf b n = en.left := by unfold leftOf; rw [f1]
  exact dss_one (ds_ret (de_and (de_fn 1 rfl (de_var 0 rfl) hd hr hk) fun _ => de_one (dv_is (de_niS (ns := en.left) (de_var 2 rfl) (de_fld (d := .lst (en.left.map .str)) (de_dget (d := entI en) (de_var 3 rfl) (de_var 0 rfl) (by rw [look_ls, f1]; rfl) (u1 hr)) Z.k_Entry Z.a_Entry_left rfl)) (by rw [el]))) (.inl rfl))
def aReached (xs : List D) (r : DS) : Prop := ∃ (b : List Ent) (k : Nat) (dom g : Str → Bool) (ns : List Str), xs = [lsD b, .lst (ns.map .str), .fn k dom g] ∧ Bk b ∧ ns.Nodup ∧ (uni b ns).length ≤ 90000 ∧ (∀ x ∈ uni b ns, x.length ≤ 100000) ∧ (∀ n, isL b n = true → dom n = true) ∧ k ≤ 1 ∧ r = .own ((reachedM b g ns).map .str)
abbrev nReached : List Str := ["lists", "names", "passes", "found", "person", "goes", "name"]
abbrev qReached : List Str := ["lists", "names", "passes"]
theorem scReached : FnScope nReached qReached (defScope S_reached_by) := ⟨rfl, rfl, rfl, by decide +kernel, rfl, by decide +kernel, by decide +kernel⟩
theorem nfGoes : NdefX.ndefB (defScope S_reached_by) (C8.fnScope S_goes) frGoes = true := by decide +kernel
theorem look_true (k : Str) : ∀ l : List Str, (lookD (trueD l) k).isSome = decide (k ∈ l)
  | [] => rfl
  | x :: l => by
    unfold lookD trueD
    rw [List.map_cons, List.find?_cons]
    by_cases e : x = k
    · rw [decide_eq_true (show ((x, D.bl true) : Str × D).1 = k from e), decide_eq_true (by rw [e]; exact List.mem_cons_self)]
      rfl
    · rw [decide_eq_false (show ¬ ((x, D.bl true) : Str × D).1 = k from e)]
      have z := look_true k l
      unfold lookD trueD at z
      rw [show (decide (k ∈ x :: l)) = decide (k ∈ l) from decide_eq_decide.mpr ⟨fun h => (List.mem_cons.mp h).elim (fun h => absurd h.symm e) id, List.mem_cons_of_mem _⟩, ← z]
theorem clean_true (l : List Str) : (DS.ownD (trueD l)).clean = true := by
  show ((l.map fun n => (n, D.bl true)).all fun kv => flatD kv.2) = true
  rw [List.all_map, List.all_eq_true]
  intro x _
  rfl

theorem ok_reached_by {G : Glb} (Z : Facts G) : CallD G 5 "reached_by" qReached false aReached := by
  refine ⟨?_, Z.g_reached_by, Z.n_reached_by, Z.f_reached_by.kp⟩
  refine okDc (N := nReached) Z.f_reached_by Z.t_reached_by scReached (fun xs r ⟨_, _, _, _, _, e, _⟩ => by rw [e]; rfl) fun c P tb Ar outer s H E hr xs r ⟨b, k, dom, g, ns, e, hb, hn, hU, hlen, hdom, hk, er⟩ => ?_
  subst e er
  obtain ⟨cs, hcs⟩ : ∃ cs, cs = (come b g ns).filter fun n => !isL b n := ⟨_, rfl⟩
  have lc := come_line g hb hn
  have csl : cs.length ≤ 90000 := by
    rw [hcs]
    exact Nat.le_trans (List.length_filter_le _ _) (Nat.le_trans lc.len hU)
  have aC : aCome [lsD b, .lst (ns.map .str), .fn k dom g] (.ownD (trueD (come b g ns))) := ⟨_, _, _, _, _, rfl, hb, hn, hU, hdom, by omega, rfl⟩
  refine dss_cons (ds_set 3 (dv_lst da_nil (by decide)) ?_ scReached.nd)
  refine dss_cons (ds_forE (e := D.str) (xs := cs) [4, 5] (fun i => [.im (lsD b), .im (.lst (ns.map .str)), .im (.fn k dom g), .own (((cs.take i).filter fun p => decide (p ∈ come b (goesM b g p) ns)).map .str), .no, .no, .no]) (fun n ds1 => ds1.set 4 (.im (.str n))) rfl
    (di_list (de_own (dv_is (dv_lcP (ev := D.str) (xs := come b g ns) (own := [("name", 6)]) (js := [6]) (fun n => [.im (lsD b), .im (.lst (ns.map .str)), .im (.fn k dom g), .own [], .no, .no, .im (.str n)]) (fun n => !isL b n) (fun n => .str n) ((keys_true (come b g ns)) ▸ di_keysNew (dv_c (ok_come_to Z) hr (da_cons (de_var 0 rfl) (da_cons (de_var 1 rfl) (da_cons (de_var 2 rfl) da_nil))) aC)) (by have := lc.len; omega) scReached.nd
      (blkOk_by (N := nReached) (sc := defScope S_reached_by) (by decide +kernel)) (fun s H C cl fp n hc => dg_name 6 scReached.nd) (fun s H C cl fp n hc => dts_one (isL_look b n ▸ dt_niD (de_var 6 rfl) (de_var 0 rfl) (u1 hr))) (fun s H C cl fp n hc _ => de_var 6 rfl)) (by rw [hcs])))) (fun n _ ds1 => dg_name 4 scReached.nd) (fun i p hi => ?_) ?_ PassesOwn.never)
  · have hp : p ∈ come b g ns := by
      have := List.mem_of_getElem? hi
      rw [hcs] at this
      exact (List.mem_filter.mp this).1
    have et : cs.take (i + 1) = cs.take i ++ [p] := by rw [List.take_succ, hi]; rfl
    refine dss_cons (ds_ndef 5 (c := c) (P := P) (nm := fun _ _ => "reached_by.<locals>.goes") (name := "goes") rfl tb.tb rfl tb.mem (show ("reached_by.<locals>.goes" : Str) = "reached_by" ++ ".<locals>." ++ "goes" by decide +kernel) tb.one (NdefX.ndef_free (sc := defScope S_reached_by) (nsc := C8.fnScope S_goes) nfGoes) scReached.nd (fun c' => ?_))
    refine dss_one (ds_if (dt_inD (kvs := trueD (come b (goesM b g p) ns)) (de_var 4 rfl) (de_ownD (dv_cl _ frGoes [2, 4, 0] [.fn k dom g, .str p, lsD b] [lsD b, .lst (ns.map .str), .fn 2 (fun n => isL b n) (goesM b g p)] (ok_come_to Z) hr (da_cons (de_var 0 rfl) (da_cons (de_var 1 rfl) (da_cons (de_var 5 rfl) da_nil)))
      (fun ok => NdefX.Caps.made (fr := frGoes) (scope := C8.fnScope S_goes) ok (NdefX.ndef_free (sc := defScope S_reached_by) (nsc := C8.fnScope S_goes) nfGoes) (NdefX.ndef_fr (sc := defScope S_reached_by) (nsc := C8.fnScope S_goes) nfGoes) rfl) (fun _ => rfl) ?_ rfl ?_ ⟨_, _, _, _, _, rfl, hb, hn, hU, fun _ h => h, by decide, rfl⟩ ?_)) (u1 hr)) (fun hc => ?_) (fun hc => ?_))
    · intro i d hd
      match i, hd with
      | 0, hd => exact ⟨2, rfl, by cases hd; rfl⟩
      | 1, hd => exact ⟨4, rfl, by cases hd; rfl⟩
      | 2, hd => exact ⟨0, rfl, by cases hd; rfl⟩
      | n + 3, hd => cases hd
    · intro I L vs ws cap wl hd hw hn sm rs
      cases rs with
      | cons r1 rs =>
      cases rs with
      | cons r2 rs =>
      cases rs with
      | @cons v3 _ _ _ r3 rs =>
      cases rs
      obtain ⟨f, rfl⟩ : ∃ f, v3 = .ref f := by
        cases r3
        exact ⟨_, rfl⟩
      exact .cons (r1.mono sm) (.cons (r2.mono sm) (.cons (rep_fn (ok_goes Z _ ⟨_, _, _, rfl⟩) r3 cap wl hd hw hn fun x hx => ⟨b, k, dom, g, p, x, rfl, rfl, hk, hdom x hx, hx, rfl⟩) .nil))
    · exact clean_true _
    · rw [look_true] at hc
      refine dss_one (ds_append 3 rfl (de_var 4 rfl) ?_ ?_)
      · rw [List.length_map]
        have := List.length_filter_le (fun p => decide (p ∈ come b (goesM b g p) ns)) (cs.take i)
        rw [List.length_take] at this
        omega
      · show _ = _
        rw [et, List.filter_append, List.filter_cons, if_pos hc, List.map_append]
        rfl
    · rw [look_true] at hc
      refine dss_nil ?_
      show _ = _
      rw [et, List.filter_append, List.filter_cons, if_neg (by rw [hc]; exact fun z => nomatch z), List.filter_nil, List.append_nil]
      rfl
  · rw [List.take_length]
    refine dss_freeze 3 rfl rfl (dss_one (ds_ret (dv_c (ok_in_order Z) hr (da_cons (de_var 3 rfl) da_nil) ⟨_, rfl, fun n hn => ?_, rfl⟩) (.inl ?_)))
    · have h1 := (List.mem_filter.mp hn).1
      rw [hcs] at h1
      exact hlen n (lc.sub n (List.mem_filter.mp h1).1)
    · rw [hcs]
      rfl

/-! ### all that a name stands for -/
def lamAt (e : Expr) : Arguments × Expr × Scope := match e with
  | .Lambda a b s _ => (a, b, s)
  | _ => ({ posonlyargs := [], args := [], vararg := none, kwonlyargs := [], kw_defaults := [], kwarg := none, defaults := [] }, e, { kind := .function, names := [], isGenerator := false, isCoroutine := false })
def retE (s : Stmt) : Expr := match s with
  | .Return (some e) _ => e
  | _ => .Name "" ⟨0, 0, 0, 0⟩
def argAt (e : Expr) (i : Nat) : Expr := match e with
  | .Call _ es _ _ => es.getD i (.Name "" ⟨0, 0, 0, 0⟩)
  | _ => .Name "" ⟨0, 0, 0, 0⟩
def aTrue (cd xs : List D) (r : DS) : Prop := cd = [] ∧ ∃ x : Str, xs = [.str x] ∧ r = .im (.bl true)
abbrev L_stands : Arguments × Expr × Scope := lamAt (argAt (retE ((defBody S_stands_for).getD 0 (.Pass ⟨0, 0, 0, 0⟩))) 2)
theorem scLamS : NdefX.NScope ["one"] ["one"] [] L_stands.2.2 := NdefX.nscope_by (by decide +kernel)
theorem ok_lamS {G : Glb} (F : NdefX.NF) (hF : ∃ q cl c, F = ⟨"<lambda>", q, L_stands.1, [], L_stands.2.2, cl, c⟩) : CloOk G 1 F (some L_stands.2.1) [] aTrue := by
  obtain ⟨q, cl, c, rfl⟩ := hF
  refine okL (N := ["one"]) (p := "one") scLamS (fun cd xs r ⟨_, x, e, _⟩ => ⟨x, e⟩) (fun pm ctv u => rfl) fun f Ar outer s H E hr cd x r ⟨e1, y, e2, er⟩ => ?_
  subst e1 er
  exact de_bl
theorem fn_true {G : Glb} {F : NdefX.NF} {e : Expr} (h : CloOk G 1 F (some e) [] aTrue) (hcl : F.cl = []) {J : Hp} {f : Addr} (r : Rep G J (.ref f) (.clo F (some e))) : Rep G J (.ref f) (.fn 1 (fun _ => true) fun _ => true) := by
  have z := rep_fn (L := []) (ws := []) (cd := []) (dom := fun _ => true) (g := fun _ => true) h r (fun i d e => nomatch e) rfl ⟨rfl, (fun y c e => by rw [hcl] at e; cases e), (fun x y c e => by rw [hcl] at e; cases e), (fun i y e => nomatch e)⟩ (fun a o e => nomatch e) (fun a o e => nomatch e) fun x _ => ⟨rfl, x, rfl, rfl⟩
  exact z
def aStands (xs : List D) (r : DS) : Prop := ∃ (b : List Ent) (n : Str), xs = [lsD b, .str n] ∧ Bk b ∧ (uni b [n]).length ≤ 90000 ∧ (∀ x ∈ uni b [n], x.length ≤ 100000) ∧ r = .own ((reachedM b (fun _ => true) [n]).map .str)
theorem scStands : FnScope ["lists", "name"] ["lists", "name"] (defScope S_stands_for) := ⟨rfl, rfl, rfl, by decide +kernel, rfl, by decide +kernel, by decide +kernel⟩
theorem nfStands : ∀ y ∈ L_stands.2.2.names, y.2 = .free → (defScope S_stands_for).names.lookup y.1 = some .cell ∨ (defScope S_stands_for).names.lookup y.1 = some .free := by decide +kernel
theorem ok_stands_for {G : Glb} (Z : Facts G) : CallD G 6 "stands_for" ["lists", "name"] false aStands := by
  refine ⟨?_, Z.g_stands_for, Z.n_stands_for, Z.f_stands_for.kp⟩
  refine okDc (N := ["lists", "name"]) Z.f_stands_for Z.t_stands_for scStands (fun xs r ⟨_, _, e, _⟩ => by rw [e]; rfl) fun c P tb Ar outer s H E hr xs r ⟨b, n, e, hb, hU, hlen, er⟩ => ?_
  subst e er
  refine dss_one (ds_ret (dv_c (ok_reached_by Z) hr (da_cons (de_var 0 rfl) (da_cons (de_own (dv_lst (da_cons (de_var 1 rfl) da_nil) (by show 1 ≤ 100000; decide))) (da_cons (de_lam (d := .fn 1 (fun _ => true) fun _ => true) (c := c) (P := P) (nm := fun _ _ => "stands_for.<locals>.<lambda>") tb.tb rfl tb.mem (show ("stands_for.<locals>.<lambda>" : Str) = "stands_for" ++ ".<locals>." ++ "<lambda>" by decide +kernel) tb.one nfStands (fun J f c' r => ?_)) da_nil)))
    ⟨b, 1, fun _ => true, fun _ => true, [n], rfl, hb, by simp, hU, hlen, fun _ _ => rfl, by decide, rfl⟩) (.inl rfl))
  exact fn_true (ok_lamS _ ⟨_, _, _, rfl⟩) rfl r

/-! ### which lists let a sender in -/
def openM (b : List Ent) (s : Str) (e : Ent) : Bool := match e.gate with
  | none => true
  | some g => if isL b g = true then decide (s ∈ reachedM b (fun _ => true) [g]) else decide (g = s)
def letsL (b : List Ent) (s : Str) (l : List Ent) : List (Str × D) := l.map fun e => (e.nm, D.bl (openM b s e))
def gateL (b : List Ent) (e : Ent) : Bool := match e.gate with
  | none => false
  | some g => !isL b g
theorem items_ls (b : List Ent) : DK.items.ds (lsK b) = b.map fun e => D.tup [.str e.nm, entI e] := by
  show (b.map fun e => (e.nm, entI e)).map (fun kv => D.tup [.str kv.1, kv.2]) = _
  rw [List.map_map]
  rfl
theorem keys_ls (b : List Ent) : DK.keys.ds (lsK b) = b.map fun e => D.str e.nm := by
  show (b.map fun e => (e.nm, entI e)).map (fun kv => D.str kv.1) = _
  rw [List.map_map]
  rfl
theorem uni_le {b : List Ent} (hU : (b.flatMap Ent.mem).length ≤ 80000) {ns : List Str} (h : ns.length ≤ 10000) : (uni b ns).length ≤ 90000 := by
  unfold uni
  rw [List.length_append]
  omega
theorem take_nd {b : List Ent} (hb : Bk b) {i : Nat} {a : Ent} (ha : b[i]? = some a) : a.nm ∉ (b.take i).map Ent.nm := by
  have et : b.take (i + 1) = b.take i ++ [a] := by rw [List.take_succ, ha]; rfl
  have nt : ((b.take (i + 1)).map Ent.nm).Nodup := hb.nd.sublist ((List.take_sublist _ _).map _)
  rw [et, List.map_append] at nt
  exact fun z => (List.nodup_append.mp nt).2.2 _ z _ (List.mem_singleton_self _) rfl
theorem take_snoc {α : Type} {l : List α} {i : Nat} {a : α} (h : l[i]? = some a) : l.take (i + 1) = l.take i ++ [a] := by rw [List.take_succ, h]; rfl
def aLetsIn (xs : List D) (r : DS) : Prop := ∃ (b : List Ent) (s : Str), xs = [lsD b, .str s] ∧ Bk b ∧ (b.flatMap Ent.mem).length ≤ 80000 ∧ r = .ownD (letsL b s b)
abbrev nLetsIn : List Str := ["lists", "sender", "found", "name", "entry"]
theorem scLetsIn : FnScope nLetsIn ["lists", "sender"] (defScope S_lets_in) := ⟨rfl, rfl, rfl, by decide +kernel, rfl, by decide +kernel, by decide +kernel⟩
theorem ok_lets_in {G : Glb} (Z : Facts G) : CallD G 7 "lets_in" ["lists", "sender"] false aLetsIn := by
  refine ⟨?_, Z.g_lets_in, Z.n_lets_in, Z.f_lets_in.kp⟩
  refine okD (N := nLetsIn) Z.f_lets_in scLetsIn (fun xs r ⟨_, _, e, _⟩ => by rw [e]; rfl) fun cdv Ar outer s H E hr xs r ⟨b, se, e, hb, hU, er⟩ => ?_
  subst e er
  have hble := hb.le
  refine dss_cons (ds_set 2 dv_newD ?_ scLetsIn.nd)
  refine dss_cons (ds_forE (e := fun e : Ent => D.tup [.str e.nm, entI e]) (xs := b) [3, 4] (fun i => [.im (lsD b), .im (.str se), .ownD (letsL b se (b.take i)), .no, .no]) (fun e ds1 => (ds1.set 3 (.im (.str e.nm))).set 4 (.im (entI e))) rfl
    (items_ls b ▸ di_items (de_var 0 rfl)) (fun e _ ds1 => dg_tup (dgs_cons (dg_name 3 scLetsIn.nd) (dgs_cons (dg_name 4 scLetsIn.nd) dgs_nil))) (fun i a ha => ?_) ?_ PassesOwn.never)
  · have hm : a ∈ b := List.mem_of_getElem? ha
    have ho := hb.ok a hm
    have nk : a.nm ∉ (letsL b se (b.take i)).map (·.1) := by
      unfold letsL
      rw [List.map_map]
      exact take_nd hb ha
    have hl : (letsL b se (b.take i)).length < 100000 := by
      unfold letsL
      rw [List.length_map, List.length_take]
      omega
    have fin : DS.ownD (putD (letsL b se (b.take i)) a.nm (.bl (openM b se a))) = .ownD (letsL b se (b.take (i + 1))) := by
      rw [putD_new nk, take_snoc ha]
      unfold letsL
      rw [List.map_append]
      rfl
    cases hg : a.gate with
    | none =>
      refine dss_one (ds_if (x := true) (dt_is (dt_w (dw_or (x := true) (y := false) (dt_is (dt_isN (de_fld (d := gD a.gate) (de_var 4 rfl) Z.k_Entry Z.a_Entry_gate rfl) (isN_g a.gate)) (by rw [hg]; rfl)) fun h => by cases h)) rfl) (fun _ => ?_) (fun h => by cases h))
      refine dss_one (ds_dput 2 rfl (de_var 3 rfl) (dv_is (de_inNS (g := a.gate) (x := se) (de_fld (d := gD a.gate) (de_var 4 rfl) Z.k_Entry Z.a_Entry_gate rfl) (de_tup (da_cons de_non (da_cons (de_var 1 rfl) da_nil)) (by show 2 ≤ 100000; decide))) (s' := .im (.bl (openM b se a))) (by unfold openM; rw [hg]; rfl)) hl ?_ (u1 hr))
      rw [fin]
      rfl
    | some g =>
      refine dss_one (ds_if (x := !isL b g) (dt_is (dt_w (dw_or (x := false) (y := !isL b g) (dt_is (dt_isN (de_fld (d := gD a.gate) (de_var 4 rfl) Z.k_Entry Z.a_Entry_gate rfl) (isN_g a.gate)) (by rw [hg]; rfl)) fun _ => dw_or1 (isL_look b g ▸ dt_niD (dv_is (de_fld (d := gD a.gate) (de_var 4 rfl) Z.k_Entry Z.a_Entry_gate rfl) (by rw [hg]; rfl)) (de_var 0 rfl) (u1 hr)))) (Bool.false_or _)) (fun hc => ?_) (fun hc => ?_))
      · have hc' : isL b g = false := by simpa using hc
        refine dss_one (ds_dput 2 rfl (de_var 3 rfl) (dv_is (de_inNS (g := a.gate) (x := se) (de_fld (d := gD a.gate) (de_var 4 rfl) Z.k_Entry Z.a_Entry_gate rfl) (de_tup (da_cons de_non (da_cons (de_var 1 rfl) da_nil)) (by show 2 ≤ 100000; decide))) (s' := .im (.bl (openM b se a))) (by
          unfold openM
          rw [hg]
          show DS.im (.bl (false || decide (some g = some se))) = .im (.bl (if isL b g = true then _ else decide (g = se)))
          rw [if_neg (by rw [hc']; exact fun z => nomatch z), Bool.false_or]
          exact congrArg (fun x => DS.im (D.bl x)) (decide_eq_decide.mpr ⟨fun e => Option.some.inj e, fun e => by rw [e]⟩))) hl ?_ (u1 hr))
        rw [fin]
        rfl
      · have hc' : isL b g = true := by simpa using hc
        have hgn := ho.gate g hg
        refine dss_one (ds_dput 2 rfl (de_var 3 rfl) (dv_is (de_inS (de_var 1 rfl) (de_own (dv_c (ok_stands_for Z) hr (da_cons (de_var 0 rfl) (da_cons (dv_is (de_fld (d := gD a.gate) (de_var 4 rfl) Z.k_Entry Z.a_Entry_gate rfl) (by rw [hg]; rfl)) da_nil)) ⟨b, g, rfl, hb, uni_le hU (by show 1 ≤ _; omega), uni_short hb (fun x hx => by rw [List.mem_singleton.mp hx]; exact hgn), rfl⟩))) (s' := .im (.bl (openM b se a))) (by
          unfold openM
          rw [hg]
          show _ = DS.im (.bl (if isL b g = true then _ else _))
          rw [if_pos hc'])) hl ?_ (u1 hr))
        rw [fin]
        rfl
  · rw [List.take_length]
    exact dss_one (ds_retOwnD 2 rfl (.inl rfl))
/-! ### whom a letter reaches, which lists hold it -/
def gM (b : List Ent) (s : Str) (n : Str) : Bool := match b.find? fun e => decide (e.nm = n) with
  | some e => openM b s e
  | none => false
theorem look_lets (b : List Ent) (s n : Str) : lookD (letsL b s b) n = (b.find? fun e => decide (e.nm = n)).map fun e => D.bl (openM b s e) := by
  unfold lookD letsL
  rw [List.find?_map]
  cases h : b.find? (fun e => decide (e.nm = n)) with
  | none =>
    have : b.find? ((fun kv : Str × D => decide (kv.1 = n)) ∘ fun e => (e.nm, D.bl (openM b s e))) = none := h
    rw [this]
    rfl
  | some e =>
    have : b.find? ((fun kv : Str × D => decide (kv.1 = n)) ∘ fun e => (e.nm, D.bl (openM b s e))) = some e := h
    rw [this]
    rfl
theorem look_gM {b : List Ent} {s n : Str} (h : isL b n = true) : lookD (letsL b s b) n = some (.bl (gM b s n)) := by
  obtain ⟨e, h1, _⟩ := isL_find h
  rw [look_lets, h1]
  unfold gM
  rw [h1]
  rfl

/-! ### the lists that hold a letter -/
def heldM (b : List Ent) (g : Str → Bool) (ns : List Str) : List Str := sortN ((come b g ns).filter fun n => isL b n && !g n)
def aHolding (xs : List D) (r : DS) : Prop := ∃ (b : List Ent) (k : Nat) (dom g : Str → Bool) (ns : List Str), xs = [lsD b, .lst (ns.map .str), .fn k dom g] ∧ Bk b ∧ ns.Nodup ∧ (uni b ns).length ≤ 90000 ∧ (∀ x ∈ uni b ns, x.length ≤ 100000) ∧ (∀ n, isL b n = true → dom n = true) ∧ k ≤ 2 ∧ r = .own ((heldM b g ns).map .str)
abbrev nHolding : List Str := ["lists", "names", "passes", "met", "name"]
theorem scHolding : FnScope nHolding ["lists", "names", "passes"] (defScope S_holding) := ⟨rfl, rfl, rfl, by decide +kernel, rfl, by decide +kernel, by decide +kernel⟩
theorem ok_holding {G : Glb} (Z : Facts G) : CallD G 5 "holding" ["lists", "names", "passes"] false aHolding := by
  refine ⟨?_, Z.g_holding, Z.n_holding, Z.f_holding.kp⟩
  refine okD (N := nHolding) Z.f_holding scHolding (fun xs r ⟨_, _, _, _, _, e, _⟩ => by rw [e]; rfl) fun cdv Ar outer s H E hr xs r ⟨b, k, dom, g, ns, e, hb, hn, hU, hlen, hdom, hk, er⟩ => ?_
  subst e er
  have lc := come_line g hb hn
  have cl := lc.len
  refine dss_cons (ds_set 3 (de_ownD (dv_c (ok_come_to Z) hr (da_cons (de_var 0 rfl) (da_cons (de_var 1 rfl) (da_cons (de_var 2 rfl) da_nil))) ⟨b, k, dom, g, ns, rfl, hb, hn, hU, hdom, hk, rfl⟩)) ?_ scHolding.nd)
  refine dss_one (ds_ret (dv_c (ok_in_order Z) hr (da_cons (dv_is (de_own (dv_lcP (ev := D.str) (xs := come b g ns) (own := [("name", 4)]) (js := [4]) (fun n => [.im (lsD b), .im (.lst (ns.map .str)), .im (.fn k dom g), .im (.dic (trueD (come b g ns))), .im (.str n)]) (fun n => isL b n && !g n) (fun n => .str n)
    (keys_true (come b g ns) ▸ di_keys (de_var 3 rfl)) (by omega) scHolding.nd (blkOk_by (N := nHolding) (sc := defScope S_holding) (by decide +kernel)) (fun s H C cl fp n hc => dg_name 4 scHolding.nd)
    (fun s H C cl fp n hc => dts_one (dt_w (dw_and (isL_look b n ▸ dt_inD (de_var 4 rfl) (de_var 0 rfl) (u1 hr)) fun hl => dw_and1 (dt_not (dt_val (de_fn 2 rfl (de_var 4 rfl) (hdom n hl) hr (by omega))))))) (fun s H C cl fp n hc _ => de_var 4 rfl))) rfl) da_nil) ⟨_, rfl, fun n hn => ?_, rfl⟩) (.inl rfl))
  exact hlen n (lc.sub n (List.mem_filter.mp hn).1)

abbrev S_passes : Stmt := (defBody S_reached).getD 3 (.Pass ⟨0, 0, 0, 0⟩)
abbrev nPasses : List Str := ["name", "opened"]
theorem scPasses : NdefX.NScope nPasses ["name"] ["opened"] (C8.fnScope S_passes) := NdefX.nscope_by (by decide +kernel)
def aPasses (cd xs : List D) (r : DS) : Prop := ∃ (b : List Ent) (s n : Str), cd = [.dic (letsL b s b)] ∧ xs = [.str n] ∧ isL b n = true ∧ r = .im (.bl (gM b s n))
theorem ok_passes {G : Glb} (Z : Facts G) (F : NdefX.NF) (hF : ∃ q cl c, F = NdefX.NF.of S_passes "passes" q cl c) : CloOk G 1 F none ["opened"] aPasses := by
  obtain ⟨q, cl, c, rfl⟩ := hF
  refine CloOk.ofN (p := "name") fun f => okN (N := nPasses) scPasses (fun doc pm ctv us hl => match us, hl with | [_], _ => rfl) (fun cd xs r ⟨_, _, _, _, e, _⟩ => by rw [e]; rfl) fun Ar outer s H E hr cd xs r ⟨b, se, n, e1, e2, hl, er⟩ => ?_
  subst e1 e2 er
  exact dss_one (ds_ret (de_dget (de_var 1 rfl) (de_var 0 rfl) (look_gM hl) (u1 hr)) (.inl rfl))
def strsT (xs : List (List Str)) : List OT := xs.map fun ns => .lst ((ns.map D.str).map .im)
def pairT (x y : List Str) : OT := .tup [.lst ((x.map D.str).map .im), .lst ((y.map D.str).map .im)]
def aReachedL (xs : List D) (r : DS) : Prop := ∃ (b : List Ent) (s : Str) (ns : List Str), xs = [bkD b, .str s, .lst (ns.map .str)] ∧ Bk b ∧ Nm s ∧ Ns ns ∧ (b.flatMap Ent.mem).length ≤ 80000 ∧ r = .ot none (pairT (reachedM b (gM b s) ns) (heldM b (gM b s) ns))
abbrev nReachedL : List Str := ["book", "sender", "names", "lists", "opened", "passes"]
theorem scReachedL : FnScope nReachedL ["book", "sender", "names"] (defScope S_reached) := ⟨rfl, rfl, rfl, by decide +kernel, rfl, by decide +kernel, by decide +kernel⟩
theorem nfPasses : NdefX.ndefB (defScope S_reached) (C8.fnScope S_passes) ["opened"] = true := by decide +kernel
theorem clean_strs (l : List Str) : (DS.own (l.map D.str)).clean = true := by
  show ((l.map D.str).all flatD) = true
  rw [List.all_map, List.all_eq_true]
  intro x _
  rfl
theorem ok_reachedL {G : Glb} (Z : Facts G) : CallD G 8 "reached" ["book", "sender", "names"] false aReachedL := by
  refine ⟨?_, Z.g_reached, Z.n_reached, Z.f_reached.kp⟩
  refine okDc (N := nReachedL) Z.f_reached Z.t_reached scReachedL (fun xs r ⟨_, _, _, e, _⟩ => by rw [e]; rfl) fun c P tb Ar outer s H E hr xs r ⟨b, se, ns, e, hb, hse, hns, hU, er⟩ => ?_
  subst e er
  have hu := uni_le hU (ns := ns) (by have := hns.le; omega)
  have hs := uni_short hb hns.nm
  refine dss_cons (ds_set 3 (dv_is (dv_fz (dv_c (ok_lists_of Z) hr (da_cons (de_var 0 rfl) da_nil) ⟨b, rfl, hb, rfl⟩)) lists_told) ?_ scReachedL.nd)
  refine dss_cons (ds_expr (dv_c (ok_check_letter Z) hr (da_cons (de_var 1 rfl) (da_cons (de_var 2 rfl) da_nil)) ⟨_, _, rfl, hse, hns, rfl⟩) ?_)
  refine dss_cons (ds_set 4 (de_ownD (dv_c (ok_lets_in Z) hr (da_cons (de_var 3 rfl) (da_cons (de_var 1 rfl) da_nil)) ⟨b, se, rfl, hb, hU, rfl⟩)) ?_ scReachedL.nd)
  refine dss_cons (ds_ndef 5 (c := c) (P := P) (nm := fun _ _ => "reached.<locals>.passes") (name := "passes") rfl tb.tb rfl tb.mem (show ("reached.<locals>.passes" : Str) = "reached" ++ ".<locals>." ++ "passes" by decide +kernel) tb.one (NdefX.ndef_free (sc := defScope S_reached) (nsc := C8.fnScope S_passes) nfPasses) scReachedL.nd (fun c' => ?_))
  have hcd : ∀ (i : Nat) (d : D), ([D.dic (letsL b se b)] : List D)[i]? = some d → ∃ m, ([4] : List Nat)[i]? = some m ∧ ([.im (bkD b), .im (.str se), .im (.lst (ns.map .str)), .im (lsD b), .im (.dic (letsL b se b)), .im (.clo (NdefX.NF.of S_passes "passes" ("reached" ++ ".<locals>." ++ "passes") (cloFrom (envOfC "reached" (defScope S_reached) s.heap.objs.size (He.ga G.K "reached") (.ref c)).cells (C8.fnScope S_passes).names []) c') none)] : List DS)[m]? = some (.im d) := fun i d hd => by
    match i, hd with
    | 0, hd => exact ⟨4, rfl, by cases hd; rfl⟩
    | n + 1, hd => cases hd
  refine dss_one (ds_ret (dv_tupT (dat_cons (dv_cl _ ["opened"] [4] [.dic (letsL b se b)] [lsD b, .lst (ns.map .str), .fn 1 (fun n => isL b n) (gM b se)] (ok_reached_by Z) hr (da_cons (de_var 3 rfl) (da_cons (de_var 2 rfl) (da_cons (de_var 5 rfl) da_nil)))
      (fun ok => NdefX.Caps.made (fr := ["opened"]) (scope := C8.fnScope S_passes) ok (NdefX.ndef_free (sc := defScope S_reached) (nsc := C8.fnScope S_passes) nfPasses) (NdefX.ndef_fr (sc := defScope S_reached) (nsc := C8.fnScope S_passes) nfPasses) rfl) (fun _ => rfl) hcd rfl ?_ ⟨_, _, _, _, _, rfl, hb, hns.nd, hu, hs, fun _ h => h, by decide, rfl⟩ (clean_strs _)) rfl
    (dat_cons (dv_cl _ ["opened"] [4] [.dic (letsL b se b)] [lsD b, .lst (ns.map .str), .fn 1 (fun n => isL b n) (gM b se)] (ok_holding Z) hr (da_cons (de_var 3 rfl) (da_cons (de_var 2 rfl) (da_cons (de_var 5 rfl) da_nil)))
      (fun ok => NdefX.Caps.made (fr := ["opened"]) (scope := C8.fnScope S_passes) ok (NdefX.ndef_free (sc := defScope S_reached) (nsc := C8.fnScope S_passes) nfPasses) (NdefX.ndef_fr (sc := defScope S_reached) (nsc := C8.fnScope S_passes) nfPasses) rfl) (fun _ => rfl) hcd rfl ?_ ⟨_, _, _, _, _, rfl, hb, hns.nd, hu, hs, fun _ h => h, by decide, rfl⟩ (clean_strs _)) rfl dat_nil)) (by show 2 ≤ 100000; decide)) (.inl rfl))
  all_goals
    intro I L vs ws cap wl hd hw hn sm rs
    cases rs with
    | cons r1 rs =>
    cases rs with
    | cons r2 rs =>
    cases rs with
    | @cons v3 _ _ _ r3 rs =>
    cases rs
    obtain ⟨f, rfl⟩ : ∃ f, v3 = .ref f := by
      cases r3
      exact ⟨_, rfl⟩
    exact .cons (r1.mono sm) (.cons (r2.mono sm) (.cons (rep_fn (ok_passes Z _ ⟨_, _, _, rfl⟩) r3 cap wl hd hw hn fun x hx => ⟨b, se, x, rfl, rfl, hx, rfl⟩) .nil))

/-! ### which lists pass a letter on to somebody; what a way is -/
theorem find_me {b : List Ent} (hb : (b.map Ent.nm).Nodup) {e : Ent} (h : e ∈ b) : b.find? (fun x => decide (x.nm = e.nm)) = some e := by
  induction b with
  | nil => cases h
  | cons x b ih =>
    obtain ⟨h1, h2⟩ := List.nodup_cons.mp hb
    rcases List.mem_cons.mp h with rfl | z
    · rw [List.find?_cons, decide_eq_true rfl]
    · have : x.nm ≠ e.nm := fun q => h1 (by rw [q]; exact List.mem_map_of_mem z)
      rw [List.find?_cons, decide_eq_false this]
      exact ih h2 z
theorem isL_me {b : List Ent} {e : Ent} (h : e ∈ b) : isL b e.nm = true := by
  unfold isL
  rw [List.any_eq_true]
  exact ⟨e, h, decide_eq_true rfl⟩
def passM (b : List Ent) (se p : Str) : List Str := (b.filter fun e => gM b se e.nm && !decide (p ∈ e.left)).map Ent.nm
theorem passM_L {b : List Ent} {se p n : Str} (h : n ∈ passM b se p) : isL b n = true := by
  obtain ⟨e, he, rfl⟩ := List.mem_map.mp h
  exact isL_me (List.mem_filter.mp he).1
theorem passM_len (b : List Ent) (se p : Str) : (passM b se p).length ≤ b.length := by
  unfold passM
  rw [List.length_map]
  exact List.length_filter_le _ _
def aPassing (xs : List D) (r : DS) : Prop := ∃ (b : List Ent) (se p : Str), xs = [lsD b, .str se, .str p] ∧ Bk b ∧ (b.flatMap Ent.mem).length ≤ 80000 ∧ r = .own ((passM b se p).map .str)
abbrev nPassing : List Str := ["lists", "sender", "person", "opened", "name"]
theorem scPassing : FnScope nPassing ["lists", "sender", "person"] (defScope S_passing) := ⟨rfl, rfl, rfl, by decide +kernel, rfl, by decide +kernel, by decide +kernel⟩
theorem ok_passing {G : Glb} (Z : Facts G) : CallD G 8 "passing" ["lists", "sender", "person"] false aPassing := by
  refine ⟨?_, Z.g_passing, Z.n_passing, Z.f_passing.kp⟩
  refine okD (N := nPassing) Z.f_passing scPassing (fun xs r ⟨_, _, _, e, _⟩ => by rw [e]; rfl) fun cdv Ar outer s H E hr xs r ⟨b, se, p, e, hb, hU, er⟩ => ?_
  subst e er
  have hble := hb.le
  refine dss_cons (ds_set 3 (de_ownD (dv_c (ok_lets_in Z) hr (da_cons (de_var 0 rfl) (da_cons (de_var 1 rfl) da_nil)) ⟨b, se, rfl, hb, hU, rfl⟩)) ?_ scPassing.nd)
  refine dss_one (ds_ret (dv_lcP (ev := fun e : Ent => D.str e.nm) (xs := b) (own := [("name", 4)]) (js := [4]) (fun e => [.im (lsD b), .im (.str se), .im (.str p), .im (.dic (letsL b se b)), .im (.str e.nm)]) (fun e => gM b se e.nm && !decide (p ∈ e.left)) (fun e => .str e.nm)
    (keys_ls b ▸ di_keys (de_var 0 rfl)) (by omega) scPassing.nd (blkOk_by (N := nPassing) (sc := defScope S_passing) (by decide +kernel)) (fun s H C cl fp e hc => dg_name 4 scPassing.nd)
    (fun s H C cl fp e hc => dts_one (dt_w (dw_and (dt_val (de_dget (kvs := letsL b se b) (de_var 3 rfl) (de_var 4 rfl) (look_gM (isL_me hc)) (u1 hr))) fun _ => dw_and1 (dt_niS (ns := e.left) (de_var 2 rfl) (de_fld (de_dget (d := entI e) (de_var 0 rfl) (de_var 4 rfl) (by rw [look_ls, find_me hb.nd hc]; rfl) (u1 hr)) Z.k_Entry Z.a_Entry_left rfl))))) (fun s H C cl fp e hc _ => de_var 4 rfl)) (.inl ?_))
  unfold passM
  rw [List.map_map]
  rfl
/-! ### a way -/
def stepOk (b : List Ent) (passed : List Str) (p : Str × Str) : Bool := decide (p.1 ∈ passed) && decide (p.2 ∈ memsOf b p.1)
def wayHead (b : List Ent) (names : List Str) (person : Str) : List Str → Bool
  | [] => false
  | x :: r => decide (x ∈ names) && decide ((x :: r).getLast? = some person) && !isL b person
def isWayM (b : List Ent) (passed names : List Str) (person : Str) (way : List Str) : Bool := wayHead b names person way && (way.zip (way.drop 1)).all (stepOk b passed)
theorem lk_last {ns : List Str} {x : Str} (h : ns.getLast? = some x) : atI (ns.map D.str) (-1) = some (.str x) := by
  have hne : ns ≠ [] := fun z => by rw [z] at h; cases h
  have hl : 0 < ns.length := List.length_pos_iff.mpr hne
  have e1 : ixN (ns.map D.str).length (-1) = some (ns.length - 1) := by
    rw [List.length_map]
    unfold ixN
    rw [if_neg (by omega), if_pos (by omega)]
    exact congrArg some (by omega)
  unfold atI
  rw [e1]
  show (ns.map D.str)[ns.length - 1]? = _
  rw [List.getElem?_map, ← List.getLast?_eq_getElem?, h]
  rfl
theorem zip_SS (a b : List Str) : zipD (a.map D.str) (b.map D.str) = (a.zip b).map fun p => D.tup [.str p.1, .str p.2] := by
  unfold zipD
  rw [List.zip_map, List.map_map]
  rfl
def aIsWay (xs : List D) (r : DS) : Prop := ∃ (b : List Ent) (passed names : List Str) (person : Str) (way : List Str), xs = [lsD b, .lst (passed.map .str), .lst (names.map .str), .str person, .lst (way.map .str)] ∧ Bk b ∧ (∀ p ∈ passed, isL b p = true) ∧ way.length ≤ 90000 ∧ r = .im (.bl (isWayM b passed names person way))
abbrev nIsWay : List Str := ["lists", "passed", "names", "person", "way", "name", "member"]
theorem scIsWay : FnScope nIsWay ["lists", "passed", "names", "person", "way"] (defScope S_is_way) := ⟨rfl, rfl, rfl, by decide +kernel, rfl, by decide +kernel, by decide +kernel⟩
theorem ok_is_way {G : Glb} (Z : Facts G) : CallD G 1 "is_way" ["lists", "passed", "names", "person", "way"] false aIsWay := by
  refine ⟨?_, Z.g_is_way, Z.n_is_way, Z.f_is_way.kp⟩
  refine okD (N := nIsWay) Z.f_is_way scIsWay (fun xs r ⟨_, _, _, _, _, e, _⟩ => by rw [e]; rfl) fun cdv Ar outer s H E hr xs r ⟨b, passed, names, person, way, e, hb, hp, hl, er⟩ => ?_
  subst e er
  cases way with
  | nil =>
    refine dss_cons (ds_if (x := true) (dt_is (dt_w (dw_or (x := true) (y := false) (dt_is (dt_eqX (α := List Str) (x := []) (y := []) (de_var 4 rfl) (de_own (dv_lst da_nil (by decide))) (units_of hr)) (decide_eq_true rfl)) (fun h => by cases h))) rfl) (fun _ => ?_) (fun h => by cases h))
    exact dss_one (ds_ret de_bl (.inl rfl))
  | cons w0 wr =>
    obtain ⟨wl, hwl⟩ : ∃ wl, (w0 :: wr).getLast? = some wl := ⟨_, List.getLast?_eq_some_getLast (by simp)⟩
    have hh : wayHead b names person (w0 :: wr) = (decide (w0 ∈ names) && decide (wl = person) && !isL b person) := by
      show (decide (w0 ∈ names) && decide ((w0 :: wr).getLast? = some person) && !isL b person) = _
      rw [hwl]
      have : decide (some wl = some person) = decide (wl = person) := decide_eq_decide.mpr ⟨fun e => Option.some.inj e, fun e => by rw [e]⟩
      rw [this]
    have h0 : (w0 :: wr)[0]? = some w0 := rfl
    have hx : isWayM b passed names person (w0 :: wr) = ((decide (w0 ∈ names) && decide (wl = person) && !isL b person) && ((w0 :: wr).zip ((w0 :: wr).drop 1)).all (stepOk b passed)) := by
      unfold isWayM
      rw [hh]
    rw [hx]
    generalize hw : w0 :: wr = way at hl hwl h0
    have hne : way ≠ [] := by rw [← hw]; simp
    refine dss_cons (ds_if (x := !(decide (w0 ∈ names) && decide (wl = person) && !isL b person)) (dt_is (dt_w (dw_or (x := false) (dt_is (dt_eqX (α := List Str) (x := way) (y := []) (de_var 4 rfl) (de_own (dv_lst da_nil (by decide))) (units_of hr)) (decide_eq_false hne)) fun _ => dw_or (dt_niS (de_ixL (de_var 4 rfl) de_int (lk_str (j := 0) rfl h0)) (de_var 2 rfl)) fun _ => dw_or (dt_neS (de_ixL (de_var 4 rfl) (de_neg de_int) (lk_last hwl)) (de_var 3 rfl)) fun _ => dw_or1 (isL_look b person ▸ dt_inD (de_var 3 rfl) (de_var 0 rfl) (u1 hr)))) (by
      cases decide (w0 ∈ names) <;> cases decide (wl = person) <;> cases isL b person <;> rfl)) (fun hc => ?_) (fun hc => dss_nil ?_))
    · have hc' : (decide (w0 ∈ names) && decide (wl = person) && !isL b person) = false := by rw [Bool.not_eq_true'] at hc; exact hc
      rw [hc']
      exact dss_one (ds_ret de_bl (.inl rfl))
    · have hc' : (decide (w0 ∈ names) && decide (wl = person) && !isL b person) = true := by rw [Bool.not_eq_false'] at hc; exact hc
      rw [hc', Bool.true_and]
      obtain ⟨zs, hzs⟩ : ∃ zs, zs = way.zip (way.drop 1) := ⟨_, rfl⟩
      rw [← hzs]
      refine dss_mid (fun ds => zs.all (stepOk b passed) = true) (ds_for (e := fun p : Str × Str => D.tup [.str p.1, .str p.2]) (xs := zs) (fun i ds => (∃ o5 o6, ds = [.im (lsD b), .im (.lst (passed.map .str)), .im (.lst (names.map .str)), .im (.str person), .im (.lst (way.map .str)), o5, o6]) ∧ (zs.take i).all (stepOk b passed) = true)
        (fun p ds1 => (ds1.set 5 (.im (.str p.1))).set 6 (.im (.str p.2))) (by rw [hzs, ← zip_SS]; exact di_zip (de_var 4 rfl) (dv_is (de_own (dv_slL (de_var 4 rfl) (do_some de_int) do_none)) (congrArg (fun l => DS.im (D.lst l)) ((cutG_drop (k := 1)).trans (by rw [List.map_drop])))) rfl Z.b_zip)
        (fun p _ ds1 => dg_tup (dgs_cons (dg_name 5 scIsWay.nd) (dgs_cons (dg_name 6 scIsWay.nd) dgs_nil))) ⟨⟨.no, .no, rfl⟩, by rw [List.take_zero]; rfl⟩ (fun i p ds1 hi ⟨⟨o5, o6, e1⟩, hv⟩ => ?_) (fun ds1 ⟨_, h⟩ => by rw [List.take_length] at h; exact h) PassesOwn.never) fun ds' hall => ?_
      · subst e1
        obtain ⟨n, m⟩ := p
        have et : zs.take (i + 1) = zs.take i ++ [(n, m)] := by rw [List.take_succ, hi]; rfl
        have hin : (n, m) ∈ zs := List.mem_of_getElem? hi
        refine dss_one (ds_if (x := !stepOk b passed (n, m)) (dt_is (dt_w (dw_or (x := !decide (n ∈ passed)) (y := !decide (m ∈ memsOf b n)) (dt_niS (de_var 5 rfl) (de_var 1 rfl)) fun hn => dw_or1 ?_)) (by
          unfold stepOk
          cases decide (n ∈ passed) <;> cases decide (m ∈ memsOf b n) <;> rfl)) (fun hc => ?_) (fun hc => dss_nil ⟨⟨_, _, rfl⟩, ?_⟩))
        · have hn' : n ∈ passed := by simpa using hn
          obtain ⟨en, f1, f2, f3⟩ := isL_find (hp n hn')
          have em : memsOf b n = en.mem := by unfold memsOf; rw [f1]
          exact dt_niS (de_var 6 rfl) (de_fld (d := .lst ((memsOf b n).map .str)) (de_dget (d := entI en) (de_var 0 rfl) (de_var 5 rfl) (by rw [look_ls, f1]; rfl) (u1 hr)) Z.k_Entry Z.a_Entry_members (by rw [em]; rfl))
        · have hs : stepOk b passed (n, m) = false := by simpa using hc
          have : zs.all (stepOk b passed) = false := List.all_eq_false.mpr ⟨_, hin, by rw [hs]; exact fun z => nomatch z⟩
          rw [this]
          exact dss_one (ds_ret de_bl (.inl rfl))
        · have hs : stepOk b passed (n, m) = true := by simpa using hc
          rw [et, List.all_append, hv, List.all_cons, hs]
          rfl
      · rw [hall]
        exact dss_one (ds_ret de_bl (.inl rfl))

/-! ### sorted is one -/
theorem rankLe (x y : Str) : PySem.W.dataLe false rankD x y = decide (x.length < y.length ∨ (x.length = y.length ∧ x.cps.toList ≤ y.cps.toList)) := by
  rw [PySem.W.dataLe_eq]
  show (!PySem.W.dataLt (rankD y) (rankD x)) = _
  unfold rankD
  rw [PySem.W.dataLt_pair (by simp [PySem.W.alike]) (by simp [PySem.W.alike]), PySem.W.dataLt_int, PySem.W.dataLt_str]
  simp only [PyData.eqv, beq_iff_eq]
  by_cases h1 : (y.length : Int) = (x.length : Int)
  · rw [if_pos h1]
    have e : y.length = x.length := by omega
    by_cases h2 : y = x
    · rw [if_pos h2]
      subst h2
      simp
    · rw [if_neg h2, Bool.eq_iff_iff]
      simp only [Bool.not_eq_true', decide_eq_false_iff_not, decide_eq_true_eq, List.not_lt]
      exact ⟨fun z => .inr ⟨e.symm, z⟩, fun z => z.elim (fun z => by omega) fun z => z.2⟩
  · rw [if_neg h1, Bool.eq_iff_iff]
    simp only [Bool.not_eq_true', decide_eq_false_iff_not, decide_eq_true_eq]
    exact ⟨fun z => .inl (by omega), fun z => by rcases z with z | z <;> omega⟩
theorem sortN_perm (l : List Str) : (sortN l).Perm l := List.mergeSort_perm _ _
theorem sortN_eq {l m : List Str} (h : l.Perm m) : sortN l = sortN m := by
  have tr : ∀ a b c : Str, PySem.W.dataLe false rankD a b = true → PySem.W.dataLe false rankD b c = true → PySem.W.dataLe false rankD a c = true := fun a b c h1 h2 => by
    rw [rankLe, decide_eq_true_eq] at h1 h2 ⊢
    rcases h1 with h1 | ⟨h1, h1'⟩
    · rcases h2 with h2 | ⟨h2, _⟩
      · exact .inl (by omega)
      · exact .inl (by omega)
    · rcases h2 with h2 | ⟨h2, h2'⟩
      · exact .inl (by omega)
      · exact .inr ⟨by omega, List.le_trans h1' h2'⟩
  have tot : ∀ a b : Str, (PySem.W.dataLe false rankD a b || PySem.W.dataLe false rankD b a) = true := fun a b => by
    rw [rankLe, rankLe, Bool.or_eq_true, decide_eq_true_eq, decide_eq_true_eq]
    rcases Nat.lt_trichotomy a.length b.length with z | z | z
    · exact .inl (.inl z)
    · rcases List.le_total a.cps.toList b.cps.toList with y | y
      · exact .inl (.inr ⟨z, y⟩)
      · exact .inr (.inr ⟨z.symm, y⟩)
    · exact .inr (.inl z)
  refine List.Perm.eq_of_pairwise (le := fun a b => PySem.W.dataLe false rankD a b = true) (fun a b _ _ h1 h2 => ?_) (List.pairwise_mergeSort tr tot l) (List.pairwise_mergeSort tr tot m) ((sortN_perm l).trans (h.trans (sortN_perm m).symm))
  rw [rankLe, decide_eq_true_eq] at h1 h2
  refine str_ext ?_
  rcases h1 with h1 | ⟨_, h1⟩
  · rcases h2 with h2 | ⟨h2, _⟩ <;> omega
  · rcases h2 with h2 | ⟨_, h2⟩
    · omega
    · exact List.le_antisymm h1 h2

/-! ### the ways, from the shortest -/
abbrev wayD (w : List Str) : D := .lst (w.map .str)
abbrev lastW (w : List Str) : Str := w.getLastD Str.empty
abbrev keysW (ln : List (List Str)) : List Str := ln.map lastW
abbrev foundW (ln : List (List Str)) : List (Str × D) := ln.map fun w => (lastW w, wayD w)
def newW (b : List Ent) (w : List Str) : List Str := sortN (memsOf b (lastW w))
def extW (b : List Ent) (passed : List Str) (ln : List (List Str)) (w : List Str) : List (List Str) := if lastW w ∈ passed then ln ++ ((newW b w).filter fun m => !decide (m ∈ keysW ln)).map fun m => w ++ [m] else ln
def waysRun (b : List Ent) (passed : List Str) : Nat → List (List Str) → Nat → List (List Str)
  | 0, ln, _ => ln
  | f + 1, ln, a => match ln[a]? with
    | some w => waysRun b passed f (extW b passed ln w) (a + 1)
    | none => ln
def ways0 (ns : List Str) : List (List Str) := (sortN ns).map fun n => [n]
def waysM (b : List Ent) (passed ns : List Str) : List (List Str) := waysRun b passed ((uni b ns).length + 1) (ways0 ns) 0
theorem waysRun_at {b : List Ent} {passed : List Str} {m a : Nat} {ln : List (List Str)} {w : List Str} (h : ln[a]? = some w) : waysRun b passed (m + 1) ln a = waysRun b passed m (extW b passed ln w) (a + 1) := by rw [waysRun, h]
theorem waysRun_end {b : List Ent} {passed : List Str} {m a : Nat} {ln : List (List Str)} (h : ln.length ≤ a) : waysRun b passed m ln a = ln := by
  cases m with
  | zero => rfl
  | succ m => rw [waysRun, List.getElem?_eq_none h]
theorem lastW_snoc (w : List Str) (m : Str) : lastW (w ++ [m]) = m := by
  unfold lastW
  rw [List.getLastD_eq_getLast?, List.getLast?_concat]
  rfl
theorem lastW_get {w : List Str} (h : w ≠ []) : w.getLast? = some (lastW w) := by
  unfold lastW
  rw [List.getLastD_eq_getLast?, List.getLast?_eq_some_getLast h]
  rfl
/-- what the line of ways is like on the way -/
structure WLine (b : List Ent) (ns : List Str) (ln : List (List Str)) : Prop where
  nd : (keysW ln).Nodup
  sub : ∀ x ∈ keysW ln, x ∈ uni b ns
  ne : ∀ w ∈ ln, w ≠ []
  le : ∀ w ∈ ln, w.length ≤ ln.length
theorem WLine.len {b : List Ent} {ns : List Str} {ln : List (List Str)} (h : WLine b ns ln) : ln.length ≤ (uni b ns).length := by
  have := nd_sub_len h.nd h.sub
  rwa [List.length_map] at this
theorem WLine.add {b : List Ent} {ns : List Str} {ln : List (List Str)} (h : WLine b ns ln) {w : List Str} {m : Str} (hw : w.length ≤ ln.length) (hm : m ∉ keysW ln) (hu : m ∈ uni b ns) : WLine b ns (ln ++ [w ++ [m]]) := by
  refine ⟨?_, fun x hx => ?_, fun x hx => ?_, fun x hx => ?_⟩
  · unfold keysW
    rw [List.map_append, List.map_cons, List.map_nil, lastW_snoc]
    exact List.nodup_append.mpr ⟨h.nd, List.nodup_cons.mpr ⟨by simp, List.nodup_nil⟩, fun x hx y hy e => hm (by rw [List.mem_singleton.mp hy] at e; rw [← e]; exact hx)⟩
  · unfold keysW at hx
    rw [List.map_append, List.map_cons, List.map_nil, lastW_snoc] at hx
    exact (List.mem_append.mp hx).elim (h.sub x) fun z => by rw [List.mem_singleton.mp z]; exact hu
  · exact (List.mem_append.mp hx).elim (h.ne x) fun z => by rw [List.mem_singleton.mp z]; simp
  · rw [List.length_append, List.length_singleton]
    exact (List.mem_append.mp hx).elim (fun z => Nat.le_succ_of_le (h.le x z)) fun z => by rw [List.mem_singleton.mp z, List.length_append, List.length_singleton]; omega
theorem newW_nd {b : List Ent} (hb : Bk b) (w : List Str) : (newW b w).Nodup := (sortN_perm _).nodup_iff.mpr (memsOf_nd hb _)
theorem newW_mem {b : List Ent} {w : List Str} {m : Str} (h : m ∈ newW b w) : ∃ e ∈ b, m ∈ e.mem := memsOf_mem ((sortN_perm _).mem_iff.mp h)
theorem newW_uni {b : List Ent} {ns w : List Str} {m : Str} (h : m ∈ newW b w) : m ∈ uni b ns := by
  obtain ⟨e, he, hm⟩ := newW_mem h
  exact List.mem_append_right _ (List.mem_flatMap.mpr ⟨e, he, hm⟩)
/-- some of the new ones -/
abbrev part (ln : List (List Str)) (w ms : List Str) : List (List Str) := ln ++ (ms.filter fun m => !decide (m ∈ keysW ln)).map fun m => w ++ [m]
theorem part_keys (ln : List (List Str)) (w ms : List Str) : keysW (part ln w ms) = keysW ln ++ ms.filter fun m => !decide (m ∈ keysW ln) := by
  unfold keysW part
  rw [List.map_append, List.map_map]
  congr 1
  have : ∀ l : List Str, l.map (lastW ∘ fun m => w ++ [m]) = l := fun l => by
    induction l with
    | nil => rfl
    | cons x l ih => rw [List.map_cons, ih]; exact congrArg (· :: l) (lastW_snoc w x)
  exact this _
theorem part_ok {b : List Ent} {ns : List Str} {ln : List (List Str)} (h : WLine b ns ln) {w : List Str} (hw : w.length ≤ ln.length) : ∀ (n : Nat) (ms : List Str), ms.length = n → ms.Nodup → (∀ m ∈ ms, m ∈ uni b ns) → WLine b ns (part ln w ms)
  | 0, ms, hn, _, _ => by
    rw [List.length_eq_zero_iff.mp hn]
    unfold part
    rw [List.filter_nil, List.map_nil, List.append_nil]
    exact h
  | n + 1, ms, hn, hd, hu => by
    have hne : ms ≠ [] := fun z => by rw [z] at hn; cases hn
    obtain ⟨ms', x, rfl⟩ : ∃ ms' x, ms = ms' ++ [x] := ⟨ms.dropLast, ms.getLast hne, (List.dropLast_concat_getLast hne).symm⟩
    have hd' := List.nodup_append.mp hd
    have ih := part_ok h hw n ms' (by rw [List.length_append, List.length_singleton] at hn; omega) hd'.1 fun m hm => hu m (List.mem_append_left _ hm)
    have hx : x ∉ ms' := fun z => hd'.2.2 x z x (List.mem_singleton_self _) rfl
    unfold part
    rw [List.filter_append]
    by_cases hk : x ∈ keysW ln
    · rw [List.filter_cons, decide_eq_true hk]
      rw [if_neg (by decide), List.filter_nil, List.append_nil]
      exact ih
    · rw [List.filter_cons, decide_eq_false hk]
      rw [if_pos (by decide), List.filter_nil, List.map_append, ← List.append_assoc]
      refine ih.add ?_ ?_ (hu x (List.mem_append_right _ (List.mem_singleton_self _)))
      · unfold part
        rw [List.length_append]
        omega
      · rw [part_keys]
        intro z
        rcases List.mem_append.mp z with z | z
        · exact hk z
        · exact hx (List.mem_filter.mp z).1
theorem WLine.step {b : List Ent} {ns : List Str} {ln : List (List Str)} {passed : List Str} (hb : Bk b) (h : WLine b ns ln) {w : List Str} (hw : w ∈ ln) : WLine b ns (extW b passed ln w) := by
  unfold extW
  split
  · exact part_ok h (h.le w hw) _ (newW b w) rfl (newW_nd hb w) fun m hm => newW_uni hm
  · exact h
theorem extW_len (b : List Ent) (passed : List Str) (ln : List (List Str)) (w : List Str) : ln.length ≤ (extW b passed ln w).length := by
  unfold extW
  split
  · rw [List.length_append]; omega
  · exact Nat.le_refl _
theorem wline0 {b : List Ent} {ns : List Str} (hn : ns.Nodup) : WLine b ns (ways0 ns) := by
  have e : keysW (ways0 ns) = sortN ns := by
    unfold keysW ways0
    rw [List.map_map]
    exact List.map_id' _
  refine ⟨by rw [e]; exact (sortN_perm _).nodup_iff.mpr hn, fun x hx => by rw [e] at hx; exact List.mem_append_left _ ((sortN_perm _).mem_iff.mp hx), fun w hw => ?_, fun w hw => ?_⟩
  · obtain ⟨n, _, rfl⟩ := List.mem_map.mp hw
    simp
  · have := List.length_pos_of_mem hw
    obtain ⟨n, _, rfl⟩ := List.mem_map.mp hw
    exact this
theorem foundW_keys (ln : List (List Str)) : (foundW ln).map (·.1) = keysW ln := by
  unfold foundW keysW
  rw [List.map_map]
  rfl
theorem putW_new {ln : List (List Str)} {w : List Str} (h : lastW w ∉ keysW ln) : putD (foundW ln) (lastW w) (wayD w) = foundW (ln ++ [w]) := by
  rw [putD_new (by rw [foundW_keys]; exact h)]
  unfold foundW
  rw [List.map_append]
  rfl
theorem lookW {w : List Str} : ∀ {ln : List (List Str)}, (keysW ln).Nodup → w ∈ ln → lookD (foundW ln) (lastW w) = some (wayD w)
  | [], _, h => by cases h
  | x :: ln, hn, h => by
    obtain ⟨h1, h2⟩ := List.nodup_cons.mp hn
    unfold lookD
    rw [show foundW (x :: ln) = (lastW x, wayD x) :: foundW ln from rfl, List.find?_cons]
    rcases List.mem_cons.mp h with rfl | z
    · rw [decide_eq_true rfl]
      rfl
    · have : lastW x ≠ lastW w := fun q => h1 (by rw [q]; exact List.mem_map_of_mem z)
      rw [decide_eq_false this]
      exact lookW h2 z
def aWays (xs : List D) (r : DS) : Prop := ∃ (b : List Ent) (passed ns : List Str), xs = [lsD b, .lst (passed.map .str), .lst (ns.map .str)] ∧ Bk b ∧ ns.Nodup ∧ (∀ n ∈ ns, Nm n) ∧ (∀ p ∈ passed, isL b p = true) ∧ (uni b ns).length ≤ 90000 ∧ r = .ownD (foundW (waysM b passed ns))
abbrev nWays : List Str := ["lists", "passed", "names", "line", "found", "at", "way", "last", "member", "name"]
theorem scWays : FnScope nWays ["lists", "passed", "names"] (defScope S_ways_in_order) := ⟨rfl, rfl, rfl, by decide +kernel, rfl, by decide +kernel, by decide +kernel⟩
abbrev lnT (ln : List (List Str)) : OT := .lst ((ln.map wayD).map .im)
abbrev eWays (b : List Ent) (passed ns : List Str) (p0 : Addr) (ln : List (List Str)) (fd : List (Str × D)) (a : Nat) (o6 o7 o8 : DS) : List DS := [.im (lsD b), .im (.lst (passed.map .str)), .im (.lst (ns.map .str)), .ot (some p0) (lnT ln), .ownD fd, .im (.int (a : Int)), o6, o7, o8, .no]
def PvWays (b : List Ent) (passed ns : List Str) (p0 : Addr) (m : Nat) (ds : List DS) : Prop := ∃ (ln : List (List Str)) (a : Nat) (o6 o7 o8 : DS), ds = eWays b passed ns p0 ln (foundW ln) a o6 o7 o8 ∧ m + a = (uni b ns).length + 1 ∧ a ≤ ln.length ∧ WLine b ns ln ∧ waysRun b passed m ln a = waysM b passed ns
theorem lnT_fz (ln : List (List Str)) : (some (DS.ot (none : Option Addr) (lnT ln)).fz) = some (DS.im (.lst (ln.map wayD))) := congrArg (fun d => some (DS.im d)) (lstI_fz _)
theorem ok_ways {G : Glb} (Z : Facts G) : CallD G 6 "ways_in_order" ["lists", "passed", "names"] false aWays := by
  refine ⟨?_, Z.g_ways_in_order, Z.n_ways_in_order, Z.f_ways_in_order.kp⟩
  refine okD (N := nWays) Z.f_ways_in_order scWays (fun xs r ⟨_, _, _, e, _⟩ => by rw [e]; rfl) fun cdv Ar outer s H E hr xs r ⟨b, passed, ns, e, hb, hn, hnm, hp, hU, er⟩ => ?_
  subst e er
  have short := uni_short hb hnm
  have hul : ns.length ≤ (uni b ns).length := by unfold uni; rw [List.length_append]; omega
  have w0 := wline0 (b := b) hn
  have l0 : (ways0 ns).length = ns.length := by unfold ways0; rw [List.length_map]; exact (sortN_perm _).length_eq
  refine dss_cons (ds_setLcP 3 (ev := D.str) (xs := sortN ns) (own := [("name", 9)]) (js := [9]) (fun n => [.im (lsD b), .im (.lst (passed.map .str)), .im (.lst (ns.map .str)), .no, .no, .no, .no, .no, .no, .im (.str n)]) (fun _ => true) (fun n => wayD [n])
    (di_list (de_own (dv_c (ok_in_order Z) hr (da_cons (de_var 2 rfl) da_nil) ⟨ns, rfl, fun n hx => short n (List.mem_append_left _ hx), rfl⟩))) (by rw [(sortN_perm _).length_eq]; omega) scWays.nd (blkOk_by (N := nWays) (sc := defScope S_ways_in_order) (by decide +kernel))
    (fun s H C cl fp n hc => dg_name 9 scWays.nd) (fun s H C cl fp n hc => dts_nil) (fun s H C cl fp n hc _ => de_own (dv_lst (da_cons (de_var 9 rfl) da_nil) (by show 1 ≤ 100000; decide))) ?_)
  rw [List.filter_eq_self.mpr fun _ _ => rfl]
  rw [show (sortN ns).map (fun n => wayD [n]) = (ways0 ns).map wayD by unfold ways0; rw [List.map_map]; rfl]
  refine dss_pin 3 rfl rfl fun p0 => ?_
  refine dss_cons (ds_p2 4 5 dv_newD de_int ?_ scWays.nd)
  refine dss_mid (fun ds => ∃ o6, ds = eWays b passed ns p0 (ways0 ns) (foundW (ways0 ns)) 0 o6 .no .no) (ds_forI 3 6 (m := (ways0 ns).length) (p0 := p0) (fun n ds => ∃ o6, ds = eWays b passed ns p0 (ways0 ns) (foundW ((ways0 ns).take n)) 0 o6 .no .no) ⟨.no, rfl⟩ (fun n ds1 ⟨o6, e1⟩ => ⟨(ways0 ns).map wayD, by rw [e1]; rfl, by rw [List.length_map]⟩) (fun n ds1 xs d ⟨o6, e1⟩ h1 h2 => ?_) (fun ds1 ⟨o6, e1⟩ => ⟨o6, by rw [e1, List.take_length]⟩) PassesOwn.never scWays.nd) fun ds' ⟨o6, ed⟩ => ?_
  · subst e1
    have ex : xs = (ways0 ns).map wayD := by
      have h3 : DS.ot (some p0) (lnT (ways0 ns)) = .ot (some p0) (.lst (xs.map .im)) := Option.some.inj h1
      injection h3 with _ h4
      injection h4 with h5
      have := congrArg OT.fzs h5
      rw [imL_fz, imL_fz] at this
      exact this.symm
    rw [ex, List.getElem?_map] at h2
    obtain ⟨w, hw, rfl⟩ : ∃ w, (ways0 ns)[n]? = some w ∧ wayD w = d := by
      cases q : (ways0 ns)[n]? with
      | none => rw [q] at h2; cases h2
      | some w => rw [q] at h2; exact ⟨w, rfl, Option.some.inj h2⟩
    have et : (ways0 ns).take (n + 1) = (ways0 ns).take n ++ [w] := by rw [List.take_succ, hw]; rfl
    have nt : (keysW ((ways0 ns).take (n + 1))).Nodup := w0.nd.sublist ((List.take_sublist _ _).map _)
    rw [et] at nt
    unfold keysW at nt
    rw [List.map_append] at nt
    have ni : lastW w ∉ keysW ((ways0 ns).take n) := fun z => (List.nodup_append.mp nt).2.2 _ z _ (List.mem_singleton_self _) rfl
    obtain ⟨x, hx, hwx⟩ := List.mem_map.mp (List.mem_of_getElem? hw)
    have hl1 : lastW w = x := by rw [← hwx]; rfl
    have hw0 : w[0]? = some (lastW w) := by rw [hl1, ← hwx]; rfl
    refine dss_one (ds_dput 4 rfl (de_ixL (de_var 6 rfl) de_int (lk_str (j := 0) rfl hw0)) (de_var 6 rfl) (by rw [List.length_map, List.length_take]; omega) ?_ (u1 hr))
    refine ⟨.im (wayD w), ?_⟩
    rw [putW_new ni, ← et]
    rfl
  subst ed
  refine dss_cons (ds_while (PvWays b passed ns p0) ((uni b ns).length + 1) ⟨ways0 ns, 0, o6, .no, .no, rfl, rfl, Nat.zero_le _, w0, rfl⟩ (fun m ds1 ⟨ln, a, o6, o7, o8, e1, e2, e3, e4, e5⟩ => ?_) PassesOwn.never)
  subst e1
  have hlu := e4.len
  refine ⟨_, dt_lt (de_var 5 rfl) (de_view 3 rfl (lstI_nd _) rfl (dv_is (de_lenL (xs := ln.map wayD) (de_var 3 (lnT_fz ln)) rfl Z.b_len) (by rw [List.length_map]))), fun hc => ?_, fun hc => ?_⟩
  · have ha : a < ln.length := by
      have := of_decide_eq_true hc
      omega
    obtain ⟨m', rfl⟩ : ∃ m', m = m' + 1 := ⟨m - 1, by omega⟩
    have hx : ln[a]? = some ln[a] := List.getElem?_eq_getElem ha
    generalize ln[a] = w at hx
    have hwm : w ∈ ln := List.mem_of_getElem? hx
    rw [waysRun_at hx] at e5
    have l1 := e4.step (passed := passed) hb hwm
    have wne := e4.ne w hwm
    have wle := e4.le w hwm
    have hxD : (ln.map wayD)[a]? = some (wayD w) := by rw [List.getElem?_map, hx]; rfl
    have fin : ∀ o7' o8', PvWays b passed ns p0 m' (eWays b passed ns p0 (extW b passed ln w) (foundW (extW b passed ln w)) (a + 1) o6 o7' o8') := fun o7' o8' => ⟨_, a + 1, _, _, _, rfl, by omega, by have := extW_len b passed ln w; omega, l1, e5⟩
    refine dss_cons (ds_set 7 (s := .im (.str (lastW w))) (de_view 3 rfl (lstI_nd _) rfl (de_ixL (xs := w.map .str) (de_ixL (xs := ln.map wayD) (de_var 3 (lnT_fz ln)) (de_var 5 rfl) (lk_d hxD)) (de_neg de_int) (lk_last (lastW_get wne)))) ?_ scWays.nd)
    refine dss_cons (ds_if (dt_inS (de_var 7 rfl) (de_var 1 rfl)) (fun hc => ?_) (fun hc => ?_))
    · have hin : lastW w ∈ passed := of_decide_eq_true hc
      obtain ⟨en, f1, f2, f3⟩ := isL_find (hp _ hin)
      have em : memsOf b (lastW w) = en.mem := by unfold memsOf; rw [f1]
      have es : extW b passed ln w = part ln w (newW b w) := if_pos hin
      have mnd := newW_nd hb w
      refine dss_one (ds_forE (e := D.str) (xs := newW b w) [8] (fun i => eWays b passed ns p0 (part ln w ((newW b w).take i)) (foundW (part ln w ((newW b w).take i))) a o6 (.im (.str (lastW w))) .no) (fun n ds1 => ds1.set 8 (.im (.str n))) (by
          show _ = eWays b passed ns p0 (part ln w []) (foundW (part ln w [])) a o6 (.im (.str (lastW w))) .no
          unfold part
          rw [List.filter_nil, List.map_nil, List.append_nil]
          rfl)
        (di_list (de_own (dv_c (ok_in_order Z) hr (da_cons (de_fld (d := .lst ((memsOf b (lastW w)).map .str)) (de_dget (d := entI en) (de_var 0 rfl) (de_var 7 rfl) (by rw [look_ls, f1]; rfl) (u1 hr)) Z.k_Entry Z.a_Entry_members (by rw [em]; rfl)) da_nil) ⟨memsOf b (lastW w), rfl, fun n hn2 => short n (newW_uni (w := w) ((sortN_perm _).mem_iff.mpr hn2)), rfl⟩))) (fun n _ ds1 => dg_name 8 scWays.nd) (fun i x hi => ?_) ?_ PassesOwn.never)
      · have et : (newW b w).take (i + 1) = (newW b w).take i ++ [x] := by rw [List.take_succ, hi]; rfl
        have hxn : x ∈ newW b w := List.mem_of_getElem? hi
        have nt : ((newW b w).take (i + 1)).Nodup := mnd.sublist (List.take_sublist _ _)
        rw [et] at nt
        have ni : x ∉ (newW b w).take i := fun z => (List.nodup_append.mp nt).2.2 _ z _ (List.mem_singleton_self _) rfl
        have pk := part_ok e4 wle _ ((newW b w).take i) rfl (mnd.sublist (List.take_sublist _ _)) fun m hm => newW_uni (List.mem_of_mem_take hm)
        have pl := pk.len
        have inl : x ∈ keysW (part ln w ((newW b w).take i)) ↔ x ∈ keysW ln := by
          rw [part_keys, List.mem_append]
          exact ⟨fun z => z.elim id fun z => absurd (List.mem_filter.mp z).1 ni, .inl⟩
        have pa : (part ln w ((newW b w).take i))[a]? = some w := by
          unfold part
          rw [List.getElem?_append_left ha]
          exact hx
        have pe : x ∉ keysW ln → part ln w ((newW b w).take (i + 1)) = part ln w ((newW b w).take i) ++ [w ++ [x]] := fun h => by
          unfold part
          rw [et, List.filter_append, List.filter_cons, decide_eq_false h]
          rw [if_pos (by decide), List.filter_nil, List.map_append, List.append_assoc]
          rfl
        have pn : x ∈ keysW ln → part ln w ((newW b w).take (i + 1)) = part ln w ((newW b w).take i) := fun h => by
          unfold part
          rw [et, List.filter_append, List.filter_cons, decide_eq_true h]
          rw [if_neg (by decide), List.filter_nil, List.append_nil]
        generalize part ln w ((newW b w).take i) = pt at pk pl inl pa pe pn ⊢
        refine dss_one (ds_if (dt_niK 4 rfl (de_var 8 rfl) (u1 hr)) (fun hc => ?_) (fun hc => ?_))
        · rw [foundW_keys] at hc
          have nx : x ∉ keysW pt := by simpa using hc
          rw [pe fun z => nx (inl.mpr z)]
          have hpD : (pt.map wayD)[a]? = some (wayD w) := by rw [List.getElem?_map, pa]; rfl
          have hpw := pk.le w (List.mem_of_getElem? pa)
          refine dss_cons (ds_dput 4 rfl (de_var 8 rfl) (d := wayD (w ++ [x])) (dv_is (de_own (dv_viewL 3 rfl (lstI_nd _) (by
              have h : (w.map D.str).all flatD = true := by rw [List.all_map]; exact List.all_eq_true.mpr (fun _ _ => rfl)
              rw [List.all_append, h]
              rfl) (dv_cat (xs := w.map .str) (ys := [.str x]) (de_ixL (xs := pt.map wayD) (de_var 3 (lnT_fz pt)) (de_var 5 rfl) (lk_d hpD)) (de_own (dv_lst (da_cons (de_var 8 rfl) da_nil) (by show 1 ≤ 100000; decide))) (by rw [List.length_map]; show _ + 1 ≤ _; omega)))) (by show DS.im (D.lst (w.map D.str ++ [D.str x])) = DS.im (D.lst ((w ++ [x]).map D.str)); rw [List.map_append]; rfl)) (by rw [List.length_map]; omega) ?_ (u1 hr))
          have nx2 : lastW (w ++ [x]) ∉ keysW pt := by rw [lastW_snoc]; exact nx
          have e8 : putD (foundW pt) x (wayD (w ++ [x])) = foundW (pt ++ [w ++ [x]]) := by
            have := putW_new nx2
            rwa [lastW_snoc] at this
          rw [e8]
          have nd2 := (pk.add hpw nx (newW_uni hxn)).nd
          have look : lookD (foundW (pt ++ [w ++ [x]])) x = some (wayD (w ++ [x])) := by
            have := lookW nd2 (w := w ++ [x]) (List.mem_append_right _ (List.mem_singleton_self _))
            rwa [lastW_snoc] at this
          refine dss_one (ds_appP 3 (π := []) rfl rfl (dp_var 3 rfl) (de_dgetO 4 rfl (de_var 8 rfl) look (u1 hr)) rfl (by rw [List.length_map, List.length_map]; omega) ?_)
          have eT : (lnT pt).put [] (OT.lst ((pt.map wayD).map .im ++ [.im (wayD (w ++ [x]))])) = lnT (pt ++ [w ++ [x]]) := by
            show OT.lst ((pt.map wayD).map .im ++ [.im (wayD (w ++ [x]))]) = .lst (((pt ++ [w ++ [x]]).map wayD).map .im)
            rw [List.map_append, List.map_append]
            rfl
          rw [eT]
          rfl
        · rw [foundW_keys] at hc
          have nx : x ∈ keysW pt := by simpa using hc
          rw [pn (inl.mp nx)]
          exact dss_nil rfl
      · rw [List.take_length, ← es]
        exact dss_one (ds_augI 5 rfl de_int ⟨m', Nat.lt_succ_self _, fin _ .no⟩ scWays.nd)
    · have es : extW b passed ln w = ln := if_neg (of_decide_eq_false hc)
      rw [es] at fin
      exact dss_nil (dss_one (ds_augI 5 rfl de_int ⟨m', Nat.lt_succ_self _, fin _ o8⟩ scWays.nd))
  · have ha : ln.length ≤ a := by
      have := of_decide_eq_false hc
      omega
    rw [waysRun_end ha] at e5
    refine dss_one (ds_retOwnD 4 rfl (.inl ?_))
    rw [e5]

/-! ### why: a way, or lists that show that there is none -/
def aLookedAt (xs : List D) (r : DS) : Prop := ∃ (b : List Ent) (se : Str) (ns : List Str) (p : Str), xs = [bkD b, .str se, .lst (ns.map .str), .str p] ∧ Bk b ∧ Nm se ∧ Ns ns ∧ Nm p ∧ isL b p = false ∧ r = .im (lsD b)
abbrev qLooked : List Str := ["book", "sender", "names", "person"]
abbrev nLooked : List Str := ["book", "sender", "names", "person", "lists"]
theorem scLooked : FnScope nLooked qLooked (defScope S_looked_at) := ⟨rfl, rfl, rfl, by decide +kernel, rfl, by decide +kernel, by decide +kernel⟩
theorem ok_looked {G : Glb} (Z : Facts G) : CallD G 5 "looked_at" qLooked false aLookedAt := by
  refine ⟨?_, Z.g_looked_at, Z.n_looked_at, Z.f_looked_at.kp⟩
  refine okD (N := nLooked) Z.f_looked_at scLooked (fun xs r ⟨_, _, _, _, e, _⟩ => by rw [e]; rfl) fun cdv Ar outer s H E hr xs r ⟨b, se, ns, p, e, hb, hse, hn, hp, hl, er⟩ => ?_
  subst e er
  refine dss_cons (ds_set 4 (s := .im (lsD b)) (dv_is (dv_fz (dv_c (ok_lists_of Z) hr (da_cons (de_var 0 rfl) da_nil) ⟨b, rfl, hb, rfl⟩)) lists_told) ?_ scLooked.nd)
  refine dss_cons (ds_expr (dv_c (ok_check_letter Z) hr (da_cons (de_var 1 rfl) (da_cons (de_var 2 rfl) da_nil)) ⟨se, ns, rfl, hse, hn, rfl⟩) ?_)
  refine dss_cons (ds_expr (dv_c (ok_check_name Z) hr (da_cons (de_var 3 rfl) da_nil) ⟨p, rfl, hp, rfl⟩) ?_)
  refine dss_cons (ds_if (x := false) (dt_is (isL_look b p ▸ dt_inD (de_var 3 rfl) (de_var 4 rfl) (u1 hr)) hl) (fun hc => by cases hc) (fun _ => dss_nil ?_))
  exact dss_one (ds_ret (de_var 4 rfl) (.inl rfl))
abbrev nmsT (l : List Str) : OT := .lst ((l.map D.str).map .im)
abbrev wayT (l : List Str) : OT := .ins "Way" [("names", nmsT l)]
abbrev shutT (l : List Str) : OT := .ins "Shut" [("names", nmsT l)]
def aMkNames (c : Str) (xs : List D) (t : OT) : Prop := ∃ l : List Str, xs = [.lst (l.map .str)] ∧ t = .ins c [("names", nmsT l)]
theorem scMkWay : FnScope ["self", "names"] ["self", "names"] (defScope S_Way_init) := ⟨rfl, rfl, rfl, by decide +kernel, rfl, by decide +kernel, by decide +kernel⟩
theorem scMkShut : FnScope ["self", "names"] ["self", "names"] (defScope S_Shut_init) := ⟨rfl, rfl, rfl, by decide +kernel, rfl, by decide +kernel, by decide +kernel⟩
theorem mk_way {G : Glb} (Z : Facts G) : MakD G 1 "Way" ["self", "names"] (aMkNames "Way") := by
  refine ⟨Z.mk_Way, ?_, Z.g_Way, Z.n_Way_init⟩
  refine okI (N := ["self", "names"]) Z.f_Way_init scMkWay (fun xs r ⟨_, e, _⟩ => by rw [e]; rfl) fun cdv Ar outer s H E hr p xs t ⟨l, ex, et⟩ => ?_
  subst ex et
  exact dss_cons (ds_setF 0 rfl (dv_list (de_var 1 rfl) rfl Z.b_list) rfl (dss_nil rfl) Z.k_Way Z.a_Way_names (by simp) (by decide))
theorem mk_shut {G : Glb} (Z : Facts G) : MakD G 1 "Shut" ["self", "names"] (aMkNames "Shut") := by
  refine ⟨Z.mk_Shut, ?_, Z.g_Shut, Z.n_Shut_init⟩
  refine okI (N := ["self", "names"]) Z.f_Shut_init scMkShut (fun xs r ⟨_, e, _⟩ => by rw [e]; rfl) fun cdv Ar outer s H E hr p xs t ⟨l, ex, et⟩ => ?_
  subst ex et
  exact dss_cons (ds_setF 0 rfl (dv_list (de_var 1 rfl) rfl Z.b_list) rfl (dss_nil rfl) Z.k_Shut Z.a_Shut_names (by simp) (by decide))
theorem look_found (ln : List (List Str)) (p : Str) : lookD (foundW ln) p = (ln.find? fun w => decide (lastW w = p)).map wayD := by
  unfold lookD foundW
  rw [List.find?_map]
  cases h : ln.find? (fun w => decide (lastW w = p)) with
  | none =>
    have : ln.find? ((fun kv : Str × D => decide (kv.1 = p)) ∘ fun w => (lastW w, wayD w)) = none := h
    rw [this]
    rfl
  | some w =>
    have : ln.find? ((fun kv : Str × D => decide (kv.1 = p)) ∘ fun w => (lastW w, wayD w)) = some w := h
    rw [this]
    rfl
def whyWay (b : List Ent) (se : Str) (ns : List Str) (p : Str) : Option (List Str) := (waysM b (passM b se p) ns).find? fun w => decide (lastW w = p)
def whyShut (b : List Ent) (se : Str) (ns : List Str) (p : Str) : List Str := sortN ((keysW (waysM b (passM b se p) ns)).filter fun n => decide (n ∈ passM b se p))
def whyT (b : List Ent) (se : Str) (ns : List Str) (p : Str) : OT := match whyWay b se ns p with
  | some w => wayT w
  | none => shutT (whyShut b se ns p)
theorem ways_line {b : List Ent} (hb : Bk b) {ns : List Str} (hn : ns.Nodup) (passed : List Str) : WLine b ns (waysM b passed ns) := by
  have gen : ∀ (f : Nat) (ln : List (List Str)) (a : Nat), WLine b ns ln → WLine b ns (waysRun b passed f ln a) := fun f => by
    induction f with
    | zero => exact fun ln a h => h
    | succ f ih =>
      intro ln a h
      rw [waysRun]
      cases q : ln[a]? with
      | none => exact h
      | some w => exact ih _ _ (h.step hb (List.mem_of_getElem? q))
  exact gen _ _ _ (wline0 hn)
def aWhy (xs : List D) (r : DS) : Prop := ∃ (b : List Ent) (se : Str) (ns : List Str) (p : Str), xs = [bkD b, .str se, .lst (ns.map .str), .str p] ∧ Bk b ∧ Nm se ∧ Ns ns ∧ Nm p ∧ isL b p = false ∧ (b.flatMap Ent.mem).length ≤ 80000 ∧ r = .ot none (whyT b se ns p)
abbrev nWhy : List Str := ["book", "sender", "names", "person", "lists", "passed", "found", "name"]
theorem scWhy : FnScope nWhy qLooked (defScope S_why) := ⟨rfl, rfl, rfl, by decide +kernel, rfl, by decide +kernel, by decide +kernel⟩
theorem keys_found (ln : List (List Str)) : DK.keys.ds (foundW ln) = (keysW ln).map D.str := by
  show (foundW ln).map _ = _
  unfold foundW keysW
  rw [List.map_map, List.map_map]
  rfl
theorem ok_why {G : Glb} (Z : Facts G) : CallD G 9 "why" qLooked false aWhy := by
  refine ⟨?_, Z.g_why, Z.n_why, Z.f_why.kp⟩
  refine okD (N := nWhy) Z.f_why scWhy (fun xs r ⟨_, _, _, _, e, _⟩ => by rw [e]; rfl) fun cdv Ar outer s H E hr xs r ⟨b, se, ns, p, e, hb, hse, hn, hp, hl, hU, er⟩ => ?_
  subst e er
  have hnle := hn.le
  have hU2 : (uni b ns).length ≤ 90000 := uni_le hU (by omega)
  have wl := ways_line hb hn.nd (passM b se p)
  have wlen := wl.len
  have sh := uni_short (ns := ns) hb hn.nm
  refine dss_cons (ds_set 4 (dv_c (ok_looked Z) hr (da_cons (de_var 0 rfl) (da_cons (de_var 1 rfl) (da_cons (de_var 2 rfl) (da_cons (de_var 3 rfl) da_nil)))) ⟨b, se, ns, p, rfl, hb, hse, hn, hp, hl, rfl⟩) ?_ scWhy.nd)
  refine dss_cons (ds_set 5 (s := .im (.lst ((passM b se p).map .str))) (de_own (dv_c (ok_passing Z) hr (da_cons (de_var 4 rfl) (da_cons (de_var 1 rfl) (da_cons (de_var 3 rfl) da_nil))) ⟨b, se, p, rfl, hb, hU, rfl⟩)) ?_ scWhy.nd)
  refine dss_cons (ds_set 6 (s := .im (.dic (foundW (waysM b (passM b se p) ns)))) (de_ownD (dv_c (ok_ways Z) hr (da_cons (de_var 4 rfl) (da_cons (de_var 5 rfl) (da_cons (de_var 2 rfl) da_nil))) ⟨b, passM b se p, ns, rfl, hb, hn.nd, hn.nm, fun n h => passM_L h, hU2, rfl⟩)) ?_ scWhy.nd)
  unfold whyT whyWay whyShut
  generalize waysM b (passM b se p) ns = ln at wl wlen ⊢
  refine dss_cons (ds_if (look_found ln p ▸ dt_inD (de_var 3 rfl) (de_var 6 rfl) (u1 hr)) (fun hc => ?_) (fun hc => dss_nil ?_))
  · cases q : ln.find? (fun w => decide (lastW w = p)) with
    | none => rw [q] at hc; cases hc
    | some w =>
      have look : lookD (foundW ln) p = some (wayD w) := by rw [look_found, q]; rfl
      exact dss_one (ds_ret (dv_mk (mk_way Z) hr (da_cons (de_dget (de_var 6 rfl) (de_var 3 rfl) look (u1 hr)) da_nil) ⟨w, rfl, rfl⟩) (.inl rfl))
  · cases q : ln.find? (fun w => decide (lastW w = p)) with
    | some w => rw [q] at hc; cases hc
    | none =>
      have kl : (keysW ln).length ≤ 90000 := by rw [List.length_map]; omega
      refine dss_one (ds_ret (dv_mk (mk_shut Z) hr (da_cons (de_own (dv_c (ok_in_order Z) hr (da_cons (dv_is (de_own (dv_lcP (ev := D.str) (xs := keysW ln) (own := [("name", 7)]) (js := [7]) (fun n => [.im (bkD b), .im (.str se), .im (.lst (ns.map .str)), .im (.str p), .im (lsD b), .im (.lst ((passM b se p).map .str)), .im (.dic (foundW ln)), .im (.str n)]) (fun n => decide (n ∈ passM b se p)) (fun n => .str n)
        (keys_found ln ▸ di_keys (de_var 6 rfl)) (by omega) scWhy.nd (blkOk_by (N := nWhy) (sc := defScope S_why) (by decide +kernel)) (fun s H C cl fp n hc => dg_name 7 scWhy.nd) (fun s H C cl fp n hc => dts_one (dt_inS (de_var 7 rfl) (de_var 5 rfl))) (fun s H C cl fp n hc _ => de_var 7 rfl))) rfl) da_nil) ⟨_, rfl, fun n hn2 => sh n (wl.sub n (List.mem_filter.mp hn2).1), rfl⟩)) da_nil) ⟨_, rfl, rfl⟩) (.inl rfl))
/-! ### what answers show -/
abbrev qShows : List Str := ["self", "book", "sender", "names", "person"]
def aWayShows (xs : List D) (r : DS) : Prop := ∃ (w : List Str) (b : List Ent) (se : Str) (ns : List Str) (p : Str), xs = [.ins "Way" [("names", .lst (w.map .str))], bkD b, .str se, .lst (ns.map .str), .str p] ∧ Bk b ∧ (b.flatMap Ent.mem).length ≤ 80000 ∧ w.length ≤ 90000 ∧ r = .im (.bl (isWayM b (passM b se p) ns p w))
abbrev nWayShows : List Str := ["self", "book", "sender", "names", "person", "lists"]
theorem scWayShows : FnScope nWayShows qShows (defScope S_Way_shows) := ⟨rfl, rfl, rfl, by decide +kernel, rfl, by decide +kernel, by decide +kernel⟩
theorem ok_way_shows {G : Glb} (Z : Facts G) : MethD G 9 "Way" "shows" qShows aWayShows := by
  refine ⟨Z.k_Way, Z.m_Way_shows, ?_, Z.n_Way_shows⟩
  refine okD (N := nWayShows) Z.f_Way_shows scWayShows (fun xs r ⟨_, _, _, _, _, e, _⟩ => by rw [e]; rfl) fun cdv Ar outer s H E hr xs r ⟨w, b, se, ns, p, e, hb, hU, hw, er⟩ => ?_
  subst e er
  refine dss_cons (ds_set 5 (s := .im (lsD b)) (dv_is (dv_fz (dv_c (ok_lists_of Z) hr (da_cons (de_var 1 rfl) da_nil) ⟨b, rfl, hb, rfl⟩)) lists_told) ?_ scWayShows.nd)
  exact dss_one (ds_ret (dv_c (ok_is_way Z) hr (da_cons (de_var 5 rfl) (da_cons (de_own (dv_c (ok_passing Z) hr (da_cons (de_var 5 rfl) (da_cons (de_var 2 rfl) (da_cons (de_var 4 rfl) da_nil))) ⟨b, se, p, rfl, hb, hU, rfl⟩)) (da_cons (de_var 3 rfl) (da_cons (de_var 4 rfl) (da_cons (de_fld (de_var 0 rfl) Z.k_Way Z.a_Way_names rfl) da_nil))))) ⟨b, passM b se p, ns, p, w, rfl, hb, fun n h => passM_L h, hw, rfl⟩) (.inl rfl))

/-! ### what Shut shows -/
def aRank (xs : List D) (r : DS) : Prop := ∃ x : Str, xs = [.str x] ∧ x.length ≤ 100000 ∧ r = .im (.tup [.int (x.length : Int), .str x])
theorem ok_rankC {G : Glb} (Z : Facts G) : CallD G 1 "rank" ["name"] false aRank := by
  refine ⟨?_, Z.g_rank, Z.n_rank, Z.f_rank.kp⟩
  refine okD (N := ["name"]) Z.f_rank scRank (fun xs r ⟨_, e, _⟩ => by rw [e]; rfl) fun cdv Ar outer s H E hr xs r ⟨x, e, hl, er⟩ => ?_
  subst e er
  exact dss_one (ds_ret (de_tup (da_cons (de_lenS (de_var 0 rfl) (by show _ ≤ 16777216; omega) rfl Z.b_len) (da_cons (de_var 0 rfl) da_nil)) (by show 2 ≤ 100000; decide)) (.inl rfl))
def upB (l : List Str) : Bool := !(l.zip (l.drop 1)).any fun q => PySem.W.dataLe false rankD q.2 q.1
def metL (b : List Ent) (ns l : List Str) : List Str := ns ++ l.flatMap (memsOf b)
def shutShows (b : List Ent) (passed ns : List Str) (p : Str) (l : List Str) : Bool :=
  (l.all fun n => decide (n ∈ passed)) && !decide (p ∈ ns) && upB l && (!decide (p ∈ metL b ns l) && ((metL b ns l).filter fun n => decide (n ∈ passed)).all fun n => decide (n ∈ l))
def aShutShows (xs : List D) (r : DS) : Prop := ∃ (l : List Str) (b : List Ent) (se : Str) (ns : List Str) (p : Str), xs = [.ins "Shut" [("names", .lst (l.map .str))], bkD b, .str se, .lst (ns.map .str), .str p] ∧ Bk b ∧ (b.flatMap Ent.mem).length ≤ 80000 ∧ (∀ n ∈ l, n.length ≤ 100000) ∧ l.length ≤ 90000 ∧ (metL b ns l).length ≤ 90000 ∧ r = .im (.bl (shutShows b (passM b se p) ns p l))
abbrev nShutShows : List Str := ["self", "book", "sender", "names", "person", "lists", "passed", "name", "one", "other", "met"]
theorem scShutShows : FnScope nShutShows qShows (defScope S_Shut_shows) := ⟨rfl, rfl, rfl, by decide +kernel, rfl, by decide +kernel, by decide +kernel⟩
theorem all_bs {α : Type} (l : List α) (f : α → Bool) : (l.map f).all id = l.all f := by rw [List.all_map]; rfl
theorem any_bs {α : Type} (l : List α) (f : α → Bool) : (l.map f).any id = l.any f := by rw [List.any_map]; rfl
theorem ok_shut_shows {G : Glb} (Z : Facts G) : MethD G 9 "Shut" "shows" qShows aShutShows := by
  refine ⟨Z.k_Shut, Z.m_Shut_shows, ?_, Z.n_Shut_shows⟩
  refine okD (N := nShutShows) Z.f_Shut_shows scShutShows (fun xs r ⟨_, _, _, _, _, e, _⟩ => by rw [e]; rfl) fun cdv Ar outer s H E hr xs r ⟨l, b, se, ns, p, e, hb, hU, hls, hll, hml, er⟩ => ?_
  subst e er
  have hble := hb.le
  refine dss_cons (ds_set 5 (s := .im (lsD b)) (dv_is (dv_fz (dv_c (ok_lists_of Z) hr (da_cons (de_var 1 rfl) da_nil) ⟨b, rfl, hb, rfl⟩)) lists_told) ?_ scShutShows.nd)
  refine dss_cons (ds_set 6 (s := .im (.lst ((passM b se p).map .str))) (de_own (dv_c (ok_passing Z) hr (da_cons (de_var 5 rfl) (da_cons (de_var 2 rfl) (da_cons (de_var 4 rfl) da_nil))) ⟨b, se, p, rfl, hb, hU, rfl⟩)) ?_ scShutShows.nd)
  have hpL : ∀ n ∈ passM b se p, isL b n = true := fun n h => passM_L h
  generalize passM b se p = passed at hpL ⊢
  unfold shutShows
  refine dss_cons (ds_if (dt_w (dw_or (dt_not (dt_val (de_all (bs := l.map fun n => decide (n ∈ passed)) (dv_is (de_own (dv_lcP (ev := D.str) (xs := l) (own := [("name", 7)]) (js := [7]) (fun n => [.im (.ins "Shut" [("names", .lst (l.map .str))]), .im (bkD b), .im (.str se), .im (.lst (ns.map .str)), .im (.str p), .im (lsD b), .im (.lst (passed.map .str)), .im (.str n), .no, .no, .no]) (fun _ => true) (fun n => .bl (decide (n ∈ passed)))
      (di_list (de_fld (d := .lst (l.map .str)) (de_var 0 rfl) Z.k_Shut Z.a_Shut_names rfl)) (by omega) scShutShows.nd (blkOk_by (N := nShutShows) (sc := defScope S_Shut_shows) (by decide +kernel)) (fun s H C cl fp n hc => dg_name 7 scShutShows.nd) (fun s H C cl fp n hc => dts_nil) (fun s H C cl fp n hc _ => de_inS (de_var 7 rfl) (de_var 6 rfl)))) (by
        rw [List.filter_eq_self.mpr fun _ _ => rfl, List.map_map]
        rfl)) rfl Z.b_all))) fun _ => dw_or1 (dt_inS (de_var 4 rfl) (de_var 3 rfl)))) (fun hc => ?_) (fun hc => dss_nil ?_))
  · rw [all_bs] at hc
    have e : ((l.all fun n => decide (n ∈ passed)) && !decide (p ∈ ns)) = false := by
      cases h1 : (l.all fun n => decide (n ∈ passed)) <;> cases h2 : decide (p ∈ ns) <;> rw [h1, h2] at hc <;> first | rfl | cases hc
    rw [e]
    exact dss_one (ds_ret de_bl (.inl rfl))
  rw [all_bs] at hc
  have hall : (l.all fun n => decide (n ∈ passed)) = true := by
    cases h1 : (l.all fun n => decide (n ∈ passed)) with
    | true => rfl
    | false => rw [h1] at hc; cases hc
  have hpn : decide (p ∈ ns) = false := by
    cases h1 : decide (p ∈ ns) with
    | false => rfl
    | true => rw [h1, Bool.or_true] at hc; cases hc
  rw [hall, hpn]
  have hlp : ∀ n ∈ l, n ∈ passed := fun n hn => of_decide_eq_true (List.all_eq_true.mp hall n hn)
  refine dss_cons (ds_if (dt_val (de_any (bs := (l.zip (l.drop 1)).map fun q => PySem.W.dataLe false rankD q.2 q.1) (dv_is (de_own (dv_lcP (ev := fun q : Str × Str => D.tup [.str q.1, .str q.2]) (xs := l.zip (l.drop 1)) (own := [("one", 8), ("other", 9)]) (js := [8, 9]) (fun q => [.im (.ins "Shut" [("names", .lst (l.map .str))]), .im (bkD b), .im (.str se), .im (.lst (ns.map .str)), .im (.str p), .im (lsD b), .im (.lst (passed.map .str)), .no, .im (.str q.1), .im (.str q.2), .no]) (fun _ => true) (fun q => .bl (PySem.W.dataLe false rankD q.2 q.1))
      (by rw [← zip_SS]; exact di_zip (de_fld (d := .lst (l.map .str)) (de_var 0 rfl) Z.k_Shut Z.a_Shut_names rfl) (dv_is (de_own (dv_slL (de_fld (d := .lst (l.map .str)) (de_var 0 rfl) Z.k_Shut Z.a_Shut_names rfl) (do_some de_int) do_none)) (congrArg (fun l => DS.im (D.lst l)) ((cutG_drop (k := 1)).trans (by rw [List.map_drop])))) rfl Z.b_zip) (by rw [List.length_zip]; omega) scShutShows.nd (blkOk_by (N := nShutShows) (sc := defScope S_Shut_shows) (by decide +kernel))
      (fun s H C cl fp q hc => dg_tup (dgs_cons (dg_name 8 scShutShows.nd) (dgs_cons (dg_name 9 scShutShows.nd) dgs_nil))) (fun s H C cl fp q hc => dts_nil) (fun s H C cl fp q hc _ => de_geR (dv_c (ok_rankC Z) hr (da_cons (de_var 8 rfl) da_nil) ⟨q.1, rfl, hls _ (List.of_mem_zip hc).1, rfl⟩) (dv_c (ok_rankC Z) hr (da_cons (de_var 9 rfl) da_nil) ⟨q.2, rfl, hls _ (List.mem_of_mem_drop (List.of_mem_zip hc).2), rfl⟩) (units_of hr)))) (by
        rw [List.filter_eq_self.mpr fun _ _ => rfl, List.map_map]
        rfl)) rfl Z.b_any)) (fun hc => ?_) (fun hc => dss_nil ?_))
  · rw [any_bs] at hc
    have e : upB l = false := by unfold upB; rw [hc]; rfl
    rw [e]
    exact dss_one (ds_ret de_bl (.inl rfl))
  rw [any_bs] at hc
  have e : upB l = true := by unfold upB; rw [hc]; rfl
  rw [e]
  refine dss_cons (ds_set 10 (dv_list (de_var 3 rfl) rfl Z.b_list) ?_ scShutShows.nd)
  have mtake : ∀ i, (metL b ns (l.take i)).length ≤ 90000 := fun i => by
    refine Nat.le_trans ?_ hml
    unfold metL
    rw [List.length_append, List.length_append]
    have : (l.take i).flatMap (memsOf b) ++ (l.drop i).flatMap (memsOf b) = l.flatMap (memsOf b) := by rw [← List.flatMap_append, List.take_append_drop]
    rw [← this, List.length_append]
    omega
  refine dss_cons (ds_forE (e := D.str) (xs := l) [7] (fun i => [.im (.ins "Shut" [("names", .lst (l.map .str))]), .im (bkD b), .im (.str se), .im (.lst (ns.map .str)), .im (.str p), .im (lsD b), .im (.lst (passed.map .str)), .no, .no, .no, .own ((metL b ns (l.take i)).map .str)]) (fun n ds1 => ds1.set 7 (.im (.str n))) (by
      show _ = ([.im (.ins "Shut" [("names", .lst (l.map .str))]), .im (bkD b), .im (.str se), .im (.lst (ns.map .str)), .im (.str p), .im (lsD b), .im (.lst (passed.map .str)), .no, .no, .no, .own ((ns ++ []).map .str)] : List DS)
      rw [List.append_nil]
      rfl) (di_list (de_fld (d := .lst (l.map .str)) (de_var 0 rfl) Z.k_Shut Z.a_Shut_names rfl)) (fun n _ ds1 => dg_name 7 scShutShows.nd) (fun i n hi => ?_) ?_ PassesOwn.never)
  · have hn := hlp n (List.mem_of_getElem? hi)
    obtain ⟨en, f1, f2, f3⟩ := isL_find (hpL n hn)
    have em : memsOf b n = en.mem := by unfold memsOf; rw [f1]
    have et : metL b ns (l.take (i + 1)) = metL b ns (l.take i) ++ memsOf b n := by
      unfold metL
      rw [List.take_succ, hi, List.flatMap_append, List.append_assoc]
      show _ ++ (_ ++ ([n].flatMap (memsOf b))) = _
      rw [List.flatMap_cons, List.flatMap_nil, List.append_nil]
    have ml := mtake (i + 1)
    rw [et] at ml ⊢
    rw [List.length_append] at ml
    refine dss_one (ds_extL 10 (ys := (memsOf b n).map .str) rfl (de_fld (d := .lst ((memsOf b n).map .str)) (de_dget (d := entI en) (de_var 5 rfl) (de_var 7 rfl) (by rw [look_ls, f1]; rfl) (u1 hr)) Z.k_Entry Z.a_Entry_members (by rw [em]; rfl)) (by rw [List.length_map, List.length_map]; omega) ?_)
    show _ = _
    rw [List.map_append]
    rfl
  rw [List.take_length]
  refine dss_freeze 10 rfl rfl ?_
  refine dss_one (ds_ret (dv_is (de_and (x := !decide (p ∈ metL b ns l)) (de_niS (de_var 4 rfl) (de_var 10 rfl)) fun _ => de_one (de_all (bs := ((metL b ns l).filter fun n => decide (n ∈ passed)).map fun n => decide (n ∈ l)) (dv_is (de_own (dv_lcP (ev := D.str) (xs := metL b ns l) (own := [("name", 7)]) (js := [7]) (fun n => [.im (.ins "Shut" [("names", .lst (l.map .str))]), .im (bkD b), .im (.str se), .im (.lst (ns.map .str)), .im (.str p), .im (lsD b), .im (.lst (passed.map .str)), .im (.str n), .no, .no, .im (.lst ((metL b ns l).map .str))]) (fun n => decide (n ∈ passed)) (fun n => .bl (decide (n ∈ l)))
      (di_list (de_var 10 rfl)) (by omega) scShutShows.nd (blkOk_by (N := nShutShows) (sc := defScope S_Shut_shows) (by decide +kernel)) (fun s H C cl fp n hc => dg_name 7 scShutShows.nd) (fun s H C cl fp n hc => dts_one (dt_inS (de_var 7 rfl) (de_var 6 rfl))) (fun s H C cl fp n hc _ => de_inS (de_var 7 rfl) (de_fld (d := .lst (l.map .str)) (de_var 0 rfl) Z.k_Shut Z.a_Shut_names rfl)))) (by
        rw [List.map_map]
        rfl)) rfl Z.b_all)) (by rw [all_bs]; rfl)) (.inl rfl))

/-! ### the law's own rounds -/
abbrev noS : Str := ""
def metStep (passed : List Str) (p : Str) (met : List Str) (e : Ent) : List Str := if (decide (e.nm ∈ met) && (decide (e.nm ∈ passed) && !decide (p ∈ e.left))) = true then met ++ e.mem.filter fun m => !decide (m ∈ met) else met
def metRound (b : List Ent) (passed : List Str) (p : Str) (met : List Str) : List Str := b.foldl (metStep passed p) met
def metRun (b : List Ent) (passed : List Str) (p : Str) : Nat → List Str → Int → List Str
  | 0, met, _ => met
  | f + 1, met, many => if many < (met.length : Int) then metRun b passed p f (metRound b passed p met) (met.length : Int) else met
def metM (b : List Ent) (ns passed : List Str) (p : Str) : List Str := metRun b passed p ((uni b ns).length + 2) ns (-1)
theorem Line.met {b : List Ent} {ns met passed : List Str} {p : Str} (hb : Bk b) (h : Line b ns met) {e : Ent} (he : e ∈ b) : Line b ns (metStep passed p met e) := by
  unfold metStep
  split
  · exact h.grow (hb.ok e he).memN fun m hm => ⟨e, he, hm⟩
  · exact h
theorem Line.round {b : List Ent} {ns passed : List Str} {p : Str} (hb : Bk b) : ∀ (l : List Ent) (met : List Str), (∀ e ∈ l, e ∈ b) → Line b ns met → Line b ns (l.foldl (metStep passed p) met)
  | [], _, _, h => h
  | e :: l, met, hl, h => Line.round hb l _ (fun x hx => hl x (List.mem_cons_of_mem _ hx)) (h.met hb (hl e List.mem_cons_self))
def PvMet (b : List Ent) (ns passed : List Str) (p : Str) (m : Nat) (ds : List DS) : Prop := ∃ (met : List Str) (many : Int) (o6 o7 o8 o9 o10 : DS), ds = [.im (bkD b), .im (.lst (ns.map .str)), .im (.lst (passed.map .str)), .im (.str p), .im (.lst (met.map .str)), .im (.int many), o6, o7, o8, o9, o10] ∧ ((uni b ns).length : Int) + 1 ≤ (m : Int) + many ∧ Line b ns met ∧ metRun b passed p m met many = metM b ns passed p
def aMet (xs : List D) (r : DS) : Prop := ∃ (b : List Ent) (ns passed : List Str) (p : Str), xs = [bkD b, .lst (ns.map .str), .lst (passed.map .str), .str p] ∧ Bk b ∧ ns.Nodup ∧ (uni b ns).length ≤ 90000 ∧ r = .im (.lst ((metM b ns passed p).map .str))
abbrev nMet : List Str := ["_law_book_here", "_law_names_here", "_law_passed_here", "_law_person", "_law_met_here", "_law_many", "_law_name", "_law_members", "_law_left", "_law_gate", "_law_member"]
abbrev qMet : List Str := ["_law_book_here", "_law_names_here", "_law_passed_here", "_law_person"]
theorem scMet : FnScope nMet qMet (defScope S_law_met) := ⟨rfl, rfl, rfl, by decide +kernel, rfl, by decide +kernel, by decide +kernel⟩
theorem ok_met {G : Glb} (Z : Facts G) : CallD G 1 "_law_met" qMet false aMet := by
  refine ⟨?_, Z.g_law_met, Z.n_law_met, Z.f_law_met.kp⟩
  refine okD (N := nMet) Z.f_law_met scMet (fun xs r ⟨_, _, _, _, e, _⟩ => by rw [e]; rfl) fun cdv Ar outer s H E hr xs r ⟨b, ns, passed, p, e, hb, hn, hU, er⟩ => ?_
  subst e er
  have l0 : Line b ns ns := ⟨hn, fun x hx => List.mem_append_left _ hx⟩
  refine dss_cons (ds_p2t 4 5 (de_own (dv_list (de_var 1 rfl) rfl Z.b_list)) (de_neg de_int) ?_ scMet.nd)
  refine dss_cons (ds_while (PvMet b ns passed p) ((uni b ns).length + 2) ⟨ns, -1, .no, .no, .no, .no, .no, rfl, by omega, l0, rfl⟩ (fun m ds1 ⟨met, many, o6, o7, o8, o9, o10, e1, e2, e4, e5⟩ => ?_) PassesOwn.never)
  subst e1
  have hlu := e4.len
  refine ⟨_, dt_gt (dv_is (de_lenL (de_var 4 rfl) rfl Z.b_len) (by rw [List.length_map])) (de_var 5 rfl), fun hc => ?_, fun hc => ?_⟩
  · have ha : many < (met.length : Int) := of_decide_eq_true hc
    obtain ⟨m', rfl⟩ : ∃ m', m = m' + 1 := ⟨m - 1, by omega⟩
    have e6 : metRun b passed p m' (metRound b passed p met) (met.length : Int) = metM b ns passed p := by
      rw [← e5, metRun, if_pos ha]
    refine dss_cons (ds_set 5 (dv_is (de_lenL (de_var 4 rfl) rfl Z.b_len) (by rw [List.length_map])) ?_ scMet.nd)
    refine dss_one (ds_forE (e := Ent.d) (xs := b) [6, 7, 8, 9, 10] (fun i => [.im (bkD b), .im (.lst (ns.map .str)), .im (.lst (passed.map .str)), .im (.str p), .im (.lst (((b.take i).foldl (metStep passed p) met).map .str)), .im (.int (met.length : Int)), .no, .no, .no, .no, .no])
      (fun e ds1 => (((ds1.set 6 (.im (.str e.nm))).set 7 (.im (.lst (e.mem.map .str)))).set 8 (.im (.lst (e.left.map .str)))).set 9 (.im (gD e.gate))) rfl (di_list (de_var 0 rfl)) (fun e _ ds1 => dg_tup (dgs_cons (dg_name 6 scMet.nd) (dgs_cons (dg_name 7 scMet.nd) (dgs_cons (dg_name 8 scMet.nd) (dgs_cons (dg_name 9 scMet.nd) dgs_nil))))) (fun i e hi => ?_) ?_ PassesOwn.never)
    · have et : b.take (i + 1) = b.take i ++ [e] := by rw [List.take_succ, hi]; rfl
      have he : e ∈ b := List.mem_of_getElem? hi
      have li := (Line.round (passed := passed) (p := p) hb (b.take i) met (fun x hx => List.mem_of_mem_take hx) e4).len
      have es : (b.take (i + 1)).foldl (metStep passed p) met = metStep passed p ((b.take i).foldl (metStep passed p) met) e := by
        rw [et, List.foldl_append]
        rfl
      rw [es]
      generalize (b.take i).foldl (metStep passed p) met = cur at li
      refine dss_one (ds_if (dt_w (dw_and (dt_inS (de_var 6 rfl) (de_var 4 rfl)) fun _ => dw_and (dt_inS (de_var 6 rfl) (de_var 2 rfl)) fun _ => dw_and1 (dt_niS (de_var 3 rfl) (de_var 8 rfl)))) (fun hc => ?_) (fun hc => ?_))
      · have ec : metStep passed p cur e = cur ++ e.mem.filter fun m => !decide (m ∈ cur) := if_pos hc
        rw [ec]
        have hml := (hb.ok e he).memL
        have hfl := List.length_filter_le (fun m => !decide (m ∈ cur)) e.mem
        refine dss_one (ds_set 4 (de_own (dv_cat (de_var 4 rfl) (de_own (dv_lcP (ev := D.str) (xs := e.mem) (own := [("_law_member", 10)]) (js := [10]) (fun n => [.im (bkD b), .im (.lst (ns.map .str)), .im (.lst (passed.map .str)), .im (.str p), .im (.lst (cur.map .str)), .im (.int (met.length : Int)), .im (.str e.nm), .im (.lst (e.mem.map .str)), .im (.lst (e.left.map .str)), .im (gD e.gate), .im (.str n)])
          (fun n => !decide (n ∈ cur)) (fun n => .str n) (di_list (de_var 7 rfl)) (by omega) scMet.nd (blkOk_by (N := nMet) (sc := defScope S_law_met) (by decide +kernel)) (fun s H C cl fp n hc => dg_name 10 scMet.nd) (fun s H C cl fp n hc => dts_one (dt_niS (de_var 10 rfl) (de_var 4 rfl))) (fun s H C cl fp n hc _ => de_var 10 rfl))) (by rw [List.length_map, List.length_map]; omega))) ?_ scMet.nd)
        show _ = _
        rw [List.map_append]
        rfl
      · have ec : metStep passed p cur e = cur := if_neg (by rw [hc]; exact fun z => nomatch z)
        rw [ec]
        exact dss_nil rfl
    · rw [List.take_length]
      exact ⟨m', Nat.lt_succ_self _, _, _, _, _, _, _, _, rfl, by omega, Line.round hb b met (fun _ h => h) e4, e6⟩
  · have ha : ¬ many < (met.length : Int) := of_decide_eq_false hc
    have e6 : met = metM b ns passed p := by
      rw [← e5]
      cases m with
      | zero => rfl
      | succ m => rw [metRun, if_neg ha]
    refine dss_one (ds_ret (de_var 4 rfl) (.inl ?_))
    rw [e6]

def listsM (b : List Ent) : List Str := b.map Ent.nm
def aLawLists (xs : List D) (r : DS) : Prop := ∃ b : List Ent, xs = [bkD b] ∧ b.length ≤ 900 ∧ r = .own ((listsM b).map .str)
theorem scLawLists : FnScope ["_law_book_here", "_law_entry_here"] ["_law_book_here"] (defScope S_law_lists) := ⟨rfl, rfl, rfl, by decide +kernel, rfl, by decide +kernel, by decide +kernel⟩
theorem ok_lawlists {G : Glb} (Z : Facts G) : CallD G 1 "_law_lists" ["_law_book_here"] false aLawLists := by
  refine ⟨?_, Z.g_law_lists, Z.n_law_lists, Z.f_law_lists.kp⟩
  refine okD (N := ["_law_book_here", "_law_entry_here"]) Z.f_law_lists scLawLists (fun xs r ⟨_, e, _⟩ => by rw [e]; rfl) fun cdv Ar outer s H E hr xs r ⟨b, e, hl, er⟩ => ?_
  subst e er
  exact dss_one (ds_ret (dv_lcP (ev := Ent.d) (xs := b) (own := [("_law_entry_here", 1)]) (js := [1]) (fun c => [.im (bkD b), .im c.d]) (fun _ => true) (fun c => .str c.nm) (di_list (de_var 0 rfl)) (by omega) scLawLists.nd (blkOk_by (N := ["_law_book_here", "_law_entry_here"]) (sc := defScope S_law_lists) (by decide +kernel))
    (fun s H C cl fp c hc => dg_name 1 scLawLists.nd) (fun s H C cl fp c hc => dts_nil) (fun s H C cl fp c hc _ => de_ixT (de_var 1 rfl) de_int rfl)) (.inl (by
      rw [List.filter_eq_self.mpr fun _ _ => rfl]
      unfold listsM
      rw [List.map_map]
      rfl)))
theorem scLawRank : FnScope ["_law_name"] ["_law_name"] (defScope S_law_rank) := ⟨rfl, rfl, rfl, by decide +kernel, rfl, by decide +kernel, by decide +kernel⟩
theorem ok_lawrank {G : Glb} (Z : Facts G) : PureKey G (He.ga G.K "_law_rank") rankD := by
  refine ⟨fun A outer s H x t hr hx e0 => ?_⟩
  obtain ⟨oc, od, dV, kV, doc, pm, an, cdv, ct, osl, e1, lk, hcd, _, _⟩ := Z.f_law_rank.ex
  have KX : G.K.In s.heap := e0.mod.kin.keeps fun b o e => (e0.bs b o e).1
  have lim : s.heap.NoLimit := e0.mod.nolimit.keeps fun b o e => (e0.bs b o e).1
  have hb := Z.n_law_rank s [.str x t] KX rfl
  rw [e1] at hb lk
  have S := scLawRank
  have hkind : ∀ y ∈ (["_law_name"] : List Str).zip [Value.str x t], (defScope S_law_rank).names.lookup y.1 = some .local ∨ ((defScope S_law_rank).names.lookup y.1 = some .cell ∧ ((cellsFrom (s.heap.objs.size + 1) (defScope S_law_rank).names []).lookup y.1).isSome = true) := fun ⟨n, v⟩ hy => by
    rcases S.par n (List.of_mem_zip hy).1 with q | q
    · exact .inl q
    · exact .inr ⟨q, PySem.W.cellsFrom_some _ _ _ (.inl q)⟩
  refine wpAny_call (codeAny_call_function hr.depth (KX _ _ lk) rfl S.co S.gen rfl (PySem.W.codeRec_of KX hcd) (hb _ _ _ _ ?_))
  refine wpAny_newFunctionEnv_cells S.kind hkind fun env he s1 xx => ?_
  subst he
  refine ⟨lim.keeps xx.toInCall.keep, codeAny_func ?_⟩
  have I : L2.Inv (cxOf CX0 G.P G.w G.K G.mg G.base ["_law_name"] "_law_rank" (defScope S_law_rank) (He.ga G.K "_law_rank") cdv A outer s H E0) [] (L2.start ["_law_name"] [.str x]) H s1 := inv_start S hr.hd e0 rfl (.cons ⟨t, rfl⟩ .nil) xx
  obtain ⟨h1, tk, rfl, hk⟩ := xx.toInCall.done
  have nm : ∀ (s2 : Shared) (pos : Pos) (Q : Value → Shared → Prop) (E : Value → Shared → Prop) (A2 : Around), L2.Inv (cxOf CX0 G.P G.w G.K G.mg G.base ["_law_name"] "_law_rank" (defScope S_law_rank) (He.ga G.K "_law_rank") cdv A outer s H E0) [] (L2.start ["_law_name"] [.str x]) H s2 → (∀ t, Q (.str x t) s2) →
      wpAny (model G.P G.w) A2 (eval (.Name "_law_name" pos) (envOfC "_law_rank" (defScope S_law_rank) s.heap.objs.size (He.ga G.K "_law_rank") cdv)) Q E s2 := fun s2 pos Q E A2 J q => by
    obtain ⟨m, hn, hl⟩ := J.loc
    obtain ⟨u, r, l⟩ := hl 0 "_law_name" (.str x) rfl rfl (Or.inl rfl)
    obtain ⟨t2, rfl⟩ := (show ∃ t, u = Value.str x t from r)
    rcases l with ⟨hk, hm⟩ | ⟨hk, c, hc, hcell⟩
    · exact wpAny_Name (wpAny_loadName_local J.ok.kind hk hn hm (q t2)) (by decide)
    · rcases hk with z | z
      · exact absurd (show (defScope S_law_rank).names.lookup ("_law_name" : Str) = some NameKind.cell from z) (by decide +kernel)
      · exact absurd (show (defScope S_law_rank).names.lookup ("_law_name" : Str) = some NameKind.free from z) (by decide +kernel)
  refine wpAny_execs_cons (wpAny_Return_some (wpAny_Tuple_spliced ?_))
  refine Calls.spliced_cons ?_
  refine wpAny_Call_Name_kw (ld_blt I rfl Z.b_len rfl ?_)
  refine PyProof.Rows.callWith_kw (Calls.spliced_cons (nm _ _ _ _ _ I fun t2 => Calls.spliced_nil ?_)) rfl rfl rfl rfl
  refine wpAny_evalAll_nil ?_
  refine PySem.P.len_str (by omega) ?_
  refine Calls.spliced_cons (nm _ _ _ _ _ (I.tok _) fun t3 => Calls.spliced_nil ?_)
  refine ⟨(by decide : 2 ≤ sizeLine), ?_⟩
  refine ⟨_, _, rfl, fun b o e => Heap.get?_push_of_some _ (hk b o e), ?_⟩
  refine .tuple (Heap.get?_push_size _ rfl) rfl rfl (xs := [.int (x.length : Int), .str x]) (as := []) ?_
  exact .cons (as := []) (bs := []) (.int _ _) (.cons (as := []) (bs := []) (.str _ _) .nil)
def allStep (found : List Str) (e : Ent) : List Str := found ++ e.mem.filter fun m => !decide (m ∈ found)
def allM (b : List Ent) (ns : List Str) : List Str := (b.foldl allStep ns).filter fun n => !decide (n ∈ listsM b)
theorem Line.all {b : List Ent} {ns : List Str} (hb : Bk b) : ∀ (l : List Ent) (f : List Str), (∀ e ∈ l, e ∈ b) → Line b ns f → Line b ns (l.foldl allStep f)
  | [], _, _, h => h
  | e :: l, f, hl, h => Line.all hb l _ (fun x hx => hl x (List.mem_cons_of_mem _ hx)) (h.grow (hb.ok e (hl e List.mem_cons_self)).memN fun m hm => ⟨e, hl e List.mem_cons_self, hm⟩)
def aAll (xs : List D) (r : DS) : Prop := ∃ (b : List Ent) (ns : List Str), xs = [bkD b, .lst (ns.map .str)] ∧ Bk b ∧ ns.Nodup ∧ (uni b ns).length ≤ 90000 ∧ r = .own ((allM b ns).map .str)
abbrev nAll : List Str := ["_law_book_here", "_law_names_here", "_law_found", "_law_name", "_law_members", "_law_left", "_law_gate", "_law_member"]
abbrev qAll : List Str := ["_law_book_here", "_law_names_here"]
theorem scAll : FnScope nAll qAll (defScope S_law_all) := ⟨rfl, rfl, rfl, by decide +kernel, rfl, by decide +kernel, by decide +kernel⟩
theorem ok_lawall {G : Glb} (Z : Facts G) : CallD G 2 "_law_all" qAll false aAll := by
  refine ⟨?_, Z.g_law_all, Z.n_law_all, Z.f_law_all.kp⟩
  refine okD (N := nAll) Z.f_law_all scAll (fun xs r ⟨_, _, e, _⟩ => by rw [e]; rfl) fun cdv Ar outer s H E hr xs r ⟨b, ns, e, hb, hn, hU, er⟩ => ?_
  subst e er
  have l0 : Line b ns ns := ⟨hn, fun x hx => List.mem_append_left _ hx⟩
  refine dss_cons (ds_set 2 (de_own (dv_list (de_var 1 rfl) rfl Z.b_list)) ?_ scAll.nd)
  refine dss_cons (ds_forE (e := Ent.d) (xs := b) [3, 4, 5, 6, 7] (fun i => [.im (bkD b), .im (.lst (ns.map .str)), .im (.lst (((b.take i).foldl allStep ns).map .str)), .no, .no, .no, .no, .no])
      (fun e ds1 => (((ds1.set 3 (.im (.str e.nm))).set 4 (.im (.lst (e.mem.map .str)))).set 5 (.im (.lst (e.left.map .str)))).set 6 (.im (gD e.gate))) rfl (di_list (de_var 0 rfl)) (fun e _ ds1 => dg_tup (dgs_cons (dg_name 3 scAll.nd) (dgs_cons (dg_name 4 scAll.nd) (dgs_cons (dg_name 5 scAll.nd) (dgs_cons (dg_name 6 scAll.nd) dgs_nil))))) (fun i e hi => ?_) ?_ PassesOwn.never)
  · have et : b.take (i + 1) = b.take i ++ [e] := by rw [List.take_succ, hi]; rfl
    have he : e ∈ b := List.mem_of_getElem? hi
    have li := (Line.all hb (b.take i) ns (fun x hx => List.mem_of_mem_take hx) l0).len
    have es : (b.take (i + 1)).foldl allStep ns = allStep ((b.take i).foldl allStep ns) e := by
      rw [et, List.foldl_append]
      rfl
    rw [es]
    generalize (b.take i).foldl allStep ns = cur at li
    have hml := (hb.ok e he).memL
    have hfl := List.length_filter_le (fun m => !decide (m ∈ cur)) e.mem
    refine dss_one (ds_set 2 (de_own (dv_cat (de_var 2 rfl) (de_own (dv_lcP (ev := D.str) (xs := e.mem) (own := [("_law_member", 7)]) (js := [7]) (fun n => [.im (bkD b), .im (.lst (ns.map .str)), .im (.lst (cur.map .str)), .im (.str e.nm), .im (.lst (e.mem.map .str)), .im (.lst (e.left.map .str)), .im (gD e.gate), .im (.str n)])
      (fun n => !decide (n ∈ cur)) (fun n => .str n) (di_list (de_var 4 rfl)) (by omega) scAll.nd (blkOk_by (N := nAll) (sc := defScope S_law_all) (by decide +kernel)) (fun s H C cl fp n hc => dg_name 7 scAll.nd) (fun s H C cl fp n hc => dts_one (dt_niS (de_var 7 rfl) (de_var 2 rfl))) (fun s H C cl fp n hc _ => de_var 7 rfl))) (by rw [List.length_map, List.length_map]; omega))) ?_ scAll.nd)
    show _ = _
    unfold allStep
    rw [List.map_append]
    rfl
  · rw [List.take_length]
    have li := (Line.all hb b ns (fun _ h => h) l0).len
    have hble := hb.le
    exact dss_one (ds_ret (dv_lcP (ev := D.str) (xs := b.foldl allStep ns) (own := [("_law_name", 3)]) (js := [3]) (fun n => [.im (bkD b), .im (.lst (ns.map .str)), .im (.lst ((b.foldl allStep ns).map .str)), .im (.str n), .no, .no, .no, .no]) (fun n => !decide (n ∈ listsM b)) (fun n => .str n) (di_list (de_var 2 rfl)) (by omega) scAll.nd (blkOk_by (N := nAll) (sc := defScope S_law_all) (by decide +kernel))
      (fun s H C cl fp n hc => dg_name 3 scAll.nd) (fun s H C cl fp n hc => dts_one (dt_niS (de_var 3 rfl) (de_own (dv_c (ok_lawlists Z) hr (da_cons (de_var 0 rfl) da_nil) ⟨b, rfl, hble, rfl⟩)))) (fun s H C cl fp n hc _ => de_var 3 rfl)) (.inl rfl))

def lawReachedM (b : List Ent) (ns passed : List Str) : List Str := sortN ((allM b ns).filter fun p => decide (p ∈ metM b ns passed p))
theorem allM_line {b : List Ent} {ns : List Str} (hb : Bk b) (hn : ns.Nodup) : Line b ns (b.foldl allStep ns) := Line.all hb b ns (fun _ h => h) ⟨hn, fun x hx => List.mem_append_left _ hx⟩
def aLawReached (xs : List D) (r : DS) : Prop := ∃ (b : List Ent) (ns passed : List Str), xs = [bkD b, .lst (ns.map .str), .lst (passed.map .str)] ∧ Bk b ∧ ns.Nodup ∧ (uni b ns).length ≤ 90000 ∧ (∀ x ∈ uni b ns, x.length ≤ 100000) ∧ r = .own ((lawReachedM b ns passed).map .str)
abbrev nLawReached : List Str := ["_law_book_here", "_law_names_here", "_law_passed_here", "_law_found", "_law_person"]
abbrev qLawReached : List Str := ["_law_book_here", "_law_names_here", "_law_passed_here"]
theorem scLawReached : FnScope nLawReached qLawReached (defScope S_law_reached) := ⟨rfl, rfl, rfl, by decide +kernel, rfl, by decide +kernel, by decide +kernel⟩
theorem ok_lawreached {G : Glb} (Z : Facts G) : CallD G 4 "_law_reached" qLawReached false aLawReached := by
  refine ⟨?_, Z.g_law_reached, Z.n_law_reached, Z.f_law_reached.kp⟩
  refine okD (N := nLawReached) Z.f_law_reached scLawReached (fun xs r ⟨_, _, _, e, _⟩ => by rw [e]; rfl) fun cdv Ar outer s H E hr xs r ⟨b, ns, passed, e, hb, hn, hU, hlen, er⟩ => ?_
  subst e er
  have la := allM_line hb hn
  have hal : (allM b ns).length ≤ 90000 := Nat.le_trans (List.length_filter_le _ _) (Nat.le_trans la.len hU)
  refine dss_cons (ds_set 3 (dv_lst da_nil (by decide)) ?_ scLawReached.nd)
  refine dss_cons (ds_forE (e := D.str) (xs := allM b ns) [4] (fun i => [.im (bkD b), .im (.lst (ns.map .str)), .im (.lst (passed.map .str)), .own ((((allM b ns).take i).filter fun p => decide (p ∈ metM b ns passed p)).map .str), .no]) (fun n ds1 => ds1.set 4 (.im (.str n))) rfl
    (di_list (de_own (dv_c (ok_lawall Z) hr (da_cons (de_var 0 rfl) (da_cons (de_var 1 rfl) da_nil)) ⟨b, ns, rfl, hb, hn, hU, rfl⟩))) (fun n _ ds1 => dg_name 4 scLawReached.nd) (fun i p hi => ?_) ?_ PassesOwn.never)
  · have et : (allM b ns).take (i + 1) = (allM b ns).take i ++ [p] := by rw [List.take_succ, hi]; rfl
    refine dss_one (ds_if (dt_inS (de_var 4 rfl) (dv_c (ok_met Z) hr (da_cons (de_var 0 rfl) (da_cons (de_var 1 rfl) (da_cons (de_var 2 rfl) (da_cons (de_var 4 rfl) da_nil)))) ⟨b, ns, passed, p, rfl, hb, hn, hU, rfl⟩)) (fun hc => ?_) (fun hc => ?_))
    · refine dss_one (ds_append 3 rfl (de_var 4 rfl) ?_ ?_)
      · rw [List.length_map]
        have := List.length_filter_le (fun p => decide (p ∈ metM b ns passed p)) ((allM b ns).take i)
        rw [List.length_take] at this
        omega
      · show _ = _
        rw [et, List.filter_append, List.filter_cons, if_pos hc, List.map_append]
        rfl
    · refine dss_nil ?_
      show _ = _
      rw [et, List.filter_append, List.filter_cons, if_neg (by rw [hc]; exact fun z => nomatch z), List.filter_nil, List.append_nil]
      rfl
  · rw [List.take_length]
    refine dss_freeze 3 rfl rfl (dss_one (ds_ret (dv_sortN (de_var 3 rfl) (fun n hn => ?_) (ok_lawrank Z) Z.g_law_rank hr Z.b_sorted) (.inl rfl)))
    have h1 := (List.mem_filter.mp hn).1
    exact hlen n (la.sub n (List.mem_filter.mp h1).1)

/-! ### come: the least set that is closed -/
theorem comeRun_least {b : List Ent} {g : Str → Bool} {T : Str → Prop} (hT : ∀ n, T n → isL b n = true → g n = true → ∀ m ∈ memsOf b n, T m) : ∀ (f a : Nat) (line : List Str), (∀ x ∈ line, T x) → ∀ x ∈ comeRun b g f line a, T x
  | 0, _, _, h => h
  | f + 1, a, line, h => by
    rw [comeRun]
    cases e : line[a]? with
    | none => exact h
    | some n =>
      refine comeRun_least hT f (a + 1) _ fun x hx => ?_
      unfold comeStep at hx
      split at hx
      · rename_i c
        obtain ⟨c1, c2⟩ := Bool.and_eq_true_iff.mp c
        rcases List.mem_append.mp hx with z | z
        · exact h x z
        · exact hT n (h n (List.mem_of_getElem? e)) c1 c2 x (List.mem_filter.mp z).1
      · exact h x hx
theorem come_least {b : List Ent} {g : Str → Bool} {ns : List Str} {T : Str → Prop} (h0 : ∀ x ∈ ns, T x) (hT : ∀ n, T n → isL b n = true → g n = true → ∀ m ∈ memsOf b n, T m) : ∀ x ∈ come b g ns, T x := comeRun_least hT _ _ _ h0
theorem comeStep_pre (b : List Ent) (g : Str → Bool) (line : List Str) (n : Str) : ∃ more, comeStep b g line n = line ++ more := by
  unfold comeStep
  split
  · exact ⟨_, rfl⟩
  · exact ⟨[], (List.append_nil _).symm⟩
theorem comeRun_pre (b : List Ent) (g : Str → Bool) : ∀ (f a : Nat) (line : List Str), ∃ more, comeRun b g f line a = line ++ more
  | 0, _, line => ⟨[], (List.append_nil _).symm⟩
  | f + 1, a, line => by
    rw [comeRun]
    cases line[a]? with
    | none => exact ⟨[], (List.append_nil _).symm⟩
    | some n =>
      obtain ⟨m1, e1⟩ := comeStep_pre b g line n
      obtain ⟨m2, e2⟩ := comeRun_pre b g f (a + 1) (comeStep b g line n)
      exact ⟨m1 ++ m2, by
        show comeRun b g f (comeStep b g line n) (a + 1) = _
        rw [e2, e1, List.append_assoc]⟩
/-- what stands ahead of the place a is closed in the line -/
def Done (b : List Ent) (g : Str → Bool) (line : List Str) (a : Nat) : Prop := ∀ (i : Nat) (n : Str), i < a → line[i]? = some n → isL b n = true → g n = true → ∀ m ∈ memsOf b n, m ∈ line
theorem comeRun_done {b : List Ent} {g : Str → Bool} {ns : List Str} (hb : Bk b) : ∀ (f a : Nat) (line : List Str), Line b ns line → a ≤ line.length → (uni b ns).length + 1 ≤ f + a → Done b g line a → Done b g (comeRun b g f line a) (comeRun b g f line a).length
  | 0, a, line, hl, ha, hf, _ => by
    have := hl.len
    omega
  | f + 1, a, line, hl, ha, hf, hd => by
    rw [comeRun]
    cases e : line[a]? with
    | none =>
      have hle := List.getElem?_eq_none_iff.mp e
      exact fun i n (hi : i < line.length) => hd i n (by omega)
    | some n =>
      have hlt : a < line.length := (List.getElem?_eq_some_iff.mp e).1
      have hsl := comeStep_len b g line n
      refine comeRun_done hb f (a + 1) _ (hl.step hb n) (by omega) (by omega) fun i x hi hx h1 h2 m hm => ?_
      obtain ⟨more, em⟩ := comeStep_pre b g line n
      have hx2 : line[i]? = some x := by
        rw [em, List.getElem?_append_left (by omega)] at hx
        exact hx
      by_cases q : i = a
      · subst q
        rw [e] at hx2
        cases hx2
        unfold comeStep
        rw [if_pos (by rw [h1, h2]; rfl)]
        by_cases z : m ∈ line
        · exact List.mem_append_left _ z
        · exact List.mem_append_right _ (List.mem_filter.mpr ⟨hm, by rw [decide_eq_false z]; rfl⟩)
      · rw [em]
        exact List.mem_append_left _ (hd i x (by omega) hx2 h1 h2 m hm)
theorem come_closed {b : List Ent} {g : Str → Bool} {ns : List Str} (hb : Bk b) (hn : ns.Nodup) {n m : Str} (h : n ∈ come b g ns) (h1 : isL b n = true) (h2 : g n = true) (hm : m ∈ memsOf b n) : m ∈ come b g ns := by
  obtain ⟨i, hi⟩ := List.mem_iff_getElem?.mp h
  exact comeRun_done hb _ _ _ ⟨hn, fun x hx => List.mem_append_left _ hx⟩ (Nat.zero_le _) (by omega) (fun i n hi => absurd hi (by omega)) i n (List.getElem?_eq_some_iff.mp hi).1 hi h1 h2 m hm
theorem come_names {b : List Ent} {g : Str → Bool} {ns : List Str} {n : Str} (h : n ∈ ns) : n ∈ come b g ns := by
  obtain ⟨more, e⟩ := comeRun_pre b g ((uni b ns).length + 1) 0 ns
  unfold come
  rw [e]
  exact List.mem_append_left _ h

/-! ### the law's rounds: least -/
theorem metRound_least {b : List Ent} {passed : List Str} {p : Str} {T : Str → Prop} (hT : ∀ e ∈ b, T e.nm → e.nm ∈ passed → p ∉ e.left → ∀ m ∈ e.mem, T m) : ∀ (l : List Ent) (met : List Str), (∀ e ∈ l, e ∈ b) → (∀ x ∈ met, T x) → ∀ x ∈ l.foldl (metStep passed p) met, T x
  | [], _, _, h => h
  | e :: l, met, hl, h => metRound_least hT l _ (fun x hx => hl x (List.mem_cons_of_mem _ hx)) fun x hx => by
    unfold metStep at hx
    split at hx
    · rename_i c
      obtain ⟨c1, c2⟩ := Bool.and_eq_true_iff.mp c
      obtain ⟨c2, c3⟩ := Bool.and_eq_true_iff.mp c2
      rcases List.mem_append.mp hx with z | z
      · exact h x z
      · refine hT e (hl e List.mem_cons_self) (h _ (of_decide_eq_true c1)) (of_decide_eq_true c2) (fun q => ?_) x (List.mem_filter.mp z).1
        rw [decide_eq_true q] at c3
        cases c3
    · exact h x hx
theorem metRun_least {b : List Ent} {passed : List Str} {p : Str} {T : Str → Prop} (hT : ∀ e ∈ b, T e.nm → e.nm ∈ passed → p ∉ e.left → ∀ m ∈ e.mem, T m) : ∀ (f : Nat) (met : List Str) (many : Int), (∀ x ∈ met, T x) → ∀ x ∈ metRun b passed p f met many, T x
  | 0, _, _, h => h
  | f + 1, met, many, h => by
    rw [metRun]
    split
    · exact metRun_least hT f _ _ (metRound_least hT b met (fun _ z => z) h)
    · exact h
theorem metM_least {b : List Ent} {ns passed : List Str} {p : Str} {T : Str → Prop} (h0 : ∀ x ∈ ns, T x) (hT : ∀ e ∈ b, T e.nm → e.nm ∈ passed → p ∉ e.left → ∀ m ∈ e.mem, T m) : ∀ x ∈ metM b ns passed p, T x := metRun_least hT _ _ _ h0

/-! ### the law's rounds: closed -/
theorem metStep_pre (passed : List Str) (p : Str) (met : List Str) (e : Ent) : ∃ more, metStep passed p met e = met ++ more := by
  unfold metStep
  split
  · exact ⟨_, rfl⟩
  · exact ⟨[], (List.append_nil _).symm⟩
theorem metRound_pre (passed : List Str) (p : Str) : ∀ (l : List Ent) (met : List Str), ∃ more, l.foldl (metStep passed p) met = met ++ more
  | [], met => ⟨[], (List.append_nil _).symm⟩
  | e :: l, met => by
    obtain ⟨m1, e1⟩ := metStep_pre passed p met e
    obtain ⟨m2, e2⟩ := metRound_pre passed p l (metStep passed p met e)
    exact ⟨m1 ++ m2, by rw [List.foldl_cons, e2, e1, List.append_assoc]⟩
theorem met_still {passed : List Str} {p : Str} : ∀ (l : List Ent) (met : List Str), (l.foldl (metStep passed p) met).length = met.length → ∀ e ∈ l, e.nm ∈ met → e.nm ∈ passed → p ∉ e.left → ∀ m ∈ e.mem, m ∈ met
  | [], _, _, _, he, _, _, _ => by cases he
  | x :: l, met, h, e, he, h1, h2, h3 => by
    obtain ⟨m1, e1⟩ := metStep_pre passed p met x
    obtain ⟨m2, e2⟩ := metRound_pre passed p l (metStep passed p met x)
    have hl : m1 = [] ∧ m2 = [] := by
      rw [List.foldl_cons, e2, e1, List.length_append, List.length_append] at h
      exact ⟨List.eq_nil_of_length_eq_zero (by omega), List.eq_nil_of_length_eq_zero (by omega)⟩
    have e3 : metStep passed p met x = met := by rw [e1, hl.1, List.append_nil]
    rcases List.mem_cons.mp he with rfl | he
    · intro m hm
      refine Decidable.byContradiction fun z => ?_
      have c : (decide (e.nm ∈ met) && (decide (e.nm ∈ passed) && !decide (p ∈ e.left))) = true := by rw [decide_eq_true h1, decide_eq_true h2, decide_eq_false h3]; rfl
      have : m ∈ metStep passed p met e := by
        unfold metStep
        rw [if_pos c]
        exact List.mem_append_right _ (List.mem_filter.mpr ⟨hm, by rw [decide_eq_false z]; rfl⟩)
      rw [e3] at this
      exact z this
    · exact met_still l met (by rw [List.foldl_cons, e3] at h; exact h) e he h1 h2 h3
theorem metRun_closed {b : List Ent} {ns passed : List Str} {p : Str} (hb : Bk b) : ∀ (f : Nat) (met : List Str) (many : Int), Line b ns met → ((uni b ns).length : Int) + 1 ≤ (f : Int) + many → (many < (met.length : Int) ∨ ∀ e ∈ b, e.nm ∈ met → e.nm ∈ passed → p ∉ e.left → ∀ m ∈ e.mem, m ∈ met) →
    ∀ e ∈ b, e.nm ∈ metRun b passed p f met many → e.nm ∈ passed → p ∉ e.left → ∀ m ∈ e.mem, m ∈ metRun b passed p f met many
  | 0, met, many, hl, hf, h => by
    have := hl.len
    rcases h with h | h
    · omega
    · exact h
  | f + 1, met, many, hl, hf, h => by
    rw [metRun]
    split
    · rename_i c
      have lr := Line.round (passed := passed) (p := p) hb b met (fun _ z => z) hl
      refine metRun_closed hb f _ _ lr (by omega) ?_
      obtain ⟨more, em⟩ := metRound_pre passed p b met
      by_cases z : more = []
      · rw [z, List.append_nil] at em
        refine .inr ?_
        show ∀ e ∈ b, e.nm ∈ b.foldl (metStep passed p) met → _
        rw [em]
        intro e he h1 h2 h3 m hm
        have y := met_still b met (by rw [em]) e he h1 h2 h3 m hm
        show m ∈ b.foldl (metStep passed p) met
        rw [em]
        exact y
      · refine .inl ?_
        show ((met.length : Int)) < ((b.foldl (metStep passed p) met).length : Int)
        rw [em, List.length_append]
        have := List.length_pos_iff.mpr z
        omega
    · rename_i c
      rcases h with h | h
      · exact absurd h c
      · exact h
theorem metM_closed {b : List Ent} {ns passed : List Str} {p : Str} (hb : Bk b) (hn : ns.Nodup) : ∀ e ∈ b, e.nm ∈ metM b ns passed p → e.nm ∈ passed → p ∉ e.left → ∀ m ∈ e.mem, m ∈ metM b ns passed p :=
  metRun_closed hb _ _ _ ⟨hn, fun x hx => List.mem_append_left _ hx⟩ (by omega) (.inl (by omega))

/-! ### the program's reached, the law's: one -/
theorem nm_inj : ∀ {b : List Ent}, (b.map Ent.nm).Nodup → ∀ {e f : Ent}, e ∈ b → f ∈ b → e.nm = f.nm → e = f
  | [], _, _, _, he, _, _ => by cases he
  | x :: b, hn, e, f, he, hf, h => by
    rw [List.map_cons, List.nodup_cons] at hn
    rcases List.mem_cons.mp he with h1 | h1
    · rcases List.mem_cons.mp hf with h2 | h2
      · rw [h1, h2]
      · exact absurd (by rw [← h1, h]; exact List.mem_map_of_mem h2) hn.1
    · rcases List.mem_cons.mp hf with h2 | h2
      · exact absurd (by rw [← h2, ← h]; exact List.mem_map_of_mem h1) hn.1
      · exact nm_inj hn.2 h1 h2 h
theorem isL_iff {b : List Ent} {n : Str} : isL b n = true ↔ n ∈ listsM b := by
  unfold isL listsM
  rw [List.any_eq_true, List.mem_map]
  exact ⟨fun ⟨e, h1, h2⟩ => ⟨e, h1, of_decide_eq_true h2⟩, fun ⟨e, h1, h2⟩ => ⟨e, h1, decide_eq_true h2⟩⟩
theorem find_self {b : List Ent} (hb : Bk b) {e : Ent} (he : e ∈ b) : b.find? (fun x => decide (x.nm = e.nm)) = some e := by
  obtain ⟨f, h1, h2, h3⟩ := isL_find (b := b) (n := e.nm) (isL_iff.mpr (List.mem_map_of_mem he))
  rw [h1, nm_inj hb.nd h2 he h3]
theorem mems_self {b : List Ent} (hb : Bk b) {e : Ent} (he : e ∈ b) : memsOf b e.nm = e.mem := by
  unfold memsOf
  rw [find_self hb he]
theorem left_self {b : List Ent} (hb : Bk b) {e : Ent} (he : e ∈ b) : leftOf b e.nm = e.left := by
  unfold leftOf
  rw [find_self hb he]
theorem metRun_pre (b : List Ent) (passed : List Str) (p : Str) : ∀ (f : Nat) (met : List Str) (many : Int), ∃ more, metRun b passed p f met many = met ++ more
  | 0, met, _ => ⟨[], (List.append_nil _).symm⟩
  | f + 1, met, many => by
    rw [metRun]
    split
    · obtain ⟨m1, e1⟩ := metRound_pre passed p b met
      obtain ⟨m2, e2⟩ := metRun_pre b passed p f (metRound b passed p met) (met.length : Int)
      refine ⟨m1 ++ m2, ?_⟩
      rw [e2]
      show b.foldl (metStep passed p) met ++ m2 = _
      rw [e1, List.append_assoc]
    · exact ⟨[], (List.append_nil _).symm⟩
theorem met_names {b : List Ent} {ns passed : List Str} {p n : Str} (h : n ∈ ns) : n ∈ metM b ns passed p := by
  obtain ⟨more, e⟩ := metRun_pre b passed p ((uni b ns).length + 2) ns (-1)
  unfold metM
  rw [e]
  exact List.mem_append_left _ h
theorem metRun_line {b : List Ent} {ns passed : List Str} {p : Str} (hb : Bk b) : ∀ (f : Nat) (met : List Str) (many : Int), Line b ns met → Line b ns (metRun b passed p f met many)
  | 0, _, _, h => h
  | f + 1, met, many, h => by
    rw [metRun]
    split
    · exact metRun_line hb f _ _ (Line.round hb b met (fun _ z => z) h)
    · exact h
theorem metM_line {b : List Ent} {ns passed : List Str} {p : Str} (hb : Bk b) (hn : ns.Nodup) : Line b ns (metM b ns passed p) := metRun_line hb _ _ _ ⟨hn, fun x hx => List.mem_append_left _ hx⟩
theorem met_come {b : List Ent} {g : Str → Bool} {ns P : List Str} {p x : Str} (hb : Bk b) (hn : ns.Nodup) (hg : ∀ n, isL b n = true → (g n = true ↔ (n ∈ P ∧ p ∉ leftOf b n))) : x ∈ come b g ns ↔ x ∈ metM b ns P p := by
  constructor
  · refine come_least (T := fun x => x ∈ metM b ns P p) (fun x hx => met_names hx) (fun n hm hl hgn m hmm => ?_) x
    obtain ⟨e, f1, f2, f3⟩ := isL_find hl
    subst f3
    rw [mems_self hb f2] at hmm
    have z := (hg _ hl).mp hgn
    rw [left_self hb f2] at z
    exact metM_closed hb hn e f2 hm z.1 z.2 m hmm
  · refine metM_least (T := fun x => x ∈ come b g ns) (fun x hx => come_names hx) (fun e he hc hp hl m hm => ?_) x
    have hL : isL b e.nm = true := isL_iff.mpr (List.mem_map_of_mem he)
    exact come_closed hb hn hc hL ((hg _ hL).mpr ⟨hp, by rw [left_self hb he]; exact hl⟩) (by rw [mems_self hb he]; exact hm)
theorem mem_allFold {x : Str} : ∀ (l : List Ent) (f : List Str), (x ∈ f ∨ ∃ e ∈ l, x ∈ e.mem) → x ∈ l.foldl allStep f
  | [], f, h => h.elim id fun ⟨_, h, _⟩ => by cases h
  | e :: l, f, h => by
    rw [List.foldl_cons]
    refine mem_allFold l _ ?_
    unfold allStep
    rcases h with h | ⟨e2, h1, h2⟩
    · exact .inl (List.mem_append_left _ h)
    · rcases List.mem_cons.mp h1 with rfl | h1
      · refine .inl ?_
        by_cases z : x ∈ f
        · exact List.mem_append_left _ z
        · exact List.mem_append_right _ (List.mem_filter.mpr ⟨h2, by rw [decide_eq_false z]; rfl⟩)
      · exact .inr ⟨e2, h1, h2⟩
theorem reached_eq {b : List Ent} {g : Str → Bool} {ns P : List Str} (hb : Bk b) (hn : ns.Nodup) (hP : ∀ n, isL b n = true → (g n = true ↔ n ∈ P)) : reachedM b g ns = lawReachedM b ns P := by
  have hG : ∀ p n, isL b n = true → (goesM b g p n = true ↔ (n ∈ P ∧ p ∉ leftOf b n)) := fun p n hl => by
    unfold goesM
    rw [Bool.and_eq_true, hP n hl, Bool.not_eq_true', decide_eq_false_iff_not]
  unfold reachedM lawReachedM
  refine sortN_eq ((List.perm_ext_iff_of_nodup ?_ ?_).mpr fun p => ?_)
  · exact ((come_line g hb hn).nd.filter _).filter _
  · unfold allM
    exact ((allM_line hb hn).nd.filter _).filter _
  · rw [List.mem_filter, List.mem_filter]
    unfold allM
    rw [List.mem_filter, List.mem_filter, decide_eq_true_eq, decide_eq_true_eq, met_come (P := P) (p := p) hb hn (hG p)]
    constructor
    · rintro ⟨⟨h1, h2⟩, h3⟩
      refine ⟨⟨mem_allFold b ns ?_, ?_⟩, h3⟩
      · rcases List.mem_append.mp ((come_line g hb hn).sub p h1) with z | z
        · exact .inl z
        · obtain ⟨e, he, hm⟩ := List.mem_flatMap.mp z
          exact .inr ⟨e, he, hm⟩
      · rw [Bool.not_eq_true', decide_eq_false_iff_not]
        intro z
        rw [isL_iff.mpr z] at h2
        cases h2
    · rintro ⟨⟨h1, h2⟩, h3⟩
      refine ⟨⟨?_, ?_⟩, h3⟩
      · have z := (met_come (P := P) (p := p) hb hn (hG p)).mpr h3
        refine come_least (T := fun x => x ∈ come b g ns) (fun x hx => come_names hx) (fun n hm hl hgn m hmm => ?_) p z
        unfold goesM at hgn
        exact come_closed hb hn hm hl (Bool.and_eq_true_iff.mp hgn).1 hmm
      · rw [Bool.not_eq_true', decide_eq_false_iff_not] at h2
        cases q : isL b p with
        | false => rfl
        | true => exact absurd (isL_iff.mp q) h2

/-! ### the law's own gates -/
def lawOpen (b : List Ent) (s : Str) (e : Ent) : Bool := match e.gate with
  | none => true
  | some g => (decide (g = s) && !decide (g ∈ listsM b)) || (decide (g ∈ listsM b) && decide (s ∈ lawReachedM b [g] (listsM b)))
def lawPassM (b : List Ent) (s : Str) : List Str := (b.filter (lawOpen b s)).map Ent.nm
theorem reach_one {b : List Ent} (hb : Bk b) (n : Str) : reachedM b (fun _ => true) [n] = lawReachedM b [n] (listsM b) := reached_eq hb (by simp) fun m hm => ⟨fun _ => isL_iff.mp hm, fun _ => rfl⟩
theorem open_eq {b : List Ent} (hb : Bk b) (s : Str) (e : Ent) : openM b s e = lawOpen b s e := by
  unfold openM lawOpen
  cases e.gate with
  | none => rfl
  | some g =>
    show (if isL b g = true then _ else _) = ((decide (g = s) && !decide (g ∈ listsM b)) || (decide (g ∈ listsM b) && decide (s ∈ lawReachedM b [g] (listsM b))))
    rw [reach_one hb]
    by_cases h : isL b g = true
    · rw [if_pos h, decide_eq_true (isL_iff.mp h)]
      simp
    · rw [if_neg h, decide_eq_false fun z => h (isL_iff.mpr z)]
      simp
theorem gM_pass {b : List Ent} (hb : Bk b) (s : Str) : ∀ n, isL b n = true → (gM b s n = true ↔ n ∈ lawPassM b s) := fun n hn => by
  obtain ⟨e, h1, h2, h3⟩ := isL_find hn
  have e1 : gM b s n = lawOpen b s e := by
    unfold gM
    rw [h1]
    exact open_eq hb s e
  rw [e1]
  unfold lawPassM
  rw [List.mem_map]
  constructor
  · exact fun h => ⟨e, List.mem_filter.mpr ⟨h2, h⟩, h3⟩
  · rintro ⟨f, hf, h4⟩
    obtain ⟨f1, f2⟩ := List.mem_filter.mp hf
    rw [nm_inj hb.nd h2 f1 (h3.trans h4.symm)]
    exact f2
def aLawPassed (xs : List D) (r : DS) : Prop := ∃ (b : List Ent) (s : Str), xs = [bkD b, .str s] ∧ Bk b ∧ (b.flatMap Ent.mem).length ≤ 80000 ∧ r = .own ((lawPassM b s).map .str)
abbrev nLawPassed : List Str := ["_law_book_here", "_law_sender", "_law_lists_here", "_law_found", "_law_name", "_law_members", "_law_left", "_law_gate"]
theorem scLawPassed : FnScope nLawPassed ["_law_book_here", "_law_sender"] (defScope S_law_passed) := ⟨rfl, rfl, rfl, by decide +kernel, rfl, by decide +kernel, by decide +kernel⟩
theorem ok_lawpassed {G : Glb} (Z : Facts G) : CallD G 5 "_law_passed" ["_law_book_here", "_law_sender"] false aLawPassed := by
  refine ⟨?_, Z.g_law_passed, Z.n_law_passed, Z.f_law_passed.kp⟩
  refine okD (N := nLawPassed) Z.f_law_passed scLawPassed (fun xs r ⟨_, _, e, _⟩ => by rw [e]; rfl) fun cdv Ar outer s H E hr xs r ⟨b, se, e, hb, hU, er⟩ => ?_
  subst e er
  have hble := hb.le
  refine dss_cons (ds_p2 2 3 (s1 := .im (.lst ((listsM b).map .str))) (de_own (dv_c (ok_lawlists Z) hr (da_cons (de_var 0 rfl) da_nil) ⟨b, rfl, hble, rfl⟩)) (dv_lst da_nil (by decide)) ?_ scLawPassed.nd)
  refine dss_cons (ds_forE (e := Ent.d) (xs := b) [4, 5, 6, 7] (fun i => [.im (bkD b), .im (.str se), .im (.lst ((listsM b).map .str)), .own ((((b.take i).filter (lawOpen b se)).map Ent.nm).map .str), .no, .no, .no, .no])
      (fun e ds1 => (((ds1.set 4 (.im (.str e.nm))).set 5 (.im (.lst (e.mem.map .str)))).set 6 (.im (.lst (e.left.map .str)))).set 7 (.im (gD e.gate))) rfl (di_list (de_var 0 rfl)) (fun e _ ds1 => dg_tup (dgs_cons (dg_name 4 scLawPassed.nd) (dgs_cons (dg_name 5 scLawPassed.nd) (dgs_cons (dg_name 6 scLawPassed.nd) (dgs_cons (dg_name 7 scLawPassed.nd) dgs_nil))))) (fun i a ha => ?_) ?_ PassesOwn.never)
  · have hm : a ∈ b := List.mem_of_getElem? ha
    have ho := hb.ok a hm
    have hl : ((((b.take i).filter (lawOpen b se)).map Ent.nm).map D.str).length < 100000 := by
      rw [List.length_map, List.length_map]
      have := List.length_filter_le (lawOpen b se) (b.take i)
      rw [List.length_take] at this
      omega
    have fin : ∀ c, lawOpen b se a = c → ((((b.take (i + 1)).filter (lawOpen b se)).map Ent.nm).map D.str) = if c = true then (((b.take i).filter (lawOpen b se)).map Ent.nm).map D.str ++ [D.str a.nm] else (((b.take i).filter (lawOpen b se)).map Ent.nm).map D.str := fun c hc => by
      rw [take_snoc ha, List.filter_append, List.filter_cons, hc]
      cases c with
      | true => rw [if_pos rfl, if_pos rfl, List.map_append, List.map_append]; rfl
      | false => rw [if_neg Bool.false_ne_true, if_neg Bool.false_ne_true, List.filter_nil, List.append_nil]
    cases hg : a.gate with
    | none =>
      have ho1 : lawOpen b se a = true := by unfold lawOpen; rw [hg]
      refine dss_one (ds_if (x := true) (dt_is (dt_w (dw_or (x := true) (y := false) (dt_is (dt_isN (d := gD a.gate) (dv_is (de_var 7 rfl) (by rw [hg])) (isN_g a.gate)) (by rw [hg]; rfl)) fun h => by cases h)) rfl) (fun _ => ?_) (fun h => by cases h))
      refine dss_one (ds_append 3 rfl (de_var 4 rfl) hl ?_)
      show _ = _
      rw [fin true ho1, if_pos rfl]
      rfl
    | some g =>
      have hgn := ho.gate g hg
      have eo : lawOpen b se a = ((decide (g = se) && !decide (g ∈ listsM b)) || (decide (g ∈ listsM b) && decide (se ∈ lawReachedM b [g] (listsM b)))) := by unfold lawOpen; rw [hg]
      refine dss_one (ds_if (x := decide (g = se) && !decide (g ∈ listsM b)) (dt_is (dt_w (dw_or (x := false) (y := decide (g = se) && !decide (g ∈ listsM b)) (dt_is (dt_isN (d := gD a.gate) (dv_is (de_var 7 rfl) (by rw [hg])) (isN_g a.gate)) (by rw [hg]; rfl)) fun _ => dw_or1 (dt_w (dw_and (dt_eqS (de_var 7 rfl) (de_var 1 rfl)) fun _ => dw_and1 (dt_niS (de_var 7 rfl) (de_var 2 rfl)))))) (Bool.false_or _)) (fun hc => ?_) (fun hc => ?_))
      · rw [hc, Bool.true_or] at eo
        refine dss_one (ds_append 3 rfl (de_var 4 rfl) hl ?_)
        show _ = _
        rw [fin true eo, if_pos rfl]
        rfl
      · rw [hc, Bool.false_or] at eo
        refine dss_one (ds_if (dt_w (dw_and (dt_inS (de_var 7 rfl) (de_var 2 rfl)) fun _ => dw_and1 (dt_inS (de_var 1 rfl) (de_own (dv_c (ok_lawreached Z) hr (da_cons (de_var 0 rfl) (da_cons (de_own (dv_lst (da_cons (de_var 7 rfl) da_nil) (by show 1 ≤ 100000; decide))) (da_cons (de_var 2 rfl) da_nil))) ⟨b, [g], listsM b, rfl, hb, by simp, uni_le hU (by show 1 ≤ _; omega), uni_short hb (fun x hx => by rw [List.mem_singleton.mp hx]; exact hgn), rfl⟩))))) (fun hd => ?_) (fun hd => ?_))
        · rw [hd] at eo
          refine dss_one (ds_append 3 rfl (de_var 4 rfl) hl ?_)
          show _ = _
          rw [fin true eo, if_pos rfl]
          rfl
        · rw [hd] at eo
          refine dss_nil ?_
          show _ = _
          rw [fin false eo, if_neg Bool.false_ne_true]
          rfl
  · rw [List.take_length]
    exact dss_one (ds_retOwn 3 rfl (.inl rfl))

/-! ### the ranks of a way, as a key -/
def ranksD (w : List Str) : PyData := .list (w.map rankD)
theorem lawrank_new {G : Glb} (Z : Facts G) (A : Around) (outer : List Env) (s : Shared) (H : Hp) (x : Str) (t : Tok) (hr : Room 1 A) (hx : x.length ≤ 100000) (e0 : Env0 G.P G.w G.K G.mg G.base A outer s H) (E2 : Value → Shared → Prop) :
    wpAny (model G.P G.w) A (call (.ref (He.ga G.K "_law_rank")) [.str x t]) (fun y z => (∃ P vs, y = .ref P ∧ s.heap.get? P = none ∧ z.heap.IsTuple P vs ∧ ∃ t1 t2, vs.toList = [.int (x.length : Int) t1, .str x t2]) ∧ Keeps s z) E2 s := by
  obtain ⟨oc, od, dV, kV, doc, pm, an, cdv, ct, osl, e1, lk, hcd, _, _⟩ := Z.f_law_rank.ex
  have KX : G.K.In s.heap := e0.mod.kin.keeps fun b o e => (e0.bs b o e).1
  have lim : s.heap.NoLimit := e0.mod.nolimit.keeps fun b o e => (e0.bs b o e).1
  have hb := Z.n_law_rank s [.str x t] KX rfl
  rw [e1] at hb lk
  have S := scLawRank
  have hkind : ∀ y ∈ (["_law_name"] : List Str).zip [Value.str x t], (defScope S_law_rank).names.lookup y.1 = some .local ∨ ((defScope S_law_rank).names.lookup y.1 = some .cell ∧ ((cellsFrom (s.heap.objs.size + 1) (defScope S_law_rank).names []).lookup y.1).isSome = true) := fun ⟨n, v⟩ hy => by
    rcases S.par n (List.of_mem_zip hy).1 with q | q
    · exact .inl q
    · exact .inr ⟨q, PySem.W.cellsFrom_some _ _ _ (.inl q)⟩
  refine wpAny_mono (Q := fun y z => (∃ P vs, y = .ref P ∧ s.heap.get? P = none ∧ z.heap.IsTuple P vs ∧ ∃ t1 t2, vs.toList = [.int (x.length : Int) t1, .str x t2]) ∧ Keeps s z) (E := fun _ _ => False) ?_ (fun _ _ q => q) fun _ _ q => q.elim
  refine wpAny_call (codeAny_call_function hr.depth (KX _ _ lk) rfl S.co S.gen rfl (PySem.W.codeRec_of KX hcd) (hb _ _ _ _ ?_))
  refine wpAny_newFunctionEnv_cells S.kind hkind fun env he s1 xx => ?_
  subst he
  refine ⟨lim.keeps xx.toInCall.keep, codeAny_func ?_⟩
  have I : L2.Inv (cxOf CX0 G.P G.w G.K G.mg G.base ["_law_name"] "_law_rank" (defScope S_law_rank) (He.ga G.K "_law_rank") cdv A outer s H E0) [] (L2.start ["_law_name"] [.str x]) H s1 := inv_start S hr.hd e0 rfl (.cons ⟨t, rfl⟩ .nil) xx
  obtain ⟨h1, tk, rfl, hk⟩ := xx.toInCall.done
  have nm : ∀ (s2 : Shared) (pos : Pos) (Q : Value → Shared → Prop) (E : Value → Shared → Prop) (A2 : Around), L2.Inv (cxOf CX0 G.P G.w G.K G.mg G.base ["_law_name"] "_law_rank" (defScope S_law_rank) (He.ga G.K "_law_rank") cdv A outer s H E0) [] (L2.start ["_law_name"] [.str x]) H s2 → (∀ t, Q (.str x t) s2) →
      wpAny (model G.P G.w) A2 (eval (.Name "_law_name" pos) (envOfC "_law_rank" (defScope S_law_rank) s.heap.objs.size (He.ga G.K "_law_rank") cdv)) Q E s2 := fun s2 pos Q E A2 J q => by
    obtain ⟨m, hn, hl⟩ := J.loc
    obtain ⟨u, r, l⟩ := hl 0 "_law_name" (.str x) rfl rfl (Or.inl rfl)
    obtain ⟨t2, rfl⟩ := (show ∃ t, u = Value.str x t from r)
    rcases l with ⟨hk, hm⟩ | ⟨hk, c, hc, hcell⟩
    · exact wpAny_Name (wpAny_loadName_local J.ok.kind hk hn hm (q t2)) (by decide)
    · rcases hk with z | z
      · exact absurd (show (defScope S_law_rank).names.lookup ("_law_name" : Str) = some NameKind.cell from z) (by decide +kernel)
      · exact absurd (show (defScope S_law_rank).names.lookup ("_law_name" : Str) = some NameKind.free from z) (by decide +kernel)
  refine wpAny_execs_cons (wpAny_Return_some (wpAny_Tuple_spliced ?_))
  refine Calls.spliced_cons ?_
  refine wpAny_Call_Name_kw (ld_blt I rfl Z.b_len rfl ?_)
  refine PyProof.Rows.callWith_kw (Calls.spliced_cons (nm _ _ _ _ _ I fun t2 => Calls.spliced_nil ?_)) rfl rfl rfl rfl
  refine wpAny_evalAll_nil ?_
  refine PySem.P.len_str (fun z => by have z2 : (9223372036854775808 : Int) ≤ (x.length : Int) := z; omega) ?_
  refine Calls.spliced_cons (nm _ _ _ _ _ (I.tok _) fun t3 => Calls.spliced_nil ?_)
  refine ⟨(by decide : 2 ≤ sizeLine), ?_⟩
  refine ⟨⟨h1.objs.size, _, rfl, ?_, ⟨_, Heap.get?_push_size _ rfl, rfl, _, rfl⟩, _, _, rfl⟩, _, _, rfl, fun b o e => Heap.get?_push_of_some _ (hk b o e)⟩
  cases q : s.heap.get? h1.objs.size with
  | none => rfl
  | some o =>
    exact absurd (Heap.lt_size (hk _ _ q)) (Nat.lt_irrefl _)
theorem scLawRanks : FnScope ["_law_way", "_law_name"] ["_law_way"] (defScope S_law_ranks) := ⟨rfl, rfl, rfl, by decide +kernel, rfl, by decide +kernel, by decide +kernel⟩
/-- the items of the list, read -/
theorem ranks_read {g : Heap} : ∀ {us : List Value} {ns : List Str} {ys : List Value}, Vals (ns.map V.str) us → Paired (TupIs (fun v vs => ∃ x t t1 t2, v = .str x t ∧ vs.toList = [.int (x.length : Int) t1, .str x t2]) g) us ys → PySem.ReadsAll g ys (ns.map rankD) []
  | [], [], _, _, .nil => .nil
  | [], _ :: _, _, h, _ => nomatch h
  | _ :: _, [], _, h, _ => nomatch h
  | u :: us, n :: ns, _, .cons a b, .cons c d => by
    obtain ⟨P, vs, rfl, ⟨o, o1, o2, n2, o3⟩, x, t, t1, t2, e1, e2⟩ := c
    obtain ⟨t0, e0⟩ := (show ∃ t, u = Value.str n t from a)
    rw [e0] at e1
    cases e1
    have r : PySem.Reads g (.ref P) (rankD n) [] := by
      refine .tuple o1 o2 o3 (xs := [.int (n.length : Int), .str n]) (as := []) ?_
      rw [e2]
      exact .cons (as := []) (bs := []) (.int _ _) (.cons (as := []) (bs := []) (.str _ _) .nil)
    exact .cons (as := []) (bs := []) r (ranks_read b d)
theorem names_of : ∀ {us : List Value} {ns : List Str} {v : Value}, PySem.W.EachIs (fun v x => ∃ t, v = Value.str x t) us ns → v ∈ us → ∃ n ∈ ns, ∃ t, v = Value.str n t
  | _, _, _, .nil, h => by cases h
  | _, _, _, .cons a b, h => by
    rcases List.mem_cons.mp h with rfl | h
    · exact ⟨_, List.mem_cons_self, a⟩
    · obtain ⟨n, h1, h2⟩ := names_of b h
      exact ⟨n, List.mem_cons_of_mem _ h1, h2⟩
theorem ok_lawranks {G : Glb} (Z : Facts G) : PureKeyR G (He.ga G.K "_law_ranks") wayD ranksD (fun w => ∀ n ∈ w, n.length ≤ 100000) := by
  refine ⟨fun A outer s I0 H v u w hr hx e0 rd rep rv => ?_⟩
  obtain ⟨oc, od, dV, kV, doc, pm, an, cdv, ct, osl, e1, lk, hcd, _, _⟩ := Z.f_law_ranks.ex
  have KX : G.K.In s.heap := e0.mod.kin.keeps fun b o e => (e0.bs b o e).1
  have lim : s.heap.NoLimit := e0.mod.nolimit.keeps fun b o e => (e0.bs b o e).1
  have hb := Z.n_law_ranks s [u] KX rfl
  rw [e1] at hb lk
  have S := scLawRanks
  have hkind : ∀ y ∈ (["_law_way"] : List Str).zip [u], (defScope S_law_ranks).names.lookup y.1 = some .local ∨ ((defScope S_law_ranks).names.lookup y.1 = some .cell ∧ ((cellsFrom (s.heap.objs.size + 1) (defScope S_law_ranks).names []).lookup y.1).isSome = true) := fun ⟨n, v⟩ hy => by
    rcases S.par n (List.of_mem_zip hy).1 with q | q
    · exact .inl q
    · exact .inr ⟨q, PySem.W.cellsFrom_some _ _ _ (.inl q)⟩
  cases rep with
  | @lst a vs _ i1 i2 =>
  obtain rfl := i2.strs
  refine wpAny_call (codeAny_call_function hr.depth (KX _ _ lk) rfl S.co S.gen rfl (PySem.W.codeRec_of KX hcd) (hb _ _ _ _ ?_))
  refine wpAny_newFunctionEnv_cells S.kind hkind fun env he s1 xx => ?_
  subst he
  refine ⟨lim.keeps xx.toInCall.keep, codeAny_func ?_⟩
  have I : L2.Inv (cxOf CX0 G.P G.w G.K G.mg G.base ["_law_way", "_law_name"] "_law_ranks" (defScope S_law_ranks) (He.ga G.K "_law_ranks") cdv A outer s H E0) [] (L2.start ["_law_way", "_law_name"] [.ref a]) H s1 := inv_start S hr.hd e0 rfl (.cons rv .nil) xx
  obtain ⟨h1, tk, rfl, hk⟩ := xx.toInCall.done
  obtain ⟨its, vi, hl, hz⟩ := I.list (SqL.of (rd.lst i1))
  rw [List.length_map] at hz
  have izl := vi.length
  rw [List.length_map] at izl
  refine wpAny_execs_cons (wpAny_Return_some (rows_comp (its := its.toArray) (ax := a) (fun v vs => ∃ x t t1 t2, v = .str x t ∧ vs.toList = [.int (x.length : Int) t1, .str x t2]) (I.ok.hd rfl) (by decide +kernel) (by decide +kernel) rfl (by decide +kernel) (by decide +kernel) hl.isList ?_ ?_ ?_ ?_))
  · rw [show its.toArray.size = its.length by simp]
    omega
  · intro Q2 h
    obtain ⟨m, hn, hl2⟩ := I.loc
    obtain ⟨u2, r, l⟩ := hl2 0 "_law_way" (.ref a) rfl rfl (Or.inl rfl)
    cases (show u2 = Value.ref a from r)
    rcases l with ⟨hk2, hm⟩ | ⟨hk2, c, hc, hcell⟩
    · exact wpAny_Name (wpAny_loadName_local I.ok.kind hk2 hn hm h) (by decide)
    · rcases hk2 with z | z
      · exact absurd (show (defScope S_law_ranks).names.lookup ("_law_way" : Str) = some NameKind.cell from z) (by decide +kernel)
      · exact absurd (show (defScope S_law_ranks).names.lookup ("_law_way" : Str) = some NameKind.free from z) (by decide +kernel)
  · intro C v g tk2 m2 E2 hv hn hm k
    have I2 := I.kept (h' := g) (t' := tk2) k
    obtain ⟨n, hn2, t, rfl⟩ : ∃ n ∈ w, ∃ t, v = Value.str n t := by
      have z := vals_each vi
      exact names_of z (by simpa using hv)
    refine wpAny_Call_Name_kw (Calls.Name_function_global rfl (by show List.lookup (Str.ofString "_law_rank") [(Str.ofString ".0", NameKind.local), (Str.ofString "_law_name", NameKind.local), (Str.ofString "_law_rank", NameKind.globalImplicit)] = some .globalImplicit; decide +kernel) (Calls.loadGlobal_global (show Heap.Ns g mainGlobals G.mg from I2.mod.glob.keeps I2.bk) Z.g_law_rank ?_) (by decide))
    obtain ⟨oc2, od2, dV2, kV2, doc2, pm2, an2, cdv2, ct2, osl2, e2, lk2, _, _, _⟩ := Z.f_law_rank.ex
    obtain ⟨o2, fd2, ho2, hd2⟩ : ∃ o fd, g.get? (He.ga G.K "_law_rank") = some o ∧ o.data = .func fd := ⟨_, _, I2.kIn _ _ lk2, rfl⟩
    refine Calls.callWith_function (o := o2) (fd := fd2) (Calls.evalArgs_plain (Calls.spliced_cons ?_))
    refine wpAny_Name (wpAny_loadName_local rfl (by show List.lookup (Str.ofString "_law_name") [(Str.ofString ".0", NameKind.local), (Str.ofString "_law_name", NameKind.local), (Str.ofString "_law_rank", NameKind.globalImplicit)] = some .local; decide +kernel) hn hm ?_) (by decide)
    refine Calls.spliced_nil ⟨⟨ho2, hd2⟩, ?_⟩
    refine wpAny_mono (lawrank_new Z _ _ _ H n t (hr.deeper _) (hx n hn2) I2.env0 E2) (fun y z q => ?_) fun _ _ q => q
    obtain ⟨⟨P, vs, rfl, q1, q2, t1, t2, q3⟩, q4⟩ := q
    exact ⟨⟨P, vs, rfl, q1, q2, n, t, t1, t2, rfl, q3⟩, q4⟩
  · intro D g tk2 ys hD hd hp k
    obtain ⟨o, o1, o2, n2, o3⟩ := hd
    refine ⟨g, tk2, [D], rfl, fun b o e => k b o (hk b o e), .list (xs := w.map rankD) (as := []) o1 o2 o3 (ranks_read vi (by simpa using hp)), fun x hx => ?_⟩
    rw [List.mem_singleton.mp hx]
    cases q : s.heap.get? D with
    | none => rfl
    | some o => rw [hk _ _ q] at hD; cases hD

/-! ### the law's first way -/
def candL (P : List Str) (p : Str) (met : List Str) (e : Ent) (w : List Str) : List (List Str) := if (decide (lastW w = e.nm) && (decide (e.nm ∈ P) && !decide (p ∈ e.left))) = true then (e.mem.filter fun m => !decide (m ∈ met)).map (fun m => w ++ [m]) else []
def longL (b : List Ent) (P : List Str) (p : Str) (met : List Str) (ways : List (List Str)) : List (List Str) := b.flatMap fun e => ways.flatMap (candL P p met e)
def sortW (l : List (List Str)) : List (List Str) := l.mergeSort (PySem.W.dataLe false ranksD)
def keepStep (st : List Str × List (List Str)) (w : List Str) : List Str × List (List Str) := if (!decide (lastW w ∈ st.1)) = true then (st.1 ++ [lastW w], st.2 ++ [w]) else st
def nextL (b : List Ent) (P : List Str) (p : Str) (met : List Str) (ways : List (List Str)) : List Str × List (List Str) := (sortW (longL b P p met ways)).foldl keepStep (met, [])
def firstRun (b : List Ent) (P : List Str) (p : Str) : Nat → List Str → List (List Str) → Option (List Str)
  | 0, _, _ => none
  | f + 1, met, ways => if ways = [] then none else match ways.find? fun w => decide (lastW w = p) with
    | some w => some w
    | none => firstRun b P p f (nextL b P p met ways).1 (nextL b P p met ways).2
def firstM (b : List Ent) (ns P : List Str) (p : Str) : Option (List Str) := firstRun b P p ((uni b ns).length + 2) ns (ways0 ns)
def owD : Option (List Str) → D
  | none => .non
  | some w => wayD w
/-- the ways of a round, the names met -/
structure FLine (b : List Ent) (ns met : List Str) (ways : List (List Str)) : Prop where
  line : Line b ns met
  kn : (keysW ways).Nodup
  ks : ∀ x ∈ keysW ways, x ∈ met
  ok : ∀ w ∈ ways, w ≠ [] ∧ (∀ n ∈ w, n ∈ uni b ns) ∧ w.length ≤ met.length
theorem FLine.len {b : List Ent} {ns met : List Str} {ways : List (List Str)} (h : FLine b ns met ways) : ways.length ≤ met.length := by
  have := nd_sub_len h.kn h.ks
  rwa [List.length_map] at this
theorem cand_mem {P met : List Str} {p : Str} {e : Ent} {w v : List Str} (h : v ∈ candL P p met e w) : ∃ m ∈ e.mem, m ∉ met ∧ v = w ++ [m] := by
  unfold candL at h
  split at h
  · obtain ⟨m, hm, rfl⟩ := List.mem_map.mp h
    obtain ⟨h1, h2⟩ := List.mem_filter.mp hm
    exact ⟨m, h1, by simpa using h2, rfl⟩
  · cases h
theorem cand_len (P met : List Str) (p : Str) (e : Ent) (w : List Str) : (candL P p met e w).length ≤ e.mem.length := by
  unfold candL
  split
  · rw [List.length_map]; exact List.length_filter_le _ _
  · exact Nat.zero_le _
theorem cand_none {P met : List Str} {p : Str} {e : Ent} {w : List Str} (h : lastW w ≠ e.nm) : candL P p met e w = [] := by
  unfold candL
  rw [decide_eq_false h]
  rfl
theorem cands_none {P met : List Str} {p : Str} {e : Ent} : ∀ {ways : List (List Str)}, e.nm ∉ keysW ways → ways.flatMap (candL P p met e) = []
  | [], _ => rfl
  | w :: ways, h => by
    rw [List.flatMap_cons, cand_none fun z => h (by rw [← z]; exact List.mem_cons_self), cands_none fun z => h (List.mem_cons_of_mem _ z)]
    rfl
theorem cands_len {P met : List Str} {p : Str} {e : Ent} : ∀ {ways : List (List Str)}, (keysW ways).Nodup → (ways.flatMap (candL P p met e)).length ≤ e.mem.length
  | [], _ => Nat.zero_le _
  | w :: ways, h => by
    obtain ⟨h1, h2⟩ := List.nodup_cons.mp h
    rw [List.flatMap_cons, List.length_append]
    by_cases z : lastW w = e.nm
    · rw [cands_none (by rw [← z]; exact h1)]
      exact cand_len P met p e w
    · rw [cand_none z]
      have := cands_len (P := P) (met := met) (p := p) (e := e) h2
      show 0 + _ ≤ _
      omega
theorem long_len {P met : List Str} {p : Str} {ways : List (List Str)} (hw : (keysW ways).Nodup) : ∀ b : List Ent, (longL b P p met ways).length ≤ (b.flatMap Ent.mem).length
  | [] => Nat.le_refl _
  | e :: b => by
    have h1 := long_len (P := P) (met := met) (p := p) hw b
    have h2 := cands_len (P := P) (met := met) (p := p) (e := e) hw
    show (ways.flatMap (candL P p met e) ++ longL b P p met ways).length ≤ _
    rw [List.flatMap_cons, List.length_append, List.length_append]
    omega
theorem long_mem {b : List Ent} {P met : List Str} {p : Str} {ways : List (List Str)} {v : List Str} (h : v ∈ longL b P p met ways) : ∃ w ∈ ways, ∃ e ∈ b, ∃ m ∈ e.mem, m ∉ met ∧ v = w ++ [m] := by
  obtain ⟨e, he, h⟩ := List.mem_flatMap.mp h
  obtain ⟨w, hw, h⟩ := List.mem_flatMap.mp h
  obtain ⟨m, h1, h2, h3⟩ := cand_mem h
  exact ⟨w, hw, e, he, m, h1, h2, h3⟩
theorem sortW_perm (l : List (List Str)) : (sortW l).Perm l := List.mergeSort_perm _ _
/-- one more way is kept -/
structure KLine (b : List Ent) (ns met0 : List Str) (st : List Str × List (List Str)) : Prop where
  fl : FLine b ns st.1 st.2
  ln : st.1.length = met0.length + st.2.length
  pre : ∀ x ∈ met0, x ∈ st.1
theorem KLine.step {b : List Ent} {ns met0 : List Str} {st : List Str × List (List Str)} (h : KLine b ns met0 st) {w : List Str} (h1 : w ≠ []) (h2 : ∀ n ∈ w, n ∈ uni b ns) (h3 : w.length ≤ met0.length + 1) : KLine b ns met0 (keepStep st w) := by
  unfold keepStep
  split
  · rename_i c
    have c' : lastW w ∉ st.1 := by simpa using c
    have hl := h.ln
    refine ⟨⟨⟨List.nodup_append.mpr ⟨h.fl.line.nd, List.nodup_cons.mpr ⟨by simp, List.nodup_nil⟩, fun x hx y hy e => c' (by rw [← List.mem_singleton.mp hy, ← e]; exact hx)⟩, fun x hx => ?_⟩, ?_, fun x hx => ?_, fun v hv => ?_⟩, ?_, fun x hx => List.mem_append_left _ (h.pre x hx)⟩
    · rcases List.mem_append.mp hx with z | z
      · exact h.fl.line.sub x z
      · rw [List.mem_singleton.mp z]
        exact h2 _ (List.mem_of_getLast? (lastW_get h1))
    · show ((st.2 ++ [w]).map lastW).Nodup
      rw [List.map_append]
      exact List.nodup_append.mpr ⟨h.fl.kn, List.nodup_cons.mpr ⟨by simp, List.nodup_nil⟩, fun x hx y hy e => c' (by rw [← (List.mem_singleton.mp hy : y = lastW w), ← e]; exact h.fl.ks x hx)⟩
    · have hx' : x ∈ (st.2 ++ [w]).map lastW := hx
      rw [List.map_append] at hx'
      rcases List.mem_append.mp hx' with z | z
      · exact List.mem_append_left _ (h.fl.ks x z)
      · exact List.mem_append_right _ z
    · rcases List.mem_append.mp hv with z | z
      · obtain ⟨a1, a2, a3⟩ := h.fl.ok v z
        refine ⟨a1, a2, ?_⟩
        show v.length ≤ (st.1 ++ [lastW w]).length
        rw [List.length_append]
        omega
      · rw [List.mem_singleton.mp z]
        refine ⟨h1, h2, ?_⟩
        show w.length ≤ (st.1 ++ [lastW w]).length
        rw [List.length_append, List.length_singleton]
        omega
    · show (st.1 ++ [lastW w]).length = met0.length + (st.2 ++ [w]).length
      rw [List.length_append, List.length_append, List.length_singleton, List.length_singleton]
      omega
  · exact h
theorem KLine.fold {b : List Ent} {ns met0 : List Str} : ∀ (l : List (List Str)) {st : List Str × List (List Str)}, KLine b ns met0 st → (∀ w ∈ l, w ≠ [] ∧ (∀ n ∈ w, n ∈ uni b ns) ∧ w.length ≤ met0.length + 1) → KLine b ns met0 (l.foldl keepStep st)
  | [], _, h, _ => h
  | w :: l, _, h, hw => KLine.fold l (h.step (hw w List.mem_cons_self).1 (hw w List.mem_cons_self).2.1 (hw w List.mem_cons_self).2.2) fun v hv => hw v (List.mem_cons_of_mem _ hv)
theorem long_ok {b : List Ent} {ns met P : List Str} {p : Str} {ways : List (List Str)} (h : FLine b ns met ways) : ∀ w ∈ sortW (longL b P p met ways), w ≠ [] ∧ (∀ n ∈ w, n ∈ uni b ns) ∧ w.length ≤ met.length + 1 := fun v hv => by
  obtain ⟨w, hw, e, he, m, hm, _, rfl⟩ := long_mem ((sortW_perm _).mem_iff.mp hv)
  obtain ⟨a1, a2, a3⟩ := h.ok w hw
  refine ⟨by simp, fun n hn => ?_, by rw [List.length_append, List.length_singleton]; omega⟩
  rcases List.mem_append.mp hn with z | z
  · exact a2 n z
  · rw [List.mem_singleton.mp z]
    exact List.mem_append_right _ (List.mem_flatMap.mpr ⟨e, he, hm⟩)
theorem KLine.zero {b : List Ent} {ns met : List Str} (h : Line b ns met) : KLine b ns met (met, []) := ⟨⟨h, List.nodup_nil, fun x hx => (nomatch hx), fun w hw => (nomatch hw)⟩, rfl, fun _ h => h⟩
theorem FLine.next {b : List Ent} {ns met P : List Str} {p : Str} {ways : List (List Str)} (h : FLine b ns met ways) : KLine b ns met (nextL b P p met ways) := KLine.fold _ (KLine.zero h.line) (long_ok h)
theorem fline0 {b : List Ent} {ns : List Str} (hn : ns.Nodup) : FLine b ns ns (ways0 ns) := by
  have w := wline0 (b := b) hn
  have e : keysW (ways0 ns) = sortN ns := by
    unfold keysW ways0
    rw [List.map_map]
    exact List.map_id' _
  refine ⟨⟨hn, fun x hx => List.mem_append_left _ hx⟩, w.nd, fun x hx => by rw [e] at hx; exact (sortN_perm _).mem_iff.mp hx, fun v hv => ⟨w.ne v hv, fun n hx => ?_, ?_⟩⟩
  · obtain ⟨y, hy, rfl⟩ := List.mem_map.mp hv
    rw [List.mem_singleton.mp hx]
    exact List.mem_append_left _ ((sortN_perm _).mem_iff.mp hy)
  · have := w.le v hv
    have e2 : (ways0 ns).length = ns.length := by unfold ways0; rw [List.length_map]; exact (sortN_perm _).length_eq
    omega
theorem alike_rk (a c : Str) : PySem.W.alike (rankD a) (rankD c) = true := by simp [rankD, PySem.W.alike, PySem.W.alikeAll]
theorem alike_rks : ∀ w v : List Str, PySem.W.alikeAll (w.map rankD) (v.map rankD) = true
  | [], _ => by simp [PySem.W.alikeAll]
  | _ :: _, [] => by simp [PySem.W.alikeAll]
  | x :: w, y :: v => by
    show PySem.W.alikeAll (rankD x :: w.map rankD) (rankD y :: v.map rankD) = true
    rw [PySem.W.alikeAll, alike_rk, alike_rks w v]
    rfl
theorem alike_ranks (w v : List Str) : PySem.W.alike (ranksD w) (ranksD v) = true := by
  unfold ranksD
  rw [PySem.W.alike]
  exact alike_rks w v
theorem ranks_dep (w : List Str) : (ranksD w).depth ≤ 8 := by
  have : ∀ l : List Str, PyData.depthAll (l.map rankD) ≤ 3 := fun l => by
    induction l with
    | nil => simp [PyData.depthAll]
    | cons x l ih =>
      rw [List.map_cons, PyData.depthAll]
      have : (rankD x).depth ≤ 2 := by simp [rankD, PyData.depth, PyData.depthAll]
      omega
  unfold ranksD
  rw [PyData.depth]
  have := this w
  omega
abbrev qFirst : List Str := ["_law_book_here", "_law_names_here", "_law_passed_here", "_law_person"]
abbrev nFirst : List Str := ["_law_book_here", "_law_names_here", "_law_passed_here", "_law_person", "_law_ways", "_law_met_here", "_law_way", "_law_longer", "_law_name", "_law_members", "_law_left", "_law_gate", "_law_member"]
theorem scFirst : FnScope nFirst qFirst (defScope S_law_first_way) := ⟨rfl, rfl, rfl, by decide +kernel, rfl, by decide +kernel, by decide +kernel⟩
def aFirst (xs : List D) (r : DS) : Prop := ∃ (b : List Ent) (ns P : List Str) (p : Str), xs = [bkD b, .lst (ns.map .str), .lst (P.map .str), .str p] ∧ Bk b ∧ ns.Nodup ∧ (∀ n ∈ ns, Nm n) ∧ (b.flatMap Ent.mem).length ≤ 80000 ∧ (uni b ns).length ≤ 90000 ∧ r = .im (owD (firstM b ns P p))
abbrev eFirst (b : List Ent) (ns P : List Str) (p : Str) (ways : List (List Str)) (met : List Str) (o6 o7 o8 o9 o10 o11 : DS) : List DS := [.im (bkD b), .im (.lst (ns.map .str)), .im (.lst (P.map .str)), .im (.str p), .im (.lst (ways.map wayD)), .own (met.map .str), o6, o7, o8, o9, o10, o11, .no]
def PvFirst (b : List Ent) (ns P : List Str) (p : Str) (m : Nat) (ds : List DS) : Prop := ∃ (ways : List (List Str)) (met : List Str) (o6 o7 o8 o9 o10 o11 : DS), ds = eFirst b ns P p ways met o6 o7 o8 o9 o10 o11 ∧ FLine b ns met ways ∧ (uni b ns).length + (if ways = [] then 0 else 1) ≤ m + met.length ∧ firstRun b P p m met ways = firstM b ns P p
theorem ok_first {G : Glb} (Z : Facts G) : CallD G 6 "_law_first_way" qFirst false aFirst := by
  refine ⟨?_, Z.g_law_first_way, Z.n_law_first_way, Z.f_law_first_way.kp⟩
  refine okD (N := nFirst) Z.f_law_first_way scFirst (fun xs r ⟨_, _, _, _, e, _⟩ => by rw [e]; rfl) fun cdv Ar outer s H E hr xs r ⟨b, ns, P, p, e, hb, hn, hnm, hM, hU, er⟩ => ?_
  subst e er
  have short := uni_short hb hnm
  have hul : ns.length ≤ (uni b ns).length := by unfold uni; rw [List.length_append]; omega
  have l0 : (ways0 ns).length = ns.length := by unfold ways0; rw [List.length_map]; exact (sortN_perm _).length_eq
  refine dss_cons (ds_p2t 4 5 (s1 := .im (.lst ((ways0 ns).map wayD))) (dv_is (de_own (dv_lcP (ev := D.str) (xs := sortN ns) (own := [("_law_name", 8)]) (js := [8]) (fun n => [.im (bkD b), .im (.lst (ns.map .str)), .im (.lst (P.map .str)), .im (.str p), .no, .no, .no, .no, .im (.str n), .no, .no, .no, .no]) (fun _ => true) (fun n => wayD [n])
    (di_list (de_own (dv_sortN (de_var 1 rfl) (fun n hx => short n (List.mem_append_left _ hx)) (ok_lawrank Z) Z.g_law_rank hr Z.b_sorted))) (by rw [(sortN_perm _).length_eq]; omega) scFirst.nd (blkOk_by (N := nFirst) (sc := defScope S_law_first_way) (by decide +kernel))
    (fun s H C cl fp n hc => dg_name 8 scFirst.nd) (fun s H C cl fp n hc => dts_nil) (fun s H C cl fp n hc _ => de_own (dv_lst (da_cons (de_var 8 rfl) da_nil) (by show 1 ≤ 100000; decide))))) (by
      rw [List.filter_eq_self.mpr fun _ _ => rfl]
      unfold ways0
      rw [List.map_map]
      rfl)) (dv_list (de_var 1 rfl) rfl Z.b_list) ?_ scFirst.nd)
  refine dss_cons (ds_while (PvFirst b ns P p) ((uni b ns).length + 2) ⟨ways0 ns, ns, .no, .no, .no, .no, .no, .no, rfl, fline0 hn, by split <;> omega, rfl⟩ (fun m ds1 ⟨ways, met, o6, o7, o8, o9, o10, o11, e1, fl, e3, e5⟩ => ?_) PassesOwn.never)
  subst e1
  have hlu := fl.line.len
  have hwl := fl.len
  refine ⟨!decide (ways = []), dt_neX (x := ways) (y := []) (de_var 4 rfl) (de_own (dv_lst da_nil (by decide))) (units_of hr), fun hc => ?_, fun hc => ?_⟩
  · have hw : ways ≠ [] := by simpa using hc
    rw [if_neg hw] at e3
    obtain ⟨m', rfl⟩ : ∃ m', m = m' + 1 := ⟨m - 1, by omega⟩
    rw [firstRun, if_neg hw] at e5
    refine dss_mid (fun ds => (∃ o6, ds = eFirst b ns P p ways met o6 o7 o8 o9 o10 o11) ∧ (ways.find? fun w => decide (lastW w = p)) = none) (ds_for (e := wayD) (xs := ways) (fun i ds => (∃ o6, ds = eFirst b ns P p ways met o6 o7 o8 o9 o10 o11) ∧ ((ways.take i).find? fun w => decide (lastW w = p)) = none)
      (fun w ds1 => ds1.set 6 (.im (wayD w))) (di_list (de_var 4 rfl)) (fun w _ ds1 => dg_name 6 scFirst.nd) ⟨⟨o6, rfl⟩, by rw [List.take_zero]; rfl⟩ (fun i w ds1 hi ⟨⟨o6', e1⟩, hv⟩ => ?_) (fun ds1 ⟨h0, h⟩ => ⟨h0, by rw [List.take_length] at h; exact h⟩) PassesOwn.never) fun ds' ⟨⟨o6', ed⟩, hnone⟩ => ?_
    · subst e1
      have et : ways.take (i + 1) = ways.take i ++ [w] := by rw [List.take_succ, hi]; rfl
      have wne := (fl.ok w (List.mem_of_getElem? hi)).1
      refine dss_one (ds_if (dt_eqS (de_ixL (xs := w.map .str) (de_var 6 rfl) (de_neg de_int) (lk_last (lastW_get wne))) (de_var 3 rfl)) (fun hc => ?_) (fun hc => dss_nil ⟨⟨_, rfl⟩, ?_⟩))
      · have hf : (ways.find? fun w => decide (lastW w = p)) = some w := by
          have : ways = ways.take i ++ w :: ways.drop (i + 1) := by
            obtain ⟨hlt, hg⟩ := List.getElem?_eq_some_iff.mp hi
            rw [← hg, List.getElem_cons_drop, List.take_append_drop]
          rw [this, List.find?_append, hv, List.find?_cons, hc]
          rfl
        rw [hf] at e5
        refine dss_one (ds_ret (de_var 6 rfl) (.inl ?_))
        rw [← e5]
        rfl
      · rw [et, List.find?_append, hv, List.find?_cons, hc]
        rfl
    subst ed
    rw [hnone] at e5
    have nk := fl.next (P := P) (p := p)
    have hll := long_len (P := P) (met := met) (p := p) fl.kn b
    refine dss_cons (ds_set 7 (s := .im (.lst [])) (de_own (dv_lst da_nil (by decide))) ?_ scFirst.nd)
    refine dss_mid (fun ds => ∃ o6 o8 o9 o10 o11, ds = eFirst b ns P p ways met o6 (.im (.lst ((longL b P p met ways).map wayD))) o8 o9 o10 o11) (ds_for (e := Ent.d) (xs := b) (fun i ds => ∃ o6 o8 o9 o10 o11, ds = eFirst b ns P p ways met o6 (.im (.lst ((longL (b.take i) P p met ways).map wayD))) o8 o9 o10 o11)
      (fun e ds1 => (((ds1.set 8 (.im (.str e.nm))).set 9 (.im (.lst (e.mem.map .str)))).set 10 (.im (.lst (e.left.map .str)))).set 11 (.im (gD e.gate))) (di_list (de_var 0 rfl)) (fun e _ ds1 => dg_tup (dgs_cons (dg_name 8 scFirst.nd) (dgs_cons (dg_name 9 scFirst.nd) (dgs_cons (dg_name 10 scFirst.nd) (dgs_cons (dg_name 11 scFirst.nd) dgs_nil))))) ⟨_, _, _, _, _, rfl⟩ (fun i e ds1 hi ⟨o6, o8, o9, o10, o11, e1⟩ => ?_) (fun ds1 ⟨o6, o8, o9, o10, o11, e1⟩ => ⟨o6, o8, o9, o10, o11, by rw [e1, List.take_length]⟩) PassesOwn.never) fun ds' ⟨o6, o8, o9, o10, o11, ed⟩ => ?_
    · subst e1
      have he : e ∈ b := List.mem_of_getElem? hi
      have et : b.take (i + 1) = b.take i ++ [e] := by rw [List.take_succ, hi]; rfl
      have es : longL (b.take (i + 1)) P p met ways = longL (b.take i) P p met ways ++ ways.flatMap (candL P p met e) := by
        unfold longL
        rw [et, List.flatMap_append, List.flatMap_cons, List.flatMap_nil, List.append_nil]
      have l1 := long_len (P := P) (met := met) (p := p) fl.kn (b.take (i + 1))
      have l2 : ((b.take (i + 1)).flatMap Ent.mem).length ≤ (b.flatMap Ent.mem).length := by
        have : b.flatMap Ent.mem = (b.take (i + 1)).flatMap Ent.mem ++ (b.drop (i + 1)).flatMap Ent.mem := by rw [← List.flatMap_append, List.take_append_drop]
        rw [this, List.length_append]
        omega
      rw [es] at l1
      rw [List.length_append] at l1
      refine dss_one (ds_for (e := wayD) (xs := ways) (fun j ds => ∃ o6, ds = eFirst b ns P p ways met o6 (.im (.lst ((longL (b.take i) P p met ways ++ (ways.take j).flatMap (candL P p met e)).map wayD))) (.im (.str e.nm)) (.im (.lst (e.mem.map .str))) (.im (.lst (e.left.map .str))) (.im (gD e.gate)))
        (fun w ds1 => ds1.set 6 (.im (wayD w))) (di_list (de_var 4 rfl)) (fun w _ ds1 => dg_name 6 scFirst.nd) ⟨_, by rw [List.take_zero, List.flatMap_nil, List.append_nil]; rfl⟩ (fun j w ds1 hj ⟨o6', e1⟩ => ?_) (fun ds1 ⟨o6', e1⟩ => ⟨o6', .im (.str e.nm), .im (.lst (e.mem.map .str)), .im (.lst (e.left.map .str)), .im (gD e.gate), by rw [e1, List.take_length, es]⟩) PassesOwn.never)
      subst e1
      have ew : ways.take (j + 1) = ways.take j ++ [w] := by rw [List.take_succ, hj]; rfl
      have wne := (fl.ok w (List.mem_of_getElem? hj)).1
      have wle := (fl.ok w (List.mem_of_getElem? hj)).2.2
      have ec : (ways.take (j + 1)).flatMap (candL P p met e) = (ways.take j).flatMap (candL P p met e) ++ candL P p met e w := by rw [ew, List.flatMap_append, List.flatMap_cons, List.flatMap_nil, List.append_nil]
      have l3 : ((ways.take j).flatMap (candL P p met e)).length + (candL P p met e w).length ≤ (ways.flatMap (candL P p met e)).length := by
        have : ways.flatMap (candL P p met e) = (ways.take (j + 1)).flatMap (candL P p met e) ++ (ways.drop (j + 1)).flatMap (candL P p met e) := by rw [← List.flatMap_append, List.take_append_drop]
        rw [this, ec, List.length_append, List.length_append]
        omega
      rw [ec, ← List.append_assoc]
      generalize hcur : longL (b.take i) P p met ways ++ (ways.take j).flatMap (candL P p met e) = cur
      have lc : cur.length + (candL P p met e w).length ≤ 80000 := by
        rw [← hcur, List.length_append]
        omega
      refine dss_one (ds_if (dt_w (dw_and (dt_eqS (de_ixL (xs := w.map .str) (de_var 6 rfl) (de_neg de_int) (lk_last (lastW_get wne))) (de_var 8 rfl)) fun _ => dw_and (dt_inS (de_var 8 rfl) (de_var 2 rfl)) fun _ => dw_and1 (dt_niS (de_var 3 rfl) (de_var 10 rfl)))) (fun hc => ?_) (fun hc => ?_))
      · have ex : candL P p met e w = (e.mem.filter fun m => !decide (m ∈ met)).map fun m => w ++ [m] := if_pos hc
        rw [ex] at lc ⊢
        rw [List.length_map] at lc
        have hml := (hb.ok e he).memL
        refine dss_one (ds_set 7 (s := .im (.lst ((cur ++ (e.mem.filter fun m => !decide (m ∈ met)).map fun m => w ++ [m]).map wayD))) (dv_is (de_own (dv_cat (de_var 7 rfl) (de_own (dv_lcP (ev := D.str) (xs := e.mem) (own := [("_law_member", 12)]) (js := [12]) (fun n => [.im (bkD b), .im (.lst (ns.map .str)), .im (.lst (P.map .str)), .im (.str p), .im (.lst (ways.map wayD)), .own (met.map .str), .im (wayD w), .im (.lst (cur.map wayD)), .im (.str e.nm), .im (.lst (e.mem.map .str)), .im (.lst (e.left.map .str)), .im (gD e.gate), .im (.str n)])
          (fun n => !decide (n ∈ met)) (fun n => wayD (w ++ [n])) (di_list (de_var 9 rfl)) (by omega) scFirst.nd (blkOk_by (N := nFirst) (sc := defScope S_law_first_way) (by decide +kernel)) (fun s H C cl fp n hc => dg_name 12 scFirst.nd) (fun s H C cl fp n hc => dts_one (dt_view 5 rfl rfl (dt_niS (de_var 12 rfl) (de_var 5 rfl))))
          (fun s H C cl fp n hc _ => dv_is (de_own (dv_cat (xs := w.map .str) (ys := [.str n]) (de_var 6 rfl) (de_own (dv_lst (da_cons (de_var 12 rfl) da_nil) (by show 1 ≤ 100000; decide))) (by rw [List.length_map]; show _ + 1 ≤ _; omega))) (by show DS.im (D.lst (w.map D.str ++ [D.str n])) = DS.im (D.lst ((w ++ [n]).map D.str)); rw [List.map_append]; rfl)))) (by rw [List.length_map, List.length_map]; omega))) (by
            rw [List.map_append, List.map_map]
            rfl)) ?_ scFirst.nd)
        exact ⟨_, rfl⟩
      · have ex : candL P p met e w = [] := if_neg (by rw [hc]; exact fun z => nomatch z)
        rw [ex, List.append_nil]
        exact dss_nil ⟨_, rfl⟩
    subst ed
    refine dss_cons (ds_set 4 (dv_lst da_nil (by decide)) ?_ scFirst.nd)
    have lo := long_ok (P := P) (p := p) fl
    have kz := KLine.zero fl.line
    have slen := (sortW_perm (longL b P p met ways)).length_eq
    have en : nextL b P p met ways = (sortW (longL b P p met ways)).foldl keepStep (met, []) := rfl
    have wsh : ∀ w ∈ longL b P p met ways, ∀ n ∈ w, n.length ≤ 100000 := fun w hw n hx => short n ((lo w ((sortW_perm _).mem_iff.mpr hw)).2.1 n hx)
    refine dss_mid (fun ds => ∃ o6, ds = [.im (bkD b), .im (.lst (ns.map .str)), .im (.lst (P.map .str)), .im (.str p), .own ((nextL b P p met ways).2.map wayD), .own ((nextL b P p met ways).1.map .str), o6, .im (.lst ((longL b P p met ways).map wayD)), o8, o9, o10, o11, .no]) (ds_for (e := wayD) (xs := sortW (longL b P p met ways)) (fun i ds => ∃ o6, ds = [.im (bkD b), .im (.lst (ns.map .str)), .im (.lst (P.map .str)), .im (.str p), .own ((((sortW (longL b P p met ways)).take i).foldl keepStep (met, [])).2.map wayD), .own ((((sortW (longL b P p met ways)).take i).foldl keepStep (met, [])).1.map .str), o6, .im (.lst ((longL b P p met ways).map wayD)), o8, o9, o10, o11, .no])
      (fun w ds1 => ds1.set 6 (.im (wayD w))) (di_list (de_own (dv_sortR (de_var 7 rfl) (ok_lawranks Z) wsh alike_ranks (fun w => ⟨fun z => (nomatch z), fun xs z => (nomatch z)⟩) ranks_dep Z.g_law_ranks hr Z.b_sorted))) (fun w _ ds1 => dg_name 6 scFirst.nd) ⟨_, rfl⟩ (fun i w ds1 hi ⟨o6', e1⟩ => ?_) (fun ds1 ⟨o6', e1⟩ => ⟨o6', by rw [e1, List.take_length, ← en]⟩) PassesOwn.never) fun ds' ⟨o6', ed⟩ => ?_
    · subst e1
      have hm : w ∈ sortW (longL b P p met ways) := List.mem_of_getElem? hi
      have wne := (lo w hm).1
      have et : (sortW (longL b P p met ways)).take (i + 1) = (sortW (longL b P p met ways)).take i ++ [w] := by rw [List.take_succ, hi]; rfl
      have ki := KLine.fold (b := b) (ns := ns) (met0 := met) ((sortW (longL b P p met ways)).take i) kz fun v hv => lo v (List.mem_of_mem_take hv)
      have es : ((sortW (longL b P p met ways)).take (i + 1)).foldl keepStep (met, []) = keepStep (((sortW (longL b P p met ways)).take i).foldl keepStep (met, [])) w := by rw [et, List.foldl_append]; rfl
      rw [es]
      generalize ((sortW (longL b P p met ways)).take i).foldl keepStep (met, []) = st at ki
      obtain ⟨mt, kp⟩ := st
      have k1 := ki.fl.line.len
      have k2 := ki.fl.len
      refine dss_one (ds_if (dt_view 5 rfl rfl (dt_niS (de_ixL (xs := w.map .str) (de_var 6 rfl) (de_neg de_int) (lk_last (lastW_get wne))) (de_var 5 rfl))) (fun hc => ?_) (fun hc => ?_))
      · have ek : keepStep (mt, kp) w = (mt ++ [lastW w], kp ++ [w]) := if_pos hc
        rw [ek]
        refine dss_cons (ds_append 5 rfl (de_ixL (xs := w.map .str) (de_var 6 rfl) (de_neg de_int) (lk_last (lastW_get wne))) (by rw [List.length_map]; omega) ?_)
        refine dss_one (ds_append 4 rfl (de_var 6 rfl) (by rw [List.length_map]; omega) ⟨.im (wayD w), ?_⟩)
        show _ = _
        rw [List.map_append, List.map_append]
        rfl
      · have ek : keepStep (mt, kp) w = (mt, kp) := if_neg (by rw [hc]; exact fun z => nomatch z)
        rw [ek]
        exact dss_nil ⟨_, rfl⟩
    subst ed
    refine dss_freeze 4 rfl rfl (dss_nil ⟨m', Nat.lt_succ_self _, (nextL b P p met ways).2, (nextL b P p met ways).1, _, _, _, _, _, _, rfl, nk.fl, ?_, e5⟩)
    have z := nk.ln
    split
    · omega
    · rename_i q
      have := List.length_pos_iff.mpr q
      omega
  · have hw : ways = [] := by simpa using hc
    have e6 : firstRun b P p m met ways = none := by
      cases m with
      | zero => rfl
      | succ m => rw [firstRun, if_pos hw]
    rw [e6] at e5
    refine dss_one (ds_ret de_non (.inl ?_))
    rw [← e5]
    rfl

/-! ### the law's lists to which somebody's letter comes -/
def clo1 (b : List Ent) (P : List Str) (p n : Str) : List Ent := b.filter fun e => decide (e.nm = n) && (decide (n ∈ P) && !decide (p ∈ e.left))
def clo (b : List Ent) (P : List Str) (p n : Str) : List Str := (clo1 b P p n).map fun _ => n
def closedM (b : List Ent) (ns P : List Str) (p : Str) : List Str := sortN ((metM b ns P p).flatMap (clo b P p))
theorem same_le : ∀ {l : List Ent} {n : Str}, (l.map Ent.nm).Nodup → (∀ e ∈ l, e.nm = n) → l.length ≤ 1
  | [], _, _, _ => Nat.zero_le _
  | [_], _, _, _ => Nat.le_refl _
  | x :: y :: l, n, h, hs => by
    have h1 := (List.nodup_cons.mp h).1
    rw [hs x List.mem_cons_self, ← hs y (List.mem_cons_of_mem _ List.mem_cons_self)] at h1
    exact absurd List.mem_cons_self h1
theorem clo_len {b : List Ent} (hb : Bk b) (P : List Str) (p n : Str) : (clo b P p n).length ≤ 1 := by
  unfold clo clo1
  rw [List.length_map]
  refine same_le (n := n) (hb.nd.sublist (List.filter_sublist.map _)) fun e he => ?_
  have h := (List.mem_filter.mp he).2
  rw [Bool.and_eq_true, decide_eq_true_eq] at h
  exact h.1
theorem clos_len {b : List Ent} (hb : Bk b) (P : List Str) (p : Str) : ∀ l : List Str, (l.flatMap (clo b P p)).length ≤ l.length
  | [] => Nat.le_refl _
  | n :: l => by
    have h1 := clo_len hb P p n
    have h2 := clos_len hb P p l
    rw [List.flatMap_cons, List.length_append, List.length_cons]
    omega
theorem clo_mem {b : List Ent} {P : List Str} {p n x : Str} (h : x ∈ clo b P p n) : x = n := by
  obtain ⟨_, _, rfl⟩ := List.mem_map.mp h
  rfl
theorem met_line2 {b : List Ent} {ns P : List Str} {p : Str} (hb : Bk b) (hn : ns.Nodup) : Line b ns (metM b ns P p) := by
  have gen : ∀ (f : Nat) (met : List Str) (many : Int), Line b ns met → Line b ns (metRun b P p f met many) := fun f => by
    induction f with
    | zero => exact fun _ _ h => h
    | succ f ih =>
      intro met many h
      rw [metRun]
      split
      · exact ih _ _ (Line.round hb b met (fun _ z => z) h)
      · exact h
  exact gen _ _ _ ⟨hn, fun x hx => List.mem_append_left _ hx⟩
def aClosed (xs : List D) (r : DS) : Prop := ∃ (b : List Ent) (ns P : List Str) (p : Str), xs = [bkD b, .lst (ns.map .str), .lst (P.map .str), .str p] ∧ Bk b ∧ ns.Nodup ∧ (∀ n ∈ ns, Nm n) ∧ (uni b ns).length ≤ 90000 ∧ r = .own ((closedM b ns P p).map .str)
abbrev nClosed : List Str := ["_law_book_here", "_law_names_here", "_law_passed_here", "_law_person", "_law_found", "_law_name", "_law_one", "_law_members", "_law_left", "_law_gate"]
theorem scClosed : FnScope nClosed qFirst (defScope S_law_closed) := ⟨rfl, rfl, rfl, by decide +kernel, rfl, by decide +kernel, by decide +kernel⟩
abbrev eClosed (b : List Ent) (ns P : List Str) (p : Str) (found : List Str) (o5 o6 o7 o8 o9 : DS) : List DS := [.im (bkD b), .im (.lst (ns.map .str)), .im (.lst (P.map .str)), .im (.str p), .own (found.map .str), o5, o6, o7, o8, o9]
theorem ok_closed {G : Glb} (Z : Facts G) : CallD G 5 "_law_closed" qFirst false aClosed := by
  refine ⟨?_, Z.g_law_closed, Z.n_law_closed, Z.f_law_closed.kp⟩
  refine okD (N := nClosed) Z.f_law_closed scClosed (fun xs r ⟨_, _, _, _, e, _⟩ => by rw [e]; rfl) fun cdv Ar outer s H E hr xs r ⟨b, ns, P, p, e, hb, hn, hnm, hU, er⟩ => ?_
  subst e er
  have short := uni_short hb hnm
  have ml := met_line2 (P := P) (p := p) hb hn
  have mlen := ml.len
  refine dss_cons (ds_set 4 (dv_lst da_nil (by decide)) ?_ scClosed.nd)
  refine dss_mid (fun ds => ∃ o5 o6 o7 o8 o9, ds = eClosed b ns P p ((metM b ns P p).flatMap (clo b P p)) o5 o6 o7 o8 o9) (ds_for (e := D.str) (xs := metM b ns P p) (fun i ds => ∃ o5 o6 o7 o8 o9, ds = eClosed b ns P p (((metM b ns P p).take i).flatMap (clo b P p)) o5 o6 o7 o8 o9) (fun n ds1 => ds1.set 5 (.im (.str n)))
    (di_list (dv_c (ok_met Z) hr (da_cons (de_var 0 rfl) (da_cons (de_var 1 rfl) (da_cons (de_var 2 rfl) (da_cons (de_var 3 rfl) da_nil)))) ⟨b, ns, P, p, rfl, hb, hn, hU, rfl⟩)) (fun n _ ds1 => dg_name 5 scClosed.nd) ⟨_, _, _, _, _, rfl⟩ (fun i n ds1 hi ⟨o5, o6, o7, o8, o9, e1⟩ => ?_) (fun ds1 ⟨o5, o6, o7, o8, o9, e1⟩ => ⟨o5, o6, o7, o8, o9, by rw [e1, List.take_length]⟩) PassesOwn.never) fun ds' ⟨o5, o6, o7, o8, o9, ed⟩ => ?_
  · subst e1
    have et : (metM b ns P p).take (i + 1) = (metM b ns P p).take i ++ [n] := by rw [List.take_succ, hi]; rfl
    have hil : i < (metM b ns P p).length := (List.getElem?_eq_some_iff.mp hi).1
    have cl := clos_len hb P p ((metM b ns P p).take i)
    rw [List.length_take] at cl
    have es : ((metM b ns P p).take (i + 1)).flatMap (clo b P p) = ((metM b ns P p).take i).flatMap (clo b P p) ++ clo b P p n := by rw [et, List.flatMap_append, List.flatMap_cons, List.flatMap_nil, List.append_nil]
    rw [es]
    generalize ((metM b ns P p).take i).flatMap (clo b P p) = cur at cl
    refine dss_one (ds_for (e := Ent.d) (xs := b) (fun j ds => ∃ o6 o7 o8 o9, ds = eClosed b ns P p (cur ++ clo (b.take j) P p n) (.im (.str n)) o6 o7 o8 o9) (fun e ds1 => (((ds1.set 6 (.im (.str e.nm))).set 7 (.im (.lst (e.mem.map .str)))).set 8 (.im (.lst (e.left.map .str)))).set 9 (.im (gD e.gate)))
      (di_list (de_var 0 rfl)) (fun e _ ds1 => dg_tup (dgs_cons (dg_name 6 scClosed.nd) (dgs_cons (dg_name 7 scClosed.nd) (dgs_cons (dg_name 8 scClosed.nd) (dgs_cons (dg_name 9 scClosed.nd) dgs_nil))))) ⟨_, _, _, _, by rw [List.take_zero]; exact congrArg (fun l => eClosed b ns P p l _ _ _ _ _) (List.append_nil cur).symm⟩ (fun j e ds1 hj ⟨o6, o7, o8, o9, e1⟩ => ?_) (fun ds1 ⟨o6, o7, o8, o9, e1⟩ => ⟨.im (.str n), o6, o7, o8, o9, by rw [e1, List.take_length]⟩) PassesOwn.never)
    subst e1
    have ej : b.take (j + 1) = b.take j ++ [e] := by rw [List.take_succ, hj]; rfl
    have cj : (clo (b.take j) P p n).length ≤ 1 := by
      refine Nat.le_trans ?_ (clo_len hb P p n)
      unfold clo clo1
      rw [List.length_map, List.length_map]
      exact ((List.take_sublist j b).filter _).length_le
    have ec : clo (b.take (j + 1)) P p n = clo (b.take j) P p n ++ if (decide (e.nm = n) && (decide (n ∈ P) && !decide (p ∈ e.left))) = true then [n] else [] := by
      unfold clo clo1
      rw [ej, List.filter_append, List.map_append, List.filter_cons]
      split
      · rfl
      · rfl
    rw [ec]
    refine dss_one (ds_if (dt_w (dw_and (dt_eqS (de_var 6 rfl) (de_var 5 rfl)) fun _ => dw_and (dt_inS (de_var 5 rfl) (de_var 2 rfl)) fun _ => dw_and1 (dt_niS (de_var 3 rfl) (de_var 8 rfl)))) (fun hc => ?_) (fun hc => ?_))
    · rw [if_pos hc]
      refine dss_one (ds_append 4 rfl (de_var 5 rfl) (by rw [List.length_map, List.length_append]; omega) ⟨.im (.str e.nm), .im (.lst (e.mem.map .str)), .im (.lst (e.left.map .str)), .im (gD e.gate), ?_⟩)
      rw [← List.append_assoc]
      show _ = eClosed b ns P p ((cur ++ clo (b.take j) P p n) ++ [n]) _ _ _ _ _
      unfold eClosed
      rw [List.map_append (l₂ := [n])]
      rfl
    · rw [if_neg (by rw [hc]; exact fun z => nomatch z), List.append_nil]
      exact dss_nil ⟨_, _, _, _, rfl⟩
  subst ed
  refine dss_freeze 4 rfl rfl (dss_one (ds_ret (dv_sortN (de_var 4 rfl) (fun n hn2 => ?_) (ok_lawrank Z) Z.g_law_rank hr Z.b_sorted) (.inl rfl)))
  obtain ⟨m, hm, hx⟩ := List.mem_flatMap.mp hn2
  rw [clo_mem hx]
  exact short m (ml.sub m hm)
def aKinds (xs : List D) (r : DS) : Prop := (∃ d : D, xs = [.ins "Way" [("names", d)]] ∧ r = .own [.bl true, .bl false, .bl false, .bl false]) ∨ ∃ d : D, xs = [.ins "Shut" [("names", d)]] ∧ r = .own [.bl false, .bl true, .bl false, .bl false]
theorem scKinds : FnScope ["_law_told"] ["_law_told"] (defScope S_law_kinds) := ⟨rfl, rfl, rfl, by decide +kernel, rfl, by decide +kernel, by decide +kernel⟩
theorem ok_kinds {G : Glb} (Z : Facts G) : CallD G 1 "_law_kinds" ["_law_told"] false aKinds := by
  refine ⟨?_, Z.g_law_kinds, Z.n_law_kinds, Z.f_law_kinds.kp⟩
  refine okD (N := ["_law_told"]) Z.f_law_kinds scKinds (fun xs r h => by rcases h with ⟨d, e, _⟩ | ⟨d, e, _⟩ <;> rw [e] <;> rfl) fun cdv Ar outer s H E hr xs r h => ?_
  rcases h with ⟨d, e, er⟩ | ⟨d, e, er⟩
  · subst e er
    exact dss_one (ds_ret (dv_lst (da_cons (de_isC (cc := .Name "x" ⟨0, 0, 0, 0⟩) (de_var 0 rfl) Z.i_Way_Way Z.g_Way Z.b_isinstance) (da_cons (de_isC (cc := .Name "x" ⟨0, 0, 0, 0⟩) (de_var 0 rfl) Z.i_Way_Shut Z.g_Shut Z.b_isinstance) (da_cons (de_isC (cc := .Name "x" ⟨0, 0, 0, 0⟩) (de_var 0 rfl) Z.i_Way_Cut Z.g_Cut Z.b_isinstance) (da_cons (de_isC (cc := .Name "x" ⟨0, 0, 0, 0⟩) (de_var 0 rfl) Z.i_Way_Named Z.g_Named Z.b_isinstance) da_nil)))) (by show 4 ≤ 100000; decide)) (.inl rfl))
  · subst e er
    exact dss_one (ds_ret (dv_lst (da_cons (de_isC (cc := .Name "x" ⟨0, 0, 0, 0⟩) (de_var 0 rfl) Z.i_Shut_Way Z.g_Way Z.b_isinstance) (da_cons (de_isC (cc := .Name "x" ⟨0, 0, 0, 0⟩) (de_var 0 rfl) Z.i_Shut_Shut Z.g_Shut Z.b_isinstance) (da_cons (de_isC (cc := .Name "x" ⟨0, 0, 0, 0⟩) (de_var 0 rfl) Z.i_Shut_Cut Z.g_Cut Z.b_isinstance) (da_cons (de_isC (cc := .Name "x" ⟨0, 0, 0, 0⟩) (de_var 0 rfl) Z.i_Shut_Named Z.g_Named Z.b_isinstance) da_nil)))) (by show 4 ≤ 100000; decide)) (.inl rfl))

/-! ### ranks in order -/
theorem rank_anti {a c : Str} (h1 : PySem.W.dataLe false rankD a c = true) (h2 : PySem.W.dataLe false rankD c a = true) : a = c := by
  rw [rankLe, decide_eq_true_eq] at h1 h2
  refine str_ext ?_
  rcases h1 with h1 | ⟨_, h1⟩
  · rcases h2 with h2 | ⟨h2, _⟩ <;> omega
  · rcases h2 with h2 | ⟨_, h2⟩
    · omega
    · exact List.le_antisymm h1 h2
theorem rank_tot (a c : Str) : (PySem.W.dataLe false rankD a c || PySem.W.dataLe false rankD c a) = true := by
  rw [rankLe, rankLe, Bool.or_eq_true, decide_eq_true_eq, decide_eq_true_eq]
  rcases Nat.lt_trichotomy a.length c.length with z | z | z
  · exact .inl (.inl z)
  · rcases List.le_total a.cps.toList c.cps.toList with y | y
    · exact .inl (.inr ⟨z, y⟩)
    · exact .inr (.inr ⟨z.symm, y⟩)
  · exact .inr (.inl z)
theorem rank_tr (a c d : Str) (h1 : PySem.W.dataLe false rankD a c = true) (h2 : PySem.W.dataLe false rankD c d = true) : PySem.W.dataLe false rankD a d = true := by
  rw [rankLe, decide_eq_true_eq] at h1 h2 ⊢
  rcases h1 with h1 | ⟨h1, h1'⟩
  · rcases h2 with h2 | ⟨h2, _⟩
    · exact .inl (by omega)
    · exact .inl (by omega)
  · rcases h2 with h2 | ⟨h2, h2'⟩
    · exact .inl (by omega)
    · exact .inr ⟨by omega, List.le_trans h1' h2'⟩
/-- a stands ahead of c -/
def rkLt (a c : Str) : Bool := !PySem.W.dataLe false rankD c a
theorem rkLt_of {a c : Str} (h : PySem.W.dataLe false rankD a c = true) (hn : a ≠ c) : rkLt a c = true := by
  unfold rkLt
  cases e : PySem.W.dataLe false rankD c a with
  | false => rfl
  | true => exact absurd (rank_anti h e) hn
theorem rkLt_ne {a c : Str} (h : rkLt a c = true) : a ≠ c := fun e => by
  subst e
  have := rank_tot a a
  unfold rkLt at h
  rw [Bool.or_self] at this
  rw [this] at h
  cases h
theorem sortN_lt {l : List Str} (h : l.Nodup) : (sortN l).Pairwise fun a c => rkLt a c = true := by
  have h1 := List.pairwise_mergeSort rank_tr rank_tot l
  have h2 : (sortN l).Nodup := (sortN_perm l).nodup_iff.mpr h
  exact (h1.and h2).imp fun ⟨a, c⟩ => rkLt_of a c
def rksLt : List Str → List Str → Bool
  | [], [] => false
  | [], _ :: _ => true
  | _ :: _, [] => false
  | a :: w, c :: v => if a = c then rksLt w v else rkLt a c
theorem toks_nil : PySem.W.keyToksAll [] = [.inl 0] := by rw [PySem.W.keyToksAll]
theorem toks_cons (x : PyData) (xs : List PyData) : PySem.W.keyToksAll (x :: xs) = .inl 1 :: (PySem.W.keyToks x ++ PySem.W.keyToksAll xs) := by rw [PySem.W.keyToksAll]
theorem rkd_eqv (a c : Str) : PyData.eqv (rankD a) (rankD c) = decide (a = c) := by
  unfold rankD
  simp only [PyData.eqv, PyData.eqvAll]
  by_cases h : a = c
  · subst h; simp
  · rw [decide_eq_false h]
    have : (a == c) = false := by simpa using h
    rw [this]
    simp
theorem ranks_lt : ∀ w v : List Str, PyProof.Rows.lexLt PyProof.Rows.itemOrd (PySem.W.keyToksAll (w.map rankD)) (PySem.W.keyToksAll (v.map rankD)) = rksLt w v
  | [], [] => PyProof.Rows.lex_irrefl _
  | [], y :: v => by
    rw [List.map_nil, List.map_cons, toks_nil, toks_cons]
    exact (PySem.W.lex_atom (by decide) _ _).trans (by show PyProof.Rows.lexLt PyProof.Rows.itemOrd [Sum.inl 0] [Sum.inl 1] = true; decide +kernel)
  | x :: w, [] => by
    rw [List.map_nil, List.map_cons, toks_nil, toks_cons]
    exact (PySem.W.lex_atom (by decide) _ _).trans (by show PyProof.Rows.lexLt PyProof.Rows.itemOrd [Sum.inl 1] [Sum.inl 0] = false; decide +kernel)
  | x :: w, y :: v => by
    rw [List.map_cons, List.map_cons, PySem.W.dataLt_cons (alike_rk x y), rkd_eqv, ranks_lt w v]
    show _ = if x = y then rksLt w v else rkLt x y
    by_cases h : x = y
    · rw [decide_eq_true h, if_pos rfl, if_pos h]
    · rw [decide_eq_false h, if_neg Bool.false_ne_true, if_neg h]
      unfold rkLt
      rw [PySem.W.dataLe_eq]
      show _ = !(!_)
      rw [Bool.not_not]
theorem ranksLe (w v : List Str) : PySem.W.dataLe false ranksD w v = !rksLt v w := by
  rw [PySem.W.dataLe_eq]
  show (!PySem.W.dataLt (ranksD v) (ranksD w)) = _
  unfold ranksD
  rw [PySem.W.dataLt_list, ranks_lt]
theorem ranks_tot (w v : List Str) : (PySem.W.dataLe false ranksD w v || PySem.W.dataLe false ranksD v w) = true := by
  rw [ranksLe, ranksLe]
  cases h1 : rksLt v w with
  | false => rfl
  | true =>
    cases h2 : rksLt w v with
    | false => rfl
    | true =>
      rw [← ranks_lt] at h1 h2
      have := PyProof.Rows.lex_trans _ _ _ h1 h2
      rw [PyProof.Rows.lex_irrefl] at this
      cases this
theorem rks_anti : ∀ {w v : List Str}, rksLt w v = false → rksLt v w = false → w = v
  | [], [], _, _ => rfl
  | [], _ :: _, h, _ => by cases h
  | _ :: _, [], _, h => by cases h
  | a :: w, c :: v, h1, h2 => by
    unfold rksLt at h1 h2
    by_cases h : a = c
    · subst h
      rw [if_pos rfl] at h1 h2
      rw [rks_anti h1 h2]
    · rw [if_neg h] at h1
      rw [if_neg fun z => h z.symm] at h2
      unfold rkLt at h1 h2
      rw [Bool.not_eq_false'] at h1 h2
      exact absurd (rank_anti h2 h1) h
theorem ranks_tr (w v u : List Str) (h1 : PySem.W.dataLe false ranksD w v = true) (h2 : PySem.W.dataLe false ranksD v u = true) : PySem.W.dataLe false ranksD w u = true := by
  rw [ranksLe, Bool.not_eq_true'] at h1 h2 ⊢
  cases h3 : rksLt u w with
  | false => rfl
  | true =>
    cases h4 : rksLt w v with
    | true =>
      rw [← ranks_lt] at h3 h4 h2
      rw [PyProof.Rows.lex_trans _ _ _ h3 h4] at h2
      cases h2
    | false =>
      rw [rks_anti h4 h1] at h3
      rw [h2] at h3
      cases h3
/-- what is in order stays -/
theorem sortW_is {l m : List (List Str)} (hp : l.Perm m) (hm : m.Pairwise fun w v => rksLt w v = true) : sortW l = m := by
  refine List.Perm.eq_of_pairwise (le := fun a c => PySem.W.dataLe false ranksD a c = true) (fun a c _ _ h1 h2 => ?_) (List.pairwise_mergeSort ranks_tr ranks_tot l) (hm.imp fun {w v} h => ?_) ((sortW_perm l).trans hp)
  · rw [ranksLe, Bool.not_eq_true'] at h1 h2
    exact rks_anti h2 h1
  · rw [ranksLe, Bool.not_eq_true']
    cases h2 : rksLt v w with
    | false => rfl
    | true =>
      rw [← ranks_lt] at h h2
      have := PyProof.Rows.lex_trans _ _ _ h h2
      rw [PyProof.Rows.lex_irrefl] at this
      cases this
theorem rks_snoc : ∀ {w v : List Str} (a c : Str), w.length = v.length → rksLt w v = true → rksLt (w ++ [a]) (v ++ [c]) = true
  | [], [], _, _, _, h => by cases h
  | [], _ :: _, _, _, h, _ => by cases h
  | _ :: _, [], _, _, h, _ => by cases h
  | x :: w, y :: v, a, c, hl, h => by
    show rksLt (x :: (w ++ [a])) (y :: (v ++ [c])) = true
    unfold rksLt at h ⊢
    by_cases e : x = y
    · rw [if_pos e] at h ⊢
      exact rks_snoc a c (by simpa using hl) h
    · rw [if_neg e] at h ⊢
      exact h
theorem rks_snoc2 : ∀ (w : List Str) {a c : Str}, rkLt a c = true → rksLt (w ++ [a]) (w ++ [c]) = true
  | [], a, c, h => by
    show rksLt [a] [c] = true
    unfold rksLt
    rw [if_neg (rkLt_ne h)]
    exact h
  | x :: w, a, c, h => by
    show rksLt (x :: (w ++ [a])) (x :: (w ++ [c])) = true
    unfold rksLt
    rw [if_pos rfl]
    exact rks_snoc2 w h
/-! ### a round of ways -/
def candsM (b : List Ent) (Q : List Str) (w : List Str) : List (List Str) := if lastW w ∈ Q then (newW b w).map fun m => w ++ [m] else []
def addW (ln : List (List Str)) (w : List Str) : List (List Str) := if lastW w ∈ keysW ln then ln else ln ++ [w]
theorem add_new (w : List Str) : ∀ (ms : List Str) (ln : List (List Str)), ms.Nodup → (ms.map fun m => w ++ [m]).foldl addW ln = ln ++ (ms.filter fun m => !decide (m ∈ keysW ln)).map fun m => w ++ [m]
  | [], ln, _ => (List.append_nil ln).symm
  | m :: ms, ln, h => by
    obtain ⟨h1, h2⟩ := List.nodup_cons.mp h
    rw [List.map_cons, List.foldl_cons]
    unfold addW
    rw [lastW_snoc, List.filter_cons]
    by_cases hm : m ∈ keysW ln
    · rw [if_pos hm, decide_eq_true hm, if_neg (by decide)]
      exact add_new w ms ln h2
    · rw [if_neg hm, decide_eq_false hm, if_pos (by decide), List.map_cons]
      have ih := add_new w ms (ln ++ [w ++ [m]]) h2
      unfold addW at ih
      rw [ih, List.append_assoc]
      have : (ms.filter fun x => !decide (x ∈ keysW (ln ++ [w ++ [m]]))) = ms.filter fun x => !decide (x ∈ keysW ln) := by
        refine List.filter_congr fun x hx => ?_
        have : (x ∈ keysW (ln ++ [w ++ [m]])) ↔ x ∈ keysW ln := by
          unfold keysW
          rw [List.map_append, List.map_cons, List.map_nil, lastW_snoc, List.mem_append]
          exact ⟨fun z => z.elim id fun z => absurd hx (by rw [List.mem_singleton.mp z]; exact h1), .inl⟩
        rw [decide_eq_decide.mpr this]
      rw [this]
      rfl
theorem ext_fold {b : List Ent} (hb : Bk b) (Q : List Str) (ln : List (List Str)) (w : List Str) : extW b Q ln w = (candsM b Q w).foldl addW ln := by
  unfold extW candsM
  split
  · exact (add_new w _ ln (newW_nd hb w)).symm
  · rfl
theorem exts_fold {b : List Ent} (hb : Bk b) (Q : List Str) : ∀ (l ln : List (List Str)), l.foldl (extW b Q) ln = (l.flatMap (candsM b Q)).foldl addW ln
  | [], _ => rfl
  | w :: l, ln => by rw [List.foldl_cons, exts_fold hb Q l, ext_fold hb, List.flatMap_cons, List.foldl_append]
theorem ext_pre (b : List Ent) (Q : List Str) (ln : List (List Str)) (w : List Str) : ∃ more, extW b Q ln w = ln ++ more := by
  unfold extW
  split
  · exact ⟨_, rfl⟩
  · exact ⟨[], (List.append_nil _).symm⟩
theorem run_pre (b : List Ent) (Q : List Str) : ∀ (f : Nat) (ln : List (List Str)) (a : Nat), ∃ more, waysRun b Q f ln a = ln ++ more
  | 0, ln, _ => ⟨[], (List.append_nil _).symm⟩
  | f + 1, ln, a => by
    rw [waysRun]
    cases ln[a]? with
    | none => exact ⟨[], (List.append_nil _).symm⟩
    | some w =>
      obtain ⟨m1, e1⟩ := ext_pre b Q ln w
      obtain ⟨m2, e2⟩ := run_pre b Q f (extW b Q ln w) (a + 1)
      exact ⟨m1 ++ m2, by
        show waysRun b Q f (extW b Q ln w) (a + 1) = _
        rw [e2, e1, List.append_assoc]⟩
theorem run_layer (b : List Ent) (Q : List Str) (f : Nat) : ∀ (rest pre new : List (List Str)), waysRun b Q (rest.length + f) (pre ++ (rest ++ new)) pre.length = waysRun b Q f (rest.foldl (extW b Q) (pre ++ (rest ++ new))) (pre.length + rest.length)
  | [], pre, new => by rw [List.length_nil, Nat.zero_add]; rfl
  | w :: rest, pre, new => by
    have e : (pre ++ (w :: rest ++ new))[pre.length]? = some w := by
      rw [List.getElem?_append_right (Nat.le_refl _), Nat.sub_self]
      rfl
    rw [show (w :: rest).length + f = (rest.length + f) + 1 by rw [List.length_cons]; omega, waysRun_at e, List.foldl_cons]
    obtain ⟨more, em⟩ := ext_pre b Q (pre ++ (w :: rest ++ new)) w
    rw [em]
    have e2 : pre ++ (w :: rest ++ new) ++ more = (pre ++ [w]) ++ (rest ++ (new ++ more)) := by simp
    have e3 : pre.length + 1 = (pre ++ [w]).length := by simp
    rw [e2, e3, run_layer b Q f rest (pre ++ [w]) (new ++ more)]
    congr 1
    simp
    omega
/-- the law's keeping and the program's, side by side -/
theorem keep_both (met0 : List Str) : ∀ (cs : List (List Str)) (ln base ways : List (List Str)) (met : List Str), (∀ x, x ∈ met ↔ x ∈ keysW ln) → ln = base ++ ways → (∀ x ∈ met0, x ∈ met) →
    ((∀ x, x ∈ ((cs.filter fun c => !decide (lastW c ∈ met0)).foldl keepStep (met, ways)).1 ↔ x ∈ keysW (cs.foldl addW ln)) ∧ cs.foldl addW ln = base ++ ((cs.filter fun c => !decide (lastW c ∈ met0)).foldl keepStep (met, ways)).2)
  | [], ln, base, ways, met, h1, h2, _ => ⟨h1, h2⟩
  | c :: cs, ln, base, ways, met, h1, h2, h3 => by
    rw [List.filter_cons, List.foldl_cons]
    by_cases h0 : lastW c ∈ met0
    · have ha : addW ln c = ln := if_pos ((h1 _).mp (h3 _ h0))
      rw [decide_eq_true h0, if_neg (by decide), ha]
      exact keep_both met0 cs ln base ways met h1 h2 h3
    · rw [decide_eq_false h0, if_pos (by decide), List.foldl_cons]
      by_cases hm : lastW c ∈ met
      · have ha : addW ln c = ln := if_pos ((h1 _).mp hm)
        have hk : keepStep (met, ways) c = (met, ways) := if_neg (by rw [decide_eq_true hm]; exact fun z => nomatch z)
        rw [ha, hk]
        exact keep_both met0 cs ln base ways met h1 h2 h3
      · have ha : addW ln c = ln ++ [c] := if_neg fun z => hm ((h1 _).mpr z)
        have hk : keepStep (met, ways) c = (met ++ [lastW c], ways ++ [c]) := if_pos (by rw [decide_eq_false hm]; rfl)
        rw [ha, hk]
        refine keep_both met0 cs _ base _ _ (fun x => ?_) (by rw [h2, List.append_assoc]) fun x hx => List.mem_append_left _ (h3 x hx)
        unfold keysW
        rw [List.map_append, List.mem_append, List.mem_append]
        exact or_congr (h1 x) Iff.rfl
theorem keep_sub : ∀ (cs : List (List Str)) (st : List Str × List (List Str)), ∃ ks, (cs.foldl keepStep st).2 = st.2 ++ ks ∧ ks.Sublist cs
  | [], st => ⟨[], (List.append_nil _).symm, List.Sublist.refl _⟩
  | c :: cs, st => by
    rw [List.foldl_cons]
    obtain ⟨ks, e1, e2⟩ := keep_sub cs (keepStep st c)
    unfold keepStep at e1 ⊢
    split at e1
    · rename_i h
      exact ⟨c :: ks, by rw [if_pos h]; rw [e1, List.append_assoc]; rfl, e2.cons_cons c⟩
    · rename_i h
      exact ⟨ks, by rw [if_neg h]; exact e1, e2.cons c⟩
theorem perm_app {α β : Type} (f g : α → List β) : ∀ l : List α, (l.flatMap fun x => f x ++ g x).Perm (l.flatMap f ++ l.flatMap g)
  | [] => .refl _
  | x :: l => by
    rw [List.flatMap_cons, List.flatMap_cons, List.flatMap_cons]
    have ih := perm_app f g l
    refine ((ih.append_left (f x ++ g x))).trans ?_
    rw [List.append_assoc, List.append_assoc]
    refine List.Perm.append_left (f x) ?_
    rw [← List.append_assoc, ← List.append_assoc]
    exact List.Perm.append_right _ List.perm_append_comm
theorem perm_swap {α β γ : Type} (g : α → β → List γ) (l2 : List β) : ∀ l1 : List α, (l1.flatMap fun x => l2.flatMap (g x)).Perm (l2.flatMap fun y => l1.flatMap fun x => g x y)
  | [] => by
    have : (l2.flatMap fun _ => ([] : List γ)) = [] := by induction l2 with | nil => rfl | cons y l2 ih => rw [List.flatMap_cons, ih]; rfl
    show ([] : List γ).Perm (l2.flatMap fun y => [])
    rw [this]
  | x :: l1 => by
    rw [List.flatMap_cons]
    refine ((perm_swap g l2 l1).append_left _).trans ?_
    refine ((perm_app (g x) (fun y => l1.flatMap fun x => g x y) l2).symm).trans (.of_eq ?_)
    rfl
theorem perm_each {α β : Type} {f g : α → List β} : ∀ {l : List α}, (∀ x ∈ l, (f x).Perm (g x)) → (l.flatMap f).Perm (l.flatMap g)
  | [], _ => .refl _
  | x :: l, h => by
    rw [List.flatMap_cons, List.flatMap_cons]
    exact (h x List.mem_cons_self).append (perm_each fun y hy => h y (List.mem_cons_of_mem _ hy))

/-! ### the rounds: one -/
theorem pass_iff {b : List Ent} (hb : Bk b) (se p : Str) {n : Str} : n ∈ passM b se p ↔ ∃ e ∈ b, e.nm = n ∧ n ∈ lawPassM b se ∧ p ∉ e.left := by
  unfold passM
  rw [List.mem_map]
  constructor
  · rintro ⟨e, he, rfl⟩
    obtain ⟨h1, h2⟩ := List.mem_filter.mp he
    rw [Bool.and_eq_true, Bool.not_eq_true', decide_eq_false_iff_not] at h2
    exact ⟨e, h1, rfl, (gM_pass hb se _ (isL_me h1)).mp h2.1, h2.2⟩
  · rintro ⟨e, he, rfl, h1, h2⟩
    exact ⟨e, List.mem_filter.mpr ⟨he, by rw [Bool.and_eq_true, Bool.not_eq_true', decide_eq_false_iff_not]; exact ⟨(gM_pass hb se _ (isL_me he)).mpr h1, h2⟩⟩, rfl⟩
theorem cand_others {b : List Ent} {P met : List Str} {p : Str} {w : List Str} (h : ∀ e ∈ b, lastW w ≠ e.nm) : b.flatMap (fun e => candL P p met e w) = [] := by
  induction b with
  | nil => rfl
  | cons e b ih => rw [List.flatMap_cons, cand_none (h e List.mem_cons_self), ih fun x hx => h x (List.mem_cons_of_mem _ hx)]; rfl
theorem cand_one {P met : List Str} {p : Str} {w : List Str} : ∀ {b : List Ent}, (b.map Ent.nm).Nodup → ∀ {e : Ent}, e ∈ b → lastW w = e.nm → b.flatMap (fun e => candL P p met e w) = candL P p met e w
  | [], _, _, h, _ => by cases h
  | x :: b, hn, e, h, hw => by
    obtain ⟨h1, h2⟩ := List.nodup_cons.mp hn
    rw [List.flatMap_cons]
    rcases List.mem_cons.mp h with rfl | z
    · rw [cand_others fun y hy q => h1 (by rw [← hw, q]; exact List.mem_map_of_mem hy), List.append_nil]
    · have : lastW w ≠ x.nm := fun q => h1 (by rw [← q, hw]; exact List.mem_map_of_mem z)
      rw [cand_none this, cand_one h2 z hw]
      rfl
theorem cand_perm {b : List Ent} (hb : Bk b) (se p : Str) (met : List Str) (w : List Str) : (b.flatMap fun e => candL (lawPassM b se) p met e w).Perm ((candsM b (passM b se p) w).filter fun c => !decide (lastW c ∈ met)) := by
  unfold candsM
  by_cases h : lastW w ∈ passM b se p
  · rw [if_pos h]
    obtain ⟨e, he, h1, h2, h3⟩ := (pass_iff hb se p).mp h
    rw [cand_one hb.nd he h1.symm]
    have hc : (decide (lastW w = e.nm) && (decide (e.nm ∈ lawPassM b se) && !decide (p ∈ e.left))) = true := by
      rw [decide_eq_true h1.symm, h1, decide_eq_true h2, decide_eq_false h3]
      rfl
    unfold candL
    rw [if_pos hc]
    have em : memsOf b (lastW w) = e.mem := by rw [← h1]; exact mems_self hb he
    have e1 : ((newW b w).map fun m => w ++ [m]).filter (fun c => !decide (lastW c ∈ met)) = ((newW b w).filter fun m => !decide (m ∈ met)).map fun m => w ++ [m] := by
      rw [List.filter_map]
      congr 1
      refine List.filter_congr fun m _ => ?_
      show (!decide (lastW (w ++ [m]) ∈ met)) = _
      rw [lastW_snoc]
    rw [e1]
    unfold newW
    rw [em]
    exact ((sortN_perm e.mem).symm.filter _).map _
  · rw [if_neg h, List.filter_nil]
    by_cases hx : ∃ e ∈ b, lastW w = e.nm
    · obtain ⟨e, he, h1⟩ := hx
      rw [cand_one hb.nd he h1]
      have hc : (decide (lastW w = e.nm) && (decide (e.nm ∈ lawPassM b se) && !decide (p ∈ e.left))) = false := by
        cases q : (decide (lastW w = e.nm) && (decide (e.nm ∈ lawPassM b se) && !decide (p ∈ e.left))) with
        | false => rfl
        | true =>
          rw [Bool.and_eq_true, Bool.and_eq_true, decide_eq_true_eq, decide_eq_true_eq, Bool.not_eq_true', decide_eq_false_iff_not] at q
          exact absurd ((pass_iff hb se p).mpr ⟨e, he, h1.symm, by rw [h1]; exact q.2.1, q.2.2⟩) h
      unfold candL
      rw [hc]
      exact .refl _
    · rw [cand_others fun e he q => hx ⟨e, he, q⟩]
theorem long_perm {b : List Ent} (hb : Bk b) (se p : Str) (met : List Str) (ways : List (List Str)) : (longL b (lawPassM b se) p met ways).Perm ((ways.flatMap (candsM b (passM b se p))).filter fun c => !decide (lastW c ∈ met)) := by
  unfold longL
  refine (perm_swap (fun e w => candL (lawPassM b se) p met e w) ways b).trans ?_
  rw [List.filter_flatMap]
  exact perm_each fun w _ => cand_perm hb se p met w
/-- ways of one round in order, all as long -/
structure Tier (k : Nat) (l : List (List Str)) : Prop where
  lt : l.Pairwise fun w v => rksLt w v = true
  ln : ∀ w ∈ l, w.length = k
theorem cands_lt {b : List Ent} (hb : Bk b) (Q w : List Str) : (candsM b Q w).Pairwise fun w v => rksLt w v = true := by
  unfold candsM
  split
  · unfold newW
    exact List.pairwise_map.mpr ((sortN_lt (memsOf_nd hb _)).imp fun {a c} h => rks_snoc2 w h)
  · exact .nil
theorem cands_in {b : List Ent} {Q w v : List Str} (h : v ∈ candsM b Q w) : ∃ m, v = w ++ [m] := by
  unfold candsM at h
  split at h
  · obtain ⟨m, _, rfl⟩ := List.mem_map.mp h
    exact ⟨m, rfl⟩
  · cases h
theorem Tier.cands {b : List Ent} (hb : Bk b) (Q : List Str) {k : Nat} : ∀ {l : List (List Str)}, Tier k l → Tier (k + 1) (l.flatMap (candsM b Q))
  | [], _ => ⟨.nil, fun w hw => by cases hw⟩
  | w :: l, h => by
    obtain ⟨h1, h2⟩ := List.pairwise_cons.mp h.lt
    have hw := h.ln w List.mem_cons_self
    have ih := Tier.cands hb Q (l := l) ⟨h2, fun v hv => h.ln v (List.mem_cons_of_mem _ hv)⟩
    rw [List.flatMap_cons]
    refine ⟨List.pairwise_append.mpr ⟨cands_lt hb Q w, ih.lt, fun c hc d hd => ?_⟩, fun c hc => ?_⟩
    · obtain ⟨m, rfl⟩ := cands_in hc
      obtain ⟨v, hv, hd⟩ := List.mem_flatMap.mp hd
      obtain ⟨n, rfl⟩ := cands_in hd
      exact rks_snoc m n (hw.trans (h.ln v (List.mem_cons_of_mem _ hv)).symm) (h1 v hv)
    · rcases List.mem_append.mp hc with z | z
      · obtain ⟨m, rfl⟩ := cands_in z
        rw [List.length_append, hw, List.length_singleton]
      · exact ih.ln c z
theorem sort_long {b : List Ent} (hb : Bk b) (se p : Str) (met : List Str) {ways : List (List Str)} {k : Nat} (ht : Tier k ways) : sortW (longL b (lawPassM b se) p met ways) = (ways.flatMap (candsM b (passM b se p))).filter fun c => !decide (lastW c ∈ met) :=
  sortW_is (long_perm hb se p met ways) ((ht.cands hb _).lt.filter _)
theorem WLine.steps {b : List Ent} {ns : List Str} {Q : List Str} (hb : Bk b) : ∀ (l : List (List Str)) {ln : List (List Str)}, WLine b ns ln → (∀ w ∈ l, w ∈ ln) → WLine b ns (l.foldl (extW b Q) ln)
  | [], _, h, _ => h
  | w :: l, ln, h, hl => by
    obtain ⟨more, em⟩ := ext_pre b Q ln w
    exact WLine.steps hb l (h.step hb (hl w List.mem_cons_self)) fun v hv => by rw [em]; exact List.mem_append_left _ (hl v (List.mem_cons_of_mem _ hv))
theorem find_no {l : List (List Str)} {p : Str} : (l.find? fun w => decide (lastW w = p)) = none ↔ p ∉ keysW l := by
  rw [List.find?_eq_none]
  constructor
  · intro h z
    obtain ⟨w, hw, e⟩ := List.mem_map.mp z
    exact h w hw (decide_eq_true e)
  · exact fun h w hw z => h (by rw [← of_decide_eq_true z]; exact List.mem_map_of_mem hw)
/-- the program's line, the law's rounds: the same first way -/
theorem first_eq {b : List Ent} (hb : Bk b) (se p : Str) {ns : List Str} : ∀ (f : Nat) (met : List Str) (tier base : List (List Str)) (g k : Nat), (∀ x, x ∈ met ↔ x ∈ keysW (base ++ tier)) → met.Nodup → Tier k tier → WLine b ns (base ++ tier) → p ∉ keysW base →
    (uni b ns).length + (if tier = [] then 0 else 1) ≤ f + met.length → (uni b ns).length + 1 ≤ g + base.length → (waysRun b (passM b se p) g (base ++ tier) base.length).find? (fun w => decide (lastW w = p)) = firstRun b (lawPassM b se) p f met tier := by
  intro f
  induction f with
  | zero =>
    intro met tier base g k h1 h1n h2 h3 h4 h5 h6
    have hml : met.length = (base ++ tier).length := by
      have : (keysW (base ++ tier)).length = (base ++ tier).length := List.length_map _
      rw [← this]
      exact ((List.perm_ext_iff_of_nodup h1n h3.nd).mpr h1).length_eq
    have hl := h3.len
    by_cases ht : tier = []
    · subst ht
      rw [List.append_nil, waysRun_end (Nat.le_refl _)]
      exact find_no.mpr h4
    · rw [if_neg ht] at h5
      omega
  | succ f ih =>
    intro met tier base g k h1 h1n h2 h3 h4 h5 h6
    have hml : met.length = (base ++ tier).length := by
      have : (keysW (base ++ tier)).length = (base ++ tier).length := List.length_map _
      rw [← this]
      exact ((List.perm_ext_iff_of_nodup h1n h3.nd).mpr h1).length_eq
    have hl := h3.len
    by_cases ht : tier = []
    · subst ht
      rw [List.append_nil, waysRun_end (Nat.le_refl _), firstRun, if_pos rfl]
      exact find_no.mpr h4
    rw [firstRun, if_neg ht]
    rw [if_neg ht] at h5
    cases q : tier.find? fun w => decide (lastW w = p) with
    | some w =>
      obtain ⟨more, em⟩ := run_pre b (passM b se p) g (base ++ tier) base.length
      rw [em, List.append_assoc, List.find?_append, find_no.mpr h4, List.find?_append, q]
      rfl
    | none =>
      rw [List.length_append] at hml hl
      obtain ⟨g', rfl⟩ : ∃ g', g = tier.length + g' := ⟨g - tier.length, by omega⟩
      have rl := run_layer b (passM b se p) g' tier base []
      rw [List.append_nil] at rl
      rw [rl]
      have ef := exts_fold hb (passM b se p) tier (base ++ tier)
      obtain ⟨k1, k2⟩ := keep_both met (tier.flatMap (candsM b (passM b se p))) (base ++ tier) (base ++ tier) [] met h1 (List.append_nil _).symm fun _ h => h
      have en : nextL b (lawPassM b se) p met tier = ((tier.flatMap (candsM b (passM b se p))).filter fun c => !decide (lastW c ∈ met)).foldl keepStep (met, []) := by
        unfold nextL
        rw [sort_long hb se p met h2]
      rw [← en] at k1 k2
      have w1 := WLine.steps (Q := passM b se p) hb tier h3 fun w hw => List.mem_append_right _ hw
      rw [ef] at w1 ⊢
      rw [k2] at w1 k1 ⊢
      have kz : (nextL b (lawPassM b se) p met tier).1.length = met.length + (nextL b (lawPassM b se) p met tier).2.length ∧ (nextL b (lawPassM b se) p met tier).1.Nodup := by
        have gen : ∀ (l : List (List Str)) (st : List Str × List (List Str)), st.1.length = met.length + st.2.length → st.1.Nodup → (l.foldl keepStep st).1.length = met.length + (l.foldl keepStep st).2.length ∧ (l.foldl keepStep st).1.Nodup := fun l => by
          induction l with
          | nil => exact fun st a c => ⟨a, c⟩
          | cons c l ih2 =>
            intro st a d
            rw [List.foldl_cons]
            refine ih2 _ ?_ ?_
            · unfold keepStep
              split
              · show (st.1 ++ [lastW c]).length = met.length + (st.2 ++ [c]).length
                rw [List.length_append, List.length_append, List.length_singleton, List.length_singleton]
                omega
              · exact a
            · unfold keepStep
              split
              · rename_i z
                have z' : lastW c ∉ st.1 := by simpa using z
                exact List.nodup_append.mpr ⟨d, List.nodup_cons.mpr ⟨by simp, List.nodup_nil⟩, fun x hx y hy e => z' (by rw [← List.mem_singleton.mp hy, ← e]; exact hx)⟩
              · exact d
        exact gen _ (met, []) rfl h1n
      obtain ⟨ks, e1, e2⟩ := keep_sub ((tier.flatMap (candsM b (passM b se p))).filter fun c => !decide (lastW c ∈ met)) (met, [])
      rw [← en] at e1
      have e3 : (nextL b (lawPassM b se) p met tier).2 = ks := e1
      have tc := h2.cands hb (passM b se p)
      have t2 : Tier (k + 1) (nextL b (lawPassM b se) p met tier).2 := by
        rw [e3]
        have s2 := e2.trans List.filter_sublist
        exact ⟨tc.lt.sublist s2, fun w hw => tc.ln w (s2.subset hw)⟩
      have z := ih (nextL b (lawPassM b se) p met tier).1 (nextL b (lawPassM b se) p met tier).2 (base ++ tier) g' (k + 1) k1 kz.2 t2 w1 (by
        have a1 := find_no.mp q
        unfold keysW
        rw [List.map_append]
        exact fun z => (List.mem_append.mp z).elim h4 a1) (by
        have := kz.1
        split
        · omega
        · rename_i c
          have := List.length_pos_iff.mpr c
          omega) (by rw [List.length_append]; omega)
      rw [← z, List.length_append]

theorem keys0 (ns : List Str) : keysW (ways0 ns) = sortN ns := by
  unfold keysW ways0
  rw [List.map_map]
  exact List.map_id' _
theorem tier0 {ns : List Str} (hn : ns.Nodup) : Tier 1 (ways0 ns) := by
  unfold ways0
  refine ⟨List.pairwise_map.mpr ((sortN_lt hn).imp fun {a c} h => rks_snoc2 [] h), fun w hw => ?_⟩
  obtain ⟨x, _, rfl⟩ := List.mem_map.mp hw
  rfl
/-- the program's way is the law's -/
theorem way_eq {b : List Ent} (hb : Bk b) (se p : Str) {ns : List Str} (hn : ns.Nodup) : whyWay b se ns p = firstM b ns (lawPassM b se) p := by
  have hs : ns.length ≤ (uni b ns).length := by unfold uni; rw [List.length_append]; omega
  exact first_eq hb se p ((uni b ns).length + 2) ns (ways0 ns) [] ((uni b ns).length + 1) 1 (fun x => by
    show x ∈ ns ↔ x ∈ keysW (ways0 ns)
    rw [keys0]
    exact (sortN_perm ns).mem_iff.symm) hn (tier0 hn) (wline0 hn) (fun h => nomatch h) (by split <;> omega) (Nat.le_refl _)
/-! ### whereto ways lead -/
theorem ext_keys (b : List Ent) (Q : List Str) (ln : List (List Str)) (w : List Str) : keysW (extW b Q ln w) = if lastW w ∈ Q then keysW ln ++ (newW b w).filter (fun m => !decide (m ∈ keysW ln)) else keysW ln := by
  unfold extW
  split
  · exact part_keys ln w (newW b w)
  · rfl
theorem new_iff {b : List Ent} {w : List Str} {m : Str} : m ∈ newW b w ↔ m ∈ memsOf b (lastW w) := (sortN_perm _).mem_iff
theorem run_least {b : List Ent} {Q : List Str} {T : Str → Prop} (hT : ∀ n, T n → n ∈ Q → ∀ m ∈ memsOf b n, T m) : ∀ (f : Nat) (ln : List (List Str)) (a : Nat), (∀ x ∈ keysW ln, T x) → ∀ x ∈ keysW (waysRun b Q f ln a), T x
  | 0, _, _, h => h
  | f + 1, ln, a, h => by
    rw [waysRun]
    cases e : ln[a]? with
    | none => exact h
    | some w =>
      refine run_least hT f _ _ fun x hx => ?_
      rw [ext_keys] at hx
      split at hx
      · rename_i c
        rcases List.mem_append.mp hx with z | z
        · exact h x z
        · exact hT _ (h _ (List.mem_map_of_mem (List.mem_of_getElem? e))) c x (new_iff.mp (List.mem_filter.mp z).1)
      · exact h x hx
theorem keys_get {ln : List (List Str)} {i : Nat} {w : List Str} (h : ln[i]? = some w) : lastW w ∈ keysW ln := List.mem_map_of_mem (List.mem_of_getElem? h)
theorem ext_sub (b : List Ent) (Q : List Str) (ln : List (List Str)) (w : List Str) : ∀ x ∈ keysW ln, x ∈ keysW (extW b Q ln w) := fun x hx => by
  rw [ext_keys]
  split
  · exact List.mem_append_left _ hx
  · exact hx
theorem run_closed {b : List Ent} (hb : Bk b) {Q ns : List Str} : ∀ (f : Nat) (ln : List (List Str)) (a : Nat), WLine b ns ln → a ≤ ln.length → (uni b ns).length + 1 ≤ f + a → (∀ i w, i < a → ln[i]? = some w → lastW w ∈ Q → ∀ m ∈ memsOf b (lastW w), m ∈ keysW ln) →
    ∀ n ∈ keysW (waysRun b Q f ln a), n ∈ Q → ∀ m ∈ memsOf b n, m ∈ keysW (waysRun b Q f ln a)
  | 0, ln, a, h, ha, hf, _ => by
    have := h.len
    omega
  | f + 1, ln, a, h, ha, hf, hd => by
    rw [waysRun]
    cases e : ln[a]? with
    | none =>
      have hle := List.getElem?_eq_none_iff.mp e
      show ∀ n ∈ keysW ln, n ∈ Q → ∀ m ∈ memsOf b n, m ∈ keysW ln
      intro n hn hq
      obtain ⟨w, hw, rfl⟩ := List.mem_map.mp hn
      obtain ⟨i, hi⟩ := List.mem_iff_getElem?.mp hw
      exact hd i w (by have := (List.getElem?_eq_some_iff.mp hi).1; omega) hi hq
    | some w =>
      have hlt := (List.getElem?_eq_some_iff.mp e).1
      have hl2 := extW_len b Q ln w
      refine run_closed hb f _ _ (h.step hb (List.mem_of_getElem? e)) (by omega) (by omega) fun i v hi hv hq m hm => ?_
      obtain ⟨more, em⟩ := ext_pre b Q ln w
      have hv2 : ln[i]? = some v := by
        rw [em, List.getElem?_append_left (by omega)] at hv
        exact hv
      by_cases z : i = a
      · subst z
        rw [e] at hv2
        cases hv2
        rw [ext_keys, if_pos hq]
        by_cases y : m ∈ keysW ln
        · exact List.mem_append_left _ y
        · exact List.mem_append_right _ (List.mem_filter.mpr ⟨new_iff.mpr hm, by rw [decide_eq_false y]; rfl⟩)
      · exact ext_sub b Q ln w m (hd i v (by omega) hv2 hq m hm)
theorem ways_closed {b : List Ent} (hb : Bk b) (Q : List Str) {ns : List Str} (hn : ns.Nodup) : ∀ n ∈ keysW (waysM b Q ns), n ∈ Q → ∀ m ∈ memsOf b n, m ∈ keysW (waysM b Q ns) :=
  run_closed hb _ _ _ (wline0 hn) (Nat.zero_le _) (Nat.le_refl _) fun i w hi => absurd hi (by omega)
theorem ways_names {b : List Ent} (Q : List Str) {ns : List Str} {n : Str} (h : n ∈ ns) : n ∈ keysW (waysM b Q ns) := by
  obtain ⟨more, e⟩ := run_pre b Q ((uni b ns).length + 1) (ways0 ns) 0
  unfold waysM
  rw [e]
  unfold keysW
  rw [List.map_append]
  refine List.mem_append_left _ ?_
  show n ∈ keysW (ways0 ns)
  rw [keys0]
  exact (sortN_perm ns).mem_iff.mpr h
theorem ways_met {b : List Ent} (hb : Bk b) (se p : Str) {ns : List Str} (hn : ns.Nodup) {x : Str} : x ∈ keysW (waysM b (passM b se p) ns) ↔ x ∈ metM b ns (lawPassM b se) p := by
  constructor
  · refine run_least (T := fun x => x ∈ metM b ns (lawPassM b se) p) (fun n h1 h2 m hm => ?_) _ _ _ (fun x hx => ?_) x
    · obtain ⟨e, he, rfl, h3, h4⟩ := (pass_iff hb se p).mp h2
      exact metM_closed hb hn e he h1 h3 h4 m (by rw [mems_self hb he] at hm; exact hm)
    · rw [keys0] at hx
      exact met_names ((sortN_perm ns).mem_iff.mp hx)
  · refine metM_least (T := fun x => x ∈ keysW (waysM b (passM b se p) ns)) (fun x hx => ways_names _ hx) (fun e he h1 h2 h3 m hm => ?_) x
    exact ways_closed hb _ hn e.nm h1 ((pass_iff hb se p).mpr ⟨e, he, rfl, h2, h3⟩) m (by rw [mems_self hb he]; exact hm)
theorem clo_in {b : List Ent} {P : List Str} {p n x : Str} : x ∈ clo b P p n ↔ x = n ∧ n ∈ P ∧ ∃ e ∈ b, e.nm = n ∧ p ∉ e.left := by
  unfold clo clo1
  rw [List.mem_map]
  constructor
  · rintro ⟨e, he, rfl⟩
    obtain ⟨h1, h2⟩ := List.mem_filter.mp he
    rw [Bool.and_eq_true, Bool.and_eq_true, decide_eq_true_eq, decide_eq_true_eq, Bool.not_eq_true', decide_eq_false_iff_not] at h2
    exact ⟨rfl, h2.2.1, e, h1, h2.1, h2.2.2⟩
  · rintro ⟨rfl, h1, e, he, h2, h3⟩
    exact ⟨e, List.mem_filter.mpr ⟨he, by rw [decide_eq_true h2, decide_eq_true h1, decide_eq_false h3]; rfl⟩, rfl⟩
theorem clos_nd {b : List Ent} (hb : Bk b) (P : List Str) (p : Str) : ∀ {l : List Str}, l.Nodup → (l.flatMap (clo b P p)).Nodup
  | [], _ => List.nodup_nil
  | n :: l, h => by
    obtain ⟨h1, h2⟩ := List.nodup_cons.mp h
    rw [List.flatMap_cons]
    refine List.nodup_append.mpr ⟨?_, clos_nd hb P p h2, fun x hx y hy e => ?_⟩
    · have hl := clo_len hb P p n
      cases q : clo b P p n with
      | nil => exact List.nodup_nil
      | cons a r =>
        rw [q] at hl
        have : r = [] := List.eq_nil_of_length_eq_zero (by rw [List.length_cons] at hl; omega)
        subst this
        exact List.nodup_cons.mpr ⟨by simp, List.nodup_nil⟩
    · obtain ⟨m, hm, hy⟩ := List.mem_flatMap.mp hy
      rw [clo_mem hx, clo_mem hy] at e
      exact h1 (by rw [e]; exact hm)
theorem shut_eq {b : List Ent} (hb : Bk b) (se p : Str) {ns : List Str} (hn : ns.Nodup) : whyShut b se ns p = closedM b ns (lawPassM b se) p := by
  unfold whyShut closedM
  refine sortN_eq ((List.perm_ext_iff_of_nodup ((ways_line hb hn _).nd.filter _) (clos_nd hb _ _ (met_line2 hb hn).nd)).mpr fun x => ?_)
  rw [List.mem_filter, decide_eq_true_eq, ways_met hb se p hn, pass_iff hb, List.mem_flatMap]
  constructor
  · rintro ⟨h1, e, he, h2, h3, h4⟩
    exact ⟨x, h1, clo_in.mpr ⟨rfl, h3, e, he, h2, h4⟩⟩
  · rintro ⟨n, hn, hx⟩
    obtain ⟨rfl, h3, e, he, h2, h4⟩ := clo_in.mp hx
    exact ⟨hn, e, he, h2, h3, h4⟩
/-- reached just where there is a way -/
theorem reach_way {b : List Ent} (hb : Bk b) (se p : Str) {ns : List Str} (hn : ns.Nodup) (hl : isL b p = false) : p ∈ reachedM b (gM b se) ns ↔ whyWay b se ns p ≠ none := by
  have h1 : p ∈ reachedM b (gM b se) ns ↔ p ∈ metM b ns (lawPassM b se) p := by
    unfold reachedM
    have hG : ∀ n, isL b n = true → (goesM b (gM b se) p n = true ↔ (n ∈ lawPassM b se ∧ p ∉ leftOf b n)) := fun n hl => by
      unfold goesM
      rw [Bool.and_eq_true, gM_pass hb se n hl, Bool.not_eq_true', decide_eq_false_iff_not]
    rw [(sortN_perm _).mem_iff, List.mem_filter, List.mem_filter, decide_eq_true_eq, Bool.not_eq_true', met_come hb hn hG]
    constructor
    · exact fun h => h.2
    · intro h
      refine ⟨⟨?_, hl⟩, h⟩
      refine come_least (T := fun x => x ∈ come b (gM b se) ns) (fun x hx => come_names hx) (fun n hm hl hgn m hmm => ?_) p ((met_come hb hn hG).mpr h)
      unfold goesM at hgn
      exact come_closed hb hn hm hl (Bool.and_eq_true_iff.mp hgn).1 hmm
  rw [h1, ← ways_met hb se p hn]
  unfold whyWay
  constructor
  · exact fun h z => find_no.mp z h
  · intro h
    by_cases z : p ∈ keysW (waysM b (passM b se p) ns)
    · exact z
    · exact absurd (find_no.mpr z) h
/-! ### ways show what they tell -/
structure WOk (b : List Ent) (Q ns w : List Str) : Prop where
  hd : ∃ x r, w = x :: r ∧ x ∈ ns
  st : (w.zip (w.drop 1)).all (stepOk b Q) = true
theorem zip_snoc : ∀ (x : Str) (r : List Str) (m : Str), ((x :: r) ++ [m]).zip (((x :: r) ++ [m]).drop 1) = (x :: r).zip ((x :: r).drop 1) ++ [(lastW (x :: r), m)]
  | x, [], m => rfl
  | x, y :: r, m => by
    have ih := zip_snoc y r m
    show (x, y) :: ((y :: r) ++ [m]).zip (((y :: r) ++ [m]).drop 1) = (x, y) :: ((y :: r).zip ((y :: r).drop 1) ++ [(lastW (x :: y :: r), m)])
    rw [ih]
    rfl
theorem WOk.add {b : List Ent} {Q ns w : List Str} {m : Str} (h : WOk b Q ns w) (h1 : lastW w ∈ Q) (h2 : m ∈ memsOf b (lastW w)) : WOk b Q ns (w ++ [m]) := by
  obtain ⟨x, r, rfl, hx⟩ := h.hd
  refine ⟨⟨x, r ++ [m], rfl, hx⟩, ?_⟩
  rw [zip_snoc, List.all_append, h.st, List.all_cons, List.all_nil]
  unfold stepOk
  rw [decide_eq_true h1, decide_eq_true h2]
  rfl
theorem run_ok {b : List Ent} {Q ns : List Str} : ∀ (f : Nat) (ln : List (List Str)) (a : Nat), (∀ w ∈ ln, WOk b Q ns w) → ∀ w ∈ waysRun b Q f ln a, WOk b Q ns w
  | 0, _, _, h => h
  | f + 1, ln, a, h => by
    rw [waysRun]
    cases e : ln[a]? with
    | none => exact h
    | some w =>
      refine run_ok f _ _ fun v hv => ?_
      unfold extW at hv
      split at hv
      · rename_i c
        rcases List.mem_append.mp hv with z | z
        · exact h v z
        · obtain ⟨m, hm, rfl⟩ := List.mem_map.mp z
          exact (h w (List.mem_of_getElem? e)).add c (new_iff.mp (List.mem_filter.mp hm).1)
      · exact h v hv
theorem why_in {b : List Ent} {se p : Str} {ns w : List Str} (h : whyWay b se ns p = some w) : w ∈ waysM b (passM b se p) ns ∧ lastW w = p := ⟨List.mem_of_find?_eq_some h, of_decide_eq_true (by have := List.find?_some h; exact this)⟩
theorem way_ok {b : List Ent} {se p : Str} {ns w : List Str} (h : whyWay b se ns p = some w) : WOk b (passM b se p) ns w := by
  refine run_ok _ _ _ (fun v hv => ?_) w (why_in h).1
  obtain ⟨x, hx, rfl⟩ := List.mem_map.mp hv
  exact ⟨⟨x, [], rfl, (sortN_perm ns).mem_iff.mp hx⟩, rfl⟩
theorem way_shows {b : List Ent} {se p : Str} {ns w : List Str} (hl : isL b p = false) (h : whyWay b se ns p = some w) : isWayM b (passM b se p) ns p w = true := by
  have ok := way_ok h
  have e2 := (why_in h).2
  obtain ⟨x, r, rfl, hx⟩ := ok.hd
  unfold isWayM
  rw [ok.st, Bool.and_true]
  show (decide (x ∈ ns) && decide ((x :: r).getLast? = some p) && !isL b p) = true
  rw [decide_eq_true hx, hl, lastW_get (by simp), e2, decide_eq_true rfl]
  rfl
/-- held against another one -/
theorem way_else {b : List Ent} {se p q : Str} {ns w : List Str} (hl : isL b p = false) (h : whyWay b se ns p = some w) : isWayM b (passM b se q) ns q w = decide (lastW w = q) := by
  by_cases e : lastW w = q
  · rw [decide_eq_true e]
    rw [(why_in h).2] at e
    subst e
    exact way_shows hl h
  · rw [decide_eq_false e]
    obtain ⟨x, r, rfl, hx⟩ := (way_ok h).hd
    unfold isWayM
    have : wayHead b ns q (x :: r) = false := by
      show (decide (x ∈ ns) && decide ((x :: r).getLast? = some q) && !isL b q) = false
      rw [lastW_get (by simp), decide_eq_false fun z => e (Option.some.inj z), Bool.and_false, Bool.false_and]
    rw [this, Bool.false_and]
/-! ### lists that show that there is none -/
theorem pair_near {R : Str → Str → Prop} : ∀ {l : List Str}, l.Pairwise R → ∀ q ∈ l.zip (l.drop 1), R q.1 q.2
  | [], _, q, h => by cases h
  | [_], _, q, h => by cases h
  | x :: y :: l, h, q, hq => by
    obtain ⟨h1, h2⟩ := List.pairwise_cons.mp h
    rcases List.mem_cons.mp (show q ∈ (x, y) :: (y :: l).zip ((y :: l).drop 1) from hq) with rfl | z
    · exact h1 y List.mem_cons_self
    · exact pair_near h2 q z
theorem up_sort {l : List Str} (h : l.Nodup) : upB (sortN l) = true := by
  unfold upB
  rw [Bool.not_eq_true', List.any_eq_false]
  intro q hq
  have := pair_near (sortN_lt h) q hq
  unfold rkLt at this
  rw [Bool.not_eq_true'] at this
  rw [this]
  exact Bool.false_ne_true
theorem shut_in {b : List Ent} {se p n : Str} {ns : List Str} : n ∈ whyShut b se ns p ↔ n ∈ keysW (waysM b (passM b se p) ns) ∧ n ∈ passM b se p := by
  unfold whyShut
  rw [(sortN_perm _).mem_iff, List.mem_filter, decide_eq_true_eq]
theorem shut_up {b : List Ent} (hb : Bk b) (se p : Str) {ns : List Str} (hn : ns.Nodup) : upB (whyShut b se ns p) = true := up_sort ((ways_line hb hn _).nd.filter _)
theorem metL_in {b : List Ent} {ns l : List Str} {x : Str} : x ∈ metL b ns l ↔ x ∈ ns ∨ ∃ n ∈ l, x ∈ memsOf b n := by
  unfold metL
  rw [List.mem_append, List.mem_flatMap]
theorem shut_shows {b : List Ent} (hb : Bk b) {se p : Str} {ns : List Str} (hn : ns.Nodup) (h : whyWay b se ns p = none) : shutShows b (passM b se p) ns p (whyShut b se ns p) = true := by
  have np : p ∉ keysW (waysM b (passM b se p) ns) := find_no.mp h
  have sub : ∀ x ∈ metL b ns (whyShut b se ns p), x ∈ keysW (waysM b (passM b se p) ns) := fun x hx => by
    rcases metL_in.mp hx with z | ⟨n, hn2, hx⟩
    · exact ways_names _ z
    · obtain ⟨h1, h2⟩ := shut_in.mp hn2
      exact ways_closed hb _ hn n h1 h2 x hx
  unfold shutShows
  rw [shut_up hb se p hn, List.all_eq_true.mpr fun n hn2 => decide_eq_true (shut_in.mp hn2).2, decide_eq_false fun z => np (ways_names _ z), decide_eq_false fun z => np (sub p z), List.all_eq_true.mpr fun n hn2 => ?_]
  · rfl
  · obtain ⟨h1, h2⟩ := List.mem_filter.mp hn2
    exact decide_eq_true (shut_in.mpr ⟨sub n h1, of_decide_eq_true h2⟩)
/-! ### lists held against another one -/
def leftE (b : List Ent) (q : Str) : List Str := (b.filter fun e => decide (q ∈ e.left)).map Ent.nm
def metE (b : List Ent) (ns l : List Str) : List Str := ns ++ b.flatMap fun e => if decide (e.nm ∈ l) = true then e.mem else []
def goesE (b : List Ent) (se q : Str) : List Str := (lawPassM b se).filter fun n => !decide (n ∈ leftE b q)
def dueE (b : List Ent) (se q : Str) (ns l : List Str) : Bool := (l.all fun n => decide (n ∈ goesE b se q)) && !decide (q ∈ metE b ns l)
def elseE (b : List Ent) (se q : Str) (ns l : List Str) : Bool := dueE b se q ns l && ((metE b ns l).filter fun n => decide (n ∈ goesE b se q)).all fun n => decide (n ∈ l)
theorem goesE_in {b : List Ent} (hb : Bk b) (se q : Str) {n : Str} : n ∈ goesE b se q ↔ n ∈ passM b se q := by
  unfold goesE leftE
  rw [List.mem_filter, Bool.not_eq_true', decide_eq_false_iff_not, pass_iff hb]
  constructor
  · rintro ⟨h1, h2⟩
    obtain ⟨e, he, rfl⟩ := List.mem_map.mp h1
    obtain ⟨he, _⟩ := List.mem_filter.mp he
    exact ⟨e, he, rfl, h1, fun z => h2 (List.mem_map.mpr ⟨e, List.mem_filter.mpr ⟨he, decide_eq_true z⟩, rfl⟩)⟩
  · rintro ⟨e, he, rfl, h1, h2⟩
    refine ⟨h1, fun z => ?_⟩
    obtain ⟨f, hf, h3⟩ := List.mem_map.mp z
    obtain ⟨hf, h4⟩ := List.mem_filter.mp hf
    rw [nm_inj hb.nd hf he h3] at h4
    exact h2 (of_decide_eq_true h4)
theorem metE_in {b : List Ent} (hb : Bk b) {ns l : List Str} (hl : ∀ n ∈ l, isL b n = true) {x : Str} : x ∈ metE b ns l ↔ x ∈ metL b ns l := by
  unfold metE
  rw [metL_in, List.mem_append, List.mem_flatMap]
  refine or_congr Iff.rfl ⟨?_, ?_⟩
  · rintro ⟨e, he, hx⟩
    split at hx
    · rename_i c
      exact ⟨e.nm, of_decide_eq_true c, by rw [mems_self hb he]; exact hx⟩
    · cases hx
  · rintro ⟨n, hn, hx⟩
    obtain ⟨e, h1, h2, rfl⟩ := isL_find (hl n hn)
    exact ⟨e, h2, by rw [if_pos (decide_eq_true hn), ← mems_self hb h2]; exact hx⟩
theorem shut_else {b : List Ent} (hb : Bk b) (se p q : Str) {ns : List Str} (hn : ns.Nodup) : shutShows b (passM b se q) ns q (whyShut b se ns p) = elseE b se q ns (whyShut b se ns p) := by
  have hl : ∀ n ∈ whyShut b se ns p, isL b n = true := fun n h => passM_L (shut_in.mp h).2
  have hup := shut_up hb se p hn
  generalize whyShut b se ns p = l at hl hup
  have e1 : (l.all fun n => decide (n ∈ goesE b se q)) = l.all fun n => decide (n ∈ passM b se q) := by
    congr 1
    funext n
    exact decide_eq_decide.mpr (goesE_in hb se q)
  have e2 : decide (q ∈ metE b ns l) = decide (q ∈ metL b ns l) := decide_eq_decide.mpr (metE_in hb hl)
  have e3 : (((metE b ns l).filter fun n => decide (n ∈ goesE b se q)).all fun n => decide (n ∈ l)) = (((metL b ns l).filter fun n => decide (n ∈ passM b se q)).all fun n => decide (n ∈ l)) := by
    rw [Bool.eq_iff_iff, List.all_eq_true, List.all_eq_true]
    constructor
    · intro h n hn2
      obtain ⟨h1, h2⟩ := List.mem_filter.mp hn2
      exact h n (List.mem_filter.mpr ⟨(metE_in hb hl).mpr h1, decide_eq_true ((goesE_in hb se q).mpr (of_decide_eq_true h2))⟩)
    · intro h n hn2
      obtain ⟨h1, h2⟩ := List.mem_filter.mp hn2
      exact h n (List.mem_filter.mpr ⟨(metE_in hb hl).mp h1, decide_eq_true ((goesE_in hb se q).mp (of_decide_eq_true h2))⟩)
  unfold shutShows elseE dueE
  rw [e1, e2, e3, hup, Bool.and_true]
  by_cases h : q ∈ ns
  · have : q ∈ metL b ns l := metL_in.mpr (.inl h)
    rw [decide_eq_true h, decide_eq_true this]
    simp
  · rw [decide_eq_false h, Bool.not_false, Bool.and_true, Bool.and_assoc]

/-! ### what is told, right -/
theorem pairT_fz (x y : List Str) : (pairT x y).fz = en (x, y) := by
  unfold pairT
  rw [OT.fz, OT.fzs, OT.fzs, OT.fzs, OT.fz, OT.fz, fzs_im, fzs_im]
  rfl
theorem nmT_fz (C : Str) (l : List Str) : OT.fz (.ins C [("names", nmsT l)]) = .ins C [("names", .lst (l.map .str))] := by
  rw [OT.fz, OT.fzF, OT.fzF, lstI_fz]
theorem nmT_nd (C : Str) (l : List Str) : OT.nd (.ins C [("names", nmsT l)]) = true := by
  rw [OT.nd, OT.ndF, OT.ndF, lstI_nd]
  rfl
theorem memsOf_le (b : List Ent) (n : Str) : (memsOf b n).length ≤ (b.flatMap Ent.mem).length := by
  unfold memsOf
  cases h : b.find? fun e => decide (e.nm = n) with
  | none => exact Nat.zero_le _
  | some e =>
    have he := List.mem_of_find?_eq_some h
    show e.mem.length ≤ _
    obtain ⟨l, r, rfl⟩ := List.append_of_mem he
    rw [List.flatMap_append, List.flatMap_cons, List.length_append, List.length_append]
    omega
theorem flat_le {f : Str → List Str} {k : Nat} (h : ∀ n, (f n).length ≤ k) : ∀ l : List Str, (l.flatMap f).length ≤ l.length * k
  | [] => Nat.zero_le _
  | n :: l => by
    have h1 := h n
    have h2 := flat_le h l
    rw [List.flatMap_cons, List.length_append, List.length_cons, Nat.succ_mul]
    omega
structure Told3 (G : Glb) (b : List Ent) (se p : Str) (ns : List Str) (C : Str) (l : List Str) (w : Bool) (A : List D → DS → Prop) : Prop where
  t : whyT b se ns p = .ins C [("names", nmsT l)]
  cls : Cls G.K (He.ga G.K C)
  noat : NoAttr G.K (He.ga G.K C) "names"
  isA : IsC G.K (He.ga G.K C) (He.ga G.K "Answer") true
  isW : IsC G.K (He.ga G.K C) (He.ga G.K "Way") w
  kinds : ∀ d, aKinds [.ins C [("names", d)]] (.own [.bl w, .bl (!w), .bl false, .bl false])
  shows : MethD G 9 C "shows" qShows A
  me : A [.ins C [("names", .lst (l.map .str))], bkD b, .str se, .lst (ns.map .str), .str p] (.im (.bl true))
  other : ∀ q, isL b q = false → A [.ins C [("names", .lst (l.map .str))], bkD b, .str se, .lst (ns.map .str), .str q] (.im (.bl (if w = true then decide (lastW l = q) else elseE b se q ns l)))
  first : firstM b ns (lawPassM b se) p = if w = true then some l else none
  found : w = false → l = closedM b ns (lawPassM b se) p
  way : w = !decide (whyWay b se ns p = none)
  ne : w = true → l ≠ []
  len : l.length ≤ 1000
  nm : ∀ n ∈ l, n ∈ uni b ns
theorem told3 {G : Glb} (Z : Facts G) {b : List Ent} (hb : Bk b) (se p : Str) {ns : List Str} (hns : Ns ns) (h8 : ns.length ≤ 8) (hl : isL b p = false) (hU : (b.flatMap Ent.mem).length ≤ 200) : ∃ C l w A, Told3 G b se p ns C l w A := by
  have hu : (uni b ns).length ≤ 208 := by unfold uni; rw [List.length_append]; omega
  have wl := ways_line hb hns.nd (passM b se p)
  have wlen := wl.len
  have short := uni_short hb hns.nm
  cases h : whyWay b se ns p with
  | some w0 =>
    have hin := (why_in h).1
    have hle := wl.le w0 hin
    have ok := way_ok h
    refine ⟨"Way", w0, true, aWayShows, ?_, Z.k_Way, Z.a_Way_names, Z.i_Way_Answer, Z.i_Way_Way, fun d => .inl ⟨d, rfl, rfl⟩, ok_way_shows Z, ⟨w0, b, se, ns, p, rfl, hb, by omega, by omega, by rw [way_shows hl h]⟩, fun q hq => ⟨w0, b, se, ns, q, rfl, hb, by omega, by omega, by rw [way_else hl h, if_pos rfl]⟩, by rw [← way_eq hb se p hns.nd, h, if_pos rfl], fun z => (nomatch z), by rw [h]; rfl, fun _ z => ?_, by omega, fun n hn => ?_⟩
    · unfold whyT
      rw [h]
    · obtain ⟨x, r, e, _⟩ := ok.hd
      rw [z] at e
      cases e
    · have gen : ∀ (f : Nat) (ln : List (List Str)) (a : Nat), (∀ w ∈ ln, ∀ n ∈ w, n ∈ uni b ns) → ∀ w ∈ waysRun b (passM b se p) f ln a, ∀ n ∈ w, n ∈ uni b ns := fun f => by
        induction f with
        | zero => exact fun _ _ h => h
        | succ f ih =>
          intro ln a h
          rw [waysRun]
          cases e : ln[a]? with
          | none => exact h
          | some w =>
            refine ih _ _ fun v hv => ?_
            unfold extW at hv
            split at hv
            · rcases List.mem_append.mp hv with z | z
              · exact h v z
              · obtain ⟨m, hm, rfl⟩ := List.mem_map.mp z
                intro n hn
                rcases List.mem_append.mp hn with y | y
                · exact h w (List.mem_of_getElem? e) n y
                · rw [List.mem_singleton.mp y]
                  exact newW_uni (List.mem_filter.mp hm).1
            · exact h v hv
      refine gen _ _ _ (fun w hw n hn => ?_) w0 hin n hn
      obtain ⟨x, hx, rfl⟩ := List.mem_map.mp hw
      rw [List.mem_singleton.mp hn]
      exact List.mem_append_left _ ((sortN_perm ns).mem_iff.mp hx)
  | none =>
    have hsub : ∀ n ∈ whyShut b se ns p, n ∈ uni b ns := fun n hn => wl.sub n (shut_in.mp hn).1
    have hnd : (whyShut b se ns p).Nodup := by
      unfold whyShut
      exact (sortN_perm _).nodup_iff.mpr (wl.nd.filter _)
    have hln := nd_sub_len hnd hsub
    have hml : (metL b ns (whyShut b se ns p)).length ≤ 90000 := by
      unfold metL
      have := flat_le (memsOf_le b) (whyShut b se ns p)
      have := Nat.mul_le_mul (Nat.le_trans hln hu) hU
      rw [List.length_append]
      omega
    refine ⟨"Shut", whyShut b se ns p, false, aShutShows, ?_, Z.k_Shut, Z.a_Shut_names, Z.i_Shut_Answer, Z.i_Shut_Way, fun d => .inr ⟨d, rfl, rfl⟩, ok_shut_shows Z, ⟨_, b, se, ns, p, rfl, hb, by omega, fun n hn => short n (hsub n hn), by omega, hml, by rw [shut_shows hb hns.nd h]⟩, fun q hq => ⟨_, b, se, ns, q, rfl, hb, by omega, fun n hn => short n (hsub n hn), by omega, hml, by rw [shut_else hb se p q hns.nd, if_neg Bool.false_ne_true]⟩, by rw [← way_eq hb se p hns.nd, h, if_neg Bool.false_ne_true], fun _ => shut_eq hb se p hns.nd, by rw [h]; rfl, fun z => (nomatch z), by omega, hsub⟩
    unfold whyT
    rw [h]
theorem isN_ow (g : Option (List Str)) : ∀ (G : Glb) (I : Hp) (v : V), Rep G I v (owD g) → decide (v = .non) = g.isNone := fun G I v h => by
  cases g with
  | none => cases h; rfl
  | some x => cases h; rfl
abbrev qWR : List Str := ["_law_book_here", "_law_sender", "_law_names_here", "_law_passed_here", "_law_person"]
abbrev nWR : List Str := ["_law_book_here", "_law_sender", "_law_names_here", "_law_passed_here", "_law_person", "_law_handed", "_law_given", "_law_told", "_law_due", "_law_found", "_law_again"]
theorem scWR : FnScope nWR qWR (defScope S_law_why_right) := ⟨rfl, rfl, rfl, by decide +kernel, rfl, by decide +kernel, by decide +kernel⟩
def aWR (xs : List D) (r : DS) : Prop := ∃ (b : List Ent) (se : Str) (ns : List Str) (p : Str), xs = [bkD b, .str se, .lst (ns.map .str), .lst ((lawPassM b se).map .str), .str p] ∧ Bk b ∧ Nm se ∧ Ns ns ∧ ns.length ≤ 8 ∧ Nm p ∧ isL b p = false ∧ (b.flatMap Ent.mem).length ≤ 200 ∧ r = .im (.bl true)
theorem ok_wr {G : Glb} (Z : Facts G) : CallD G 11 "_law_why_right" qWR false aWR := by
  refine ⟨?_, Z.g_law_why_right, Z.n_law_why_right, Z.f_law_why_right.kp⟩
  refine okD (N := nWR) Z.f_law_why_right scWR (fun xs r ⟨_, _, _, _, e, _⟩ => by rw [e]; rfl) fun cdv Ar outer s H E hr xs r ⟨b, se, ns, p, e, hb, hse, hns, h8, hp, hl, hU, er⟩ => ?_
  subst e er
  have hble := hb.le
  have hu : (uni b ns).length ≤ 208 := by unfold uni; rw [List.length_append]; omega
  obtain ⟨C, l, w, A, t⟩ := told3 Z hb se p hns h8 hl hU
  have tt := t.t
  have tl := t.len
  refine dss_cons (ds_p2 5 6 (s1 := .im (bkD b)) (s2 := .im (.lst (ns.map .str))) (de_own (dv_c (ok_copy Z) hr (da_cons (de_var 0 rfl) da_nil) ⟨b, rfl, hble, rfl⟩)) (de_own (dv_list (de_var 2 rfl) rfl Z.b_list)) ?_ scWR.nd)
  refine dss_cons (ds_p2 7 8 (s1 := .ot none (.ins C [("names", nmsT l)])) (s2 := .im (owD (if w = true then some l else none))) (dv_is (dv_c (ok_why Z) hr (da_cons (de_var 5 rfl) (da_cons (de_var 1 rfl) (da_cons (de_var 6 rfl) (da_cons (de_var 4 rfl) da_nil)))) ⟨b, se, ns, p, rfl, hb, hse, hns, hp, hl, by omega, rfl⟩) (by rw [tt])) (dv_is (dv_c (ok_first Z) hr (da_cons (de_var 0 rfl) (da_cons (de_var 2 rfl) (da_cons (de_var 3 rfl) (da_cons (de_var 4 rfl) da_nil)))) ⟨b, ns, lawPassM b se, p, rfl, hb, hns.nd, hns.nm, by omega, by omega, rfl⟩) (by rw [t.first])) ?_ scWR.nd)
  have nd := nmT_nd C l
  have fz : (some (DS.ot none (.ins C [("names", nmsT l)])).fz) = some (DS.im (.ins C [("names", .lst (l.map .str))])) := congrArg (fun d => some (DS.im d)) (nmT_fz C l)
  refine dss_cons (ds_if (x := false) (dt_is (dt_w (dw_or (x := !true) (dt_not (dt_view 7 rfl nd (dt_val (de_isC (cc := .Name "x" ⟨0, 0, 0, 0⟩) (de_var 7 fz) t.isA Z.g_Answer Z.b_isinstance)))) fun _ => dw_or (dt_neX (x := b) (y := b) (de_var 5 rfl) (de_var 0 rfl) (units_of hr)) fun _ => dw_or1 (dt_neX (x := ns) (y := ns) (de_var 6 rfl) (de_var 2 rfl) (units_of hr)))) (by simp)) (fun hc => by cases hc) (fun _ => dss_nil ?_))
  have hisn : (if w = true then some l else none : Option (List Str)).isNone = !w := by cases w <;> rfl
  refine dss_cons (ds_if (x := false) (dt_is (dt_view 7 rfl nd (dt_neX (x := [w, !w, false, false]) (y := [w, !w, false, false]) (dv_is (de_own (dv_c (ok_kinds Z) hr (da_cons (de_var 7 fz) da_nil) (t.kinds _))) rfl) (dv_is (de_own (dv_lst (da_cons (de_notN (de_var 8 rfl) (isN_ow _)) (da_cons (de_isN (de_var 8 rfl) (isN_ow _)) (da_cons de_bl (da_cons de_bl da_nil)))) (by show 4 ≤ 100000; decide))) (by rw [hisn, Bool.not_not]; rfl)) (units_of hr))) (by simp)) (fun hc => by cases hc) (fun _ => dss_nil ?_))
  refine dss_cons (ds_set 9 (s := .im (.lst (l.map .str))) (dv_if (dt_notN (de_var 8 rfl) (isN_ow _)) (fun hx => ?_) (fun hx => ?_)) ?_ scWR.nd)
  · rw [hisn, Bool.not_not] at hx
    rw [hx, if_pos rfl]
    exact de_var 8 rfl
  · rw [hisn, Bool.not_not] at hx
    exact dv_is (de_own (dv_c (ok_closed Z) hr (da_cons (de_var 0 rfl) (da_cons (de_var 2 rfl) (da_cons (de_var 3 rfl) (da_cons (de_var 4 rfl) da_nil)))) ⟨b, ns, lawPassM b se, p, rfl, hb, hns.nd, hns.nm, by omega, rfl⟩)) (by rw [t.found hx])
  refine dss_cons (ds_if (x := false) (dt_is (dt_w (dw_or (x := false) (dt_is (dt_view 7 rfl nd (dt_neX (x := l) (y := l) (de_fld (d := .lst (l.map .str)) (de_var 7 fz) t.cls t.noat rfl) (de_var 9 rfl) (units_of hr))) (by simp)) fun _ => dw_or1 (dt_view 7 rfl nd (dt_notB (x := true) (y := true) (dv_meth t.shows hr (de_var 7 fz) (da_cons (de_var 5 rfl) (da_cons (de_var 1 rfl) (da_cons (de_var 6 rfl) (da_cons (de_var 4 rfl) da_nil)))) t.me) de_bl)))) (by simp)) (fun hc => by cases hc) (fun _ => dss_nil ?_))
  refine dss_cons (ds_appP 7 (π := [] ++ [0]) rfl rfl (dp_fld rfl rfl (dp_var 7 rfl) rfl t.cls t.noat) (de_var 4 rfl) rfl (by rw [List.length_map, List.length_map]; omega) ?_)
  refine dss_cons (ds_set 10 (s := .im (.ins C [("names", .lst (l.map .str))])) (dv_is (dv_fz (dv_c (ok_why Z) hr (da_cons (de_var 5 rfl) (da_cons (de_var 1 rfl) (da_cons (de_var 6 rfl) (da_cons (de_var 4 rfl) da_nil)))) ⟨b, se, ns, p, rfl, hb, hse, hns, hp, hl, by omega, rfl⟩)) (by show DS.im (whyT b se ns p).fz = _; rw [tt, nmT_fz])) ?_ scWR.nd)
  have rd : decide (p ∈ reachedM b (gM b se) ns) = w := by
    rw [t.way]
    by_cases z : whyWay b se ns p = none
    · rw [decide_eq_true z, decide_eq_false fun y => (reach_way hb se p hns.nd hl).mp y z]
      rfl
    · rw [decide_eq_false z, decide_eq_true ((reach_way hb se p hns.nd hl).mpr z)]
      rfl
  refine dss_one (ds_ret (dv_is (de_and (x := decide (l = l)) (y := decide (decide (p ∈ reachedM b (gM b se) ns) = w)) (de_eqX (x := l) (y := l) (de_fld (d := .lst (l.map .str)) (de_var 10 rfl) t.cls t.noat rfl) (de_var 9 rfl) (units_of hr)) fun _ => de_one (de_eqX (x := decide (p ∈ reachedM b (gM b se) ns)) (y := w) (de_inS (de_var 4 rfl) (de_ixT (dv_is (dv_fz (dv_c (ok_reachedL Z) hr (da_cons (de_var 5 rfl) (da_cons (de_var 1 rfl) (da_cons (de_var 6 rfl) da_nil))) ⟨b, se, ns, rfl, hb, hse, hns, by omega, rfl⟩)) (by show DS.im (pairT _ _).fz = _; rw [pairT_fz]; rfl)) de_int rfl)) (dv_is (de_notN (de_var 8 rfl) (isN_ow _)) (by rw [hisn, Bool.not_not]; rfl)) (units_of hr))) (by rw [rd]; simp)) (.inl rfl))

/-! ### told of one, held against another one -/
abbrev q5S : Str := "qqqqq"
abbrev bS : Str := "b"
theorem kit_bool : kitB "bool" "bool" = some true := by decide +kernel
abbrev qEl : List Str := ["_law_book_here", "_law_sender", "_law_names_here", "_law_person", "_law_other"]
abbrev nEl : List Str := ["_law_book_here", "_law_sender", "_law_names_here", "_law_person", "_law_other", "_law_told", "_law_passed_here", "_law_said", "_law_left", "_law_met_here", "_law_goes", "_law_due", "_law_entry_here", "_law_name"]
theorem scEl : FnScope nEl qEl (defScope S_law_elsewhere) := ⟨rfl, rfl, rfl, by decide +kernel, rfl, by decide +kernel, by decide +kernel⟩
def aEl (xs : List D) (r : DS) : Prop := ∃ (b : List Ent) (se : Str) (ns : List Str) (p q : Str), xs = [bkD b, .str se, .lst (ns.map .str), .str p, .str q] ∧ Bk b ∧ Nm se ∧ Ns ns ∧ ns.length ≤ 8 ∧ Nm p ∧ isL b p = false ∧ isL b q = false ∧ (b.flatMap Ent.mem).length ≤ 200 ∧ r = .im (.bl true)
theorem metE_len (b : List Ent) (ns l : List Str) : (metE b ns l).length ≤ ns.length + (b.flatMap Ent.mem).length := by
  unfold metE
  rw [List.length_append]
  have : ∀ b : List Ent, (b.flatMap fun e => if decide (e.nm ∈ l) = true then e.mem else []).length ≤ (b.flatMap Ent.mem).length := fun b => by
    induction b with
    | nil => exact Nat.le_refl _
    | cons e b ih =>
      rw [List.flatMap_cons, List.flatMap_cons, List.length_append, List.length_append]
      split
      · omega
      · show 0 + _ ≤ _
        omega
  have := this b
  omega
theorem pass_len (b : List Ent) (se : Str) : (lawPassM b se).length ≤ b.length := by
  unfold lawPassM
  rw [List.length_map]
  exact List.length_filter_le _ _
theorem ok_el {G : Glb} (Z : Facts G) : CallD G 11 "_law_elsewhere" qEl false aEl := by
  refine ⟨?_, Z.g_law_elsewhere, Z.n_law_elsewhere, Z.f_law_elsewhere.kp⟩
  refine okD (N := nEl) Z.f_law_elsewhere scEl (fun xs r ⟨_, _, _, _, _, e, _⟩ => by rw [e]; rfl) fun cdv Ar outer s H E hr xs r ⟨b, se, ns, p, q, e, hb, hse, hns, h8, hp, hl, hlq, hU, er⟩ => ?_
  subst e er
  have hble := hb.le
  obtain ⟨C, l, w, A, t⟩ := told3 Z hb se p hns h8 hl hU
  have tt := t.t
  have tl := t.len
  have pl := pass_len b se
  refine dss_cons (ds_p2t 5 6 (s1 := .im (.ins C [("names", .lst (l.map .str))])) (s2 := .im (.lst ((lawPassM b se).map .str))) (dv_is (dv_fz (dv_c (ok_why Z) hr (da_cons (de_own (dv_c (ok_copy Z) hr (da_cons (de_var 0 rfl) da_nil) ⟨b, rfl, hble, rfl⟩)) (da_cons (de_var 1 rfl) (da_cons (de_own (dv_list (de_var 2 rfl) rfl Z.b_list)) (da_cons (de_var 3 rfl) da_nil)))) ⟨b, se, ns, p, rfl, hb, hse, hns, hp, hl, by omega, rfl⟩)) (by show DS.im (whyT b se ns p).fz = _; rw [tt, nmT_fz]))
    (de_own (dv_c (ok_lawpassed Z) hr (da_cons (de_var 0 rfl) (da_cons (de_var 1 rfl) da_nil)) ⟨b, se, rfl, hb, by omega, rfl⟩)) ?_ scEl.nd)
  obtain ⟨sd, hsd⟩ : ∃ sd, sd = if w = true then decide (lastW l = q) else elseE b se q ns l := ⟨_, rfl⟩
  have ho := t.other q hlq
  rw [← hsd] at ho
  refine dss_cons (ds_set 7 (s := .im (.bl sd)) (dv_meth t.shows hr (de_var 5 rfl) (da_cons (de_own (dv_c (ok_copy Z) hr (da_cons (de_var 0 rfl) da_nil) ⟨b, rfl, hble, rfl⟩)) (da_cons (de_var 1 rfl) (da_cons (de_own (dv_list (de_var 2 rfl) rfl Z.b_list)) (da_cons (de_var 4 rfl) da_nil)))) ho) ?_ scEl.nd)
  refine dss_cons (ds_if (x := !true) (dt_not (dt_val (de_isi (n := "bool") (b := true) (de_var 7 rfl) (de_ty rfl Z.b_bool (by decide +kernel)) (by show "bool" ≠ "?"; decide) kit_bool rfl Z.b_isinstance))) (fun hc => by cases hc) (fun _ => dss_nil ?_))
  refine dss_cons (ds_if (x := w) (dt_val (de_isC (cc := .Name "x" ⟨0, 0, 0, 0⟩) (de_var 5 rfl) t.isW Z.g_Way Z.b_isinstance)) (fun hw => ?_) (fun hw => dss_nil ?_))
  · rw [if_pos hw] at hsd
    subst hsd
    refine dss_one (ds_ret (dv_is (de_eqX (x := decide (lastW l = q)) (y := decide (lastW l = q)) (de_var 7 rfl) (de_eqS (de_ixL (xs := l.map .str) (de_fld (de_var 5 rfl) t.cls t.noat rfl) (de_neg de_int) (lk_last (lastW_get (t.ne hw)))) (de_var 4 rfl)) (units_of hr)) (by rw [decide_eq_true rfl])) (.inl rfl))
  rw [if_neg (by rw [hw]; exact fun z => nomatch z)] at hsd
  have ml := metE_len b ns l
  refine dss_cons (ds_p2t 8 9 (s1 := .im (.lst ((leftE b q).map .str))) (s2 := .im (.lst (ns.map .str))) (dv_is (de_own (dv_lcP (ev := Ent.d) (xs := b) (own := [("_law_entry_here", 12)]) (js := [12]) (fun e => [.im (bkD b), .im (.str se), .im (.lst (ns.map .str)), .im (.str p), .im (.str q), .im (.ins C [("names", .lst (l.map .str))]), .im (.lst ((lawPassM b se).map .str)), .im (.bl sd), .no, .no, .no, .no, .im e.d, .no]) (fun e => decide (q ∈ e.left)) (fun e => .str e.nm)
    (di_list (de_var 0 rfl)) (by omega) scEl.nd (blkOk_by (N := nEl) (sc := defScope S_law_elsewhere) (by decide +kernel)) (fun s H C2 cl fp e hc => dg_name 12 scEl.nd) (fun s H C2 cl fp e hc => dts_one (dt_inS (ns := e.left) (de_var 4 rfl) (de_ixT (de_var 12 rfl) de_int rfl))) (fun s H C2 cl fp e hc _ => de_ixT (de_var 12 rfl) de_int rfl))) (by
      unfold leftE
      rw [List.map_map]
      rfl)) (de_own (dv_list (de_var 2 rfl) rfl Z.b_list)) ?_ scEl.nd)
  refine dss_cons (ds_forE (e := Ent.d) (xs := b) [12] (fun i => [.im (bkD b), .im (.str se), .im (.lst (ns.map .str)), .im (.str p), .im (.str q), .im (.ins C [("names", .lst (l.map .str))]), .im (.lst ((lawPassM b se).map .str)), .im (.bl sd), .im (.lst ((leftE b q).map .str)), .im (.lst ((metE (b.take i) ns l).map .str)), .no, .no, .no, .no]) (fun e ds1 => ds1.set 12 (.im e.d)) (by
      show _ = ([.im (bkD b), .im (.str se), .im (.lst (ns.map .str)), .im (.str p), .im (.str q), .im (.ins C [("names", .lst (l.map .str))]), .im (.lst ((lawPassM b se).map .str)), .im (.bl sd), .im (.lst ((leftE b q).map .str)), .im (.lst ((ns ++ []).map .str)), .no, .no, .no, .no] : List DS)
      rw [List.append_nil]
      rfl) (di_list (de_var 0 rfl)) (fun e _ ds1 => dg_name 12 scEl.nd) (fun i e hi => ?_) ?_ PassesOwn.never)
  · have m1 := metE_len (b.take i) ns l
    have m2 : ((b.take i).flatMap Ent.mem).length ≤ (b.flatMap Ent.mem).length := by
      have : b.flatMap Ent.mem = (b.take i).flatMap Ent.mem ++ (b.drop i).flatMap Ent.mem := by rw [← List.flatMap_append, List.take_append_drop]
      rw [this, List.length_append]
      omega
    have hml := (hb.ok e (List.mem_of_getElem? hi)).memL
    have es : metE (b.take (i + 1)) ns l = metE (b.take i) ns l ++ if decide (e.nm ∈ l) = true then e.mem else [] := by
      unfold metE
      rw [take_snoc hi, List.flatMap_append, List.flatMap_cons, List.flatMap_nil, List.append_nil, List.append_assoc]
    rw [es]
    generalize metE (b.take i) ns l = cur at m1
    have il : (if decide (e.nm ∈ l) = true then e.mem else []).length ≤ 900 := by
      split
      · exact hml
      · exact Nat.zero_le _
    refine dss_one (ds_set 9 (de_own (dv_cat (ys := (if decide (e.nm ∈ l) = true then e.mem else []).map .str) (de_var 9 rfl) (dv_if (x := decide (e.nm ∈ l)) (dt_inS (ns := l) (de_ixT (de_var 12 rfl) de_int rfl) (de_fld (de_var 5 rfl) t.cls t.noat rfl)) (fun h => ?_) (fun h => ?_)) (by rw [List.length_map, List.length_map]; omega))) ?_ scEl.nd)
    · rw [h, if_pos rfl]
      exact de_ixT (de_var 12 rfl) de_int rfl
    · rw [h, if_neg Bool.false_ne_true]
      exact de_own (dv_lst da_nil (by decide))
    · show _ = _
      rw [List.map_append]
      rfl
  rw [List.take_length]
  refine dss_cons (ds_set 10 (s := .im (.lst ((goesE b se q).map .str))) (de_own (dv_lcP (ev := D.str) (xs := lawPassM b se) (own := [("_law_name", 13)]) (js := [13]) (fun n => [.im (bkD b), .im (.str se), .im (.lst (ns.map .str)), .im (.str p), .im (.str q), .im (.ins C [("names", .lst (l.map .str))]), .im (.lst ((lawPassM b se).map .str)), .im (.bl sd), .im (.lst ((leftE b q).map .str)), .im (.lst ((metE b ns l).map .str)), .no, .no, .no, .im (.str n)]) (fun n => !decide (n ∈ leftE b q)) (fun n => .str n)
    (di_list (de_var 6 rfl)) (by omega) scEl.nd (blkOk_by (N := nEl) (sc := defScope S_law_elsewhere) (by decide +kernel)) (fun s H C2 cl fp e hc => dg_name 13 scEl.nd) (fun s H C2 cl fp e hc => dts_one (dt_niS (de_var 13 rfl) (de_var 8 rfl))) (fun s H C2 cl fp e hc _ => de_var 13 rfl))) ?_ scEl.nd)
  refine dss_cons (ds_set 11 (s := .im (.bl (dueE b se q ns l))) (dv_is (de_and (x := l.all fun n => decide (n ∈ goesE b se q)) (y := !decide (q ∈ metE b ns l)) (dv_is (de_all (bs := l.map fun n => decide (n ∈ goesE b se q)) (dv_is (de_own (dv_lcP (ev := D.str) (xs := l) (own := [("_law_name", 13)]) (js := [13]) (fun n => [.im (bkD b), .im (.str se), .im (.lst (ns.map .str)), .im (.str p), .im (.str q), .im (.ins C [("names", .lst (l.map .str))]), .im (.lst ((lawPassM b se).map .str)), .im (.bl sd), .im (.lst ((leftE b q).map .str)), .im (.lst ((metE b ns l).map .str)), .im (.lst ((goesE b se q).map .str)), .no, .no, .im (.str n)]) (fun _ => true) (fun n => .bl (decide (n ∈ goesE b se q)))
      (di_list (de_fld (d := .lst (l.map .str)) (de_var 5 rfl) t.cls t.noat rfl)) (by omega) scEl.nd (blkOk_by (N := nEl) (sc := defScope S_law_elsewhere) (by decide +kernel)) (fun s H C2 cl fp e hc => dg_name 13 scEl.nd) (fun s H C2 cl fp e hc => dts_nil) (fun s H C2 cl fp e hc _ => de_inS (de_var 13 rfl) (de_var 10 rfl)))) (by
        rw [List.filter_eq_self.mpr fun _ _ => rfl, List.map_map]
        rfl)) rfl Z.b_all) (by rw [all_bs])) fun _ => de_one (de_niS (de_var 4 rfl) (de_var 9 rfl))) rfl) ?_ scEl.nd)
  refine dss_one (ds_ret (dv_is (de_eqX (x := sd) (y := dueE b se q ns l && ((metE b ns l).filter fun n => decide (n ∈ goesE b se q)).all fun n => decide (n ∈ l)) (de_var 7 rfl) (de_and (de_var 11 rfl) fun _ => de_one (dv_is (de_all (bs := ((metE b ns l).filter fun n => decide (n ∈ goesE b se q)).map fun n => decide (n ∈ l)) (dv_is (de_own (dv_lcP (ev := D.str) (xs := metE b ns l) (own := [("_law_name", 13)]) (js := [13]) (fun n => [.im (bkD b), .im (.str se), .im (.lst (ns.map .str)), .im (.str p), .im (.str q), .im (.ins C [("names", .lst (l.map .str))]), .im (.lst ((lawPassM b se).map .str)), .im (.bl sd), .im (.lst ((leftE b q).map .str)), .im (.lst ((metE b ns l).map .str)), .im (.lst ((goesE b se q).map .str)), .im (.bl (dueE b se q ns l)), .no, .im (.str n)]) (fun n => decide (n ∈ goesE b se q)) (fun n => .bl (decide (n ∈ l)))
      (di_list (de_var 9 rfl)) (by omega) scEl.nd (blkOk_by (N := nEl) (sc := defScope S_law_elsewhere) (by decide +kernel)) (fun s H C2 cl fp e hc => dg_name 13 scEl.nd) (fun s H C2 cl fp e hc => dts_one (dt_inS (de_var 13 rfl) (de_var 10 rfl))) (fun s H C2 cl fp e hc _ => de_inS (de_var 13 rfl) (de_fld (d := .lst (l.map .str)) (de_var 5 rfl) t.cls t.noat rfl)))) (by
        rw [List.map_map]
        rfl)) rfl Z.b_all) (by rw [all_bs]))) (units_of hr)) (by
      rw [hsd]
      unfold elseE
      rw [decide_eq_true rfl])) (.inl rfl))

/-! ### what is decided by looking -/
def okNm (s : Str) : Bool := decide (1 ≤ s.length) && (decide (s.length ≤ 20) && s.cps.toList.all fun c => decide (97 ≤ c) && decide (c ≤ 122))
theorem nm_dec {s : Str} (h : okNm s = true) : Nm s := by
  unfold okNm at h
  rw [Bool.and_eq_true, Bool.and_eq_true, decide_eq_true_eq, decide_eq_true_eq, List.all_eq_true] at h
  refine ⟨h.1, h.2.1, fun c hc => ?_⟩
  have z := h.2.2 c hc
  rw [Bool.and_eq_true, decide_eq_true_eq, decide_eq_true_eq] at z
  unfold okC
  exact z
def okEnt (e : Ent) : Bool := okNm e.nm && (e.mem.all okNm && (decide e.mem.Nodup && (decide (e.mem.length ≤ 900) && (e.left.all okNm && (decide e.left.Nodup && (decide (e.left.length ≤ 900) && match e.gate with
  | none => true
  | some g => okNm g))))))
theorem ent_dec {e : Ent} (h : okEnt e = true) : EntOk e := by
  unfold okEnt at h
  simp only [Bool.and_eq_true, decide_eq_true_eq, List.all_eq_true] at h
  obtain ⟨h1, h2, h3, h4, h5, h6, h7, h8⟩ := h
  refine ⟨nm_dec h1, fun x hx => nm_dec (h2 x hx), h3, h4, fun x hx => nm_dec (h5 x hx), h6, h7, fun g hg => ?_⟩
  rw [hg] at h8
  exact nm_dec h8
theorem bk_dec {b : List Ent} (h : (decide (b.map Ent.nm).Nodup && (b.all okEnt && decide (b.length ≤ 900))) = true) : Bk b := by
  simp only [Bool.and_eq_true, decide_eq_true_eq, List.all_eq_true] at h
  exact ⟨h.1, fun e he => ent_dec (h.2.1 e he), h.2.2⟩
theorem sort_1 (x : Str) : sortN [x] = [x] := sortN_sorted (by rfl)
theorem sort_0 : sortN [] = [] := sortN_sorted (by rfl)

/-! ### layers of lists -/
theorem pass_free {b : List Ent} (h : ∀ e ∈ b, e.gate = none) (se : Str) : lawPassM b se = listsM b := by
  unfold lawPassM listsM
  rw [List.filter_eq_self.mpr fun e he => ?_]
  unfold lawOpen
  rw [h e he]
theorem turn_perm {α : Type} (k : Int) (xs : List α) : (turnL k xs).Perm xs := by
  unfold turnL
  split
  · exact .refl _
  · exact List.reverse_perm xs
theorem turn_map {α β : Type} (f : α → β) (k : Int) (xs : List α) : turnL k (xs.map f) = (turnL k xs).map f := by
  unfold turnL
  split
  · rfl
  · rw [List.map_reverse]
theorem rot_perm {α : Type} (k : Nat) (xs : List α) : (xs.drop k ++ xs.take k).Perm xs := by
  have h := List.take_append_drop k xs
  have : (xs.drop k ++ xs.take k).Perm (xs.take k ++ xs.drop k) := List.perm_append_comm
  rwa [h] at this
theorem ent_plain {n : Str} {m : List Str} (hn : Nm n) (hm : ∀ x ∈ m, Nm x) (hd : m.Nodup) (hl : m.length ≤ 900) : EntOk ⟨n, m, [], none⟩ := ⟨hn, hm, hd, hl, fun _ h => (nomatch h), List.nodup_nil, Nat.zero_le _, fun _ h => (nomatch h)⟩
def tieF (one more : List Str) (r3 : Nat) (n : Str) : Ent := ⟨n, if decide (some n = one.head?) = true then more.drop r3 else more, [], none⟩
def tieB (n0 n1 n2 n3 n4 n5 n6 n7 : Str) (one more : List Str) (c : Int) (r3 : Nat) : List Ent := (⟨n0, turnL c one, [], none⟩ :: [n1, n2, n3].map (tieF one more r3)) ++ [n4, n5].map fun n => ⟨n, [n6, n7], [], none⟩
theorem tie_ok {n0 n1 n2 n3 n4 n5 n6 n7 : Str} (h : ∀ x ∈ [n0, n1, n2, n3, n4, n5, n6, n7], Nm x) (hd : [n0, n1, n2, n3, n4, n5, n6, n7].Nodup) {one more : List Str} (c : Int) (r3 : Nat) (p1 : one.Perm [n1, n2, n3]) (p3 : more.Perm [n4, n5]) : Bk (tieB n0 n1 n2 n3 n4 n5 n6 n7 one more c r3) ∧ ((tieB n0 n1 n2 n3 n4 n5 n6 n7 one more c r3).flatMap Ent.mem).length ≤ 200 ∧ (∀ e ∈ tieB n0 n1 n2 n3 n4 n5 n6 n7 one more c r3, e.gate = none) ∧ (tieB n0 n1 n2 n3 n4 n5 n6 n7 one more c r3).map Ent.nm = [n0, n1, n2, n3, n4, n5] := by
  have p4 := (turn_perm c one).trans p1
  unfold tieB
  generalize turnL c one = on2 at p4
  have s3 : [n1, n2, n3].Sublist [n0, n1, n2, n3, n4, n5, n6, n7] := (List.Sublist.cons n0 (((List.nil_sublist [n4, n5, n6, n7]).cons_cons n3).cons_cons n2 |>.cons_cons n1))
  have s2 : [n4, n5].Sublist [n0, n1, n2, n3, n4, n5, n6, n7] := ((((List.nil_sublist [n6, n7]).cons_cons n5).cons_cons n4).cons n3).cons n2 |>.cons n1 |>.cons n0
  have s1 : [n6, n7].Sublist [n0, n1, n2, n3, n4, n5, n6, n7] := (((((List.Sublist.refl [n6, n7]).cons n5).cons n4).cons n3).cons n2).cons n1 |>.cons n0
  have l1 : on2.length = 3 := p4.length_eq
  have l2 : more.length = 2 := p3.length_eq
  have mor : ∀ n : Str, (tieF one more r3 n).mem.Sublist more := fun n => by
    show ((if decide (some n = one.head?) = true then more.drop r3 else more) : List Str).Sublist more
    split
    · exact List.drop_sublist _ _
    · exact List.Sublist.refl _
  have lm : ∀ n : Str, (tieF one more r3 n).mem.length ≤ 2 := fun n => by
    have := (mor n).length_le
    omega
  refine ⟨⟨?_, fun e he => ?_, ?_⟩, ?_, fun e he => ?_, ?_⟩
  · exact hd.sublist (List.sublist_append_left [n0, n1, n2, n3, n4, n5] [n6, n7])
  · rcases List.mem_append.mp he with he | he
    · rcases List.mem_cons.mp he with rfl | he
      · exact ent_plain (h _ List.mem_cons_self) (fun x hx => h x (s3.subset (p4.mem_iff.mp hx))) (p4.nodup_iff.mpr (hd.sublist s3)) (by omega)
      · obtain ⟨n, hn, rfl⟩ := List.mem_map.mp he
        have := lm n
        exact ent_plain (h _ (s3.subset hn)) (fun x hx => h x (s2.subset (p3.mem_iff.mp ((mor n).subset hx)))) ((p3.nodup_iff.mpr (hd.sublist s2)).sublist (mor n)) (Nat.le_trans this (by decide))
    · obtain ⟨n, hn, rfl⟩ := List.mem_map.mp he
      exact ent_plain (h _ (s2.subset hn)) (fun x hx => h x (s1.subset hx)) (hd.sublist s1) (by show 2 ≤ 900; decide)
  · show 6 ≤ 900
    decide
  · have a1 := lm n1
    have a2 := lm n2
    have a3 := lm n3
    simp only [List.map_cons, List.map_nil, List.cons_append, List.nil_append, List.flatMap_cons, List.flatMap_nil, List.length_append, List.length_cons, List.length_nil]
    omega
  · rcases List.mem_append.mp he with he | he
    · rcases List.mem_cons.mp he with rfl | he
      · rfl
      · obtain ⟨n, hn, rfl⟩ := List.mem_map.mp he
        rfl
    · obtain ⟨n, hn, rfl⟩ := List.mem_map.mp he
      rfl
  · rfl
abbrev nTies : List Str := ["_law_names_here", "_law_number", "_law_one", "_law_more", "_law_book_here", "_law_name", "_law_person"]
abbrev qTies : List Str := ["_law_names_here", "_law_number"]
theorem scTies : FnScope nTies qTies (defScope S_law_ties_right) := ⟨rfl, rfl, rfl, by decide +kernel, rfl, by decide +kernel, by decide +kernel⟩
def aTies (xs : List D) (r : DS) : Prop := ∃ (n0 n1 n2 n3 n4 n5 n6 n7 : Str) (num : Int), xs = [.lst ([n0, n1, n2, n3, n4, n5, n6, n7].map .str), .int num] ∧ (∀ x ∈ [n0, n1, n2, n3, n4, n5, n6, n7], Nm x) ∧ [n0, n1, n2, n3, n4, n5, n6, n7].Nodup ∧ r = .im (.bl true)
theorem mod2 (x : Int) : ∃ r : Nat, x % 2 = (r : Int) ∧ (1 - 2 * (r : Int) = 1 ∨ 1 - 2 * (r : Int) = -1) := by
  refine ⟨(x % 2).toNat, by omega, ?_⟩
  omega
theorem ok_ties {G : Glb} (Z : Facts G) : CallD G 12 "_law_ties_right" qTies false aTies := by
  refine ⟨?_, Z.g_law_ties_right, Z.n_law_ties_right, Z.f_law_ties_right.kp⟩
  refine okD (N := nTies) Z.f_law_ties_right scTies (fun xs r ⟨_, _, _, _, _, _, _, _, _, e, _⟩ => by rw [e]; rfl) fun cdv Ar outer s H E hr xs r ⟨n0, n1, n2, n3, n4, n5, n6, n7, num, e, hn, hd, er⟩ => ?_
  subst e er
  obtain ⟨k, hk, k3⟩ : ∃ k : Nat, num % 3 = (k : Int) ∧ k < 3 := ⟨(num % 3).toNat, by omega, by omega⟩
  obtain ⟨r1, h1, t1⟩ := mod2 (num / 3)
  obtain ⟨r2, h2, t2⟩ := mod2 (num / 6)
  obtain ⟨r3, h3, _⟩ := mod2 (num / 12)
  obtain ⟨one, hone⟩ : ∃ one, one = [n1, n2, n3].drop k ++ [n1, n2, n3].take k := ⟨_, rfl⟩
  obtain ⟨more, hmore⟩ : ∃ more, more = turnL (1 - 2 * (r1 : Int)) [n4, n5] := ⟨_, rfl⟩
  have p1 : one.Perm [n1, n2, n3] := by rw [hone]; exact rot_perm k _
  have p3 : more.Perm [n4, n5] := by rw [hmore]; exact turn_perm _ _
  obtain ⟨hb, hU, hg, hnm⟩ := tie_ok hn hd (1 - 2 * (r2 : Int)) r3 p1 p3
  have onel := p1.length_eq
  have morel := p3.length_eq
  obtain ⟨o0, h0⟩ : ∃ o0, one[0]? = some o0 := ⟨_, List.getElem?_eq_getElem (by rw [onel]; show 0 < 3; decide)⟩
  have hh : one.head? = some o0 := by rw [List.head?_eq_getElem?, h0]
  refine dss_cons (ds_set 2 (s := .im (.lst (one.map .str))) (dv_is (de_own (dv_cat (de_own (dv_slL (de_own (dv_lst (da_cons (de_ixL (de_var 0 rfl) de_int (lk_str (j := 1) rfl rfl)) (da_cons (de_ixL (de_var 0 rfl) de_int (lk_str (j := 2) rfl rfl)) (da_cons (de_ixL (de_var 0 rfl) de_int (lk_str (j := 3) rfl rfl)) da_nil))) (by show 3 ≤ 100000; decide))) (do_some (dv_is (de_mod (de_var 1 rfl) de_int (by decide)) (by rw [hk]))) do_none))
    (de_own (dv_slL (de_own (dv_lst (da_cons (de_ixL (de_var 0 rfl) de_int (lk_str (j := 1) rfl rfl)) (da_cons (de_ixL (de_var 0 rfl) de_int (lk_str (j := 2) rfl rfl)) (da_cons (de_ixL (de_var 0 rfl) de_int (lk_str (j := 3) rfl rfl)) da_nil))) (by show 3 ≤ 100000; decide))) do_none (do_some (dv_is (de_mod (de_var 1 rfl) de_int (by decide)) (by rw [hk]))))) (by
      rw [cutG_drop, cutG_take, List.length_drop, List.length_take]
      show 3 - k + min k 3 ≤ _
      omega))) (by
      rw [cutG_drop, cutG_take, hone, List.map_append, List.map_drop, List.map_take]
      rfl)) ?_ scTies.nd)
  refine dss_cons (ds_set 3 (s := .im (.lst (more.map .str))) (dv_is (de_own (dv_turnL (de_own (dv_lst (da_cons (de_ixL (de_var 0 rfl) de_int (lk_str (j := 4) rfl rfl)) (da_cons (de_ixL (de_var 0 rfl) de_int (lk_str (j := 5) rfl rfl)) da_nil)) (by show 2 ≤ 100000; decide))) (de_sub de_int (de_mul de_int (dv_is (de_mod (de_div (de_var 1 rfl) de_int ⟨by decide, by decide⟩) de_int (by decide)) (by rw [h1])) (.inl (by decide)))) t1)) (by
      rw [hmore, ← turn_map]
      rfl)) ?_ scTies.nd)
  refine dss_cons (ds_set 4 (s := .own ([(⟨n0, turnL (1 - 2 * (r2 : Int)) one, [], none⟩ : Ent)].map Ent.d)) (dv_is (dv_lst (da_cons (de_tup (da_cons (de_ixL (de_var 0 rfl) de_int (lk_str (j := 0) rfl rfl)) (da_cons (de_own (dv_turnL (de_var 2 rfl) (de_sub de_int (de_mul de_int (dv_is (de_mod (de_div (de_var 1 rfl) de_int ⟨by decide, by decide⟩) de_int (by decide)) (by rw [h2])) (.inl (by decide)))) t2)) (da_cons (de_own (dv_lst da_nil (by decide))) (da_cons de_non da_nil)))) (by show 4 ≤ 100000; decide)) da_nil) (by show 1 ≤ 100000; decide)) (by
      rw [turn_map]
      rfl)) ?_ scTies.nd)
  refine dss_cons (ds_forE (e := D.str) (xs := [n1, n2, n3]) [5] (fun i => [.im (.lst ([n0, n1, n2, n3, n4, n5, n6, n7].map .str)), .im (.int num), .im (.lst (one.map .str)), .im (.lst (more.map .str)), .own (((⟨n0, turnL (1 - 2 * (r2 : Int)) one, [], none⟩ : Ent) :: ([n1, n2, n3].take i).map (tieF one more r3)).map Ent.d), .no, .no]) (fun n ds1 => ds1.set 5 (.im (.str n))) rfl
    (di_list (dv_is (de_own (dv_slL (de_var 0 rfl) (do_some de_int) (do_some de_int))) rfl)) (fun n _ ds1 => dg_name 5 scTies.nd) (fun i n hi => ?_) ?_ PassesOwn.never)
  · have hi3 : i < 3 := (List.getElem?_eq_some_iff.mp hi).1
    refine dss_one (ds_append (d := (tieF one more r3 n).d) 4 rfl (de_tup (da_cons (de_var 5 rfl) (da_cons (d := .lst ((tieF one more r3 n).mem.map .str)) (dv_if (x := decide (n = o0)) (dt_eqS (de_var 5 rfl) (de_ixL (de_var 2 rfl) de_int (lk_str (j := 0) rfl h0))) (fun h => ?_) (fun h => ?_)) (da_cons (de_own (dv_lst da_nil (by show 0 ≤ 100000; decide))) (da_cons de_non da_nil)))) (by show 4 ≤ 100000; decide)) (by rw [List.length_map, List.length_cons, List.length_map, List.length_take]; omega) ?_)
    · have : (tieF one more r3 n).mem = more.drop r3 := by
        show (if decide (some n = one.head?) = true then more.drop r3 else more) = _
        rw [hh, if_pos (by rw [of_decide_eq_true h, decide_eq_true rfl])]
      rw [this, List.map_drop, ← cutG_drop]
      exact de_own (dv_slL (de_var 3 rfl) (do_some (dv_is (de_mod (de_div (de_var 1 rfl) de_int ⟨by decide, by decide⟩) de_int (by decide)) (by rw [h3]))) do_none)
    · have : (tieF one more r3 n).mem = more := by
        show (if decide (some n = one.head?) = true then more.drop r3 else more) = _
        rw [hh, if_neg (fun z => of_decide_eq_false h (Option.some.inj (of_decide_eq_true z)))]
      rw [this]
      exact de_var 3 rfl
    · show _ = _
      rw [take_snoc hi, List.map_append, ← List.cons_append, List.map_append]
      rfl
  refine dss_freeze 4 rfl rfl ?_
  refine dss_cons (ds_set 4 (s := .im (bkD (tieB n0 n1 n2 n3 n4 n5 n6 n7 one more (1 - 2 * (r2 : Int)) r3))) (dv_is (de_own (dv_cat (de_var 4 rfl) (de_own (dv_lcP (ev := D.str) (xs := [n4, n5]) (own := [("_law_name", 5)]) (js := [5]) (fun n => [.im (.lst ([n0, n1, n2, n3, n4, n5, n6, n7].map .str)), .im (.int num), .im (.lst (one.map .str)), .im (.lst (more.map .str)), .im (.lst (((⟨n0, turnL (1 - 2 * (r2 : Int)) one, [], none⟩ : Ent) :: ([n1, n2, n3].take 3).map (tieF one more r3)).map Ent.d)), .im (.str n), .no]) (fun _ => true) (fun n => Ent.d ⟨n, [n6, n7], [], none⟩)
    (di_list (dv_is (de_own (dv_slL (de_var 0 rfl) (do_some de_int) (do_some de_int))) rfl)) (by show 2 ≤ _; decide) scTies.nd (blkOk_by (N := nTies) (sc := defScope S_law_ties_right) (by decide +kernel)) (fun s H C cl fp n hc => dg_name 5 scTies.nd) (fun s H C cl fp n hc => dts_nil) (fun s H C cl fp n hc _ => de_tup (da_cons (de_var 5 rfl) (da_cons (de_own (dv_lst (da_cons (de_ixL (de_var 0 rfl) de_int (lk_str (j := 6) rfl rfl)) (da_cons (de_ixL (de_var 0 rfl) de_int (lk_str (j := 7) rfl rfl)) da_nil)) (by show 2 ≤ 100000; decide))) (da_cons (de_own (dv_lst da_nil (by show 0 ≤ 100000; decide))) (da_cons de_non da_nil)))) (by show 4 ≤ 100000; decide)))) (by show 4 + 2 ≤ 100000; decide))) rfl) ?_ scTies.nd)
  generalize tieB n0 n1 n2 n3 n4 n5 n6 n7 one more (1 - 2 * (r2 : Int)) r3 = B at hb hU hg hnm
  have hble := hb.le
  have q5 : Nm q5S := nm_dec (by decide +kernel)
  have hpl := pass_free hg q5S
  have out : ∀ x ∈ [n6, n7], isL B x = false := fun x hx => by
    cases e : isL B x with
    | false => rfl
    | true =>
      have := isL_iff.mp e
      unfold listsM at this
      rw [hnm] at this
      have hd2 : ([n0, n1, n2, n3, n4, n5] ++ [n6, n7]).Nodup := hd
      exact absurd rfl ((List.nodup_append.mp hd2).2.2 x this x hx)
  have s1 : ∀ x ∈ [n6, n7], Nm x := fun x hx => hn x (List.mem_append_right [n0, n1, n2, n3, n4, n5] hx)
  have nn : Ns [n0] := ⟨fun x hx => by rw [List.mem_singleton.mp hx]; exact hn _ List.mem_cons_self, by simp, by simp, by show 1 ≤ 1000; decide⟩
  refine dss_one (ds_ret (dv_is (de_all (bs := [true, true]) (dv_is (de_own (dv_lcP (ev := D.str) (xs := [n6, n7]) (own := [("_law_person", 6)]) (js := [6]) (fun n => [.im (.lst ([n0, n1, n2, n3, n4, n5, n6, n7].map .str)), .im (.int num), .im (.lst (one.map .str)), .im (.lst (more.map .str)), .im (bkD B), .no, .im (.str n)]) (fun _ => true) (fun _ => .bl true)
    (di_list (dv_is (de_own (dv_slL (de_var 0 rfl) (do_some de_int) (do_some de_int))) rfl)) (by show 2 ≤ _; decide) scTies.nd (blkOk_by (N := nTies) (sc := defScope S_law_ties_right) (by decide +kernel)) (fun s H C cl fp n hc => dg_name 6 scTies.nd) (fun s H C cl fp n hc => dts_nil) (fun s H C cl fp n hc _ => dv_c (ok_wr Z) hr (da_cons (de_var 4 rfl) (da_cons de_str (da_cons (de_own (dv_lst (da_cons (de_ixL (de_var 0 rfl) de_int (lk_str (j := 0) rfl rfl)) da_nil) (by show 1 ≤ 100000; decide))) (da_cons (de_own (dv_c (ok_lawlists Z) hr (da_cons (de_var 4 rfl) da_nil) ⟨B, rfl, hble, rfl⟩)) (da_cons (de_var 6 rfl) da_nil)))))
      ⟨B, q5S, [n0], n, by rw [hpl]; rfl, hb, q5, nn, by show 1 ≤ 8; decide, s1 n hc, out n hc, hU, rfl⟩))) rfl) rfl Z.b_all) rfl) (.inl rfl))

/-! ### the law -/
theorem book_small {sc : List Int} {a : Int} {ns : List Str} (h : ∀ x ∈ ns, Nm x) (hd : ns.Nodup) (hl : ns.length ≤ 14) (m : Nat) (hm : m ≤ 14) : ((bookM sc a ns m).flatMap Ent.mem).length ≤ 200 := by
  have g : ∀ e ∈ bookM sc a ns m, e.mem.length ≤ 14 := by
    have gen : ∀ m, ∀ e ∈ bookM sc a ns m, e.mem.length ≤ 14 := fun m => by
      induction m with
      | zero => exact fun e he => by cases he
      | succ m ih =>
        intro e he
        rw [bookM_succ] at he
        unfold bookStep at he
        rcases List.mem_cons.mp ((perm_insE _ _ _).mem_iff.mp he) with rfl | z
        · unfold entM
          exact Nat.le_trans (some_len _ _) hl
        · exact ih e z
    exact gen m
  have s : ∀ l : List Ent, (∀ e ∈ l, e.mem.length ≤ 14) → (l.flatMap Ent.mem).length ≤ 14 * l.length := fun l => by
    induction l with
    | nil => exact fun _ => Nat.zero_le _
    | cons e l ih =>
      intro h
      rw [List.flatMap_cons, List.length_append, List.length_cons]
      have := ih fun x hx => h x (List.mem_cons_of_mem _ hx)
      have := h e List.mem_cons_self
      omega
  have := s _ g
  rw [bookM_len] at this
  omega
/-- some names, the first one where they are none -/
def someN (ns : List Str) (num : Int) (k : Nat) : List Str := if (some_ ns num).take k ≠ [] then (some_ ns num).take k else ns.take 1
theorem someN_ns {ns : List Str} {num : Int} {k : Nat} (h : ∀ x ∈ ns, Nm x) (hd : ns.Nodup) (hne : ns ≠ []) (hl : ns.length ≤ 900) : Ns (someN ns num k) ∧ (someN ns num k).length ≤ max k 1 := by
  have so := some_ok num hd
  have sl := some_len ns num
  unfold someN
  split
  · rename_i z
    exact ⟨⟨fun n hn => h n (so.2 n (List.mem_of_mem_take hn)), so.1.sublist (List.take_sublist _ _), z, by rw [List.length_take]; omega⟩, by rw [List.length_take]; omega⟩
  · refine ⟨⟨fun n hn => h n (List.mem_of_mem_take hn), hd.sublist (List.take_sublist _ _), fun z => ?_, by rw [List.length_take]; omega⟩, by rw [List.length_take]; omega⟩
    have := congrArg List.length z
    rw [List.length_take] at this
    have := List.length_pos_iff.mpr hne
    rw [show ([] : List Str).length = 0 from rfl] at *
    omega

theorem filt_ge {ns ls : List Str} (hd : ns.Nodup) : ns.length ≤ (ns.filter fun n => !decide (n ∈ ls)).length + ls.length := by
  have h1 : (ns.filter fun n => decide (n ∈ ls)).length ≤ ls.length := nd_sub_len (hd.filter _) fun x hx => of_decide_eq_true (List.mem_filter.mp hx).2
  have h2 : ∀ l : List Str, l.length = (l.filter fun n => !decide (n ∈ ls)).length + (l.filter fun n => decide (n ∈ ls)).length := fun l => by
    induction l with
    | nil => rfl
    | cons x l ih =>
      rw [List.filter_cons, List.filter_cons]
      cases decide (x ∈ ls) with
      | true =>
        rw [if_neg (by decide), if_pos rfl, List.length_cons, List.length_cons]
        omega
      | false =>
        rw [if_pos (by decide), if_neg (by decide), List.length_cons, List.length_cons]
        omega
  have := h2 ns
  omega
theorem lk_m2 {l : List Str} (h : 2 ≤ l.length) : ∃ x ∈ l, atI (l.map D.str) (-2) = some (.str x) := by
  have e1 : ixN (l.map D.str).length (-2) = some (l.length - 2) := by
    rw [List.length_map]
    unfold ixN
    rw [if_neg (by omega), if_pos (by omega)]
    exact congrArg some (by omega)
  have hl : l.length - 2 < l.length := by omega
  refine ⟨l[l.length - 2], List.getElem_mem hl, ?_⟩
  unfold atI
  rw [e1]
  show (l.map D.str)[l.length - 2]? = _
  rw [List.getElem?_map, List.getElem?_eq_getElem hl]
  rfl
abbrev nLaw : List Str := ["_law_script", "_law_names_here", "_law_by", "_law_book_here", "_law_lists_here", "_law_at", "_law_sender", "_law_some_here", "_law_passed_here", "_law_others", "_law_person", "_law_name"]
theorem scLaw : FnScope nLaw ["_law_script"] (defScope S_law) := ⟨rfl, rfl, rfl, by decide +kernel, rfl, by decide +kernel, by decide +kernel⟩
theorem eight {ns : List Str} (h : ns.length = 8) : ∃ n0 n1 n2 n3 n4 n5 n6 n7, ns = [n0, n1, n2, n3, n4, n5, n6, n7] := by
  match ns, h with
  | [n0, n1, n2, n3, n4, n5, n6, n7], _ => exact ⟨n0, n1, n2, n3, n4, n5, n6, n7, rfl⟩
theorem ok_law {G : Glb} (Z : Facts G) : FnOk G.P G.w G.K G.mg G.base CX0 13 (He.ga G.K "law") (fdOf G.K (He.ga G.K "law")) ["_law_script"] (spLaw G) := by
  refine okLaw (N := nLaw) Z.f_law rfl scLaw (fun cdv Ar outer s H E => ps_set scLaw.nd rfl (.inl rfl) (pe_slice sl_list (pv 0) po_none (po_some pe_int))) fun cdv Ar outer s H E hr sc hsc => ?_
  refine dss_cons (ds_set 1 (de_own (dv_c (ok_names Z) hr (da_cons (de_var 0 rfl) (da_cons de_int (da_cons de_int da_nil))) ⟨sc, 0, 8, rfl, by decide, by decide, by decide, rfl⟩)) ?_ scLaw.nd)
  have hN := lawNames_ok sc 0 (m := 8) (by decide)
  generalize lawNames sc 0 8 = ns at hN ⊢
  have hlen : ns.length = 8 := hN.len
  have hne : ns ≠ [] := fun z => by rw [z] at hlen; cases hlen
  have d1 := dg_at (sc := sc) (at_ := 1) (many := 1) (base := 24) (k := 0) (by decide)
  refine dss_cons (ds_if (x := !true) (dt_not (dt_val (dv_c (ok_ties Z) hr (da_cons (de_var 1 rfl) (da_cons (de_ixL (de_own (dv_c (ok_digits Z) hr (da_cons (de_var 0 rfl) (da_cons de_int (da_cons de_int (da_cons de_int da_nil)))) ⟨sc, 1, 1, 24, rfl, by decide, by decide, by decide, by decide, by decide, rfl⟩)) de_int (lk_int (j := 0) rfl d1)) da_nil)) (by
    obtain ⟨n0, n1, n2, n3, n4, n5, n6, n7, rfl⟩ := eight hlen
    exact ⟨n0, n1, n2, n3, n4, n5, n6, n7, _, rfl, hN.nm, hN.nd, rfl⟩)))) (fun hc => by cases hc) (fun _ => dss_nil ?_))
  have hmx : -100000 ≤ (if (if (sc.length : Int) < 4 then (sc.length : Int) else 4) > 2 then (if (sc.length : Int) < 4 then (sc.length : Int) else 4) else 2) ∧ (if (if (sc.length : Int) < 4 then (sc.length : Int) else 4) > 2 then (if (sc.length : Int) < 4 then (sc.length : Int) else 4) else 2) ≤ 100000 := by
    constructor <;> (repeat' split) <;> omega
  refine dss_cons (ds_forR [2, 3, 4, 5, 6, 7, 8, 9, 10] (fun _ => [.im (.lst (sc.map .int)), .im (.lst (ns.map .str)), .no, .no, .no, .no, .no, .no, .no, .no, .no, .no]) (fun i ds1 => ds1.set 2 (.im (.int (1 + (i : Int))))) rfl (di_rng2 de_int (de_max de_int (de_min de_int (de_lenL (de_var 0 rfl) rfl Z.b_len) rfl Z.b_min) rfl Z.b_max) rfl Z.b_range (by decide) (by decide) (by rw [List.length_map]; exact hmx.1) (by rw [List.length_map]; exact hmx.2))
    (fun i _ ds1 => dg_name 2 scLaw.nd) (fun i hi => ?_) ?_ PassesOwn.never)
  · have hb0 : (0 : Int) ≤ 1 + (i : Int) := by omega
    have c0 := cellAt_ge sc (1 + (i : Int))
    obtain ⟨k, hk⟩ : ∃ k, k = cellAt sc (1 + (i : Int)) := ⟨_, rfl⟩
    have hk0 : 0 ≤ k := by rw [hk]; exact c0
    have hkm : (k % 6).toNat ≤ ns.length := by omega
    have hk5 : (k % 6).toNat ≤ 5 := by omega
    obtain ⟨hb, _⟩ := bookM_ok (sc := sc) (a := 1 + (i : Int)) hN.nm hN.nd (by omega) _ hkm
    have hU := book_small (sc := sc) (a := 1 + (i : Int)) hN.nm hN.nd (by omega) (k % 6).toNat (by omega)
    have hbl := bookM_len sc (1 + (i : Int)) ns (k % 6).toNat
    refine dss_cons (ds_set 3 (de_own (dv_c (ok_book Z) hr (da_cons (de_var 0 rfl) (da_cons (de_var 2 rfl) (da_cons (de_var 1 rfl) (da_cons (de_mod (dv_is (dv_c (ok_cell Z) hr (da_cons (de_var 0 rfl) (da_cons (de_var 2 rfl) da_nil)) ⟨_, _, rfl, hb0, rfl⟩) (by rw [← hk])) de_int (by decide)) da_nil)))) ⟨sc, 1 + (i : Int), ns, k % 6, rfl, hb0, by omega, hkm, by omega, rfl⟩)) ?_ scLaw.nd)
    generalize bookM sc (1 + (i : Int)) ns (k % 6).toNat = b at hb hU hbl ⊢
    have hble := hb.le
    refine dss_cons (ds_set 4 (de_own (dv_c (ok_lawlists Z) hr (da_cons (de_var 3 rfl) da_nil) ⟨b, rfl, hble, rfl⟩)) ?_ scLaw.nd)
    refine dss_one (ds_for (e := enE D.str) (xs := (ns.take 3 ++ [q5S]).zipIdx)
      (fun j ds => ∃ (x5 x6 x7 x8 x9 x10 : DS), ds = [.im (.lst (sc.map .int)), .im (.lst (ns.map .str)), .im (.int (1 + (i : Int))), .im (bkD b), .im (.lst ((listsM b).map .str)), x5, x6, x7, x8, x9, x10, .no])
      (fun p ds1 => (ds1.set 5 (.im (.int (p.2 : Int)))).set 6 (.im (.str p.1))) (enumD_map D.str (ns.take 3 ++ [q5S]) ▸ di_enum (dv_is (de_own (dv_cat (de_own (dv_slL (de_var 1 rfl) do_none (do_some de_int))) (de_own (dv_lst (da_cons de_str da_nil) (by decide))) (by rw [show (3 : Int) = ((3 : Nat) : Int) from rfl, cutG_take, List.length_take, List.length_map]; show min 3 _ + 1 ≤ _; omega))) (by rw [show (3 : Int) = ((3 : Nat) : Int) from rfl, cutG_take, List.map_append, List.map_take]; rfl)) rfl Z.b_enumerate)
      (fun p _ ds1 => dg_tup (dgs_cons (dg_name 5 scLaw.nd) (dgs_cons (dg_name 6 scLaw.nd) dgs_nil))) ⟨.no, .no, .no, .no, .no, .no, rfl⟩ (fun j p ds1 hp ⟨x5, x6, x7, x8, x9, x10, e1⟩ => ?_) (fun ds1 ⟨x5, x6, x7, x8, x9, x10, e1⟩ => ?_) PassesOwn.never)
    · subst e1
      obtain ⟨h1, h2⟩ := zi_get hp
      obtain ⟨se, at_⟩ := p
      obtain rfl : at_ = j := h1
      have hse : Nm se := by
        rcases List.mem_append.mp (List.mem_of_getElem? h2) with z | z
        · exact hN.nm _ (List.mem_of_mem_take z)
        · have z2 : se = q5S := List.mem_singleton.mp z
          rw [z2]
          exact nm_dec (by decide +kernel)
      have d0 := dg_at (sc := sc) (at_ := 1 + (i : Int) + (at_ : Int)) (many := 1) (base := 1009 * 4096) (k := 0) (by decide)
      obtain ⟨hso, hsl⟩ := someN_ns (ns := ns) (num := dg sc (1 + (i : Int) + (at_ : Int)) 1 (1009 * 4096) 0 / 7) (k := 3) hN.nm hN.nd hne (by omega)
      refine dss_cons (ds_set 7 (s := .im (.lst (((some_ ns (dg sc (1 + (i : Int) + (at_ : Int)) 1 (1009 * 4096) 0 / 7)).take 3).map .str))) (dv_is (de_own (dv_slL (de_own (dv_c (ok_some Z) hr (da_cons (de_var 1 rfl) (da_cons (de_div (de_ixL (de_own (dv_c (ok_digits Z) hr (da_cons (de_var 0 rfl) (da_cons (de_add (de_var 2 rfl) (de_var 5 rfl)) (da_cons de_int (da_cons (de_mul de_int de_int (.inr (by decide))) da_nil)))) ⟨sc, 1 + (i : Int) + (at_ : Int), 1, 1009 * 4096, rfl, by omega, by decide, by decide, by decide, by decide, rfl⟩)) de_int (lk_int (j := 0) rfl d0)) de_int ⟨by decide, by decide⟩) da_nil)) ⟨ns, _, rfl, by omega, rfl⟩)) do_none (do_some de_int))) (by rw [List.map_take]; exact congrArg (fun l => DS.im (D.lst l)) (cutG_take (k := 3)))) ?_ scLaw.nd)
      have eso : someN ns (dg sc (1 + (i : Int) + (at_ : Int)) 1 (1009 * 4096) 0 / 7) 3 = if (some_ ns (dg sc (1 + (i : Int) + (at_ : Int)) 1 (1009 * 4096) 0 / 7)).take 3 ≠ [] then (some_ ns (dg sc (1 + (i : Int) + (at_ : Int)) 1 (1009 * 4096) 0 / 7)).take 3 else ns.take 1 := rfl
      generalize (some_ ns (dg sc (1 + (i : Int) + (at_ : Int)) 1 (1009 * 4096) 0 / 7)).take 3 = so1 at eso ⊢
      generalize someN ns (dg sc (1 + (i : Int) + (at_ : Int)) 1 (1009 * 4096) 0 / 7) 3 = so at eso hso hsl
      have hs8 : so.length ≤ 8 := by omega
      refine dss_cons (ds_set 7 (s := .im (.lst (so.map .str))) (dv_if (x := !decide (so1 = [])) (dt_neX (x := so1) (y := []) (de_var 7 rfl) (de_own (dv_lst da_nil (by decide))) (units_of hr)) (fun h => ?_) (fun h => ?_)) ?_ scLaw.nd)
      · have h' : so1 ≠ [] := by simpa using h
        rw [eso, if_pos h']
        exact de_var 7 rfl
      · have h' : ¬ so1 ≠ [] := by simpa using h
        rw [eso, if_neg h', List.map_take]
        exact dv_is (de_own (dv_slL (de_var 1 rfl) do_none (do_some de_int))) (congrArg (fun l => DS.im (D.lst l)) (cutG_take (k := 1)))
      refine dss_cons (ds_set 8 (de_own (dv_c (ok_lawpassed Z) hr (da_cons (de_var 3 rfl) (da_cons (de_var 6 rfl) da_nil)) ⟨b, se, rfl, hb, by omega, rfl⟩)) ?_ scLaw.nd)
      obtain ⟨ot, hot⟩ : ∃ ot, ot = (ns ++ [q5S, bS]).filter fun n => !decide (n ∈ listsM b) := ⟨_, rfl⟩
      refine dss_cons (ds_setLcP 9 (ev := D.str) (xs := ns ++ [q5S, bS]) (own := [("_law_name", 11)]) (js := [11]) (fun n => [.im (.lst (sc.map .int)), .im (.lst (ns.map .str)), .im (.int (1 + (i : Int))), .im (bkD b), .im (.lst ((listsM b).map .str)), .im (.int (at_ : Int)), .im (.str se), .im (.lst (so.map .str)), .im (.lst ((lawPassM b se).map .str)), x9, x10, .im (.str n)]) (fun n => !decide (n ∈ listsM b)) (fun n => .str n)
        (di_list (dv_is (de_own (dv_cat (de_var 1 rfl) (de_own (dv_lst (da_cons de_str (da_cons de_str da_nil)) (by decide))) (by rw [List.length_map, hlen]; decide))) (by rw [List.map_append]; rfl))) (by rw [List.length_append, hlen]; decide) scLaw.nd (blkOk_by (N := nLaw) (sc := defScope S_law) (by decide +kernel)) (fun s H C cl fp n hc => dg_name 11 scLaw.nd) (fun s H C cl fp n hc => dts_one (dt_niS (de_var 11 rfl) (de_var 4 rfl))) (fun s H C cl fp n hc _ => de_var 11 rfl) ?_)
      rw [← hot]
      refine dss_freeze 9 rfl rfl ?_
      have otI : ∀ x ∈ ot, Nm x ∧ isL b x = false := fun x hx => by
        rw [hot] at hx
        obtain ⟨a1, a2⟩ := List.mem_filter.mp hx
        rw [Bool.not_eq_true', decide_eq_false_iff_not] at a2
        refine ⟨?_, ?_⟩
        · rcases List.mem_append.mp a1 with z | z
          · exact hN.nm x z
          · rcases List.mem_cons.mp z with z | z
            · rw [z]; exact nm_dec (by decide +kernel)
            · rw [List.mem_singleton.mp z]; exact nm_dec (by decide +kernel)
        · cases q : isL b x with
          | false => rfl
          | true => exact absurd (isL_iff.mp q) a2
      have otL : 2 ≤ ot.length := by
        rw [hot, List.filter_append, List.length_append]
        have := filt_ge (ls := listsM b) hN.nd
        have hll : (listsM b).length = b.length := List.length_map _
        omega
      obtain ⟨p0, hp0⟩ : ∃ p0, ot[0]? = some p0 := ⟨_, List.getElem?_eq_getElem (by omega)⟩
      obtain ⟨p2, hp2m, hp2⟩ := lk_m2 otL
      clear hot
      refine dss_mid (fun ds => ∃ x10, ds = [.im (.lst (sc.map .int)), .im (.lst (ns.map .str)), .im (.int (1 + (i : Int))), .im (bkD b), .im (.lst ((listsM b).map .str)), .im (.int (at_ : Int)), .im (.str se), .im (.lst (so.map .str)), .im (.lst ((lawPassM b se).map .str)), .im (.lst (ot.map .str)), x10, .no]) (ds_for (e := D.str) (xs := ot) (fun j ds => ∃ x10, ds = [.im (.lst (sc.map .int)), .im (.lst (ns.map .str)), .im (.int (1 + (i : Int))), .im (bkD b), .im (.lst ((listsM b).map .str)), .im (.int (at_ : Int)), .im (.str se), .im (.lst (so.map .str)), .im (.lst ((lawPassM b se).map .str)), .im (.lst (ot.map .str)), x10, .no])
        (fun n ds1 => ds1.set 10 (.im (.str n))) (di_list (de_var 9 rfl)) (fun n _ ds1 => dg_name 10 scLaw.nd) ⟨_, rfl⟩ (fun j n ds1 hj ⟨x10, e1⟩ => ?_) (fun ds1 h => h) PassesOwn.never) fun ds' ⟨x10, ed⟩ => ?_
      · subst e1
        obtain ⟨o1, o2⟩ := otI n (List.mem_of_getElem? hj)
        exact dss_one (ds_if (x := !true) (dt_not (dt_val (dv_c (ok_wr Z) hr (da_cons (de_var 3 rfl) (da_cons (de_var 6 rfl) (da_cons (de_var 7 rfl) (da_cons (de_var 8 rfl) (da_cons (de_var 10 rfl) da_nil))))) ⟨b, se, so, n, rfl, hb, hse, hso, hs8, o1, o2, hU, rfl⟩))) (fun hc => by cases hc) (fun _ => dss_nil ⟨_, rfl⟩))
      · subst ed
        obtain ⟨a1, a2⟩ := otI p0 (List.mem_of_getElem? hp0)
        obtain ⟨_, a4⟩ := otI p2 hp2m
        exact dss_one (ds_if (x := !true) (dt_not (dt_val (dv_c (ok_el Z) hr (da_cons (de_var 3 rfl) (da_cons (de_var 6 rfl) (da_cons (de_var 7 rfl) (da_cons (de_ixL (de_var 9 rfl) de_int (lk_str (j := 0) rfl hp0)) (da_cons (de_ixL (de_var 9 rfl) (de_neg de_int) hp2) da_nil))))) ⟨b, se, so, p0, p2, rfl, hb, hse, hso, hs8, a1, a2, a4, hU, rfl⟩))) (fun hc => by cases hc) (fun _ => dss_nil ⟨_, _, _, _, _, _, rfl⟩))
    · subst e1
      rfl
  · exact dss_one (ds_ret de_bl rfl)

set_option maxHeartbeats 0
/-! ### the head -/
abbrev R : PySem.W.OpenRow := PySem.W.OpenLaw.row PySem.Challenge.rw_listpost_k03_whole_why
def fn_0 : He.DefD := ⟨("is_name", none), "is_name", "is_name", defArgs S_is_name, defBody S_is_name, defScope S_is_name, [], []⟩
def fn_1 : He.DefD := ⟨("are_names", none), "are_names", "are_names", defArgs S_are_names, defBody S_are_names, defScope S_are_names, [], []⟩
def fn_2 : He.DefD := ⟨("rank", none), "rank", "rank", defArgs S_rank, defBody S_rank, defScope S_rank, [], []⟩
def fn_3 : He.DefD := ⟨("in_order", none), "in_order", "in_order", defArgs S_in_order, defBody S_in_order, defScope S_in_order, [], []⟩
def fn_4 : He.DefD := ⟨("is_entry", none), "is_entry", "is_entry", defArgs S_is_entry, defBody S_is_entry, defScope S_is_entry, [], []⟩
def fn_5 : He.DefD := ⟨("lists_of", none), "lists_of", "lists_of", defArgs S_lists_of, defBody S_lists_of, defScope S_lists_of, [], []⟩
def fn_6 : He.DefD := ⟨("check_name", none), "check_name", "check_name", defArgs S_check_name, defBody S_check_name, defScope S_check_name, [], []⟩
def fn_7 : He.DefD := ⟨("check_names", none), "check_names", "check_names", defArgs S_check_names, defBody S_check_names, defScope S_check_names, [], []⟩
def fn_8 : He.DefD := ⟨("check_letter", none), "check_letter", "check_letter", defArgs S_check_letter, defBody S_check_letter, defScope S_check_letter, [], []⟩
def fn_9 : He.DefD := ⟨("come_to", none), "come_to", "come_to", defArgs S_come_to, defBody S_come_to, defScope S_come_to, [], []⟩
def fn_10 : He.DefD := ⟨("reached_by", none), "reached_by", "reached_by", defArgs S_reached_by, defBody S_reached_by, defScope S_reached_by, [], []⟩
def fn_11 : He.DefD := ⟨("stands_for", none), "stands_for", "stands_for", defArgs S_stands_for, defBody S_stands_for, defScope S_stands_for, [], []⟩
def fn_12 : He.DefD := ⟨("lets_in", none), "lets_in", "lets_in", defArgs S_lets_in, defBody S_lets_in, defScope S_lets_in, [], []⟩
def fn_13 : He.DefD := ⟨("holding", none), "holding", "holding", defArgs S_holding, defBody S_holding, defScope S_holding, [], []⟩
def fn_14 : He.DefD := ⟨("reached", none), "reached", "reached", defArgs S_reached, defBody S_reached, defScope S_reached, [], []⟩
def fn_15 : He.DefD := ⟨("passing", none), "passing", "passing", defArgs S_passing, defBody S_passing, defScope S_passing, [], []⟩
def fn_16 : He.DefD := ⟨("is_way", none), "is_way", "is_way", defArgs S_is_way, defBody S_is_way, defScope S_is_way, [], []⟩
def fn_17 : He.DefD := ⟨("steps_of", none), "steps_of", "steps_of", defArgs S_steps_of, defBody S_steps_of, defScope S_steps_of, [], []⟩
def fn_18 : He.DefD := ⟨("looked_at", none), "looked_at", "looked_at", defArgs S_looked_at, defBody S_looked_at, defScope S_looked_at, [], []⟩
def fn_19 : He.DefD := ⟨("ways_in_order", none), "ways_in_order", "ways_in_order", defArgs S_ways_in_order, defBody S_ways_in_order, defScope S_ways_in_order, [], []⟩
def fn_20 : He.DefD := ⟨("why", none), "why", "why", defArgs S_why, defBody S_why, defScope S_why, [], []⟩
def fn_21 : He.DefD := ⟨("_law_draw", none), "_law_draw", "_law_draw", defArgs S_law_draw, defBody S_law_draw, defScope S_law_draw, [], []⟩
def fn_22 : He.DefD := ⟨("_law_cell_at", none), "_law_cell_at", "_law_cell_at", defArgs S_law_cell_at, defBody S_law_cell_at, defScope S_law_cell_at, [], []⟩
def fn_23 : He.DefD := ⟨("_law_digits", none), "_law_digits", "_law_digits", defArgs S_law_digits, defBody S_law_digits, defScope S_law_digits, [], []⟩
def fn_24 : He.DefD := ⟨("_law_letters", none), "_law_letters", "_law_letters", defArgs S_law_letters, defBody S_law_letters, defScope S_law_letters, [], []⟩
def fn_25 : He.DefD := ⟨("_law_names", none), "_law_names", "_law_names", defArgs S_law_names, defBody S_law_names, defScope S_law_names, [], []⟩
def fn_26 : He.DefD := ⟨("_law_some", none), "_law_some", "_law_some", defArgs S_law_some, defBody S_law_some, defScope S_law_some, [], []⟩
def fn_27 : He.DefD := ⟨("_law_entry", none), "_law_entry", "_law_entry", defArgs S_law_entry, defBody S_law_entry, defScope S_law_entry, [], []⟩
def fn_28 : He.DefD := ⟨("_law_book", none), "_law_book", "_law_book", defArgs S_law_book, defBody S_law_book, defScope S_law_book, [], []⟩
def fn_29 : He.DefD := ⟨("_law_copy", none), "_law_copy", "_law_copy", defArgs S_law_copy, defBody S_law_copy, defScope S_law_copy, [], []⟩
def fn_30 : He.DefD := ⟨("_law_rank", none), "_law_rank", "_law_rank", defArgs S_law_rank, defBody S_law_rank, defScope S_law_rank, [], []⟩
def fn_31 : He.DefD := ⟨("_law_met", none), "_law_met", "_law_met", defArgs S_law_met, defBody S_law_met, defScope S_law_met, [], []⟩
def fn_32 : He.DefD := ⟨("_law_lists", none), "_law_lists", "_law_lists", defArgs S_law_lists, defBody S_law_lists, defScope S_law_lists, [], []⟩
def fn_33 : He.DefD := ⟨("_law_all", none), "_law_all", "_law_all", defArgs S_law_all, defBody S_law_all, defScope S_law_all, [], []⟩
def fn_34 : He.DefD := ⟨("_law_reached", none), "_law_reached", "_law_reached", defArgs S_law_reached, defBody S_law_reached, defScope S_law_reached, [], []⟩
def fn_35 : He.DefD := ⟨("_law_passed", none), "_law_passed", "_law_passed", defArgs S_law_passed, defBody S_law_passed, defScope S_law_passed, [], []⟩
def fn_36 : He.DefD := ⟨("_law_ranks", none), "_law_ranks", "_law_ranks", defArgs S_law_ranks, defBody S_law_ranks, defScope S_law_ranks, [], []⟩
def fn_37 : He.DefD := ⟨("_law_first_way", none), "_law_first_way", "_law_first_way", defArgs S_law_first_way, defBody S_law_first_way, defScope S_law_first_way, [], []⟩
def fn_38 : He.DefD := ⟨("_law_closed", none), "_law_closed", "_law_closed", defArgs S_law_closed, defBody S_law_closed, defScope S_law_closed, [], []⟩
def fn_39 : He.DefD := ⟨("_law_kinds", none), "_law_kinds", "_law_kinds", defArgs S_law_kinds, defBody S_law_kinds, defScope S_law_kinds, [], []⟩
def fn_40 : He.DefD := ⟨("_law_why_right", none), "_law_why_right", "_law_why_right", defArgs S_law_why_right, defBody S_law_why_right, defScope S_law_why_right, [], []⟩
def fn_41 : He.DefD := ⟨("_law_elsewhere", none), "_law_elsewhere", "_law_elsewhere", defArgs S_law_elsewhere, defBody S_law_elsewhere, defScope S_law_elsewhere, [], []⟩
def fn_42 : He.DefD := ⟨("_law_ties_right", none), "_law_ties_right", "_law_ties_right", defArgs S_law_ties_right, defBody S_law_ties_right, defScope S_law_ties_right, [], []⟩
def fn_43 : He.DefD := ⟨("law", none), "law", "law", defArgs S_law, defBody S_law, defScope S_law, [], []⟩
def fn_44 : He.DefD := ⟨("Entry", some "__init__"), "__init__", "Entry.__init__", defArgs S_Entry_init, defBody S_Entry_init, defScope S_Entry_init, [], []⟩
def fn_45 : He.DefD := ⟨("Entry", some "told"), "told", "Entry.told", defArgs S_Entry_told, defBody S_Entry_told, defScope S_Entry_told, [], []⟩
def fn_46 : He.DefD := ⟨("Answer", some "shows"), "shows", "Answer.shows", defArgs S_Answer_shows, defBody S_Answer_shows, defScope S_Answer_shows, [], []⟩
def fn_47 : He.DefD := ⟨("Way", some "__init__"), "__init__", "Way.__init__", defArgs S_Way_init, defBody S_Way_init, defScope S_Way_init, [], []⟩
def fn_48 : He.DefD := ⟨("Way", some "shows"), "shows", "Way.shows", defArgs S_Way_shows, defBody S_Way_shows, defScope S_Way_shows, [], []⟩
def fn_49 : He.DefD := ⟨("Shut", some "__init__"), "__init__", "Shut.__init__", defArgs S_Shut_init, defBody S_Shut_init, defScope S_Shut_init, [], []⟩
def fn_50 : He.DefD := ⟨("Shut", some "shows"), "shows", "Shut.shows", defArgs S_Shut_shows, defBody S_Shut_shows, defScope S_Shut_shows, [], []⟩
def fn_51 : He.DefD := ⟨("Cut", some "__init__"), "__init__", "Cut.__init__", defArgs S_Cut_init, defBody S_Cut_init, defScope S_Cut_init, [], []⟩
def fn_52 : He.DefD := ⟨("Cut", some "shows"), "shows", "Cut.shows", defArgs S_Cut_shows, defBody S_Cut_shows, defScope S_Cut_shows, [], []⟩
def fn_53 : He.DefD := ⟨("Named", some "shows"), "shows", "Named.shows", defArgs S_Named_shows, defBody S_Named_shows, defScope S_Named_shows, [], []⟩
def fnp_0 : List He.DefD := [fn_0, fn_1, fn_2, fn_3, fn_4, fn_5, fn_6, fn_7, fn_8, fn_9, fn_10, fn_11, fn_12, fn_13, fn_14, fn_15, fn_16, fn_17, fn_18, fn_19, fn_20, fn_21, fn_22, fn_23, fn_24, fn_25, fn_26, fn_27, fn_28, fn_29]
def fnp_1 : List He.DefD := [fn_30, fn_31, fn_32, fn_33, fn_34, fn_35, fn_36, fn_37, fn_38, fn_39, fn_40, fn_41, fn_42, fn_43, fn_44, fn_45, fn_46, fn_47, fn_48, fn_49, fn_50, fn_51, fn_52, fn_53]
def fn : List He.DefD := fnp_0 ++ fnp_1
def fap_0 : List He.Fa := [.free "len", .free "abs", .free "sum", .free "range", .free "enumerate", .free "isinstance", .free "all", .free "any", .free "list", .free "max", .free "min", .free "set", .free "str", .free "sorted", .free "zip", .free "bool", .free "tuple", .free "ValueError", .str "LETTERS" "abcdefghijklmnopqrstuvwxyz", .int "LONGEST" 20, .glo "is_name", .glo "are_names", .glo "rank", .glo "in_order", .glo "is_entry", .glo "lists_of", .glo "check_name", .glo "check_names", .glo "check_letter", .glo "come_to"]
def fap_1 : List He.Fa := [.glo "reached_by", .glo "stands_for", .glo "lets_in", .glo "holding", .glo "reached", .glo "passing", .glo "is_way", .glo "steps_of", .glo "looked_at", .glo "ways_in_order", .glo "why", .glo "_law_draw", .glo "_law_cell_at", .glo "_law_digits", .glo "_law_letters", .glo "_law_names", .glo "_law_some", .glo "_law_entry", .glo "_law_book", .glo "_law_copy", .glo "_law_rank", .glo "_law_met", .glo "_law_lists", .glo "_law_all", .glo "_law_reached", .glo "_law_passed", .glo "_law_ranks", .glo "_law_first_way", .glo "_law_closed", .glo "_law_kinds"]
def fap_2 : List He.Fa := [.glo "_law_why_right", .glo "_law_elsewhere", .glo "_law_ties_right", .glo "law", .glo "Entry", .cls "Entry", .noat "Entry" "members", .noat "Entry" "left", .noat "Entry" "gate", .mkr "Entry", .meth "Entry" "told", .glo "Answer", .cls "Answer", .meth "Answer" "shows", .glo "Way", .cls "Way", .noat "Way" "names", .mkr "Way", .meth "Way" "shows", .glo "Shut", .cls "Shut", .noat "Shut" "names", .mkr "Shut", .meth "Shut" "shows", .glo "Cut", .cls "Cut", .noat "Cut" "pairs", .noat "Cut" "ways", .mkr "Cut", .meth "Cut" "shows"]
def fap_3 : List He.Fa := [.glo "Named", .cls "Named", .meth "Named" "shows", .glo "PostError", .exc "PostError", .glo "BadBook", .glo "BadName", .exc "BadName", .glo "BadNames", .exc "BadNames"]
def fa : List He.Fa := fap_0 ++ fap_1 ++ fap_2 ++ fap_3
def lo_0 : List Str := ["__name__", "PostError", "BadBook", "BadName", "BadNames", "LETTERS", "LONGEST", "is_name", "are_names", "rank", "in_order", "Entry", "is_entry", "lists_of", "check_name", "check_names", "check_letter", "come_to", "reached_by", "stands_for", "lets_in", "holding", "reached", "Answer", "passing", "is_way", "steps_of", "Way", "Shut", "Cut"]
def lo_1 : List Str := ["Named", "looked_at", "ways_in_order", "why", "_law_draw", "_law_cell_at", "_law_digits", "_law_letters", "_law_names", "_law_some", "_law_entry", "_law_book", "_law_copy", "_law_rank", "_law_met", "_law_lists", "_law_all", "_law_reached", "_law_passed", "_law_ranks", "_law_first_way", "_law_closed", "_law_kinds", "_law_why_right", "_law_elsewhere", "_law_ties_right"]
def loose : List Str := lo_0 ++ lo_1
def tfN : List (He.Defn × Str) := [(("reached_by", none), "reached_by.<locals>.goes"), (("stands_for", none), "stands_for.<locals>.<lambda>"), (("reached", none), "reached.<locals>.passes"), (("Cut", some "shows"), "Cut.shows.<locals>.<lambda>")]
def iscL : List (Str × Str × Bool) := [("Way", "Way", true), ("Way", "Shut", false), ("Way", "Cut", false), ("Way", "Named", false), ("Way", "Answer", true), ("Shut", "Way", false), ("Shut", "Shut", true), ("Shut", "Cut", false), ("Shut", "Named", false), ("Shut", "Answer", true), ("Cut", "Way", false), ("Cut", "Shut", false), ("Cut", "Cut", true), ("Cut", "Named", false), ("Cut", "Answer", true), ("Named", "Way", false), ("Named", "Shut", false), ("Named", "Cut", false), ("Named", "Named", true), ("Named", "Answer", true)]
def iscB (K : PySem.W.Frag) (c d : Str) (b : Bool) : Bool := He.eqO (PySem.W.findIn K (.ref (He.ga K c)) "__class__") (some (some (.builtin "object.__class__"))) && (He.eqO (PySem.W.specialIn K (.builtin "object.__class__") "__get__") (some (some (.builtin "getset_descriptor.__get__"))) && (decide (PySem.W.takesIn K (.builtin "object.__class__") = some true) && (decide (PySem.W.mroIn K (He.ga K c) (.type "object") = some true) && (decide (PySem.W.kitOne K (.ref (He.ga K c)) (.ref (He.ga K c)) = some true) && decide (PySem.W.kitOne K (.ref (He.ga K c)) (.ref (He.ga K d)) = some b)))))
def exI (K : PySem.W.Frag) : Bool := iscL.all fun p => iscB K p.1 p.2.1 p.2.2
theorem isc_at {K : PySem.W.Frag} {c d : Str} {b : Bool} (hk : Cls K (He.ga K c)) (h : exI K = true) (i : Nat) (hi : iscL[i]? = some (c, d, b)) : IsC K (He.ga K c) (He.ga K d) b := by
  have z := List.all_eq_true.mp h _ (List.mem_of_getElem? hi)
  unfold iscB at z
  simp only [Bool.and_eq_true, decide_eq_true_eq] at z
  exact ⟨⟨hk, He.eqO_ok z.1, He.eqO_ok z.2.1, z.2.2.1, z.2.2.2.1, z.2.2.2.2.1⟩, z.2.2.2.2.2⟩
def tf : List He.Defn := tfN.map (·.1)
def exB (K : PySem.W.Frag) : Bool := decide ((tf.map fun p => (He.cT K p).2).Nodup) && exI K
def tabsOf (K : PySem.W.Frag) : List NdefX.NTab := tfN.map fun m => ((He.cT K m.1).2, fun _ _ => m.2)
abbrev hk : PySem.W.Hook := He.hookX 4 fa fn [] tf exB
def ob (s : PySem.W.SharedT) : He.AlX := He.obsX 4 fa fn [] tf exB (HandSHeadRun.getT s)
theorem ob_eq (s : PySem.W.SharedT) : ob s = hk.obs s.abs := He.obsX_eq (HandSHeadRun.getT_eq s)
theorem run (w : World) : HandSHeadRun.RunEq R (PySem.W.view R.prog [60]) hk ob 4000 loose w := by
  intro os
  kernel_rfl
theorem nd_inj {α β : Type} [DecidableEq β] {f : α → β} : ∀ {l : List α}, (l.map f).Nodup → ∀ {a b : α}, a ∈ l → b ∈ l → f a = f b → a = b
  | [], _, _, _, ha, _, _ => by cases ha
  | x :: l, hn, a, b, ha, hb, h => by
    rw [List.map_cons, List.nodup_cons] at hn
    rcases List.mem_cons.mp ha with h1 | h1
    · rcases List.mem_cons.mp hb with h2 | h2
      · rw [h1, h2]
      · exact absurd (by rw [← h1, h]; exact List.mem_map_of_mem h2) hn.1
    · rcases List.mem_cons.mp hb with h2 | h2
      · exact absurd (by rw [← h2, ← h]; exact List.mem_map_of_mem h1) hn.1
      · exact nd_inj hn.2 h1 h2 h
theorem tab_at {P : Program} {w : World} {K : PySem.W.Frag} {base : Heap} {mg : Str → Option Value} (tb : ∀ p ∈ tf.map (He.cT K), LamX.TabB base mg p.1 p.2) (nd : (tf.map fun p => (He.cT K p).2).Nodup) (i : Nat) {m : He.Defn × Str} (hm : tfN[i]? = some m) {f : Addr} {x qq : Str} {ps : Arguments} {b : List Stmt} {sc : Scope} {dv : List V} {kw : List (Str × V)} (F : FunD K x qq ps b sc dv kw f (fdOf K f)) (hf : He.fAd K m.1 = f) : HasTab ⟨P, w, K, mg, base, tabsOf K⟩ f m.2 := by
  obtain ⟨oc, od, dV, kV, doc, pm, an, cdv, ct, osl, e1, lk, hcd, _, _⟩ := F.ex
  obtain ⟨c, rfl⟩ := He.codeIn_ref hcd
  have ec : (fdOf K f).code = .ref c := by rw [e1]
  have e2 : He.codeOf K m.1 = c := He.codeOf_eq (by rw [hf]; exact lk) ec
  have hmm : m ∈ tfN := List.mem_of_getElem? hm
  have e3 : He.cT K m.1 = (c, He.tabOf K c) := by unfold He.cT; rw [e2]
  refine ⟨c, He.tabOf K c, ec, ?_, ?_, fun p hp e => ?_⟩
  · have z := tb (He.cT K m.1) (List.mem_map_of_mem (List.mem_map_of_mem hmm))
    rw [e3] at z
    exact z
  · have z : ((He.cT K m.1).2, fun _ _ => m.2) ∈ tabsOf K := List.mem_map_of_mem (f := fun m : He.Defn × Str => (((He.cT K m.1).2, fun _ _ => m.2) : NdefX.NTab)) hmm
    rw [e3] at z
    exact z
  · obtain ⟨m2, h2, rfl⟩ := List.mem_map.mp (show p ∈ tfN.map fun m => (((He.cT K m.1).2, fun _ _ => m.2) : NdefX.NTab) from hp)
    have e4 : (He.cT K m2.1).2 = (He.cT K m.1).2 := by rw [e3]; exact e
    have nd2 : (tfN.map fun m => (He.cT K m.1).2).Nodup := by
      have z := nd
      unfold tf at z
      rw [List.map_map] at z
      exact z
    have e5 : m2 = m := nd_inj nd2 h2 hmm e4
    rw [e5]
theorem facts_of {P : Program} {w : World} {K : PySem.W.Frag} {h base : Heap} {mg : Str → Option Value} (X : K.In h) (Gn : h.Ns mainGlobals mg) (c : He.SaysD fa fn K) (tb : ∀ p ∈ tf.map (He.cT K), LamX.TabB base mg p.1 p.2) (nd : (tf.map fun p => (He.cT K p).2).Nodup) (xb : exI K = true) : Facts ⟨P, w, K, mg, base, tabsOf K⟩ := ⟨
He.free_ok X Gn (c.fact 0 (f := .free "len") rfl),
  He.free_ok X Gn (c.fact 1 (f := .free "abs") rfl),
  He.free_ok X Gn (c.fact 2 (f := .free "sum") rfl),
  He.free_ok X Gn (c.fact 3 (f := .free "range") rfl),
  He.free_ok X Gn (c.fact 4 (f := .free "enumerate") rfl),
  He.free_ok X Gn (c.fact 5 (f := .free "isinstance") rfl),
  He.free_ok X Gn (c.fact 6 (f := .free "all") rfl),
  He.free_ok X Gn (c.fact 7 (f := .free "any") rfl),
  He.free_ok X Gn (c.fact 8 (f := .free "list") rfl),
  He.free_ok X Gn (c.fact 9 (f := .free "max") rfl),
  He.free_ok X Gn (c.fact 10 (f := .free "min") rfl),
  He.free_ok X Gn (c.fact 11 (f := .free "set") rfl),
  He.free_ok X Gn (c.fact 12 (f := .free "str") rfl),
  He.free_ok X Gn (c.fact 13 (f := .free "sorted") rfl),
  He.free_ok X Gn (c.fact 14 (f := .free "zip") rfl),
  He.free_ok X Gn (c.fact 15 (f := .free "bool") rfl),
  He.free_ok X Gn (c.fact 16 (f := .free "tuple") rfl),
  He.free_ok X Gn (c.fact 17 (f := .free "ValueError") rfl),
  He.str_ok X Gn (c.fact 18 (f := .str "LETTERS" "abcdefghijklmnopqrstuvwxyz") rfl),
  He.int_ok X Gn (c.fact 19 (f := .int "LONGEST" 20) rfl),
  He.glo_ok X Gn (c.fact 20 (f := .glo "is_name") rfl),
  funD_of (c.def_ 0 (d := fn_0) rfl),
  FunD.bindsN (ps := ["thing"]) (funD_of (c.def_ 0 (d := fn_0) rfl)) fun _ _ _ _ _ _ us hl => match us, hl with | [_], _ => rfl,
  He.glo_ok X Gn (c.fact 21 (f := .glo "are_names") rfl),
  funD_of (c.def_ 1 (d := fn_1) rfl),
  FunD.bindsN (ps := ["thing"]) (funD_of (c.def_ 1 (d := fn_1) rfl)) fun _ _ _ _ _ _ us hl => match us, hl with | [_], _ => rfl,
  He.glo_ok X Gn (c.fact 22 (f := .glo "rank") rfl),
  funD_of (c.def_ 2 (d := fn_2) rfl),
  FunD.bindsN (ps := ["name"]) (funD_of (c.def_ 2 (d := fn_2) rfl)) fun _ _ _ _ _ _ us hl => match us, hl with | [_], _ => rfl,
  He.glo_ok X Gn (c.fact 23 (f := .glo "in_order") rfl),
  funD_of (c.def_ 3 (d := fn_3) rfl),
  FunD.bindsN (ps := ["names"]) (funD_of (c.def_ 3 (d := fn_3) rfl)) fun _ _ _ _ _ _ us hl => match us, hl with | [_], _ => rfl,
  He.glo_ok X Gn (c.fact 24 (f := .glo "is_entry") rfl),
  funD_of (c.def_ 4 (d := fn_4) rfl),
  FunD.bindsN (ps := ["thing"]) (funD_of (c.def_ 4 (d := fn_4) rfl)) fun _ _ _ _ _ _ us hl => match us, hl with | [_], _ => rfl,
  He.glo_ok X Gn (c.fact 25 (f := .glo "lists_of") rfl),
  funD_of (c.def_ 5 (d := fn_5) rfl),
  FunD.bindsN (ps := ["book"]) (funD_of (c.def_ 5 (d := fn_5) rfl)) fun _ _ _ _ _ _ us hl => match us, hl with | [_], _ => rfl,
  He.glo_ok X Gn (c.fact 26 (f := .glo "check_name") rfl),
  funD_of (c.def_ 6 (d := fn_6) rfl),
  FunD.bindsN (ps := ["name"]) (funD_of (c.def_ 6 (d := fn_6) rfl)) fun _ _ _ _ _ _ us hl => match us, hl with | [_], _ => rfl,
  He.glo_ok X Gn (c.fact 27 (f := .glo "check_names") rfl),
  funD_of (c.def_ 7 (d := fn_7) rfl),
  FunD.bindsN (ps := ["names"]) (funD_of (c.def_ 7 (d := fn_7) rfl)) fun _ _ _ _ _ _ us hl => match us, hl with | [_], _ => rfl,
  He.glo_ok X Gn (c.fact 28 (f := .glo "check_letter") rfl),
  funD_of (c.def_ 8 (d := fn_8) rfl),
  FunD.bindsN (ps := ["sender", "names"]) (funD_of (c.def_ 8 (d := fn_8) rfl)) fun _ _ _ _ _ _ us hl => match us, hl with | [_, _], _ => rfl,
  He.glo_ok X Gn (c.fact 29 (f := .glo "come_to") rfl),
  funD_of (c.def_ 9 (d := fn_9) rfl),
  FunD.bindsN (ps := ["lists", "names", "goes"]) (funD_of (c.def_ 9 (d := fn_9) rfl)) fun _ _ _ _ _ _ us hl => match us, hl with | [_, _, _], _ => rfl,
  He.glo_ok X Gn (c.fact 30 (f := .glo "reached_by") rfl),
  funD_of (c.def_ 10 (d := fn_10) rfl),
  FunD.bindsN (ps := ["lists", "names", "passes"]) (funD_of (c.def_ 10 (d := fn_10) rfl)) fun _ _ _ _ _ _ us hl => match us, hl with | [_, _, _], _ => rfl,
  He.glo_ok X Gn (c.fact 31 (f := .glo "stands_for") rfl),
  funD_of (c.def_ 11 (d := fn_11) rfl),
  FunD.bindsN (ps := ["lists", "name"]) (funD_of (c.def_ 11 (d := fn_11) rfl)) fun _ _ _ _ _ _ us hl => match us, hl with | [_, _], _ => rfl,
  He.glo_ok X Gn (c.fact 32 (f := .glo "lets_in") rfl),
  funD_of (c.def_ 12 (d := fn_12) rfl),
  FunD.bindsN (ps := ["lists", "sender"]) (funD_of (c.def_ 12 (d := fn_12) rfl)) fun _ _ _ _ _ _ us hl => match us, hl with | [_, _], _ => rfl,
  He.glo_ok X Gn (c.fact 33 (f := .glo "holding") rfl),
  funD_of (c.def_ 13 (d := fn_13) rfl),
  FunD.bindsN (ps := ["lists", "names", "passes"]) (funD_of (c.def_ 13 (d := fn_13) rfl)) fun _ _ _ _ _ _ us hl => match us, hl with | [_, _, _], _ => rfl,
  He.glo_ok X Gn (c.fact 34 (f := .glo "reached") rfl),
  funD_of (c.def_ 14 (d := fn_14) rfl),
  FunD.bindsN (ps := ["book", "sender", "names"]) (funD_of (c.def_ 14 (d := fn_14) rfl)) fun _ _ _ _ _ _ us hl => match us, hl with | [_, _, _], _ => rfl,
  He.glo_ok X Gn (c.fact 35 (f := .glo "passing") rfl),
  funD_of (c.def_ 15 (d := fn_15) rfl),
  FunD.bindsN (ps := ["lists", "sender", "person"]) (funD_of (c.def_ 15 (d := fn_15) rfl)) fun _ _ _ _ _ _ us hl => match us, hl with | [_, _, _], _ => rfl,
  He.glo_ok X Gn (c.fact 36 (f := .glo "is_way") rfl),
  funD_of (c.def_ 16 (d := fn_16) rfl),
  FunD.bindsN (ps := ["lists", "passed", "names", "person", "way"]) (funD_of (c.def_ 16 (d := fn_16) rfl)) fun _ _ _ _ _ _ us hl => match us, hl with | [_, _, _, _, _], _ => rfl,
  He.glo_ok X Gn (c.fact 37 (f := .glo "steps_of") rfl),
  funD_of (c.def_ 17 (d := fn_17) rfl),
  FunD.bindsN (ps := ["way"]) (funD_of (c.def_ 17 (d := fn_17) rfl)) fun _ _ _ _ _ _ us hl => match us, hl with | [_], _ => rfl,
  He.glo_ok X Gn (c.fact 38 (f := .glo "looked_at") rfl),
  funD_of (c.def_ 18 (d := fn_18) rfl),
  FunD.bindsN (ps := ["book", "sender", "names", "person"]) (funD_of (c.def_ 18 (d := fn_18) rfl)) fun _ _ _ _ _ _ us hl => match us, hl with | [_, _, _, _], _ => rfl,
  He.glo_ok X Gn (c.fact 39 (f := .glo "ways_in_order") rfl),
  funD_of (c.def_ 19 (d := fn_19) rfl),
  FunD.bindsN (ps := ["lists", "passed", "names"]) (funD_of (c.def_ 19 (d := fn_19) rfl)) fun _ _ _ _ _ _ us hl => match us, hl with | [_, _, _], _ => rfl,
  He.glo_ok X Gn (c.fact 40 (f := .glo "why") rfl),
  funD_of (c.def_ 20 (d := fn_20) rfl),
  FunD.bindsN (ps := ["book", "sender", "names", "person"]) (funD_of (c.def_ 20 (d := fn_20) rfl)) fun _ _ _ _ _ _ us hl => match us, hl with | [_, _, _, _], _ => rfl,
  He.glo_ok X Gn (c.fact 41 (f := .glo "_law_draw") rfl),
  funD_of (c.def_ 21 (d := fn_21) rfl),
  FunD.bindsN (ps := ["_law_cell", "_law_k", "_law_many"]) (funD_of (c.def_ 21 (d := fn_21) rfl)) fun _ _ _ _ _ _ us hl => match us, hl with | [_, _, _], _ => rfl,
  He.glo_ok X Gn (c.fact 42 (f := .glo "_law_cell_at") rfl),
  funD_of (c.def_ 22 (d := fn_22) rfl),
  FunD.bindsN (ps := ["_law_script", "_law_k"]) (funD_of (c.def_ 22 (d := fn_22) rfl)) fun _ _ _ _ _ _ us hl => match us, hl with | [_, _], _ => rfl,
  He.glo_ok X Gn (c.fact 43 (f := .glo "_law_digits") rfl),
  funD_of (c.def_ 23 (d := fn_23) rfl),
  FunD.bindsN (ps := ["_law_script", "_law_at", "_law_many", "_law_base"]) (funD_of (c.def_ 23 (d := fn_23) rfl)) fun _ _ _ _ _ _ us hl => match us, hl with | [_, _, _, _], _ => rfl,
  He.glo_ok X Gn (c.fact 44 (f := .glo "_law_letters") rfl),
  funD_of (c.def_ 24 (d := fn_24) rfl),
  FunD.bindsN (ps := []) (funD_of (c.def_ 24 (d := fn_24) rfl)) fun _ _ _ _ _ _ us hl => match us, hl with | [], _ => rfl,
  He.glo_ok X Gn (c.fact 45 (f := .glo "_law_names") rfl),
  funD_of (c.def_ 25 (d := fn_25) rfl),
  FunD.bindsN (ps := ["_law_script", "_law_at", "_law_many"]) (funD_of (c.def_ 25 (d := fn_25) rfl)) fun _ _ _ _ _ _ us hl => match us, hl with | [_, _, _], _ => rfl,
  He.glo_ok X Gn (c.fact 46 (f := .glo "_law_some") rfl),
  funD_of (c.def_ 26 (d := fn_26) rfl),
  FunD.bindsN (ps := ["_law_names_here", "_law_number"]) (funD_of (c.def_ 26 (d := fn_26) rfl)) fun _ _ _ _ _ _ us hl => match us, hl with | [_, _], _ => rfl,
  He.glo_ok X Gn (c.fact 47 (f := .glo "_law_entry") rfl),
  funD_of (c.def_ 27 (d := fn_27) rfl),
  FunD.bindsN (ps := ["_law_script", "_law_at", "_law_name", "_law_names_here"]) (funD_of (c.def_ 27 (d := fn_27) rfl)) fun _ _ _ _ _ _ us hl => match us, hl with | [_, _, _, _], _ => rfl,
  He.glo_ok X Gn (c.fact 48 (f := .glo "_law_book") rfl),
  funD_of (c.def_ 28 (d := fn_28) rfl),
  FunD.bindsN (ps := ["_law_script", "_law_at", "_law_names_here", "_law_many"]) (funD_of (c.def_ 28 (d := fn_28) rfl)) fun _ _ _ _ _ _ us hl => match us, hl with | [_, _, _, _], _ => rfl,
  He.glo_ok X Gn (c.fact 49 (f := .glo "_law_copy") rfl),
  funD_of (c.def_ 29 (d := fn_29) rfl),
  FunD.bindsN (ps := ["_law_book_here"]) (funD_of (c.def_ 29 (d := fn_29) rfl)) fun _ _ _ _ _ _ us hl => match us, hl with | [_], _ => rfl,
  He.glo_ok X Gn (c.fact 50 (f := .glo "_law_rank") rfl),
  funD_of (c.def_ 30 (d := fn_30) rfl),
  FunD.bindsN (ps := ["_law_name"]) (funD_of (c.def_ 30 (d := fn_30) rfl)) fun _ _ _ _ _ _ us hl => match us, hl with | [_], _ => rfl,
  He.glo_ok X Gn (c.fact 51 (f := .glo "_law_met") rfl),
  funD_of (c.def_ 31 (d := fn_31) rfl),
  FunD.bindsN (ps := ["_law_book_here", "_law_names_here", "_law_passed_here", "_law_person"]) (funD_of (c.def_ 31 (d := fn_31) rfl)) fun _ _ _ _ _ _ us hl => match us, hl with | [_, _, _, _], _ => rfl,
  He.glo_ok X Gn (c.fact 52 (f := .glo "_law_lists") rfl),
  funD_of (c.def_ 32 (d := fn_32) rfl),
  FunD.bindsN (ps := ["_law_book_here"]) (funD_of (c.def_ 32 (d := fn_32) rfl)) fun _ _ _ _ _ _ us hl => match us, hl with | [_], _ => rfl,
  He.glo_ok X Gn (c.fact 53 (f := .glo "_law_all") rfl),
  funD_of (c.def_ 33 (d := fn_33) rfl),
  FunD.bindsN (ps := ["_law_book_here", "_law_names_here"]) (funD_of (c.def_ 33 (d := fn_33) rfl)) fun _ _ _ _ _ _ us hl => match us, hl with | [_, _], _ => rfl,
  He.glo_ok X Gn (c.fact 54 (f := .glo "_law_reached") rfl),
  funD_of (c.def_ 34 (d := fn_34) rfl),
  FunD.bindsN (ps := ["_law_book_here", "_law_names_here", "_law_passed_here"]) (funD_of (c.def_ 34 (d := fn_34) rfl)) fun _ _ _ _ _ _ us hl => match us, hl with | [_, _, _], _ => rfl,
  He.glo_ok X Gn (c.fact 55 (f := .glo "_law_passed") rfl),
  funD_of (c.def_ 35 (d := fn_35) rfl),
  FunD.bindsN (ps := ["_law_book_here", "_law_sender"]) (funD_of (c.def_ 35 (d := fn_35) rfl)) fun _ _ _ _ _ _ us hl => match us, hl with | [_, _], _ => rfl,
  He.glo_ok X Gn (c.fact 56 (f := .glo "_law_ranks") rfl),
  funD_of (c.def_ 36 (d := fn_36) rfl),
  FunD.bindsN (ps := ["_law_way"]) (funD_of (c.def_ 36 (d := fn_36) rfl)) fun _ _ _ _ _ _ us hl => match us, hl with | [_], _ => rfl,
  He.glo_ok X Gn (c.fact 57 (f := .glo "_law_first_way") rfl),
  funD_of (c.def_ 37 (d := fn_37) rfl),
  FunD.bindsN (ps := ["_law_book_here", "_law_names_here", "_law_passed_here", "_law_person"]) (funD_of (c.def_ 37 (d := fn_37) rfl)) fun _ _ _ _ _ _ us hl => match us, hl with | [_, _, _, _], _ => rfl,
  He.glo_ok X Gn (c.fact 58 (f := .glo "_law_closed") rfl),
  funD_of (c.def_ 38 (d := fn_38) rfl),
  FunD.bindsN (ps := ["_law_book_here", "_law_names_here", "_law_passed_here", "_law_person"]) (funD_of (c.def_ 38 (d := fn_38) rfl)) fun _ _ _ _ _ _ us hl => match us, hl with | [_, _, _, _], _ => rfl,
  He.glo_ok X Gn (c.fact 59 (f := .glo "_law_kinds") rfl),
  funD_of (c.def_ 39 (d := fn_39) rfl),
  FunD.bindsN (ps := ["_law_told"]) (funD_of (c.def_ 39 (d := fn_39) rfl)) fun _ _ _ _ _ _ us hl => match us, hl with | [_], _ => rfl,
  He.glo_ok X Gn (c.fact 60 (f := .glo "_law_why_right") rfl),
  funD_of (c.def_ 40 (d := fn_40) rfl),
  FunD.bindsN (ps := ["_law_book_here", "_law_sender", "_law_names_here", "_law_passed_here", "_law_person"]) (funD_of (c.def_ 40 (d := fn_40) rfl)) fun _ _ _ _ _ _ us hl => match us, hl with | [_, _, _, _, _], _ => rfl,
  He.glo_ok X Gn (c.fact 61 (f := .glo "_law_elsewhere") rfl),
  funD_of (c.def_ 41 (d := fn_41) rfl),
  FunD.bindsN (ps := ["_law_book_here", "_law_sender", "_law_names_here", "_law_person", "_law_other"]) (funD_of (c.def_ 41 (d := fn_41) rfl)) fun _ _ _ _ _ _ us hl => match us, hl with | [_, _, _, _, _], _ => rfl,
  He.glo_ok X Gn (c.fact 62 (f := .glo "_law_ties_right") rfl),
  funD_of (c.def_ 42 (d := fn_42) rfl),
  FunD.bindsN (ps := ["_law_names_here", "_law_number"]) (funD_of (c.def_ 42 (d := fn_42) rfl)) fun _ _ _ _ _ _ us hl => match us, hl with | [_, _], _ => rfl,
  He.glo_ok X Gn (c.fact 63 (f := .glo "law") rfl),
  funD_of (c.def_ 43 (d := fn_43) rfl),
  FunD.bindsN (ps := ["_law_script"]) (funD_of (c.def_ 43 (d := fn_43) rfl)) fun _ _ _ _ _ _ us hl => match us, hl with | [_], _ => rfl,
  He.glo_ok X Gn (c.fact 64 (f := .glo "Entry") rfl),
  He.cls_ok (c.fact 65 (f := .cls "Entry") rfl),
  He.noat_ok (c.fact 66 (f := .noat "Entry" "members") rfl),
  He.noat_ok (c.fact 67 (f := .noat "Entry" "left") rfl),
  He.noat_ok (c.fact 68 (f := .noat "Entry" "gate") rfl),
  He.mkr_ok (c.fact 69 (f := .mkr "Entry") rfl),
  funD_of (c.def_ 44 (d := fn_44) rfl),
  FunD.bindsN (ps := ["self", "members", "left", "gate"]) (funD_of (c.def_ 44 (d := fn_44) rfl)) fun _ _ _ _ _ _ us hl => match us, hl with | [_, _, _, _], _ => rfl,
  He.meth_ok (c.fact 70 (f := .meth "Entry" "told") rfl),
  funD_of (c.def_ 45 (d := fn_45) rfl),
  FunD.bindsN (ps := ["self", "name"]) (funD_of (c.def_ 45 (d := fn_45) rfl)) fun _ _ _ _ _ _ us hl => match us, hl with | [_, _], _ => rfl,
  He.glo_ok X Gn (c.fact 71 (f := .glo "Answer") rfl),
  He.cls_ok (c.fact 72 (f := .cls "Answer") rfl),
  He.meth_ok (c.fact 73 (f := .meth "Answer" "shows") rfl),
  funD_of (c.def_ 46 (d := fn_46) rfl),
  FunD.bindsN (ps := ["self", "book", "sender", "names", "person"]) (funD_of (c.def_ 46 (d := fn_46) rfl)) fun _ _ _ _ _ _ us hl => match us, hl with | [_, _, _, _, _], _ => rfl,
  He.glo_ok X Gn (c.fact 74 (f := .glo "Way") rfl),
  He.cls_ok (c.fact 75 (f := .cls "Way") rfl),
  He.noat_ok (c.fact 76 (f := .noat "Way" "names") rfl),
  He.mkr_ok (c.fact 77 (f := .mkr "Way") rfl),
  funD_of (c.def_ 47 (d := fn_47) rfl),
  FunD.bindsN (ps := ["self", "names"]) (funD_of (c.def_ 47 (d := fn_47) rfl)) fun _ _ _ _ _ _ us hl => match us, hl with | [_, _], _ => rfl,
  He.meth_ok (c.fact 78 (f := .meth "Way" "shows") rfl),
  funD_of (c.def_ 48 (d := fn_48) rfl),
  FunD.bindsN (ps := ["self", "book", "sender", "names", "person"]) (funD_of (c.def_ 48 (d := fn_48) rfl)) fun _ _ _ _ _ _ us hl => match us, hl with | [_, _, _, _, _], _ => rfl,
  He.glo_ok X Gn (c.fact 79 (f := .glo "Shut") rfl),
  He.cls_ok (c.fact 80 (f := .cls "Shut") rfl),
  He.noat_ok (c.fact 81 (f := .noat "Shut" "names") rfl),
  He.mkr_ok (c.fact 82 (f := .mkr "Shut") rfl),
  funD_of (c.def_ 49 (d := fn_49) rfl),
  FunD.bindsN (ps := ["self", "names"]) (funD_of (c.def_ 49 (d := fn_49) rfl)) fun _ _ _ _ _ _ us hl => match us, hl with | [_, _], _ => rfl,
  He.meth_ok (c.fact 83 (f := .meth "Shut" "shows") rfl),
  funD_of (c.def_ 50 (d := fn_50) rfl),
  FunD.bindsN (ps := ["self", "book", "sender", "names", "person"]) (funD_of (c.def_ 50 (d := fn_50) rfl)) fun _ _ _ _ _ _ us hl => match us, hl with | [_, _, _, _, _], _ => rfl,
  He.glo_ok X Gn (c.fact 84 (f := .glo "Cut") rfl),
  He.cls_ok (c.fact 85 (f := .cls "Cut") rfl),
  He.noat_ok (c.fact 86 (f := .noat "Cut" "pairs") rfl),
  He.noat_ok (c.fact 87 (f := .noat "Cut" "ways") rfl),
  He.mkr_ok (c.fact 88 (f := .mkr "Cut") rfl),
  funD_of (c.def_ 51 (d := fn_51) rfl),
  FunD.bindsN (ps := ["self", "pairs", "ways"]) (funD_of (c.def_ 51 (d := fn_51) rfl)) fun _ _ _ _ _ _ us hl => match us, hl with | [_, _, _], _ => rfl,
  He.meth_ok (c.fact 89 (f := .meth "Cut" "shows") rfl),
  funD_of (c.def_ 52 (d := fn_52) rfl),
  FunD.bindsN (ps := ["self", "book", "sender", "names", "person"]) (funD_of (c.def_ 52 (d := fn_52) rfl)) fun _ _ _ _ _ _ us hl => match us, hl with | [_, _, _, _, _], _ => rfl,
  He.glo_ok X Gn (c.fact 90 (f := .glo "Named") rfl),
  He.cls_ok (c.fact 91 (f := .cls "Named") rfl),
  He.meth_ok (c.fact 92 (f := .meth "Named" "shows") rfl),
  funD_of (c.def_ 53 (d := fn_53) rfl),
  FunD.bindsN (ps := ["self", "book", "sender", "names", "person"]) (funD_of (c.def_ 53 (d := fn_53) rfl)) fun _ _ _ _ _ _ us hl => match us, hl with | [_, _, _, _, _], _ => rfl,
  He.glo_ok X Gn (c.fact 93 (f := .glo "PostError") rfl),
  He.exc_ok (c.fact 94 (f := .exc "PostError") rfl),
  He.glo_ok X Gn (c.fact 95 (f := .glo "BadBook") rfl),
  He.glo_ok X Gn (c.fact 96 (f := .glo "BadName") rfl),
  He.exc_ok (c.fact 97 (f := .exc "BadName") rfl),
  He.glo_ok X Gn (c.fact 98 (f := .glo "BadNames") rfl),
  He.exc_ok (c.fact 99 (f := .exc "BadNames") rfl),
  tab_at tb nd 0 rfl (funD_of (c.def_ 10 (d := fn_10) rfl)) rfl,
  tab_at tb nd 1 rfl (funD_of (c.def_ 11 (d := fn_11) rfl)) rfl,
  tab_at tb nd 2 rfl (funD_of (c.def_ 14 (d := fn_14) rfl)) rfl,
  tab_at tb nd 3 rfl (funD_of (c.def_ 52 (d := fn_52) rfl)) rfl,
  isc_at (He.cls_ok (c.fact 75 (f := .cls "Way") rfl)) xb 0 rfl,
  isc_at (He.cls_ok (c.fact 75 (f := .cls "Way") rfl)) xb 1 rfl,
  isc_at (He.cls_ok (c.fact 75 (f := .cls "Way") rfl)) xb 2 rfl,
  isc_at (He.cls_ok (c.fact 75 (f := .cls "Way") rfl)) xb 3 rfl,
  isc_at (He.cls_ok (c.fact 75 (f := .cls "Way") rfl)) xb 4 rfl,
  isc_at (He.cls_ok (c.fact 80 (f := .cls "Shut") rfl)) xb 5 rfl,
  isc_at (He.cls_ok (c.fact 80 (f := .cls "Shut") rfl)) xb 6 rfl,
  isc_at (He.cls_ok (c.fact 80 (f := .cls "Shut") rfl)) xb 7 rfl,
  isc_at (He.cls_ok (c.fact 80 (f := .cls "Shut") rfl)) xb 8 rfl,
  isc_at (He.cls_ok (c.fact 80 (f := .cls "Shut") rfl)) xb 9 rfl,
  isc_at (He.cls_ok (c.fact 85 (f := .cls "Cut") rfl)) xb 10 rfl,
  isc_at (He.cls_ok (c.fact 85 (f := .cls "Cut") rfl)) xb 11 rfl,
  isc_at (He.cls_ok (c.fact 85 (f := .cls "Cut") rfl)) xb 12 rfl,
  isc_at (He.cls_ok (c.fact 85 (f := .cls "Cut") rfl)) xb 13 rfl,
  isc_at (He.cls_ok (c.fact 85 (f := .cls "Cut") rfl)) xb 14 rfl,
  isc_at (He.cls_ok (c.fact 91 (f := .cls "Named") rfl)) xb 15 rfl,
  isc_at (He.cls_ok (c.fact 91 (f := .cls "Named") rfl)) xb 16 rfl,
  isc_at (He.cls_ok (c.fact 91 (f := .cls "Named") rfl)) xb 17 rfl,
  isc_at (He.cls_ok (c.fact 91 (f := .cls "Named") rfl)) xb 18 rfl,
  isc_at (He.cls_ok (c.fact 91 (f := .cls "Named") rfl)) xb 19 rfl⟩
def spF (K : PySem.W.Frag) : Sp := fun vs H Q _ => ∃ (a : Addr) (ns : List Int), vs = [.ref a] ∧ SqL K H a (ns.map V.int) ∧ ns.length ≤ 63 ∧ NdefX.TabsN (tabsOf K) H ∧ ∀ H', Q (.bl true) H'
theorem endF {w : World} {K : PySem.W.Frag} {h : Heap} {mg : Str → Option Value} {f : Addr} (X : K.In h) (Gn : h.Ns mainGlobals mg) (hfa : mg ("law" : Str) = some (.ref f)) (c : He.SaysX fa fn [] tf exB w h K) : LamX.LawAtS PySem.Challenge.rw_listpost_k03_whole_why w K CX0 13 63 "_law_script" mg f h := by
  have nd : (tf.map fun p => (He.cT K p).2).Nodup := of_decide_eq_true (Bool.and_eq_true_iff.mp c.more).1
  have xb : exI K = true := (Bool.and_eq_true_iff.mp c.more).2
  have e := hfa.symm.trans (He.glo_ok X Gn (c.t.d.fact 63 (f := .glo "law") rfl))
  cases e
  have FL : FnP K "law" S_law (He.ga K "law") (fdOf K (He.ga K "law")) := funD_of (c.t.d.def_ 43 (d := fn_43) rfl)
  have b := FunD.bindsA (ps := ["_law_script"]) FL fun _ _ _ _ _ _ us hl => match us, hl with | [_], _ => rfl
  refine ⟨_, tf.map (He.cT K), spF K, fun p hp => ?_, fun p hp => ?_, fun p hp => ?_, fun s v => b s [v] rfl, fun H a ns hl _ hH hS => ⟨a, ns, rfl, hS, hl, fun t ht => ?_, fun _ => rfl⟩, fun base h1 h2 tb => ok_law (G := ⟨_, w, K, mg, base, tabsOf K⟩) (facts_of X Gn c.t.d tb nd xb)⟩
  · obtain ⟨m, hm, rfl⟩ := List.mem_map.mp hp
    exact c.empty m hm
  · obtain ⟨m, hm, rfl⟩ := List.mem_map.mp hp
    exact c.out m hm
  · obtain ⟨m, hm, rfl⟩ := List.mem_map.mp hp
    exact PySem.W.codeHd_of_K X (c.hd m hm)
  · obtain ⟨m, hm, rfl⟩ := List.mem_map.mp ht
    exact NdefX.TabN.nil (hH (He.cT K m.1) (List.mem_map_of_mem (List.mem_map_of_mem hm)))
end K
open PySem PySem.W PySem.Calls PyProof.Rows
set_option maxRecDepth 100000 in
set_option maxHeartbeats 0 in
theorem PySem.Challenge.cw_listpost_k03_whole_why_holds : PySem.Challenge.rw_listpost_k03_whole_why.Holds := by
  w_on; o_law
  refine HandSHeadRun.head_any (r := OpenLaw.row PySem.Challenge.rw_listpost_k03_whole_why) (q := view (OpenLaw.row PySem.Challenge.rw_listpost_k03_whole_why).prog [60]) (H := K.hk) (ob := K.ob) (M := 4000) (loose := K.loose) (d := HandSHeadRun.topDef (OpenLaw.row PySem.Challenge.rw_listpost_k03_whole_why).prog 60) (kwd := []) K.ob_eq
    (by kernel_rfl) (fun s => by kernel_rfl) K.run (by kernel_rfl) (by kernel_rfl) (by kernel_rfl) (by rfl) (by first | assumption | decide +kernel) (by decide +kernel) ⟨rfl, rfl, rfl, rfl, rfl, by decide +kernel⟩ ?hw ?hc
  case hw => w_witness2
  case hc =>
    refine LamX.walk_ofTsE (l := PySem.Challenge.rw_listpost_k03_whole_why) (n := 63) (k := 13) (x := "_law_script") (CX := fun _ => L2.CX0) rfl (by decide) (by kernel_rfl) ⟨rfl, by decide, by decide⟩ ?F (fun _ _ _ _ _ z => z)
    intro w mg fa h Y G hmg0
    obtain ⟨KF, KX, c⟩ := Y
    have hmg : mg ("law" : PySem.Str) = some (.ref fa) := by
      have e : (HandSHeadRun.topDef (OpenLaw.row PySem.Challenge.rw_listpost_k03_whole_why).prog 60).name = ("law" : PySem.Str) := by kernel_rfl
      rw [← e]
      exact hmg0
    exact ⟨KF, KX, K.endF KX G hmg c⟩
