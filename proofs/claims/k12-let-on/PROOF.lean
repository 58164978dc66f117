import PyProof.Rows.All
import Wide.All
import OpenK.AllK
import Wide.FinOn
import HandS.ForMost
import HandS.ForExc
import HandS.More
import HandS.Sort
import HandS.SortKw
import HandS.IsInst
import HandS.Flow
import HandS.Strs
import HandS.SetKeys
import HandS.Conv
import HandS.Codes
import HandS.Lambda
import HandS.Nested
import HandS.NestedK
import HandS.CallLocal
import HandS.Defaults
import HandS.HeadHook1
import HandS.HeadHook2
import KE.Datum
import HandS.Style
import HandS.Head2
import HandS.HeadEnd
import HandS.TryOnly
import KE.SortUse
import HandS.Iter
import HandS.Deep
import HandS.StrMore
import HandS.Replace
import HandS.FStr
import HandS.DictSubView
import KE.DatumOrd
import KE.SortKeyHeap
import PyProof.CompTup
import HandS.TupLe
import HandS.List
import KE.KDictSum
import KE.KStateDown
import HandS.HeadHook4
import HandS.HeadWalk
import PySem.Challenge.RW_listpost_k12_whole_let_on
set_option Elab.async false
set_option linter.all false
set_option autoImplicit false
set_option maxRecDepth 100000
set_option maxHeartbeats 4000000
/-! Data-level judgements over the hand layer: what stands in the heap is told as data, once. -/
namespace Lp
open PySem PySem.Spec PyProof.Rows L2

structure Glb where
  P : Program
  w : World
  K : PySem.W.Frag
  mg : Str → Option Value
  base : Heap
  T : List NdefX.NTab

/-- a nested def's object, or a lambda's -/
def LamO (f : Addr) (F : NdefX.NF) (e : Expr) : HO := .ext fun h => ∃ pm ctv : Value, h.get? f = some (PySem.W.kla_obj F.name F.qual F.params e F.scope F.cl pm F.c ctv)
def CloO (f : Addr) (F : NdefX.NF) : Option Expr → HO
  | none => NdefX.FnO f F
  | some e => LamO f F e
theorem cloO_ext (f : Addr) (F : NdefX.NF) : ∀ oe : Option Expr, ∃ φ, CloO f F oe = .ext φ ∧ ∀ h, φ h → PySem.W.FnAt f h
  | none => ⟨_, rfl, fun h ⟨od, sl, doc, pm, ctv, z⟩ => ⟨_, od, _, sl, z⟩⟩
  | some e => ⟨_, rfl, fun h ⟨pm, ctv, z⟩ => ⟨_, _, _, _, z⟩⟩

inductive D where
  | non | bl (b : Bool) | int (i : Int) | str (x : Str) | ty (n : String)
  | lst (xs : List D) | tup (xs : List D)
  | dic (kvs : List (Str × D))
  | ins (C : Str) (fs : List (Str × D))
  | fn (k : Nat) (dom g : Str → Bool)
  | clo (F : NdefX.NF) (oe : Option Expr)
  | any
  | cloE (F : Addr → NdefX.NF) (oe : Option Expr)

/-- what I tells stands in H, a dict perhaps under a lock -/
def RdS (I H : Hp) : Prop := ∀ a u, I a = some u → (H a = some u ∧ ∀ ps, u ≠ HO.tbl ps) ∨ ((∃ kvs, u = HO.dK kvs) ∧ ∃ o, H a = some (.frz o u))
theorem RdS.lst {I H : Hp} {p : Addr} {vs : List V} (r : RdS I H) (h : I p = some (.lst vs)) : H p = some (.lst vs) := by
  rcases r _ _ h with z | ⟨⟨_, z⟩, _⟩
  · exact z.1
  · cases z
theorem RdS.tup {I H : Hp} {p : Addr} {vs : List V} (r : RdS I H) (h : I p = some (.tup vs)) : H p = some (.tup vs) := by
  rcases r _ _ h with z | ⟨⟨_, z⟩, _⟩
  · exact z.1
  · cases z
theorem RdS.ins {I H : Hp} {p C dx : Addr} {fs : List (Str × V)} (r : RdS I H) (h : I p = some (.ins C dx fs)) : H p = some (.ins C dx fs) := by
  rcases r _ _ h with z | ⟨⟨_, z⟩, _⟩
  · exact z.1
  · cases z
theorem RdS.ext {I H : Hp} {p : Addr} {φ : Heap → Prop} (r : RdS I H) (h : I p = some (.ext φ)) : H p = some (.ext φ) := by
  rcases r _ _ h with z | ⟨⟨_, z⟩, _⟩
  · exact z.1
  · cases z
theorem RdS.dic {I H : Hp} {p : Addr} {kvs : List (Key × V)} (r : RdS I H) (h : I p = some (.dK kvs)) : Rd H p (.dK kvs) := by
  rcases r _ _ h with z | ⟨_, z⟩
  · exact .inl z.1
  · exact .inr z

structure Step (G : Glb) (I H I' H' : Hp) : Prop where
  isub : Same I I'
  sub : RdS I' H'
  keep : ∀ a o, H a = some o → (∀ ps, o ≠ HO.tbl ps) → (I a = none ∨ ∀ kvs, o ≠ HO.dK kvs) → H' a = some o
  keepN : ∀ a, H a ≠ none → H' a ≠ none
  fresh : ∀ a u, I a = none → H a = some u → (∀ φ, u ≠ HO.ext φ) → (∀ ps, u ≠ HO.tbl ps) → I' a = none
  tabs : NdefX.TabsN G.T H → NdefX.TabsN G.T H'
theorem Step.refl {G : Glb} {I H : Hp} (r : RdS I H) : Step G I H I H := ⟨Same.refl I, r, fun _ _ h _ _ => h, fun _ h => h, fun _ _ h _ _ _ => h, fun h => h⟩
theorem Step.trans {G : Glb} {I H I1 H1 I2 H2 : Hp} (a : Step G I H I1 H1) (b : Step G I1 H1 I2 H2) : Step G I H I2 H2 where
  isub := a.isub.trans b.isub
  sub := b.sub
  keep := fun x o h n c => b.keep x o (a.keep x o h n c) n (by
    by_cases z : ∃ φ, o = HO.ext φ
    · obtain ⟨φ, rfl⟩ := z
      exact .inr fun _ q => nomatch q
    · exact c.imp (fun i => a.fresh x o i h (fun φ q => z ⟨φ, q⟩) n) id)
  keepN := fun x h => b.keepN x (a.keepN x h)
  fresh := fun x u i h n1 n2 => b.fresh x u (a.fresh x u i h n1 n2) (a.keep x u h n2 (.inl i)) n1 n2
  tabs := fun h => b.tabs (a.tabs h)
theorem Step.free {G : Glb} {I H I' H' : Hp} (a : Step G I H I' H') {p : Addr} (h : H' p = none) : H p = none := by
  cases e : H p with
  | none => rfl
  | some o => exact absurd h (a.keepN p (by rw [e]; exact fun z => nomatch z))
theorem RdS.free {I H : Hp} (r : RdS I H) {p : Addr} (h : H p = none) : I p = none := by
  cases e : I p with
  | none => rfl
  | some o =>
    rcases r p o e with z | ⟨_, _, z⟩
    · rw [h] at z; cases z.1
    · rw [h] at z; cases z
theorem tabs_upd {T : List NdefX.NTab} {H : Hp} {p : Addr} {o : HO} (h : NdefX.TabsN T H) (hp : ∀ u, H p = some u → (∀ ps, u ≠ HO.tbl ps) ∧ ∀ φ, u ≠ HO.ext φ) : NdefX.TabsN T (upd H p o) := fun t ht => by
  obtain ⟨ps, h1, h2, h3⟩ := h t ht
  have n1 : t.1 ≠ p := fun z => by
    rw [z] at h1
    exact (hp _ h1).1 ps rfl
  refine ⟨ps, by rw [upd_ne n1]; exact h1, h2, fun pos cv hc => ?_⟩
  obtain ⟨c, e1, e2⟩ := h3 pos cv hc
  have n2 : c ≠ p := fun z => by
    rw [z] at e2
    exact (hp _ e2).2 _ rfl
  exact ⟨c, e1, by rw [upd_ne n2]; exact e2⟩
/-- a new object that is told at once -/
theorem Step.new {G : Glb} {I H : Hp} {p : Addr} {o : HO} (r : RdS I H) (h : H p = none) (ho : ∀ ps, o ≠ HO.tbl ps := by intro _ z; cases z) : Step G I H (upd I p o) (upd H p o) := by
  have ip := r.free h
  refine ⟨fun a u e => ?_, fun a u e => ?_, fun a u e _ _ => ?_, fun a n => ?_, fun a w e n _ _ => ?_, fun t => tabs_upd t fun u e => ?_⟩
  · rw [upd_ne (ne_of_none e ip)]; exact e
  · by_cases z : a = p
    · subst z
      rw [upd_same] at e
      cases e
      exact .inl ⟨upd_same, ho⟩
    · rw [upd_ne z] at e
      rw [upd_ne z]
      exact r a u e
  · rw [upd_ne (ne_of_none e h)]; exact e
  · by_cases z : a = p
    · subst z
      exact absurd h n
    · rw [upd_ne z]; exact n
  · rw [upd_ne (ne_of_none n h)]; exact e
  · rw [h] at e; cases e
/-- a new object that stays one's own -/
theorem Step.newOwn {G : Glb} {I H : Hp} {p : Addr} {o : HO} (r : RdS I H) (h : H p = none) : Step G I H I (upd H p o) := by
  have ip := r.free h
  refine ⟨Same.refl I, fun a u e => ?_, fun a u e _ _ => ?_, fun a n => ?_, fun _ _ e _ _ _ => e, fun t => tabs_upd t fun u e => ?_⟩
  · rw [upd_ne (ne_of_none e ip)]; exact r a u e
  · rw [upd_ne (ne_of_none e h)]; exact e
  · by_cases z : a = p
    · subst z
      exact absurd h n
    · rw [upd_ne z]; exact n
  · rw [h] at e; cases e
/-- one's own objects (those in J) are told from now on -/
theorem Step.tell {G : Glb} {I H I' H' J : Hp} (s : Step G I H I' H') (sj : Same I' J) (h : ∀ a u, J a = some u → I' a = some u ∨ (H a = none ∧ H' a = some u ∧ ∀ ps, u ≠ HO.tbl ps)) : Step G I H J H' := by
  refine ⟨s.isub.trans sj, fun a u q => ?_, s.keep, s.keepN, fun a w q n n1 n2 => ?_, s.tabs⟩
  · rcases h a u q with z | z
    · exact s.sub a u z
    · exact .inl z.2
  · cases e : J a with
    | none => rfl
    | some u =>
      rcases h a u e with z | z
      · rw [s.fresh a w q n n1 n2] at z
        cases z
      · rw [z.1] at n
        cases n
theorem Step.freeze {G : Glb} {I H I' H' : Hp} {p : Addr} {o : HO} (s : Step G I H I' H') (h : H p = none) (hi : I' p = none) (e : H' p = some o) (ho : ∀ ps, o ≠ HO.tbl ps := by intro _ z; cases z) : Step G I H (upd I' p o) H' :=
  s.tell (fun a u q => by rw [upd_ne (ne_of_none q hi)]; exact q) fun a u q => by
    by_cases z : a = p
    · subst z
      rw [upd_same] at q
      cases q
      exact .inr ⟨h, e, ho⟩
    · rw [upd_ne z] at q
      exact .inl q

/-- what a statement keeps -/
structure Pres (I H I' H' : Hp) : Prop where
  same : Same I I'
  frz : ∀ a o u, H a = some (.frz o u) → H' a = some (.frz o u)
theorem Pres.refl (I H : Hp) : Pres I H I H := ⟨Same.refl I, fun _ _ _ h => h⟩
theorem Pres.trans {I H I1 H1 I2 H2 : Hp} (a : Pres I H I1 H1) (b : Pres I1 H1 I2 H2) : Pres I H I2 H2 := ⟨a.same.trans b.same, fun x o u h => b.frz x o u (a.frz x o u h)⟩
theorem Step.pres {G : Glb} {I H I' H' : Hp} (s : Step G I H I' H') : Pres I H I' H' := ⟨s.isub, fun a o u h => s.keep a _ h (fun _ q => nomatch q) (.inr fun _ q => nomatch q)⟩
theorem Pres.own {I H : Hp} {p : Addr} {o u : HO} (hi : I p = none) (hp : H p = some u) (hu : ∀ q w, u ≠ .frz q w) : Pres I H I (upd H p o) :=
  ⟨Same.refl I, fun a q w e => by rw [upd_ne (fun z => by rw [z, hp] at e; exact hu q w (Option.some.inj e))]; exact e⟩
/-- a told dict is locked from now on -/
theorem Step.lock {G : Glb} {I H : Hp} {p : Addr} {kvs : List (Key × V)} {o : Obj} (r : RdS I H) (hi : I p = some (.dK kvs)) (hp : H p = some (.dK kvs)) : Step G I H I (upd H p (.frz o (.dK kvs))) := by
  refine ⟨Same.refl I, fun a u e => ?_, fun a u e _ c => ?_, fun a n => ?_, fun _ _ e _ _ _ => e, fun t => tabs_upd t fun u e => ?_⟩
  · by_cases z : a = p
    · subst z
      rw [hi] at e
      cases e
      exact .inr ⟨⟨_, rfl⟩, _, upd_same⟩
    · rw [upd_ne z]
      exact r a u e
  · have z : a ≠ p := fun z => by
      subst z
      rw [hp] at e
      cases e
      rcases c with c | c
      · rw [hi] at c
        cases c
      · exact c _ rfl
    rw [upd_ne z]; exact e
  · by_cases z : a = p
    · rw [z, upd_same]; exact fun q => nomatch q
    · rw [upd_ne z]; exact n
  · rw [hp] at e
    cases e
    exact ⟨(fun _ z => nomatch z), (fun _ z => nomatch z)⟩

/-- f, called with a text of its domain, hands back g of it; the heap may grow -/
def Cal (G : Glb) (k : Nat) (f : Addr) (I : Hp) (dom g : Str → Bool) : Prop :=
  ∀ (I' H' : Hp), Same I I' → RdS I' H' → NdefX.TabsN G.T H' → ∀ (A : Around) (outer : List Env) (s : Shared) (x : Str) (u : Value) (Q : VK), dom x = true → Room k A → Env0 G.P G.w G.K G.mg G.base A outer s H' → RelV (.str x) u →
    (∀ I2 H2, Step G I' H' I2 H2 → Q (.bl (g x)) H2) → codeAny (model G.P G.w) A (.call (.ref f) ⟨[u], []⟩) (CR CX0 outer G.P G.w H' s Q E0) s
theorem Cal.mono {G : Glb} {k : Nat} {f : Addr} {I I1 : Hp} {dom g : Str → Bool} (c : Cal G k f I dom g) (h : Same I I1) : Cal G k f I1 dom g := fun I' H' s => c I' H' (h.trans s)

abbrev kvK (fs : List (Str × V)) : List (Key × V) := fs.map fun q => (Sum.inr q.1, q.2)
mutual
inductive Rep (G : Glb) (I : Hp) : V → D → Prop where
  | non : Rep G I .non .non
  | bl (b : Bool) : Rep G I (.bl b) (.bl b)
  | int (i : Int) : Rep G I (.int i) (.int i)
  | str (x : Str) : Rep G I (.str x) (.str x)
  | ty (n : String) : Rep G I (.ty n) (.ty n)
  | lst {p : Addr} {vs : List V} {ds : List D} : I p = some (.lst vs) → Reps G I vs ds → Rep G I (.ref p) (.lst ds)
  | tup {p : Addr} {vs : List V} {ds : List D} : I p = some (.tup vs) → Reps G I vs ds → Rep G I (.ref p) (.tup ds)
  | dic {p : Addr} {fs : List (Str × V)} {kds : List (Str × D)} : I p = some (.dK (kvK fs)) → RepF G I fs kds → Rep G I (.ref p) (.dic kds)
  | ins {p dx : Addr} {C : Str} {fs : List (Str × V)} {fds : List (Str × D)} : I p = some (.ins (He.ga G.K C) dx fs) → RepF G I fs fds → Rep G I (.ref p) (.ins C fds)
  | fn {f : Addr} {φ : Heap → Prop} {k : Nat} {dom g : Str → Bool} : I f = some (.ext φ) → (∀ h, φ h → PySem.W.FnAt f h) → Cal G k f I dom g → Rep G I (.ref f) (.fn k dom g)
  | clo {f : Addr} {F : NdefX.NF} {oe : Option Expr} : I f = some (CloO f F oe) → I F.c = some (LamX.CodeO F.c F.qual) → Rep G I (.ref f) (.clo F oe)
  | any (v : V) : Rep G I v .any
  | cloE {f c : Addr} {F : Addr → NdefX.NF} {oe : Option Expr} : I f = some (CloO f (F c) oe) → I (F c).c = some (LamX.CodeO (F c).c (F c).qual) → Rep G I (.ref f) (.cloE F oe)
inductive Reps (G : Glb) (I : Hp) : List V → List D → Prop where
  | nil : Reps G I [] []
  | cons {v : V} {d : D} {vs : List V} {ds : List D} : Rep G I v d → Reps G I vs ds → Reps G I (v :: vs) (d :: ds)
inductive RepF (G : Glb) (I : Hp) : List (Str × V) → List (Str × D) → Prop where
  | nil : RepF G I [] []
  | cons {x : Str} {v : V} {d : D} {vs : List (Str × V)} {ds : List (Str × D)} : Rep G I v d → RepF G I vs ds → RepF G I ((x, v) :: vs) ((x, d) :: ds)
end
section
variable {G : Glb} {I I1 : Hp}
mutual
theorem Rep.mono (s : Same I I1) : ∀ {v : V} {d : D}, Rep G I v d → Rep G I1 v d
  | _, _, .non => .non
  | _, _, .bl b => .bl b
  | _, _, .int i => .int i
  | _, _, .str x => .str x
  | _, _, .ty x => .ty x
  | _, _, .lst h r => .lst (s _ _ h) (Reps.mono s r)
  | _, _, .tup h r => .tup (s _ _ h) (Reps.mono s r)
  | _, _, .dic h r => .dic (s _ _ h) (RepF.mono s r)
  | _, _, .ins h r => .ins (s _ _ h) (RepF.mono s r)
  | _, _, .fn h a c => .fn (s _ _ h) a (c.mono s)
  | _, _, .clo h c => .clo (s _ _ h) (s _ _ c)
  | _, _, .any v => .any v
  | _, _, .cloE h c => .cloE (s _ _ h) (s _ _ c)
theorem Reps.mono (s : Same I I1) : ∀ {vs : List V} {ds : List D}, Reps G I vs ds → Reps G I1 vs ds
  | _, _, .nil => .nil
  | _, _, .cons h r => .cons (Rep.mono s h) (Reps.mono s r)
theorem RepF.mono (s : Same I I1) : ∀ {vs : List (Str × V)} {ds : List (Str × D)}, RepF G I vs ds → RepF G I1 vs ds
  | _, _, .nil => .nil
  | _, _, .cons h r => .cons (Rep.mono s h) (RepF.mono s r)
end
theorem Reps.len : ∀ {vs : List V} {ds : List D}, Reps G I vs ds → vs.length = ds.length
  | _, _, .nil => rfl
  | _, _, .cons _ r => congrArg (· + 1) r.len
theorem Reps.get : ∀ {vs : List V} {ds : List D} {i : Nat} {v : V}, Reps G I vs ds → vs[i]? = some v → ∃ d, ds[i]? = some d ∧ Rep G I v d
  | _, _, _, _, .nil, e => by simp at e
  | _, _, 0, _, .cons h _, e => by simp at e; subst e; exact ⟨_, rfl, h⟩
  | _, _, i + 1, v, .cons _ t, e => by
    obtain ⟨d, h1, h2⟩ := Reps.get (i := i) (v := v) t (by simpa using e)
    exact ⟨d, by simpa using h1, h2⟩
theorem Reps.get' : ∀ {vs : List V} {ds : List D} {i : Nat} {d : D}, Reps G I vs ds → ds[i]? = some d → ∃ v, vs[i]? = some v ∧ Rep G I v d
  | _, _, _, _, .nil, e => by simp at e
  | _, _, 0, _, .cons h _, e => by simp at e; subst e; exact ⟨_, rfl, h⟩
  | _, _, i + 1, v, .cons _ t, e => by
    obtain ⟨d, h1, h2⟩ := Reps.get' (i := i) (d := v) t (by simpa using e)
    exact ⟨d, by simpa using h1, h2⟩
theorem Reps.app : ∀ {vs ws : List V} {ds es : List D}, Reps G I vs ds → Reps G I ws es → Reps G I (vs ++ ws) (ds ++ es)
  | _, _, _, _, .nil, s => s
  | _, _, _, _, .cons h t, s => .cons h (t.app s)
theorem Reps.take : ∀ {vs : List V} {ds : List D} (n : Nat), Reps G I vs ds → Reps G I (vs.take n) (ds.take n)
  | _, _, 0, _ => .nil
  | _, _, _ + 1, .nil => .nil
  | _, _, n + 1, .cons h t => .cons h (t.take n)
theorem Reps.drop : ∀ {vs : List V} {ds : List D} (n : Nat), Reps G I vs ds → Reps G I (vs.drop n) (ds.drop n)
  | _, _, 0, r => r
  | _, _, _ + 1, .nil => .nil
  | _, _, n + 1, .cons _ t => t.drop n
theorem Reps.set {v : V} {d : D} (h : Rep G I v d) : ∀ {vs : List V} {ds : List D} (i : Nat), Reps G I vs ds → Reps G I (vs.set i v) (ds.set i d)
  | _, _, _, .nil => .nil
  | _, _, 0, .cons _ t => .cons h t
  | _, _, i + 1, .cons q t => .cons q (t.set h i)
theorem Reps.erase : ∀ {vs : List V} {ds : List D} (i : Nat), Reps G I vs ds → Reps G I (vs.eraseIdx i) (ds.eraseIdx i)
  | _, _, _, .nil => .nil
  | _, _, 0, .cons _ t => t
  | _, _, i + 1, .cons q t => .cons q (t.erase i)
theorem Reps.strs : ∀ {vs : List V} {ns : List Str}, Reps G I vs (ns.map D.str) → vs = ns.map V.str
  | _, [], .nil => rfl
  | _, _ :: _, .cons (.str _) t => by rw [List.map_cons, ← Reps.strs t]
theorem Reps.ofStrs : ∀ (ns : List Str), Reps G I (ns.map V.str) (ns.map D.str)
  | [] => .nil
  | n :: r => .cons (.str n) (Reps.ofStrs r)
theorem Reps.ints : ∀ {vs : List V} {ns : List Int}, Reps G I vs (ns.map D.int) → vs = ns.map V.int
  | _, [], .nil => rfl
  | _, _ :: _, .cons (.int _) t => by rw [List.map_cons, ← Reps.ints t]
theorem Reps.ofInts : ∀ (ns : List Int), Reps G I (ns.map V.int) (ns.map D.int)
  | [] => .nil
  | n :: r => .cons (.int n) (Reps.ofInts r)
theorem Reps.bls : ∀ {vs : List V} {ns : List Bool}, Reps G I vs (ns.map D.bl) → vs = ns.map V.bl
  | _, [], .nil => rfl
  | _, _ :: _, .cons (.bl _) t => by rw [List.map_cons, ← Reps.bls t]
end

/-! ### trees of one's own -/
inductive OT where
  | im (d : D) | lst (xs : List OT) | tup (xs : List OT) | dic (kvs : List (Str × OT)) | ins (C : Str) (fs : List (Str × OT)) | hole (p : Addr)
mutual
inductive OR (G : Glb) (I H : Hp) : V → OT → List Addr → Prop where
  | im {v : V} {d : D} : Rep G I v d → OR G I H v (.im d) []
  | lst {p : Addr} {vs : List V} {ts : List OT} {A : List Addr} : H p = some (.lst vs) → I p = none → p ∉ A → ORs G I H vs ts A → OR G I H (.ref p) (.lst ts) (p :: A)
  | tup {p : Addr} {vs : List V} {ts : List OT} {A : List Addr} : H p = some (.tup vs) → I p = none → p ∉ A → ORs G I H vs ts A → OR G I H (.ref p) (.tup ts) (p :: A)
  | hole (p : Addr) : OR G I H (.ref p) (.hole p) []
  | dic {p : Addr} {fs : List (Str × V)} {ts : List (Str × OT)} {A : List Addr} : H p = some (.dK (kvK fs)) → I p = none → p ∉ A → ORF G I H fs ts A → OR G I H (.ref p) (.dic ts) (p :: A)
  | ins {p dx : Addr} {C : Str} {fs : List (Str × V)} {ts : List (Str × OT)} {A : List Addr} : H p = some (.ins (He.ga G.K C) dx fs) → I p = none → p ∉ A → ORF G I H fs ts A → OR G I H (.ref p) (.ins C ts) (p :: A)
inductive ORs (G : Glb) (I H : Hp) : List V → List OT → List Addr → Prop where
  | nil : ORs G I H [] [] []
  | cons {v : V} {t : OT} {vs : List V} {ts : List OT} {A B : List Addr} : OR G I H v t A → ORs G I H vs ts B → (∀ a ∈ A, a ∉ B) → ORs G I H (v :: vs) (t :: ts) (A ++ B)
inductive ORF (G : Glb) (I H : Hp) : List (Str × V) → List (Str × OT) → List Addr → Prop where
  | nil : ORF G I H [] [] []
  | cons {x : Str} {v : V} {t : OT} {vs : List (Str × V)} {ts : List (Str × OT)} {A B : List Addr} : OR G I H v t A → ORF G I H vs ts B → (∀ a ∈ A, a ∉ B) → ORF G I H ((x, v) :: vs) ((x, t) :: ts) (A ++ B)
end
section
variable {G : Glb} {I H I' H' : Hp}
mutual
theorem OR.frame (s : Same I I') : ∀ {v : V} {t : OT} {A : List Addr}, OR G I H v t A → (∀ a ∈ A, I' a = none ∧ H' a = H a) → OR G I' H' v t A
  | _, _, _, .im r, _ => .im (r.mono s)
  | _, _, _, .lst h i n r, k => .lst ((k _ List.mem_cons_self).2.trans h) (k _ List.mem_cons_self).1 n (ORs.frame s r fun a ha => k a (List.mem_cons_of_mem _ ha))
  | _, _, _, .tup h i n r, k => .tup ((k _ List.mem_cons_self).2.trans h) (k _ List.mem_cons_self).1 n (ORs.frame s r fun a ha => k a (List.mem_cons_of_mem _ ha))
  | _, _, _, .hole p, _ => .hole p
  | _, _, _, .dic h i n r, k => .dic ((k _ List.mem_cons_self).2.trans h) (k _ List.mem_cons_self).1 n (ORF.frame s r fun a ha => k a (List.mem_cons_of_mem _ ha))
  | _, _, _, .ins h i n r, k => .ins ((k _ List.mem_cons_self).2.trans h) (k _ List.mem_cons_self).1 n (ORF.frame s r fun a ha => k a (List.mem_cons_of_mem _ ha))
theorem ORs.frame (s : Same I I') : ∀ {v : List V} {t : List OT} {A : List Addr}, ORs G I H v t A → (∀ a ∈ A, I' a = none ∧ H' a = H a) → ORs G I' H' v t A
  | _, _, _, .nil, _ => .nil
  | _, _, _, .cons a b d, k => .cons (OR.frame s a fun x hx => k x (List.mem_append_left _ hx)) (ORs.frame s b fun x hx => k x (List.mem_append_right _ hx)) d
theorem ORF.frame (s : Same I I') : ∀ {v : List (Str × V)} {t : List (Str × OT)} {A : List Addr}, ORF G I H v t A → (∀ a ∈ A, I' a = none ∧ H' a = H a) → ORF G I' H' v t A
  | _, _, _, .nil, _ => .nil
  | _, _, _, .cons a b d, k => .cons (OR.frame s a fun x hx => k x (List.mem_append_left _ hx)) (ORF.frame s b fun x hx => k x (List.mem_append_right _ hx)) d
end
/-- what stands at an address of the tree -/
def OwnO (I H : Hp) (a : Addr) : Prop := I a = none ∧ ∃ u, H a = some u ∧ (∀ ps, u ≠ HO.tbl ps) ∧ ∀ φ, u ≠ HO.ext φ
mutual
theorem OR.there : ∀ {v : V} {t : OT} {A : List Addr}, OR G I H v t A → ∀ a ∈ A, OwnO I H a
  | _, _, _, .im r, _, h => absurd h (by simp)
  | _, _, _, .lst h i n r, a, k => by
    rcases List.mem_cons.mp k with rfl | z
    · exact ⟨i, _, h, (fun _ z => nomatch z), (fun _ z => nomatch z)⟩
    · exact ORs.there r a z
  | _, _, _, .tup h i n r, a, k => by
    rcases List.mem_cons.mp k with rfl | z
    · exact ⟨i, _, h, (fun _ z => nomatch z), (fun _ z => nomatch z)⟩
    · exact ORs.there r a z
  | _, _, _, .hole p, _, h => absurd h (by simp)
  | _, _, _, .dic h i n r, a, k => by
    rcases List.mem_cons.mp k with rfl | z
    · exact ⟨i, _, h, (fun _ z => nomatch z), (fun _ z => nomatch z)⟩
    · exact ORF.there r a z
  | _, _, _, .ins h i n r, a, k => by
    rcases List.mem_cons.mp k with rfl | z
    · exact ⟨i, _, h, (fun _ z => nomatch z), (fun _ z => nomatch z)⟩
    · exact ORF.there r a z
theorem ORs.there : ∀ {v : List V} {t : List OT} {A : List Addr}, ORs G I H v t A → ∀ a ∈ A, OwnO I H a
  | _, _, _, .nil, _, h => absurd h (by simp)
  | _, _, _, .cons a b d, x, h => (List.mem_append.mp h).elim (OR.there a x) (ORs.there b x)
theorem ORF.there : ∀ {v : List (Str × V)} {t : List (Str × OT)} {A : List Addr}, ORF G I H v t A → ∀ a ∈ A, OwnO I H a
  | _, _, _, .nil, _, h => absurd h (by simp)
  | _, _, _, .cons a b d, x, h => (List.mem_append.mp h).elim (OR.there a x) (ORF.there b x)
end
mutual
theorem OR.noFrz : ∀ {v : V} {t : OT} {A : List Addr}, OR G I H v t A → ∀ a ∈ A, ∀ o w, H a ≠ some (.frz o w)
  | _, _, _, .im r, _, h => absurd h (by simp)
  | _, _, _, .lst h i n r, a, k => by
    rcases List.mem_cons.mp k with rfl | z
    · exact fun _ _ z => by rw [h] at z; cases z
    · exact ORs.noFrz r a z
  | _, _, _, .tup h i n r, a, k => by
    rcases List.mem_cons.mp k with rfl | z
    · exact fun _ _ z => by rw [h] at z; cases z
    · exact ORs.noFrz r a z
  | _, _, _, .hole p, _, h => absurd h (by simp)
  | _, _, _, .dic h i n r, a, k => by
    rcases List.mem_cons.mp k with rfl | z
    · exact fun _ _ z => by rw [h] at z; cases z
    · exact ORF.noFrz r a z
  | _, _, _, .ins h i n r, a, k => by
    rcases List.mem_cons.mp k with rfl | z
    · exact fun _ _ z => by rw [h] at z; cases z
    · exact ORF.noFrz r a z
theorem ORs.noFrz : ∀ {v : List V} {t : List OT} {A : List Addr}, ORs G I H v t A → ∀ a ∈ A, ∀ o w, H a ≠ some (.frz o w)
  | _, _, _, .nil, _, h => absurd h (by simp)
  | _, _, _, .cons a b d, x, h => (List.mem_append.mp h).elim (OR.noFrz a x) (ORs.noFrz b x)
theorem ORF.noFrz : ∀ {v : List (Str × V)} {t : List (Str × OT)} {A : List Addr}, ORF G I H v t A → ∀ a ∈ A, ∀ o w, H a ≠ some (.frz o w)
  | _, _, _, .nil, _, h => absurd h (by simp)
  | _, _, _, .cons a b d, x, h => (List.mem_append.mp h).elim (OR.noFrz a x) (ORF.noFrz b x)
end
mutual
def OT.fz : OT → D
  | .im d => d
  | .lst xs => .lst (OT.fzs xs)
  | .tup xs => .tup (OT.fzs xs)
  | .hole _ => .any
  | .dic xs => .dic (OT.fzF xs)
  | .ins C xs => .ins C (OT.fzF xs)
def OT.fzs : List OT → List D
  | [] => []
  | t :: ts => t.fz :: OT.fzs ts
def OT.fzF : List (Str × OT) → List (Str × D)
  | [] => []
  | (x, t) :: ts => (x, t.fz) :: OT.fzF ts
end
mutual
/-- no dict in it -/
def OT.nd : OT → Bool
  | .im _ => true
  | .lst xs => OT.nds xs
  | .tup xs => OT.nds xs
  | .dic _ => false
  | .ins _ xs => OT.ndF xs
  | .hole _ => true
def OT.nds : List OT → Bool
  | [] => true
  | t :: ts => t.nd && OT.nds ts
def OT.ndF : List (Str × OT) → Bool
  | [] => true
  | (_, t) :: ts => t.nd && OT.ndF ts
end
mutual
theorem OR.noD : ∀ {v : V} {t : OT} {A : List Addr}, OR G I H v t A → t.nd = true → ∀ a ∈ A, ∀ kvs, H a ≠ some (.dK kvs)
  | _, _, _, .im r, _, _, h, _ => absurd h (by simp)
  | _, _, _, .lst h i n r, e, a, k, kvs => by
    rw [OT.nd] at e
    rcases List.mem_cons.mp k with rfl | z
    · rw [h]; exact fun z => nomatch z
    · exact ORs.noD r e a z kvs
  | _, _, _, .tup h i n r, e, a, k, kvs => by
    rw [OT.nd] at e
    rcases List.mem_cons.mp k with rfl | z
    · rw [h]; exact fun z => nomatch z
    · exact ORs.noD r e a z kvs
  | _, _, _, .hole p, _, _, h, _ => absurd h (by simp)
  | _, _, _, .dic h i n r, e, _, _, _ => by
    rw [OT.nd] at e
    cases e
  | _, _, _, .ins h i n r, e, a, k, kvs => by
    rw [OT.nd] at e
    rcases List.mem_cons.mp k with rfl | z
    · rw [h]; exact fun z => nomatch z
    · exact ORF.noD r e a z kvs
theorem ORs.noD : ∀ {v : List V} {t : List OT} {A : List Addr}, ORs G I H v t A → OT.nds t = true → ∀ a ∈ A, ∀ kvs, H a ≠ some (.dK kvs)
  | _, _, _, .nil, _, _, h, _ => absurd h (by simp)
  | _, _, _, .cons a b d, e, x, h, kvs => by
    rw [OT.nds, Bool.and_eq_true] at e
    exact (List.mem_append.mp h).elim (fun z => OR.noD a e.1 x z kvs) fun z => ORs.noD b e.2 x z kvs
theorem ORF.noD : ∀ {v : List (Str × V)} {t : List (Str × OT)} {A : List Addr}, ORF G I H v t A → OT.ndF t = true → ∀ a ∈ A, ∀ kvs, H a ≠ some (.dK kvs)
  | _, _, _, .nil, _, _, h, _ => absurd h (by simp)
  | _, _, _, .cons a b d, e, x, h, kvs => by
    rw [OT.ndF, Bool.and_eq_true] at e
    exact (List.mem_append.mp h).elim (fun z => OR.noD a e.1 x z kvs) fun z => ORF.noD b e.2 x z kvs
end
/-- I with the objects at A told -/
def tellA (I H : Hp) (A : List Addr) : Hp := fun a => if a ∈ A then H a else I a
mutual
theorem OR.told (s : Same I I') : ∀ {v : V} {t : OT} {A : List Addr}, OR G I H v t A → (∀ a ∈ A, I' a = H a) → Rep G I' v t.fz
  | _, _, _, .im r, _ => by rw [OT.fz]; exact r.mono s
  | _, _, _, .lst h i n r, k => by rw [OT.fz]; exact .lst ((k _ List.mem_cons_self).trans h) (ORs.told s r fun a ha => k a (List.mem_cons_of_mem _ ha))
  | _, _, _, .tup h i n r, k => by rw [OT.fz]; exact .tup ((k _ List.mem_cons_self).trans h) (ORs.told s r fun a ha => k a (List.mem_cons_of_mem _ ha))
  | _, _, _, .hole p, _ => by rw [OT.fz]; exact .any _
  | _, _, _, .dic h i n r, k => by rw [OT.fz]; exact .dic ((k _ List.mem_cons_self).trans h) (ORF.told s r fun a ha => k a (List.mem_cons_of_mem _ ha))
  | _, _, _, .ins h i n r, k => by rw [OT.fz]; exact .ins ((k _ List.mem_cons_self).trans h) (ORF.told s r fun a ha => k a (List.mem_cons_of_mem _ ha))
theorem ORs.told (s : Same I I') : ∀ {v : List V} {t : List OT} {A : List Addr}, ORs G I H v t A → (∀ a ∈ A, I' a = H a) → Reps G I' v (OT.fzs t)
  | _, _, _, .nil, _ => by rw [OT.fzs]; exact .nil
  | _, _, _, .cons a b d, k => by rw [OT.fzs]; exact .cons (OR.told s a fun x hx => k x (List.mem_append_left _ hx)) (ORs.told s b fun x hx => k x (List.mem_append_right _ hx))
theorem ORF.told (s : Same I I') : ∀ {v : List (Str × V)} {t : List (Str × OT)} {A : List Addr}, ORF G I H v t A → (∀ a ∈ A, I' a = H a) → RepF G I' v (OT.fzF t)
  | _, _, _, .nil, _ => by rw [OT.fzF]; exact .nil
  | _, _, _, .cons a b d, k => by rw [OT.fzF]; exact .cons (OR.told s a fun x hx => k x (List.mem_append_left _ hx)) (ORF.told s b fun x hx => k x (List.mem_append_right _ hx))
end
theorem tell_same {A : List Addr} (h : ∀ a ∈ A, I a = none) : Same I (tellA I H A) := fun a u e => by
  unfold tellA
  rw [if_neg fun z => by rw [h a z] at e; cases e]
  exact e
theorem tell_at {A : List Addr} {a : Addr} (h : a ∈ A) : tellA I H A a = H a := if_pos h
theorem tell_of {A : List Addr} {a : Addr} {u : HO} (e : tellA I H A a = some u) : I a = some u ∨ (a ∈ A ∧ H a = some u) := by
  unfold tellA at e
  by_cases z : a ∈ A
  · rw [if_pos z] at e
    exact .inr ⟨z, e⟩
  · rw [if_neg z] at e
    exact .inl e
end

/-! ### slots -/
/-- what is one's own, of a shape of its own: A are its addresses -/
structure Gh where
  R : Glb → Hp → Hp → V → List Addr → Prop
  frame : ∀ {G : Glb} {I H I' H' : Hp} {v : V} {A : List Addr}, R G I H v A → Same I I' → (∀ a ∈ A, I' a = none ∧ H' a = H a) → R G I' H' v A
  there : ∀ {G : Glb} {I H : Hp} {v : V} {A : List Addr}, R G I H v A → ∀ a ∈ A, OwnO I H a
inductive DS where
  | no | im (d : D) | own (xs : List D) | ownD (kvs : List (Str × D)) | ot (a : Option Addr) (t : OT) | gh (g : Gh)
def DS.isOwn : DS → Bool
  | .own _ => true
  | .ownD _ => true
  | .ot _ _ => true
  | _ => false
/-- S: the addresses that are the slot's -/
def SlotR (G : Glb) (H0 I H : Hp) (ov : Option V) (S : Addr → Prop) : DS → Prop
  | .no => True
  | .im d => ∃ v, ov = some v ∧ Rep G I v d
  | .own xs => ∃ p vs, ov = some (.ref p) ∧ H p = some (.lst vs) ∧ Reps G I vs xs ∧ I p = none ∧ H0 p = none ∧ S p
  | .ownD kvs => ∃ p fs, ov = some (.ref p) ∧ H p = some (.dK (kvK fs)) ∧ RepF G I fs kvs ∧ I p = none ∧ H0 p = none ∧ S p
  | .ot q t => ∃ v A, ov = some v ∧ OR G I H v t A ∧ (∀ a ∈ A, H0 a = none ∧ S a) ∧ ∀ p, q = some p → v = .ref p
  | .gh g => ∃ v A, ov = some v ∧ g.R G I H v A ∧ ∀ a ∈ A, H0 a = none ∧ S a
theorem Step.ownKeep {G : Glb} {I H I' H' : Hp} (s : Step G I H I' H') {a : Addr} (h : OwnO I H a) : I' a = none ∧ H' a = H a := by
  obtain ⟨i, u, e, n, n2⟩ := h
  exact ⟨s.fresh a u i e n2 n, (s.keep a u e n (.inl i)).trans e.symm⟩
theorem SlotR.step {G : Glb} {H0 I H I' H' : Hp} {ov : Option V} {S : Addr → Prop} (s : Step G I H I' H') : ∀ {d : DS}, SlotR G H0 I H ov S d → SlotR G H0 I' H' ov S d
  | .no, _ => trivial
  | .im _, ⟨v, e, r⟩ => ⟨v, e, r.mono s.isub⟩
  | .own _, ⟨p, vs, e, h, r, i, z⟩ => ⟨p, vs, e, s.keep p _ h (fun _ q => nomatch q) (.inl i), r.mono s.isub, s.fresh p _ i h (fun _ q => nomatch q) (fun _ q => nomatch q), z⟩
  | .ownD _, ⟨p, vs, e, h, r, i, z⟩ => ⟨p, vs, e, s.keep p _ h (fun _ q => nomatch q) (.inl i), r.mono s.isub, s.fresh p _ i h (fun _ q => nomatch q) (fun _ q => nomatch q), z⟩
  | .ot _ _, ⟨v, A, e, r, z⟩ => ⟨v, A, e, r.frame s.isub fun a ha => s.ownKeep (r.there a ha), z⟩
  | .gh g, ⟨v, A, e, r, z⟩ => ⟨v, A, e, g.frame r s.isub fun a ha => s.ownKeep (g.there r a ha), z⟩
/-- a change elsewhere -/
theorem SlotR.away {G : Glb} {H0 I H I' H' : Hp} {ov : Option V} {S : Addr → Prop} (s : Same I I') (h : ∀ a, S a → OwnO I H a → I' a = none ∧ H' a = H a) : ∀ {d : DS}, SlotR G H0 I H ov S d → SlotR G H0 I' H' ov S d
  | .no, _ => trivial
  | .im _, ⟨v, e, r⟩ => ⟨v, e, r.mono s⟩
  | .own _, ⟨p, vs, e, h1, r, i, z1, z2⟩ => by
    obtain ⟨k1, k2⟩ := h p z2 ⟨i, _, h1, (fun _ z => nomatch z), (fun _ z => nomatch z)⟩
    exact ⟨p, vs, e, k2.trans h1, r.mono s, k1, z1, z2⟩
  | .ownD _, ⟨p, vs, e, h1, r, i, z1, z2⟩ => by
    obtain ⟨k1, k2⟩ := h p z2 ⟨i, _, h1, (fun _ z => nomatch z), (fun _ z => nomatch z)⟩
    exact ⟨p, vs, e, k2.trans h1, r.mono s, k1, z1, z2⟩
  | .ot _ _, ⟨v, A, e, r, z⟩ => ⟨v, A, e, r.frame s fun a ha => h a (z.1 a ha).2 (r.there a ha), z⟩
  | .gh g, ⟨v, A, e, r, z⟩ => ⟨v, A, e, g.frame r s fun a ha => h a (z a ha).2 (g.there r a ha), z⟩
theorem SlotR.more {G : Glb} {H0 I H : Hp} {ov : Option V} {S S' : Addr → Prop} (h : ∀ a, S a → S' a) : ∀ {d : DS}, SlotR G H0 I H ov S d → SlotR G H0 I H ov S' d
  | .no, _ => trivial
  | .im _, ⟨v, e, r⟩ => ⟨v, e, r⟩
  | .own _, ⟨p, vs, e, h1, r, i, z1, z2⟩ => ⟨p, vs, e, h1, r, i, z1, h p z2⟩
  | .ownD _, ⟨p, vs, e, h1, r, i, z1, z2⟩ => ⟨p, vs, e, h1, r, i, z1, h p z2⟩
  | .ot _ _, ⟨v, A, e, r, z⟩ => ⟨v, A, e, r, fun a ha => ⟨(z.1 a ha).1, h a (z.1 a ha).2⟩, z.2⟩
  | .gh _, ⟨v, A, e, r, z⟩ => ⟨v, A, e, r, fun a ha => ⟨(z a ha).1, h a (z a ha).2⟩⟩
/-- F i: the addresses of the slot i -/
structure Foot (G : Glb) (H0 I H : Hp) (σ : L2.St) (ds : List DS) (F : Nat → Addr → Prop) : Prop where
  sl : ∀ (i : Nat) (o : Option V) (s : DS), σ[i]? = some o → ds[i]? = some s → SlotR G H0 I H o (F i) s
  dj : ∀ (i j : Nat) (a : Addr), F i a → F j a → i = j
  th : ∀ (i : Nat) (a : Addr), F i a → H a ≠ none
structure EnvR (G : Glb) (U : Bool) (I0 H0 I H : Hp) (σ : L2.St) (ds : List DS) : Prop where
  st : Step G I0 H0 I H
  tb : NdefX.TabsN G.T H
  len : σ.length = ds.length
  fp : ∃ F, Foot G H0 I H σ ds F
section
variable {G : Glb} {U : Bool} {I0 H0 I H I' H' : Hp} {σ : L2.St} {ds : List DS}
theorem EnvR.sub (e : EnvR G U I0 H0 I H σ ds) : RdS I H := e.st.sub
theorem EnvR.step (e : EnvR G U I0 H0 I H σ ds) (s : Step G I H I' H') : EnvR G U I0 H0 I' H' σ ds := by
  obtain ⟨F, f⟩ := e.fp
  exact ⟨e.st.trans s, s.tabs e.tb, e.len, F, fun i o d h1 h2 => (f.sl i o d h1 h2).step s, f.dj, fun i a h => s.keepN a (f.th i a h)⟩
theorem EnvR.at_ (e : EnvR G U I0 H0 I H σ ds) {i : Nat} {s : DS} (h : ds[i]? = some s) : ∃ o S, σ[i]? = some o ∧ SlotR G H0 I H o S s := by
  have hl : i < σ.length := by rw [e.len]; exact (List.getElem?_eq_some_iff.mp h).1
  obtain ⟨F, f⟩ := e.fp
  exact ⟨σ[i], F i, List.getElem?_eq_getElem hl, f.sl i _ s (List.getElem?_eq_getElem hl) h⟩
theorem EnvR.im (e : EnvR G U I0 H0 I H σ ds) {i : Nat} {d : D} (h : ds[i]? = some (.im d)) : ∃ v, σ[i]? = some (some v) ∧ Rep G I v d := by
  obtain ⟨o, _, h1, v, rfl, r⟩ := e.at_ h
  exact ⟨v, h1, r⟩
theorem EnvR.own (e : EnvR G U I0 H0 I H σ ds) {i : Nat} {xs : List D} (h : ds[i]? = some (.own xs)) : ∃ p vs, σ[i]? = some (some (.ref p)) ∧ H p = some (.lst vs) ∧ Reps G I vs xs ∧ I p = none ∧ H0 p = none := by
  obtain ⟨o, _, h1, p, vs, rfl, r1, r2, r3, r4, _⟩ := e.at_ h
  exact ⟨p, vs, h1, r1, r2, r3, r4⟩
theorem EnvR.ownD (e : EnvR G U I0 H0 I H σ ds) {i : Nat} {xs : List (Str × D)} (h : ds[i]? = some (.ownD xs)) : ∃ p fs, σ[i]? = some (some (.ref p)) ∧ H p = some (.dK (kvK fs)) ∧ RepF G I fs xs ∧ I p = none ∧ H0 p = none := by
  obtain ⟨o, _, h1, p, vs, rfl, r1, r2, r3, r4, _⟩ := e.at_ h
  exact ⟨p, vs, h1, r1, r2, r3, r4⟩
theorem EnvR.ot (e : EnvR G U I0 H0 I H σ ds) {i : Nat} {q : Option Addr} {t : OT} (h : ds[i]? = some (.ot q t)) : ∃ v A, σ[i]? = some (some v) ∧ OR G I H v t A ∧ (∀ a ∈ A, H0 a = none) ∧ ∀ p, q = some p → v = .ref p := by
  obtain ⟨o, _, h1, v, A, rfl, r1, r2, r3⟩ := e.at_ h
  exact ⟨v, A, h1, r1, fun a ha => (r2 a ha).1, r3⟩
/-- the slot i changed: what is new of it has the addresses S -/
theorem EnvR.put (e : EnvR G U I0 H0 I H σ ds) {F : Nat → Addr → Prop} (f : Foot G H0 I H σ ds F) (st : Step G I0 H0 I' H') (tb : NdefX.TabsN G.T H') (kN : ∀ a, H a ≠ none → H' a ≠ none) (i : Nat) (o : Option V) (d : DS) (S : Addr → Prop)
    (far : ∀ j, j ≠ i → ∀ a, F j a → OwnO I H a → I' a = none ∧ H' a = H a) (sm : Same I I')
    (new : ∀ a, S a → H' a ≠ none ∧ (H a = none ∨ F i a)) (hs : SlotR G H0 I' H' o S d) : EnvR G U I0 H0 I' H' (σ.set i o) (ds.set i d) := by
  refine ⟨st, tb, by rw [List.length_set, List.length_set]; exact e.len, fun j a => if j = i then S a else F j a, fun j ov s h1 h2 => ?_, fun j k a h1 h2 => ?_, fun j a h => ?_⟩
  · by_cases hj : j = i
    · subst hj
      have l1 : j < ds.length := by
        have := (List.getElem?_eq_some_iff.mp h2).1
        rwa [List.length_set] at this
      rw [List.getElem?_set_self (by rw [e.len]; exact l1)] at h1
      rw [List.getElem?_set_self l1] at h2
      cases h1
      cases h2
      exact hs.more fun a ha => by rw [if_pos rfl]; exact ha
    · rw [List.getElem?_set_ne (Ne.symm hj)] at h1 h2
      exact ((f.sl j ov s h1 h2).away sm fun a ha => far j hj a ha).more fun a ha => by rw [if_neg hj]; exact ha
  · have two : ∀ j k, (if j = i then S a else F j a) → (if k = i then S a else F k a) → j = i → k ≠ i → False := fun j k h1 h2 hj hk => by
      rw [if_pos hj] at h1
      rw [if_neg hk] at h2
      rcases (new a h1).2 with z | z
      · exact f.th k a h2 z
      · exact hk (f.dj k i a h2 z)
    by_cases hj : j = i
    · by_cases hk : k = i
      · rw [hj, hk]
      · exact (two j k h1 h2 hj hk).elim
    · by_cases hk : k = i
      · exact (two k j h2 h1 hk hj).elim
      · rw [if_neg hj] at h1
        rw [if_neg hk] at h2
        exact f.dj j k a h1 h2
  · by_cases hj : j = i
    · rw [if_pos hj] at h
      exact (new a h).1
    · rw [if_neg hj] at h
      exact kN a (f.th j a h)
theorem EnvR.setIm (e : EnvR G U I0 H0 I H σ ds) {v : V} {d : D} (i : Nat) (r : Rep G I v d) : EnvR G U I0 H0 I H (σ.set i (some v)) (ds.set i (.im d)) :=
  let ⟨_, f⟩ := e.fp
  e.put f e.st e.tb (fun _ h => h) i _ _ (fun _ => False) (fun _ _ _ _ h => ⟨h.1, rfl⟩) (Same.refl I) (fun _ h => h.elim) ⟨v, rfl, r⟩
theorem EnvR.setNo (e : EnvR G U I0 H0 I H σ ds) (ov : Option V) (i : Nat) : EnvR G U I0 H0 I H (σ.set i ov) (ds.set i .no) :=
  let ⟨_, f⟩ := e.fp
  e.put f e.st e.tb (fun _ h => h) i _ _ (fun _ => False) (fun _ _ _ _ h => ⟨h.1, rfl⟩) (Same.refl I) (fun _ h => h.elim) trivial
/-- a new value of one's own comes to a slot -/
theorem EnvR.setNew (e : EnvR G U I0 H0 I H σ ds) (s : Step G I H I' H') (A : List Addr) (hp : ∀ a ∈ A, H a = none ∧ H' a ≠ none) {v : V} {d : DS} (i : Nat) (hs : SlotR G H0 I' H' (some v) (fun a => a ∈ A) d) : EnvR G U I0 H0 I' H' (σ.set i (some v)) (ds.set i d) :=
  let ⟨_, f⟩ := e.fp
  e.put f (e.st.trans s) (s.tabs e.tb) s.keepN i _ _ (fun a => a ∈ A) (fun _ _ _ _ h => s.ownKeep h) s.isub (fun a ha => ⟨(hp a ha).2, .inl (hp a ha).1⟩) hs
theorem Step.mutOwn {p : Addr} {o : HO} (s : Step G I0 H0 I H) (hi : I p = none) (h0 : H0 p = none) (hp : ∀ u, H p = some u → (∀ ps, u ≠ HO.tbl ps) ∧ ∀ φ, u ≠ HO.ext φ) : Step G I0 H0 I (upd H p o) := by
  refine ⟨s.isub, fun a u e => ?_, fun a u e n c => ?_, fun a n => ?_, s.fresh, fun t => tabs_upd (s.tabs t) hp⟩
  · rw [upd_ne (ne_of_none e hi)]; exact s.sub a u e
  · rw [upd_ne (ne_of_none e h0)]; exact s.keep a u e n c
  · by_cases z : a = p
    · rw [z, upd_same]; exact fun q => nomatch q
    · rw [upd_ne z]; exact s.keepN a n
/-- one's own object at slot i changes -/
theorem EnvR.mutOwn (e : EnvR G U I0 H0 I H σ ds) {p : Addr} {i : Nat} {o : HO} {d' : DS} (hσ : σ[i]? = some (some (.ref p))) (hd : (∃ xs, ds[i]? = some (.own xs)) ∨ ∃ xs, ds[i]? = some (.ownD xs)) (hi : I p = none) (h0 : H0 p = none)
    (hp : ∀ u, H p = some u → (∀ ps, u ≠ HO.tbl ps) ∧ ∀ φ, u ≠ HO.ext φ) (hs : SlotR G H0 I (upd H p o) (some (.ref p)) (fun a => a = p) d') : EnvR G U I0 H0 I (upd H p o) σ (ds.set i d') := by
  obtain ⟨F, f⟩ := e.fp
  have own : F i p := by
    rcases hd with ⟨xs, h⟩ | ⟨xs, h⟩
    · obtain ⟨q, vs, e1, _, _, _, _, z⟩ := f.sl i _ _ hσ h
      cases e1
      exact z
    · obtain ⟨q, vs, e1, _, _, _, _, z⟩ := f.sl i _ _ hσ h
      cases e1
      exact z
  have z := e.put f (e.st.mutOwn (o := o) hi h0 hp) (tabs_upd e.tb hp) (fun a n => by
    by_cases z : a = p
    · rw [z, upd_same]; exact fun q => nomatch q
    · rw [upd_ne z]; exact n) i (some (.ref p)) d' (fun a => a = p) (fun j hj a ha h => ⟨h.1, upd_ne fun z => hj (f.dj j i a ha (by rw [z]; exact own))⟩) (Same.refl I) (fun a ha => ⟨(by
      rw [ha, upd_same]
      exact fun q => nomatch q), .inr (by rw [ha]; exact own)⟩) hs
  rwa [show σ.set i (some (.ref p)) = σ from by
    obtain ⟨hl, he⟩ := List.getElem?_eq_some_iff.mp hσ
    rw [← he, List.set_getElem_self]] at z
end
end Lp

/-! The judgements over data: expressions, tests, arguments, statements. -/
namespace Lp
open PySem PySem.Spec PyProof.Rows L2

/-- a value that an expression gives: told at once, or a new object of one's own; Hb: the heap ahead of it -/
def ValR (G : Glb) (Hb I H : Hp) (v : V) : DS → Prop
  | .no => True
  | .im d => Rep G I v d
  | .own xs => ∃ p vs, v = .ref p ∧ Hb p = none ∧ I p = none ∧ H p = some (.lst vs) ∧ Reps G I vs xs
  | .ownD kvs => ∃ p fs, v = .ref p ∧ Hb p = none ∧ I p = none ∧ H p = some (.dK (kvK fs)) ∧ RepF G I fs kvs
  | .ot q t => ∃ A, OR G I H v t A ∧ (∀ a ∈ A, Hb a = none) ∧ ∀ p, q = some p → v = .ref p
  | .gh g => ∃ A, g.R G I H v A ∧ ∀ a ∈ A, Hb a = none
theorem ValR.back {G : Glb} {I H I1 H1 I' H' : Hp} {v : V} (s : Step G I H I1 H1) : ∀ {d : DS}, ValR G H1 I' H' v d → ValR G H I' H' v d
  | .no, _ => trivial
  | .im _, r => r
  | .own _, ⟨p, vs, e, n, r⟩ => ⟨p, vs, e, s.free n, r⟩
  | .ownD _, ⟨p, vs, e, n, r⟩ => ⟨p, vs, e, s.free n, r⟩
  | .ot _ _, ⟨A, r, n, z⟩ => ⟨A, r, fun a ha => s.free (n a ha), z⟩
  | .gh _, ⟨A, r, n⟩ => ⟨A, r, fun a ha => s.free (n a ha)⟩
theorem ValR.step {G : Glb} {Hb I H I' H' : Hp} {v : V} (s : Step G I H I' H') : ∀ {d : DS}, ValR G Hb I H v d → ValR G Hb I' H' v d
  | .no, _ => trivial
  | .im _, r => r.mono s.isub
  | .own _, ⟨p, vs, e, n, i, h, r⟩ => ⟨p, vs, e, n, s.fresh p _ i h (fun _ q => nomatch q) (fun _ q => nomatch q), s.keep p _ h (fun _ q => nomatch q) (.inl i), r.mono s.isub⟩
  | .ownD _, ⟨p, vs, e, n, i, h, r⟩ => ⟨p, vs, e, n, s.fresh p _ i h (fun _ q => nomatch q) (fun _ q => nomatch q), s.keep p _ h (fun _ q => nomatch q) (.inl i), r.mono s.isub⟩
  | .ot _ _, ⟨A, r, n⟩ => ⟨A, r.frame s.isub fun a ha => s.ownKeep (r.there a ha), n⟩
  | .gh g, ⟨A, r, n⟩ => ⟨A, g.frame r s.isub fun a ha => s.ownKeep (g.there r a ha), n⟩
def DS.fz : DS → DS
  | .ot _ t => .im t.fz
  | .own xs => .im (.lst xs)
  | .ownD kvs => .im (.dic kvs)
  | s => s
theorem ValR.fz {G : Glb} {I H I' H' : Hp} {v : V} (s : Step G I H I' H') : ∀ {d : DS}, ValR G H I' H' v d → ∃ I2, Step G I H I2 H' ∧ ValR G H I2 H' v d.fz
  | .no, _ => ⟨I', s, trivial⟩
  | .gh _, r => ⟨I', s, r⟩
  | .im _, r => ⟨I', s, r⟩
  | .own _, ⟨p, vs, e, n, i, h, r⟩ => ⟨upd I' p (.lst vs), s.freeze n i h, by
      subst e
      exact Rep.lst upd_same (r.mono fun a u q => by rw [upd_ne (ne_of_none q i)]; exact q)⟩
  | .ownD _, ⟨p, vs, e, n, i, h, r⟩ => ⟨upd I' p (.dK (kvK vs)), s.freeze n i h, by
      subst e
      exact Rep.dic upd_same (r.mono fun a u q => by rw [upd_ne (ne_of_none q i)]; exact q)⟩
  | .ot _ _, ⟨A, r, n, _⟩ => ⟨tellA I' H' A, s.tell (tell_same fun a ha => (r.there a ha).1) (fun a u e => (tell_of e).imp id fun ⟨ha, h⟩ => ⟨n a ha, h, by
      obtain ⟨_, w, z, z1, _⟩ := r.there a ha
      rw [h] at z
      cases z
      exact z1⟩), r.told (tell_same fun a ha => (r.there a ha).1) fun a ha => tell_at ha⟩

abbrev gx (X : Cx) (T : List NdefX.NTab) : Glb := ⟨X.prog, X.w, X.K, X.mg, X.base, T⟩
/-! ### readings by data -/
def eV (G : Glb) (U : Bool) (ds : List DS) (s : DS) : TE := fun σ H Q => ∃ I0 H0 I, EnvR G U I0 H0 I H σ ds ∧ ∀ v I' H', Step G I H I' H' → ValR G H I' H' v s → Q v H'
def tV (G : Glb) (U : Bool) (ds : List DS) (b : Bool) : TT := fun σ H Q => ∃ I0 H0 I, EnvR G U I0 H0 I H σ ds ∧ ∀ I' H', Step G I H I' H' → Q b H'
def aV (G : Glb) (U : Bool) (ds : List DS) (xs : List D) : TA := fun σ H Q => ∃ I0 H0 I, EnvR G U I0 H0 I H σ ds ∧ ∀ vs I' H', Step G I H I' H' → Reps G I' vs xs → Q vs H'
def oV (G : Glb) (U : Bool) (ds : List DS) (o : Option Int) : TO := fun σ H Q => ∃ I0 H0 I, EnvR G U I0 H0 I H σ ds ∧ ∀ I' H', Step G I H I' H' → Q o H'
/-- what a walked thing gives, turn by turn -/
def Goes (G : Glb) (J : It) (I H : Hp) (xs : List D) : Prop := ∀ I1 H1, Pres I H I1 H1 → RdS I1 H1 → ∀ i : Nat, (xs.length ≤ i → J.stop i H1) ∧ ∀ d, xs[i]? = some d → J.go i H1 ∧ ∀ x H2, J.yld i H1 x H2 → ∃ I2, Step G I1 H1 I2 H2 ∧ Rep G I2 x d
def iV (G : Glb) (U : Bool) (ds : List DS) (xs : List D) : TI := fun σ H R => ∃ I0 H0 I, EnvR G U I0 H0 I H σ ds ∧ ∀ J I' H', Step G I H I' H' → Goes G J I' H' xs → R J H'
/-- only the slots at js are changed -/
def ButAt (js : List Nat) (σ σ' : L2.St) : Prop := σ'.length = σ.length ∧ ∀ i, i ∉ js → σ'[i]? = σ[i]?
def gV (G : Glb) (U : Bool) (ds : List DS) (d : D) (ds' : List DS) (js : List Nat) : TG := fun v σ H Q => ∃ I0 H0 I, EnvR G U I0 H0 I H σ ds ∧ Rep G I v d ∧ ∀ σ', EnvR G U I0 H0 I H σ' ds' → ButAt js σ σ' → Q σ' H
def gsV (G : Glb) (U : Bool) (ds : List DS) (xs : List D) (ds' : List DS) (js : List Nat) : TGs := fun vs σ H Q => ∃ I0 H0 I, EnvR G U I0 H0 I H σ ds ∧ Reps G I vs xs ∧ ∀ σ', EnvR G U I0 H0 I H σ' ds' → ButAt js σ σ' → Q σ' H

/-- an exception's own fields -/
def ExcR (G : Glb) (H0 I H : Hp) (d : Option Addr) (fs : List (Str × D)) : Prop := match d with
  | none => fs = []
  | some a => ∃ vs, H a = some (.xd vs) ∧ RepF G I vs fs ∧ H0 a = none
structure DEn where
  nx : List DS → Prop
  rt : DS → Prop := fun _ => False
  bk : List DS → Prop := fun _ => False
  ct : List DS → Prop := fun _ => False
  xs : Str → List (Str × D) → List DS → Prop := fun _ _ _ => False
def RetR (G : Glb) (I0 H0 : Hp) (v : V) (H' : Hp) (s : DS) : Prop := ∃ I', Step G I0 H0 I' H' ∧ ValR G H0 I' H' v s
def NxR (G : Glb) (U : Bool) (I0 H0 I H : Hp) (P : List DS → Prop) (σ' : L2.St) (H' : Hp) : Prop := ∃ ds' I', EnvR G U I0 H0 I' H' σ' ds' ∧ Pres I H I' H' ∧ P ds'
def XsR (G : Glb) (U : Bool) (I0 H0 I H : Hp) (P : List DS → Prop) (fs : List (Str × D)) (d : Option Addr) (σ' : L2.St) (H' : Hp) : Prop := ∃ ds' I', EnvR G U I0 H0 I' H' σ' ds' ∧ Pres I H I' H' ∧ ExcR G H0 I' H' d fs ∧ P ds'
def sV (G : Glb) (W : WX) (U : Bool) (ds : List DS) (E : DEn) : TS := fun D σ H => ∃ I0 H0 I, EnvR G U I0 H0 I H σ ds ∧ (∀ σ' H', NxR G U I0 H0 I H E.nx σ' H' → D.nx σ' H') ∧ (∀ v H' s, RetR G I0 H0 v H' s → E.rt s → D.rt v H') ∧
  (∀ σ' H', NxR G U I0 H0 I H E.bk σ' H' → D.bk σ' H') ∧ (∀ σ' H', NxR G U I0 H0 I H E.ct σ' H' → D.ct σ' H') ∧
  ∀ C fs d σ' H', XsR G U I0 H0 I H (E.xs C fs) fs d σ' H' → W (.ref (He.ga G.K C)) d σ' H'

section
variable (X : Cx) (T : List NdefX.NTab) (W : WX) (U : Bool)
abbrev DV (e : Expr) (ds : List DS) (s : DS) : Prop := PE X e (eV (gx X T) U ds s)
abbrev DE (e : Expr) (ds : List DS) (d : D) : Prop := DV X T U e ds (.im d)
abbrev DT (e : Expr) (ds : List DS) (b : Bool) : Prop := PT X e (tV (gx X T) U ds b)
abbrev DA (es : List Expr) (ds : List DS) (xs : List D) : Prop := PA X es (aV (gx X T) U ds xs)
abbrev DO (e : Option Expr) (ds : List DS) (o : Option Int) : Prop := PO X e (oV (gx X T) U ds o)
abbrev DI (tg iter : Expr) (ds : List DS) (xs : List D) : Prop := PI X tg iter (iV (gx X T) U ds xs)
abbrev DG (tg : Expr) (ds : List DS) (d : D) (ds' : List DS) (js : List Nat) : Prop := PG X tg (gV (gx X T) U ds d ds' js)
abbrev DGs (tgs : List Expr) (ds : List DS) (xs : List D) (ds' : List DS) (js : List Nat) : Prop := PGs X tgs (gsV (gx X T) U ds xs ds' js)
abbrev DSt (st : Stmt) (ds : List DS) (E : DEn) : Prop := PS X st (sV (gx X T) W U ds E)
abbrev DSs (sts : List Stmt) (ds : List DS) (E : DEn) : Prop := PSs X sts (sV (gx X T) W U ds E)
end
section
variable {X : Cx} {T : List NdefX.NTab} {W : WX} {U : Bool} {ds : List DS} {s : DS}
theorem _root_.L2.PE.weak {e : Expr} {t t' : TE} (h : PE X e t) (w : ∀ σ H Q, t' σ H Q → t σ H Q) : PE X e t' := ⟨fun pins s σ H Q I q => h.run pins s σ H Q I (w _ _ _ q)⟩
theorem _root_.L2.PT.weak {e : Expr} {t t' : TT} (h : PT X e t) (w : ∀ σ H Q, t' σ H Q → t σ H Q) : PT X e t' := ⟨fun pins s σ H Q I q => h.run pins s σ H Q I (w _ _ _ q)⟩
theorem _root_.L2.PW.weak {e : Expr} {t t' : TT} (h : PW X e t) (w : ∀ σ H Q, t' σ H Q → t σ H Q) : PW X e t' := ⟨fun wh pins s σ H Q I q => h.run wh pins s σ H Q I (w _ _ _ q)⟩
theorem _root_.L2.PA.weak {e : List Expr} {t t' : TA} (h : PA X e t) (w : ∀ σ H Q, t' σ H Q → t σ H Q) : PA X e t' := ⟨fun pos pins s σ H Q I q => h.run pos pins s σ H Q I (w _ _ _ q)⟩
theorem _root_.L2.PS.weak {e : Stmt} {t t' : TS} (h : PS X e t) (w : ∀ D σ H, t' D σ H → t D σ H) : PS X e t' := ⟨fun pins s σ H D I q => h.run pins s σ H D I (w _ _ _ q)⟩
theorem _root_.L2.PSs.weak {e : List Stmt} {t t' : TS} (h : PSs X e t) (w : ∀ D σ H, t' D σ H → t D σ H) : PSs X e t' := ⟨fun pins s σ H D I q => h.run pins s σ H D I (w _ _ _ q)⟩
/-! ### names, constants -/
theorem dv_fz {e : Expr} (h : DV X T U e ds s) : DV X T U e ds s.fz := h.weak fun σ H Q ⟨I0, H0, I, en, k⟩ => ⟨I0, H0, I, en, fun v I' H' st r => by
  obtain ⟨I2, s2, r2⟩ := r.fz st
  exact k v I2 H' s2 r2⟩
theorem de_own {e : Expr} {xs : List D} (h : DV X T U e ds (.own xs)) : DE X T U e ds (.lst xs) := dv_fz h
theorem de_ownD {e : Expr} {xs : List (Str × D)} (h : DV X T U e ds (.ownD xs)) : DE X T U e ds (.dic xs) := dv_fz h
theorem de_var (i : Nat) {x : Str} {pos : Pos} {d : D} (h : ds[i]? = some (.im d)) (hN : X.N[i]? = some x := by rfl) (hv : Vis X.env.scope x := by first | exact Or.inl rfl | exact Or.inr (Or.inl rfl) | exact Or.inr (Or.inr rfl))
    (hd : (x == ("__debug__" : Str)) = false := by decide) (hcd : (x == ("__classdict__" : Str)) = false := by decide) : DE X T U (.Name x pos) ds d :=
  (pe_var hN hv hd hcd).weak fun σ H Q ⟨I0, H0, I, en, k⟩ => by
    obtain ⟨v, e, r⟩ := en.im h
    exact ⟨v, e, k v I H (Step.refl en.sub) r⟩
theorem de_int {i : Int} {j : Nat} {pos : Pos} : DE X T U (.Constant (.int i) j pos) ds (.int i) := pe_int.weak fun _ H _ ⟨_, _, I, en, k⟩ => k _ I H (Step.refl en.sub) (.int i)
theorem de_bl {i : Bool} {j : Nat} {pos : Pos} : DE X T U (.Constant (.bool i) j pos) ds (.bl i) := pe_bl.weak fun _ H _ ⟨_, _, I, en, k⟩ => k _ I H (Step.refl en.sub) (.bl i)
theorem de_str {i : Str} {j : Nat} {pos : Pos} : DE X T U (.Constant (.str i) j pos) ds (.str i) := pe_str.weak fun _ H _ ⟨_, _, I, en, k⟩ => k _ I H (Step.refl en.sub) (.str i)
theorem de_non {j : Nat} {pos : Pos} : DE X T U (.Constant .none j pos) ds .non := pe_non.weak fun _ H _ ⟨_, _, I, en, k⟩ => k _ I H (Step.refl en.sub) .non
theorem de_gstr {x z : Str} {pos : Pos} (hg : Gl X x) (hm : ∃ t, X.mg x = some (.str z t)) (hd : (x == ("__debug__" : Str)) = false := by decide) : DE X T U (.Name x pos) ds (.str z) := by
  obtain ⟨t, hm⟩ := hm
  exact (pe_glob (v := .str z) hg hm ⟨t, rfl⟩ hd).weak fun _ H _ ⟨_, _, I, en, k⟩ => k _ I H (Step.refl en.sub) (.str z)
theorem de_gint {x : Str} {z : Int} {pos : Pos} (hg : Gl X x) (hm : ∃ t, X.mg x = some (.int z t)) (hd : (x == ("__debug__" : Str)) = false := by decide) : DE X T U (.Name x pos) ds (.int z) := by
  obtain ⟨t, hm⟩ := hm
  exact (pe_glob (v := .int z) hg hm ⟨t, rfl⟩ hd).weak fun _ H _ ⟨_, _, I, en, k⟩ => k _ I H (Step.refl en.sub) (.int z)
/-! ### operators -/
/-- two values told, then r of them -/
def R2D (G : Glb) (r : R2) (x y : D) (s : DS) : Prop := ∀ (I H : Hp) (v w : V) (Q : VK), RdS I H → Rep G I v x → Rep G I w y → (∀ z I' H', Step G I H I' H' → ValR G H I' H' z s → Q z H') → r v w H Q
theorem op_run {G : Glb} {r : R2} {x y : D} {σ : L2.St} {H : Hp} {Q : VK} (hr : R2D G r x y s) (h : eV G U ds s σ H Q) : tOp r (eV G U ds (.im x)) (eV G U ds (.im y)) σ H Q := by
  obtain ⟨I0, H0, I, en, k⟩ := h
  refine ⟨I0, H0, I, en, fun v I1 H1 s1 r1 => ⟨I0, H0, I1, en.step s1, fun w I2 H2 s2 r2 => ?_⟩⟩
  exact hr I2 H2 v w Q s2.sub (Rep.mono s2.isub r1) r2 fun z I3 H3 s3 r3 => k z I3 H3 ((s1.trans s2).trans s3) (r3.back (s1.trans s2))
theorem dv_op {a b : Expr} {op : Operator} {pos : Pos} {r : R2} {x y : D} (ho : OpR X (binaryOp op) r) (hr : R2D (gx X T) r x y s) (ha : DE X T U a ds x) (hb : DE X T U b ds y) : DV X T U (.BinOp a op b pos) ds s :=
  (pe_op ho ha hb).weak fun _ _ _ h => op_run hr h
theorem dv_cmp {a b : Expr} {op : CmpOp} {pos : Pos} {r : R2} {x y : D} (ho : OpR X (compareOp op) r) (hr : R2D (gx X T) r x y s) (ha : DE X T U a ds x) (hb : DE X T U b ds y) (hn : behindInMarks op b = false := by first | exact nobehind _ (by decide) (by decide) | rfl) : DV X T U (.Compare a [op] [b] pos) ds s :=
  (pe_cmpR ho ha hb hn).weak fun _ _ _ h => op_run hr h
theorem dt_cmp {a b : Expr} {op : CmpOp} {pos : Pos} {r : R2} {x y : D} {c : Bool} (ho : OpR X (compareOp op) r) (hr : R2D (gx X T) r x y (.im (.bl c))) (ha : DE X T U a ds x) (hb : DE X T U b ds y) (hn : behindInMarks op b = false := by first | exact nobehind _ (by decide) (by decide) | rfl) : DT X T U (.Compare a [op] [b] pos) ds c :=
  (pt_cmpR ho ha hb hn).weak fun σ H Q ⟨I0, H0, I, en, k⟩ => op_run hr ⟨I0, H0, I, en, fun v I' H' st r => by
    cases r
    exact ⟨c, rfl, k I' H' st⟩⟩
theorem dt_chain {a b e : Expr} {op op' : CmpOp} {pos : Pos} {r r' : R2} {x y z : D} {c c' : Bool} (ho : OpR X (compareOp op) r) (ho' : OpR X (compareOp op') r') (hr : R2D (gx X T) r x y (.im (.bl c))) (hr' : R2D (gx X T) r' y z (.im (.bl c')))
    (ha : DE X T U a ds x) (hb : DE X T U b ds y) (he : DE X T U e ds z) (hl : lastMarks [op, op'] [b, e] = false := by rfl) : DT X T U (.Compare a [op, op'] [b, e] pos) ds (c && c') :=
  (pt_chain ho ho' ha hb he hl).weak fun σ H Q ⟨I0, H0, I, en, k⟩ => by
    refine ⟨I0, H0, I, en, fun v I1 H1 s1 r1 => ⟨I0, H0, I1, en.step s1, fun w I2 H2 s2 r2 => ?_⟩⟩
    refine hr I2 H2 v w _ s2.sub (Rep.mono s2.isub r1) r2 fun u I3 H3 s3 r3 => ?_
    cases r3
    refine ⟨c, rfl, ?_⟩
    cases c with
    | false => exact ⟨false, rfl, k I3 H3 ((s1.trans s2).trans s3)⟩
    | true =>
      refine ⟨I0, H0, I3, ((en.step s1).step s2).step s3, fun u4 I4 H4 s4 r4 => ?_⟩
      refine hr' I4 H4 w u4 _ s4.sub (Rep.mono (s3.isub.trans s4.isub) r2) r4 fun u I5 H5 s5 r5 => ?_
      cases r5
      exact ⟨c', rfl, k I5 H5 ((((s1.trans s2).trans s3).trans s4).trans s5)⟩
/-! the rules of values -/
section
variable {G : Glb} {i j : Int} {x y : Str}
theorem r2_I0 {g : Int → Int → Int} : R2D G (rI0 fun i j => .int (g i j)) (.int i) (.int j) (.im (.int (g i j))) := fun I H v w Q r h1 h2 k => by
  cases h1; cases h2
  exact ⟨i, j, rfl, rfl, k _ I H (Step.refl r) (.int _)⟩
theorem r2_I {C : Int → Int → Prop} {g : Int → Int → Int} (hc : C i j) : R2D G (rI C fun i j => .int (g i j)) (.int i) (.int j) (.im (.int (g i j))) := fun I H v w Q r h1 h2 k => by
  cases h1; cases h2
  exact ⟨i, j, rfl, rfl, hc, k _ I H (Step.refl r) (.int _)⟩
theorem r2_B0 {g : Int → Int → Bool} : R2D G (rI0 fun i j => .bl (g i j)) (.int i) (.int j) (.im (.bl (g i j))) := fun I H v w Q r h1 h2 k => by
  cases h1; cases h2
  exact ⟨i, j, rfl, rfl, k _ I H (Step.refl r) (.bl _)⟩
theorem r2_eqI : R2D G rEq (.int i) (.int j) (.im (.bl (decide (i = j)))) := fun I H v w Q r h1 h2 k => by
  cases h1; cases h2
  refine ⟨rfl, ?_⟩
  rw [show decide (V.int i = V.int j) = decide (i = j) from by simp]
  exact k _ I H (Step.refl r) (.bl _)
theorem r2_neI : R2D G rNe (.int i) (.int j) (.im (.bl (!decide (i = j)))) := fun I H v w Q r h1 h2 k => by
  cases h1; cases h2
  refine ⟨rfl, ?_⟩
  rw [show decide (V.int i = V.int j) = decide (i = j) from by simp]
  exact k _ I H (Step.refl r) (.bl _)
theorem r2_eqS : R2D G rEq (.str x) (.str y) (.im (.bl (decide (x = y)))) := fun I H v w Q r h1 h2 k => by
  cases h1; cases h2
  refine ⟨rfl, ?_⟩
  rw [show decide (V.str x = V.str y) = decide (x = y) from by simp]
  exact k _ I H (Step.refl r) (.bl _)
theorem r2_neS : R2D G rNe (.str x) (.str y) (.im (.bl (!decide (x = y)))) := fun I H v w Q r h1 h2 k => by
  cases h1; cases h2
  refine ⟨rfl, ?_⟩
  rw [show decide (V.str x = V.str y) = decide (x = y) from by simp]
  exact k _ I H (Step.refl r) (.bl _)
theorem r2_addS (hl : x.length + y.length ≤ sizeLine) : R2D G (fun x y H Q => ∃ i j, x = .str i ∧ y = .str j ∧ i.length + j.length ≤ sizeLine ∧ Q (.str (i ++ j)) H) (.str x) (.str y) (.im (.str (x ++ y))) := fun I H v w Q r h1 h2 k => by
  cases h1; cases h2
  exact ⟨_, _, rfl, rfl, hl, k _ I H (Step.refl r) (.str _)⟩
end
section
variable {a b : Expr} {pos : Pos} {i j : Int} {x y : Str}
theorem de_add (ha : DE X T U a ds (.int i)) (hb : DE X T U b ds (.int j)) : DE X T U (.BinOp a .Add b pos) ds (.int (i + j)) := dv_op op_add r2_I0 ha hb
theorem de_sub (ha : DE X T U a ds (.int i)) (hb : DE X T U b ds (.int j)) : DE X T U (.BinOp a .Sub b pos) ds (.int (i - j)) := dv_op op_sub r2_I0 ha hb
theorem de_mul (ha : DE X T U a ds (.int i)) (hb : DE X T U b ds (.int j)) (hc : CMul i j) : DE X T U (.BinOp a .Mult b pos) ds (.int (i * j)) := dv_op op_mul (r2_I hc) ha hb
theorem de_mod (ha : DE X T U a ds (.int i)) (hb : DE X T U b ds (.int j)) (hc : 0 < j) : DE X T U (.BinOp a .Mod b pos) ds (.int (i % j)) := dv_op op_mod (r2_I hc) ha hb
theorem de_div (ha : DE X T U a ds (.int i)) (hb : DE X T U b ds (.int j)) (hc : CDiv i j) : DE X T U (.BinOp a .FloorDiv b pos) ds (.int (i / j)) := dv_op op_fdiv (r2_I hc) ha hb
theorem de_pow (ha : DE X T U a ds (.int i)) (hb : DE X T U b ds (.int j)) (hc : CPow i j) : DE X T U (.BinOp a .Pow b pos) ds (.int (i ^ j.toNat)) := dv_op op_pow (r2_I hc) ha hb
theorem de_shr (ha : DE X T U a ds (.int i)) (hb : DE X T U b ds (.int j)) (hc : 0 ≤ j) : DE X T U (.BinOp a .RShift b pos) ds (.int (i / 2 ^ j.toNat)) := dv_op op_shr (r2_I hc) ha hb
theorem de_band (ha : DE X T U a ds (.int i)) (hb : DE X T U b ds (.int j)) : DE X T U (.BinOp a .BitAnd b pos) ds (.int (Builtin.bitAnd i j)) := dv_op op_and r2_I0 ha hb
theorem de_bor (ha : DE X T U a ds (.int i)) (hb : DE X T U b ds (.int j)) : DE X T U (.BinOp a .BitOr b pos) ds (.int (Builtin.bitOr i j)) := dv_op op_or r2_I0 ha hb
theorem de_addS (ha : DE X T U a ds (.str x)) (hb : DE X T U b ds (.str y)) (hl : x.length + y.length ≤ sizeLine) : DE X T U (.BinOp a .Add b pos) ds (.str (x ++ y)) := dv_op op_add_str (r2_addS hl) ha hb
theorem dt_lt (ha : DE X T U a ds (.int i)) (hb : DE X T U b ds (.int j)) : DT X T U (.Compare a [.Lt] [b] pos) ds (decide (i < j)) := dt_cmp op_lt r2_B0 ha hb
theorem dt_le (ha : DE X T U a ds (.int i)) (hb : DE X T U b ds (.int j)) : DT X T U (.Compare a [.LtE] [b] pos) ds (decide (i ≤ j)) := dt_cmp op_le r2_B0 ha hb
theorem dt_gt (ha : DE X T U a ds (.int i)) (hb : DE X T U b ds (.int j)) : DT X T U (.Compare a [.Gt] [b] pos) ds (decide (j < i)) := dt_cmp op_gt r2_B0 ha hb
theorem dt_ge (ha : DE X T U a ds (.int i)) (hb : DE X T U b ds (.int j)) : DT X T U (.Compare a [.GtE] [b] pos) ds (decide (j ≤ i)) := dt_cmp op_ge r2_B0 ha hb
theorem dt_eqI (ha : DE X T U a ds (.int i)) (hb : DE X T U b ds (.int j)) : DT X T U (.Compare a [.Eq] [b] pos) ds (decide (i = j)) := dt_cmp op_eq r2_eqI ha hb
theorem dt_neI (ha : DE X T U a ds (.int i)) (hb : DE X T U b ds (.int j)) : DT X T U (.Compare a [.NotEq] [b] pos) ds (!decide (i = j)) := dt_cmp op_ne r2_neI ha hb
theorem dt_eqS (ha : DE X T U a ds (.str x)) (hb : DE X T U b ds (.str y)) : DT X T U (.Compare a [.Eq] [b] pos) ds (decide (x = y)) := dt_cmp op_eq r2_eqS ha hb
theorem dt_neS (ha : DE X T U a ds (.str x)) (hb : DE X T U b ds (.str y)) : DT X T U (.Compare a [.NotEq] [b] pos) ds (!decide (x = y)) := dt_cmp op_ne r2_neS ha hb
theorem de_eqI (ha : DE X T U a ds (.int i)) (hb : DE X T U b ds (.int j)) : DE X T U (.Compare a [.Eq] [b] pos) ds (.bl (decide (i = j))) := dv_cmp op_eq r2_eqI ha hb
theorem de_eqS (ha : DE X T U a ds (.str x)) (hb : DE X T U b ds (.str y)) : DE X T U (.Compare a [.Eq] [b] pos) ds (.bl (decide (x = y))) := dv_cmp op_eq r2_eqS ha hb
/-- a <= b <= c -/
theorem dt_leLe {c : Expr} {k : Int} (ha : DE X T U a ds (.int i)) (hb : DE X T U b ds (.int j)) (hc : DE X T U c ds (.int k)) (hl : lastMarks [.LtE, .LtE] [b, c] = false := by rfl) : DT X T U (.Compare a [.LtE, .LtE] [b, c] pos) ds (decide (i ≤ j) && decide (j ≤ k)) :=
  dt_chain op_le op_le r2_B0 r2_B0 ha hb hc hl
theorem dt_leLt {c : Expr} {k : Int} (ha : DE X T U a ds (.int i)) (hb : DE X T U b ds (.int j)) (hc : DE X T U c ds (.int k)) (hl : lastMarks [.LtE, .Lt] [b, c] = false := by rfl) : DT X T U (.Compare a [.LtE, .Lt] [b, c] pos) ds (decide (i ≤ j) && decide (j < k)) :=
  dt_chain op_le op_lt r2_B0 r2_B0 ha hb hc hl
end
/-! ### tests -/
section
variable {e a b : Expr} {rest : List Expr} {pos : Pos} {x y : Bool}
theorem dt_is (h : DT X T U e ds x) (q : x = y) : DT X T U e ds y := q ▸ h
theorem dv_is {s' : DS} (h : DV X T U e ds s) (q : s = s') : DV X T U e ds s' := q ▸ h
theorem dt_val (h : DE X T U e ds (.bl x)) (he : ∀ whole, isTrue e X.env whole = (do let v ← whole; standAt e.pos; holding [v] (truthy v)) := by intro _; rfl) : DT X T U e ds x :=
  (pt_val h he).weak fun σ H Q ⟨I0, H0, I, en, k⟩ => ⟨I0, H0, I, en, fun v I' H' st r => by
    cases r
    exact ⟨x, rfl, k I' H' st⟩⟩
theorem dt_not (h : DT X T U a ds x) : DT X T U (.UnaryOp .Not a pos) ds (!x) := (pt_not h).weak fun σ H Q ⟨I0, H0, I, en, k⟩ => ⟨I0, H0, I, en, fun I' H' st => k I' H' st⟩
abbrev DW (X : Cx) (T : List NdefX.NTab) (U : Bool) (e : Expr) (ds : List DS) (b : Bool) : Prop := PW X e (tV (gx X T) U ds b)
theorem dw_and1 (h : DT X T U a ds x) : DW X T U (.BoolOp .And [a] pos) ds x := pw_and1 h
theorem dw_or1 (h : DT X T U a ds x) : DW X T U (.BoolOp .Or [a] pos) ds x := pw_or1 h
/-- the second one is asked where the first is true -/
theorem dw_and (h : DT X T U a ds x) (h2 : x = true → DW X T U (.BoolOp .And (b :: rest) pos) ds y) : DW X T U (.BoolOp .And (a :: b :: rest) pos) ds (x && y) := by
  refine ⟨fun wh pins s σ H Q I hw => ?_⟩
  obtain ⟨I0, H0, I1, en, k⟩ := hw
  cases x with
  | true =>
    refine (pw_and (tB' := fun σ H Q => tV (gx X T) U ds y σ H Q) h (h2 rfl)).run wh pins s σ H Q I ⟨I0, H0, I1, en, fun I' H' st => ?_⟩
    exact ⟨I0, H0, I', en.step st, fun I2 H2 s2 => k I2 H2 (st.trans s2)⟩
  | false =>
    refine (pw_and (tB' := fun _ _ _ => False) h ⟨fun _ _ _ _ _ _ _ z => z.elim⟩).run wh pins s σ H Q I ⟨I0, H0, I1, en, fun I' H' st => ?_⟩
    exact k I' H' st
theorem dw_or (h : DT X T U a ds x) (h2 : x = false → DW X T U (.BoolOp .Or (b :: rest) pos) ds y) : DW X T U (.BoolOp .Or (a :: b :: rest) pos) ds (x || y) := by
  refine ⟨fun wh pins s σ H Q I hw => ?_⟩
  obtain ⟨I0, H0, I1, en, k⟩ := hw
  cases x with
  | false =>
    refine (pw_or (tB' := fun σ H Q => tV (gx X T) U ds y σ H Q) h (h2 rfl)).run wh pins s σ H Q I ⟨I0, H0, I1, en, fun I' H' st => ?_⟩
    exact ⟨I0, H0, I', en.step st, fun I2 H2 s2 => k I2 H2 (st.trans s2)⟩
  | true =>
    refine (pw_or (tB' := fun _ _ _ => False) h ⟨fun _ _ _ _ _ _ _ z => z.elim⟩).run wh pins s σ H Q I ⟨I0, H0, I1, en, fun I' H' st => ?_⟩
    exact k I' H' st
theorem dt_w (h : DW X T U e ds x) : DT X T U e ds x := PW.pt h
/-- .. as values -/
theorem de_one {op : BoolOp} {t : D} (h : DE X T U a ds t) : DE X T U (.BoolOp op [a] pos) ds t := pe_one h
theorem de_and (h : DE X T U a ds (.bl x)) (h2 : x = true → DE X T U (.BoolOp .And (b :: rest) pos) ds (.bl y)) : DE X T U (.BoolOp .And (a :: b :: rest) pos) ds (.bl (x && y)) := by
  refine ⟨fun pins s σ H Q I hw => ?_⟩
  obtain ⟨I0, H0, I1, en, k⟩ := hw
  cases x with
  | true =>
    refine (pe_and h (h2 rfl)).run pins s σ H Q I ⟨I0, H0, I1, en, fun v I' H' st r => ?_⟩
    cases r
    exact ⟨true, rfl, I0, H0, I', en.step st, fun v I2 H2 s2 r2 => k v I2 H2 (st.trans s2) r2⟩
  | false =>
    refine (pe_and (tb := fun _ _ _ => False) h ⟨fun _ _ _ _ _ _ z => z.elim⟩).run pins s σ H Q I ⟨I0, H0, I1, en, fun v I' H' st r => ?_⟩
    cases r
    exact ⟨false, rfl, k _ I' H' st (.bl false)⟩
theorem de_or (h : DE X T U a ds (.bl x)) (h2 : x = false → DE X T U (.BoolOp .Or (b :: rest) pos) ds (.bl y)) : DE X T U (.BoolOp .Or (a :: b :: rest) pos) ds (.bl (x || y)) := by
  refine ⟨fun pins s σ H Q I hw => ?_⟩
  obtain ⟨I0, H0, I1, en, k⟩ := hw
  cases x with
  | false =>
    refine (pe_or h (h2 rfl)).run pins s σ H Q I ⟨I0, H0, I1, en, fun v I' H' st r => ?_⟩
    cases r
    exact ⟨false, rfl, I0, H0, I', en.step st, fun v I2 H2 s2 r2 => k v I2 H2 (st.trans s2) r2⟩
  | true =>
    refine (pe_or (tb := fun _ _ _ => False) h ⟨fun _ _ _ _ _ _ z => z.elim⟩).run pins s σ H Q I ⟨I0, H0, I1, en, fun v I' H' st r => ?_⟩
    cases r
    exact ⟨true, rfl, k _ I' H' st (.bl true)⟩
theorem de_not (h : DE X T U a ds (.bl x)) : DE X T U (.UnaryOp .Not a pos) ds (.bl (!x)) := (pe_not h).weak fun σ H Q ⟨I0, H0, I, en, k⟩ => ⟨I0, H0, I, en, fun v I' H' st r => by
  cases r
  exact ⟨x, rfl, k _ I' H' st (.bl _)⟩⟩
/-- a if c else b -/
theorem dv_if {c : Expr} (h : DT X T U c ds x) (h1 : x = true → DV X T U a ds s) (h2 : x = false → DV X T U b ds s) : DV X T U (.IfExp c a b pos) ds s := by
  refine ⟨fun pins s' σ H Q I hw => ?_⟩
  obtain ⟨I0, H0, I1, en, k⟩ := hw
  cases x with
  | true =>
    refine (pe_ifExp (tb := fun _ _ _ => False) h (h1 rfl) ⟨fun _ _ _ _ _ _ z => z.elim⟩).run pins s' σ H Q I ⟨I0, H0, I1, en, fun I' H' st => ?_⟩
    exact ⟨I0, H0, I', en.step st, fun v I2 H2 s2 r2 => k v I2 H2 (st.trans s2) (r2.back st)⟩
  | false =>
    refine (pe_ifExp (ta := fun _ _ _ => False) h ⟨fun _ _ _ _ _ _ z => z.elim⟩ (h2 rfl)).run pins s' σ H Q I ⟨I0, H0, I1, en, fun I' H' st => ?_⟩
    exact ⟨I0, H0, I', en.step st, fun v I2 H2 s2 r2 => k v I2 H2 (st.trans s2) (r2.back st)⟩
end
/-! ### arguments, displays, calls of the built-in -/
section
variable {e : Expr} {es : List Expr} {pos : Pos} {d : D} {xs : List D}
theorem da_nil : DA X T U [] ds [] := ⟨fun pos pins s σ H Q I ⟨I0, H0, I1, en, k⟩ => pa_nil.run pos pins s σ H Q I (k [] I1 H (Step.refl en.sub) .nil)⟩
theorem da_cons (h : DE X T U e ds d) (hr : DA X T U es ds xs) (he : starEach (e :: es) X.env = (false, eval e X.env) :: starEach es X.env := by rfl) : DA X T U (e :: es) ds (d :: xs) :=
  (pa_cons h hr he).weak fun σ H Q ⟨I0, H0, I, en, k⟩ => ⟨I0, H0, I, en, fun v I1 H1 s1 r1 => ⟨I0, H0, I1, en.step s1, fun vs I2 H2 s2 r2 => k (v :: vs) I2 H2 (s1.trans s2) (.cons (Rep.mono s2.isub r1) r2)⟩⟩
theorem dv_lst (h : DA X T U es ds xs) (hl : xs.length ≤ 100000) : DV X T U (.List es pos) ds (.own xs) :=
  (pe_lst h).weak fun σ H Q ⟨I0, H0, I, en, k⟩ => ⟨I0, H0, I, en, fun vs I1 H1 s1 r1 => ⟨by rw [r1.len]; exact Nat.le_trans hl (by decide), fun p hp => by
    have s2 : Step (gx X T) I1 H1 I1 (upd H1 p (.lst vs)) := Step.newOwn s1.sub hp
    exact k _ I1 _ (s1.trans s2) ⟨p, vs, rfl, s1.free hp, s1.sub.free hp, upd_same, r1⟩⟩⟩
theorem de_tup {n : Nat} (h : DA X T U es ds xs) (hl : xs.length ≤ 100000) : DE X T U (.Tuple es n pos) ds (.tup xs) :=
  (pe_tup h).weak fun σ H Q ⟨I0, H0, I, en, k⟩ => ⟨I0, H0, I, en, fun vs I1 H1 s1 r1 => ⟨by rw [r1.len]; exact Nat.le_trans hl (by decide), fun p hp => by
    have s2 : Step (gx X T) I1 H1 (upd I1 p (.tup vs)) (upd H1 p (.tup vs)) := Step.new s1.sub hp
    exact k _ _ _ (s1.trans s2) (Rep.tup upd_same (r1.mono s2.isub))⟩⟩
/-- a call's rule by values, over arguments told -/
def RCD (G : Glb) (r : List V → Hp → VK → Prop) (xs : List D) (s : DS) : Prop := ∀ (I H : Hp) (vs : List V) (Q : VK), RdS I H → Reps G I vs xs → (∀ z I' H', Step G I H I' H' → ValR G H I' H' z s → Q z H') → r vs H Q
theorem cb_run {G : Glb} {r : List V → Hp → VK → Prop} {σ : L2.St} {H : Hp} {Q : VK} (hr : RCD G r xs s) (h : eV G U ds s σ H Q) : tCB r (aV G U ds xs) σ H Q := by
  obtain ⟨I0, H0, I, en, k⟩ := h
  refine ⟨I0, H0, I, en, fun vs I1 H1 s1 r1 => ?_⟩
  exact hr I1 H1 vs Q s1.sub r1 fun z I2 H2 s2 r2 => k z I2 H2 (s1.trans s2) (r2.back s1)
theorem dv_callB {x : Str} {p : Pos} {id : String} {r : List V → Hp → VK → Prop} (hc : CallR X (.builtin id) r) (hr : RCD (gx X T) r xs s) (hg : Gl X x) (hm : X.mg x = none) (hv : bootBuiltins x = some (.builtin id)) (ha : DA X T U (e :: es) ds xs) (hn : x ≠ ("__name__" : Str) := by decide)
    (hd : (x == ("__debug__" : Str)) = false := by decide) (he : starEach (e :: es) X.env = (false, eval e X.env) :: starEach es X.env := by rfl) (hpl : (backTo pos (starEach es X.env)).any (·.1) = false := by rfl) : DV X T U (.Call (.Name x p) (e :: es) [] pos) ds s :=
  (pe_callB hc hg hm hv ha hn hd he hpl).weak fun _ _ _ h => cb_run hr h
theorem dv_callTy {x : Str} {p : Pos} {id : String} {r : List V → Hp → VK → Prop} (hc : CallR X (.type id) r) (hr : RCD (gx X T) r xs s) (hg : Gl X x) (hm : X.mg x = none) (hv : bootBuiltins x = some (.type id)) (ha : DA X T U (e :: es) ds xs) (hn : x ≠ ("__name__" : Str) := by decide)
    (hd : (x == ("__debug__" : Str)) = false := by decide) (he : starEach (e :: es) X.env = (false, eval e X.env) :: starEach es X.env := by rfl) (hpl : (backTo pos (starEach es X.env)).any (·.1) = false := by rfl) : DV X T U (.Call (.Name x p) (e :: es) [] pos) ds s :=
  (pe_callTy hc hg hm hv ha hn hd he hpl).weak fun _ _ _ h => cb_run hr h
end
end
end Lp

/-! The judgements over data: statements, loops, defs and their calls. -/
namespace Lp
open PySem PySem.Spec PyProof.Rows L2
section
variable {G : Glb} {U : Bool} {I0 H0 I H I' H' : Hp} {σ : L2.St} {ds : List DS}
theorem EnvR.setV (e : EnvR G U I0 H0 I H σ ds) (s : Step G I H I' H') {v : V} {d : DS} (i : Nat) (r : ValR G H I' H' v d) : EnvR G U I0 H0 I' H' (σ.set i (some v)) (ds.set i d) := by
  cases d with
  | no => exact (e.step s).setNo _ i
  | im d => exact (e.step s).setIm i r
  | own xs =>
    obtain ⟨p, vs, rfl, n, hi, h, rs⟩ := r
    exact e.setNew s [p] (fun a ha => by rw [List.mem_singleton.mp ha]; exact ⟨n, by rw [h]; exact fun z => nomatch z⟩) i ⟨p, vs, rfl, h, rs, hi, e.st.free n, List.mem_singleton_self p⟩
  | ownD xs =>
    obtain ⟨p, vs, rfl, n, hi, h, rs⟩ := r
    exact e.setNew s [p] (fun a ha => by rw [List.mem_singleton.mp ha]; exact ⟨n, by rw [h]; exact fun z => nomatch z⟩) i ⟨p, vs, rfl, h, rs, hi, e.st.free n, List.mem_singleton_self p⟩
  | ot q t =>
    obtain ⟨A, h, n, z⟩ := r
    exact e.setNew s A (fun a ha => ⟨n a ha, by
      obtain ⟨_, u, z, _⟩ := h.there a ha
      rw [z]
      exact fun q => nomatch q⟩) i ⟨v, A, rfl, h, fun a ha => ⟨e.st.free (n a ha), ha⟩, z⟩
  | gh g =>
    obtain ⟨A, h, n⟩ := r
    exact e.setNew s A (fun a ha => ⟨n a ha, by
      obtain ⟨_, u, z, _⟩ := g.there h a ha
      rw [z]
      exact fun q => nomatch q⟩) i ⟨v, A, rfl, h, fun a ha => ⟨e.st.free (n a ha), ha⟩⟩
theorem NxR.imp {P Q : List DS → Prop} {σ' : L2.St} (h : ∀ ds', P ds' → Q ds') (n : NxR G U I0 H0 I H P σ' H') : NxR G U I0 H0 I H Q σ' H' := by
  obtain ⟨d, I1, e, p, q⟩ := n
  exact ⟨d, I1, e, p, h d q⟩
theorem XsR.pre {P : List DS → Prop} {fs : List (Str × D)} {d : Option Addr} {σ' : L2.St} {I1 H1 H2 : Hp} (p : Pres I H I1 H1) (n : XsR G U I0 H0 I1 H1 P fs d σ' H2) : XsR G U I0 H0 I H P fs d σ' H2 := by
  obtain ⟨ds', I2, e, q, x, r⟩ := n
  exact ⟨ds', I2, e, p.trans q, x, r⟩
theorem NxR.pre {P : List DS → Prop} {σ' : L2.St} {I1 H1 H2 : Hp} (p : Pres I H I1 H1) (n : NxR G U I0 H0 I1 H1 P σ' H2) : NxR G U I0 H0 I H P σ' H2 := by
  obtain ⟨d, I2, e, q, r⟩ := n
  exact ⟨d, I2, e, p.trans q, r⟩
/-- behind a part, the rest with what it wants -/
theorem sV_from {W : WX} {E : DEn} {D : Ends} {ds ds' : List DS} {I1 H1 : Hp} {σ σ' : L2.St} (p : Pres I H I1 H1) (e : EnvR G U I0 H0 I1 H1 σ' ds')
    (k1 : ∀ σ' H', NxR G U I0 H0 I H E.nx σ' H' → D.nx σ' H') (k2 : ∀ v H' s, RetR G I0 H0 v H' s → E.rt s → D.rt v H') (k3 : ∀ σ' H', NxR G U I0 H0 I H E.bk σ' H' → D.bk σ' H') (k4 : ∀ σ' H', NxR G U I0 H0 I H E.ct σ' H' → D.ct σ' H')
    (k5 : ∀ C fs d σ' H', XsR G U I0 H0 I H (E.xs C fs) fs d σ' H' → W (.ref (He.ga G.K C)) d σ' H') : sV G W U ds' E D σ' H1 :=
  ⟨I0, H0, I1, e, fun s h n => k1 s h (n.pre p), k2, fun s h n => k3 s h (n.pre p), fun s h n => k4 s h (n.pre p), fun C fs d s h n => k5 C fs d s h (n.pre p)⟩
end
section
variable {X : Cx} {T : List NdefX.NTab} {W : WX} {U : Bool} {ds : List DS} {s : DS} {E : DEn}
theorem sV_imp {G : Glb} {E E' : DEn} {D : Ends} {σ : L2.St} {H : Hp} (h1 : ∀ d, E.nx d → E'.nx d) (h2 : ∀ d, E.rt d → E'.rt d) (h3 : ∀ d, E.bk d → E'.bk d) (h4 : ∀ d, E.ct d → E'.ct d) (h5 : ∀ C f d, E.xs C f d → E'.xs C f d) (h : sV G W U ds E' D σ H) : sV G W U ds E D σ H := by
  obtain ⟨I0, H0, I, e, k1, k2, k3, k4, k5⟩ := h
  exact ⟨I0, H0, I, e, fun s h n => k1 s h (n.imp h1), fun v h s r q => k2 v h s r (h2 s q), fun s h n => k3 s h (n.imp h3), fun s h n => k4 s h (n.imp h4), fun C f d s h ⟨ds', I', a, b, c, q⟩ => k5 C f d s h ⟨ds', I', a, b, c, h5 C f ds' q⟩⟩
/-! ### blocks -/
theorem dss_nil (h : E.nx ds) : DSs X T W U [] ds E := pss_nil.weak fun D σ H ⟨I0, H0, I, e, k1, _⟩ => k1 σ H ⟨ds, I, e, Pres.refl I H, h⟩
theorem dss_cons {st : Stmt} {rest : List Stmt} (h : DSt X T W U st ds { E with nx := fun ds' => DSs X T W U rest ds' E }) : DSs X T W U (st :: rest) ds E := by
  have h2 : PSs X rest (fun D σ H => ∃ ds', DSs X T W U rest ds' E ∧ sV (gx X T) W U ds' E D σ H) := ⟨fun pins s σ H D I ⟨ds', a, b⟩ => a.run pins s σ H D I b⟩
  refine (pss_cons h h2).weak fun D σ H ⟨I0, H0, I, e, k1, k2, k3, k4, k5⟩ => ?_
  refine ⟨I0, H0, I, e, fun σ' H' ⟨ds', I', e', p, q⟩ => ⟨ds', q, sV_from (ds := ds) (σ := σ) p e' k1 k2 k3 k4 k5⟩, k2, k3, k4, k5⟩
theorem dss_one {st : Stmt} (h : DSt X T W U st ds E) : DSs X T W U [st] ds E := pss_one h
theorem dss_never {sts : List Stmt} (h : False) : DSs X T W U sts ds E := h.elim
/-! ### simple statements -/
section
variable {e : Expr} {pos : Pos}
theorem ds_set (i : Nat) {x : Str} {pos' : Pos} (he : DV X T U e ds s) (k : E.nx (ds.set i s)) (hN : X.N.Nodup) (hi : X.N[i]? = some x := by rfl) (hx : Loc X.env.scope x := by first | exact Or.inl rfl | exact Or.inr rfl)
    (hs : swapsWith e (some (.Name x pos')) pos.line X.env = pure false := by rfl) (hf : X.fn x = true ∨ X.env.scope.names.lookup x = some .local := by first | exact .inl rfl | exact .inr rfl | assumption) : DSt X T W U (.Assign [.Name x pos'] e pos) ds E :=
  (ps_set hN hi hx he hs hf).weak fun D σ H ⟨I0, H0, I, en, k1, _⟩ => ⟨I0, H0, I, en, fun v I1 H1 s1 r1 => k1 _ H1 ⟨_, I1, en.setV s1 i r1, s1.pres, k⟩⟩
theorem ds_expr (he : DV X T U e ds s) (k : E.nx ds) (hs : swapsWith e none pos.line X.env = pure false := by rfl) : DSt X T W U (.Expr e pos) ds E :=
  (ps_expr he hs).weak fun D σ H ⟨I0, H0, I, en, k1, _⟩ => ⟨I0, H0, I, en, fun v I1 H1 s1 r1 => k1 _ H1 ⟨_, I1, en.step s1, s1.pres, k⟩⟩
theorem ds_ret (he : DV X T U e ds s) (k : E.rt s) : DSt X T W U (.Return (some e) pos) ds E :=
  (ps_ret he).weak fun D σ H ⟨I0, H0, I, en, _, k2, _⟩ => ⟨I0, H0, I, en, fun v I1 H1 s1 r1 => k2 v H1 s ⟨I1, en.st.trans s1, r1.back en.st⟩ k⟩
theorem ds_retN (k : E.rt (.im .non)) : DSt X T W U (.Return none pos) ds E :=
  ps_retN.weak fun D σ H ⟨I0, H0, I, en, _, k2, _⟩ => k2 _ H (.im .non) ⟨I, en.st, Rep.non⟩ k
/-- a name that holds a list of one's own is handed back -/
theorem ds_retOwn (i : Nat) {x : Str} {p : Pos} {xs : List D} (h : ds[i]? = some (.own xs)) (k : E.rt (.own xs)) (hN : X.N[i]? = some x := by rfl) (hv : Vis X.env.scope x := by first | exact Or.inl rfl | exact Or.inr (Or.inl rfl) | exact Or.inr (Or.inr rfl))
    (hd : (x == ("__debug__" : Str)) = false := by decide) (hcd : (x == ("__classdict__" : Str)) = false := by decide) : DSt X T W U (.Return (some (.Name x p)) pos) ds E :=
  (ps_ret (pe_var hN hv hd hcd)).weak fun D σ H ⟨I0, H0, I, en, _, k2, _⟩ => by
    obtain ⟨q, vs, e1, e2, e3, e4, e5⟩ := en.own h
    exact ⟨_, e1, k2 _ H (.own xs) ⟨I, en.st, q, vs, rfl, e5, e4, e2, e3⟩ k⟩
theorem ds_retOwnD (i : Nat) {x : Str} {p : Pos} {xs : List (Str × D)} (h : ds[i]? = some (.ownD xs)) (k : E.rt (.ownD xs)) (hN : X.N[i]? = some x := by rfl) (hv : Vis X.env.scope x := by first | exact Or.inl rfl | exact Or.inr (Or.inl rfl) | exact Or.inr (Or.inr rfl))
    (hd : (x == ("__debug__" : Str)) = false := by decide) (hcd : (x == ("__classdict__" : Str)) = false := by decide) : DSt X T W U (.Return (some (.Name x p)) pos) ds E :=
  (ps_ret (pe_var hN hv hd hcd)).weak fun D σ H ⟨I0, H0, I, en, _, k2, _⟩ => by
    obtain ⟨q, vs, e1, e2, e3, e4, e5⟩ := en.ownD h
    exact ⟨_, e1, k2 _ H (.ownD xs) ⟨I, en.st, q, vs, rfl, e5, e4, e2, e3⟩ k⟩
theorem ds_pass (k : E.nx ds) : DSt X T W U (.Pass pos) ds E := ps_pass.weak fun D σ H ⟨I0, H0, I, e, k1, _⟩ => k1 σ H ⟨ds, I, e, Pres.refl I H, k⟩
theorem ds_continue (k : E.ct ds) : DSt X T W U (.Continue pos) ds E := ps_continue.weak fun D σ H ⟨I0, H0, I, e, k1, k2, k3, k4, _⟩ => k4 σ H ⟨ds, I, e, Pres.refl I H, k⟩
theorem ds_break (k : E.bk ds) : DSt X T W U (.Break pos) ds E := ps_break.weak fun D σ H ⟨I0, H0, I, e, k1, k2, k3, _⟩ => k3 σ H ⟨ds, I, e, Pres.refl I H, k⟩
theorem ds_if {c : Expr} {a b : List Stmt} {x : Bool} (h : DT X T U c ds x) (h1 : x = true → DSs X T W U a ds E) (h2 : x = false → DSs X T W U b ds E) : DSt X T W U (.If c a b pos) ds E := by
  cases x with
  | true =>
    refine (ps_if h (h1 rfl) pss_never).weak fun D σ H ⟨I0, H0, I, e, k1, k2, k3, k4, k5⟩ => ⟨I0, H0, I, e, fun I' H' st => ?_⟩
    exact sV_from (ds := ds) (σ := σ) st.pres (e.step st) k1 k2 k3 k4 k5
  | false =>
    refine (ps_if h pss_never (h2 rfl)).weak fun D σ H ⟨I0, H0, I, e, k1, k2, k3, k4, k5⟩ => ⟨I0, H0, I, e, fun I' H' st => ?_⟩
    exact sV_from (ds := ds) (σ := σ) st.pres (e.step st) k1 k2 k3 k4 k5
/-- from now on a slot's own objects are told -/
theorem EnvR.growTo {G : Glb} {I0 H0 I H J : Hp} {σ : L2.St} {i : Nat} {c : D} {v : V} {F : Nat → Addr → Prop} (en : EnvR G U I0 H0 I H σ ds) (f : Foot G H0 I H σ ds F) (e1 : σ[i]? = some (some v)) (sj : Same I J) (hJ : ∀ a u, J a = some u → I a = some u ∨ (I a = none ∧ H a = some u ∧ H0 a = none ∧ F i a)) (hnt : ∀ a u, I a = none → J a = some u → ∀ ps, u ≠ HO.tbl ps)
    (r : Rep G J v c) : Pres I H J H ∧ EnvR G U I0 H0 J H σ (ds.set i (.im c)) := by
  refine ⟨⟨sj, fun _ _ _ q => q⟩, ?_⟩
  have st := en.st.tell sj fun a u e => (hJ a u e).imp id fun z => ⟨z.2.2.1, z.2.1, hnt a u z.1 e⟩
  have z := en.put f st en.tb (fun _ h => h) i (some v) (.im c) (fun _ => False) (fun j hj a ha h => ⟨?_, rfl⟩) sj (fun _ h => h.elim) ⟨v, rfl, r⟩
  · rwa [show σ.set i (some v) = σ from by
      obtain ⟨hl, he⟩ := List.getElem?_eq_some_iff.mp e1
      rw [← he, List.set_getElem_self]] at z
  · cases e : J a with
    | none => rfl
    | some u =>
      rcases hJ a u e with z | z
      · rw [h.1] at z; cases z
      · exact absurd (f.dj j i a ha z.2.2.2) hj
/-- J tells more: no dict but where nd is false -/
structure View (nd : Bool) (I H J : Hp) : Prop where
  pres : Pres I H J H
  of : ∀ a u, J a = some u → I a = some u ∨ (I a = none ∧ H a = some u)
  nd : nd = true → ∀ a kvs, I a = none → J a ≠ some (.dK kvs)
def DS.nodict : DS → Bool
  | .own _ => true
  | .ot _ t => t.nd
  | _ => false
theorem EnvR.freezeAt {G : Glb} {I0 H0 I H : Hp} {σ : L2.St} (en : EnvR G U I0 H0 I H σ ds) {i : Nat} {d : DS} (h : ds[i]? = some d) (ho : d.isOwn = true) : ∃ I', View d.nodict I H I' ∧ EnvR G U I0 H0 I' H σ (ds.set i d.fz) := by
  obtain ⟨F, f⟩ := en.fp
  have hl : i < σ.length := by rw [en.len]; exact (List.getElem?_eq_some_iff.mp h).1
  have hs := f.sl i _ _ (List.getElem?_eq_getElem hl) h
  have one : ∀ {p : Addr} {o : HO}, H p = some o → I p = none → H0 p = none → F i p → ∀ a u, upd I p o a = some u → I a = some u ∨ (I a = none ∧ H a = some u ∧ H0 a = none ∧ F i a) := fun {p o} hp hi h0 hf a u q => by
    by_cases z : a = p
    · subst z
      rw [upd_same] at q
      cases q
      exact .inr ⟨hi, hp, h0, hf⟩
    · rw [upd_ne z] at q
      exact .inl q
  have sm : ∀ {p : Addr} {o : HO}, I p = none → Same I (upd I p o) := fun hi a u q => by rw [upd_ne (ne_of_none q hi)]; exact q
  cases d with
  | no => cases ho
  | gh g => cases ho
  | im d => cases ho
  | own xs =>
    obtain ⟨p, vs, e1, e2, e3, e4, e5, e6⟩ := hs
    obtain ⟨p1, p2⟩ := en.growTo (J := upd I p (.lst vs)) (c := .lst xs) f (by rw [List.getElem?_eq_getElem hl, e1]) (sm e4) (one e2 e4 e5 e6) (fun a u hi e => by
      by_cases z : a = p
      · rw [z, upd_same] at e
        cases e
        exact fun _ z => nomatch z
      · rw [upd_ne z, hi] at e
        cases e) (Rep.lst upd_same (e3.mono (sm e4)))
    refine ⟨_, ⟨p1, fun a u q => (one e2 e4 e5 e6 a u q).imp id fun z => ⟨z.1, z.2.1⟩, fun _ a kvs hi q => ?_⟩, p2⟩
    by_cases z : a = p
    · rw [z, upd_same] at q
      cases q
    · rw [upd_ne z, hi] at q
      cases q
  | ownD xs =>
    obtain ⟨p, vs, e1, e2, e3, e4, e5, e6⟩ := hs
    obtain ⟨p1, p2⟩ := en.growTo (J := upd I p (.dK (kvK vs))) (c := .dic xs) f (by rw [List.getElem?_eq_getElem hl, e1]) (sm e4) (one e2 e4 e5 e6) (fun a u hi e => by
      by_cases z : a = p
      · rw [z, upd_same] at e
        cases e
        exact fun _ z => nomatch z
      · rw [upd_ne z, hi] at e
        cases e) (Rep.dic upd_same (e3.mono (sm e4)))
    exact ⟨_, ⟨p1, fun a u q => (one e2 e4 e5 e6 a u q).imp id fun z => ⟨z.1, z.2.1⟩, fun z => nomatch z⟩, p2⟩
  | ot q t =>
    obtain ⟨v, A, e1, r, hA, _⟩ := hs
    have ti : ∀ a u, tellA I H A a = some u → I a = some u ∨ (I a = none ∧ H a = some u ∧ H0 a = none ∧ F i a) := fun a u q => (tell_of q).imp id fun z => ⟨(r.there a z.1).1, z.2, hA a z.1⟩
    have ts : Same I (tellA I H A) := tell_same fun a ha => (r.there a ha).1
    obtain ⟨p1, p2⟩ := en.growTo (J := tellA I H A) (c := t.fz) f (by rw [List.getElem?_eq_getElem hl, e1]) ts ti (fun a u hi e => by
      rcases tell_of e with z | z
      · rw [hi] at z; cases z
      · obtain ⟨_, w, y, y1, _⟩ := r.there a z.1
        rw [z.2] at y
        cases y
        exact y1) (r.told ts fun a ha => tell_at ha)
    exact ⟨_, ⟨p1, fun a u q => (ti a u q).imp id fun z => ⟨z.1, z.2.1⟩, fun hn a kvs hi e => by
      rcases tell_of e with z | z
      · rw [hi] at z
        cases z
      · exact r.noD hn a z.1 kvs z.2⟩, p2⟩
theorem nodict_own : ∀ {d : DS}, d.nodict = true → d.isOwn = true
  | .own _, _ => rfl
  | .ot _ _, _ => rfl
theorem ds_freeze (i : Nat) {st : Stmt} {d : DS} (h : ds[i]? = some d) (ho : d.isOwn = true) (hs : DSt X T W U st (ds.set i d.fz) E) : DSt X T W U st ds E :=
  PS.weak hs fun D σ H ⟨I0, H0, I, e, k1, k2, k3, k4, k5⟩ => by
    obtain ⟨I', p, e'⟩ := e.freezeAt h ho
    exact sV_from (ds := ds) (σ := σ) p.pres e' k1 k2 k3 k4 k5
theorem dss_freeze (i : Nat) {st : List Stmt} {d : DS} (h : ds[i]? = some d) (ho : d.isOwn = true) (hs : DSs X T W U st (ds.set i d.fz) E) : DSs X T W U st ds E :=
  PSs.weak hs fun D σ H ⟨I0, H0, I, e, k1, k2, k3, k4, k5⟩ => by
    obtain ⟨I', p, e'⟩ := e.freezeAt h ho
    exact sV_from (ds := ds) (σ := σ) p.pres e' k1 k2 k3 k4 k5
/-- a slot forgotten -/
theorem EnvR.forget {G : Glb} {I0 H0 I H : Hp} {σ : L2.St} (en : EnvR G U I0 H0 I H σ ds) (i : Nat) : EnvR G U I0 H0 I H σ (ds.set i .no) := by
  by_cases hl : i < ds.length
  · have z := en.setNo (σ[i]'(by rw [en.len]; exact hl)) i
    rwa [List.set_getElem_self] at z
  · rw [List.set_eq_of_length_le (by omega)]
    exact en
/-! ### what is read while it is one's own -/
/-- scalars: they name no object -/
def flat : DS → Bool
  | .im (.non) => true
  | .im (.bl _) => true
  | .im (.int _) => true
  | .im (.str _) => true
  | _ => false
theorem flat_rep {G : Glb} {Hb I I' H : Hp} {v : V} : ∀ {d : DS}, flat d = true → ValR G Hb I H v d → ValR G Hb I' H v d
  | .im .non, _, r => by cases r; exact Rep.non
  | .im (.bl _), _, r => by cases r; exact Rep.bl _
  | .im (.int _), _, r => by cases r; exact Rep.int _
  | .im (.str _), _, r => by cases r; exact Rep.str _
theorem View.back {G : Glb} {I H I1 I' H' : Hp} (p : View true I H I1) (r : RdS I H) (s : Step G I1 H I' H') : Step G I H I H' := by
  refine ⟨Same.refl I, fun a u q => s.sub a u (s.isub a u (p.pres.same a u q)), fun a o h n c => s.keep a o h n (c.elim (fun hi => ?_) .inr), s.keepN, fun _ _ q _ _ _ => q, s.tabs⟩
  cases e : I1 a with
  | none => exact .inl rfl
  | some u =>
    rcases p.of a u e with z | z
    · rw [hi] at z; cases z
    · rw [h] at z
      cases z.2
      exact .inr fun kvs q => p.nd rfl a kvs hi (by rw [e, q])
theorem de_view (i : Nat) {e : Expr} {d : DS} (h : ds[i]? = some d) (ho : d.nodict = true) (hf : flat s = true) (he : DV X T U e (ds.set i d.fz) s) : DV X T U e ds s :=
  PE.weak he fun σ H Q ⟨I0, H0, I, en, k⟩ => by
    obtain ⟨I', p, e'⟩ := en.freezeAt h (nodict_own ho)
    rw [ho] at p
    exact ⟨I0, H0, I', e', fun v I2 H2 s2 r2 => k v I H2 (p.back en.sub s2) (flat_rep hf r2)⟩
theorem dt_view (i : Nat) {e : Expr} {d : DS} {b : Bool} (h : ds[i]? = some d) (ho : d.nodict = true) (he : DT X T U e (ds.set i d.fz) b) : DT X T U e ds b :=
  PT.weak he fun σ H Q ⟨I0, H0, I, en, k⟩ => by
    obtain ⟨I', p, e'⟩ := en.freezeAt h (nodict_own ho)
    rw [ho] at p
    exact ⟨I0, H0, I', e', fun I2 H2 s2 => k I H2 (p.back en.sub s2)⟩
/-- a new list of scalars -/
def flatD : D → Bool
  | .non => true
  | .bl _ => true
  | .int _ => true
  | .str _ => true
  | _ => false
theorem flatD_reps {G : Glb} {I I' : Hp} : ∀ {vs : List V} {xs : List D}, xs.all flatD = true → Reps G I vs xs → Reps G I' vs xs
  | _, _, _, .nil => .nil
  | _, _ :: _, h, .cons a b => by
    rw [List.all_cons, Bool.and_eq_true] at h
    refine .cons ?_ (flatD_reps h.2 b)
    have h1 := h.1
    cases a with
    | non => exact .non
    | bl b => exact .bl b
    | int b => exact .int b
    | str b => exact .str b
    | ty _ => cases h1
    | lst _ _ => cases h1
    | tup _ _ => cases h1
    | dic _ _ => cases h1
    | ins _ _ => cases h1
    | fn _ _ _ => cases h1
    | clo _ _ => cases h1
    | any _ => cases h1
    | cloE _ _ => cases h1
theorem dv_viewL (i : Nat) {e : Expr} {d : DS} {xs : List D} (h : ds[i]? = some d) (ho : d.nodict = true) (hf : xs.all flatD = true) (he : DV X T U e (ds.set i d.fz) (.own xs)) : DV X T U e ds (.own xs) :=
  PE.weak he fun σ H Q ⟨I0, H0, I, en, k⟩ => by
    obtain ⟨I', p, e'⟩ := en.freezeAt h (nodict_own ho)
    rw [ho] at p
    refine ⟨I0, H0, I', e', fun v I2 H2 s2 r2 => k v I H2 (p.back en.sub s2) ?_⟩
    obtain ⟨q, vs, e1, e2, e3, e4, e5⟩ := r2
    exact ⟨q, vs, e1, e2, en.sub.free e2, e4, flatD_reps hf e5⟩
/-! ### lists and dicts of one's own, changed -/
theorem tyL {K : PySem.W.Frag} {H : Hp} {p : Addr} {xs : List V} (h : H p = some (.lst xs)) : tyV K "list" (.ref p) H := .inl ⟨rfl, _, SqL.of h⟩
theorem ownNt {xs : List V} : ∀ u, some (HO.lst xs) = some u → (∀ ps, u ≠ HO.tbl ps) ∧ ∀ φ, u ≠ HO.ext φ := fun u e => by
  cases e
  exact ⟨fun _ z => (nomatch z), fun _ z => (nomatch z)⟩
theorem ownNd {xs : List (Key × V)} : ∀ u, some (HO.dK xs) = some u → (∀ ps, u ≠ HO.tbl ps) ∧ ∀ φ, u ≠ HO.ext φ := fun u e => by
  cases e
  exact ⟨fun _ z => (nomatch z), fun _ z => (nomatch z)⟩
section
variable {e : Expr} {pos : Pos} {d : D} {xs : List D}
theorem EnvR.putL {G : Glb} {I0 H0 I H : Hp} {σ : L2.St} (en : EnvR G U I0 H0 I H σ ds) {i : Nat} {p : Addr} {vs ws : List V} {ys : List D} (h : ds[i]? = some (.own xs)) (e1 : σ[i]? = some (some (.ref p))) (e2 : H p = some (.lst vs)) (e4 : I p = none) (e5 : H0 p = none) (r : Reps G I ws ys) :
    EnvR G U I0 H0 I (upd H p (.lst ws)) σ (ds.set i (.own ys)) ∧ Pres I H I (upd H p (.lst ws)) :=
  ⟨en.mutOwn e1 (.inl ⟨_, h⟩) e4 e5 (by rw [e2]; exact ownNt) ⟨p, ws, rfl, upd_same, r, e4, e5, rfl⟩, Pres.own e4 e2 fun _ _ z => nomatch z⟩
theorem ds_append (i : Nat) {x : Str} {p apos cpos : Pos} (h : ds[i]? = some (.own xs)) (he : DE X T U e ds d) (hl : xs.length < 100000) (k : E.nx (ds.set i (.own (xs ++ [d])))) (hN : X.N[i]? = some x := by rfl) (hv : Vis X.env.scope x := by first | exact Or.inl rfl | exact Or.inr (Or.inl rfl) | exact Or.inr (Or.inr rfl))
    (hd : (x == ("__debug__" : Str)) = false := by decide) (hcd : (x == ("__classdict__" : Str)) = false := by decide) (hb : attributeBase (.Name x p) "append" X.env (eval (.Name x p) X.env) = eval (.Name x p) X.env := by rfl) (ha : ((((backTo cpos (starEach [e] X.env)).all fun x => !x.fst) && (backToKw cpos (keywordEach [] X.env)).all fun x => x.fst.isSome) && decide (([e].length + ([] : List Keyword).length + if ([] : List Keyword).isEmpty = true then 0 else 1) < 30)) = true := by rfl)
    (hln : (apos.endLine == cpos.line) = true := by rfl) (hse : starEach [e] X.env = (false, eval e X.env) :: starEach [] X.env := by rfl) (hsw : swapsWith (.Call (.Attribute (.Name x p) "append" apos) [e] [] cpos) none pos.line X.env = pure false := by rfl) :
    DSt X T W U (.Expr (.Call (.Attribute (.Name x p) "append" apos) [e] [] cpos) pos) ds E :=
  (ps_expr (pe_bm PySem.F.plainAttrs_list PySem.F.slot_list_append PySem.F.type_list_append mt_append (pe_var hN hv hd hcd) (pa_cons he pa_nil hse) hb ha hln hse) hsw).weak fun D σ H ⟨I0, H0, I, en, k1, _⟩ => by
    obtain ⟨q, vs, e1, e2, e3, e4, e5⟩ := en.own h
    refine ⟨_, e1, tyL e2, I0, H0, I, en, fun v I1 H1 s1 r1 => ?_⟩
    have a1 := s1.keep q _ e2 (fun _ z => nomatch z) (.inl e4)
    have a2 := s1.fresh q _ e4 e2 (fun _ q => nomatch q) (fun _ q => nomatch q)
    refine ⟨q, vs, v, rfl, rfl, a1, by rw [e3.len]; exact Nat.lt_of_lt_of_le hl (by decide), ?_⟩
    obtain ⟨b1, b2⟩ := (en.step s1).putL h e1 a1 a2 e5 ((e3.mono s1.isub).app (.cons r1 .nil))
    exact k1 _ _ ⟨_, I1, b1, s1.pres.trans b2, k⟩
theorem ds_insert (i : Nat) {e' : Expr} {x : Str} {p apos cpos : Pos} {j : Int} (h : ds[i]? = some (.own xs)) (hj : DE X T U e' ds (.int j)) (he : DE X T U e ds d) (hl : xs.length < 100000) (hj0 : 0 ≤ j) (hj1 : j ≤ 100000) (k : E.nx (ds.set i (.own (xs.take j.toNat ++ [d] ++ xs.drop j.toNat)))) (hN : X.N[i]? = some x := by rfl)
    (hv : Vis X.env.scope x := by first | exact Or.inl rfl | exact Or.inr (Or.inl rfl) | exact Or.inr (Or.inr rfl)) (hd : (x == ("__debug__" : Str)) = false := by decide) (hcd : (x == ("__classdict__" : Str)) = false := by decide) (hb : attributeBase (.Name x p) "insert" X.env (eval (.Name x p) X.env) = eval (.Name x p) X.env := by rfl)
    (ha : ((((backTo cpos (starEach [e', e] X.env)).all fun x => !x.fst) && (backToKw cpos (keywordEach [] X.env)).all fun x => x.fst.isSome) && decide (([e', e].length + ([] : List Keyword).length + if ([] : List Keyword).isEmpty = true then 0 else 1) < 30)) = true := by rfl)
    (hln : (apos.endLine == cpos.line) = true := by rfl) (hse : starEach [e', e] X.env = (false, eval e' X.env) :: starEach [e] X.env := by rfl) (hse2 : starEach [e] X.env = (false, eval e X.env) :: starEach [] X.env := by rfl) (hpl : (backTo cpos (starEach [e] X.env)).any (·.1) = false := by rfl)
    (hsw : swapsWith (.Call (.Attribute (.Name x p) "insert" apos) [e', e] [] cpos) none pos.line X.env = pure false := by rfl) :
    DSt X T W U (.Expr (.Call (.Attribute (.Name x p) "insert" apos) [e', e] [] cpos) pos) ds E :=
  (ps_expr (pe_bm PySem.F.plainAttrs_list PySem.F.slot_list_insert PySem.F.type_list_insert mt_insert (pe_var hN hv hd hcd) (pa_cons hj (pa_cons he pa_nil hse2) hse) hb ha hln hse hpl) hsw).weak fun D σ H ⟨I0, H0, I, en, k1, _⟩ => by
    obtain ⟨q, vs, e1, e2, e3, e4, e5⟩ := en.own h
    refine ⟨_, e1, tyL e2, I0, H0, I, en, fun v I1 H1 s1 r1 => ⟨I0, H0, I1, en.step s1, fun w I2 H2 s2 r2 => ?_⟩⟩
    cases r1
    have s3 := s1.trans s2
    have a1 := s3.keep q _ e2 (fun _ z => nomatch z) (.inl e4)
    have a2 := s3.fresh q _ e4 e2 (fun _ q => nomatch q) (fun _ q => nomatch q)
    refine ⟨q, vs, j, w, rfl, rfl, a1, by rw [e3.len]; exact Nat.lt_of_lt_of_le hl (by decide), hj0, by omega, ?_⟩
    have e3' := e3.mono s3.isub
    obtain ⟨b1, b2⟩ := (en.step s3).putL h e1 a1 a2 e5 (((e3'.take j.toNat).app (.cons r2 .nil)).app (e3'.drop j.toNat))
    exact k1 _ _ ⟨_, I2, b1, s3.pres.trans b2, k⟩
/-- x[k] = e, x a list of one's own -/
theorem ds_setL (i : Nat) {eo ei : Expr} {p : Pos} {j : Int} {n : Nat} (h : ds[i]? = some (.own xs)) (hg : PG X (.Subscript eo ei p) (gSub (tVar i) (eV (gx X T) U ds (.im (.int j))) rSetL)) (he : DE X T U e ds d) (hj : ixN xs.length j = some n) (k : E.nx (ds.set i (.own (xs.set n d))))
    (hs : swapsWithSole [.Subscript eo ei p] e pos.line X.env = pure false := by rfl) (hw : swappedStores [.Subscript eo ei p] e X.env = pure none := by rfl) : DSt X T W U (.Assign [.Subscript eo ei p] e pos) ds E :=
  (ps_asg he hg hs hw).weak fun D σ H ⟨I0, H0, I, en, k1, _⟩ => by
    refine ⟨I0, H0, I, en, fun v I1 H1 s1 r1 => ?_⟩
    have en1 := en.step s1
    obtain ⟨q, vs, e1, e2, e3, e4, e5⟩ := en1.own h
    refine ⟨_, e1, I0, H0, I1, en1, fun w I2 H2 s2 r2 => ?_⟩
    cases r2
    have a1 := s2.keep q _ e2 (fun _ z => nomatch z) (.inl e4)
    have a2 := s2.fresh q _ e4 e2 (fun _ q => nomatch q) (fun _ q => nomatch q)
    refine ⟨q, vs, j, n, rfl, rfl, a1, by rw [e3.len]; exact hj, ?_⟩
    obtain ⟨b1, b2⟩ := (en1.step s2).putL h e1 a1 a2 e5 ((e3.mono s2.isub).set (Rep.mono s2.isub r1) n)
    exact k1 _ _ ⟨_, I2, b1, (s1.trans s2).pres.trans b2, k⟩
/-- x += e, ints -/
theorem ds_augI (i : Nat) {x : Str} {pos' : Pos} {a b : Int} (h : ds[i]? = some (.im (.int a))) (he : DE X T U e ds (.int b)) (k : E.nx (ds.set i (.im (.int (a + b))))) (hN : X.N.Nodup) (hi : X.N[i]? = some x := by rfl) (hx : Loc X.env.scope x := by first | exact Or.inl rfl | exact Or.inr rfl)
    (hf : X.fn x = true ∨ X.env.scope.names.lookup x = some .local := by first | exact .inl rfl | exact .inr rfl | assumption) : DSt X T W U (.AugAssign (.Name x pos') .Add e pos) ds E :=
  (ps_aug hN hi hx he ip_add hf).weak fun D σ H ⟨I0, H0, I, en, k1, _⟩ => by
    obtain ⟨v, e1, r⟩ := en.im h
    cases r
    refine ⟨_, e1, I0, H0, I, en, fun w I1 H1 s1 r1 => ?_⟩
    cases r1
    exact ⟨a, b, rfl, rfl, k1 _ H1 ⟨_, I1, (en.step s1).setIm i (.int _), s1.pres, k⟩⟩
end
/-! ### targets -/
theorem dg_name (i : Nat) {x : Str} {pos : Pos} {d : D} (hN : X.N.Nodup) (hi : X.N[i]? = some x := by rfl) (hx : Loc X.env.scope x := by first | exact Or.inl rfl | exact Or.inr rfl) (hf : X.fn x = true ∨ X.env.scope.names.lookup x = some .local := by first | exact .inl rfl | exact .inr rfl | assumption) :
    DG X T U (.Name x pos) ds d (ds.set i (.im d)) [i] := by
  have h := pg_name (pos := pos) hN hi hx hf
  exact ⟨fun pins s σ H v u Q I r ⟨I0, H0, I1, en, rp, k⟩ => h.run pins s σ H v u Q I r (k _ (en.setIm i rp) ⟨List.length_set, fun j hj => List.getElem?_set_ne fun z => hj (by rw [z]; exact List.mem_singleton_self _)⟩)⟩
end
end
end Lp

/-! The judgements over data: loops, walked things, defs and their calls. -/
namespace Lp
open PySem PySem.Spec PyProof.Rows L2
section
variable {X : Cx} {T : List NdefX.NTab} {W : WX} {U : Bool} {ds : List DS} {s : DS} {E : DEn}
/-! ### tuples as targets -/
theorem dgs_nil : DGs X T U [] ds [] ds [] := by
  have h : PGs X [] gNil := pgs_nil
  exact ⟨fun pins s σ H vs us Q I r ⟨I0, H0, I1, en, rp, k⟩ => h.run pins s σ H vs us Q I r ⟨by cases rp; rfl, k σ en ⟨rfl, fun _ _ => rfl⟩⟩⟩
theorem dgs_cons {e : Expr} {es : List Expr} {d : D} {xs : List D} {ds1 ds2 : List DS} {js js' : List Nat} (h1 : DG X T U e ds d ds1 js) (h2 : DGs X T U es ds1 xs ds2 js')
    (hs : (assignEach (e :: es) X.env).map (·.2) = assign e X.env :: (assignEach es X.env).map (·.2) := by rfl) : DGs X T U (e :: es) ds (d :: xs) ds2 (js ++ js') :=
  ⟨fun pins s σ H vs us Q I r ⟨I0, H0, I1, en, rp, k⟩ => (pgs_cons h1 h2 hs).run pins s σ H vs us Q I r (by
    cases rp with
    | cons a b => exact ⟨_, _, rfl, I0, H0, I1, en, a, fun σ' en' b1 => ⟨I0, H0, I1, en', b, fun σ2 e2 b2 => k σ2 e2 ⟨b2.1.trans b1.1, fun i hi => (b2.2 i fun z => hi (List.mem_append_right _ z)).trans (b1.2 i fun z => hi (List.mem_append_left _ z))⟩⟩⟩)⟩
theorem dg_tup {es : List Expr} {n : Nat} {pos : Pos} {xs : List D} {ds' : List DS} {js : List Nat} (h : DGs X T U es ds xs ds' js) (hc : X.calm = true := by rfl) (hn : (assignEach es X.env).length = xs.length := by rfl) (hst : (assignEach es X.env).findIdx? (·.1) = none := by rfl) : DG X T U (.Tuple es n pos) ds (.tup xs) ds' js :=
  ⟨fun pins s σ H v u Q I r ⟨I0, H0, I1, en, rp, k⟩ => (pg_tup hc h hn hst).run pins s σ H v u Q I r (by
    cases rp with
    | tup a b => exact ⟨_, _, rfl, SqT.of (en.sub.tup a), b.len, I0, H0, I1, en, b, k⟩)⟩
/-! ### walked things -/
theorem goes_list {G : Glb} {p : Addr} {vs : List V} {xs : List D} {I H : Hp} (hp : I p = some (.lst vs)) (r : Reps G I vs xs) : Goes G (Itl G.K p) I H xs := fun I1 H1 ps rd i => by
  have h1 : SqL G.K H1 p vs := SqL.of (rd.lst (ps.same _ _ hp))
  refine ⟨fun hi => ⟨vs, h1, by rw [r.len]; exact hi⟩, fun d hd => ?_⟩
  obtain ⟨v, hv, rv⟩ := r.get' hd
  refine ⟨⟨vs, v, h1, hv⟩, fun x H2 ⟨e, f⟩ => ?_⟩
  subst e
  have e2 := f vs h1
  rw [hv] at e2
  cases e2
  exact ⟨I1, Step.refl rd, rv.mono ps.same⟩
theorem di_list {tg iter : Expr} {xs : List D} (h : DE X T U iter ds (.lst xs)) : DI X T U tg iter ds xs := by
  have q := pi_list (tg := tg) h
  refine ⟨fun pins s σ H R I ⟨I0, H0, I1, en, k⟩ => q.run pins s σ H R I ⟨I0, H0, I1, en, fun v I2 H2 s2 r2 => ?_⟩⟩
  cases r2 with
  | lst a b => exact ⟨_, rfl, ⟨_, SqL.of (s2.sub.lst a)⟩, k _ I2 H2 s2 (goes_list a b)⟩
theorem goes_tup {G : Glb} {p : Addr} {vs : List V} {xs : List D} {I H : Hp} (hp : I p = some (.tup vs)) (r : Reps G I vs xs) : Goes G (Itt G.K p) I H xs := fun I1 H1 ps rd i => by
  have h1 : SqT G.K H1 p vs := SqT.of (rd.tup (ps.same _ _ hp))
  refine ⟨fun hi => ⟨vs, h1, by rw [r.len]; exact hi⟩, fun d hd => ?_⟩
  obtain ⟨v, hv, rv⟩ := r.get' hd
  refine ⟨⟨vs, v, h1, hv⟩, fun x H2 ⟨e, f⟩ => ?_⟩
  subst e
  have e2 := f vs h1
  rw [hv] at e2
  cases e2
  exact ⟨I1, Step.refl rd, rv.mono ps.same⟩
theorem di_tup {tg iter : Expr} {xs : List D} (h : DE X T U iter ds (.tup xs)) : DI X T U tg iter ds xs := by
  have q := pi_tup (tg := tg) h
  refine ⟨fun pins s σ H R I ⟨I0, H0, I1, en, k⟩ => q.run pins s σ H R I ⟨I0, H0, I1, en, fun v I2 H2 s2 r2 => ?_⟩⟩
  cases r2 with
  | tup a b => exact ⟨_, rfl, ⟨_, SqT.of (s2.sub.tup a)⟩, k _ I2 H2 s2 (goes_tup a b)⟩
abbrev rngD (lo : Int) (n : Nat) : List D := (List.range n).map fun i : Nat => D.int (lo + (i : Int))
theorem rng_get {n i a : Nat} (h : (List.range n)[i]? = some a) : i < n ∧ a = i := by
  obtain ⟨h1, h2⟩ := List.getElem?_eq_some_iff.mp h
  rw [List.length_range] at h1
  rw [List.getElem_range] at h2
  exact ⟨h1, h2.symm⟩
theorem rngD_len (lo : Int) (n : Nat) : (rngD lo n).length = n := by rw [List.length_map, List.length_range]
theorem rngD_get {lo : Int} {n i : Nat} {d : D} (h : (rngD lo n)[i]? = some d) : i < n ∧ d = .int (lo + (i : Int)) := by
  rw [List.getElem?_map] at h
  cases e : (List.range n)[i]? with
  | none => rw [e] at h; cases h
  | some j =>
    obtain ⟨h1, h2⟩ := List.getElem?_eq_some_iff.mp e
    rw [e] at h
    rw [List.length_range] at h1
    rw [List.getElem_range] at h2
    subst h2
    exact ⟨h1, (Option.some.inj h).symm⟩
theorem goes_rng {G : Glb} {lo : Int} {n : Nat} {I H : Hp} : Goes G (Itr lo n) I H (rngD lo n) := fun I1 H1 ps rd i => by
  refine ⟨fun hi => by rw [rngD_len] at hi; exact hi, fun d hd => ?_⟩
  obtain ⟨h1, rfl⟩ := rngD_get hd
  refine ⟨h1, fun x H2 ⟨e, f⟩ => ?_⟩
  subst e f
  exact ⟨I1, Step.refl rd, .int _⟩
theorem di_rng1 {tg a : Expr} {p pos : Pos} {n : Int} (h : DE X T U a ds (.int n)) (hg : Gl X "range") (hm : X.mg "range" = none) (hn : -100000 ≤ n) (hn2 : n ≤ 100000) (he : starEach [a] X.env = [(false, eval a X.env)] := by rfl) : DI X T U tg (.Call (.Name "range" p) [a] [] pos) ds (rngD 0 n.toNat) := by
  have q := pi_range1 (tg := tg) (p := p) (pos := pos) hg hm (da_cons h da_nil he) he
  refine ⟨fun pins s σ H R I ⟨I0, H0, I1, en, k⟩ => q.run pins s σ H R I ⟨I0, H0, I1, en, fun vs I2 H2 s2 r2 => ?_⟩⟩
  cases r2 with
  | cons a b =>
    cases a
    cases b
    exact ⟨n, rfl, by omega, by omega, k _ I2 H2 s2 goes_rng⟩
theorem di_rng2 {tg a b : Expr} {p pos : Pos} {m n : Int} (h : DE X T U a ds (.int m)) (h2 : DE X T U b ds (.int n)) (hg : Gl X "range") (hm : X.mg "range" = none) (hm1 : -100000 ≤ m) (hm2 : m ≤ 100000) (hn : -100000 ≤ n) (hn2 : n ≤ 100000)
    (he : starEach [a, b] X.env = [(false, eval a X.env), (false, eval b X.env)] := by rfl) (he2 : starEach [b] X.env = [(false, eval b X.env)] := by rfl) : DI X T U tg (.Call (.Name "range" p) [a, b] [] pos) ds (rngD m (n - m).toNat) := by
  have q := pi_range2 (tg := tg) (p := p) (pos := pos) hg hm (da_cons h (da_cons h2 da_nil he2) (by rw [he, he2])) he he2
  refine ⟨fun pins s σ H R I ⟨I0, H0, I1, en, k⟩ => q.run pins s σ H R I ⟨I0, H0, I1, en, fun vs I2 H2 s2 r2 => ?_⟩⟩
  cases r2 with
  | cons a b =>
    cases a
    cases b with
    | cons a b =>
      cases a
      cases b
      exact ⟨m, n, rfl, by omega, k _ I2 H2 s2 goes_rng⟩
def enumD (xs : List D) : List D := (List.range xs.length).map fun i : Nat => D.tup [.int (i : Int), xs.getD i .non]
theorem enumD_len (xs : List D) : (enumD xs).length = xs.length := by unfold enumD; rw [List.length_map, List.length_range]
theorem enumD_get {xs : List D} {i : Nat} {d : D} (h : (enumD xs)[i]? = some d) : ∃ x, xs[i]? = some x ∧ d = .tup [.int (i : Int), x] := by
  unfold enumD at h
  rw [List.getElem?_map] at h
  cases e : (List.range xs.length)[i]? with
  | none => rw [e] at h; cases h
  | some j =>
    obtain ⟨h1, h2⟩ := List.getElem?_eq_some_iff.mp e
    rw [e] at h
    rw [List.length_range] at h1
    rw [List.getElem_range] at h2
    subst h2
    refine ⟨xs[i], List.getElem?_eq_getElem h1, ?_⟩
    rw [← Option.some.inj h]
    show D.tup [.int (i : Int), xs.getD i .non] = _
    rw [List.getD_eq_getElem?_getD, List.getElem?_eq_getElem h1]
    rfl
theorem goes_enum {G : Glb} {p : Addr} {vs : List V} {xs : List D} {I H : Hp} (hp : I p = some (.lst vs)) (r : Reps G I vs xs) : Goes G (Ite G.K p) I H (enumD xs) := fun I1 H1 ps rd i => by
  have h1 : SqL G.K H1 p vs := SqL.of (rd.lst (ps.same _ _ hp))
  refine ⟨fun hi => ⟨vs, h1, by rw [r.len]; rw [enumD_len] at hi; exact hi⟩, fun d hd => ?_⟩
  obtain ⟨z, hz, rfl⟩ := enumD_get hd
  obtain ⟨v, hv, rv⟩ := r.get' hz
  refine ⟨⟨vs, v, h1, hv⟩, fun x H2 ⟨t, y, e1, e2, e3, f⟩ => ?_⟩
  have ey := f vs h1
  rw [hv] at ey
  cases ey
  subst e1 e3
  refine ⟨_, Step.new rd e2, Rep.tup upd_same (.cons (.int _) (.cons ?_ .nil))⟩
  exact (rv.mono ps.same).mono (Step.new (G := G) rd e2).isub
theorem di_enum {iter : Expr} {p pos tpos : Pos} {elts : List Expr} {kk : Nat} {xs : List D} (h : DE X T U iter ds (.lst xs)) (hg : Gl X "enumerate") (hm : X.mg "enumerate" = none) (he : starEach [iter] X.env = [(false, eval iter X.env)] := by rfl) :
    DI X T U (.Tuple elts kk tpos) (.Call (.Name "enumerate" p) [iter] [] pos) ds (enumD xs) := by
  have q := pi_enum (elts := elts) (kk := kk) (tpos := tpos) (p := p) (pos := pos) hg hm (da_cons h da_nil he) he
  refine ⟨fun pins s σ H R I ⟨I0, H0, I1, en, k⟩ => q.run pins s σ H R I ⟨I0, H0, I1, en, fun vs I2 H2 s2 r2 => ?_⟩⟩
  cases r2 with
  | cons a b =>
    cases b
    cases a with
    | lst a b => exact ⟨_, _, rfl, SqL.of (s2.sub.lst a), k _ I2 H2 s2 (goes_enum a b)⟩
/-! ### loops -/
/-- Pv i: what holds ahead of the turn i; g: what the target makes of the slots -/
theorem ds_for {α : Type} {tg iter : Expr} {body : List Stmt} {pos : Pos} {xs : List α} {e : α → D} (Pv : Nat → List DS → Prop) (g : α → List DS → List DS) (hi : DI X T U tg iter ds (xs.map e)) {js : List Nat} (hg : ∀ d ∈ xs, ∀ ds1, DG X T U tg ds1 (e d) (g d ds1) js) (h0 : Pv 0 ds)
    (hb : ∀ (i : Nat) (d : α) (ds1 : List DS), xs[i]? = some d → Pv i ds1 → DSs X T W U body (g d ds1) { E with nx := Pv (i + 1), ct := Pv (i + 1), bk := E.nx }) (hd : ∀ ds1, Pv xs.length ds1 → E.nx ds1)
    (hp : PassesOwn (model X.prog X.w) X.A X.env X.xe) (hc : X.calm = true := by rfl) (hs : ∀ x, foldedSetIterable iter X.env x = pure x := by intro _; rfl) : DSt X T W U (.For tg iter body [] pos) ds E := by
  have hG : PG X tg (fun v σ H Q => ∃ d ds1, d ∈ xs ∧ gV (gx X T) U ds1 (e d) (g d ds1) js v σ H Q) := ⟨fun pins s σ H v u Q I r ⟨d, ds1, m, q⟩ => (hg d m ds1).run pins s σ H v u Q I r q⟩
  have hB : PSs X body (fun D σ H => ∃ i d ds1, xs[i]? = some d ∧ Pv i ds1 ∧ sV (gx X T) W U (g d ds1) { E with nx := Pv (i + 1), ct := Pv (i + 1), bk := E.nx } D σ H) := ⟨fun pins s σ H D I ⟨i, d, ds1, h1, h2, q⟩ => (hb i d ds1 h1 h2).run pins s σ H D I q⟩
  refine (ps_for hp hc hi hG hB hs).weak fun D σ H ⟨I0, H0, I, en, k1, k2, k3, k4, k5⟩ => ⟨I0, H0, I, en, fun J I1 H1 s1 go => ?_⟩
  refine ⟨fun i m σ' H' => m = xs.length - i ∧ i ≤ xs.length ∧ ∃ ds1 I', EnvR (gx X T) U I0 H0 I' H' σ' ds1 ∧ Pres I1 H1 I' H' ∧ Pv i ds1, ⟨_, rfl, Nat.zero_le _, ds, I1, en.step s1, Pres.refl _ _, h0⟩, ?_⟩
  rintro i m σ' H' ⟨rfl, hi, ds1, I', en', ps, hv⟩
  obtain ⟨g1, g2⟩ := go I' H' ps en'.sub i
  by_cases hlt : i < xs.length
  · refine .inr ?_
    obtain ⟨a, b⟩ := g2 (e xs[i]) (by rw [List.getElem?_map, List.getElem?_eq_getElem hlt]; rfl)
    refine ⟨a, fun σ2 H2 => ∃ ds2 I2, EnvR (gx X T) U I0 H0 I2 H2 σ2 ds2 ∧ Pres I1 H1 I2 H2 ∧ Pv (i + 1) ds2, fun σ2 H2 ⟨ds2, I2, e2, p2, v2⟩ => ⟨xs.length - (i + 1), by omega, rfl, hlt, ds2, I2, e2, p2, v2⟩, fun x H2 y => ?_⟩
    obtain ⟨I2, s2, r2⟩ := b x H2 y
    refine ⟨xs[i], ds1, List.getElem_mem hlt, I0, H0, I2, en'.step s2, r2, fun σ3 e3 _ => ?_⟩
    have pp : Pres I1 H1 I2 H2 := ps.trans s2.pres
    refine ⟨i, xs[i], ds1, List.getElem?_eq_getElem hlt, hv, I0, H0, I2, e3, ?_, k2, ?_, ?_, fun C fs d s h n => k5 C fs d s h (n.pre (s1.pres.trans pp))⟩
    · rintro σ4 H4 ⟨ds4, I4, e4, p4, v4⟩
      exact ⟨ds4, I4, e4, pp.trans p4, v4⟩
    · rintro σ4 H4 ⟨ds4, I4, e4, p4, v4⟩
      exact k1 σ4 H4 ⟨ds4, I4, e4, (s1.pres.trans pp).trans p4, v4⟩
    · rintro σ4 H4 ⟨ds4, I4, e4, p4, v4⟩
      exact ⟨ds4, I4, e4, pp.trans p4, v4⟩
  · have e : i = xs.length := by omega
    subst e
    exact .inl ⟨g1 (by rw [List.length_map]; exact Nat.le_refl _), k1 σ' H' ⟨ds1, I', en', s1.pres.trans ps, hd ds1 hv⟩⟩
theorem ds_while {c : Expr} {body : List Stmt} {pos : Pos} (Pv : Nat → List DS → Prop) (m0 : Nat) (h0 : Pv m0 ds)
    (hb : ∀ m ds1, Pv m ds1 → ∃ b, DT X T U c ds1 b ∧ (b = true → DSs X T W U body ds1 { E with nx := fun ds2 => ∃ m', m' < m ∧ Pv m' ds2, ct := fun ds2 => ∃ m', m' < m ∧ Pv m' ds2, bk := E.nx }) ∧ (b = false → E.nx ds1))
    (hp : PassesOwn (model X.prog X.w) X.A X.env X.xe) : DSt X T W U (.While c body [] pos) ds E := by
  have hC : PT X c (fun σ H Q => ∃ b ds1, DT X T U c ds1 b ∧ tV (gx X T) U ds1 b σ H Q) := ⟨fun pins s σ H Q I ⟨b, ds1, h, q⟩ => h.run pins s σ H Q I q⟩
  have hB : PSs X body (fun D σ H => ∃ m ds1, DSs X T W U body ds1 { E with nx := fun ds2 => ∃ m', m' < m ∧ Pv m' ds2, ct := fun ds2 => ∃ m', m' < m ∧ Pv m' ds2, bk := E.nx } ∧ sV (gx X T) W U ds1 { E with nx := fun ds2 => ∃ m', m' < m ∧ Pv m' ds2, ct := fun ds2 => ∃ m', m' < m ∧ Pv m' ds2, bk := E.nx } D σ H) :=
    ⟨fun pins s σ H D I ⟨m, ds1, h1, q⟩ => h1.run pins s σ H D I q⟩
  refine (ps_while (pos := pos) hp hC hB).weak fun D σ H ⟨I0, H0, I, en, k1, k2, k3, k4, k5⟩ => ?_
  refine ⟨fun m σ' H' => ∃ ds1 I', EnvR (gx X T) U I0 H0 I' H' σ' ds1 ∧ Pres I H I' H' ∧ Pv m ds1, ⟨m0, ds, I, en, Pres.refl _ _, h0⟩, ?_⟩
  rintro m σ' H' ⟨ds1, I', en', ps, hv⟩
  obtain ⟨b, hc, ht, hf⟩ := hb m ds1 hv
  refine ⟨b, ds1, hc, I0, H0, I', en', fun I2 H2 s2 => ?_⟩
  cases b with
  | true =>
    rw [if_pos rfl]
    refine ⟨fun σ3 H3 => ∃ m', m' < m ∧ ∃ ds1 I', EnvR (gx X T) U I0 H0 I' H3 σ3 ds1 ∧ Pres I H I' H3 ∧ Pv m' ds1, fun σ3 H3 q => q, m, ds1, ht rfl, I0, H0, I2, en'.step s2, ?_, k2, ?_, ?_, fun C fs d s h n => k5 C fs d s h (n.pre (ps.trans s2.pres))⟩
    · rintro σ4 H4 ⟨ds4, I4, e4, p4, m', hm, v4⟩
      exact ⟨m', hm, ds4, I4, e4, (ps.trans s2.pres).trans p4, v4⟩
    · rintro σ4 H4 ⟨ds4, I4, e4, p4, v4⟩
      exact k1 σ4 H4 ⟨ds4, I4, e4, (ps.trans s2.pres).trans p4, v4⟩
    · rintro σ4 H4 ⟨ds4, I4, e4, p4, m', hm, v4⟩
      exact ⟨m', hm, ds4, I4, e4, (ps.trans s2.pres).trans p4, v4⟩
  | false =>
    rw [if_neg Bool.false_ne_true]
    exact k1 σ' H2 ⟨ds1, I2, en'.step s2, ps.trans s2.pres, hf rfl⟩
end
/-! ### defs and their calls -/
/-- the def called with data xs gives s, where A tells so; U: it wants every dict free -/
def spD (G : Glb) (U : Bool) (A : List D → DS → Prop) : Sp := fun vs H Q _ => ∃ I xs r, RdS I H ∧ NdefX.TabsN G.T H ∧ Reps G I vs xs ∧ A xs r ∧ ∀ v H', RetR G I H v H' r → Q v H'
def startD (n : Nat) (xs : List D) : List DS := xs.map DS.im ++ List.replicate (n - xs.length) DS.no
theorem env_start {G : Glb} {U : Bool} {I H : Hp} {N : List Str} {vs : List V} {xs : List D} (r : RdS I H) (tb : NdefX.TabsN G.T H) (rs : Reps G I vs xs) (hl : xs.length ≤ N.length) : EnvR G U I H I H (L2.start N vs) (startD N.length xs) := by
  have e := rs.len
  refine ⟨Step.refl r, tb, ?_, fun _ _ => False, fun i o s h1 h2 => ?_, fun _ _ _ h => h.elim, fun _ _ h => h.elim⟩
  · unfold L2.start startD
    rw [List.length_append, List.length_append, List.length_map, List.length_map, List.length_replicate, List.length_replicate, e]
  · unfold L2.start at h1
    unfold startD at h2
    by_cases hi : i < xs.length
    · rw [List.getElem?_append_left (by rw [List.length_map, e]; exact hi), List.getElem?_map] at h1
      rw [List.getElem?_append_left (by rw [List.length_map]; exact hi), List.getElem?_map] at h2
      obtain ⟨v, hv, rv⟩ := rs.get' (List.getElem?_eq_getElem hi)
      rw [hv] at h1
      rw [List.getElem?_eq_getElem hi] at h2
      cases h1
      cases h2
      exact ⟨v, rfl, rv⟩
    · rw [List.getElem?_append_right (by rw [List.length_map]; omega)] at h2
      have z := List.mem_of_getElem? h2
      rw [List.eq_of_mem_replicate z]
      trivial
theorem RetR.fz {G : Glb} {I0 H0 H' : Hp} {v : V} {s : DS} (h : RetR G I0 H0 v H' s) : RetR G I0 H0 v H' s.fz := by
  obtain ⟨I', st, r⟩ := h
  obtain ⟨I2, s2, r2⟩ := r.fz st
  exact ⟨I2, s2, r2⟩
abbrev W0 : WX := fun _ _ _ _ => False
/-- a def that lets no error out, by data -/
theorem okD {G : Glb} {U : Bool} {x qual : Str} {params : Arguments} {body : List Stmt} {scope : Scope} {f : Addr} {fd : FuncData} {N ps : List Str} {k : Nat} {A : List D → DS → Prop} (F : FunD G.K x qual params body scope [] [] f fd) (S : FnScope N ps scope)
    (hA : ∀ xs r, A xs r → xs.length = ps.length)
    (hb : ∀ (cdv : Value) (Ar : Around) (outer : List Env) (s : Shared) (H : Hp) (E : XK), Room k (Ar.deeper (envOfC qual scope s.heap.objs.size f cdv)) → ∀ xs r, A xs r →
      DSs (cxOf CX0 G.P G.w G.K G.mg G.base N qual scope f cdv Ar outer s H E).nox G.T W0 U body (startD N.length xs) { nx := fun _ => r = .im .non, rt := fun t => t = r ∨ t.fz = r }) :
    FnOk G.P G.w G.K G.mg G.base CX0 (k + 1) f fd ps (spD G U A) := by
  refine F.ok S (fun vs H Q E ⟨I, xs, r, _, _, rs, hAx, _⟩ => by rw [rs.len]; exact hA xs r hAx) (fun cdv Ar outer s H vs Q E hr ⟨I, xs, r, rd, tb, rs, hAx, k⟩ => ?_)
  have h := hb cdv Ar outer s H E hr xs r hAx
  have hl : xs.length ≤ N.length := by
    have e1 := S.pre
    have e2 := hA xs r hAx
    rw [e2, ← e1, List.length_take]
    exact Nat.min_le_right _ _
  refine ⟨_, PSs.nox h, I, H, I, env_start (G := G) rd tb rs hl, ?_, ?_, ?_, ?_, ?_⟩
  · rintro σ' H' ⟨ds', I', e', p', q⟩
    refine k .non H' ?_
    rw [q]
    exact ⟨I', e'.st, Rep.non⟩
  · rintro v H' t hr ht
    rcases ht with rfl | rfl
    · exact k v H' hr
    · exact k v H' hr.fz
  · rintro _ _ ⟨_, _, _, _, q⟩
    exact q
  · rintro _ _ ⟨_, _, _, _, q⟩
    exact q
  · rintro _ _ _ _ _ ⟨_, _, _, _, _, q⟩
    exact q
section
variable {X : Cx} {T : List NdefX.NTab} {W : WX} {U U' : Bool} {ds : List DS} {s : DS} {E : DEn}
/-- f(..) -/
theorem dv_call {A : List D → DS → Prop} {k : Nat} {f : Addr} {fd : FuncData} {ps : List Str} {x : Str} {p pos : Pos} {e : Expr} {es : List Expr} {xs : List D} (F : FnOk X.prog X.w X.K X.mg X.base CX0 k f fd ps (spD (gx X T) U' A)) (hU : U' = true → U = true) (hr : Room k X.A) (hg : Gl X x)
    (hm : X.mg x = some (.ref f)) (hk : PySem.W.keepIn X.K (.ref f) = true) (hb : L2.Binds X.K fd ps []) (ha : DA X T U (e :: es) ds xs) (hA : A xs s) (hdb : (x == ("__debug__" : Str)) = false := by decide) (he : starEach (e :: es) X.env = (false, eval e X.env) :: starEach es X.env := by rfl)
    (hpl : (backTo pos (starEach es X.env)).any (·.1) = false := by rfl) : DV X T U (.Call (.Name x p) (e :: es) [] pos) ds s :=
  (pe_call F hr hg hm hk hb .nil (E := E0) pass0 ha hdb he hpl).weak fun σ H Q ⟨I0, H0, I, en, k⟩ => ⟨I0, H0, I, en, fun vs I1 H1 s1 r1 => by
    show spD (gx X T) U' A (vs ++ []) H1 Q E0
    rw [List.append_nil]
    exact ⟨I1, xs, s, s1.sub, (en.step s1).tb, r1, hA, fun v H' ⟨I2, s2, r2⟩ => k v I2 H' (s1.trans s2) (r2.back s1)⟩⟩
theorem dv_call0 {A : List D → DS → Prop} {k : Nat} {f : Addr} {fd : FuncData} {ps : List Str} {x : Str} {p pos : Pos} (F : FnOk X.prog X.w X.K X.mg X.base CX0 k f fd ps (spD (gx X T) U' A)) (hU : U' = true → U = true) (hr : Room k X.A) (hg : Gl X x)
    (hm : X.mg x = some (.ref f)) (hk : PySem.W.keepIn X.K (.ref f) = true) (hb : L2.Binds X.K fd ps []) (hA : A [] s) (hdb : (x == ("__debug__" : Str)) = false := by decide) : DV X T U (.Call (.Name x p) [] [] pos) ds s :=
  (pe_call0 F hr hg hm hk hb .nil (E := E0) pass0 hdb).weak fun σ H Q ⟨I0, H0, I, en, k⟩ =>
    ⟨I, [], s, en.sub, en.tb, .nil, hA, fun v H' ⟨I2, s2, r2⟩ => k v I2 H' s2 r2⟩
end
end Lp

/-! The judgements over data: comprehensions. -/
namespace Lp
open PySem PySem.Spec PyProof.Rows L2
def wipeD (ds : List DS) : List Nat → List DS
  | [] => ds
  | v :: vs => (wipeD ds vs).set v .no
theorem env_wipe {G : Glb} {U : Bool} {I0 H0 I H : Hp} {σ : L2.St} {ds : List DS} (e : EnvR G U I0 H0 I H σ ds) : ∀ vs : List Nat, EnvR G U I0 H0 I H (wipe σ vs) (wipeD ds vs)
  | [] => e
  | v :: vs => (env_wipe e vs).setNo none v
theorem wipe_get {σ : L2.St} : ∀ {vs : List Nat} {i : Nat}, (wipe σ vs)[i]? = if i ∈ vs ∧ i < σ.length then some none else σ[i]?
  | [], i => by
    rw [if_neg (fun z => by cases z.1)]
    rfl
  | v :: vs, i => by
    show ((wipe σ vs).set v none)[i]? = _
    by_cases h : v = i
    · subst h
      by_cases hl : v < σ.length
      · rw [List.getElem?_set_self (by rw [wipe_length]; exact hl), if_pos ⟨List.mem_cons_self, hl⟩]
      · rw [if_neg fun z => hl z.2, List.getElem?_eq_none_iff.mpr (by rw [List.length_set, wipe_length]; omega), List.getElem?_eq_none_iff.mpr (by omega)]
    · rw [List.getElem?_set_ne h, wipe_get]
      have e : (i ∈ v :: vs) = (i ∈ vs) := by
        rw [List.mem_cons]
        simp [Ne.symm h]
      simp only [e]
theorem wipe_but {σ σ2 : L2.St} {vs js : List Nat} (b : ButAt js (wipe σ vs) σ2) (h : ∀ j ∈ js, j ∈ vs) : wipe σ2 vs = wipe σ vs := by
  apply List.ext_getElem?
  intro i
  have hl : σ2.length = σ.length := by rw [b.1, wipe_length]
  rw [wipe_get, wipe_get, hl]
  by_cases hi : i ∈ vs ∧ i < σ.length
  · rw [if_pos hi, if_pos hi]
  · rw [if_neg hi, if_neg hi]
    by_cases hj : i ∈ js
    · have hn : ¬ i < σ.length := fun z => hi ⟨h i hj, z⟩
      rw [List.getElem?_eq_none_iff.mpr (by omega), List.getElem?_eq_none_iff.mpr (by omega)]
    · rw [b.2 i hj, wipe_get, if_neg hi]
section
variable {G : Glb} {U : Bool} {ds : List DS}
/-- the turns of a comprehension: f tells what an item gives, if any -/
theorem lc_run {α : Type} {ev : α → D} {wi : TI} {g : TG} {tt : TT} {te : TE} {vs js : List Nat} {xs : List α} {gd : α → List DS} {f : α → Option D} {σ : L2.St} {H : Hp} {Q : VK} (hl : xs.length ≤ 100000)
    (hi : ∀ σ H R, iV G U ds (xs.map ev) σ H R → wi σ H R) (hg : ∀ d ∈ xs, ∀ v σ H Q, gV G U (wipeD ds vs) (ev d) (gd d) js v σ H Q → g v σ H Q) (hj : ∀ j ∈ js, j ∈ vs) (ht : ∀ d ∈ xs, ∀ σ H Q, tV G U (gd d) (f d).isSome σ H Q → tt σ H Q)
    (he : ∀ d ∈ xs, ∀ y, f d = some y → ∀ σ H Q, eV G U (gd d) (.im y) σ H Q → te σ H Q) (h : eV G U ds (.own (xs.filterMap f)) σ H Q) : tLc wi g tt te vs σ H Q := by
  obtain ⟨I0, H0, I, en, k⟩ := h
  refine hi σ H _ ⟨I0, H0, I, en, fun J I1 H1 s1 go Dl hD => ?_⟩
  have en1 := en.step s1
  refine ⟨fun i m H' => m = xs.length - i ∧ i ≤ xs.length ∧ ∃ I' ws, Step G I1 H1 I' H' ∧ H' Dl = some (.lst ws) ∧ I' Dl = none ∧ Reps G I' ws ((xs.take i).filterMap f), ⟨_, rfl, Nat.zero_le _, I1, [], Step.newOwn s1.sub hD, upd_same, s1.sub.free hD, .nil⟩, ?_⟩
  rintro i m H' ⟨rfl, hil, I', ws, st, hDl, iDl, rs⟩
  obtain ⟨g1, g2⟩ := go I' H' st.pres st.sub i
  by_cases hlt : i < xs.length
  · refine .inr ?_
    obtain ⟨a, b⟩ := g2 (ev xs[i]) (by rw [List.getElem?_map, List.getElem?_eq_getElem hlt]; rfl)
    refine ⟨a, fun H2 => i + 1 ≤ xs.length ∧ ∃ I' ws, Step G I1 H1 I' H2 ∧ H2 Dl = some (.lst ws) ∧ I' Dl = none ∧ Reps G I' ws ((xs.take (i + 1)).filterMap f), fun H2 ⟨q1, q2⟩ => ⟨xs.length - (i + 1), by omega, rfl, q1, q2⟩, fun x H2 y => ?_⟩
    obtain ⟨I2, s2, r2⟩ := b x H2 y
    have hm : xs[i] ∈ xs := List.getElem_mem hlt
    have et : xs.take (i + 1) = xs.take i ++ [xs[i]] := by rw [List.take_succ, List.getElem?_eq_getElem hlt]; rfl
    have en2 := (en1.step (st.trans s2))
    refine hg xs[i] hm x (wipe σ vs) H2 _ ⟨I0, H0, I2, env_wipe en2 vs, r2, fun σ2 e2 bt => ⟨wipe_but bt hj, ?_⟩⟩
    refine ht xs[i] hm σ2 H2 _ ⟨I0, H0, I2, e2, fun I3 H3 s3 => ?_⟩
    have s23 := s2.trans s3
    have k1 : H3 Dl = some (.lst ws) := s23.keep Dl _ hDl (fun _ z => nomatch z) (.inr fun _ z => nomatch z)
    have k2 : I3 Dl = none := s23.fresh Dl _ iDl hDl (fun _ q => nomatch q) (fun _ q => nomatch q)
    cases hf : f xs[i] with
    | none =>
      show if false = true then _ else _
      rw [if_neg Bool.false_ne_true]
      refine ⟨hlt, I3, ws, st.trans s23, k1, k2, ?_⟩
      rw [et, List.filterMap_append, List.filterMap_cons, hf, List.filterMap_nil, List.append_nil]
      exact rs.mono s23.isub
    | some y =>
      show if true = true then _ else _
      rw [if_pos rfl]
      refine he xs[i] hm y hf σ2 H3 _ ⟨I0, H0, I3, e2.step s3, fun v I4 H4 s4 r4 => ?_⟩
      have s24 := s23.trans s4
      have k3 : H4 Dl = some (.lst ws) := s4.keep Dl _ k1 (fun _ z => nomatch z) (.inr fun _ z => nomatch z)
      have k4 : I4 Dl = none := s4.fresh Dl _ k2 k1 (fun _ q => nomatch q) (fun _ q => nomatch q)
      refine ⟨ws, k3, ?_, hlt, I4, ws ++ [v], (st.trans s24).mutOwn k4 hD (by rw [k3]; exact ownNt), upd_same, k4, ?_⟩
      · rw [rs.len]
        have z := List.length_filterMap_le f (xs.take i)
        rw [List.length_take] at z
        exact Nat.lt_of_le_of_lt (Nat.le_trans z (Nat.min_le_left _ _)) (Nat.lt_of_lt_of_le hlt (Nat.le_trans hl (by decide)))
      · rw [et, List.filterMap_append, List.filterMap_cons, hf, List.filterMap_nil]
        exact (rs.mono s24.isub).app (.cons r4 .nil)
  · have e : i = xs.length := by omega
    subst e
    refine .inl ⟨g1 (by rw [List.length_map]; exact Nat.le_refl _), ?_⟩
    rw [List.take_length] at rs
    exact k _ I' H' (s1.trans st) ⟨Dl, ws, rfl, s1.free hD, iDl, hDl, rs⟩
end
section
variable {X : Cx} {T : List NdefX.NTab} {W : WX} {U : Bool} {ds : List DS} {s : DS} {E : DEn}
abbrev DTs (X : Cx) (T : List NdefX.NTab) (U : Bool) (ifs : List Expr) (ds : List DS) (b : Bool) : Prop := PTs X ifs (tV (gx X T) U ds b)
theorem dts_nil : DTs X T U [] ds true := ⟨fun pins s σ H Q I ⟨I0, H0, I1, en, k⟩ => pts_nil.run pins s σ H Q I (k I1 H (Step.refl en.sub))⟩
theorem dts_one {c : Expr} {b : Bool} (h : DT X T U c ds b) : DTs X T U [c] ds b := pts_one h
/-- the block of a comprehension -/
abbrev blkX (X : Cx) (scope : Scope) (s : Shared) (H : Hp) (C : Addr) (cl : List (Str × Addr)) (fp : List Addr) : Cx := X.blk s H scope (compEnvC scope cl C X.env) fp
section
variable {α : Type} {ev : α → D} {elt tg iter : Expr} {ifs : List Expr} {scope : Scope} {own : List (Str × Nat)} {pos : Pos} {xs : List α} {js : List Nat}
theorem dv_lc (gd : α → List DS) (f : α → Option D) (hi : DI X T U tg iter ds (xs.map ev)) (hl : xs.length ≤ 100000) (hN : X.N.Nodup) (ok : BlkOk X.N X.env.scope scope own) (hg : ∀ s H C cl fp, ∀ d ∈ xs, DG (blkX X scope s H C cl fp) T U tg (wipeD ds (own.map (·.2))) (ev d) (gd d) js) (hj : ∀ j ∈ js, j ∈ own.map (·.2))
    (ht : ∀ s H C cl fp, ∀ d ∈ xs, DTs (blkX X scope s H C cl fp) T U ifs (gd d) (f d).isSome) (he : ∀ s H C cl fp, ∀ d ∈ xs, ∀ y, f d = some y → DE (blkX X scope s H C cl fp) T U elt (gd d) y) (hc : X.calm = true := by rfl) (hs : ∀ x, foldedSetIterable iter X.env x = pure x := by intro _; rfl) :
    DV X T U (.ListComp elt [⟨tg, iter, ifs, 0⟩] scope pos) ds (.own (xs.filterMap f)) := by
  refine (pe_lc (own := own) (g := fun v σ H Q => ∃ d, d ∈ xs ∧ gV (gx X T) U (wipeD ds (own.map (·.2))) (ev d) (gd d) js v σ H Q) (tt := fun σ H Q => ∃ d, d ∈ xs ∧ tV (gx X T) U (gd d) (f d).isSome σ H Q) (te := fun σ H Q => ∃ d y, d ∈ xs ∧ f d = some y ∧ eV (gx X T) U (gd d) (.im y) σ H Q)
    hc hN hi ok (fun s H C cl fp => ⟨fun pins s' σ H' v u Q I r ⟨d, m, q⟩ => (hg s H C cl fp d m).run pins s' σ H' v u Q I r q⟩) (fun s H C cl fp => ⟨fun pins s' σ H' Q I ⟨d, m, q⟩ => (ht s H C cl fp d m).run pins s' σ H' Q I q⟩) (fun s H C cl fp => ⟨fun pins s' σ H' Q I ⟨d, y, m, e, q⟩ => (he s H C cl fp d m y e).run pins s' σ H' Q I q⟩) hs).weak fun σ H Q h => ?_
  exact lc_run hl (fun _ _ _ h => h) (fun d m v σ H Q h => ⟨d, m, h⟩) hj (fun d m σ H Q h => ⟨d, m, h⟩) (fun d m y e σ H Q h => ⟨d, y, m, e, h⟩) h
/-- y = [..] -/
theorem ds_setLc (i : Nat) {y : Str} {py spos : Pos} (gd : α → List DS) (f : α → Option D) (hi : DI X T U tg iter ds (xs.map ev)) (hl : xs.length ≤ 100000) (hN : X.N.Nodup) (ok : BlkOk X.N X.env.scope scope own) (hg : ∀ s H C cl fp, ∀ d ∈ xs, DG (blkX X scope s H C cl fp) T U tg (wipeD ds (own.map (·.2))) (ev d) (gd d) js) (hj : ∀ j ∈ js, j ∈ own.map (·.2))
    (ht : ∀ s H C cl fp, ∀ d ∈ xs, DTs (blkX X scope s H C cl fp) T U ifs (gd d) (f d).isSome) (he : ∀ s H C cl fp, ∀ d ∈ xs, ∀ y, f d = some y → DE (blkX X scope s H C cl fp) T U elt (gd d) y) (k : E.nx (ds.set i (.own (xs.filterMap f)))) (hsw : swapsWith (.ListComp elt [⟨tg, iter, ifs, 0⟩] scope pos) (some (.Name y py)) spos.line X.env = pure true)
    (hy : X.N[i]? = some y := by rfl) (hyl : X.env.scope.names.lookup y = some .local := by rfl) (hc : X.calm = true := by rfl) (hs : ∀ x, foldedSetIterable iter X.env x = pure x := by intro _; rfl) : DSt X T W U (.Assign [.Name y py] (.ListComp elt [⟨tg, iter, ifs, 0⟩] scope pos) spos) ds E := by
  refine (ps_setLc (i := i) (own := own) (g := fun v σ H Q => ∃ d, d ∈ xs ∧ gV (gx X T) U (wipeD ds (own.map (·.2))) (ev d) (gd d) js v σ H Q) (tt := fun σ H Q => ∃ d, d ∈ xs ∧ tV (gx X T) U (gd d) (f d).isSome σ H Q) (te := fun σ H Q => ∃ d y, d ∈ xs ∧ f d = some y ∧ eV (gx X T) U (gd d) (.im y) σ H Q)
    hc hN hy hyl hsw hi ok (fun s H C cl fp => ⟨fun pins s' σ H' v u Q I r ⟨d, m, q⟩ => (hg s H C cl fp d m).run pins s' σ H' v u Q I r q⟩) (fun s H C cl fp => ⟨fun pins s' σ H' Q I ⟨d, m, q⟩ => (ht s H C cl fp d m).run pins s' σ H' Q I q⟩) (fun s H C cl fp => ⟨fun pins s' σ H' Q I ⟨d, y, m, e, q⟩ => (he s H C cl fp d m y e).run pins s' σ H' Q I q⟩) hs).weak fun D σ H ⟨I0, H0, I, en, k1, _⟩ => ?_
  exact lc_run hl (fun _ _ _ h => h) (fun d m v σ H Q h => ⟨d, m, h⟩) hj (fun d m σ H Q h => ⟨d, m, h⟩) (fun d m y e σ H Q h => ⟨d, y, m, e, h⟩) ⟨I0, H0, I, en, fun v I1 H1 s1 r1 => k1 _ H1 ⟨_, I1, en.setV s1 i r1, s1.pres, k⟩⟩
/-- test and element by functions of the item -/
def lcF (p : α → Bool) (h : α → D) (a : α) : Option D := if p a = true then some (h a) else none
theorem lcF_eq {p : α → Bool} {h : α → D} : ∀ l : List α, l.filterMap (lcF p h) = (l.filter p).map h
  | [] => rfl
  | a :: l => by
    rw [List.filterMap_cons, List.filter_cons]
    unfold lcF
    by_cases c : p a = true
    · rw [if_pos c, if_pos c, List.map_cons]
      exact congrArg _ (lcF_eq l)
    · rw [if_neg c, if_neg c]
      exact lcF_eq l
theorem lcF_some {p : α → Bool} {h : α → D} (a : α) : (lcF p h a).isSome = p a := by
  unfold lcF
  cases p a <;> rfl
theorem lcF_is {p : α → Bool} {h : α → D} {a : α} {y : D} (q : lcF p h a = some y) : p a = true ∧ y = h a := by
  unfold lcF at q
  by_cases c : p a = true
  · rw [if_pos c] at q
    exact ⟨c, (Option.some.inj q).symm⟩
  · rw [if_neg c] at q
    cases q
theorem dv_lcP (gd : α → List DS) (p : α → Bool) (h : α → D) (hi : DI X T U tg iter ds (xs.map ev)) (hl : xs.length ≤ 100000) (hN : X.N.Nodup) (ok : BlkOk X.N X.env.scope scope own) (hg : ∀ s H C cl fp, ∀ d ∈ xs, DG (blkX X scope s H C cl fp) T U tg (wipeD ds (own.map (·.2))) (ev d) (gd d) js)
    (ht : ∀ s H C cl fp, ∀ d ∈ xs, DTs (blkX X scope s H C cl fp) T U ifs (gd d) (p d)) (he : ∀ s H C cl fp, ∀ d ∈ xs, p d = true → DE (blkX X scope s H C cl fp) T U elt (gd d) (h d)) (hj : ∀ j ∈ js, j ∈ own.map (·.2) := by decide) (hc : X.calm = true := by rfl)
    (hs : ∀ x, foldedSetIterable iter X.env x = pure x := by intro _; rfl) : DV X T U (.ListComp elt [⟨tg, iter, ifs, 0⟩] scope pos) ds (.own ((xs.filter p).map h)) := by
  rw [← lcF_eq]
  exact dv_lc gd (lcF p h) hi hl hN ok hg hj (fun s H C cl fp d hd => by rw [lcF_some]; exact ht s H C cl fp d hd) (fun s H C cl fp d hd y hy => by
    obtain ⟨a, rfl⟩ := lcF_is hy
    exact he s H C cl fp d hd a) hc hs
theorem ds_setLcP (i : Nat) {y : Str} {py spos : Pos} (gd : α → List DS) (p : α → Bool) (h : α → D) (hi : DI X T U tg iter ds (xs.map ev)) (hl : xs.length ≤ 100000) (hN : X.N.Nodup) (ok : BlkOk X.N X.env.scope scope own) (hg : ∀ s H C cl fp, ∀ d ∈ xs, DG (blkX X scope s H C cl fp) T U tg (wipeD ds (own.map (·.2))) (ev d) (gd d) js)
    (ht : ∀ s H C cl fp, ∀ d ∈ xs, DTs (blkX X scope s H C cl fp) T U ifs (gd d) (p d)) (he : ∀ s H C cl fp, ∀ d ∈ xs, p d = true → DE (blkX X scope s H C cl fp) T U elt (gd d) (h d)) (k : E.nx (ds.set i (.own ((xs.filter p).map h))))
    (hsw : swapsWith (.ListComp elt [⟨tg, iter, ifs, 0⟩] scope pos) (some (.Name y py)) spos.line X.env = pure true := by exact sw_true rfl rfl rfl (by decide +kernel)) (hj : ∀ j ∈ js, j ∈ own.map (·.2) := by decide) (hy : X.N[i]? = some y := by rfl) (hyl : X.env.scope.names.lookup y = some .local := by rfl)
    (hc : X.calm = true := by rfl) (hs : ∀ x, foldedSetIterable iter X.env x = pure x := by intro _; rfl) : DSt X T W U (.Assign [.Name y py] (.ListComp elt [⟨tg, iter, ifs, 0⟩] scope pos) spos) ds E := by
  rw [← lcF_eq] at k
  exact ds_setLc i gd (lcF p h) hi hl hN ok hg hj (fun s H C cl fp d hd => by rw [lcF_some]; exact ht s H C cl fp d hd) (fun s H C cl fp d hd y hy => by
    obtain ⟨a, rfl⟩ := lcF_is hy
    exact he s H C cl fp d hd a) k hsw hy hyl hc hs
end
end
end Lp

/-! len(set(xs)) of a list whose items are keys of one kind. -/
namespace SetK
open PySem PySem.Spec PyProof.Rows L2
section
variable {K : Type} [DecidableEq K] [BEq K] [LawfulBEq K]
/-- the unlike ones, in the turn in which they are met -/
def add1 (l : List K) (k : K) : List K := if l.any (· == k) then l else l ++ [k]
def dd (xs : List K) : List K := xs.foldl add1 []
theorem dd_snoc (xs : List K) (k : K) : dd (xs ++ [k]) = add1 (dd xs) k := by
  unfold dd
  rw [List.foldl_append]
  rfl
theorem add1_any (l : List K) (k q : K) : (add1 l k).any (· == q) = (l.any (· == q) || decide (q = k)) := by
  unfold add1
  by_cases h : l.any (· == k) = true
  · rw [if_pos h]
    by_cases e : q = k
    · subst e
      rw [h, decide_eq_true rfl]
      rfl
    · rw [decide_eq_false e, Bool.or_false]
  · rw [if_neg h, List.any_append]
    congr 1
    by_cases e : q = k
    · subst e; simp
    · have e2 : (k == q) = false := by simpa [beq_iff_eq] using (fun z : k = q => e z.symm)
      simp [e2, e]
theorem add1_len (l : List K) (k : K) : (add1 l k).length = if l.any (· == k) then l.length else l.length + 1 := by
  unfold add1
  split <;> simp
theorem dd_le : ∀ xs : List K, (dd xs).length ≤ xs.length := fun xs => by
  have h : ∀ (xs l : List K), (xs.foldl add1 l).length ≤ l.length + xs.length := by
    intro xs
    induction xs with
    | nil => intro l; simp
    | cons x r ih =>
      intro l
      rw [List.foldl_cons]
      have a := ih (add1 l x)
      rw [add1_len] at a
      rw [List.length_cons]
      split at a <;> omega
  have z := h xs []
  simpa [dd] using z
theorem dd_mem (xs : List K) (k : K) : (dd xs).any (· == k) = xs.any (· == k) := by
  have h : ∀ (xs l : List K), (xs.foldl add1 l).any (· == k) = (l.any (· == k) || xs.any (· == k)) := by
    intro xs
    induction xs with
    | nil => intro l; simp
    | cons x r ih =>
      intro l
      rw [List.foldl_cons, ih, add1_any, List.any_cons, Bool.or_assoc]
      congr 2
      by_cases e : k = x
      · subst e; simp
      · have e2 : (x == k) = false := by simpa [beq_iff_eq] using (fun z : x = k => e z.symm)
        simp [e2, e]
  have z := h xs []
  simpa [dd] using z
theorem dd_len_eq : ∀ xs : List K, (dd xs).length = xs.length ↔ xs.Nodup := by
  have h : ∀ (xs l : List K), (xs.foldl add1 l).length ≤ l.length + xs.length ∧ ((xs.foldl add1 l).length = l.length + xs.length ↔ xs.Nodup ∧ ∀ x ∈ xs, l.any (· == x) = false) := by
    intro xs
    induction xs with
    | nil => intro l; simp
    | cons x r ih =>
      intro l
      rw [List.foldl_cons, List.length_cons]
      obtain ⟨a, b⟩ := ih (add1 l x)
      have al := add1_len l x
      by_cases hx : l.any (· == x) = true
      · rw [if_pos hx] at al
        refine ⟨by omega, ⟨fun q => by omega, fun q => ?_⟩⟩
        have z := q.2 x List.mem_cons_self
        rw [hx] at z
        cases z
      · rw [if_neg hx] at al
        refine ⟨by omega, ?_⟩
        have e1 : (r.foldl add1 (add1 l x)).length = l.length + (r.length + 1) ↔ (r.foldl add1 (add1 l x)).length = (add1 l x).length + r.length := by omega
        rw [e1, b, List.nodup_cons]
        constructor
        · rintro ⟨q1, q2⟩
          refine ⟨⟨fun m => ?_, q1⟩, fun y hy => ?_⟩
          · have z := q2 x m
            rw [add1_any] at z
            simp at z
          · rcases List.mem_cons.mp hy with rfl | m
            · exact Bool.eq_false_iff.mpr hx
            · have z := q2 y m
              rw [add1_any, Bool.or_eq_false_iff] at z
              exact z.1
        · rintro ⟨⟨q1, q2⟩, q3⟩
          refine ⟨q2, fun y m => ?_⟩
          rw [add1_any, q3 y (List.mem_cons_of_mem _ m), Bool.false_or]
          exact decide_eq_false fun z => q1 (by rw [← z]; exact m)
  intro xs
  have z := (h xs []).2
  simpa [dd] using z
end
section
variable {prog : Program} {w : World} {A : Around} {R : Result → Shared → Prop} {I : Addr} {fp wr : List Addr} {G : Array GenState → Array GenState → Prop} {n : Nat} {P : Nat → Value → Prop} {St : Nat → Shared → Prop}
  {K : Type} [DecidableEq K] [BEq K] [LawfulBEq K]
theorem loop (knd : PySem.KeyKind prog w K) (W : WalksS prog w A.in1 I fp wr G n P St) (S : Addr) (hSf : S ∉ fp) (xs : List K) (hsz : xs.length = n) (hb : n + 1 < scanBound)
    (hval : ∀ i v, P i v → ∃ k, xs[i]? = some k ∧ knd.is k v = true ∧ v.scannable = true) :
    ∀ (k i : Nat) (s : Shared), n - i = k → i ≤ n → St i s → s.heap.SetOf knd S (fun q => (dd (xs.take i)).any (· == q)) (dd (xs.take i)).length →
      (∀ s', Moved (S :: wr) G s s' → s'.heap.SetOf knd S (fun q => (dd xs).any (· == q)) (dd xs).length → R (.ok (.ret .none)) s') →
      codeAny (model prog w) A (.builtin "set.update.loop" ⟨[.ref S, .ref I], []⟩) R s := by
  have nw : S ∉ wr := fun h => hSf (W.sub _ h)
  have up : ∀ b ∈ wr, b ∈ S :: wr := fun b hb => List.mem_cons_of_mem _ hb
  intro k
  induction k with
  | zero =>
    intro i s hk hi hst hS hR
    obtain rfl : i = n := by omega
    refine codeAny_builtin PyProof.Rows.F.entry_set_update_loop ?_
    rw [Around.under_plainId PyProof.Rows.F.plain_set_update_loop _]
    show wpAny _ A.in1 (pyNext (.ref I) >>= _) _ _ s
    refine wpAny_bind (W.done s _ _ hst fun s' hm => ?_)
    show wpAny _ A.in1 (ret Value.none) _ _ s'
    refine wpAny_pure (hR s' (hm.mono up) ?_)
    rw [← hsz, List.take_length] at hS
    obtain ⟨o, es, ep, t, ho, rest⟩ := hS
    exact ⟨o, es, ep, t, hm.heap S _ nw ho, rest⟩
  | succ k ih =>
    intro i s hk hi hst hS hR
    have hlt : i < n := by omega
    refine codeAny_builtin PyProof.Rows.F.entry_set_update_loop ?_
    rw [Around.under_plainId PyProof.Rows.F.plain_set_update_loop _]
    show wpAny _ A.in1 (pyNext (.ref I) >>= _) _ _ s
    refine wpAny_bind (W.item i s _ _ hlt hst fun v s' hP hst' hm => ?_)
    obtain ⟨q, hq, hk1, hk2⟩ := hval i v hP
    have hS' : s'.heap.SetOf knd S (fun q => (dd (xs.take i)).any (· == q)) (dd (xs.take i)).length := by
      obtain ⟨o, es, ep, tb, ho, rest⟩ := hS
      exact ⟨o, es, ep, tb, hm.heap S _ nw ho, rest⟩
    show wpAny _ A.in1 (holding [v] (setAdd S v) >>= _) _ _ s'
    refine wpAny_bind (wpAny_holding ?_)
    unfold setAdd
    refine wpAny_holding (wpAny_bind (knd.pyHash (k := q) hk1 ?_))
    have et : xs.take (i + 1) = xs.take i ++ [q] := by rw [List.take_succ, hq]; rfl
    have room : (dd (xs.take i)).length + 1 < scanBound := by
      have := dd_le (xs.take i)
      rw [List.length_take] at this
      omega
    refine wpAny_setAddHashed_of (knd := knd) (s := { s' with toks := s'.toks + 1 }) hk1 hk2 hS' room fun h' hsb hS2 => ?_
    have hSi : h'.SetOf knd S (fun q => (dd (xs.take (i + 1))).any (· == q)) (dd (xs.take (i + 1))).length :=
      SetOf_congr hS2 (fun q' => by rw [et, dd_snoc, add1_any]) (by rw [et, dd_snoc, add1_len])
    refine wpAny_pure ⟨plainId_quiet PyProof.Rows.F.plain_set_update_loop _, ih (i + 1) _ (by omega) hlt (W.frame _ s' _ _ hst' (Nat.le_succ _) fun b hb o e => ?_) hSi fun s'' hm'' hS'' => ?_⟩
    · rw [hsb.2 b (fun h : b = S => hSf (by rw [← h]; exact hb))]
      exact e
    · refine hR s'' (Moved.trans W.gtrans ((hm.mono up).then_heap (Nat.le_succ _) fun b o hb e => ?_) hm'') hS''
      rw [hsb.2 b (fun h : b = S => hb (by rw [h]; exact List.mem_cons_self))]
      exact e
end
section
variable {prog : Program} {w : World} {A : Around} {E : Value → Shared → Prop} {s : Shared} {K : Type} [DecidableEq K] [BEq K] [LawfulBEq K]
/-- what set.__init__ leaves -/
def Left (knd : PySem.KeyKind prog w K) (xs : List K) (s s₂ : Shared) : Prop := ∃ h' tk, s₂ = { s with heap := h', toks := tk } ∧ h'.SetOf knd s.heap.objs.size (fun q => (dd xs).any (· == q)) (dd xs).length ∧
  ∀ b o, b < s.heap.objs.size → s.heap.get? b = some o → h'.get? b = some o
theorem call_list (knd : PySem.KeyKind prog w K) {l : Addr} {items : Array Value} {xs : List K} {Q : Value → Shared → Prop} (hh : A.handled = none) (hl : s.heap.IsList l items) (hsz : xs.length = items.size) (hb : items.size + 1 < scanBound)
    (hi : ∀ (i : Nat) (v : Value), items[i]? = some v → ∃ k, xs[i]? = some k ∧ knd.is k v = true ∧ v.scannable = true)
    (h : ∀ s₂, Left knd xs s s₂ → Q (.ref s.heap.objs.size) s₂) : wpAny (model prog w) A (call (.type "set") [.ref l]) Q E s := by
  obtain ⟨c, tl, mro⟩ := PySem.F.called_set.mro
  have made := PySem.F.called_set.made
  have sub := PySem.F.called_set.sub
  refine wpAny_call (codeAny_of_tree ?_)
  show wpAny _ _ (callAny (.type "set") _) _ _ _
  refine wpAny_pure ⟨Code.quiet_builtin _ (by decide +kernel), codeAny_builtin PySem.F.entry_type_call ?_⟩
  rw [Around.under_plain (weight_type_call_type "set" [.ref l] []) rfl]
  have f1 := PySem.F.called_set.notType
  have f2 := PySem.F.called_set.canCreate
  have f3 := PySem.F.typeCall_set_1 (.ref l)
  repeat (any_goals (first | assumption | wp_step))
  refine codeAny_mono (code_set_new_1 (.ref l) (E := E) (Q₁ := fun obj s₁ => ∃ led : Bool, obj = .ref s.heap.objs.size ∧ s₁ = { s with heap := s.heap.push { cls := .type "set", dict := none, data := .set #[] 0 (.fresh 0 0 led) } }) fun led => ⟨led, rfl, rfl⟩) fun r s₁ hr => ?_
  cases r with
  | error e => exact hr
  | ok fl =>
    cases fl with
    | next => exact hr.elim
    | brk => exact hr.elim
    | cont => exact hr.elim
    | ret obj =>
      obtain ⟨led, rfl, rfl⟩ := hr
      have hS : (s.heap.push { cls := .type "set", dict := none, data := .set #[] 0 (.fresh 0 0 led) }).get? s.heap.objs.size = some { cls := .type "set", dict := none, data := .set #[] 0 (.fresh 0 0 led) } := Heap.get?_push_size _ rfl
      have hT : Shared.TypeIs { s with heap := s.heap.push { cls := .type "set", dict := none, data := .set #[] 0 (.fresh 0 0 led) } } (.ref s.heap.objs.size) "set" := ⟨_, hS, rfl⟩
      have f4 := PySem.F.called_set.init.lookup
      have f5 := PySem.F.called_set.init.bind (.ref s.heap.objs.size)
      repeat (any_goals (first | assumption | wp_step))
      refine codeAny_mono (codeAny_call_builtin (R := wants (fun r s₂ => r = .none ∧ Left knd xs s s₂) E) PySem.F.called_set.init.plain PySem.F.entry_set_init (check_set_init_1 hT ?_)) fun r₂ s₂ hr₂ => ?_
      · obtain ⟨ol, hol, hcl, nl, hdl⟩ := hl
        obtain ⟨ocls, odict, odata, oslots⟩ := ol
        simp only at hcl hdl
        subst hcl; subst hdl
        have hol' : (s.heap.push { cls := .type "set", dict := none, data := .set #[] 0 (.fresh 0 0 led) }).get? l = some { cls := .type "list", dict := odict, data := .seq items nl, slots := oslots } := Heap.get?_push_of_some _ hol
        have f6 := PySem.F.sub_list_set
        have f7 := PySem.F.sub_list_frozenset
        have f8 : (Value.type "list" == Value.type "dict") = false := by decide
        have hl1 : (s.heap.push { cls := .type "set", dict := none, data := .set #[] 0 (.fresh 0 0 led) }).IsList l items := ⟨_, hol', rfl, nl, rfl⟩
        unfold Builtin.«set.__init__» noKeywords Builtin.Frozenset.updateFrom
        generalize hPI : pyIter = PI
        wp_walk
        subst hPI
        refine wpAny_pyIter_list hl1 (wpAny_bind (wpAny_runValue ?_))
        have lt : l < s.heap.objs.size := Heap.lt_size hol
        have hh3 : A.in1.in1.in1.handled = none := by simp [hh]
        have neI : l ≠ (s.heap.push { cls := .type "set", dict := none, data := .set #[] 0 (.fresh 0 0 led) }).objs.size := by
          rw [Heap.size_push]; exact Nat.ne_of_lt (Nat.lt_succ_of_lt lt)
        have hSf : s.heap.objs.size ∉ [(s.heap.push { cls := .type "set", dict := none, data := .set #[] 0 (.fresh 0 0 led) }).objs.size, l] := by
          rw [Heap.size_push]; simp only [List.mem_cons, List.mem_singleton, List.not_mem_nil, or_false, not_or]
          exact ⟨Nat.ne_of_lt (Nat.lt_succ_self _), Nat.ne_of_gt lt⟩
        refine loop knd ((Walks.list hh3 _ l neI items).toS) s.heap.objs.size hSf xs hsz hb hi (items.size - 0) 0 _ (by omega) (Nat.zero_le _) ⟨⟨_, Heap.get?_push_size _ rfl, rfl, rfl⟩, (hl1.push _)⟩ ?hS0 ?hR
        case hS0 =>
          have hget : ((s.heap.push { cls := .type "set", dict := none, data := .set #[] 0 (.fresh 0 0 led) }).push { cls := .type "list_iterator", data := .fields #[.ref l, .int 0 0] }).get? s.heap.objs.size
              = some { cls := .type "set", dict := none, data := .set #[] 0 (.fresh 0 0 led) } := Heap.get?_push_of_some _ hS
          exact SetOf_congr ((setObjOf_fresh (knd := knd) led).setOf hget (by unfold scanBound; omega)) (fun _ => rfl) rfl
        case hR =>
          intro s' hm hS'
          obtain ⟨h', g', d', tk', os'⟩ := s'
          have eg : g' = s.gens := hm.gens
          have ed : d' = s.drawn := hm.drawn
          have eo : os' = s.os := hm.os
          subst eg; subst ed; subst eo
          show wpAny _ _ _ _ _ _
          refine wpAny_pure ?_
          show wpAny _ _ (ret Value.none) _ _ _
          refine wpAny_pure ⟨rfl, h', tk', rfl, hS', fun b o hb e => ?_⟩
          have n1 : b ≠ s.heap.objs.size := Nat.ne_of_lt hb
          have n2 : b ≠ (s.heap.push { cls := .type "set", dict := none, data := .set #[] 0 (.fresh 0 0 led) }).objs.size := by
            rw [Heap.size_push]; exact Nat.ne_of_lt (Nat.lt_succ_of_lt hb)
          exact hm.heap b o (by simp only [List.mem_cons, List.mem_singleton, List.not_mem_nil, or_false, not_or]; exact ⟨n1, n2⟩) (Heap.get?_push_of_some _ (Heap.get?_push_of_some _ e))
      · cases r₂ with
        | error e => exact hr₂
        | ok fl₂ =>
          cases fl₂ with
          | next => exact hr₂.elim
          | brk => exact hr₂.elim
          | cont => exact hr₂.elim
          | ret r =>
            obtain ⟨rfl, h', tk, rfl, hS', hk'⟩ := hr₂
            repeat (any_goals (first | assumption | wp_step))
            exact h _ ⟨h', tk, rfl, hS', hk'⟩
end
theorem strs_at : ∀ {xs : List Str} {us : List Value}, Vals (xs.map V.str) us → ∀ (i : Nat) (v : Value), us[i]? = some v → ∃ x t, xs[i]? = some x ∧ v = .str x t
  | [], _, .nil, i, v, h => by simp at h
  | x :: xs, _, .cons r t, 0, v, h => by
    obtain ⟨k, rfl⟩ := r
    exact ⟨x, k, rfl, (Option.some.inj h).symm⟩
  | x :: xs, _, .cons r t, i + 1, v, h => by
    simp only [List.getElem?_cons_succ] at h ⊢
    exact strs_at t i v h
def tLen (ta : TE) : TE := fun σ H Q => ta σ H fun x H1 => ∃ (l : Addr) (xs : List Str), x = .ref l ∧ H1 l = some (.lst (xs.map V.str)) ∧ xs.length ≤ 4000 ∧ Q (.int ((dd xs).length : Nat)) H1
theorem pe_len {X : Cx} {a : Expr} {ta : TE} {p p2 q pos : Pos} (hg : Gl X "len") (hm : X.mg "len" = none) (hg2 : Gl X "set") (hm2 : X.mg "set" = none) (ha : PE X a ta) (hc : X.calm = true := by rfl)
    (na : starEach [a] X.env = (false, eval a X.env) :: starEach [] X.env := by rfl) : PE X (.Call (.Name "len" p) [.Call (.Name "set" p2) [a] [] q] [] pos) (tLen ta) := by
  refine ⟨fun pins s σ H Q I h => ?_⟩
  refine Call_ (ld_blt I hg hm boot_len (PyProof.Rows.callWith_builtin1 (PyProof.Rows.args_cons ?_ rfl) rfl rfl))
  refine Call_ (ld_blt I hg2 hm2 boot_set (PyProof.Rows.callWith_type1 (PyProof.Rows.args_cons (thn (ha.run pins s σ H _ I h) fun v s1 ⟨x, H1, I1, r1, q1⟩ => PyProof.Rows.args_nil ?_) na) na rfl))
  obtain ⟨l, xs, rfl, hq, hl, q1⟩ := q1
  cases r1
  obtain ⟨its, r, pl, hz⟩ := I1.list (SqL.of hq)
  have e : xs.length = its.toArray.size := by rw [List.size_toArray, ← r.length, List.length_map]
  refine call_list (PySem.strKind X.prog X.w) (I1.ok.hd hc) pl.isList (xs := xs) e (by rw [← e]; unfold scanBound; omega) (fun i v hv => ?_) fun s₂ ⟨h', tk, e2, hS, hk⟩ => ?_
  · obtain ⟨x, t, h1, rfl⟩ := strs_at r i v (by rw [← Array.getElem?_toList] at hv; exact hv)
    exact ⟨x, h1, strKind_is _ _ _ _, rfl⟩
  · subst e2
    refine PyProof.Rows.args_nil ?_
    obtain ⟨o, es, ep, t, ho, hex, hd, _, _, _, hf, hn⟩ := hS
    have I2 : Inv X pins σ H1 { s1 with heap := h', toks := tk } := I1.kept fun b o e => hk b o (Heap.lt_size e) e
    have z := dd_le xs
    exact call_len_set ho hex hd hf (by rw [hn] <;> omega) ⟨.int (dd xs).length, H1, I2.tok _, ⟨_, by rw [hn]⟩, q1⟩
end SetK

/-! The judgements over data: what lists, texts, dicts and the built-in do. -/
namespace Lp
open PySem PySem.Spec PyProof.Rows L2
/-! ### data that may be compared -/
open PySem.W in
class En (α : Type) [DecidableEq α] extends PySem.W.Datum α where
  enc : α → D
  dp : ∀ {G : Glb} {I H : Hp} {v : V} {x : α}, RdS I H → Rep G I v (enc x) → Dp G.K H v (toD x)
abbrev en {α : Type} [DecidableEq α] [En α] : α → D := En.enc
instance : En Int where
  enc := .int
  dp _ h := by cases h; exact .int _
instance : En Str where
  enc := .str
  dp _ h := by cases h; exact .str _
instance : En Bool where
  enc := .bl
  dp _ h := by cases h; exact .bl _
theorem dps_of {α : Type} [DecidableEq α] [En α] {G : Glb} {I H : Hp} (r : RdS I H) : ∀ {vs : List V} {xs : List α}, Reps G I vs (xs.map En.enc) → DpAll G.K H vs (xs.map PySem.W.Datum.toD)
  | _, [], .nil => .nil
  | _, _ :: _, .cons a b => .cons (En.dp r a) (dps_of r b)
instance {α : Type} [DecidableEq α] [En α] : En (List α) where
  enc xs := .lst (xs.map En.enc)
  dp r h := by
    cases h with
    | lst a b => exact .lst (SqL.of (r.lst a)) (dps_of r b)
instance {α β : Type} [DecidableEq α] [En α] [DecidableEq β] [En β] : En (α × β) where
  enc p := .tup [En.enc p.1, En.enc p.2]
  dp r h := by
    cases h with
    | tup a b =>
      cases b with
      | cons c d =>
        cases d with
        | cons e f =>
          cases f
          exact .tup (SqT.of (r.tup a)) (.cons (En.dp r c) (.cons (En.dp r e) .nil))
def rEqP (K : PySem.W.Frag) : R2 := fun x y H Q => ∃ d e, Dp K H x d ∧ Dp K H y e ∧ d.plain = true ∧ e.plain = true ∧ d.depth ≤ 64 ∧ Q (.bl (PyData.eqv d e)) H
def rNeP (K : PySem.W.Frag) : R2 := fun x y H Q => ∃ d e, Dp K H x d ∧ Dp K H y e ∧ d.plain = true ∧ e.plain = true ∧ d.depth ≤ 64 ∧ Q (.bl (!PyData.eqv d e)) H
theorem op_eqP {X : Cx} (hu : X.A.units + 64 < cLine) : OpR X (compareOp .Eq) (rEqP X.K) := by
  intro pins s σ H x y v u Q I rx ry h
  obtain ⟨d, e, hd, he, pd, pe, l, q⟩ := h
  obtain ⟨as, r1⟩ := Dp.reads I d x v hd rx
  obtain ⟨bs, r2⟩ := Dp.reads I e y u he ry
  exact PySem.SeqAt.eq_plain r1 r2 pd pe (by have := Nat.min_le_left d.depth e.depth; omega) ⟨.bl _, H, I, rfl, q⟩
theorem op_neP {X : Cx} (hu : X.A.units + 64 < cLine) : OpR X (compareOp .NotEq) (rNeP X.K) := by
  intro pins s σ H x y v u Q I rx ry h
  obtain ⟨d, e, hd, he, pd, pe, l, q⟩ := h
  obtain ⟨as, r1⟩ := Dp.reads I d x v hd rx
  obtain ⟨bs, r2⟩ := Dp.reads I e y u he ry
  exact PySem.SeqAt.ne_plain r1 r2 pd pe (by have := Nat.min_le_left d.depth e.depth; omega) ⟨.bl _, H, I, rfl, q⟩
theorem units_of {k : Nat} {A : Around} (hr : Room k A) : A.units + 64 < cLine := Nat.lt_of_le_of_lt (Nat.le_refl _) hr.units
section
variable {G : Glb}
theorem r2_eqX {α : Type} [DecidableEq α] [En α] (hd : PySem.W.Datum.depth α ≤ 64) {x y : α} : R2D G (rEqP G.K) (en x) (en y) (.im (.bl (decide (x = y)))) := fun I H v w Q r h1 h2 k =>
  ⟨_, _, En.dp r h1, En.dp r h2, PySem.W.Datum.plain x, PySem.W.Datum.plain y, Nat.le_trans (PySem.W.Datum.depth_le x) hd, by rw [PySem.W.Datum.eqv]; exact k _ I H (Step.refl r) (.bl _)⟩
theorem r2_neX {α : Type} [DecidableEq α] [En α] (hd : PySem.W.Datum.depth α ≤ 64) {x y : α} : R2D G (rNeP G.K) (en x) (en y) (.im (.bl (!decide (x = y)))) := fun I H v w Q r h1 h2 k =>
  ⟨_, _, En.dp r h1, En.dp r h2, PySem.W.Datum.plain x, PySem.W.Datum.plain y, Nat.le_trans (PySem.W.Datum.depth_le x) hd, by rw [PySem.W.Datum.eqv]; exact k _ I H (Step.refl r) (.bl _)⟩
theorem at_reps {I : Hp} {vs : List V} {ds : List D} {i : Int} {d : D} (r : Reps G I vs ds) (h : atI ds i = some d) : ∃ v, atI vs i = some v ∧ Rep G I v d := by
  unfold atI at h ⊢
  rw [r.len]
  cases e : ixN ds.length i with
  | none => rw [e] at h; cases h
  | some j =>
    rw [e] at h
    obtain ⟨v, h1, h2⟩ := r.get' (show ds[j]? = some d from h)
    exact ⟨v, h1, h2⟩
theorem r2_ixL {xs : List D} {i : Int} {d : D} (h : atI xs i = some d) : R2D G (rIxL G.K) (.lst xs) (.int i) (.im d) := fun I H v w Q r h1 h2 k => by
  cases h2
  cases h1 with
  | lst a b =>
    obtain ⟨u, e1, e2⟩ := at_reps b h
    exact ⟨_, _, i, u, rfl, rfl, SqL.of (r.lst a), e1, k _ I H (Step.refl r) e2⟩
theorem r2_ixT {xs : List D} {i : Int} {d : D} (h : atI xs i = some d) : R2D G (rIxT G.K) (.tup xs) (.int i) (.im d) := fun I H v w Q r h1 h2 k => by
  cases h2
  cases h1 with
  | tup a b =>
    obtain ⟨u, e1, e2⟩ := at_reps b h
    exact ⟨_, _, i, u, rfl, rfl, SqT.of (r.tup a), e1, k _ I H (Step.refl r) e2⟩
theorem r2_ixS {z : Str} {i : Int} {c : Nat} (hl : z.length ≤ sizeLine) (h : atI z.cps.toList i = some c) : R2D G rIxS (.str z) (.int i) (.im (.str ⟨#[c]⟩)) := fun I H v w Q r h1 h2 k => by
  cases h1; cases h2
  exact ⟨z, i, c, rfl, rfl, hl, h, k _ I H (Step.refl r) (.str _)⟩
theorem inV_strs (x : Str) (ns : List Str) : inV (.str x) (ns.map V.str) = decide (x ∈ ns) := by
  unfold inV
  rw [List.any_map, Bool.eq_iff_iff, List.any_eq_true, decide_eq_true_eq]
  constructor
  · rintro ⟨y, h1, h2⟩
    have e : y = x := eq_of_beq (show (y == x) = true from h2)
    rw [← e]; exact h1
  · intro h
    exact ⟨x, h, show (x == x) = true from beq_self_eq_true x⟩
theorem flat_strs (ns : List Str) : (ns.map V.str).all flatV = true := by
  rw [List.all_map, List.all_eq_true]
  intro x _
  rfl
theorem r2_inS {x : Str} {ns : List Str} : R2D G (rIn G.K false) (.str x) (.lst (ns.map .str)) (.im (.bl (decide (x ∈ ns)))) := fun I H v w Q r h1 h2 k => by
  cases h1
  cases h2 with
  | lst a b =>
    obtain rfl := b.strs
    exact ⟨_, _, rfl, .inl (SqL.of (r.lst a)), rfl, flat_strs ns, by rw [if_neg Bool.false_ne_true, inV_strs]; exact k _ I H (Step.refl r) (.bl _)⟩
theorem r2_niS {x : Str} {ns : List Str} : R2D G (rIn G.K true) (.str x) (.lst (ns.map .str)) (.im (.bl (!decide (x ∈ ns)))) := fun I H v w Q r h1 h2 k => by
  cases h1
  cases h2 with
  | lst a b =>
    obtain rfl := b.strs
    exact ⟨_, _, rfl, .inl (SqL.of (r.lst a)), rfl, flat_strs ns, by rw [if_pos rfl, inV_strs]; exact k _ I H (Step.refl r) (.bl _)⟩
theorem r2_cat {xs ys : List D} (hl : xs.length + ys.length ≤ 100000) : R2D G rCat (.lst xs) (.lst ys) (.own (xs ++ ys)) := fun I H v w Q r h1 h2 k => by
  cases h1 with
  | lst a b =>
    cases h2 with
    | lst c d =>
      refine ⟨_, _, _, _, rfl, rfl, r.lst a, r.lst c, by rw [b.len, d.len]; exact Nat.le_trans hl (by decide), fun p hp => ?_⟩
      exact k _ I _ (Step.newOwn r hp) ⟨p, _, rfl, hp, r.free hp, upd_same, b.app d⟩
/-- texts by signs -/
theorem r2_inC {c : Nat} {z : Str} : R2D G (fun x y H Q => ∃ (c : Nat) (z : Str), x = .str ⟨#[c]⟩ ∧ y = .str z ∧ Q (.bl (decide (c ∈ z.cps.toList))) H) (.str ⟨#[c]⟩) (.str z) (.im (.bl (decide (c ∈ z.cps.toList)))) := fun I H v w Q r h1 h2 k => by
  cases h1; cases h2
  exact ⟨c, z, rfl, rfl, k _ I H (Step.refl r) (.bl _)⟩
def rMulS : R2 := fun x y H Q => ∃ z n, x = .str z ∧ y = .int n ∧ PySem.MulOk z n ∧ Q (.str (PySem.Txt.mul z n)) H
theorem op_mulS {X : Cx} : OpR X (binaryOp .Mult) rMulS := by
  intro pins s σ H x y v u Q I rx ry h
  obtain ⟨z, n, rfl, rfl, ok, q⟩ := h
  obtain ⟨t, rfl⟩ := rx
  obtain ⟨t', rfl⟩ := ry
  exact PySem.SB.mul ok fun t'' k => ⟨.str _, H, I.tok _, ⟨_, rfl⟩, q⟩
theorem r2_mulS {z : Str} {n : Int} (h : PySem.MulOk z n) : R2D G rMulS (.str z) (.int n) (.im (.str (PySem.Txt.mul z n))) := fun I H v w Q r h1 h2 k => by
  cases h1; cases h2
  exact ⟨z, n, rfl, rfl, h, k _ I H (Step.refl r) (.str _)⟩
end
section
variable {X : Cx} {T : List NdefX.NTab} {W : WX} {U : Bool} {ds : List DS} {s : DS} {E : DEn}
theorem dv_ix {a b : Expr} {pos : Pos} {r : R2} {x y : D} (ho : IxR X r) (hr : R2D (gx X T) r x y s) (ha : DE X T U a ds x) (hb : DE X T U b ds y) (hp : PlainIx b := by intro _ _; rfl) : DV X T U (.Subscript a b pos) ds s :=
  (pe_ix ho ha hb hp).weak fun _ _ _ h => op_run hr h
section
variable {a b : Expr} {pos : Pos} {i : Int} {d : D} {xs ys : List D} {z x : Str} {ns : List Str}
theorem de_ixL (ha : DE X T U a ds (.lst xs)) (hb : DE X T U b ds (.int i)) (h : atI xs i = some d) (hp : PlainIx b := by intro _ _; rfl) : DE X T U (.Subscript a b pos) ds d := dv_ix ix_list (r2_ixL h) ha hb hp
theorem de_ixT (ha : DE X T U a ds (.tup xs)) (hb : DE X T U b ds (.int i)) (h : atI xs i = some d) (hp : PlainIx b := by intro _ _; rfl) : DE X T U (.Subscript a b pos) ds d := dv_ix ix_tup (r2_ixT h) ha hb hp
theorem de_ixS {c : Nat} (ha : DE X T U a ds (.str z)) (hb : DE X T U b ds (.int i)) (hl : z.length ≤ sizeLine) (h : atI z.cps.toList i = some c) (hp : PlainIx b := by intro _ _; rfl) : DE X T U (.Subscript a b pos) ds (.str ⟨#[c]⟩) := dv_ix ix_str (r2_ixS hl h) ha hb hp
theorem dt_inS (ha : DE X T U a ds (.str x)) (hb : DE X T U b ds (.lst (ns.map .str))) (hn : behindInMarks .In b = false := by rfl) : DT X T U (.Compare a [.In] [b] pos) ds (decide (x ∈ ns)) := dt_cmp op_in_seq r2_inS ha hb hn
theorem dt_niS (ha : DE X T U a ds (.str x)) (hb : DE X T U b ds (.lst (ns.map .str))) (hn : behindInMarks .NotIn b = false := by rfl) : DT X T U (.Compare a [.NotIn] [b] pos) ds (!decide (x ∈ ns)) := dt_cmp op_notIn_seq r2_niS ha hb hn
theorem de_inS (ha : DE X T U a ds (.str x)) (hb : DE X T U b ds (.lst (ns.map .str))) (hn : behindInMarks .In b = false := by rfl) : DE X T U (.Compare a [.In] [b] pos) ds (.bl (decide (x ∈ ns))) := dv_cmp op_in_seq r2_inS ha hb hn
theorem de_inC {c : Nat} (ha : DE X T U a ds (.str ⟨#[c]⟩)) (hb : DE X T U b ds (.str z)) (hn : behindInMarks .In b = false := by rfl) : DE X T U (.Compare a [.In] [b] pos) ds (.bl (decide (c ∈ z.cps.toList))) := dv_cmp op_in_sign r2_inC ha hb hn
theorem dt_eqX {α : Type} [DecidableEq α] [En α] {x y : α} (ha : DE X T U a ds (en x)) (hb : DE X T U b ds (en y)) (hu : X.A.units + 64 < cLine) (hd : PySem.W.Datum.depth α ≤ 64 := by decide) : DT X T U (.Compare a [.Eq] [b] pos) ds (decide (x = y)) := dt_cmp (op_eqP hu) (r2_eqX hd) ha hb
theorem dt_neX {α : Type} [DecidableEq α] [En α] {x y : α} (ha : DE X T U a ds (en x)) (hb : DE X T U b ds (en y)) (hu : X.A.units + 64 < cLine) (hd : PySem.W.Datum.depth α ≤ 64 := by decide) : DT X T U (.Compare a [.NotEq] [b] pos) ds (!decide (x = y)) := dt_cmp (op_neP hu) (r2_neX hd) ha hb
theorem de_eqX {α : Type} [DecidableEq α] [En α] {x y : α} (ha : DE X T U a ds (en x)) (hb : DE X T U b ds (en y)) (hu : X.A.units + 64 < cLine) (hd : PySem.W.Datum.depth α ≤ 64 := by decide) : DE X T U (.Compare a [.Eq] [b] pos) ds (.bl (decide (x = y))) := dv_cmp (op_eqP hu) (r2_eqX hd) ha hb
theorem dt_isN {j : Nat} {p : Pos} {d : D} {c : Bool} (ha : DE X T U a ds d) (hc : ∀ (G : Glb) (I : Hp) (v : V), Rep G I v d → decide (v = .non) = c) : DT X T U (.Compare a [.Is] [.Constant .none j p] pos) ds c :=
  (pt_cmp (pc_isN ha)).weak fun σ H Q ⟨I0, H0, I, en, k⟩ => ⟨I0, H0, I, en, fun v I' H' st r => ⟨c, by rw [hc _ _ _ r], k I' H' st⟩⟩
theorem dt_notN {j : Nat} {p : Pos} {d : D} {c : Bool} (ha : DE X T U a ds d) (hc : ∀ (G : Glb) (I : Hp) (v : V), Rep G I v d → decide (v = .non) = c) : DT X T U (.Compare a [.IsNot] [.Constant .none j p] pos) ds (!c) :=
  (pt_cmp (pc_notN ha)).weak fun σ H Q ⟨I0, H0, I, en, k⟩ => ⟨I0, H0, I, en, fun v I' H' st r => ⟨!c, by rw [hc _ _ _ r], k I' H' st⟩⟩
theorem dv_cat (ha : DE X T U a ds (.lst xs)) (hb : DE X T U b ds (.lst ys)) (hl : xs.length + ys.length ≤ 100000) : DV X T U (.BinOp a .Add b pos) ds (.own (xs ++ ys)) := dv_op op_cat (r2_cat hl) ha hb
theorem de_mulS {n : Int} (ha : DE X T U a ds (.str z)) (hb : DE X T U b ds (.int n)) (h : PySem.MulOk z n) : DE X T U (.BinOp a .Mult b pos) ds (.str (PySem.Txt.mul z n)) := dv_op op_mulS (r2_mulS h) ha hb
end
end
end Lp

/-! The judgements over data: slices, calls of the built-in, dicts, several targets at once. -/
namespace Lp
open PySem PySem.Spec PyProof.Rows L2
def cutG {α : Type} (xs : List α) (lo hi : Option Int) : List α := (xs.drop (HT.sIx xs.length 0 lo)).take (HT.sIx xs.length xs.length hi - HT.sIx xs.length 0 lo)
section
variable {X : Cx} {T : List NdefX.NTab} {W : WX} {U : Bool} {ds : List DS} {s : DS} {E : DEn}
/-! ### slices -/
theorem do_none : DO X T U none ds none := by
  have h : PO X none tNoPart := po_none
  exact ⟨fun pins s σ H Q I ⟨I0, H0, I1, en, k⟩ => h.run pins s σ H Q I (k I1 H (Step.refl en.sub))⟩
theorem do_some {e : Expr} {i : Int} (h : DE X T U e ds (.int i)) : DO X T U (some e) ds (some i) := by
  have q := po_some h
  exact ⟨fun pins s σ H Q I ⟨I0, H0, I1, en, k⟩ => q.run pins s σ H Q I ⟨I0, H0, I1, en, fun v I2 H2 s2 r2 => by
    cases r2
    exact ⟨i, rfl, k I2 H2 s2⟩⟩⟩
theorem dv_slL {e : Expr} {lo hi : Option Expr} {pos p2 : Pos} {xs : List D} {l u : Option Int} (he : DE X T U e ds (.lst xs)) (hl : DO X T U lo ds l) (hh : DO X T U hi ds u) : DV X T U (.Subscript e (.Slice lo hi none p2) pos) ds (.own (cutG xs l u)) :=
  (pe_slice sl_list he hl hh).weak fun σ H Q ⟨I0, H0, I, en, k⟩ => ⟨I0, H0, I, en, fun v I1 H1 s1 r1 => ⟨I0, H0, I1, en.step s1, fun I2 H2 s2 => ⟨I0, H0, I2, (en.step s1).step s2, fun I3 H3 s3 => by
    cases r1 with
    | @lst p vs _ a b =>
      have s4 := (s1.trans s2).trans s3
      have s5 := s2.trans s3
      refine ⟨p, vs, rfl, SqL.of (s3.sub.lst (s5.isub _ _ a)), fun q hq => ?_⟩
      refine k _ I3 _ (s4.trans (Step.newOwn s3.sub hq)) ⟨q, _, rfl, s4.free hq, s3.sub.free hq, upd_same, ?_⟩
      show Reps _ I3 (cutV vs l u) (cutG xs l u)
      unfold cutV cutG
      rw [b.len]
      exact ((b.mono s5.isub).drop _).take _⟩⟩⟩
theorem de_slS {e : Expr} {lo hi : Option Expr} {pos p2 : Pos} {z : Str} {l u : Option Int} (he : DE X T U e ds (.str z)) (hl : DO X T U lo ds l) (hh : DO X T U hi ds u) (hz : z.length ≤ sizeLine) : DE X T U (.Subscript e (.Slice lo hi none p2) pos) ds (.str (cutS z l u)) :=
  (pe_slice sl_str he hl hh).weak fun σ H Q ⟨I0, H0, I, en, k⟩ => ⟨I0, H0, I, en, fun v I1 H1 s1 r1 => ⟨I0, H0, I1, en.step s1, fun I2 H2 s2 => ⟨I0, H0, I2, (en.step s1).step s2, fun I3 H3 s3 => by
    cases r1
    exact ⟨z, rfl, hz, k _ I3 H3 ((s1.trans s2).trans s3) (.str _)⟩⟩⟩⟩
/-! ### calls of the built-in -/
section
variable {G : Glb}
theorem rc_lenL {xs : List D} : RCD G (fun vs H Q => ∃ x n, vs = [x] ∧ LenV G.K x H n ∧ Q (.int n) H) [.lst xs] (.im (.int (xs.length : Int))) := fun I H vs Q r h k => by
  cases h with
  | cons a b =>
    cases b
    cases a with
    | @lst p ws _ a b => exact ⟨_, ws.length, rfl, .inl ⟨ws, SqL.of (r.lst a), rfl⟩, by rw [b.len]; exact k _ I H (Step.refl r) (.int _)⟩
theorem rc_lenT {xs : List D} : RCD G (fun vs H Q => ∃ x n, vs = [x] ∧ LenV G.K x H n ∧ Q (.int n) H) [.tup xs] (.im (.int (xs.length : Int))) := fun I H vs Q r h k => by
  cases h with
  | cons a b =>
    cases b
    cases a with
    | @tup p ws _ a b => exact ⟨_, ws.length, rfl, .inr ⟨ws, SqT.of (r.tup a), rfl⟩, by rw [b.len]; exact k _ I H (Step.refl r) (.int _)⟩
theorem rc_lenS {z : Str} (hz : z.length ≤ sizeLine) : RCD G (fun vs H Q => ∃ x n, vs = [x] ∧ LenV G.K x H n ∧ Q (.int n) H) [.str z] (.im (.int (z.length : Int))) := fun I H vs Q r h k => by
  cases h with
  | cons a b =>
    cases b
    cases a
    exact ⟨_, z.length, rfl, ⟨hz, rfl⟩, k _ I H (Step.refl r) (.int _)⟩
theorem rc_abs {i : Int} : RCD G (fun xs H Q => ∃ i, xs = [.int i] ∧ Q (.int (if i < 0 then -i else i)) H) [.int i] (.im (.int (if i < 0 then -i else i))) := fun I H vs Q r h k => by
  cases h with
  | cons a b =>
    cases b; cases a
    exact ⟨i, rfl, k _ I H (Step.refl r) (.int _)⟩
theorem rc_max {i j : Int} : RCD G (fun xs H Q => ∃ i j, xs = [.int i, .int j] ∧ Q (.int (if j > i then j else i)) H) [.int i, .int j] (.im (.int (if j > i then j else i))) := fun I H vs Q r h k => by
  cases h with
  | cons a b =>
    cases a
    cases b with
    | cons a b =>
      cases a; cases b
      exact ⟨i, j, rfl, k _ I H (Step.refl r) (.int _)⟩
theorem rc_min {i j : Int} : RCD G (fun xs H Q => ∃ i j, xs = [.int i, .int j] ∧ Q (.int (if j < i then j else i)) H) [.int i, .int j] (.im (.int (if j < i then j else i))) := fun I H vs Q r h k => by
  cases h with
  | cons a b =>
    cases a
    cases b with
    | cons a b =>
      cases a; cases b
      exact ⟨i, j, rfl, k _ I H (Step.refl r) (.int _)⟩
theorem rc_sum {ns : List Int} : RCD G (rSum G.K) [.lst (ns.map .int)] (.im (.int ns.sum)) := fun I H vs Q r h k => by
  cases h with
  | cons a b =>
    cases b
    cases a with
    | lst a b =>
      obtain rfl := b.ints
      exact ⟨_, ns, rfl, SqL.of (r.lst a), k _ I H (Step.refl r) (.int _)⟩
theorem rc_all {bs : List Bool} : RCD G (rAll G.K) [.lst (bs.map .bl)] (.im (.bl (bs.all id))) := fun I H vs Q r h k => by
  cases h with
  | cons a b =>
    cases b
    cases a with
    | lst a b =>
      obtain rfl := b.bls
      exact ⟨_, bs, rfl, SqL.of (r.lst a), k _ I H (Step.refl r) (.bl _)⟩
theorem rc_any {bs : List Bool} : RCD G (rAny G.K) [.lst (bs.map .bl)] (.im (.bl (bs.any id))) := fun I H vs Q r h k => by
  cases h with
  | cons a b =>
    cases b
    cases a with
    | lst a b =>
      obtain rfl := b.bls
      exact ⟨_, bs, rfl, SqL.of (r.lst a), k _ I H (Step.refl r) (.bl _)⟩
def rListOf (K : PySem.W.Frag) : List V → Hp → VK → Prop := fun xs H Q => ∃ p ys, xs = [.ref p] ∧ (SqL K H p ys ∨ SqT K H p ys) ∧ ∀ l, H l = none → Q (.ref l) (upd H l (.lst ys))
theorem rc_list {xs : List D} : RCD G (rListOf G.K) [.lst xs] (.own xs) := fun I H vs Q r h k => by
  cases h with
  | cons a b =>
    cases b
    cases a with
    | @lst p ws _ a b => exact ⟨p, ws, rfl, .inl (SqL.of (r.lst a)), fun l hl => k _ I _ (Step.newOwn r hl) ⟨l, ws, rfl, hl, r.free hl, upd_same, b⟩⟩
end
section
variable {e a b : Expr} {p pos : Pos} {xs : List D} {i j : Int} {z : Str} {ns : List Int} {bs : List Bool}
theorem de_lenL (ha : DE X T U e ds (.lst xs)) (hg : Gl X "len") (hm : X.mg "len" = none) (he : starEach [e] X.env = (false, eval e X.env) :: starEach [] X.env := by rfl) : DE X T U (.Call (.Name "len" p) [e] [] pos) ds (.int (xs.length : Int)) :=
  dv_callB call_len rc_lenL hg hm boot_len (da_cons ha da_nil he) (by decide) (by decide) he
theorem de_lenT (ha : DE X T U e ds (.tup xs)) (hg : Gl X "len") (hm : X.mg "len" = none) (he : starEach [e] X.env = (false, eval e X.env) :: starEach [] X.env := by rfl) : DE X T U (.Call (.Name "len" p) [e] [] pos) ds (.int (xs.length : Int)) :=
  dv_callB call_len rc_lenT hg hm boot_len (da_cons ha da_nil he) (by decide) (by decide) he
theorem de_lenS (ha : DE X T U e ds (.str z)) (hz : z.length ≤ sizeLine) (hg : Gl X "len") (hm : X.mg "len" = none) (he : starEach [e] X.env = (false, eval e X.env) :: starEach [] X.env := by rfl) : DE X T U (.Call (.Name "len" p) [e] [] pos) ds (.int (z.length : Int)) :=
  dv_callB call_len (rc_lenS hz) hg hm boot_len (da_cons ha da_nil he) (by decide) (by decide) he
theorem de_abs (ha : DE X T U e ds (.int i)) (hg : Gl X "abs") (hm : X.mg "abs" = none) (he : starEach [e] X.env = (false, eval e X.env) :: starEach [] X.env := by rfl) : DE X T U (.Call (.Name "abs" p) [e] [] pos) ds (.int (if i < 0 then -i else i)) :=
  dv_callB call_abs rc_abs hg hm (by decide +kernel) (da_cons ha da_nil he) (by decide) (by decide) he
theorem de_sum (ha : DE X T U e ds (.lst (ns.map .int))) (hg : Gl X "sum") (hm : X.mg "sum" = none) (he : starEach [e] X.env = (false, eval e X.env) :: starEach [] X.env := by rfl) (hc : X.calm = true := by rfl) : DE X T U (.Call (.Name "sum" p) [e] [] pos) ds (.int ns.sum) :=
  dv_callB (cr_sum hc) rc_sum hg hm (by decide +kernel) (da_cons ha da_nil he) (by decide) (by decide) he
theorem de_all (ha : DE X T U e ds (.lst (bs.map .bl))) (hg : Gl X "all") (hm : X.mg "all" = none) (he : starEach [e] X.env = (false, eval e X.env) :: starEach [] X.env := by rfl) (hc : X.calm = true := by rfl) : DE X T U (.Call (.Name "all" p) [e] [] pos) ds (.bl (bs.all id)) :=
  dv_callB (cr_all hc) rc_all hg hm (by decide +kernel) (da_cons ha da_nil he) (by decide) (by decide) he
theorem de_any (ha : DE X T U e ds (.lst (bs.map .bl))) (hg : Gl X "any") (hm : X.mg "any" = none) (he : starEach [e] X.env = (false, eval e X.env) :: starEach [] X.env := by rfl) (hc : X.calm = true := by rfl) : DE X T U (.Call (.Name "any" p) [e] [] pos) ds (.bl (bs.any id)) :=
  dv_callB (cr_any hc) rc_any hg hm (by decide +kernel) (da_cons ha da_nil he) (by decide) (by decide) he
theorem dv_list (ha : DE X T U e ds (.lst xs)) (hg : Gl X "list") (hm : X.mg "list" = none) (he : starEach [e] X.env = (false, eval e X.env) :: starEach [] X.env := by rfl) : DV X T U (.Call (.Name "list" p) [e] [] pos) ds (.own xs) :=
  dv_callTy call_list_of rc_list hg hm (by decide +kernel) (da_cons ha da_nil he) (by decide) (by decide) he
theorem de_max (ha : DE X T U a ds (.int i)) (hb : DE X T U b ds (.int j)) (hg : Gl X "max") (hm : X.mg "max" = none) (he : starEach [a, b] X.env = (false, eval a X.env) :: starEach [b] X.env := by rfl) (he2 : starEach [b] X.env = (false, eval b X.env) :: starEach [] X.env := by rfl)
    (hpl : (backTo pos (starEach [b] X.env)).any (·.1) = false := by rfl) (hc : X.calm = true := by rfl) : DE X T U (.Call (.Name "max" p) [a, b] [] pos) ds (.int (if j > i then j else i)) :=
  dv_callB (call_max2 hc) rc_max hg hm (by decide +kernel) (da_cons ha (da_cons hb da_nil he2) he) (by decide) (by decide) he hpl
theorem de_min (ha : DE X T U a ds (.int i)) (hb : DE X T U b ds (.int j)) (hg : Gl X "min") (hm : X.mg "min" = none) (he : starEach [a, b] X.env = (false, eval a X.env) :: starEach [b] X.env := by rfl) (he2 : starEach [b] X.env = (false, eval b X.env) :: starEach [] X.env := by rfl)
    (hpl : (backTo pos (starEach [b] X.env)).any (·.1) = false := by rfl) (hc : X.calm = true := by rfl) : DE X T U (.Call (.Name "min" p) [a, b] [] pos) ds (.int (if j < i then j else i)) :=
  dv_callB (call_min2 hc) rc_min hg hm (by decide +kernel) (da_cons ha (da_cons hb da_nil he2) he) (by decide) (by decide) he hpl
/-- len(set(names)) -/
theorem de_lenSet {p2 q : Pos} {ns : List Str} (ha : DE X T U e ds (.lst (ns.map .str))) (hl : ns.length ≤ 4000) (hg : Gl X "len") (hm : X.mg "len" = none) (hg2 : Gl X "set") (hm2 : X.mg "set" = none) (hc : X.calm = true := by rfl) (na : starEach [e] X.env = (false, eval e X.env) :: starEach [] X.env := by rfl) :
    DE X T U (.Call (.Name "len" p) [.Call (.Name "set" p2) [e] [] q] [] pos) ds (.int ((SetK.dd ns).length : Nat)) :=
  (SetK.pe_len hg hm hg2 hm2 ha hc na).weak fun σ H Q ⟨I0, H0, I, en, k⟩ => ⟨I0, H0, I, en, fun v I1 H1 s1 r1 => by
    cases r1 with
    | lst a b =>
      obtain rfl := b.strs
      exact ⟨_, ns, rfl, s1.sub.lst a, hl, k _ I1 H1 s1 (.int _)⟩⟩
end
/-! ### isinstance -/
def tyD : D → String
  | .non => "NoneType"
  | .bl _ => "bool"
  | .int _ => "int"
  | .str _ => "str"
  | .lst _ => "list"
  | .tup _ => "tuple"
  | _ => "?"
theorem tyX_of {G : Glb} {I H : Hp} {v : V} (r : RdS I H) : ∀ {d : D}, tyD d ≠ "?" → Rep G I v d → TyX G.K H v (.type (tyD d))
  | .non, _, h => by cases h; exact .base .non
  | .bl _, _, h => by cases h; exact .base (.bl _)
  | .int _, _, h => by cases h; exact .base (.int _)
  | .str _, _, h => by cases h; exact .base (.str _)
  | .lst _, _, h => by
    cases h with
    | lst a b => exact .base (.lst (r.lst a))
  | .tup _, _, h => by
    cases h with
    | tup a b => exact .base (.tup (r.tup a))
  | .ty _, n, _ => absurd rfl n
  | .dic _, n, _ => absurd rfl n
  | .ins _ _, n, _ => absurd rfl n
  | .fn _ _ _, n, _ => absurd rfl n
  | .any, n, _ => absurd rfl n
  | .cloE _ _, n, _ => absurd rfl n
theorem de_ty {x : Str} {n : String} {pos : Pos} (hg : Gl X x) (hm : X.mg x = none) (hv : bootBuiltins x = some (.type n)) (hn : x ≠ ("__name__" : Str) := by decide) (hd : (x == ("__debug__" : Str)) = false := by decide) : DE X T U (.Name x pos) ds (.ty n) :=
  (pe_bltn (v := .ty n) hg hm hv rfl hn hd).weak fun _ H _ ⟨_, _, I, en, k⟩ => k _ I H (Step.refl en.sub) (.ty n)
theorem de_isi {e : Expr} {x : Str} {n : String} {p pos q : Pos} {d : D} {b : Bool} (ha : DE X T U e ds d) (hb : DE X T U (.Name x q) ds (.ty n)) (ht : tyD d ≠ "?") (hk : kitB (tyD d) n = some b) (hg : Gl X "isinstance") (hm : X.mg "isinstance" = none)
    (he : starEach [e, .Name x q] X.env = (false, eval e X.env) :: starEach [.Name x q] X.env := by rfl) : DE X T U (.Call (.Name "isinstance" p) [e, .Name x q] [] pos) ds (.bl b) := by
  refine dv_callB call_isi (fun I H vs Q r h k => ?_) hg hm (by decide +kernel) (da_cons ha (da_cons hb da_nil) he) (by decide) (by decide) he
  cases h with
  | cons a c =>
    cases c with
    | cons c f =>
      cases f
      cases c
      exact ⟨_, _, _, _, b, rfl, .ty n, tyX_of r ht a, kit_ty hk, k _ I H (Step.refl r) (.bl b)⟩
/-! ### dicts with texts as keys -/
def lookD (kvs : List (Str × D)) (k : Str) : Option D := (kvs.find? fun kv => decide (kv.1 = k)).map (·.2)
def putD (kvs : List (Str × D)) (k : Str) (d : D) : List (Str × D) := if (kvs.any fun kv => decide (kv.1 = k)) = true then kvs.map (fun kv => if kv.1 = k then (kv.1, d) else kv) else kvs ++ [(k, d)]
def dropD (kvs : List (Str × D)) (k : Str) : List (Str × D) := kvs.filter fun kv => decide (kv.1 ≠ k)
section
variable {G : Glb} {I : Hp}
theorem inr_dec (a b : Str) : decide ((Sum.inr a : Key) = Sum.inr b) = decide (a = b) := key_rr a b
theorem look_rep : ∀ {fs : List (Str × V)} {kds : List (Str × D)}, RepF G I fs kds → ∀ (k : Str), match lookD kds k with
    | none => valV (kvK fs) (Sum.inr k) = none
    | some d => ∃ v, valV (kvK fs) (Sum.inr k) = some v ∧ Rep G I v d
  | _, _, .nil, k => rfl
  | _, _, .cons (x := x) (v := v) (d := d) (vs := vs) (ds := r) a b, k => by
    by_cases e : x = k
    · have h1 : lookD ((x, d) :: r) k = some d := by
        unfold lookD
        rw [List.find?_cons, decide_eq_true e]
        rfl
      rw [h1]
      exact ⟨v, valV_pos (by rw [← e]), a⟩
    · have h1 : lookD ((x, d) :: r) k = lookD r k := by
        unfold lookD
        rw [List.find?_cons, decide_eq_false e]
      rw [h1]
      have h2 : valV (kvK ((x, v) :: vs)) (Sum.inr k) = valV (kvK vs) (Sum.inr k) := valV_neg fun z => e (Sum.inr.inj z)
      rw [h2]
      exact look_rep b k
theorem any_rep (k : Str) : ∀ {fs : List (Str × V)} {kds : List (Str × D)}, RepF G I fs kds → ((kvK fs).any fun kv => decide (kv.1 = Sum.inr k)) = kds.any fun kv => decide (kv.1 = k)
  | _, _, .nil => rfl
  | _, _, .cons (x := x) a b => by
    show (decide ((Sum.inr x : Key) = Sum.inr k) || _) = (decide (x = k) || _)
    rw [inr_dec, any_rep k b]
theorem RepF.len : ∀ {fs : List (Str × V)} {kds : List (Str × D)}, RepF G I fs kds → fs.length = kds.length
  | _, _, .nil => rfl
  | _, _, .cons _ b => congrArg (· + 1) b.len
theorem RepF.app : ∀ {fs gs : List (Str × V)} {kds lds : List (Str × D)}, RepF G I fs kds → RepF G I gs lds → RepF G I (fs ++ gs) (kds ++ lds)
  | _, _, _, _, .nil, h => h
  | _, _, _, _, .cons a b, h => .cons a (b.app h)
theorem put_map {k : Str} {v : V} {d : D} (hv : Rep G I v d) : ∀ {fs : List (Str × V)} {kds : List (Str × D)}, RepF G I fs kds → ∃ fs', (kvK fs).map (fun kv => if kv.1 = Sum.inr k then (kv.1, v) else kv) = kvK fs' ∧ RepF G I fs' (kds.map fun kv => if kv.1 = k then (kv.1, d) else kv)
  | _, _, .nil => ⟨[], rfl, .nil⟩
  | _, _, .cons (x := x) (v := v1) (d := d1) a b => by
    obtain ⟨fs', e, r⟩ := put_map hv b
    by_cases h : x = k
    · refine ⟨(x, v) :: fs', ?_, ?_⟩
      · show (if (Sum.inr x : Key) = Sum.inr k then ((Sum.inr x : Key), v) else _) :: _ = _
        rw [if_pos (by rw [h])]
        exact congrArg _ e
      · rw [List.map_cons]
        show RepF G I _ ((if x = k then (x, d) else (x, d1)) :: _)
        rw [if_pos h]
        exact .cons hv r
    · refine ⟨(x, v1) :: fs', ?_, ?_⟩
      · show (if (Sum.inr x : Key) = Sum.inr k then ((Sum.inr x : Key), v) else ((Sum.inr x : Key), v1)) :: _ = _
        rw [if_neg fun z => h (Sum.inr.inj z)]
        exact congrArg _ e
      · rw [List.map_cons]
        show RepF G I _ ((if x = k then (x, d) else (x, d1)) :: _)
        rw [if_neg h]
        exact .cons a r
theorem put_rep {fs : List (Str × V)} {kds : List (Str × D)} {k : Str} {v : V} {d : D} (h : RepF G I fs kds) (hv : Rep G I v d) : ∃ fs', putK (kvK fs) (Sum.inr k) v = kvK fs' ∧ RepF G I fs' (putD kds k d) := by
  unfold putK putD
  rw [any_rep k h]
  by_cases e : (kds.any fun kv => decide (kv.1 = k)) = true
  · rw [if_pos e, if_pos e]
    exact put_map hv h
  · rw [if_neg e, if_neg e]
    exact ⟨fs ++ [(k, v)], (List.map_append (l₁ := fs) (l₂ := [(k, v)])).symm, h.app (.cons hv .nil)⟩
end
section
variable {a b : Expr} {pos : Pos} {k : Str} {kvs : List (Str × D)} {d : D}
theorem dv_newD : DV X T U (.Dict [] [] pos) ds (.ownD []) := pe_dnewK.weak fun σ H Q ⟨I0, H0, I, en, k⟩ => fun p hp =>
  k _ I _ (Step.newOwn en.sub hp) ⟨p, [], rfl, hp, en.sub.free hp, upd_same, .nil⟩
theorem din_run {G : Glb} {f : Option V → Bool} {σ : L2.St} {H : Hp} {Q : VK} {c : Bool} (hc : ∀ o : Option V, o.isSome = (lookD kvs k).isSome → f o = c) (h : eV G U ds (.im (.bl c)) σ H Q) :
    (eV G U ds (.im (.str k))) σ H fun y H1 => (eV G U ds (.im (.dic kvs))) σ H1 fun x H2 => ∃ a o, x = .ref a ∧ DGet H2 a y o ∧ Q (.bl (f o)) H2 := by
  obtain ⟨I0, H0, I, en, kk⟩ := h
  refine ⟨I0, H0, I, en, fun v I1 H1 s1 r1 => ⟨I0, H0, I1, en.step s1, fun w I2 H2 s2 r2 => ?_⟩⟩
  cases r1
  cases r2 with
  | @dic p fs _ e1 e2 =>
    refine ⟨p, valV (kvK fs) (Sum.inr k), rfl, .inl ⟨_, Sum.inr k, s2.sub.dic e1, rfl, rfl⟩, ?_⟩
    have z := look_rep e2 k
    have e : (valV (kvK fs) (Sum.inr k)).isSome = (lookD kvs k).isSome := by
      cases q : lookD kvs k with
      | none =>
        rw [q] at z
        have z2 : valV (kvK fs) (Sum.inr k) = none := z
        rw [z2] <;> rfl
      | some d =>
        rw [q] at z
        obtain ⟨v, z1, _⟩ := z
        rw [z1] <;> rfl
    rw [hc _ e]
    exact kk _ I2 H2 (s1.trans s2) (.bl c)
theorem dt_inD (ha : DE X T U a ds (.str k)) (hb : DE X T U b ds (.dic kvs)) (hu : X.A.units + 1 < cLine) (hn : behindInMarks .In b = false := by rfl) : DT X T U (.Compare a [.In] [b] pos) ds (lookD kvs k).isSome :=
  (pt_cmp (pc_din hu ha hb) hn).weak fun σ H Q ⟨I0, H0, I, en, kk⟩ => din_run (f := fun o => o.isSome) (Q := fun x H' => ∃ c, x = .bl c ∧ Q c H') (fun _ h => h) ⟨I0, H0, I, en, fun v I' H' st r => by cases r; exact ⟨_, rfl, kk I' H' st⟩⟩
theorem de_inD (ha : DE X T U a ds (.str k)) (hb : DE X T U b ds (.dic kvs)) (hu : X.A.units + 1 < cLine) (hn : behindInMarks .In b = false := by rfl) : DE X T U (.Compare a [.In] [b] pos) ds (.bl (lookD kvs k).isSome) :=
  (pe_cmp (pc_din hu ha hb) hn).weak fun σ H Q h => din_run (f := fun o => o.isSome) (fun _ h => h) h
theorem dt_niD (ha : DE X T U a ds (.str k)) (hb : DE X T U b ds (.dic kvs)) (hu : X.A.units + 1 < cLine) (hn : behindInMarks .NotIn b = false := by rfl) : DT X T U (.Compare a [.NotIn] [b] pos) ds (!(lookD kvs k).isSome) :=
  (pt_cmp (pc_dnotin hu ha hb) hn).weak fun σ H Q ⟨I0, H0, I, en, kk⟩ => din_run (f := fun o => !o.isSome) (Q := fun x H' => ∃ c, x = .bl c ∧ Q c H') (fun _ h => by rw [h]) ⟨I0, H0, I, en, fun v I' H' st r => by cases r; exact ⟨_, rfl, kk I' H' st⟩⟩
theorem de_dget (ha : DE X T U a ds (.dic kvs)) (hb : DE X T U b ds (.str k)) (hk : lookD kvs k = some d) (hu : X.A.units + 1 < cLine) (hn : NoSl b := by intro _ _; rfl) : DE X T U (.Subscript a b pos) ds d :=
  (pe_dget hu ha hb hn).weak fun σ H Q ⟨I0, H0, I, en, kk⟩ => ⟨I0, H0, I, en, fun v I1 H1 s1 r1 => ⟨I0, H0, I1, en.step s1, fun w I2 H2 s2 r2 => by
    cases r2
    cases r1 with
    | @dic p fs _ e1 e2 =>
      have z := look_rep (e2.mono s2.isub) k
      rw [hk] at z
      obtain ⟨v, z1, z2⟩ := z
      exact ⟨p, v, rfl, .inl ⟨_, Sum.inr k, s2.sub.dic (s2.isub _ _ e1), rfl, z1.symm⟩, kk _ I2 H2 (s1.trans s2) z2⟩⟩⟩
/-- x[k] = e, x a dict of one's own -/
theorem ds_dput (i : Nat) {e : Expr} {x : Str} {p pos' : Pos} (h : ds[i]? = some (.ownD kvs)) (hb : DE X T U b ds (.str k)) (he : DE X T U e ds d) (hl : kvs.length < 100000) (q : E.nx (ds.set i (.ownD (putD kvs k d)))) (hu : X.A.units + 1 < cLine) (hN : X.N[i]? = some x := by rfl)
    (hv : Vis X.env.scope x := by first | exact Or.inl rfl | exact Or.inr (Or.inl rfl) | exact Or.inr (Or.inr rfl)) (hd : (x == ("__debug__" : Str)) = false := by decide) (hcd : (x == ("__classdict__" : Str)) = false := by decide)
    (hs : swapsWith e (some (.Subscript (.Name x p) b pos')) pos.line X.env = pure false := by rfl) : DSt X T W U (.Assign [.Subscript (.Name x p) b pos'] e pos) ds E :=
  (ps_dput hu (pe_var hN hv hd hcd) hb he hs).weak fun D σ H ⟨I0, H0, I, en, k1, _⟩ => ⟨I0, H0, I, en, fun v I1 H1 s1 r1 => by
    obtain ⟨a, fs, e1, e2, e3, e4, e5⟩ := (en.step s1).ownD h
    refine ⟨_, e1, I0, H0, I1, en.step s1, fun w I2 H2 s2 r2 => ?_⟩
    cases r2
    have a1 := s2.keep a _ e2 (fun _ z => nomatch z) (.inl e4)
    have a2 := s2.fresh a _ e4 e2 (fun _ q => nomatch q) (fun _ q => nomatch q)
    obtain ⟨fs', z1, z2⟩ := put_rep (k := k) (e3.mono s2.isub) (Rep.mono s2.isub r1)
    refine ⟨a, _, rfl, .inl ⟨_, Sum.inr k, a1, rfl, ?_, rfl⟩, ?_⟩
    · rw [kvK, List.length_map, e3.len]
      exact Nat.lt_of_lt_of_le hl (by decide)
    · rw [z1]
      refine k1 _ _ ⟨_, I2, ((en.step s1).step s2).mutOwn (d' := .ownD (putD kvs k d)) e1 (.inr ⟨_, h⟩) a2 e5 (by rw [a1]; exact ownNd) ⟨a, fs', rfl, upd_same, z2, a2, e5, rfl⟩, (s1.trans s2).pres.trans (Pres.own a2 a1 fun _ _ z => nomatch z), q⟩⟩
end
/-! ### two, three targets at once -/
section
variable {a b c : Expr} {x y z : Str} {px py pz pt pos pt2 : Pos} {kt k2 : Nat} {s1 s2 s3 : DS}
theorem ds_par2 (i j : Nat) (ha : DV X T U a ds s1) (hb : DV X T U b ds s2) (k : E.nx ((ds.set i s1).set j s2)) (hN : X.N.Nodup) (hij : i ≠ j)
    (hp : PS X (.Assign [.Tuple [.Name x px, .Name y py] kt pt] (.Tuple [a, b] k2 pt2) pos) (tPar i j (tCons (eV (gx X T) U ds s1) (tCons (eV (gx X T) U ds s2) tNil)))) : DSt X T W U (.Assign [.Tuple [.Name x px, .Name y py] kt pt] (.Tuple [a, b] k2 pt2) pos) ds E :=
  hp.weak fun D σ H ⟨I0, H0, I, en, k1, _⟩ => ⟨I0, H0, I, en, fun v I1 H1 q1 r1 => ⟨I0, H0, I1, en.step q1, fun w I2 H2 q2 r2 => ⟨v, w, rfl, k1 _ H2 ⟨_, I2, ((en.setV q1 i r1).setV q2 j r2), (q1.trans q2).pres, k⟩⟩⟩⟩
/-- the tuple is made, then taken apart -/
theorem ds_par2t (i j : Nat) (ha : DV X T U a ds s1) (hb : DV X T U b ds s2) (k : E.nx ((ds.set i s1).set j s2))
    (hp : PS X (.Assign [.Tuple [.Name x px, .Name y py] kt pt] (.Tuple [a, b] k2 pt2) pos) (tAsg (tTup (tCons (eV (gx X T) U ds s1) (tCons (eV (gx X T) U ds s2) tNil))) (gTup X.K 2 (gCons (gName i) (gCons (gName j) gNil))))) : DSt X T W U (.Assign [.Tuple [.Name x px, .Name y py] kt pt] (.Tuple [a, b] k2 pt2) pos) ds E :=
  hp.weak fun D σ H ⟨I0, H0, I, en, k1, _⟩ => ⟨I0, H0, I, en, fun v I1 H1 q1 r1 => ⟨I0, H0, I1, en.step q1, fun w I2 H2 q2 r2 => ⟨(by decide : 2 ≤ sizeLine), fun p hp => by
    have q3 : Step (gx X T) I2 H2 I2 (upd H2 p (.tup [v, w])) := Step.newOwn q2.sub hp
    exact ⟨p, [v, w], rfl, SqT.of upd_same, rfl, v, [w], rfl, w, [], rfl, rfl, k1 _ _ ⟨_, I2, ((en.setV q1 i r1).setV q2 j r2).step q3, ((q1.trans q2).trans q3).pres, k⟩⟩⟩⟩⟩
theorem ds_par3 (i j l : Nat) (ha : DV X T U a ds s1) (hb : DV X T U b ds s2) (hc : DV X T U c ds s3) (k : E.nx (((ds.set i s1).set j s2).set l s3))
    (hp : PS X (.Assign [.Tuple [.Name x px, .Name y py, .Name z pz] kt pt] (.Tuple [a, b, c] k2 pt2) pos) (tPar3 i j l (tCons (eV (gx X T) U ds s1) (tCons (eV (gx X T) U ds s2) (tCons (eV (gx X T) U ds s3) tNil))))) : DSt X T W U (.Assign [.Tuple [.Name x px, .Name y py, .Name z pz] kt pt] (.Tuple [a, b, c] k2 pt2) pos) ds E :=
  hp.weak fun D σ H ⟨I0, H0, I, en, k1, _⟩ => ⟨I0, H0, I, en, fun v I1 H1 q1 r1 => ⟨I0, H0, I1, en.step q1, fun w I2 H2 q2 r2 => ⟨I0, H0, I2, (en.step q1).step q2, fun u I3 H3 q3 r3 =>
    ⟨v, w, u, rfl, k1 _ H3 ⟨_, I3, (((en.setV q1 i r1).setV q2 j r2).setV q3 l r3), ((q1.trans q2).trans q3).pres, k⟩⟩⟩⟩⟩
theorem ds_par3t (i j l : Nat) (ha : DV X T U a ds s1) (hb : DV X T U b ds s2) (hc : DV X T U c ds s3) (k : E.nx (((ds.set i s1).set j s2).set l s3))
    (hp : PS X (.Assign [.Tuple [.Name x px, .Name y py, .Name z pz] kt pt] (.Tuple [a, b, c] k2 pt2) pos) (tAsg (tTup (tCons (eV (gx X T) U ds s1) (tCons (eV (gx X T) U ds s2) (tCons (eV (gx X T) U ds s3) tNil)))) (gTup X.K 3 (gCons (gName i) (gCons (gName j) (gCons (gName l) gNil)))))) :
    DSt X T W U (.Assign [.Tuple [.Name x px, .Name y py, .Name z pz] kt pt] (.Tuple [a, b, c] k2 pt2) pos) ds E :=
  hp.weak fun D σ H ⟨I0, H0, I, en, k1, _⟩ => ⟨I0, H0, I, en, fun v I1 H1 q1 r1 => ⟨I0, H0, I1, en.step q1, fun w I2 H2 q2 r2 => ⟨I0, H0, I2, (en.step q1).step q2, fun u I3 H3 q3 r3 => ⟨(by decide : 3 ≤ sizeLine), fun p hp => by
    have q4 : Step (gx X T) I3 H3 I3 (upd H3 p (.tup [v, w, u])) := Step.newOwn q3.sub hp
    exact ⟨p, [v, w, u], rfl, SqT.of upd_same, rfl, v, [w, u], rfl, w, [u], rfl, u, [], rfl, rfl, k1 _ _ ⟨_, I3, (((en.setV q1 i r1).setV q2 j r2).setV q3 l r3).step q4, (((q1.trans q2).trans q3).trans q4).pres, k⟩⟩⟩⟩⟩⟩
end
end
end Lp

/-! Defs by names; texts' lengths; what is often asked. -/
namespace Lp
open PySem PySem.Spec PyProof.Rows L2
def noFd : FuncData := PySem.W.fnOf "" "" { posonlyargs := [], args := [], vararg := none, kwonlyargs := [], kw_defaults := [], kwarg := none, defaults := [] } [] { kind := .function, names := [], isGenerator := false, isCoroutine := false } .none .none .none .none none .none .none
def fdOf (K : PySem.W.Frag) (f : Addr) : FuncData := match K.lookup f with
  | some ⟨_, _, .func fd, _⟩ => fd
  | _ => noFd
theorem funD_of {K : PySem.W.Frag} {x q : Str} {ps : Arguments} {b : List Stmt} {sc : Scope} {dv : List V} {kw : List (Str × V)} {f : Addr} (h : ∃ fd, FunD K x q ps b sc dv kw f fd) : FunD K x q ps b sc dv kw f (fdOf K f) := by
  obtain ⟨fd, F⟩ := h
  have e : fdOf K f = fd := by
    obtain ⟨oc, od, dV, kV, doc, pm, an, cdv, ct, osl, e1, lk, _⟩ := F.ex
    unfold fdOf
    rw [lk]
  rw [e]
  exact F
/-- a def by its name, with what it does -/
structure CallD (G : Glb) (k : Nat) (x : Str) (ps : List Str) (U : Bool) (A : List D → DS → Prop) : Prop where
  ok : FnOk G.P G.w G.K G.mg G.base CX0 k (He.ga G.K x) (fdOf G.K (He.ga G.K x)) ps (spD G U A)
  g : G.mg x = some (.ref (He.ga G.K x))
  n : L2.Binds G.K (fdOf G.K (He.ga G.K x)) ps []
  kp : PySem.W.keepIn G.K (.ref (He.ga G.K x)) = true
section
variable {X : Cx} {T : List NdefX.NTab} {W : WX} {U U' : Bool} {ds : List DS} {s : DS} {E : DEn}
theorem dv_c {A : List D → DS → Prop} {k j : Nat} {ps : List Str} {x : Str} {p pos : Pos} {e : Expr} {es : List Expr} {xs : List D} (C : CallD (gx X T) k x ps U' A) (hr : Room j X.A) (ha : DA X T U (e :: es) ds xs) (hA : A xs s) (hU : U' = true → U = true := by first | exact id | exact fun z => nomatch z) (hk : k ≤ j := by decide)
    (hg : Gl X x := by rfl) (hdb : (x == ("__debug__" : Str)) = false := by decide) (he : starEach (e :: es) X.env = (false, eval e X.env) :: starEach es X.env := by rfl) (hpl : (backTo pos (starEach es X.env)).any (·.1) = false := by rfl) : DV X T U (.Call (.Name x p) (e :: es) [] pos) ds s :=
  dv_call C.ok hU (hr.mono hk) hg C.g C.kp C.n ha hA hdb he hpl
theorem dv_c0 {A : List D → DS → Prop} {k j : Nat} {ps : List Str} {x : Str} {p pos : Pos} (C : CallD (gx X T) k x ps U' A) (hr : Room j X.A) (hA : A [] s) (hU : U' = true → U = true := by first | exact id | exact fun z => nomatch z) (hk : k ≤ j := by decide)
    (hg : Gl X x := by rfl) (hdb : (x == ("__debug__" : Str)) = false := by decide) : DV X T U (.Call (.Name x p) [] [] pos) ds s :=
  dv_call0 C.ok hU (hr.mono hk) hg C.g C.kp C.n hA hdb
end
/-! ### items of tuples, filterMap -/
def D.at (d : D) (i : Nat) : D := match d with
  | .tup xs => xs.getD i .non
  | _ => .non
theorem fm_map {α β : Type} {f : α → Option β} {h : α → β} : ∀ {l : List α}, (∀ a ∈ l, f a = some (h a)) → l.filterMap f = l.map h
  | [], _ => rfl
  | a :: l, q => by
    rw [List.filterMap_cons, q a List.mem_cons_self, List.map_cons, fm_map fun b hb => q b (List.mem_cons_of_mem _ hb)]
theorem fm_filter {α β γ : Type} {f : β → Option γ} {e : α → β} {p : α → Bool} {h : α → γ} : ∀ {l : List α}, (∀ a ∈ l, f (e a) = if p a = true then some (h a) else none) → (l.map e).filterMap f = (l.filter p).map h
  | [], _ => rfl
  | a :: l, q => by
    have q1 := q a List.mem_cons_self
    rw [List.map_cons, List.filterMap_cons, q1, List.filter_cons, fm_filter (p := p) (h := h) fun b hb => q b (List.mem_cons_of_mem _ hb)]
    by_cases c : p a = true
    · rw [if_pos c, if_pos c, List.map_cons]
    · rw [if_neg c, if_neg c]
/-- enumerate of typed items -/
def enE {α : Type} (e : α → D) (p : α × Nat) : D := .tup [.int (p.2 : Int), e p.1]
theorem enumD_map {α : Type} (e : α → D) (l : List α) : enumD (l.map e) = l.zipIdx.map (enE e) := by
  apply List.ext_getElem?
  intro i
  unfold enumD
  rw [List.getElem?_map, List.getElem?_map, List.getElem?_zipIdx, List.length_map]
  by_cases h : i < l.length
  · rw [List.getElem?_eq_getElem (by rw [List.length_range]; exact h), List.getElem_range, List.getElem?_eq_getElem h]
    show some (D.tup [.int (i : Int), (l.map e).getD i .non]) = some (enE e (l[i], 0 + i))
    rw [List.getD_eq_getElem?_getD, List.getElem?_map, List.getElem?_eq_getElem h, Nat.zero_add]
    rfl
  · rw [List.getElem?_eq_none_iff.mpr (by rw [List.length_range]; omega), List.getElem?_eq_none_iff.mpr (by omega)]
    rfl
theorem zi_get {α : Type} {l : List α} {i : Nat} {p : α × Nat} (h : l.zipIdx[i]? = some p) : p.2 = i ∧ l[i]? = some p.1 := by
  rw [List.getElem?_zipIdx] at h
  cases e : l[i]? with
  | none => rw [e] at h; cases h
  | some a =>
    rw [e] at h
    have q := (Option.some.inj h).symm
    subst q
    exact ⟨Nat.zero_add i, rfl⟩
theorem enum_mem {xs : List D} {d : D} (h : d ∈ enumD xs) : ∃ (i : Nat) (x : D), xs[i]? = some x ∧ d = .tup [.int (i : Int), x] := by
  obtain ⟨i, hi⟩ := List.mem_iff_getElem?.mp h
  obtain ⟨x, h1, h2⟩ := enumD_get hi
  exact ⟨i, x, h1, h2⟩
theorem enum_fm {γ : Type} {xs : List D} {f : D → Option γ} {h : Nat → γ} (q : ∀ (i : Nat) (x : D), xs[i]? = some x → f (.tup [.int (i : Int), x]) = some (h i)) : (enumD xs).filterMap f = (List.range xs.length).map h := by
  unfold enumD
  rw [List.filterMap_map]
  refine fm_map fun i hi => ?_
  have hl := List.mem_range.mp hi
  have e := q i xs[i] (List.getElem?_eq_getElem hl)
  show f (.tup [.int (i : Int), xs.getD i .non]) = _
  rw [List.getD_eq_getElem?_getD, List.getElem?_eq_getElem hl]
  exact e
/-! ### slots forgotten -/
def forg (fs : List Nat) (ds : List DS) : List DS := fs.foldl (fun d i => d.set i .no) ds
theorem EnvR.forg {G : Glb} {U : Bool} {I0 H0 I H : Hp} {σ : L2.St} : ∀ (fs : List Nat) {ds : List DS}, EnvR G U I0 H0 I H σ ds → EnvR G U I0 H0 I H σ (Lp.forg fs ds)
  | [], _, e => e
  | i :: fs, _, e => EnvR.forg fs (e.forget i)
section
variable {X : Cx} {T : List NdefX.NTab} {W : WX} {U : Bool} {ds : List DS} {s : DS} {E : DEn}
theorem NxR.forg {G : Glb} {I0 H0 I H : Hp} {P : List DS → Prop} {σ' : L2.St} {H' : Hp} (fs : List Nat) (n : NxR G U I0 H0 I H (fun d => P (Lp.forg fs d)) σ' H') : NxR G U I0 H0 I H P σ' H' := by
  obtain ⟨d, I1, e, p, q⟩ := n
  exact ⟨_, I1, e.forg fs, p, q⟩
/-- the rest may be shown with slots forgotten -/
theorem dss_forg (fs : List Nat) {sts : List Stmt} (h : DSs X T W U sts (forg fs ds) E) : DSs X T W U sts ds E := PSs.weak h fun D σ H ⟨I0, H0, I, e, k⟩ => ⟨I0, H0, I, e.forg fs, k⟩
theorem dss_wk (fs : List Nat) (fc : List Nat) {sts : List Stmt} {P Q : List DS → Prop} (h : DSs X T W U sts ds { E with nx := fun d => P (forg fs d), ct := fun d => Q (forg fc d) }) : DSs X T W U sts ds { E with nx := P, ct := Q } :=
  PSs.weak h fun D σ H ⟨I0, H0, I, e, k1, k2, k3, k4, k5⟩ => ⟨I0, H0, I, e, fun s h n => k1 s h (n.forg fs), k2, k3, fun s h n => k4 s h (n.forg fc), k5⟩
theorem ds_forg (fs : List Nat) {st : Stmt} (h : DSt X T W U st (forg fs ds) E) : DSt X T W U st ds E := PS.weak h fun D σ H ⟨I0, H0, I, e, k⟩ => ⟨I0, H0, I, e.forg fs, k⟩
/-- a loop whose slots are known turn by turn: env i ahead of the turn i, but for those at fs -/
theorem ds_forE {α : Type} {e : α → D} {tg iter : Expr} {body : List Stmt} {pos : Pos} {xs : List α} (fs : List Nat) (env : Nat → List DS) (g : α → List DS → List DS) {js : List Nat} (h0 : forg fs ds = env 0) (hi : DI X T U tg iter (env 0) (xs.map e)) (hg : ∀ d ∈ xs, ∀ ds1, DG X T U tg ds1 (e d) (g d ds1) js)
    (hb : ∀ (i : Nat) (d : α), xs[i]? = some d → DSs X T W U body (g d (env i)) { E with nx := fun ds2 => forg fs ds2 = env (i + 1), ct := fun ds2 => forg fs ds2 = env (i + 1), bk := E.nx }) (hd : E.nx (env xs.length))
    (hp : PassesOwn (model X.prog X.w) X.A X.env X.xe) (hc : X.calm = true := by rfl) (hs : ∀ x, foldedSetIterable iter X.env x = pure x := by intro _; rfl) : DSt X T W U (.For tg iter body [] pos) ds E := by
  refine ds_forg fs ?_
  rw [h0]
  refine ds_for (fun i ds1 => ds1 = env i) g hi hg rfl (fun i d ds1 hx he => ?_) (fun ds1 he => ?_) hp hc hs
  · rw [he]
    exact dss_wk (E := { E with bk := E.nx }) (P := fun ds2 => ds2 = env (i + 1)) (Q := fun ds2 => ds2 = env (i + 1)) fs fs (hb i d hx)
  · rw [he]
    exact hd
/-- over a range -/
theorem ds_forR {tg iter : Expr} {body : List Stmt} {pos : Pos} {lo : Int} {n : Nat} (fs : List Nat) (env : Nat → List DS) (g : Nat → List DS → List DS) {js : List Nat} (h0 : forg fs ds = env 0) (hi : DI X T U tg iter (env 0) (rngD lo n)) (hg : ∀ i ∈ List.range n, ∀ ds1, DG X T U tg ds1 (.int (lo + (i : Int))) (g i ds1) js)
    (hb : ∀ i, i < n → DSs X T W U body (g i (env i)) { E with nx := fun ds2 => forg fs ds2 = env (i + 1), ct := fun ds2 => forg fs ds2 = env (i + 1), bk := E.nx }) (hd : E.nx (env n))
    (hp : PassesOwn (model X.prog X.w) X.A X.env X.xe) (hc : X.calm = true := by rfl) (hs : ∀ x, foldedSetIterable iter X.env x = pure x := by intro _; rfl) : DSt X T W U (.For tg iter body [] pos) ds E :=
  ds_forE (α := Nat) (e := fun i : Nat => .int (lo + (i : Int))) (xs := List.range n) fs env g h0 hi hg (fun i d hd => by
    obtain ⟨h1, rfl⟩ := rng_get hd
    exact hb _ h1) (by rw [List.length_range]; exact hd) hp hc hs
/-- over the enumeration of typed items -/
theorem ds_forN {α : Type} {e : α → D} {tg iter : Expr} {body : List Stmt} {pos : Pos} {xs : List α} (fs : List Nat) (env : Nat → List DS) (g : Nat → α → List DS → List DS) {js : List Nat} (h0 : forg fs ds = env 0) (hi : DI X T U tg iter (env 0) (enumD (xs.map e)))
    (hg : ∀ (i : Nat) (a : α), xs[i]? = some a → ∀ ds1, DG X T U tg ds1 (.tup [.int (i : Int), e a]) (g i a ds1) js)
    (hb : ∀ (i : Nat) (a : α), xs[i]? = some a → DSs X T W U body (g i a (env i)) { E with nx := fun ds2 => forg fs ds2 = env (i + 1), ct := fun ds2 => forg fs ds2 = env (i + 1), bk := E.nx }) (hd : E.nx (env xs.length))
    (hp : PassesOwn (model X.prog X.w) X.A X.env X.xe) (hc : X.calm = true := by rfl) (hs : ∀ x, foldedSetIterable iter X.env x = pure x := by intro _; rfl) : DSt X T W U (.For tg iter body [] pos) ds E :=
  ds_forE (α := α × Nat) (e := enE e) (xs := xs.zipIdx) fs env (fun p => g p.2 p.1) h0 (by rw [← enumD_map]; exact hi) (fun p hp ds1 => by
    obtain ⟨i, hi⟩ := List.mem_iff_getElem?.mp hp
    obtain ⟨h1, h2⟩ := zi_get hi
    exact hg p.2 p.1 (by rw [h1]; exact h2) ds1) (fun i p hd => by
    obtain ⟨h1, h2⟩ := zi_get hd
    rw [h1]
    exact hb i p.1 h2) (by rw [List.length_zipIdx]; exact hd) hp hc hs
end
/-! ### several targets, with their sides -/
section
variable {X : Cx} {T : List NdefX.NTab} {W : WX} {U : Bool} {ds : List DS} {s : DS} {E : DEn} {a b c : Expr} {x y z : Str} {px py pz pt pos pt2 : Pos} {kt k2 : Nat} {s1 s2 s3 : DS}
/-- two plain names -/
theorem ds_p2 (i j : Nat) (ha : DV X T U a ds s1) (hb : DV X T U b ds s2) (k : E.nx ((ds.set i s1).set j s2)) (hN : X.N.Nodup) (hij : i ≠ j := by decide) (hc : X.calm = true := by rfl) (hi : X.N[i]? = some x := by rfl) (hj : X.N[j]? = some y := by rfl)
    (hx : X.env.scope.names.lookup x = some .local := by rfl) (hy : X.env.scope.names.lookup y = some .local := by rfl) (he : starEach [a, b] X.env = (false, eval a X.env) :: starEach [b] X.env := by rfl) (he2 : starEach [b] X.env = (false, eval b X.env) :: starEach [] X.env := by rfl)
    (hw : swappedStores [.Tuple [.Name x px, .Name y py] kt pt] (.Tuple [a, b] k2 pt2) X.env = pure (some [x, y]) := by rfl) (hs : swapsWithSole [.Tuple [.Name x px, .Name y py] kt pt] (.Tuple [a, b] k2 pt2) pos.line X.env = pure false := by rfl) :
    DSt X T W U (.Assign [.Tuple [.Name x px, .Name y py] kt pt] (.Tuple [a, b] k2 pt2) pos) ds E :=
  ds_par2 i j ha hb k hN hij (ps_par hc hN hi hj hij hx hy (pa_cons ha (pa_cons hb pa_nil he2) he) hw hs)
/-- two names, one at least a cell -/
theorem ds_p2t (i j : Nat) (ha : DV X T U a ds s1) (hb : DV X T U b ds s2) (k : E.nx ((ds.set i s1).set j s2)) (hN : X.N.Nodup) (hc : X.calm = true := by rfl) (hi : X.N[i]? = some x := by rfl) (hj : X.N[j]? = some y := by rfl)
    (hx : Loc X.env.scope x := by first | exact Or.inl rfl | exact Or.inr rfl) (hy : Loc X.env.scope y := by first | exact Or.inl rfl | exact Or.inr rfl) (hfx : X.fn x = true ∨ X.env.scope.names.lookup x = some .local := by first | exact .inl rfl | exact .inr rfl) (hfy : X.fn y = true ∨ X.env.scope.names.lookup y = some .local := by first | exact .inl rfl | exact .inr rfl)
    (he : starEach [a, b] X.env = (false, eval a X.env) :: starEach [b] X.env := by rfl) (he2 : starEach [b] X.env = (false, eval b X.env) :: starEach [] X.env := by rfl)
    (hw : swappedStores [.Tuple [.Name x px, .Name y py] kt pt] (.Tuple [a, b] k2 pt2) X.env = pure none := by rfl) (hs : swapsWithSole [.Tuple [.Name x px, .Name y py] kt pt] (.Tuple [a, b] k2 pt2) pos.line X.env = pure false := by rfl)
    (h2 : (assignEach [.Name y py] X.env).map (·.2) = assign (.Name y py) X.env :: (assignEach [] X.env).map (·.2) := by rfl) (h1 : (assignEach [.Name x px, .Name y py] X.env).map (·.2) = assign (.Name x px) X.env :: (assignEach [.Name y py] X.env).map (·.2) := by rfl)
    (hn : (assignEach [.Name x px, .Name y py] X.env).length = 2 := by rfl) (hst : (assignEach [.Name x px, .Name y py] X.env).findIdx? (·.1) = none := by rfl) :
    DSt X T W U (.Assign [.Tuple [.Name x px, .Name y py] kt pt] (.Tuple [a, b] k2 pt2) pos) ds E :=
  ds_par2t i j ha hb k (ps_asg (pe_tup (pa_cons ha (pa_cons hb pa_nil he2) he)) (pg_tup hc (pgs_cons (pg_name hN hi hx hfx) (pgs_cons (pg_name hN hj hy hfy) pgs_nil h2) h1) hn hst) hs hw)
theorem ds_p3 (i j l : Nat) (ha : DV X T U a ds s1) (hb : DV X T U b ds s2) (hd : DV X T U c ds s3) (k : E.nx (((ds.set i s1).set j s2).set l s3)) (hN : X.N.Nodup) (hij : i ≠ j := by decide) (hil : i ≠ l := by decide) (hjl : j ≠ l := by decide) (hc : X.calm = true := by rfl) (hi : X.N[i]? = some x := by rfl) (hj : X.N[j]? = some y := by rfl) (hl : X.N[l]? = some z := by rfl)
    (hx : X.env.scope.names.lookup x = some .local := by rfl) (hy : X.env.scope.names.lookup y = some .local := by rfl) (hz : X.env.scope.names.lookup z = some .local := by rfl) (he : starEach [a, b, c] X.env = (false, eval a X.env) :: starEach [b, c] X.env := by rfl) (he2 : starEach [b, c] X.env = (false, eval b X.env) :: starEach [c] X.env := by rfl) (he3 : starEach [c] X.env = (false, eval c X.env) :: starEach [] X.env := by rfl)
    (hw : swappedStores [.Tuple [.Name x px, .Name y py, .Name z pz] kt pt] (.Tuple [a, b, c] k2 pt2) X.env = pure (some [x, y, z]) := by rfl) (hs : swapsWithSole [.Tuple [.Name x px, .Name y py, .Name z pz] kt pt] (.Tuple [a, b, c] k2 pt2) pos.line X.env = pure false := by rfl) :
    DSt X T W U (.Assign [.Tuple [.Name x px, .Name y py, .Name z pz] kt pt] (.Tuple [a, b, c] k2 pt2) pos) ds E :=
  ds_par3 i j l ha hb hd k (ps_par3 hc hN hi hj hl hij hil hjl hx hy hz (pa_cons ha (pa_cons hb (pa_cons hd pa_nil he3) he2) he) hw hs)
theorem ds_p3t (i j l : Nat) (ha : DV X T U a ds s1) (hb : DV X T U b ds s2) (hd : DV X T U c ds s3) (k : E.nx (((ds.set i s1).set j s2).set l s3)) (hN : X.N.Nodup) (hc : X.calm = true := by rfl) (hi : X.N[i]? = some x := by rfl) (hj : X.N[j]? = some y := by rfl) (hl : X.N[l]? = some z := by rfl)
    (hx : Loc X.env.scope x := by first | exact Or.inl rfl | exact Or.inr rfl) (hy : Loc X.env.scope y := by first | exact Or.inl rfl | exact Or.inr rfl) (hz : Loc X.env.scope z := by first | exact Or.inl rfl | exact Or.inr rfl) (hfx : X.fn x = true ∨ X.env.scope.names.lookup x = some .local := by first | exact .inl rfl | exact .inr rfl)
    (hfy : X.fn y = true ∨ X.env.scope.names.lookup y = some .local := by first | exact .inl rfl | exact .inr rfl) (hfz : X.fn z = true ∨ X.env.scope.names.lookup z = some .local := by first | exact .inl rfl | exact .inr rfl)
    (he : starEach [a, b, c] X.env = (false, eval a X.env) :: starEach [b, c] X.env := by rfl) (he2 : starEach [b, c] X.env = (false, eval b X.env) :: starEach [c] X.env := by rfl) (he3 : starEach [c] X.env = (false, eval c X.env) :: starEach [] X.env := by rfl)
    (hw : swappedStores [.Tuple [.Name x px, .Name y py, .Name z pz] kt pt] (.Tuple [a, b, c] k2 pt2) X.env = pure none := by rfl) (hs : swapsWithSole [.Tuple [.Name x px, .Name y py, .Name z pz] kt pt] (.Tuple [a, b, c] k2 pt2) pos.line X.env = pure false := by rfl)
    (h3 : (assignEach [.Name z pz] X.env).map (·.2) = assign (.Name z pz) X.env :: (assignEach [] X.env).map (·.2) := by rfl) (h2 : (assignEach [.Name y py, .Name z pz] X.env).map (·.2) = assign (.Name y py) X.env :: (assignEach [.Name z pz] X.env).map (·.2) := by rfl)
    (h1 : (assignEach [.Name x px, .Name y py, .Name z pz] X.env).map (·.2) = assign (.Name x px) X.env :: (assignEach [.Name y py, .Name z pz] X.env).map (·.2) := by rfl) (hn : (assignEach [.Name x px, .Name y py, .Name z pz] X.env).length = 3 := by rfl) (hst : (assignEach [.Name x px, .Name y py, .Name z pz] X.env).findIdx? (·.1) = none := by rfl) :
    DSt X T W U (.Assign [.Tuple [.Name x px, .Name y py, .Name z pz] kt pt] (.Tuple [a, b, c] k2 pt2) pos) ds E :=
  ds_par3t i j l ha hb hd k (ps_asg (pe_tup (pa_cons ha (pa_cons hb (pa_cons hd pa_nil he3) he2) he)) (pg_tup hc (pgs_cons (pg_name hN hi hx hfx) (pgs_cons (pg_name hN hj hy hfy) (pgs_cons (pg_name hN hl hz hfz) pgs_nil h3) h2) h1) hn hst) hs hw)
/-- x[e] = e', x a list of one's own -/
theorem ds_setI (i : Nat) {e ei : Expr} {p p2 : Pos} {d : D} {xs : List D} {j : Int} {n : Nat} (h : ds[i]? = some (.own xs)) (hi : DE X T U ei ds (.int j)) (he : DE X T U e ds d) (hj : ixN xs.length j = some n) (k : E.nx (ds.set i (.own (xs.set n d)))) (hN : X.N[i]? = some x := by rfl)
    (hv : Vis X.env.scope x := by first | exact Or.inl rfl | exact Or.inr (Or.inl rfl) | exact Or.inr (Or.inr rfl)) (hd : (x == ("__debug__" : Str)) = false := by decide) (hcd : (x == ("__classdict__" : Str)) = false := by decide)
    (ha : ∀ v, assign (.Subscript (.Name x p2) ei p) X.env v = (do
      let ov ← holding [v] (eval (.Name x p2) X.env)
      let iv ← holding [v, ov] (eval ei X.env)
      standAt p
      holding [v, ov, iv] (setItem ov iv v)
      release [v, ov, iv] []) := by intro _; rfl)
    (hs : swapsWithSole [.Subscript (.Name x p2) ei p] e pos.line X.env = pure false := by rfl) (hw : swappedStores [.Subscript (.Name x p2) ei p] e X.env = pure none := by rfl) : DSt X T W U (.Assign [.Subscript (.Name x p2) ei p] e pos) ds E :=
  ds_setL i h (pg_sub (pe_var hN hv hd hcd) hi set_list ha) he hj k hs hw
end
/-! ### texts -/
theorem str_len (z : Str) : z.length = z.cps.toList.length := by
  show z.cps.size = _
  simp
end Lp

/-! Errors; signs of a text walked. -/
namespace Lp
open PySem PySem.Spec PyProof.Rows L2
/-! ### a text's signs -/
def sgD (z : Str) : List D := z.cps.toList.map fun c => D.str ⟨#[c]⟩
theorem goes_str {G : Glb} {z : Str} {I H : Hp} : Goes G (Its z) I H (sgD z) := fun I1 H1 ps rd i => by
  unfold sgD
  refine ⟨fun hi => ?_, fun d hd => ?_⟩
  · rw [List.length_map] at hi
    show z.cps.size ≤ i
    simpa using hi
  · rw [List.getElem?_map] at hd
    cases e : z.cps.toList[i]? with
    | none => rw [e] at hd; cases hd
    | some c =>
      rw [e] at hd
      obtain rfl := (Option.some.inj hd).symm
      have e2 : z.cps[i]? = some c := by rw [← Array.getElem?_toList]; exact e
      have hlt := (Array.getElem?_eq_some_iff.mp e2).1
      refine ⟨hlt, fun x H2 ⟨h1, c', h2, h3⟩ => ?_⟩
      subst h1
      rw [e2] at h2
      cases h2
      subst h3
      exact ⟨I1, Step.refl rd, .str _⟩
section
variable {X : Cx} {T : List NdefX.NTab} {W : WX} {U U' : Bool} {ds : List DS} {s : DS} {E : DEn}
theorem di_str {tg iter : Expr} {z : Str} (h : DE X T U iter ds (.str z)) : DI X T U tg iter ds (sgD z) := by
  have q := pi_str (tg := tg) h
  refine ⟨fun pins s σ H R I ⟨I0, H0, I1, en, k⟩ => q.run pins s σ H R I ⟨I0, H0, I1, en, fun v I2 H2 s2 r2 => ?_⟩⟩
  cases r2
  exact ⟨z, rfl, k _ I2 H2 s2 goes_str⟩
end
/-! ### what a call gives: a value or an error -/
inductive XR where
  | val (s : DS)
  | exc (C : Str) (fs : List (Str × D))
def spX (G : Glb) (U : Bool) (A : List D → XR → Prop) : Sp := fun vs H Q E => ∃ I xs r, RdS I H ∧ NdefX.TabsN G.T H ∧ Reps G I vs xs ∧ A xs r ∧ match r with
  | .val s => ∀ v H', RetR G I H v H' s → Q v H'
  | .exc C fs => ∀ d I' H', Step G I H I' H' → ExcR G H I' H' d fs → E (.ref (He.ga G.K C)) d H'
/-- a def that may let errors out -/
theorem okX {G : Glb} {U : Bool} {x qual : Str} {params : Arguments} {body : List Stmt} {scope : Scope} {f : Addr} {fd : FuncData} {N ps : List Str} {k : Nat} {A : List D → XR → Prop} (F : FunD G.K x qual params body scope [] [] f fd) (S : FnScope N ps scope)
    (hA : ∀ xs r, A xs r → xs.length = ps.length)
    (hb : ∀ (cdv : Value) (Ar : Around) (outer : List Env) (s : Shared) (H : Hp) (E : XK), Room k (Ar.deeper (envOfC qual scope s.heap.objs.size f cdv)) → Takes (cxOf (L2.CX G.P G.w) G.P G.w G.K G.mg G.base N qual scope f cdv Ar outer s H E) (fun cls d _ H => E cls d H) → ∀ xs r, A xs r →
      DSs (cxOf (L2.CX G.P G.w) G.P G.w G.K G.mg G.base N qual scope f cdv Ar outer s H E) G.T (fun cls d _ H => E cls d H) U body (startD N.length xs) { nx := fun _ => r = .val (.im .non), rt := fun t => r = .val t ∨ r = .val t.fz, xs := fun C fs _ => r = .exc C fs }) :
    FnOk G.P G.w G.K G.mg G.base (L2.CX G.P G.w) (k + 1) f fd ps (spX G U A) := by
  refine F.ok S (fun vs H Q E ⟨I, xs, r, _, _, rs, hAx, _⟩ => by rw [rs.len]; exact hA xs r hAx) (fun cdv Ar outer s H vs Q E hr ⟨I, xs, r, rd, tb, rs, hAx, k⟩ => ?_)
  have h := hb cdv Ar outer s H E hr (takes_of rfl rfl rfl rfl) xs r hAx
  have hl : xs.length ≤ N.length := by
    have e1 := S.pre
    have e2 := hA xs r hAx
    rw [e2, ← e1, List.length_take]
    exact Nat.min_le_right _ _
  refine ⟨_, h, I, H, I, env_start (G := G) rd tb rs hl, ?_, ?_, ?_, ?_, ?_⟩
  · rintro σ' H' ⟨ds', I', e', p', q⟩
    have q2 : r = .val (.im .non) := q
    subst q2
    exact k .non H' ⟨I', e'.st, Rep.non⟩
  · rintro v H' t hr ht
    rcases ht with q2 | q2
    · subst q2
      exact k v H' hr
    · subst q2
      exact k v H' hr.fz
  · rintro _ _ ⟨_, _, _, _, q⟩
    exact q
  · rintro _ _ ⟨_, _, _, _, q⟩
    exact q
  · rintro C fs d σ' H' ⟨ds', I', e', p', x', q⟩
    have q2 : r = .exc C fs := q
    subst q2
    exact k d I' H' e'.st x'
structure CallX (G : Glb) (k : Nat) (x : Str) (ps : List Str) (U : Bool) (A : List D → XR → Prop) : Prop where
  ok : FnOk G.P G.w G.K G.mg G.base (L2.CX G.P G.w) k (He.ga G.K x) (fdOf G.K (He.ga G.K x)) ps (spX G U A)
  g : G.mg x = some (.ref (He.ga G.K x))
  n : L2.Binds G.K (fdOf G.K (He.ga G.K x)) ps []
  kp : PySem.W.keepIn G.K (.ref (He.ga G.K x)) = true
/-- an expression that raises -/
def xV (G : Glb) (W : WX) (U : Bool) (ds : List DS) (C : Str) (fs : List (Str × D)) : TE := fun σ H _ => ∃ I0 H0 I, EnvR G U I0 H0 I H σ ds ∧ ∀ d I' H', Step G I H I' H' → ExcR G H I' H' d fs → W (.ref (He.ga G.K C)) d σ H'
abbrev DX (X : Cx) (T : List NdefX.NTab) (W : WX) (U : Bool) (e : Expr) (ds : List DS) (C : Str) (fs : List (Str × D)) : Prop := PE X e (xV (gx X T) W U ds C fs)
theorem ExcR.later {G : Glb} {I0 H0 I H I' H' : Hp} {d : Option Addr} {fs : List (Str × D)} (s : Step G I0 H0 I H) (x : ExcR G H I' H' d fs) : ExcR G H0 I' H' d fs := by
  cases d with
  | none => exact x
  | some a =>
    obtain ⟨vs, h1, h2, h3⟩ := x
    exact ⟨vs, h1, h2, s.free h3⟩
section
variable {X : Cx} {T : List NdefX.NTab} {W : WX} {U U' : Bool} {ds : List DS} {s : DS} {E : DEn} {C : Str} {fs : List (Str × D)}
/-- a call that gives a value, of a def that may let errors out -/
theorem dv_cx {A : List D → XR → Prop} {k j : Nat} {ps : List Str} {x : Str} {p pos : Pos} {e : Expr} {es : List Expr} {xs : List D} (c : CallX (gx X T) k x ps U' A) (hr : Room j X.A) (ha : DA X T U (e :: es) ds xs) (hA : A xs (.val s)) (hU : U' = true → U = true := by first | exact id | exact fun z => nomatch z) (hk : k ≤ j := by decide)
    (hg : Gl X x := by rfl) (hdb : (x == ("__debug__" : Str)) = false := by decide) (he : starEach (e :: es) X.env = (false, eval e X.env) :: starEach es X.env := by rfl) (hpl : (backTo pos (starEach es X.env)).any (·.1) = false := by rfl) : DV X T U (.Call (.Name x p) (e :: es) [] pos) ds s :=
  (pe_callS c.ok (hr.mono hk) hg c.g c.kp c.n (E := fun _ _ _ _ => False) (fun _ _ _ _ _ _ _ ⟨_, _, _, _, _, _, _, _, _, _, _, _, z⟩ => z.elim) ha hdb he hpl).weak fun σ H Q ⟨I0, H0, I, en, k⟩ => ⟨I0, H0, I, en, fun vs I1 H1 s1 r1 =>
    ⟨I1, xs, _, s1.sub, (en.step s1).tb, r1, hA, fun v H' ⟨I2, s2, r2⟩ => k v I2 H' (s1.trans s2) (r2.back s1)⟩⟩
/-- a call that raises -/
theorem dx_c {A : List D → XR → Prop} {k j : Nat} {ps : List Str} {x : Str} {p pos : Pos} {e : Expr} {es : List Expr} {xs : List D} (c : CallX (gx X T) k x ps U' A) (tk : Takes X W) (hr : Room j X.A) (ha : DA X T U (e :: es) ds xs) (hA : A xs (.exc C fs)) (hU : U' = true → U = true := by first | exact id | exact fun z => nomatch z) (hk : k ≤ j := by decide)
    (hg : Gl X x := by rfl) (hdb : (x == ("__debug__" : Str)) = false := by decide) (he : starEach (e :: es) X.env = (false, eval e X.env) :: starEach es X.env := by rfl) (hpl : (backTo pos (starEach es X.env)).any (·.1) = false := by rfl) : DX X T W U (.Call (.Name x p) (e :: es) [] pos) ds C fs :=
  (pe_callS c.ok (hr.mono hk) hg c.g c.kp c.n (E := WE W) (fun σ => passAt tk σ) ha hdb he hpl).weak fun σ H Q ⟨I0, H0, I, en, k⟩ => ⟨I0, H0, I, en, fun vs I1 H1 s1 r1 =>
    ⟨I1, xs, _, s1.sub, (en.step s1).tb, r1, hA, fun d I2 H2 s2 x2 => k d I2 H2 (s1.trans s2) (x2.later s1)⟩⟩
theorem xs_of {σ : L2.St} {I0 H0 I H : Hp} {D : Ends} (en : EnvR (gx X T) U I0 H0 I H σ ds) (k : E.xs C fs ds) (k5 : ∀ C fs d σ' H', XsR (gx X T) U I0 H0 I H (E.xs C fs) fs d σ' H' → W (.ref (He.ga X.K C)) d σ' H') {Q : VK} : xV (gx X T) W U ds C fs σ H Q :=
  ⟨I0, H0, I, en, fun d I' H' st x => k5 C fs d σ H' ⟨ds, I', en.step st, st.pres, x.later en.st, k⟩⟩
theorem ds_setX {i : Nat} {x : Str} {pos' pos : Pos} {e : Expr} (he : DX X T W U e ds C fs) (k : E.xs C fs ds) (hN : X.N.Nodup) (hi : X.N[i]? = some x := by rfl) (hx : Loc X.env.scope x := by first | exact Or.inl rfl | exact Or.inr rfl)
    (hs : swapsWith e (some (.Name x pos')) pos.line X.env = pure false := by rfl) (hf : X.fn x = true ∨ X.env.scope.names.lookup x = some .local := by first | exact .inl rfl | exact .inr rfl | assumption) : DSt X T W U (.Assign [.Name x pos'] e pos) ds E :=
  (ps_set hN hi hx he hs hf).weak fun D σ H ⟨I0, H0, I, en, k1, k2, k3, k4, k5⟩ => xs_of (D := D) en k k5
theorem ds_exprX {pos : Pos} {e : Expr} (he : DX X T W U e ds C fs) (k : E.xs C fs ds) (hs : swapsWith e none pos.line X.env = pure false := by rfl) : DSt X T W U (.Expr e pos) ds E :=
  (ps_expr he hs).weak fun D σ H ⟨I0, H0, I, en, k1, k2, k3, k4, k5⟩ => xs_of (D := D) en k k5
theorem ds_retX {pos : Pos} {e : Expr} (he : DX X T W U e ds C fs) (k : E.xs C fs ds) : DSt X T W U (.Return (some e) pos) ds E :=
  (ps_ret he).weak fun D σ H ⟨I0, H0, I, en, k1, k2, k3, k4, k5⟩ => xs_of (D := D) en k k5
/-- raise X('..') -/
theorem ds_raise {m x : Str} {j : Nat} {p p2 pos pos2 : Pos} (tk : Takes X W) (q : PySem.W.excIn X.K (He.ga X.K x) He.veBase "ValueError.__new__" = true ∧ PySem.W.keepIn X.K (.ref (He.ga X.K x)) = true ∧ PySem.W.subIn X.K (.ref (He.ga X.K x)) (.type "BaseException") = some true ∧ PySem.W.typeIn X.K (.ref (He.ga X.K x)) = some (.type "type"))
    (gC : X.mg x = some (.ref (He.ga X.K x))) (k : E.xs x [] ds) (hg : Gl X x := by rfl) (hc : X.calm = true := by rfl) (hdb : (x == ("__debug__" : Str)) = false := by decide) : DSt X T W U (.Raise (some (.Call (.Name x p) [.Constant (.str m) j p2] [] pos)) none pos2) ds E :=
  (ps_raise hc tk (pmk_own PySem.F.excBase_ValueError q.1 gC q.2.1 (raises_own q.2.2.1 q.2.2.2) hg hdb)).weak fun D σ H ⟨I0, H0, I, en, k1, k2, k3, k4, k5⟩ =>
    k5 x [] none σ H ⟨ds, I, en, Pres.refl I H, rfl, k⟩
/-- try: body except X: suite, X an own class; the suite is in another context -/
theorem ds_try {body suite : List Stmt} {b₀ : Stmt} {x : Str} {np pos pos' : Pos} (M : Str → Bool) (tk : Takes X W) (gC : X.mg x = some (.ref (He.ga X.K x))) (hM : ∀ C fs ds', E.xs C fs ds' → True)
    (hb : ∀ (W' : WX) (pn : List (Addr × Obj)) (xe : Value → Shared → Prop), Takes (X.tr pn xe) W' → PassesOwn (model X.prog X.w) X.A X.env xe →
      DSs (X.tr pn xe) T W' U body ds { E with xs := fun C fs ds' => PySem.W.exmOne X.K (.ref (He.ga X.K C)) (.ref (He.ga X.K x)) = some (M C) ∧ (M C = false → E.xs C fs ds') ∧ (M C = true → ∀ (a : Addr) (pn : List (Addr × Obj)), DSs (X.suite a pn) T W0 U (b₀ :: suite) ds' { E with xs := fun _ _ _ => False }) })
    (hs : X.stack = X.env :: X.outer := by rfl) (hf : X.env.frame = some X.env.locals := by rfl) (hg : Gl X x := by rfl) (hdb : (x == ("__debug__" : Str)) = false := by decide) :
    DSt X T W U (.Try body [.ExceptHandler (some (.Name x np)) none (b₀ :: suite) pos'] [] [] pos) ds E := by
  refine (ps_try_only (x := x) (c := .ref (He.ga X.K x)) (pos' := pos') (np := np) (Wout := W) hs hf ⟨hg, hdb, .inl gC⟩ tk (tb := fun W' => sV (gx X T) W' U ds { E with xs := fun C fs ds' => PySem.W.exmOne X.K (.ref (He.ga X.K C)) (.ref (He.ga X.K x)) = some (M C) ∧ (M C = false → E.xs C fs ds') ∧ (M C = true → ∀ (a : Addr) (pn : List (Addr × Obj)), DSs (X.suite a pn) T W0 U (b₀ :: suite) ds' { E with xs := fun _ _ _ => False }) })
    (ts := fun a cls d => fun D σ H => ∃ ds', (∀ (a : Addr) (pn : List (Addr × Obj)), DSs (X.suite a pn) T W0 U (b₀ :: suite) ds' { E with xs := fun _ _ _ => False }) ∧ sV (gx X T) W0 U ds' { E with xs := fun _ _ _ => False } D σ H)
    (fun W' pn xe tk' ho => hb W' pn xe tk' ho) (fun a oe cls d pn _ _ => ⟨fun pins s σ H D I ⟨ds', h1, h2⟩ => (h1 a _).run pins s σ H D I h2⟩)).weak fun D σ H ⟨I0, H0, I, en, k1, k2, k3, k4, k5⟩ => ?_
  refine ⟨I0, H0, I, en, k1, k2, k3, k4, ?_⟩
  rintro C fs d σ' H' ⟨ds', I', e', p', x', m1, m2, m3⟩
  refine ⟨M C, m1, fun hb' a _ => ⟨ds', m3 hb', ?_⟩, fun hb' => k5 C fs d σ' H' ⟨ds', I', e', p', x', m2 hb'⟩⟩
  exact ⟨I0, H0, I', e', fun s h n => k1 s h (n.pre p'), k2, fun s h n => k3 s h (n.pre p'), fun s h n => k4 s h (n.pre p'), fun _ _ _ _ _ ⟨_, _, _, _, _, q⟩ => q.elim⟩
end
end Lp

/-! A law's own def: its script cut off, the rest over data. -/
namespace Lp
open PySem PySem.Spec PyProof.Rows L2
def spLaw (G : Glb) : Sp := fun vs H Q _ => ∃ (a : Addr) (ns : List Int), vs = [.ref a] ∧ SqL G.K H a (ns.map V.int) ∧ ns.length ≤ 63 ∧ NdefX.TabsN G.T H ∧ ∀ H', Q (.bl true) H'
abbrev tCut63 (K : PySem.W.Frag) : TS := tAsg (tSl (rSlL K) (tVar 0) tNoPart (tPart (tC (.int 63)))) (gName 0)
theorem cut63 {ns : List Int} (h : ns.length ≤ 63) : cutV (ns.map V.int) none (some 63) = ns.map V.int := by
  unfold cutV
  rw [HT.sIx_none, show (some (63 : Int)) = some ((63 : Nat) : Int) from rfl, HT.sIx_nat, List.drop_zero, List.length_map, Nat.min_eq_right h, Nat.sub_zero]
  exact List.take_of_length_le (by rw [List.length_map]; exact Nat.le_refl _)
theorem okLaw {G : Glb} {x qual : Str} {params : Arguments} {first : Stmt} {rest : List Stmt} {body : List Stmt} {scope : Scope} {f : Addr} {fd : FuncData} {N : List Str} {p : Str} {k : Nat} (F : FunD G.K x qual params body scope [] [] f fd) (eb : body = first :: rest) (S : FnScope N [p] scope)
    (hp : ∀ (cdv : Value) (Ar : Around) (outer : List Env) (s : Shared) (H : Hp) (E : XK), PS (cxOf CX0 G.P G.w G.K G.mg G.base N qual scope f cdv Ar outer s H E).nox first (tCut63 G.K))
    (hb : ∀ (cdv : Value) (Ar : Around) (outer : List Env) (s : Shared) (H : Hp) (E : XK), Room k (Ar.deeper (envOfC qual scope s.heap.objs.size f cdv)) → ∀ ns : List Int, ns.length ≤ 63 →
      DSs (cxOf CX0 G.P G.w G.K G.mg G.base N qual scope f cdv Ar outer s H E).nox G.T W0 true rest (startD N.length [.lst (ns.map .int)]) { nx := fun _ => False, rt := fun t => t = .im (.bl true) }) :
    FnOk G.P G.w G.K G.mg G.base CX0 (k + 1) f fd [p] (spLaw G) := by
  subst eb
  refine F.ok S (fun vs H Q E ⟨a, ns, e, _⟩ => by rw [e]; rfl) (fun cdv Ar outer s H vs Q E hr ⟨a, ns, e, hS, hl, tb, k⟩ => ?_)
  subst e
  have h := hb cdv Ar outer s H E hr ns hl
  refine ⟨_, PSs.nox (pss_cons (hp cdv Ar outer s H E) h), ?_⟩
  have hN : 1 ≤ N.length := by
    have e1 := congrArg List.length S.pre
    rw [List.length_take] at e1
    have : [p].length = 1 := rfl
    omega
  obtain ⟨m, hm⟩ : ∃ m, N.length = m + 1 := ⟨N.length - 1, by omega⟩
  refine ⟨_, rfl, 63, rfl, a, _, rfl, hS, fun q hq => ?_⟩
  rw [cut63 hl]
  have rd : RdS (fun _ => none) H := fun a u (z : (none : Option HO) = some u) => nomatch z
  have st : Step G (fun _ => none) H (upd (fun _ => none) q (.lst (ns.map V.int))) (upd H q (.lst (ns.map V.int))) := Step.new rd hq
  have en : EnvR G true (upd (fun _ => none) q (.lst (ns.map V.int))) (upd H q (.lst (ns.map V.int))) (upd (fun _ => none) q (.lst (ns.map V.int))) (upd H q (.lst (ns.map V.int))) (L2.start N [.ref q]) (startD N.length [.lst (ns.map .int)]) :=
    env_start st.sub (st.tabs tb) (.cons (Rep.lst upd_same (Reps.ofInts ns)) .nil) hN
  have es : (L2.start N [V.ref a]).set 0 (some (.ref q)) = L2.start N [.ref q] := by
    unfold L2.start
    rfl
  show sV G W0 true _ _ _ ((L2.start N [V.ref a]).set 0 (some (.ref q))) _
  rw [es]
  refine ⟨_, _, _, en, ?_, ?_, ?_, ?_, ?_⟩
  · rintro _ _ ⟨_, _, _, _, z⟩
    exact z.elim
  · rintro v H' t ⟨I', s1, r1⟩ ht
    have ht2 : t = .im (.bl true) := ht
    subst ht2
    cases r1
    exact k H'
  · rintro _ _ ⟨_, _, _, _, z⟩
    exact z
  · rintro _ _ ⟨_, _, _, _, z⟩
    exact z
  · rintro _ _ _ _ _ ⟨_, _, _, _, _, z⟩
    exact z
section
variable {X : Cx} {T : List NdefX.NTab} {U : Bool} {ds : List DS}
theorem de_neg {a : Expr} {pos : Pos} {i : Int} (ha : DE X T U a ds (.int i)) : DE X T U (.UnaryOp .USub a pos) ds (.int (-i)) :=
  (pe_un un_neg ha).weak fun σ H Q ⟨I0, H0, I, en, k⟩ => ⟨I0, H0, I, en, fun v I1 H1 s1 r1 => by
    cases r1
    exact ⟨i, rfl, k _ I1 H1 s1 (.int _)⟩⟩
end
end Lp

/-! sorted(names, key=f), f a def that only makes objects. -/
namespace Lp
open PySem PySem.Spec PyProof.Rows L2
/-- f called with a text keeps all, and gives the key -/
structure PureKey (G : Glb) (f : Addr) (k : Str → PyData) : Prop where
  run : ∀ (A : Around) (outer : List Env) (s : Shared) (H : Hp) (x : Str) (t : Tok), Room 1 A → x.length ≤ 100000 → Env0 G.P G.w G.K G.mg G.base A outer s H → wpAny (model G.P G.w) A (call (.ref f) [.str x t]) (PySem.W.KeyPure (k x) s) (fun _ _ => False) s
/-- the order of keys (length, text) -/
def rankD (x : Str) : PyData := .tuple [.int (x.length : Int), .str x]
def sortN (ns : List Str) : List Str := ns.mergeSort (PySem.W.dataLe false rankD)
theorem vals_each : ∀ {us : List Value} {ns : List Str}, Vals (ns.map V.str) us → PySem.W.EachIs (fun v x => ∃ t, v = Value.str x t) us ns
  | [], [], _ => .nil
  | [], _ :: _, h => nomatch h
  | _ :: _, [], h => nomatch h
  | _ :: _, _ :: _, .cons a b => .cons a (vals_each b)
theorem each_vals : ∀ {us : List Value} {ns : List Str}, PySem.W.EachIs (fun v x => ∃ t, v = Value.str x t) us ns → Vals (ns.map V.str) us
  | _, _, .nil => .nil
  | _, _, .cons a b => .cons a (each_vals b)
def rSortedF (K : PySem.W.Frag) (f : Addr) : List V → List V → Hp → VK → Prop := fun xs zs H Q => ∃ (a : Addr) (ns : List Str), xs = [.ref a] ∧ zs = [.ref f] ∧ SqL K H a (ns.map V.str) ∧ (∀ n ∈ ns, n.length ≤ 100000) ∧ ∀ p, H p = none → Q (.ref p) (upd H p (.lst ((sortN ns).map V.str)))
theorem cr_sortedF {X : Cx} {T : List NdefX.NTab} {f : Addr} {j : Nat} (hk : PureKey (gx X T) f rankD) (hr : Room j X.A) (hj : 3 ≤ j) : CallRK X (.builtin "sorted") [Str.ofString "key"] (rSortedF X.K f) := by
  intro pins s σ H vs zs us ws Q I r rz h
  obtain ⟨a, ns, rfl, rfl, hs, hbd, q⟩ := h
  obtain rfl := Vals.ref1 r
  obtain ⟨w1, rfl, e1⟩ := vals1 rz
  obtain rfl : w1 = Value.ref f := e1
  obtain ⟨its, rv, hl, hz⟩ := I.list hs
  rw [List.length_map] at hz
  have ei := vals_each rv
  refine PySem.W.sorted_key_data (b := false) (kw := [(Str.ofString "key", Value.ref f)]) rankD hl.isList ei (PySem.W.AllAlike.of fun _ _ => by simp [rankD, PySem.W.alike, PySem.W.alikeAll]) (PySem.W.Sortable.tuples fun _ => ⟨_, _, rfl⟩) hz (fun p _ => ?_) (PyProof.Rows.ksk_s1 _ _) (fun _ => PyProof.Rows.ksk_l1 _ _) (fun _ => PyProof.Rows.ksk_t1 _ _)
    (fun v x ⟨t, e⟩ hx h tk kp => ?_) fun out c h' tk kp _ hD hlen eo => ?_
  · have hd : (rankD p).depth = 1 := by simp [rankD, PyData.depth, PyData.depthAll]
    have := hr.units
    omega
  · subst e
    have I2 : Inv X pins σ H { s with heap := h, toks := tk } := I.kept kp
    have hr2 : Room 1 X.A.in1.in1 := (((hr.mono hj).in1).in1)
    exact hk.run X.A.in1.in1 X.stack _ H x t hr2 (hbd x hx) I2.env0.in1.in1
  · have hv := each_vals (ns := ns.mergeSort (PySem.W.dataLe false rankD)) eo
    have hl2 : (sortN ns).length = ns.length := List.length_mergeSort _
    refine ⟨.ref _, upd H (s.heap.objs.size + 1) (.lst ((sortN ns).map V.str)), I.laid (t' := tk) kp (Nat.le_succ _) ⟨?_, out, c, hv, hD⟩, rfl, q _ (I.hok.fresh (Nat.le_succ _))⟩
    rw [List.length_map, hl2]
    exact hz
section
variable {X : Cx} {T : List NdefX.NTab} {U : Bool} {ds : List DS} {e : Expr} {x : Str} {p p2 pos kpos : Pos} {ns : List Str}
/-- sorted(e, key=x), x a def of the program -/
theorem dv_sortN {j : Nat} (h : DE X T U e ds (.lst (ns.map .str))) (hb : ∀ n ∈ ns, n.length ≤ 100000) (hk : PureKey (gx X T) (He.ga X.K x) rankD) (hm : X.mg x = some (.ref (He.ga X.K x))) (hr : Room j X.A) (hs : X.mg "sorted" = none) (hj : 3 ≤ j := by decide) (hg : Gl X x := by rfl) (hgs : Gl X "sorted" := by rfl) (hdb : (x == ("__debug__" : Str)) = false := by decide)
    (he1 : starEach [e] X.env = [(false, eval e X.env)] := by rfl)
    (he : backTo pos (starEach [e] X.env) = (false, eval e X.env) :: backTo pos (starEach [] X.env) := by rfl) (hpl : (backTo pos (starEach [e] X.env)).any (·.1) = false := by rfl)
    (hall : (backToKw pos (keywordEach [⟨some "key", .Name x p2, kpos⟩] X.env)).all (·.1.isSome) = true := by rfl) (hnone : (backToKw pos (keywordEach [⟨some "key", .Name x p2, kpos⟩] X.env)).any (·.1.isNone) = false := by rfl) (hks : (backToKw pos (keywordEach [⟨some "key", .Name x p2, kpos⟩] X.env)).filterMap (·.1) = [Str.ofString "key"] := by rfl) :
    DV X T U (.Call (.Name "sorted" p) [e] [⟨some "key", .Name x p2, kpos⟩] pos) ds (.own ((sortN ns).map .str)) :=
  (pe_callBK (p := p) (r := rSortedF X.K (He.ga X.K x)) (cr_sortedF hk hr hj) hgs hs rfl (da_cons h da_nil he1) (pk_cons (pe_glob (v := .ref (He.ga X.K x)) hg hm rfl hdb) pk_nil) (by decide) (by decide) he hpl hall hnone hks).weak
    fun σ H Q ⟨I0, H0, I, en, k⟩ => ⟨I0, H0, I, en, fun vs I1 H1 s1 r1 => by
      cases r1 with
      | cons a b =>
        cases b
        cases a with
        | lst a b =>
          obtain rfl := b.strs
          exact ⟨_, ns, rfl, rfl, SqL.of (s1.sub.lst a), hb, fun q hq => k _ I1 _ (s1.trans (Step.newOwn s1.sub hq)) ⟨q, _, rfl, s1.free hq, s1.sub.free hq, upd_same, Reps.ofStrs _⟩⟩⟩
end
end Lp

/-! Dicts walked over (locked for good), instances made and read, None or a text. -/
namespace Lp
open PySem PySem.Spec PyProof.Rows L2
/-! ### a dict that is walked over is locked -/
def tLk (te : TE) : TE := fun σ H Q => te σ H fun v H' => ∃ d kvs, v = .ref d ∧ ((H' d = some (.dK kvs) ∧ ∀ o, Q v (upd H' d (.frz o (.dK kvs)))) ∨ ((∃ o, H' d = some (.frz o (.dK kvs))) ∧ Q v H'))
theorem pe_lk {X : Cx} {e : Expr} {te : TE} (he : PE X e te) : PE X e (tLk te) := ⟨fun pins s σ H Q I h => thn (he.run pins s σ H _ I h) fun u s1 ⟨v, H1, I1, r, d, kvs, ev, q⟩ => by
  rcases q with ⟨hd, q⟩ | ⟨_, q⟩
  · obtain ⟨od, I2⟩ := I1.lock hd trivial
    exact ⟨v, _, I2, r, q od⟩
  · exact ⟨v, H1, I1, r, q⟩⟩
/-- what the walk over a dict reads -/
inductive DK where | keys | vals | items
def DK.it : DK → Addr → Obj → List (Key × V) → It
  | .keys => Itk
  | .vals => Itd
  | .items => Iti
def DK.ds : DK → List (Str × D) → List D
  | .keys, kvs => kvs.map fun kv => .str kv.1
  | .vals, kvs => kvs.map fun kv => kv.2
  | .items, kvs => kvs.map fun kv => .tup [.str kv.1, kv.2]
section
variable {G : Glb} {I : Hp}
theorem RepF.get : ∀ {fs : List (Str × V)} {kds : List (Str × D)} {i : Nat} {x : Str} {d : D}, RepF G I fs kds → kds[i]? = some (x, d) → ∃ v, (kvK fs)[i]? = some (Sum.inr x, v) ∧ Rep G I v d
  | _, _, _, _, _, .nil, e => by simp at e
  | _, _, 0, _, _, .cons h _, e => by simp at e; obtain ⟨rfl, rfl⟩ := e; exact ⟨_, rfl, h⟩
  | _, _, i + 1, x, d, .cons _ t, e => by
    obtain ⟨v, h1, h2⟩ := RepF.get (i := i) (x := x) (d := d) t (by simpa using e)
    exact ⟨v, by simpa using h1, h2⟩
theorem RepF.mono' {I1 : Hp} (s : Same I I1) {fs : List (Str × V)} {kds : List (Str × D)} (h : RepF G I fs kds) : RepF G I1 fs kds := h.mono s
end
theorem goes_dict {G : Glb} {q : DK} {p : Addr} {o : Obj} {fs : List (Str × V)} {kvs : List (Str × D)} {I H : Hp} (hp : H p = some (.frz o (.dK (kvK fs)))) (r : RepF G I fs kvs) : Goes G (q.it p o (kvK fs)) I H (q.ds kvs) := fun I1 H1 ps rd i => by
  have h1 : H1 p = some (.frz o (.dK (kvK fs))) := ps.frz _ _ _ hp
  have hl : (kvK fs).length = kvs.length := by rw [kvK, List.length_map, r.len]
  have r1 := r.mono ps.same
  cases q with
  | keys =>
    refine ⟨fun hi => ⟨h1, by rw [hl]; rw [DK.ds, List.length_map] at hi; exact hi⟩, fun d hd => ?_⟩
    rw [DK.ds, List.getElem?_map] at hd
    cases e : kvs[i]? with
    | none => rw [e] at hd; cases hd
    | some kd =>
      rw [e] at hd
      cases hd
      obtain ⟨v, hv, rv⟩ := r1.get (x := kd.1) (d := kd.2) e
      refine ⟨⟨h1, (List.getElem?_eq_some_iff.mp hv).1⟩, fun x H2 ⟨e2, k, v2, f1, f2⟩ => ?_⟩
      subst e2
      rw [hv] at f1
      cases f1
      subst f2
      exact ⟨I1, Step.refl rd, .str _⟩
  | vals =>
    refine ⟨fun hi => ⟨h1, by rw [hl]; rw [DK.ds, List.length_map] at hi; exact hi⟩, fun d hd => ?_⟩
    rw [DK.ds, List.getElem?_map] at hd
    cases e : kvs[i]? with
    | none => rw [e] at hd; cases hd
    | some kd =>
      rw [e] at hd
      cases hd
      obtain ⟨v, hv, rv⟩ := r1.get (x := kd.1) (d := kd.2) e
      refine ⟨⟨h1, (List.getElem?_eq_some_iff.mp hv).1⟩, fun x H2 ⟨e2, k, f1⟩ => ?_⟩
      subst e2
      rw [hv] at f1
      cases f1
      exact ⟨I1, Step.refl rd, rv⟩
  | items =>
    refine ⟨fun hi => ⟨h1, by rw [hl]; rw [DK.ds, List.length_map] at hi; exact hi⟩, fun d hd => ?_⟩
    rw [DK.ds, List.getElem?_map] at hd
    cases e : kvs[i]? with
    | none => rw [e] at hd; cases hd
    | some kd =>
      rw [e] at hd
      cases hd
      obtain ⟨v, hv, rv⟩ := r1.get (x := kd.1) (d := kd.2) e
      refine ⟨⟨h1, (List.getElem?_eq_some_iff.mp hv).1⟩, fun x H2 ⟨t, k, v2, f1, f2, f3, f4⟩ => ?_⟩
      rw [hv] at f1
      cases f1
      subst f2 f4
      refine ⟨_, Step.new rd f3, Rep.tup upd_same (.cons (.str _) (.cons ?_ .nil))⟩
      exact rv.mono (Step.new (G := G) rd f3).isub
section
variable {X : Cx} {T : List NdefX.NTab} {U : Bool} {ds : List DS} {tg e : Expr} {kvs : List (Str × D)} {apos cpos : Pos}
/-- a told dict -/
theorem lk_told {q : DK} {σ : L2.St} {H : Hp} {R : It → Hp → Prop} (h : iV (gx X T) U ds (q.ds kvs) σ H R) : tLk (eV (gx X T) U ds (.im (.dic kvs))) σ H fun x H1 => ∃ d o ks, x = .ref d ∧ H1 d = some (.frz o (.dK ks)) ∧ R (q.it d o ks) H1 := by
  obtain ⟨I0, H0, I, en, k⟩ := h
  refine ⟨I0, H0, I, en, fun v I' H' st r => ?_⟩
  cases r with
  | @dic p fs _ a b =>
    refine ⟨p, kvK fs, rfl, ?_⟩
    rcases st.sub.dic a with z | ⟨o, z⟩
    · refine .inl ⟨z, fun o => ⟨p, o, _, rfl, upd_same, ?_⟩⟩
      have s2 := st.trans (Step.lock (o := o) st.sub a z)
      exact k _ _ _ s2 (goes_dict upd_same b)
    · exact .inr ⟨⟨o, z⟩, p, o, _, rfl, z, k _ _ _ st (goes_dict z b)⟩
/-- a dict just made -/
theorem lk_new {q : DK} {σ : L2.St} {H : Hp} {R : It → Hp → Prop} (h : iV (gx X T) U ds (q.ds kvs) σ H R) : tLk (eV (gx X T) U ds (.ownD kvs)) σ H fun x H1 => ∃ d o ks, x = .ref d ∧ H1 d = some (.frz o (.dK ks)) ∧ R (q.it d o ks) H1 := by
  obtain ⟨I0, H0, I, en, k⟩ := h
  refine ⟨I0, H0, I, en, fun v I' H' st ⟨p, fs, ev, hn, hi, hp, r⟩ => ?_⟩
  subst ev
  refine ⟨p, kvK fs, rfl, .inl ⟨hp, fun o => ⟨p, o, _, rfl, upd_same, ?_⟩⟩⟩
  have s2 : Step (gx X T) I H I' (upd H' p (.frz o (.dK (kvK fs)))) := st.mutOwn hi hn (by rw [hp]; exact ownNd)
  exact k _ _ _ s2 (goes_dict upd_same r)
theorem di_keys (h : DE X T U e ds (.dic kvs)) : DI X T U tg e ds (DK.keys.ds kvs) := ⟨fun pins s σ H R I q => (pi_keys (tg := tg) (pe_lk h)).run pins s σ H R I (by
  obtain ⟨I0, H0, I1, en, k⟩ := lk_told (q := .keys) q
  refine ⟨I0, H0, I1, en, fun v I' H' st r => ?_⟩
  obtain ⟨d, ks, ev, z⟩ := k v I' H' st r
  refine ⟨d, ks, ev, z.imp (fun ⟨a, b⟩ => ⟨a, fun o => ?_⟩) fun ⟨a, b⟩ => ⟨a, ?_⟩⟩
  · obtain ⟨d, o, ks, e1, e2, e3⟩ := b o
    exact ⟨d, o, e1, .inl ⟨ks, e2, e3⟩⟩
  · obtain ⟨d, o, ks, e1, e2, e3⟩ := b
    exact ⟨d, o, e1, .inl ⟨ks, e2, e3⟩⟩)⟩
theorem di_keysNew (h : DV X T U e ds (.ownD kvs)) : DI X T U tg e ds (DK.keys.ds kvs) := ⟨fun pins s σ H R I q => (pi_keys (tg := tg) (pe_lk h)).run pins s σ H R I (by
  obtain ⟨I0, H0, I1, en, k⟩ := lk_new (q := .keys) q
  refine ⟨I0, H0, I1, en, fun v I' H' st r => ?_⟩
  obtain ⟨d, ks, ev, z⟩ := k v I' H' st r
  refine ⟨d, ks, ev, z.imp (fun ⟨a, b⟩ => ⟨a, fun o => ?_⟩) fun ⟨a, b⟩ => ⟨a, ?_⟩⟩
  · obtain ⟨d, o, ks, e1, e2, e3⟩ := b o
    exact ⟨d, o, e1, .inl ⟨ks, e2, e3⟩⟩
  · obtain ⟨d, o, ks, e1, e2, e3⟩ := b
    exact ⟨d, o, e1, .inl ⟨ks, e2, e3⟩⟩)⟩
theorem di_items {elts : List Expr} {kk : Nat} {tpos : Pos} (h : DE X T U e ds (.dic kvs)) (hb : attributeBase e "items" X.env (eval e X.env) = eval e X.env := by rfl) (hl : (apos.endLine == cpos.line) = true := by rfl) : DI X T U (.Tuple elts kk tpos) (.Call (.Attribute e "items" apos) [] [] cpos) ds (DK.items.ds kvs) :=
  ⟨fun pins s σ H R I q => (pi_items (pe_lk h) hb hl).run pins s σ H R I (lk_told (q := .items) q)⟩
theorem di_itemsNew {elts : List Expr} {kk : Nat} {tpos : Pos} (h : DV X T U e ds (.ownD kvs)) (hb : attributeBase e "items" X.env (eval e X.env) = eval e X.env := by rfl) (hl : (apos.endLine == cpos.line) = true := by rfl) : DI X T U (.Tuple elts kk tpos) (.Call (.Attribute e "items" apos) [] [] cpos) ds (DK.items.ds kvs) :=
  ⟨fun pins s σ H R I q => (pi_items (pe_lk h) hb hl).run pins s σ H R I (lk_new (q := .items) q)⟩
theorem di_vals (h : DE X T U e ds (.dic kvs)) (hb : attributeBase e "values" X.env (eval e X.env) = eval e X.env := by rfl) (hl : (apos.endLine == cpos.line) = true := by rfl) : DI X T U tg (.Call (.Attribute e "values" apos) [] [] cpos) ds (DK.vals.ds kvs) :=
  ⟨fun pins s σ H R I q => (pi_values (pe_lk h) hb hl).run pins s σ H R I (lk_told (q := .vals) q)⟩
end
/-! ### None or a text -/
def gD : Option Str → D
  | none => .non
  | some x => .str x
instance : PySem.W.Datum (Option Str) where
  toD
    | none => .none
    | some x => .str x
  plain a := by cases a <;> rfl
  eqv a b := by
    cases a with
    | none => cases b with
      | none => rfl
      | some y => rfl
    | some x => cases b with
      | none => rfl
      | some y =>
        rw [show decide (some x = some y) = decide (x = y) from decide_eq_decide.mpr ⟨fun e => Option.some.inj e, fun e => by rw [e]⟩]
        exact PySem.W.Datum.eqv (α := Str) x y
  depth := 0
  depth_le a := by cases a <;> exact Nat.le_refl _
instance : En (Option Str) where
  enc := gD
  dp {_ _ _ _ x} r h := by
    cases x with
    | none => cases h; exact .non
    | some y => cases h; exact .str _
/-! ### an entry of a book -/
structure Ent where
  nm : Str
  mem : List Str
  left : List Str
  gate : Option Str
  deriving DecidableEq
def Ent.d (e : Ent) : D := .tup [.str e.nm, .lst (e.mem.map .str), .lst (e.left.map .str), gD e.gate]
instance : PySem.W.Datum Ent where
  toD e := .tuple [PySem.W.Datum.toD e.nm, PySem.W.Datum.toD e.mem, PySem.W.Datum.toD e.left, PySem.W.Datum.toD e.gate]
  plain e := by simp only [PyData.plain, PyData.plainAll, PySem.W.Datum.plain, Bool.and_self]
  eqv a b := by
    simp only [PyData.eqv, PyData.eqvAll]
    rw [PySem.W.Datum.eqv, PySem.W.Datum.eqv, PySem.W.Datum.eqv, PySem.W.Datum.eqv, Bool.and_true, ← Bool.decide_and, ← Bool.decide_and, ← Bool.decide_and]
    cases a
    cases b
    exact decide_eq_decide.mpr ⟨fun ⟨h1, h2, h3, h4⟩ => by
      dsimp only at h1 h2 h3 h4
      rw [h1, h2, h3, h4], fun e => by cases e; exact ⟨rfl, rfl, rfl, rfl⟩⟩
  depth := 2
  depth_le e := by
    simp only [PyData.depth, PyData.depthAll]
    have h1 := PySem.W.Datum.depth_le e.nm
    have h2 := PySem.W.Datum.depth_le e.mem
    have h3 := PySem.W.Datum.depth_le e.left
    have h4 := PySem.W.Datum.depth_le e.gate
    have d1 : PySem.W.Datum.depth Str = 0 := rfl
    have d2 : PySem.W.Datum.depth (List Str) = 1 := rfl
    have d4 : PySem.W.Datum.depth (Option Str) = 0 := rfl
    omega
instance : En Ent where
  enc := Ent.d
  dp r h := by
    cases h with
    | tup a b =>
      cases b with
      | cons b1 b =>
        cases b with
        | cons b2 b =>
          cases b with
          | cons b3 b =>
            cases b with
            | cons b4 b =>
              cases b
              exact .tup (SqT.of (r.tup a)) (.cons (En.dp (α := Str) r b1) (.cons (En.dp (α := List Str) r b2) (.cons (En.dp (α := List Str) r b3) (.cons (En.dp (α := Option Str) r b4) .nil))))
end Lp

/-! Instances: made, read. -/
namespace Lp
open PySem PySem.Spec PyProof.Rows L2
/-! ### trees -/
def DS.tree : DS → Option OT
  | .no => none
  | .im d => some (.im d)
  | .own xs => some (.lst (xs.map .im))
  | .ownD kvs => some (.dic (kvs.map fun kv => (kv.1, .im kv.2)))
  | .ot _ t => some t
  | .gh _ => none
section
variable {G : Glb} {I H Hb : Hp}
theorem ors_im : ∀ {vs : List V} {xs : List D}, Reps G I vs xs → ORs G I H vs (xs.map .im) []
  | _, _, .nil => .nil
  | _, _, .cons a b => .cons (A := []) (B := []) (.im a) (ors_im b) (fun _ h => absurd h (by simp))
theorem orf_im : ∀ {vs : List (Str × V)} {xs : List (Str × D)}, RepF G I vs xs → ORF G I H vs (xs.map fun kv => (kv.1, .im kv.2)) []
  | _, _, .nil => .nil
  | _, _, .cons a b => .cons (A := []) (B := []) (.im a) (orf_im b) (fun _ h => absurd h (by simp))
theorem ValR.tree {v : V} : ∀ {s : DS} {t : OT}, ValR G Hb I H v s → s.tree = some t → ∃ A, OR G I H v t A ∧ ∀ a ∈ A, Hb a = none
  | .no, _, _, e => nomatch e
  | .gh _, _, _, e => nomatch e
  | .im _, _, r, e => by cases e; exact ⟨[], .im r, fun _ h => absurd h (by simp)⟩
  | .own _, _, ⟨p, vs, ev, n, i, h, r⟩, e => by
    cases e
    subst ev
    exact ⟨[p], .lst h i (by simp) (ors_im r), fun a ha => by rw [List.mem_singleton.mp ha]; exact n⟩
  | .ownD _, _, ⟨p, vs, ev, n, i, h, r⟩, e => by
    cases e
    subst ev
    exact ⟨[p], .dic h i (by simp) (orf_im r), fun a ha => by rw [List.mem_singleton.mp ha]; exact n⟩
  | .ot _ _, _, ⟨A, r, n, _⟩, e => by cases e; exact ⟨A, r, n⟩
theorem ORF.snoc {x : Str} {v : V} {t : OT} {B : List Addr} (h : OR G I H v t B) : ∀ {vs : List (Str × V)} {ts : List (Str × OT)} {A : List Addr}, ORF G I H vs ts A → (∀ a ∈ A, a ∉ B) → ORF G I H (vs ++ [(x, v)]) (ts ++ [(x, t)]) (A ++ B)
  | _, _, _, .nil, _ => by
    have z := ORF.cons (x := x) h (ORF.nil (G := G) (I := I) (H := H)) (fun _ _ z => absurd z (by simp))
    rwa [List.append_nil] at z
  | _, _, _, .cons (A := A0) (B := A1) a b d, k => by
    rw [List.append_assoc]
    refine .cons a (ORF.snoc h b fun x hx => k x (List.mem_append_right _ hx)) fun x hx z => ?_
    rcases List.mem_append.mp z with z | z
    · exact d x hx z
    · exact k x (List.mem_append_left _ hx) z
theorem ORs.snoc {v : V} {t : OT} {B : List Addr} (h : OR G I H v t B) : ∀ {vs : List V} {ts : List OT} {A : List Addr}, ORs G I H vs ts A → (∀ a ∈ A, a ∉ B) → ORs G I H (vs ++ [v]) (ts ++ [t]) (A ++ B)
  | _, _, _, .nil, _ => by
    have z := ORs.cons h (ORs.nil (G := G) (I := I) (H := H)) (fun _ _ z => absurd z (by simp))
    rwa [List.append_nil] at z
  | _, _, _, .cons (A := A0) (B := A1) a b d, k => by
    rw [List.append_assoc]
    refine .cons a (ORs.snoc h b fun x hx => k x (List.mem_append_right _ hx)) fun x hx z => ?_
    rcases List.mem_append.mp z with z | z
    · exact d x hx z
    · exact k x (List.mem_append_left _ hx) z
theorem ORF.names : ∀ {vs : List (Str × V)} {ts : List (Str × OT)} {A : List Addr}, ORF G I H vs ts A → vs.map (·.1) = ts.map (·.1)
  | _, _, _, .nil => rfl
  | _, _, _, .cons _ b _ => congrArg _ b.names
theorem ORF.len {vs : List (Str × V)} {ts : List (Str × OT)} {A : List Addr} (h : ORF G I H vs ts A) : vs.length = ts.length := by
  have e := congrArg List.length h.names
  rwa [List.length_map, List.length_map] at e
theorem RepF.look (f : Str) : ∀ {fs : List (Str × V)} {kds : List (Str × D)} {d : D}, RepF G I fs kds → kds.lookup f = some d → ∃ v, fs.lookup f = some v ∧ Rep G I v d
  | _, _, _, .nil, e => nomatch e
  | _, _, d, .cons (x := x) a b, e => by
    rw [List.lookup_cons] at e ⊢
    cases q : f == x with
    | true =>
      rw [q] at e
      cases e
      exact ⟨_, rfl, a⟩
    | false =>
      rw [q] at e
      exact RepF.look f b e
end
theorem putF_new {f : Str} {v : V} : ∀ {fs : List (Str × V)}, f ∉ fs.map (·.1) → putF f v fs = fs ++ [(f, v)]
  | [], _ => rfl
  | (g, x) :: r, h => by
    rw [List.map_cons, List.mem_cons, not_or] at h
    rw [putF, if_neg fun z => h.1 z.symm, putF_new h.2]
    rfl
/-! ### fields read -/
section
variable {X : Cx} {T : List NdefX.NTab} {W : WX} {U : Bool} {ds : List DS} {s : DS} {E : DEn} {e : Expr} {C f : Str} {fds : List (Str × D)} {d : D} {pos : Pos}
theorem de_fld (h : DE X T U e ds (.ins C fds)) (hc : Cls X.K (He.ga X.K C)) (hn : NoAttr X.K (He.ga X.K C) f) (hl : fds.lookup f = some d) (hb : attributeBase e f X.env (eval e X.env) = eval e X.env := by rfl) : DE X T U (.Attribute e f pos) ds d :=
  (pe_fld h hb).weak fun σ H Q ⟨I0, H0, I, en, k⟩ => ⟨I0, H0, I, en, fun v I1 H1 s1 r1 => by
    cases r1 with
    | ins a b =>
      obtain ⟨v, e1, e2⟩ := b.look f hl
      exact ⟨_, _, _, _, v, rfl, s1.sub.ins a, hc, hn, e1, k v I1 H1 s1 e2⟩⟩
/-- x.f = e, x an instance of one's own; the field is new -/
theorem ds_setF (i : Nat) {x : Str} {px pos' : Pos} {ts : List (Str × OT)} {t : OT} {q : Option Addr} (h : ds[i]? = some (.ot q (.ins C ts))) (he : DV X T U e ds s) (ht : s.tree = some t) (k : E.nx (ds.set i (.ot q (.ins C (ts ++ [(f, t)]))))) (hc : Cls X.K (He.ga X.K C)) (hn : NoAttr X.K (He.ga X.K C) f)
    (hnew : f ∉ ts.map (·.1)) (hl : ts.length < 1000) (hN : X.N[i]? = some x := by rfl) (hv : Vis X.env.scope x := by first | exact Or.inl rfl | exact Or.inr (Or.inl rfl) | exact Or.inr (Or.inr rfl))
    (hd : (x == ("__debug__" : Str)) = false := by decide) (hcd : (x == ("__classdict__" : Str)) = false := by decide) (hs : swapsWith e (some (.Attribute (.Name x px) f pos')) pos.line X.env = pure false := by rfl) : DSt X T W U (.Assign [.Attribute (.Name x px) f pos'] e pos) ds E :=
  (ps_fld (pe_var hN hv hd hcd) he hs).weak fun D σ H ⟨I0, H0, I, en, k1, _⟩ => by
    obtain ⟨F, ft⟩ := en.fp
    have hi : i < σ.length := by rw [en.len]; exact (List.getElem?_eq_some_iff.mp h).1
    obtain ⟨w, A, e1, r, hA, hq⟩ := ft.sl i _ _ (List.getElem?_eq_getElem hi) h
    cases r with
    | @ins p dx _ fs _ A a1 a2 a3 a4 =>
    have e2 : σ[i]? = some (some (.ref p)) := by rw [List.getElem?_eq_getElem hi, e1]
    refine ⟨I0, H0, I, en, fun v I1 H1 s1 r1 => ⟨_, e2, ?_⟩⟩
    obtain ⟨B, rB, nB⟩ := r1.tree ht
    have kp : ∀ a ∈ p :: A, I1 a = none ∧ H1 a = H a := fun a ha => by
      refine s1.ownKeep ?_
      exact (OR.ins (dx := dx) (C := C) a1 a2 a3 a4).there a ha
    have p1 := kp p List.mem_cons_self
    have nf : f ∉ fs.map (·.1) := by rw [a4.names]; exact hnew
    have thereN : ∀ a ∈ p :: A, H a ≠ none := fun a ha => by
      obtain ⟨_, u, z, _⟩ := (OR.ins (dx := dx) (C := C) a1 a2 a3 a4).there a ha
      rw [z]
      exact fun q => nomatch q
    have pB : p ∉ B := fun z => thereN p List.mem_cons_self (nB p z)
    refine ⟨p, _, dx, fs, rfl, p1.2.trans a1, hc, hn, by rw [a4.len]; exact hl, k1 _ _ ⟨_, I1, ?_, s1.pres.trans (Pres.own p1.1 (p1.2.trans a1) fun _ _ z => nomatch z), k⟩⟩
    rw [putF_new nf]
    have st : Step (gx X T) I0 H0 I1 (upd H1 p (.ins (He.ga X.K C) dx (fs ++ [(f, v)]))) := (en.st.trans s1).mutOwn p1.1 (hA p List.mem_cons_self).1 (by
      rw [p1.2, a1]
      intro u q
      cases q
      exact ⟨(fun _ z => nomatch z), (fun _ z => nomatch z)⟩)
    have notT : ∀ u, H1 p = some u → (∀ ps, u ≠ HO.tbl ps) ∧ ∀ φ, u ≠ HO.ext φ := by
      rw [p1.2, a1]
      intro u q
      cases q
      exact ⟨(fun _ z => nomatch z), (fun _ z => nomatch z)⟩
    have oB : ∀ a ∈ B, OwnO I1 H1 a := rB.there
    have neB : ∀ a ∈ B, a ≠ p := fun a ha z => pB (by rw [← z]; exact ha)
    have frA : ORF (gx X T) I1 (upd H1 p (.ins (He.ga X.K C) dx (fs ++ [(f, v)]))) fs ts A := a4.frame s1.isub fun a ha => by
      obtain ⟨z1, z2⟩ := kp a (List.mem_cons_of_mem _ ha)
      exact ⟨z1, by rw [upd_ne fun z => a3 (by rw [← z]; exact ha)]; exact z2⟩
    have frB : OR (gx X T) I1 (upd H1 p (.ins (He.ga X.K C) dx (fs ++ [(f, v)]))) v t B := rB.frame (Same.refl I1) fun a ha => ⟨(oB a ha).1, upd_ne (neB a ha)⟩
    have dis : ∀ a ∈ A, a ∉ B := fun a ha z => thereN a (List.mem_cons_of_mem _ ha) (nB a z)
    have new : OR (gx X T) I1 (upd H1 p (.ins (He.ga X.K C) dx (fs ++ [(f, v)]))) (.ref p) (.ins C (ts ++ [(f, t)])) (p :: (A ++ B)) :=
      .ins upd_same p1.1 (fun z => (List.mem_append.mp z).elim a3 pB) (ORF.snoc frB frA dis)
    have z := en.put ft st (tabs_upd (s1.tabs en.tb) notT) (fun a n => by
      by_cases z : a = p
      · rw [z, upd_same]; exact fun q => nomatch q
      · rw [upd_ne z]; exact s1.keepN a n) i (some (.ref p)) (.ot q (.ins C (ts ++ [(f, t)]))) (fun a => a ∈ p :: (A ++ B)) (fun j hj a ha ho => by
        obtain ⟨z1, z2⟩ := s1.ownKeep ho
        exact ⟨z1, by rw [upd_ne fun z => hj (ft.dj j i a ha (by rw [z]; exact (hA p List.mem_cons_self).2))]; exact z2⟩) s1.isub (fun a ha => ⟨(by
        obtain ⟨_, u, z, _⟩ := new.there a ha
        rw [z]
        exact fun q => nomatch q), ?_⟩) ⟨_, _, rfl, new, fun a ha => ⟨?_, ha⟩, hq⟩
    · rwa [show σ.set i (some (.ref p)) = σ from by
        obtain ⟨hl, he⟩ := List.getElem?_eq_some_iff.mp e2
        rw [← he, List.set_getElem_self]] at z
    · rcases List.mem_cons.mp ha with z | z
      · exact .inr (by rw [z]; exact (hA p List.mem_cons_self).2)
      · rcases List.mem_append.mp z with z | z
        · exact .inr (hA a (List.mem_cons_of_mem _ z)).2
        · exact .inl (nB a z)
    · rcases List.mem_cons.mp ha with z | z
      · rw [z]; exact (hA p List.mem_cons_self).1
      · rcases List.mem_append.mp z with z | z
        · exact (hA a (List.mem_cons_of_mem _ z)).1
        · exact en.st.free (nB a z)
end
/-! ### instances made -/
/-- C(..) with data xs gives the tree t, where A tells so -/
def spI (G : Glb) (C : Str) (A : List D → OT → Prop) : Sp := fun vs H Q _ => ∃ (I H0 : Hp) (p dx : Addr) (us : List V) (xs : List D) (t : OT), vs = .ref p :: us ∧ RdS I H0 ∧ NdefX.TabsN G.T H0 ∧ Reps G I us xs ∧ A xs t ∧ H0 p = none ∧ H0 dx = none ∧ dx ≠ p ∧
  H = upd (upd H0 dx (.own p)) p (.ins (He.ga G.K C) dx []) ∧ ∀ I' H' B, Step G I H0 I' H' → OR G I' H' (.ref p) t B → (∀ a ∈ B, H0 a = none) → Q .non H'
theorem okI {G : Glb} {C x qual : Str} {params : Arguments} {body : List Stmt} {scope : Scope} {f : Addr} {fd : FuncData} {N ps : List Str} {k : Nat} {A : List D → OT → Prop} (F : FunD G.K x qual params body scope [] [] f fd) (S : FnScope N ps scope)
    (hA : ∀ xs t, A xs t → xs.length + 1 = ps.length)
    (hb : ∀ (cdv : Value) (Ar : Around) (outer : List Env) (s : Shared) (H : Hp) (E : XK), Room k (Ar.deeper (envOfC qual scope s.heap.objs.size f cdv)) → ∀ p xs t, A xs t →
      DSs (cxOf CX0 G.P G.w G.K G.mg G.base N qual scope f cdv Ar outer s H E).nox G.T W0 false body (.ot (some p) (.ins C []) :: startD (N.length - 1) xs) { nx := fun ds => ds[0]? = some (.ot (some p) t) }) :
    FnOk G.P G.w G.K G.mg G.base CX0 (k + 1) f fd ps (spI G C A) := by
  refine F.ok S (fun vs H Q E ⟨I, H0, p, dx, us, xs, t, e, _, _, rs, hAx, _⟩ => by rw [e, List.length_cons, rs.len]; exact hA xs t hAx) (fun cdv Ar outer s H vs Q E hr ⟨I, H0, p, dx, us, xs, t, e, rd, tb, rs, hAx, hp, hdx, hne, eH, k⟩ => ?_)
  subst e eH
  have h := hb cdv Ar outer s (upd (upd H0 dx (.own p)) p (.ins (He.ga G.K C) dx [])) E hr p xs t hAx
  have hl : xs.length + 1 ≤ N.length := by
    have e1 := S.pre
    have e2 := hA xs t hAx
    rw [e2, ← e1, List.length_take]
    exact Nat.min_le_right _ _
  have s1 : Step G I H0 I (upd H0 dx (.own p)) := Step.newOwn rd hdx
  have hp1 : upd H0 dx (.own p) p = none := by rw [upd_ne fun z => hne z.symm]; exact hp
  have s2 : Step G I H0 I (upd (upd H0 dx (.own p)) p (.ins (He.ga G.K C) dx [])) := s1.trans (Step.newOwn s1.sub hp1)
  have e0 : EnvR G false I H0 I H0 (L2.start (List.replicate (N.length - 1) Str.empty) us) (startD (N.length - 1) xs) := by
    have z := env_start (G := G) (U := false) (N := List.replicate (N.length - 1) Str.empty) rd tb rs (by rw [List.length_replicate]; omega)
    rwa [List.length_replicate] at z
  have e1 : EnvR G false I H0 I H0 (none :: L2.start (List.replicate (N.length - 1) Str.empty) us) (.no :: startD (N.length - 1) xs) := by
    obtain ⟨F, ft⟩ := e0.fp
    refine ⟨e0.st, e0.tb, congrArg (· + 1) e0.len, fun i a => match i with | 0 => False | i + 1 => F i a, fun i o s h1 h2 => ?_, fun i j a h1 h2 => ?_, fun i a h1 => ?_⟩
    · cases i with
      | zero => cases h2; trivial
      | succ i => exact ft.sl i o s h1 h2
    · cases i with
      | zero => exact h1.elim
      | succ i =>
        cases j with
        | zero => exact h2.elim
        | succ j => exact congrArg (· + 1) (ft.dj i j a h1 h2)
    · cases i with
      | zero => exact h1.elim
      | succ i => exact ft.th i a h1
  have e2 : EnvR G false I H0 I (upd (upd H0 dx (.own p)) p (.ins (He.ga G.K C) dx [])) (some (.ref p) :: L2.start (List.replicate (N.length - 1) Str.empty) us) (.ot (some p) (.ins C []) :: startD (N.length - 1) xs) :=
    e1.setNew s2 [p] (fun a ha => by
      rw [List.mem_singleton.mp ha, upd_same]
      exact ⟨hp, fun z => nomatch z⟩) 0 ⟨_, [p], rfl, .ins (A := []) upd_same (rd.free hp) (by simp) .nil, fun a ha => ⟨by rw [List.mem_singleton.mp ha]; exact hp, ha⟩, fun _ z => by cases z; rfl⟩
  have es : L2.start N (.ref p :: us) = some (.ref p) :: L2.start (List.replicate (N.length - 1) Str.empty) us := by
    unfold L2.start
    rw [List.length_replicate, List.map_cons, List.cons_append, List.length_cons, Nat.sub_sub, Nat.add_comm us.length 1]
  refine ⟨_, PSs.nox h, I, H0, I, by rw [es]; exact e2, ?_, ?_, ?_, ?_, ?_⟩
  · rintro σ' H' ⟨ds', I', e', p', q⟩
    obtain ⟨v, B, _, r, hB, hv⟩ := e'.ot q
    rw [hv p rfl] at r
    exact k I' H' B e'.st r hB
  · rintro _ _ _ _ z
    exact z.elim
  · rintro _ _ ⟨_, _, _, _, q⟩
    exact q
  · rintro _ _ ⟨_, _, _, _, q⟩
    exact q
  · rintro _ _ _ _ _ ⟨_, _, _, _, _, q⟩
    exact q
/-- a class by its name, with what an instance is -/
structure MakD (G : Glb) (k : Nat) (x : Str) (ps : List Str) (A : List D → OT → Prop) : Prop where
  mkr : Mk G.K (He.ga G.K x) (He.ma G.K (He.ga G.K x) "__init__")
  ok : FnOk G.P G.w G.K G.mg G.base CX0 k (He.ma G.K (He.ga G.K x) "__init__") (fdOf G.K (He.ma G.K (He.ga G.K x) "__init__")) ps (spI G x A)
  g : G.mg x = some (.ref (He.ga G.K x))
  n : L2.Binds G.K (fdOf G.K (He.ma G.K (He.ga G.K x) "__init__")) ps []
section
variable {X : Cx} {T : List NdefX.NTab} {U : Bool} {ds : List DS}
theorem dv_mk {A : List D → OT → Prop} {k j : Nat} {ps : List Str} {x : Str} {p pos : Pos} {e : Expr} {es : List Expr} {xs : List D} {t : OT} (C : MakD (gx X T) k x ps A) (hr : Room j X.A) (ha : DA X T U (e :: es) ds xs) (hA : A xs t) (hk : k + 1 ≤ j := by decide)
    (hg : Gl X x := by rfl) (hdb : (x == ("__debug__" : Str)) = false := by decide) (he : starEach (e :: es) X.env = (false, eval e X.env) :: starEach es X.env := by rfl) (hpl : (backTo pos (starEach es X.env)).any (·.1) = false := by rfl) : DV X T U (.Call (.Name x p) (e :: es) [] pos) ds (.ot none t) :=
  (pe_make C.mkr C.ok (hr.mono hk) hg C.g C.n .nil (E := E0) pass0 ha hdb he hpl).weak fun σ H Q ⟨I0, H0, I, en, k⟩ => ⟨I0, H0, I, en, fun vs I1 H1 s1 r1 p dx hp hdx hne => by
    refine ⟨I1, H1, p, dx, vs, xs, t, by rw [List.append_nil], s1.sub, (en.step s1).tb, r1, hA, hp, hdx, hne, rfl, fun I' H' B s2 r2 hB => ⟨rfl, ?_⟩⟩
    exact k _ I' H' (s1.trans s2) ⟨B, r2, fun a ha => s1.free (hB a ha), fun _ z => nomatch z⟩⟩
theorem de_mk {A : List D → OT → Prop} {k j : Nat} {ps : List Str} {x : Str} {p pos : Pos} {e : Expr} {es : List Expr} {xs : List D} {t : OT} (C : MakD (gx X T) k x ps A) (hr : Room j X.A) (ha : DA X T U (e :: es) ds xs) (hA : A xs t) (hk : k + 1 ≤ j := by decide)
    (hg : Gl X x := by rfl) (hdb : (x == ("__debug__" : Str)) = false := by decide) (he : starEach (e :: es) X.env = (false, eval e X.env) :: starEach es X.env := by rfl) (hpl : (backTo pos (starEach es X.env)).any (·.1) = false := by rfl) : DE X T U (.Call (.Name x p) (e :: es) [] pos) ds t.fz :=
  dv_fz (dv_mk C hr ha hA hk hg hdb he hpl)
end
end Lp

/-! Dicts of one's own: read, grown. -/
namespace Lp
open PySem PySem.Spec PyProof.Rows L2
theorem u1 {k : Nat} {A : Around} (hr : Room k A) : A.units + 1 < cLine := by
  have := hr.units
  omega
/-- the keys of a slot's own dict -/
def DS.ks : DS → Option (List Str)
  | .ownD kvs => some (kvs.map (·.1))
  | .ot _ (.dic ts) => some (ts.map (·.1))
  | _ => none
theorem RepF.names {G : Glb} {I : Hp} : ∀ {vs : List (Str × V)} {ts : List (Str × D)}, RepF G I vs ts → vs.map (·.1) = ts.map (·.1)
  | _, _, .nil => rfl
  | _, _, .cons _ b => congrArg _ b.names
theorem EnvR.dictAt {G : Glb} {U : Bool} {I0 H0 I H : Hp} {σ : L2.St} {ds : List DS} (e : EnvR G U I0 H0 I H σ ds) {i : Nat} {s : DS} {ks : List Str} (h : ds[i]? = some s) (hk : s.ks = some ks) : ∃ p fs, σ[i]? = some (some (.ref p)) ∧ H p = some (.dK (kvK fs)) ∧ fs.map (·.1) = ks ∧ I p = none := by
  cases s with
  | no => cases hk
  | gh g => cases hk
  | im d => cases hk
  | own xs => cases hk
  | ownD kvs =>
    cases hk
    obtain ⟨p, fs, e1, e2, e3, e4, _⟩ := e.ownD h
    exact ⟨p, fs, e1, e2, e3.names, e4⟩
  | ot q t =>
    obtain ⟨v, A, e1, r, _⟩ := e.ot h
    cases r with
    | im _ => cases hk
    | lst _ _ _ _ => cases hk
    | tup _ _ _ _ => cases hk
    | hole _ => cases hk
    | ins _ _ _ _ => cases hk
    | dic a1 a2 a3 a4 =>
      cases hk
      exact ⟨_, _, e1, a1, a4.names, a2⟩
theorem val_in : ∀ {fs : List (Str × V)} {k : Str}, (valV (kvK fs) (Sum.inr k)).isSome = decide (k ∈ fs.map (·.1))
  | [], k => rfl
  | (x, v) :: r, k => by
    by_cases e : x = k
    · rw [show valV (kvK ((x, v) :: r)) (Sum.inr k) = some v from valV_pos (by rw [← e]), decide_eq_true (by rw [e]; exact List.mem_cons_self)]
      rfl
    · rw [show valV (kvK ((x, v) :: r)) (Sum.inr k) = valV (kvK r) (Sum.inr k) from valV_neg fun z => e (Sum.inr.inj z), val_in]
      refine decide_eq_decide.mpr ?_
      rw [List.map_cons, List.mem_cons]
      exact ⟨.inr, fun z => z.elim (fun z => absurd z.symm e) id⟩
section
variable {X : Cx} {T : List NdefX.NTab} {W : WX} {U : Bool} {ds : List DS} {s : DS} {E : DEn}
section
variable {a : Expr} {k x : Str} {p pos : Pos} {ks : List Str}
theorem inK_run {f : Option V → Bool} {σ : L2.St} {H : Hp} {Q : VK} {c : Bool} (i : Nat) (h : ds[i]? = some s) (hk : s.ks = some ks) (hc : ∀ o : Option V, o.isSome = decide (k ∈ ks) → f o = c) (hw : eV (gx X T) U ds (.im (.bl c)) σ H Q) :
    (eV (gx X T) U ds (.im (.str k))) σ H fun y H1 => tVar i σ H1 fun x H2 => ∃ a o, x = .ref a ∧ DGet H2 a y o ∧ Q (.bl (f o)) H2 := by
  obtain ⟨I0, H0, I, en, kk⟩ := hw
  refine ⟨I0, H0, I, en, fun v I1 H1 s1 r1 => ?_⟩
  cases r1
  obtain ⟨p, fs, e1, e2, e3, e4⟩ := (en.step s1).dictAt h hk
  refine ⟨_, e1, p, valV (kvK fs) (Sum.inr k), rfl, .inl ⟨_, Sum.inr k, .inl e2, rfl, rfl⟩, ?_⟩
  rw [hc _ (by rw [val_in, e3])]
  exact kk _ I1 H1 s1 (.bl c)
/-- k in x, x a dict of one's own -/
theorem dt_inK (i : Nat) (h : ds[i]? = some s) (ha : DE X T U a ds (.str k)) (hu : X.A.units + 1 < cLine) (hk : s.ks = some ks := by rfl) (hN : X.N[i]? = some x := by rfl) (hv : Vis X.env.scope x := by first | exact Or.inl rfl | exact Or.inr (Or.inl rfl) | exact Or.inr (Or.inr rfl))
    (hd : (x == ("__debug__" : Str)) = false := by decide) (hcd : (x == ("__classdict__" : Str)) = false := by decide) : DT X T U (.Compare a [.In] [.Name x p] pos) ds (decide (k ∈ ks)) :=
  (pt_cmp (pc_din hu ha (pe_var hN hv hd hcd)) rfl).weak fun σ H Q ⟨I0, H0, I, en, kk⟩ => inK_run (f := fun o => o.isSome) (Q := fun x H' => ∃ c, x = .bl c ∧ Q c H') i h hk (fun _ h => h) ⟨I0, H0, I, en, fun v I' H' st r => by cases r; exact ⟨_, rfl, kk I' H' st⟩⟩
theorem dt_niK (i : Nat) (h : ds[i]? = some s) (ha : DE X T U a ds (.str k)) (hu : X.A.units + 1 < cLine) (hk : s.ks = some ks := by rfl) (hN : X.N[i]? = some x := by rfl) (hv : Vis X.env.scope x := by first | exact Or.inl rfl | exact Or.inr (Or.inl rfl) | exact Or.inr (Or.inr rfl))
    (hd : (x == ("__debug__" : Str)) = false := by decide) (hcd : (x == ("__classdict__" : Str)) = false := by decide) : DT X T U (.Compare a [.NotIn] [.Name x p] pos) ds (!decide (k ∈ ks)) :=
  (pt_cmp (pc_dnotin hu ha (pe_var hN hv hd hcd)) rfl).weak fun σ H Q ⟨I0, H0, I, en, kk⟩ => inK_run (f := fun o => !o.isSome) (Q := fun x H' => ∃ c, x = .bl c ∧ Q c H') i h hk (fun _ h => by rw [h]) ⟨I0, H0, I, en, fun v I' H' st r => by cases r; exact ⟨_, rfl, kk I' H' st⟩⟩
end
/-- x[k], x a dict of one's own with told values -/
theorem de_dgetO {b : Expr} {k x : Str} {p pos : Pos} {kvs : List (Str × D)} {d : D} (i : Nat) (h : ds[i]? = some (.ownD kvs)) (hb : DE X T U b ds (.str k)) (hk : lookD kvs k = some d) (hu : X.A.units + 1 < cLine) (hN : X.N[i]? = some x := by rfl) (hv : Vis X.env.scope x := by first | exact Or.inl rfl | exact Or.inr (Or.inl rfl) | exact Or.inr (Or.inr rfl))
    (hd : (x == ("__debug__" : Str)) = false := by decide) (hcd : (x == ("__classdict__" : Str)) = false := by decide) (hn : NoSl b := by intro _ _; rfl) : DE X T U (.Subscript (.Name x p) b pos) ds d :=
  (pe_dget hu (pe_var hN hv hd hcd) hb hn).weak fun σ H Q ⟨I0, H0, I, en, kk⟩ => by
    obtain ⟨q, fs, e1, _⟩ := en.ownD h
    refine ⟨_, e1, I0, H0, I, en, fun v I1 H1 s1 r1 => ?_⟩
    cases r1
    obtain ⟨q2, fs2, f1, f2, f3, f4, _⟩ := (en.step s1).ownD h
    rw [e1] at f1
    cases f1
    have z := look_rep f3 k
    rw [hk] at z
    obtain ⟨v, z1, z2⟩ := z
    exact ⟨q, v, rfl, .inl ⟨_, Sum.inr k, .inl f2, rfl, z1.symm⟩, kk _ I1 H1 s1 z2⟩
/-- list(d), d a told dict -/
theorem dv_listD {e : Expr} {p pos : Pos} {kvs : List (Str × D)} (ha : DE X T U e ds (.dic kvs)) (hg : Gl X "list") (hm : X.mg "list" = none) (hc : X.calm = true := by rfl) (he : starEach [e] X.env = (false, eval e X.env) :: starEach [] X.env := by rfl) : DV X T U (.Call (.Name "list" p) [e] [] pos) ds (.own (DK.keys.ds kvs)) := by
  refine dv_callTy (call_listD hc) (fun I H vs Q r h k => ?_) hg hm (by decide +kernel) (da_cons ha da_nil he) (by decide) (by decide) he
  cases h with
  | cons a c =>
    cases c
    cases a with
    | @dic q fs _ e1 e2 =>
      refine ⟨q, kvK fs, rfl, r.dic e1, fun p hp => k _ I _ (Step.newOwn r hp) ⟨p, _, rfl, hp, r.free hp, upd_same, ?_⟩⟩
      have en := e2.names
      have z : (kvK fs).map (fun kv => kV kv.1) = (fs.map (·.1)).map V.str := by
        rw [kvK, List.map_map, List.map_map]
        rfl
      rw [z, en]
      have z2 : DK.keys.ds kvs = (kvs.map (·.1)).map D.str := by
        rw [List.map_map]
        rfl
      rw [z2]
      exact Reps.ofStrs _
theorem putK_new {fs : List (Str × V)} {k : Str} {v : V} (h : k ∉ fs.map (·.1)) : putK (kvK fs) (Sum.inr k) v = kvK (fs ++ [(k, v)]) := by
  unfold putK
  rw [if_neg]
  · rw [kvK, kvK, List.map_append]
    rfl
  · intro z
    obtain ⟨kv, h1, h2⟩ := List.any_eq_true.mp z
    obtain ⟨f, h3, rfl⟩ := List.mem_map.mp h1
    have h4 : (Sum.inr f.1 : Key) = Sum.inr k := of_decide_eq_true h2
    exact h (by rw [← Sum.inr.inj h4]; exact List.mem_map_of_mem h3)
/-- x[k] = e, x a dict of one's own, k new -/
theorem ds_dputO (i : Nat) {b e : Expr} {k x : Str} {p pos' pos : Pos} {ts : List (Str × OT)} {t : OT} {q : Option Addr} (h : ds[i]? = some (.ot q (.dic ts))) (hb : DE X T U b ds (.str k)) (he : DV X T U e ds s) (ht : s.tree = some t) (hnew : k ∉ ts.map (·.1)) (hl : ts.length < 100000) (kk : E.nx (ds.set i (.ot q (.dic (ts ++ [(k, t)]))))) (hu : X.A.units + 1 < cLine) (hN : X.N[i]? = some x := by rfl)
    (hv : Vis X.env.scope x := by first | exact Or.inl rfl | exact Or.inr (Or.inl rfl) | exact Or.inr (Or.inr rfl)) (hd : (x == ("__debug__" : Str)) = false := by decide) (hcd : (x == ("__classdict__" : Str)) = false := by decide)
    (hs : swapsWith e (some (.Subscript (.Name x p) b pos')) pos.line X.env = pure false := by rfl) : DSt X T W U (.Assign [.Subscript (.Name x p) b pos'] e pos) ds E :=
  (ps_dput hu (pe_var hN hv hd hcd) hb he hs).weak fun D σ H ⟨I0, H0, I, en, k1, _⟩ => by
    obtain ⟨F, ft⟩ := en.fp
    have hi : i < σ.length := by rw [en.len]; exact (List.getElem?_eq_some_iff.mp h).1
    obtain ⟨w, A, e1, r, hA, hq⟩ := ft.sl i _ _ (List.getElem?_eq_getElem hi) h
    cases r with
    | @dic p fs _ A a1 a2 a3 a4 =>
    have e2 : σ[i]? = some (some (.ref p)) := by rw [List.getElem?_eq_getElem hi, e1]
    refine ⟨I0, H0, I, en, fun v I1 H1 s1 r1 => ⟨_, e2, I0, H0, I1, en.step s1, fun y I2 H2 s2 r2 => ?_⟩⟩
    cases r2
    obtain ⟨B, rB, nB⟩ := r1.tree ht
    have rB := rB.frame (H' := H2) s2.isub fun a ha => s2.ownKeep (rB.there a ha)
    have s12 := s1.trans s2
    have kp : ∀ a ∈ p :: A, I2 a = none ∧ H2 a = H a := fun a ha => s12.ownKeep ((OR.dic a1 a2 a3 a4).there a ha)
    have p1 := kp p List.mem_cons_self
    have nf : k ∉ fs.map (·.1) := by rw [a4.names]; exact hnew
    have thereN : ∀ a ∈ p :: A, H a ≠ none := fun a ha => by
      obtain ⟨_, u, z, _⟩ := (OR.dic a1 a2 a3 a4).there a ha
      rw [z]
      exact fun q => nomatch q
    have pB : p ∉ B := fun z => thereN p List.mem_cons_self (nB p z)
    refine ⟨p, _, rfl, .inl ⟨_, Sum.inr k, p1.2.trans a1, rfl, ?_, rfl⟩, k1 _ _ ⟨_, I2, ?_, s12.pres.trans (Pres.own p1.1 (p1.2.trans a1) fun _ _ z => nomatch z), kk⟩⟩
    · rw [kvK, List.length_map, a4.len]
      exact Nat.lt_of_lt_of_le hl (by decide)
    rw [putK_new nf]
    have notT : ∀ u, H2 p = some u → (∀ ps, u ≠ HO.tbl ps) ∧ ∀ φ, u ≠ HO.ext φ := by
      rw [p1.2, a1]
      intro u q
      cases q
      exact ⟨(fun _ z => nomatch z), (fun _ z => nomatch z)⟩
    have st : Step (gx X T) I0 H0 I2 (upd H2 p (.dK (kvK (fs ++ [(k, v)])))) := (en.st.trans s12).mutOwn p1.1 (hA p List.mem_cons_self).1 notT
    have neB : ∀ a ∈ B, a ≠ p := fun a ha z => pB (by rw [← z]; exact ha)
    have frA : ORF (gx X T) I2 (upd H2 p (.dK (kvK (fs ++ [(k, v)])))) fs ts A := a4.frame s12.isub fun a ha => by
      obtain ⟨z1, z2⟩ := kp a (List.mem_cons_of_mem _ ha)
      exact ⟨z1, by rw [upd_ne fun z => a3 (by rw [← z]; exact ha)]; exact z2⟩
    have frB : OR (gx X T) I2 (upd H2 p (.dK (kvK (fs ++ [(k, v)])))) v t B := rB.frame (Same.refl I2) fun a ha => ⟨(rB.there a ha).1, upd_ne (neB a ha)⟩
    have dis : ∀ a ∈ A, a ∉ B := fun a ha z => thereN a (List.mem_cons_of_mem _ ha) (nB a z)
    have new : OR (gx X T) I2 (upd H2 p (.dK (kvK (fs ++ [(k, v)])))) (.ref p) (.dic (ts ++ [(k, t)])) (p :: (A ++ B)) :=
      .dic upd_same p1.1 (fun z => (List.mem_append.mp z).elim a3 pB) (ORF.snoc frB frA dis)
    have z := en.put ft st (tabs_upd (s12.tabs en.tb) notT) (fun a n => by
      by_cases z : a = p
      · rw [z, upd_same]; exact fun q => nomatch q
      · rw [upd_ne z]; exact s12.keepN a n) i (some (.ref p)) (.ot q (.dic (ts ++ [(k, t)]))) (fun a => a ∈ p :: (A ++ B)) (fun j hj a ha ho => by
        obtain ⟨z1, z2⟩ := s12.ownKeep ho
        exact ⟨z1, by rw [upd_ne fun z => hj (ft.dj j i a ha (by rw [z]; exact (hA p List.mem_cons_self).2))]; exact z2⟩) s12.isub (fun a ha => ⟨(by
        obtain ⟨_, u, z, _⟩ := new.there a ha
        rw [z]
        exact fun q => nomatch q), ?_⟩) ⟨_, _, rfl, new, fun a ha => ⟨?_, ha⟩, hq⟩
    · rwa [show σ.set i (some (.ref p)) = σ from by
        obtain ⟨hl, he⟩ := List.getElem?_eq_some_iff.mp e2
        rw [← he, List.set_getElem_self]] at z
    · rcases List.mem_cons.mp ha with z | z
      · exact .inr (by rw [z]; exact (hA p List.mem_cons_self).2)
      · rcases List.mem_append.mp z with z | z
        · exact .inr (hA a (List.mem_cons_of_mem _ z)).2
        · exact .inl (nB a z)
    · rcases List.mem_cons.mp ha with z | z
      · rw [z]; exact (hA p List.mem_cons_self).1
      · rcases List.mem_append.mp z with z | z
        · exact (hA a (List.mem_cons_of_mem _ z)).1
        · exact en.st.free (nB a z)
/-- a dict display of one's own, as a tree -/
theorem dv_newT {pos : Pos} : DV X T U (.Dict [] [] pos) ds (.ot none (.dic [])) := pe_dnewK.weak fun σ H Q ⟨I0, H0, I, en, k⟩ => fun p hp =>
  k _ I _ (Step.newOwn en.sub hp) ⟨[p], .dic (fs := []) (A := []) upd_same (en.sub.free hp) (by simp) .nil, fun a ha => by rw [List.mem_singleton.mp ha]; exact hp, fun _ z => nomatch z⟩
/-- a name that holds a tree is handed back -/
theorem ds_retT (i : Nat) {x : Str} {p pos : Pos} {t : OT} {q : Option Addr} (h : ds[i]? = some (.ot q t)) (k : E.rt (.ot q t)) (hN : X.N[i]? = some x := by rfl) (hv : Vis X.env.scope x := by first | exact Or.inl rfl | exact Or.inr (Or.inl rfl) | exact Or.inr (Or.inr rfl))
    (hd : (x == ("__debug__" : Str)) = false := by decide) (hcd : (x == ("__classdict__" : Str)) = false := by decide) : DSt X T W U (.Return (some (.Name x p)) pos) ds E :=
  (ps_ret (pe_var hN hv hd hcd)).weak fun D σ H ⟨I0, H0, I, en, _, k2, _⟩ => by
    obtain ⟨v, A, e1, r, hA, hq⟩ := en.ot h
    exact ⟨_, e1, k2 _ H (.ot q t) ⟨I, en.st, A, r, hA, hq⟩ k⟩
theorem de_isN {a : Expr} {pos : Pos} {j : Nat} {p : Pos} {d : D} {c : Bool} (ha : DE X T U a ds d) (hc : ∀ (G : Glb) (I : Hp) (v : V), Rep G I v d → decide (v = .non) = c) : DE X T U (.Compare a [.Is] [.Constant .none j p] pos) ds (.bl c) :=
  (pe_cmp (pc_isN ha)).weak fun σ H Q ⟨I0, H0, I, en, k⟩ => ⟨I0, H0, I, en, fun v I' H' st r => by
    show Q (.bl (decide (v = .non))) H'
    rw [hc _ _ _ r]
    exact k _ I' H' st (.bl c)⟩
theorem isN_g (g : Option Str) : ∀ (G : Glb) (I : Hp) (v : V), Rep G I v (gD g) → decide (v = .non) = g.isNone := fun G I v h => by
  cases g with
  | none => cases h; rfl
  | some x => cases h; rfl
end
end Lp

/-! Closures handed over: the frame's cells are told for the time of the call. -/
namespace Lp
open PySem PySem.Spec PyProof.Rows L2 NdefX
/-! ### cells told -/
def CelO (c : Addr) (o : Obj) : HO := .ext fun h => h.get? c = some o
abbrev Cels := List (Addr × Obj)
def lay (L : Cels) (H : Hp) : Hp := fun a => match L.lookup a with
  | some o => some (CelO a o)
  | none => H a
def unl (L : Cels) (H : Hp) : Hp := fun a => match L.lookup a with
  | some _ => none
  | none => H a
theorem lay_in {L : Cels} {H : Hp} {a : Addr} {o : Obj} (h : L.lookup a = some o) : lay L H a = some (CelO a o) := by
  unfold lay
  rw [h]
theorem lay_out {L : Cels} {H : Hp} {a : Addr} (h : L.lookup a = none) : lay L H a = H a := by
  unfold lay
  rw [h]
theorem unl_in {L : Cels} {H : Hp} {a : Addr} {o : Obj} (h : L.lookup a = some o) : unl L H a = none := by
  unfold unl
  rw [h]
theorem unl_out {L : Cels} {H : Hp} {a : Addr} (h : L.lookup a = none) : unl L H a = H a := by
  unfold unl
  rw [h]
/-- the cells stand in h and are no one's -/
structure Fr (L : Cels) (h : Heap) (H : Hp) : Prop where
  at_ : ∀ a o, L.lookup a = some o → h.get? a = some o ∧ ∃ v, o.data = .cell v
  no : ∀ a o, L.lookup a = some o → H a = none
theorem Fr.out {L : Cels} {h : Heap} {H : Hp} (f : Fr L h H) {a : Addr} (n : H a ≠ none) : L.lookup a = none := by
  cases e : L.lookup a with
  | none => rfl
  | some o => exact absurd (f.no a o e) n
theorem Fr.out' {L : Cels} {h : Heap} {H : Hp} (f : Fr L h H) {a : Addr} {u : HO} (n : H a = some u) : L.lookup a = none := f.out (by rw [n]; exact fun z => nomatch z)
/-- the cells are told in H -/
structure Laid (L : Cels) (H : Hp) : Prop where
  at_ : ∀ a o, L.lookup a = some o → H a = some (CelO a o)
theorem laid_lay (L : Cels) (H : Hp) : Laid L (lay L H) := ⟨fun _ _ h => lay_in h⟩
theorem Laid.mono {L : Cels} {H H' : Hp} (l : Laid L H) (s : Same H H') : Laid L H' := ⟨fun a o h => s _ _ (l.at_ a o h)⟩
theorem Laid.up {L : Cels} {I H : Hp} (l : Laid L I) (r : RdS I H) : Laid L H := ⟨fun a o h => r.ext (l.at_ a o h)⟩
theorem lay_same {L : Cels} {h : Heap} {H : Hp} (f : Fr L h H) : Same H (lay L H) := fun a u e => by rw [lay_out (f.out' e)]; exact e
theorem celO_ne {c : Addr} {o : Obj} {u : HO} (h : ∀ φ, u ≠ HO.ext φ) : CelO c o ≠ u := fun z => h _ z.symm
section
variable {P : Program} {w : World} {H H' : Hp} {h h' : Heap} {L : Cels} {fs : List Addr}
theorem hok_lay (x : HOk P w H h) (f : Fr L h H) : HOk P w (lay L H) h := fun a u e => by
  cases q : L.lookup a with
  | some o =>
    rw [lay_in q] at e
    cases e
    obtain ⟨z, _⟩ := f.at_ a o q
    exact ⟨z, ⟨o, z⟩, fun h1 h2 k1 k2 => k2 o k1⟩
  | none =>
    rw [lay_out q] at e
    exact (x a u e).stay (fun _ _ _ z => z) (fun b z => by rw [lay_out (f.out' z)]; exact z) fun b xs z => by rw [lay_out (f.out' z)]; exact z
theorem Laid.other (l : Laid L H) {a : Addr} {u : HO} (h : H a = some u) (hu : ∀ φ, u ≠ HO.ext φ) : L.lookup a = none := by
  cases e : L.lookup a with
  | none => rfl
  | some o =>
    rw [l.at_ a o e] at h
    exact absurd (Option.some.inj h) (celO_ne hu)
theorem Laid.none' (l : Laid L H) {a : Addr} (h : H a = none) : L.lookup a = none := by
  cases e : L.lookup a with
  | none => rfl
  | some o => rw [l.at_ a o e] at h; cases h
theorem hok_unl (x : HOk P w H h) (l : Laid L H) : HOk P w (unl L H) h := fun a u e => by
  cases q : L.lookup a with
  | some o => rw [unl_in q] at e; cases e
  | none =>
    rw [unl_out q] at e
    exact (x a u e).stay (fun _ _ _ z => z) (fun b z => by rw [unl_out (l.other z fun _ z => nomatch z)]; exact z) fun b xs z => by rw [unl_out (l.other z fun _ z => nomatch z)]; exact z
/-- behind a call with the cells told -/
theorem un_after (u : Un fs [] (lay L H) H' h h') (x : HOk P w H' h') (l : Laid L H') (f : Fr L h H) : Un fs [] H (unl L H') h h' where
  keep := fun b o e n hb hx => by
    cases q : L.lookup b with
    | some o' =>
      obtain ⟨z, _⟩ := f.at_ b o' q
      rw [e] at z
      cases z
      exact (x b _ (l.at_ b o q)).1
    | none => exact u.keep b o e (by rw [lay_out q]; exact n) hb hx
  slot := fun b o e n hb hx => by
    cases q : L.lookup b with
    | some o' =>
      obtain ⟨z, _⟩ := f.at_ b o' q
      rw [e] at z
      cases z
      exact ⟨o.slots, (x b _ (l.at_ b o q)).1⟩
    | none => exact u.slot b o e (by rw [lay_out q]; exact n) hb hx
  free := fun b o e n hx => by
    cases q : L.lookup b with
    | some o' => exact unl_in q
    | none => rw [unl_out q]; exact u.free b o e (by rw [lay_out q]; exact n) hx
  there := u.there
  tups := fun b xs e => by
    have q := f.out' e
    rw [unl_out q]
    exact u.tups b xs (by rw [lay_out q]; exact e)
  frzs := fun b o x e => by
    have q := f.out' e
    rw [unl_out q]
    exact u.frzs b o x (by rw [lay_out q]; exact e)
  tbls := fun b ps e => by
    have q := f.out' e
    obtain ⟨m, z⟩ := u.tbls b ps (by rw [lay_out q]; exact e)
    exact ⟨m, by rw [unl_out q]; exact z⟩
/-- behind a call of the closure itself -/
theorem un_in {H2 : Hp} (u : Un fs [] (unl L H) H2 h h') (l : Laid L H) : Un fs [] H (lay L H2) h h' where
  keep := fun b o e n hb hx => u.keep b o e (by rw [unl_out (l.none' n)]; exact n) hb hx
  slot := fun b o e n hb hx => u.slot b o e (by rw [unl_out (l.none' n)]; exact n) hb hx
  free := fun b o e n hx => by
    have q := l.none' n
    rw [lay_out q]
    exact u.free b o e (by rw [unl_out q]; exact n) hx
  there := u.there
  tups := fun b xs e => by
    have q := l.other e fun _ z => nomatch z
    rw [lay_out q]
    exact u.tups b xs (by rw [unl_out q]; exact e)
  frzs := fun b o x e => by
    have q := l.other e fun _ z => nomatch z
    rw [lay_out q]
    exact u.frzs b o x (by rw [unl_out q]; exact e)
  tbls := fun b ps e => by
    have q := l.other e fun _ z => nomatch z
    obtain ⟨m, z⟩ := u.tbls b ps (by rw [unl_out q]; exact e)
    exact ⟨m, by rw [lay_out q]; exact z⟩
theorem code_ne {c : Addr} {o : Obj} {q : Str} {h : Heap} (hc : h.get? c = some o) (hd : ∃ v, o.data = .cell v) : LamX.CodeO c q ≠ CelO c o := fun z => by
  have e : (fun h : Heap => ∃ (oc : Obj) (vs : Array Value) (t : Tok), h.get? c = some oc ∧ oc.data = .fields vs ∧ vs[1]? = some (.str q t)) = fun h : Heap => h.get? c = some o := HO.ext.inj z
  have e2 : ∃ (oc : Obj) (vs : Array Value) (t : Tok), h.get? c = some oc ∧ oc.data = .fields vs ∧ vs[1]? = some (.str q t) := by
    have := congrFun e h
    exact (show (∃ (oc : Obj) (vs : Array Value) (t : Tok), h.get? c = some oc ∧ oc.data = .fields vs ∧ vs[1]? = some (.str q t)) = (h.get? c = some o) from this) ▸ hc
  obtain ⟨oc, vs, t, h1, h2, _⟩ := e2
  obtain ⟨v, hd⟩ := hd
  rw [hc] at h1
  cases h1
  rw [hd] at h2
  cases h2
theorem tabs_lay {T : List NTab} (t : TabsN T H) (f : Fr L h H) : TabsN T (lay L H) := t.ext fun b o e => lay_same f b o e
/-- the cells as they stood at some time -/
def WasCel (L : Cels) : Prop := ∀ a o, L.lookup a = some o → (∃ h : Heap, h.get? a = some o) ∧ ∃ v, o.data = .cell v
theorem Fr.was (f : Fr L h H) : WasCel L := fun a o e => ⟨⟨h, (f.at_ a o e).1⟩, (f.at_ a o e).2⟩
theorem tabs_unl {T : List NTab} (t : TabsN T H) (l : Laid L H) (w : WasCel L) : TabsN T (unl L H) := fun p hp => by
  obtain ⟨ps, h1, h2, h3⟩ := t p hp
  refine ⟨ps, by rw [unl_out (l.other h1 fun _ z => nomatch z)]; exact h1, h2, fun pos cv hc => ?_⟩
  obtain ⟨c, e1, e2⟩ := h3 pos cv hc
  refine ⟨c, e1, ?_⟩
  have q : L.lookup c = none := by
    cases e : L.lookup c with
    | none => rfl
    | some o =>
      obtain ⟨⟨g, hg⟩, hd⟩ := w c o e
      rw [l.at_ c o e] at e2
      exact absurd (Option.some.inj e2).symm (code_ne hg hd)
  rw [unl_out q]
  exact e2
theorem step_after {G : Glb} {I I' : Hp} (s : Step G (lay L I) (lay L H) I' H') (fi : ∀ a o, L.lookup a = some o → I a = none) (f : Fr L h H) (l : Laid L H') : Step G I H (unl L I') (unl L H') where
  isub := fun a u e => by
    have q : L.lookup a = none := by
      cases z : L.lookup a with
      | none => rfl
      | some o => rw [fi a o z] at e; cases e
    rw [unl_out q]
    exact s.isub a u (by rw [lay_out q]; exact e)
  sub := fun a u e => by
    cases q : L.lookup a with
    | some o => rw [unl_in q] at e; cases e
    | none =>
      rw [unl_out q] at e ⊢
      exact s.sub a u e
  keep := fun a o e n c => by
    have q := f.out' e
    rw [unl_out q]
    exact s.keep a o (by rw [lay_out q]; exact e) n (c.imp (fun z => by rw [lay_out q]; exact z) id)
  keepN := fun a n => by
    have q := f.out n
    rw [unl_out q]
    exact s.keepN a (by rw [lay_out q]; exact n)
  fresh := fun a u e n n1 n2 => by
    have q := f.out' n
    rw [unl_out q]
    exact s.fresh a u (by rw [lay_out q]; exact e) (by rw [lay_out q]; exact n) n1 n2
  tabs := fun t => tabs_unl (s.tabs (tabs_lay t f)) l f.was
theorem step_in {G : Glb} {I I2 H2 : Hp} (s : Step G (unl L I) (unl L H) I2 H2) (li : Laid L I) (l : Laid L H) (w : WasCel L) (f2 : Fr L h H2) : Step G I H (lay L I2) (lay L H2) where
  isub := fun a u e => by
    cases q : L.lookup a with
    | some o =>
      rw [li.at_ a o q] at e
      rw [lay_in q]
      exact e
    | none =>
      rw [lay_out q]
      exact s.isub a u (by rw [unl_out q]; exact e)
  sub := fun a u e => by
    cases q : L.lookup a with
    | some o =>
      rw [lay_in q] at e ⊢
      exact .inl ⟨e, by cases e; exact fun _ z => nomatch z⟩
    | none =>
      rw [lay_out q] at e ⊢
      exact s.sub a u e
  keep := fun a o e n c => by
    cases q : L.lookup a with
    | some o' =>
      rw [l.at_ a o' q] at e
      rw [lay_in q]
      exact e
    | none =>
      rw [lay_out q]
      exact s.keep a o (by rw [unl_out q]; exact e) n (c.imp (fun z => by rw [unl_out q]; exact z) id)
  keepN := fun a n => by
    cases q : L.lookup a with
    | some o' => rw [lay_in q]; exact fun z => nomatch z
    | none =>
      rw [lay_out q]
      exact s.keepN a (by rw [unl_out q]; exact n)
  fresh := fun a u e n n1 n2 => by
    have q := li.none' e
    rw [lay_out q]
    exact s.fresh a u (by rw [unl_out q]; exact e) (by rw [unl_out q]; exact n) n1 n2
  tabs := fun t => tabs_lay (s.tabs (tabs_unl t l w)) f2
end
section
variable {P : Program} {w : World} {K : PySem.W.Frag} {mg : Str → Option Value} {base : Heap} {A : Around} {outer : List Env} {s : Shared} {H : Hp} {L : Cels}
theorem env0_lay (e : Env0 P w K mg base A outer s H) (f : Fr L s.heap H) (hb : ∀ a o, L.lookup a = some o → base.get? a = none ∧ a ∉ frs outer) : Env0 P w K mg base A outer s (lay L H) :=
  ⟨e.frames, e.mod, fun b o z => ⟨(e.bs b o z).1, by
    have q : L.lookup b = none := by
      cases q : L.lookup b with
      | none => rfl
      | some o' => rw [(hb b o' q).1] at z; cases z
    rw [lay_out q]
    exact (e.bs b o z).2⟩, e.bsz, e.funs, fun b z => by
    have q : L.lookup b = none := by
      cases q : L.lookup b with
      | none => rfl
      | some o' => exact absurd z (hb b o' q).2
    rw [lay_out q]
    exact e.frf b z, hok_lay e.hok f, e.bare⟩
theorem env0_unl (e : Env0 P w K mg base A outer s H) (l : Laid L H) : Env0 P w K mg base A outer s (unl L H) :=
  ⟨e.frames, e.mod, fun b o z => ⟨(e.bs b o z).1, by rw [unl_out (l.none' (e.bs b o z).2)]; exact (e.bs b o z).2⟩, e.bsz, e.funs, fun b z => by
    rw [unl_out (l.none' (e.frf b z))]
    exact e.frf b z, hok_unl e.hok l, e.bare⟩
end
end Lp

/-! Closures handed over: calls. -/
namespace Lp
open PySem PySem.Spec PyProof.Rows L2 NdefX
/-- L tells what the captured cells hold -/
structure Holds (cl : List (Str × Addr)) (fr : List Str) (ws : List (Option V)) (L : Cels) : Prop where
  len : ws.length = fr.length
  all : ∀ y c, cl.lookup y = some c → ∃ o, L.lookup c = some o
  inj : ∀ x y c, cl.lookup x = some c → cl.lookup y = some c → x = y
  has : ∀ (i : Nat) (y : Str), fr[i]? = some y → ∃ c o, cl.lookup y = some c ∧ L.lookup c = some o ∧ ∀ v, ws[i]? = some (some v) → ∃ u, L2.RelV v u ∧ o.data = .cell (some u)
theorem Holds.cells {cl : List (Str × Addr)} {fr : List Str} {ws : List (Option V)} {L : Cels} (d : Holds cl fr ws L) {h : Heap} {H : Hp} (f : Fr L h H) : CellsAt cl fr ws h H := by
  refine ⟨d.len, fun y c e => ?_, d.inj, fun i y e => ?_⟩
  · obtain ⟨o, ho⟩ := d.all y c e
    obtain ⟨h1, v, h2⟩ := f.at_ c o ho
    exact ⟨f.no c o ho, v, o, h1, h2⟩
  · obtain ⟨c, o, e1, e2, e3⟩ := d.has i y e
    refine ⟨c, e1, fun v ev => ?_⟩
    obtain ⟨u, r, z⟩ := e3 v ev
    exact ⟨u, r, o, (f.at_ c o e2).1, z⟩
theorem look_mem {α β : Type} [BEq α] [LawfulBEq α] : ∀ {l : List (α × β)} {a : α} {b : β}, l.lookup a = some b → (a, b) ∈ l
  | (x, y) :: r, a, b, h => by
    rw [List.lookup_cons] at h
    cases q : a == x with
    | true =>
      rw [q] at h
      cases h
      rw [eq_of_beq q]
      exact List.mem_cons_self
    | false =>
      rw [q] at h
      exact List.mem_cons_of_mem _ (look_mem h)
theorem look_has {α β : Type} [BEq α] [LawfulBEq α] : ∀ {l : List (α × β)} {a : α} {b : β}, (a, b) ∈ l → ∃ b', l.lookup a = some b'
  | (x, y) :: r, a, b, h => by
    rw [List.lookup_cons]
    cases q : a == x with
    | true => exact ⟨y, rfl⟩
    | false =>
      rcases List.mem_cons.mp h with z | z
      · cases z
        rw [beq_self_eq_true] at q
        cases q
      · exact look_has z
/-- the cells as they stand now -/
def celNow (h : Heap) (cl : List (Str × Addr)) : Cels := cl.filterMap fun y => (cl.lookup y.1).map fun c => (c, (h.get? c).getD { cls := .none, data := .cell none })
theorem celNow_of {h : Heap} {cl : List (Str × Addr)} {a : Addr} {o : Obj} (e : (celNow h cl).lookup a = some o) : (∃ y, cl.lookup y = some a) ∧ o = (h.get? a).getD { cls := .none, data := .cell none } := by
  have m := look_mem e
  obtain ⟨y, hy, e2⟩ := List.mem_filterMap.mp m
  cases q : cl.lookup y.1 with
  | none => rw [q] at e2; cases e2
  | some c =>
    rw [q] at e2
    cases e2
    exact ⟨⟨y.1, q⟩, rfl⟩
theorem celNow_in {h : Heap} {cl : List (Str × Addr)} {y : Str} {c : Addr} (e : cl.lookup y = some c) : (celNow h cl).lookup c = some ((h.get? c).getD { cls := .none, data := .cell none }) := by
  have m : (c, (h.get? c).getD { cls := .none, data := .cell none }) ∈ celNow h cl := List.mem_filterMap.mpr ⟨(y, c), look_mem e, by
    show (cl.lookup y).map _ = _
    rw [e]
    rfl⟩
  obtain ⟨b, hb⟩ := look_has m
  rw [hb, (celNow_of hb).2]
theorem now_fr {cl : List (Str × Addr)} {fr : List Str} {ws : List (Option V)} {h : Heap} {H : Hp} (C : CellsAt cl fr ws h H) : Fr (celNow h cl) h H ∧ Holds cl fr ws (celNow h cl) := by
  refine ⟨⟨fun a o e => ?_, fun a o e => ?_⟩, C.len, fun y c e => ⟨_, celNow_in e⟩, C.inj, fun i y e => ?_⟩
  · obtain ⟨⟨y, hy⟩, rfl⟩ := celNow_of e
    obtain ⟨_, v, o, ho, hv⟩ := C.all y a hy
    rw [ho]
    exact ⟨rfl, v, hv⟩
  · obtain ⟨⟨y, hy⟩, _⟩ := celNow_of e
    exact (C.all y a hy).1
  · obtain ⟨c, e1, e2⟩ := C.has i y e
    refine ⟨c, _, e1, celNow_in e1, fun v ev => ?_⟩
    obtain ⟨u, r, o, ho, hv⟩ := e2 v ev
    exact ⟨u, r, by rw [ho]; exact hv⟩
/-! ### a call with the frame's cells told -/
def tCallL (cl : List (Str × Addr)) (fr : List Str) (js : List Nat) (sp : Sp) (t : TA) : TE := fun σ H Q => t σ H fun vs H1 => ∀ L h, Fr L h H1 → Holds cl fr (js.map (slotAt σ)) L → sp vs (lay L H1) (fun v H' => Laid L H' ∧ Q v (unl L H')) E0
section
variable {X : Cx} {k : Nat} {f : Addr} {fd : FuncData} {ps : List Str} {sp : Sp} {x : Str} {p pos : Pos} {e : Expr} {es : List Expr} {t : TA} {cl : List (Str × Addr)} {fr : List Str} {js : List Nat}
theorem pe_callL (F : FnOk X.prog X.w X.K X.mg X.base CX0 k f fd ps sp) (cp : X.Ok → Caps X cl fr js) (hfn : ∀ y, X.fn y = true) (hr : Room k X.A) (hg : Gl X x) (hm : X.mg x = some (.ref f)) (hk : PySem.W.keepIn X.K (.ref f) = true) (hb : L2.Binds X.K fd ps [])
    (ha : PA X (e :: es) t) (hdb : (x == ("__debug__" : Str)) = false := by decide) (he : starEach (e :: es) X.env = (false, eval e X.env) :: starEach es X.env := by rfl) (hpl : (backTo pos (starEach es X.env)).any (·.1) = false := by rfl) :
    PE X (.Call (.Name x p) (e :: es) [] pos) (tCallL cl fr js sp t) := by
  refine ⟨fun pins s σ H Q I h => ?_⟩
  refine wpAny_Call_Name_kw (ld_glob I hg hm ?_ hdb)
  refine PySem.W.callWith_K (h₀ := X.base) I.ok.mod.kin hk (thn (ha.run pos pins s σ H _ I h) fun us s1 ⟨vs, H1, I1, r, q⟩ => ⟨I1.kIn, ?_⟩) he hpl
  have C := cells_of I1 (cp I1.ok)
  obtain ⟨f1, d1⟩ := now_fr C
  have hsp := q _ _ f1 d1
  have e0 : Env0 X.prog X.w X.K X.mg X.base X.A X.stack s1 (lay (celNow s1.heap cl) H1) := env0_lay I1.env0 f1 fun a o ea => by
    obtain ⟨⟨y, hy⟩, _⟩ := celNow_of ea
    have hc := (cp I1.ok).sub y a hy
    have hge := I1.ok.cab y a (hfn y) hc
    refine ⟨?_, fun z => ?_⟩
    · cases eb : X.base.get? a with
      | none => rfl
      | some ob => exact absurd (Heap.lt_size (I1.ok.bs a ob eb).1) (Nat.not_lt.mpr hge)
    · rcases List.mem_cons.mp (I1.stkSub a z) with z | z
      · obtain ⟨m, ⟨ob, es2, ep, ho, hdat, _⟩, _⟩ := I1.loc
        obtain ⟨h1, v, h2⟩ := f1.at_ a o ea
        rw [z] at h1
        rw [ho] at h1
        cases h1
        rw [hdat] at h2
        cases h2
      · obtain ⟨_, ob, hob, _⟩ := I1.ok.funs.mem z
        exact absurd (Heap.lt_size hob) (Nat.not_lt.mpr hge)
  have hl : (us ++ []).length = ps.length := by rw [List.append_nil, ← r.length]; exact F.len _ _ _ _ hsp
  have hbd := hb s1 us I1.kIn hl
  rw [List.append_nil] at hbd
  refine wpAny_call (codeAny_mono (F.run X.A X.stack s1 _ ⟨us, []⟩ us vs _ E0 hr e0 hbd r hsp) fun rr s' hq => ?_)
  cases rr with
  | error e => exact (pass0 (X := X)) pins σ H1 s1 e s' I1 hq
  | ok fl =>
    cases fl with
    | ret u =>
      obtain ⟨v, H', os, bare, un, hok, rv, l, q2⟩ := hq
      exact I1.after ⟨v, unl _ H', os, bare, un_after un hok l f1, hok_unl hok l, rv, q2⟩
    | next => exact False.elim hq
    | brk => exact False.elim hq
    | cont => exact False.elim hq
end
end Lp

/-! Closures by data. -/
namespace Lp
open PySem PySem.Spec PyProof.Rows L2 NdefX
/-- what is captured, by data -/
def CapR (G : Glb) (I : Hp) (ws : List (Option V)) (cd : List D) : Prop := ∀ (i : Nat) (d : D), cd[i]? = some d → ∃ v, ws[i]? = some (some v) ∧ Rep G I v d
theorem CapR.mono {G : Glb} {I I1 : Hp} {ws : List (Option V)} {cd : List D} (h : CapR G I ws cd) (s : Same I I1) : CapR G I1 ws cd := fun i d e => by
  obtain ⟨v, h1, h2⟩ := h i d e
  exact ⟨v, h1, h2.mono s⟩
/-- a nested def, by data: A captured arguments result -/
def spN (G : Glb) (A : List D → List D → DS → Prop) : List (Option V) → Sp := fun ws vs H Q _ => ∃ I cd xs r, RdS I H ∧ TabsN G.T H ∧ CapR G I ws cd ∧ ws.length = cd.length ∧ Reps G I vs xs ∧ A cd xs r ∧ ∀ v H', RetR G I H v H' r → Q v H'
theorem env_startF {G : Glb} {U : Bool} {I H : Hp} {N : List Str} {vs : List V} {ws : List (Option V)} {xs cd : List D} (r : RdS I H) (tb : TabsN G.T H) (rs : Reps G I vs xs) (hc : CapR G I ws cd) (hl : ws.length = cd.length) :
    EnvR G U I H I H (startF N vs ws) (xs.map DS.im ++ (cd.map DS.im ++ List.replicate (N.length - xs.length - cd.length) DS.no)) := by
  have e := rs.len
  refine ⟨Step.refl r, tb, ?_, fun _ _ => False, fun i o s h1 h2 => ?_, fun _ _ _ h => h.elim, fun _ _ h => h.elim⟩
  · unfold startF
    rw [List.length_append, List.length_append, List.length_append, List.length_append, List.length_map, List.length_map, List.length_map, List.length_replicate, List.length_replicate, e, hl]
  · unfold startF at h1
    by_cases hi : i < xs.length
    · rw [List.getElem?_append_left (by rw [List.length_map, e]; exact hi), List.getElem?_map] at h1
      rw [List.getElem?_append_left (by rw [List.length_map]; exact hi), List.getElem?_map] at h2
      obtain ⟨v, hv, rv⟩ := rs.get' (List.getElem?_eq_getElem hi)
      rw [hv] at h1
      rw [List.getElem?_eq_getElem hi] at h2
      cases h1
      cases h2
      exact ⟨v, rfl, rv⟩
    · rw [List.getElem?_append_right (by rw [List.length_map, e]; omega), List.length_map, e] at h1
      rw [List.getElem?_append_right (by rw [List.length_map]; omega), List.length_map] at h2
      by_cases hj : i - xs.length < cd.length
      · rw [List.getElem?_append_left (by rw [hl]; exact hj)] at h1
        rw [List.getElem?_append_left (by rw [List.length_map]; exact hj), List.getElem?_map, List.getElem?_eq_getElem hj] at h2
        cases h2
        obtain ⟨v, hv, rv⟩ := hc _ _ (List.getElem?_eq_getElem hj)
        rw [hv] at h1
        cases h1
        exact ⟨v, rfl, rv⟩
      · rw [List.getElem?_append_right (by rw [List.length_map]; omega)] at h2
        rw [List.eq_of_mem_replicate (List.mem_of_getElem? h2)]
        trivial
theorem okN {G : Glb} {N ps fr : List Str} {F : NF} {f : Addr} {k : Nat} {A : List D → List D → DS → Prop} (S : NScope N ps fr F.scope) (hb : ∀ (doc pm ctv : Value) (us : List Value), us.length = ps.length → bindArgs (F.fd doc pm ctv) ⟨us, []⟩ = pure (ps.zip us)) (hA : ∀ cd xs r, A cd xs r → xs.length = ps.length)
    (hbody : ∀ (Ar : Around) (outer : List Env) (s : Shared) (H : Hp) (E : XK), Room k (Ar.deeper (envF F f s.heap.objs.size)) → ∀ cd xs r, A cd xs r →
      DSs (ncx CX0 G.P G.w G.K G.mg G.base N F f Ar outer s H E).nox G.T W0 false F.body (xs.map DS.im ++ (cd.map DS.im ++ List.replicate (N.length - xs.length - cd.length) DS.no)) { nx := fun _ => r = .im .non, rt := fun t => t = r ∨ t.fz = r }) :
    NOk G.P G.w G.K G.mg G.base CX0 (k + 1) f F ps fr (spN G A) := by
  refine nok_of S hb (fun ws vs H Q E ⟨I, cd, xs, r, _, _, _, _, rs, hAx, _⟩ => by rw [rs.len]; exact hA cd xs r hAx) (fun Ar outer s H vs ws Q E hr hf hcc hl ⟨I, cd, xs, r, rd, tb, cp, wl, rs, hAx, k⟩ => ?_)
  have h := hbody Ar outer s H E hr cd xs r hAx
  refine ⟨_, PSs.nox h, I, H, I, env_startF (G := G) rd tb rs cp wl, ?_, ?_, ?_, ?_, ?_⟩
  · rintro σ' H' ⟨ds', I', e', p', q⟩
    refine k .non H' ?_
    rw [q]
    exact ⟨I', e'.st, Rep.non⟩
  · rintro v H' t hr ht
    rcases ht with rfl | rfl
    · exact k v H' hr
    · exact k v H' hr.fz
  · rintro _ _ ⟨_, _, _, _, q⟩
    exact q
  · rintro _ _ ⟨_, _, _, _, q⟩
    exact q
  · rintro _ _ _ _ _ ⟨_, _, _, _, _, q⟩
    exact q
theorem rds_unl {L : Cels} {I H : Hp} (r : RdS I H) : RdS (unl L I) (unl L H) := fun a u e => by
  cases q : L.lookup a with
  | some o => rw [unl_in q] at e; cases e
  | none =>
    rw [unl_out q] at e ⊢
    exact r a u e
/-- a closure that answers texts -/
structure CloOk (G : Glb) (k : Nat) (F : NF) (oe : Option Expr) (fr : List Str) (A : List D → List D → DS → Prop) : Prop where
  run : ∀ (f : Addr) (Ar : Around) (outer : List Env) (s : Shared) (H : Hp) (u : Value) (x : Str) (ws : List (Option V)) (Q : VK), Room k Ar → Env0 G.P G.w G.K G.mg G.base Ar outer s H → H f = some (CloO f F oe) → H F.c = some (LamX.CodeO F.c F.qual) → CellsAt F.cl fr ws s.heap H → RelV (.str x) u → spN G A ws [.str x] H Q E0 →
    codeAny (model G.P G.w) Ar (.call (.ref f) ⟨[u], []⟩) (CR CX0 outer G.P G.w H s Q E0) s
theorem CloOk.ofN {G : Glb} {k : Nat} {F : NF} {p : Str} {fr : List Str} {A : List D → List D → DS → Prop} (N : ∀ f, NOk G.P G.w G.K G.mg G.base CX0 k f F [p] fr (spN G A)) : CloOk G k F none fr A :=
  ⟨fun f Ar outer s H u x ws Q hr e0 hf hc C ru h => (N f).run Ar outer s H [u] [.str x] ws Q E0 hr e0 hf hc C (.cons ru .nil) h⟩
/-- a closure whose cells are told answers -/
theorem rep_fn {G : Glb} {F : NF} {oe : Option Expr} {f : Addr} {k : Nat} {fr : List Str} {A : List D → List D → DS → Prop} {dom g : Str → Bool} (N : CloOk G k F oe fr A) {I : Hp} {L : Cels} {ws : List (Option V)} {cd : List D} (hI : Rep G I (.ref f) (.clo F oe)) (hc : CapR G I ws cd) (hwl : ws.length = cd.length)
    (hd : Holds F.cl fr ws L) (hw : WasCel L) (hn : ∀ a o, L.lookup a = some o → I a = none) (hA : ∀ x, dom x = true → A cd [.str x] (.im (.bl (g x)))) : Rep G (lay L I) (.ref f) (.fn k dom g) := by
  have sm : Same I (lay L I) := fun a u e => by
    have q : L.lookup a = none := by
      cases q : L.lookup a with
      | none => rfl
      | some o => rw [hn a o q] at e; cases e
    rw [lay_out q]
    exact e
  cases hI with
  | clo h1 h2 =>
  obtain ⟨φ, eφ, hφ⟩ := cloO_ext f F oe
  refine Rep.fn (φ := φ) (by rw [← eφ]; exact sm _ _ h1) hφ fun I' H' hs rd tb Ar outer s x u Q hdom hroom e0 ru kk => ?_
  have li : Laid L I' := (laid_lay L I).mono hs
  have l : Laid L H' := li.up rd
  have s2 : Same I (unl L I') := fun a w e => by
    have q : L.lookup a = none := by
      cases q : L.lookup a with
      | none => rfl
      | some o => rw [hn a o q] at e; cases e
    rw [unl_out q]
    exact hs a w (sm a w e)
  have atC : ∀ a o, L.lookup a = some o → s.heap.get? a = some o ∧ ∃ v, o.data = .cell v := fun a o e => ⟨(e0.hok a _ (l.at_ a o e)).1, (hw a o e).2⟩
  have fr0 : Fr L s.heap (unl L H') := ⟨atC, fun a o e => unl_in e⟩
  have rdu := rds_unl (L := L) rd
  have hf : unl L H' f = some (CloO f F oe) := by
    rw [eφ]
    exact rdu.ext (by rw [← eφ]; exact s2 _ _ h1)
  have hcd : unl L H' F.c = some (LamX.CodeO F.c F.qual) := rdu.ext (s2 _ _ h2)
  refine codeAny_mono (N.run f Ar outer s (unl L H') u x ws (fun v H2 => RetR G (unl L I') (unl L H') v H2 (.im (.bl (g x)))) hroom (env0_unl e0 l) hf hcd (hd.cells fr0) ru ⟨unl L I', cd, [.str x], _, rdu, tabs_unl tb l hw, hc.mono s2, hwl, .cons (.str x) .nil, hA x hdom, fun v H2 z => z⟩) fun rr s' hq => ?_
  cases rr with
  | error e => exact hq
  | ok fl =>
    cases fl with
    | ret u2 =>
      obtain ⟨v, H2, os, bare, un, hok, rv, I2, st, rp⟩ := hq
      have nof : ∀ a o, L.lookup a = some o → a ∉ frs outer := fun a o e z => by
        have := e0.frf a z
        rw [l.at_ a o e] at this
        cases this
      have f2 : Fr L s'.heap H2 := ⟨fun a o e => ⟨un.keep a o (atC a o e).1 (unl_in e) (nof a o e) (by simp), (hw a o e).2⟩, fun a o e => un.free a o (atC a o e).1 (unl_in e) (by simp)⟩
      cases rp
      exact ⟨.bl (g x), lay L H2, os, bare, un_in un l, hok_lay hok f2, rv, kk _ _ (step_in st li l hw f2)⟩
    | next => exact False.elim hq
    | brk => exact False.elim hq
    | cont => exact False.elim hq
/-- results that name nothing told -/
def DS.clean : DS → Bool
  | .im .non => true
  | .im (.bl _) => true
  | .im (.int _) => true
  | .im (.str _) => true
  | .own xs => xs.all flatD
  | .ownD kvs => kvs.all fun kv => flatD kv.2
  | _ => false
theorem flatF_rep {G : Glb} {I I' : Hp} : ∀ {fs : List (Str × V)} {kvs : List (Str × D)}, (kvs.all fun kv => flatD kv.2) = true → RepF G I fs kvs → RepF G I' fs kvs
  | _, _, _, .nil => .nil
  | (_, v) :: _, (_, d) :: _, h, .cons a b => by
    rw [List.all_cons, Bool.and_eq_true] at h
    have z := flatD_reps (G := G) (I := I) (I' := I') (vs := [v]) (xs := [d]) (by rw [List.all_cons, h.1]; rfl) (.cons a .nil)
    cases z with
    | cons a' _ => exact .cons a' (flatF_rep h.2 b)
theorem clean_back {G : Glb} {L : Cels} {h : Heap} {H I' H' : Hp} {v : V} (f : Fr L h H) (l : Laid L H') : ∀ {s : DS}, s.clean = true → ValR G (lay L H) I' H' v s → ValR G H (unl L I') (unl L H') v s
  | .im .non, _, r => by cases r; exact Rep.non
  | .im (.bl _), _, r => by cases r; exact Rep.bl _
  | .im (.int _), _, r => by cases r; exact Rep.int _
  | .im (.str _), _, r => by cases r; exact Rep.str _
  | .own _, hc, ⟨p, vs, ev, n, i, hp, r⟩ => by
    have q : L.lookup p = none := l.other hp fun _ z => nomatch z
    exact ⟨p, vs, ev, by rw [lay_out q] at n; exact n, by rw [unl_out q]; exact i, by rw [unl_out q]; exact hp, flatD_reps hc r⟩
  | .ownD _, hc, ⟨p, vs, ev, n, i, hp, r⟩ => by
    have q : L.lookup p = none := l.other hp fun _ z => nomatch z
    exact ⟨p, vs, ev, by rw [lay_out q] at n; exact n, by rw [unl_out q]; exact i, by rw [unl_out q]; exact hp, flatF_rep hc r⟩
section
variable {X : Cx} {T : List NTab} {W : WX} {U U' : Bool} {ds : List DS} {s : DS} {E : DEn}
/-- f(.., g), g a closure of this frame -/
theorem dv_cl {A : List D → DS → Prop} {k j : Nat} {ps : List Str} {x : Str} {p pos : Pos} {e : Expr} {es : List Expr} {xs : List D} (cl : List (Str × Addr)) (fr : List Str) (js : List Nat) (cd : List D) (ys : List D) (C : CallD (gx X T) k x ps U' A) (hr : Room j X.A) (ha : DA X T U (e :: es) ds xs) (cp : X.Ok → Caps X cl fr js) (hfn : ∀ y, X.fn y = true)
    (hcd : ∀ (i : Nat) (d : D), cd[i]? = some d → ∃ m, js[i]? = some m ∧ ds[m]? = some (.im d)) (hjl : js.length = cd.length)
    (hy : ∀ (I : Hp) (L : Cels) (vs : List V) (ws : List (Option V)), CapR (gx X T) I ws cd → ws.length = cd.length → Holds cl fr ws L → WasCel L → (∀ a o, L.lookup a = some o → I a = none) → Same I (lay L I) → Reps (gx X T) I vs xs → Reps (gx X T) (lay L I) vs ys) (hA : A ys s) (hcl : s.clean = true) (hk : k ≤ j := by decide)
    (hg : Gl X x := by rfl) (hdb : (x == ("__debug__" : Str)) = false := by decide) (he : starEach (e :: es) X.env = (false, eval e X.env) :: starEach es X.env := by rfl) (hpl : (backTo pos (starEach es X.env)).any (·.1) = false := by rfl) : DV X T U (.Call (.Name x p) (e :: es) [] pos) ds s :=
  (pe_callL C.ok cp hfn (hr.mono hk) hg C.g C.kp C.n ha hdb he hpl).weak fun σ H Q ⟨I0, H0, I, en, kk⟩ => ⟨I0, H0, I, en, fun vs I1 H1 s1 r1 L h f hd => by
    have e1 := en.step s1
    have hn : ∀ a o, L.lookup a = some o → I1 a = none := fun a o q => s1.sub.free (f.no a o q)
    have sm : Same I1 (lay L I1) := fun a u z => by
      have q : L.lookup a = none := by
        cases q : L.lookup a with
        | none => rfl
        | some o => rw [hn a o q] at z; cases z
      rw [lay_out q]
      exact z
    have cap : CapR (gx X T) I1 (js.map (slotAt σ)) cd := fun i d q => by
      obtain ⟨m, h1, h2⟩ := hcd i d q
      obtain ⟨v, h3, h4⟩ := e1.im h2
      exact ⟨v, by rw [List.getElem?_map, h1]; exact congrArg some (slotAt_of h3), h4⟩
    have wl : (js.map (slotAt σ)).length = cd.length := by rw [List.length_map, hjl]
    have rl : RdS (lay L I1) (lay L H1) := fun a u z => by
      cases q : L.lookup a with
      | some o =>
        rw [lay_in q] at z ⊢
        exact .inl ⟨z, by cases z; exact fun _ z => nomatch z⟩
      | none =>
        rw [lay_out q] at z ⊢
        exact s1.sub a u z
    refine ⟨lay L I1, ys, s, rl, tabs_lay e1.tb f, hy I1 L vs _ cap wl hd f.was hn sm r1, hA, fun v H' ⟨I2, s2, r2⟩ => ?_⟩
    have l2 : Laid L I2 := (laid_lay L I1).mono s2.isub
    have l3 : Laid L H' := l2.up s2.sub
    have s3 := step_after s2 hn f l3
    exact ⟨l3, kk v _ _ (s1.trans s3) (ValR.back s1 (clean_back f l3 hcl r2))⟩⟩
/-- g(e), g a local name that holds a function of texts -/
theorem de_fn {k j : Nat} {dom g : Str → Bool} {x z : Str} {p pos : Pos} {e : Expr} (i : Nat) (h : ds[i]? = some (.im (.fn k dom g))) (he : DE X T U e ds (.str z)) (hz : dom z = true) (hr : Room j X.A) (hk : k ≤ j) (hN : X.N[i]? = some x := by rfl) (hv : Vis X.env.scope x := by first | exact Or.inl rfl | exact Or.inr (Or.inl rfl) | exact Or.inr (Or.inr rfl))
    (hd : (x == ("__debug__" : Str)) = false := by decide) (hcd : (x == ("__classdict__" : Str)) = false := by decide) (hse : starEach [e] X.env = (false, eval e X.env) :: starEach [] X.env := by rfl) (hpl : (backTo pos (starEach [] X.env)).any (·.1) = false := by rfl) : DE X T U (.Call (.Name x p) [e] [] pos) ds (.bl (g z)) := by
  refine ⟨fun pins s σ H Q I ⟨I0, H0, Id, en, kk⟩ => ?_⟩
  obtain ⟨v, e1, r⟩ := en.im h
  cases r with
  | @fn f φ _ _ _ h1 hφ hc =>
  refine wpAny_Call_Name_kw (thn ((pe_var (pos := p) hN hv hd hcd).run pins s σ H (fun v H1 => v = .ref f ∧ H1 = H) I ⟨.ref f, e1, rfl, rfl⟩) fun u s1 ⟨v, H1, I1, r1, q1⟩ => ?_)
  obtain ⟨ev, eH⟩ := q1
  subst ev
  rw [eH] at I1
  obtain rfl : u = Value.ref f := r1
  have fa : ∀ {s2 : Shared} {H2 : Hp}, L2.Inv X pins σ H2 s2 → H2 f = some (.ext φ) → PySem.W.FnAt f s2.heap := fun I2 hh => hφ _ (I2.hok f _ hh).1
  refine PySem.W.callWith_F (first := []) (fa I1 (en.sub.ext h1)) (thn ((da_cons he da_nil hse).run pos pins s1 σ H (fun vs H2 => ∃ I2, Step (gx X T) Id H I2 H2 ∧ Reps (gx X T) I2 vs [.str z]) I1 ⟨I0, H0, Id, en, fun vs I2 H2 s2 r2 => ⟨I2, s2, r2⟩⟩) fun us s2 ⟨vs, H2, J2, rv, I2, st2, rs⟩ => ⟨fa J2 (st2.sub.ext (st2.isub _ _ h1)), ?_⟩) hse hpl
  cases rs with
  | cons a b =>
  cases b
  cases a
  cases rv with
  | cons ru rn =>
  cases rn
  refine wpAny_call (codeAny_mono (hc I2 H2 st2.isub st2.sub (st2.tabs en.tb) X.A X.stack s2 z _ Q hz (hr.mono hk) J2.env0 ru fun I3 H3 s3 => kk _ I3 H3 (st2.trans s3) (.bl _)) fun rr s' hq => ?_)
  cases rr with
  | error e => exact (pass0 (X := X)) pins σ H2 s2 e s' J2 hq
  | ok fl =>
    cases fl with
    | ret u => exact J2.after hq
    | next => exact False.elim hq
    | brk => exact False.elim hq
    | cont => exact False.elim hq
end
end Lp

/-! Nested defs and lambdas made. -/
namespace Lp
open PySem PySem.Spec PyProof.Rows L2 NdefX LamX
/-- a new function and its code are told -/
theorem clo_told {G : Glb} {I H H1 : Hp} {f : Addr} {F : NF} {oe : Option Expr} (r : RdS I H) (eN : ExtN H H1) (nn : ∀ b, H1 b = none → H b = none) (T1 : TabsN G.T H1) (f0 : H f = none) (f1 : H1 f = some (CloO f F oe)) (c1 : H1 F.c = some (CodeO F.c F.qual)) :
    ∃ J, Step G I H J H1 ∧ Rep G J (.ref f) (.clo F oe) := by
  obtain ⟨φ, eφ, hφ⟩ := cloO_ext f F oe
  have i0 := r.free f0
  have ic : ∀ u, I F.c = some u → u = CodeO F.c F.qual := fun u e => by
    rcases r _ _ e with ⟨z, nt⟩ | ⟨⟨kvs, z⟩, o, z2⟩
    · have := eN _ _ z nt
      rw [c1] at this
      exact (Option.some.inj this).symm
    · have := eN _ _ z2 (fun _ z => nomatch z)
      rw [c1] at this
      cases this
  let J : Hp := fun a => if a = f then some (CloO f F oe) else if a = F.c then some (CodeO F.c F.qual) else I a
  have Jf : J f = some (CloO f F oe) := if_pos rfl
  have Jc : J F.c = some (CodeO F.c F.qual) := by
    show (if F.c = f then some (CloO f F oe) else if F.c = F.c then some (CodeO F.c F.qual) else I F.c) = _
    by_cases z : F.c = f
    · rw [if_pos z]
      rw [z, f1] at c1
      rw [z]
      exact c1
    · rw [if_neg z, if_pos rfl]
  have same : Same I J := fun a u e => by
    show (if a = f then some (CloO f F oe) else if a = F.c then some (CodeO F.c F.qual) else I a) = some u
    rw [if_neg (ne_of_none e i0)]
    by_cases z : a = F.c
    · rw [if_pos z]
      subst z
      rw [ic u e]
    · rw [if_neg z]
      exact e
  refine ⟨J, ⟨same, fun a u e => ?_, fun a o e n c => eN a o e n, fun a n z => n (nn a z), fun a w e n n1 n2 => ?_, fun _ => T1⟩, .clo Jf Jc⟩
  · have e2 : (if a = f then some (CloO f F oe) else if a = F.c then some (CodeO F.c F.qual) else I a) = some u := e
    by_cases z : a = f
    · rw [if_pos z] at e2
      cases e2
      rw [z]
      exact .inl ⟨f1, by rw [eφ]; exact fun _ z => nomatch z⟩
    · rw [if_neg z] at e2
      by_cases z2 : a = F.c
      · rw [if_pos z2] at e2
        cases e2
        rw [z2]
        exact .inl ⟨c1, fun _ z => nomatch z⟩
      · rw [if_neg z2] at e2
        rcases r _ _ e2 with ⟨y, nt⟩ | ⟨y, o, y2⟩
        · exact .inl ⟨eN _ _ y nt, nt⟩
        · exact .inr ⟨y, o, eN _ _ y2 fun _ z => nomatch z⟩
  · have z1 : a ≠ f := ne_of_none n f0
    have z2 : a ≠ F.c := fun z => by
      have := eN a w n n2
      rw [z, c1] at this
      exact n1 _ (Option.some.inj this).symm
    show (if a = f then some (CloO f F oe) else if a = F.c then some (CodeO F.c F.qual) else I a) = none
    rw [if_neg z1, if_neg z2]
    exact e
section
variable {X : Cx} {T : List NTab} {W : WX} {U : Bool} {ds : List DS} {s : DS} {E : DEn}
/-- def name(..): .. inside a def -/
theorem ds_ndef (i : Nat) {st : Stmt} {nm : Nat → Nat → Str} {c P : Addr} {name : Str} {pos : Pos} (hst : st = .FunctionDef name (C8.fnArgs st) (C8.fnBody st) [] none [] (C8.fnScope st) none name pos) (TB : TabB X.base X.mg c P) (hcode : X.env.code = .ref c) (hm : (P, nm) ∈ T) (hn : nm pos.line pos.col = X.env.qual ++ name)
    (hu : ∀ p ∈ T, p.1 = P → p.2 = nm) (hfree : ∀ y ∈ (C8.fnScope st).names, y.2 = .free → X.env.scope.names.lookup y.1 = some .cell ∨ X.env.scope.names.lookup y.1 = some .free) (hN : X.N.Nodup)
    (k : ∀ c', E.nx (ds.set i (.im (.clo (NF.of st name (X.env.qual ++ name) (cloFrom X.env.cells (C8.fnScope st).names []) c') none)))) (hd0 : (C8.fnArgs st).defaults = [] := by rfl) (hk0 : (C8.fnArgs st).kw_defaults = [] := by rfl) (ha : annTrees (C8.fnArgs st) none X.env = [] := by rfl)
    (hi : X.N[i]? = some name := by rfl) (hx : Loc X.env.scope name := by first | exact Or.inl rfl | exact Or.inr rfl) (hf : X.fn name = true ∨ X.env.scope.names.lookup name = some .local := by first | exact .inl rfl | exact .inr rfl) : DSt X T W U st ds E :=
  (ps_ndefMS (i := i) hst TB hcode hm hn hu hfree hd0 hk0 ha hN hi hx hf).weak fun D σ H ⟨I0, H0, I, en, k1, _⟩ => ⟨en.tb, fun f c' H1 eN nn T1 f0 f1 c1 => by
    obtain ⟨J, st, r⟩ := clo_told (G := gx X T) (oe := none) en.sub eN nn T1 f0 f1 c1
    exact k1 _ H1 ⟨_, J, (en.step st).setIm i r, st.pres, k c'⟩⟩
end
section
variable {X : Cx} {pins : List (Addr × Obj)} {σ : L2.St} {H : Hp} {s : Shared}
theorem inv_lam {F : NF} {e : Expr} {o : Obj} {t' : Nat} {pm ctv : Value} (I : L2.Inv X pins σ H s) (ho : o = PySem.W.kla_obj F.name F.qual F.params e F.scope F.cl pm F.c ctv) :
    L2.Inv X pins σ (upd H s.heap.objs.size (LamO s.heap.objs.size F e)) { s with heap := s.heap.push o, toks := t' } := by
  subst ho
  refine I.laid (a := s.heap.objs.size) (fun b u e => Heap.get?_push_of_some _ e) (Nat.le_refl _) ?_
  have e1 : (s.heap.push (PySem.W.kla_obj F.name F.qual F.params e F.scope F.cl pm F.c ctv)).get? s.heap.objs.size = some (PySem.W.kla_obj F.name F.qual F.params e F.scope F.cl pm F.c ctv) := Heap.get?_push_size _ rfl
  exact ⟨⟨pm, ctv, e1⟩, ⟨_, e1⟩, fun h1 h2 ⟨p, t, z⟩ st => ⟨p, t, st _ z⟩⟩
/-- a lambda made -/
theorem lam_makeN {T : List NTab} {nm : Nat → Nat → Str} {c P : Addr} {params : Arguments} {body : Expr} {scope : Scope} {pos : Pos} {E : Value → Shared → Prop} {Q : Value → Shared → Prop} (I : L2.Inv X pins σ H s) (TB : TabB X.base X.mg c P) (hcode : X.env.code = .ref c)
    (hm : (P, nm) ∈ T) (hn : nm pos.line pos.col = X.env.qual ++ "<lambda>") (hu : ∀ p ∈ T, p.1 = P → p.2 = nm) (hT : TabsN T H) (hdef : defaultsOf params X.env = ([], [])) (hfree : ∀ y ∈ scope.names, y.2 = .free → ∃ c, X.env.cells.lookup y.1 = some c)
    (h : ∀ (f c' : Addr) (H1 : Hp) (s' : Shared), L2.Inv X pins σ H1 s' → ExtN H H1 → (∀ b, H1 b = none → H b = none) → TabsN T H1 → H f = none → H1 f = some (LamO f ⟨"<lambda>", X.env.qual ++ "<lambda>", params, [], scope, cloFrom X.env.cells scope.names [], c'⟩ body) → H1 c' = some (CodeO c' (X.env.qual ++ "<lambda>")) → Q (.ref f) s') :
    wpAny (model X.prog X.w) X.A (eval (.Lambda params body scope pos) X.env) Q E s := by
  obtain ⟨ps, hP, ht, ha⟩ := (show TabN H P nm from hT _ hm)
  refine PySem.W.kla_eval hdef ?_
  have bP : s.heap.BuiltinsAt X.mg P := TB.bm.keeps I.bk
  have hP' : s.heap.get? P = some { cls := .none, data := .fields ps } := I.hok P _ hP
  cases hc : codeAmong pos ps.toList with
  | none =>
    refine PySem.W.kla_makeFunction (mg := X.mg) (c := c) (P := P) (ps := ps) (closure_ok hfree) I.ok.glob (I.mod.glob.keeps I.bk) hcode (TB.code.keeps I.bk) hP' ht hc TB.gP bP fun c' ctv h' tk hx hge hlt hrec htb => ?_
    obtain ⟨c2, oc, vs, t, e2, hoc, hd, hv⟩ := hrec
    cases e2
    have nC : H c' = none := I.hok.fresh hge
    have I1 := inv_table (t' := tk) (more := #[rawInt pos.line, rawInt pos.col, .ref c']) (h' := h') I hP (fun b o hb e => hx b o hb e) htb hge ⟨oc, vs, t, hoc, hd, hv⟩
    have hE : ExtN H (upd (upd H P (.tbl (ps ++ #[rawInt pos.line, rawInt pos.col, .ref c']))) c' (CodeO c' (X.env.qual ++ "<lambda>"))) := fun b o e n => by
      rw [upd_ne (ne_of_none e nC), upd_ne (fun z => n ps (Option.some.inj (e.symm.trans (by rw [z]; exact hP))))]
      exact e
    have eL : (ps ++ #[rawInt pos.line, rawInt pos.col, .ref c']).toList = ps.toList ++ [rawInt pos.line, rawInt pos.col, .ref c'] := by simp
    have T1 : TabsN T (upd (upd H P (.tbl (ps ++ #[rawInt pos.line, rawInt pos.col, .ref c']))) c' (CodeO c' (X.env.qual ++ "<lambda>"))) := fun p hp => by
      by_cases hb : p.1 = P
      · rw [hu p hp hb, hb]
        refine ⟨_, by rw [upd_ne (ne_of_none hP nC), upd_same], by rw [eL]; exact PySem.TriplesOk_snoc _ _ _ _ ht, fun p' cv hcv => ?_⟩
        rw [eL] at hcv
        rcases among_app2 _ ht hcv with z | ⟨z, z1, z2⟩
        · obtain ⟨c0, e1, e2⟩ := ha p' cv z
          exact ⟨c0, e1, hE _ _ e2 codeO_ne⟩
        · refine ⟨c', z, ?_⟩
          rw [← z1, ← z2, hn]
          exact upd_same
      · obtain ⟨ps', a1, a2, a3⟩ := hT p hp
        refine ⟨ps', by rw [upd_ne (ne_of_none a1 nC), upd_ne hb]; exact a1, a2, fun p' cv hcv => ?_⟩
        obtain ⟨c0, e1, e2⟩ := a3 p' cv hcv
        exact ⟨c0, e1, hE _ _ e2 codeO_ne⟩
    have nF := I1.hok.fresh (Nat.le_refl _)
    have I2 := inv_lam (F := ⟨"<lambda>", X.env.qual ++ "<lambda>", params, [], scope, cloFrom X.env.cells scope.names [], c'⟩) (e := body) (t' := tk) (pm := (X.mg "__name__").getD .none) (ctv := ctv) I1 rfl
    refine h h'.objs.size c' _ _ I2 (fun b o e n => ?_) (fun b e => upd_none (upd_none (upd_none e))) (T1.ext fun b o e => ?_) (I.hok.fresh (Nat.le_trans hge (Nat.le_of_lt hlt))) upd_same ?_
    · have e1 := hE b o e n
      exact (upd_ne (ne_of_none e1 nF)).trans e1
    · exact (upd_ne (ne_of_none e nF)).trans e
    · exact (upd_ne (Nat.ne_of_lt hlt)).trans upd_same
  | some cv =>
    obtain ⟨c', e, hco⟩ := ha pos cv hc
    subst e
    rw [hn] at hco
    refine PySem.W.kla_makeFunctionHit (mg := X.mg) (c := c) (P := P) (ps := ps) (closure_ok hfree) I.ok.glob (I.mod.glob.keeps I.bk) hcode (TB.code.keeps I.bk) hP' ht hc bP fun ctv h' tk hx hsz => ?_
    have I1 : L2.Inv X pins σ H { s with heap := h', toks := tk } := I.kept hx
    have nF : H h'.objs.size = none := I1.hok.fresh (Nat.le_refl _)
    have I2 := inv_lam (F := ⟨"<lambda>", X.env.qual ++ "<lambda>", params, [], scope, cloFrom X.env.cells scope.names [], c'⟩) (e := body) (t' := tk) (pm := (X.mg "__name__").getD .none) (ctv := ctv) I1 rfl
    refine h h'.objs.size c' _ _ I2 (fun b o e n => ?_) (fun b e => upd_none e) (hT.ext fun b o e => ?_) nF upd_same ?_
    · exact (upd_ne (ne_of_none e nF)).trans e
    · exact (upd_ne (ne_of_none e nF)).trans e
    · exact (upd_ne (ne_of_none hco nF)).trans hco
end
section
variable {X : Cx} {T : List NTab} {W : WX} {U : Bool} {ds : List DS} {s : DS} {E : DEn}
/-- the closure a lambda makes -/
abbrev lamF (X : Cx) (params : Arguments) (scope : Scope) (c' : Addr) : NF := ⟨"<lambda>", X.env.qual ++ "<lambda>", params, [], scope, cloFrom X.env.cells scope.names [], c'⟩
/-- lambda ..: .., as a value: d is what is told of it -/
theorem de_lam {nm : Nat → Nat → Str} {c P : Addr} {params : Arguments} {body : Expr} {scope : Scope} {pos : Pos} {d : D} (TB : TabB X.base X.mg c P) (hcode : X.env.code = .ref c) (hm : (P, nm) ∈ T) (hn : nm pos.line pos.col = X.env.qual ++ "<lambda>") (hu : ∀ p ∈ T, p.1 = P → p.2 = nm)
    (hfree : ∀ y ∈ scope.names, y.2 = .free → X.env.scope.names.lookup y.1 = some .cell ∨ X.env.scope.names.lookup y.1 = some .free) (hd : ∀ (J : Hp) (f c' : Addr), Rep (gx X T) J (.ref f) (.clo (lamF X params scope c') (some body)) → Rep (gx X T) J (.ref f) d) (hdef : defaultsOf params X.env = ([], []) := by rfl) : DE X T U (.Lambda params body scope pos) ds d :=
  ⟨fun pins s σ H Q I ⟨I0, H0, Id, en, k⟩ => by
    have hfr : ∀ y ∈ scope.names, y.2 = .free → ∃ c, X.env.cells.lookup y.1 = some c := fun y hy e => (hfree y hy e).elim (fun z => I.ok.has _ (.inl z)) fun z => I.ok.has _ (.inr z)
    refine lam_makeN I TB hcode hm hn hu en.tb hdef hfr fun f c' H1 s' I1 eN nn T1 f0 f1 c1 => ?_
    obtain ⟨J, st, r⟩ := clo_told (G := gx X T) (F := lamF X params scope c') (oe := some body) en.sub eN nn T1 f0 f1 c1
    exact ⟨.ref f, H1, I1, rfl, k _ J H1 st (hd J f c' r)⟩⟩
end
/-- a lambda of one parameter by data -/
theorem okL {G : Glb} {N fr : List Str} {p : Str} {F : NF} {e : Expr} {k : Nat} {A : List D → List D → DS → Prop} (S : NScope N [p] fr F.scope) (hx : ∀ cd xs r, A cd xs r → ∃ z : Str, xs = [.str z]) (hb : ∀ (pm ctv u : Value), bindArgs (PySem.W.kla_fn F.name F.qual F.params e F.scope F.cl pm (.ref F.c) ctv) ⟨[u], []⟩ = pure [(p, u)])
    (hbody : ∀ (f : Addr) (Ar : Around) (outer : List Env) (s : Shared) (H : Hp) (E : XK), Room k (Ar.deeper (envF F f s.heap.objs.size)) → ∀ cd x r, A cd [.str x] r →
      DV (ncx CX0 G.P G.w G.K G.mg G.base N F f Ar outer s H E) G.T false e ([.im (.str x)] ++ (cd.map DS.im ++ List.replicate (N.length - 1 - cd.length) DS.no)) r) : CloOk G (k + 1) F (some e) fr A := by
  refine ⟨fun f Ar outer s H u x ws Q hr e0 hf hcc C ru ⟨I, cd, xs, r, rd, tb, cp, wl, rs, hAx, kk⟩ => ?_⟩
  have ex : xs = [.str x] := by
    obtain ⟨z, rfl⟩ := hx cd xs r hAx
    cases rs with
    | cons a b => cases b; cases a; rfl
  subst ex
  have lim : s.heap.NoLimit := e0.mod.nolimit.keeps fun b o e => (e0.bs b o e).1
  obtain ⟨⟨pm, ctv, ho⟩, _, _⟩ := e0.hok f _ hf
  refine PySem.W.kla_callFunE hr.depth ho rfl S.co S.gen rfl (codeO_at e0.hok hcc) ?_
  rw [hb pm ctv u]
  refine wpAny_pure (wpAny_newFunctionEnv S.nocell (fun ⟨n, v⟩ hy => S.par n (by
    have := List.mem_singleton.mp hy
    cases this
    exact List.mem_singleton_self _)) (fun h₁ hns hsb => ⟨lim.fresh _ hsb, ?_⟩) S.kind)
  show codeAny _ _ (.expr e (envF F f s.heap.objs.size)) _ _
  have kp : ∀ b o, s.heap.get? b = some o → h₁.get? b = some o := fun b o e => hsb.extBut b o (Nat.ne_of_lt (Heap.lt_size e)) (Heap.get?_push_of_some _ e)
  have J : L2.Inv (ncx CX0 G.P G.w G.K G.mg G.base N F f Ar outer s H E0) [] (startF N [.str x] ws) H { s with heap := h₁, toks := s.toks + ([p].zip [u]).length } := inv_startN S hr.hd e0 rfl (.cons ru .nil) C hns kp
  have hv := hbody f Ar outer s H E0 (hr.deeper _) cd x r hAx
  refine PySem.W.kla_codeExpr (wpAny_mono (hv.run [] _ _ H Q J ⟨I, H, I, env_startF (G := G) rd tb (.cons (.str x) .nil) cp wl, fun v I' H' st rv => kk v H' ⟨I', st, rv⟩⟩) (fun v s' hq => ?_) fun e s' hq => hq)
  obtain ⟨w', H', J', rv, q⟩ := hq
  exact ⟨w', H', J'.os, J'.bare, J'.base, J'.hok, rv, q⟩
end Lp

/-! Defs that make functions: their code object and its table. -/
namespace Lp
open PySem PySem.Spec PyProof.Rows L2 NdefX LamX
/-- the def at f has a table; what it makes bears the name q -/
structure Tbl (G : Glb) (c P : Addr) (q : Str) : Prop where
  tb : TabB G.base G.mg c P
  mem : (P, fun _ _ => q) ∈ G.T
  one : ∀ p ∈ G.T, p.1 = P → p.2 = fun _ _ => q
def HasTab (G : Glb) (f : Addr) (q : Str) : Prop := ∃ c P, (fdOf G.K f).code = .ref c ∧ Tbl G c P q
theorem okDc {G : Glb} {U : Bool} {x qual q : Str} {params : Arguments} {body : List Stmt} {scope : Scope} {f : Addr} {N ps : List Str} {k : Nat} {A : List D → DS → Prop} (F : FunD G.K x qual params body scope [] [] f (fdOf G.K f)) (t : HasTab G f q) (S : FnScope N ps scope)
    (hA : ∀ xs r, A xs r → xs.length = ps.length)
    (hb : ∀ (c P : Addr), Tbl G c P q → ∀ (Ar : Around) (outer : List Env) (s : Shared) (H : Hp) (E : XK), Room k (Ar.deeper (envOfC qual scope s.heap.objs.size f (.ref c))) → ∀ xs r, A xs r →
      DSs (cxOf CX0 G.P G.w G.K G.mg G.base N qual scope f (.ref c) Ar outer s H E).nox G.T W0 U body (startD N.length xs) { nx := fun _ => r = .im .non, rt := fun t => t = r ∨ t.fz = r }) :
    FnOk G.P G.w G.K G.mg G.base CX0 (k + 1) f (fdOf G.K f) ps (spD G U A) := by
  obtain ⟨c, P, hc, tb⟩ := t
  have gen : ∀ fd : FuncData, FunD G.K x qual params body scope [] [] f fd → fd.code = .ref c → FnOk G.P G.w G.K G.mg G.base CX0 (k + 1) f fd ps (spD G U A) := fun fd F hc => by
    obtain ⟨oc, od, dV, kV, doc, pm, an, cdv, ct, osl, rfl, lk, hcd, _, _⟩ := F.ex
    obtain rfl : cdv = .ref c := hc
    refine fn_of lk hcd S (fun vs H Q E ⟨I, xs, r, _, _, rs, hAx, _⟩ => by rw [rs.len]; exact hA xs r hAx) fun Ar outer s H vs Q E hr ⟨I, xs, r, rd, tb2, rs, hAx, k⟩ => ?_
    have h := hb c P tb Ar outer s H E hr xs r hAx
    have hl : xs.length ≤ N.length := by
      have e1 := S.pre
      have e2 := hA xs r hAx
      rw [e2, ← e1, List.length_take]
      exact Nat.min_le_right _ _
    refine ⟨_, PSs.nox h, I, H, I, env_start (G := G) rd tb2 rs hl, ?_, ?_, ?_, ?_, ?_⟩
    · rintro σ' H' ⟨ds', I', e', p', q⟩
      refine k .non H' ?_
      rw [q]
      exact ⟨I', e'.st, Rep.non⟩
    · rintro v H' t hr ht
      rcases ht with rfl | rfl
      · exact k v H' hr
      · exact k v H' hr.fz
    · rintro _ _ ⟨_, _, _, _, q⟩
      exact q
    · rintro _ _ ⟨_, _, _, _, q⟩
      exact q
    · rintro _ _ _ _ _ ⟨_, _, _, _, _, q⟩
      exact q
  exact gen _ F hc
section
variable {X : Cx} {T : List NTab} {U : Bool} {ds : List DS}
theorem de_niS {a b : Expr} {pos : Pos} {x : Str} {ns : List Str} (ha : DE X T U a ds (.str x)) (hb : DE X T U b ds (.lst (ns.map .str))) (hn : behindInMarks .NotIn b = false := by rfl) : DE X T U (.Compare a [.NotIn] [b] pos) ds (.bl (!decide (x ∈ ns))) := dv_cmp op_notIn_seq r2_niS ha hb hn
end
theorem keys_true (l : List Str) : DK.keys.ds (l.map fun n => (n, D.bl true)) = l.map D.str := by
  show (l.map fun n => (n, D.bl true)).map (fun kv => D.str kv.1) = _
  rw [List.map_map]
  rfl
end Lp

/-! Places within trees of one's own: read, changed. -/
namespace Lp
open PySem PySem.Spec PyProof.Rows L2
abbrev Pth := List Nat
def setFk : List (Str × OT) → Nat → OT → List (Str × OT)
  | [], _, _ => []
  | (x, _) :: r, 0, u => (x, u) :: r
  | p :: r, k + 1, u => p :: setFk r k u
def OT.kid : OT → Nat → Option OT
  | .lst xs, k => xs[k]?
  | .tup xs, k => xs[k]?
  | .dic xs, k => (xs[k]?).map (·.2)
  | .ins _ xs, k => (xs[k]?).map (·.2)
  | _, _ => none
def OT.setKid : OT → Nat → OT → OT
  | .lst xs, k, u => .lst (xs.set k u)
  | .tup xs, k, u => .tup (xs.set k u)
  | .dic xs, k, u => .dic (setFk xs k u)
  | .ins C xs, k, u => .ins C (setFk xs k u)
  | t, _, _ => t
def OT.get : OT → Pth → Option OT
  | t, [] => some t
  | t, k :: π => match t.kid k with
    | some u => u.get π
    | none => none
def OT.put : OT → Pth → OT → OT
  | _, [], u => u
  | t, k :: π, u => match t.kid k with
    | some w => t.setKid k (w.put π u)
    | none => t
inductive Kid (H : Hp) : V → Nat → V → Prop where
  | lst {p : Addr} {vs : List V} {k : Nat} {w : V} : H p = some (.lst vs) → vs[k]? = some w → Kid H (.ref p) k w
  | tup {p : Addr} {vs : List V} {k : Nat} {w : V} : H p = some (.tup vs) → vs[k]? = some w → Kid H (.ref p) k w
  | dic {p : Addr} {fs : List (Str × V)} {k : Nat} {x : Str} {w : V} : H p = some (.dK (kvK fs)) → fs[k]? = some (x, w) → Kid H (.ref p) k w
  | ins {p C dx : Addr} {fs : List (Str × V)} {k : Nat} {x : Str} {w : V} : H p = some (.ins C dx fs) → fs[k]? = some (x, w) → Kid H (.ref p) k w
inductive AtV (H : Hp) : V → Pth → V → Prop where
  | nil (v : V) : AtV H v [] v
  | cons {v u w : V} {k : Nat} {π : Pth} : Kid H v k u → AtV H u π w → AtV H v (k :: π) w
/-- what may be put in the place of a part -/
def Back (G : Glb) (I H : Hp) (A B : List Addr) (w : V) (K : Hp → Hp → OT → List Addr → Prop) : Prop :=
  ∀ (I' H' : Hp) (t' : OT) (B' : List Addr), Same I I' → (∀ a ∈ A, a ∉ B → I' a = none ∧ H' a = H a) → OR G I' H' w t' B' → (∀ a ∈ B', a ∈ A → a ∈ B) → ∃ A', K I' H' t' A' ∧ ∀ a ∈ A', a ∈ B' ∨ (a ∈ A ∧ a ∉ B)
section
variable {G : Glb} {I H : Hp}
theorem ors_lens : ∀ {vs : List V} {ts : List OT} {A : List Addr} {k : Nat} {t : OT}, ORs G I H vs ts A → ts[k]? = some t → ∃ w B, vs[k]? = some w ∧ OR G I H w t B ∧ (∀ a ∈ B, a ∈ A) ∧ Back G I H A B w fun I' H' t' A' => ORs G I' H' vs (ts.set k t') A'
  | _, _, _, _, _, .nil, e => by simp at e
  | _, _, _, 0, t, .cons (A := A0) (B := B0) a b d, e => by
    simp at e
    subst e
    refine ⟨_, A0, rfl, a, fun x hx => List.mem_append_left _ hx, fun I' H' t' B' sm fr r' dj => ?_⟩
    have rb : ORs G I' H' _ _ B0 := b.frame sm fun x hx => fr x (List.mem_append_right _ hx) fun z => d x z hx
    refine ⟨B' ++ B0, .cons r' rb fun x hx z => d x (dj x hx (List.mem_append_right _ z)) z, fun x hx => ?_⟩
    rcases List.mem_append.mp hx with z | z
    · exact .inl z
    · exact .inr ⟨List.mem_append_right _ z, fun y => d x y z⟩
  | _, _, _, k + 1, t, .cons (A := A0) (B := B0) a b d, e => by
    obtain ⟨w, B, h1, h2, h3, h4⟩ := ors_lens (k := k) (t := t) b (by simpa using e)
    refine ⟨w, B, by simpa using h1, h2, fun x hx => List.mem_append_right _ (h3 x hx), fun I' H' t' B' sm fr r' dj => ?_⟩
    obtain ⟨A', k1, k2⟩ := h4 I' H' t' B' sm (fun x hx hn => fr x (List.mem_append_right _ hx) hn) r' fun x hx hz => dj x hx (List.mem_append_right _ hz)
    have ra : OR G I' H' _ _ A0 := a.frame sm fun x hx => fr x (List.mem_append_left _ hx) fun z => d x hx (h3 x z)
    refine ⟨A0 ++ A', .cons ra k1 fun x hx z => ?_, fun x hx => ?_⟩
    · rcases k2 x z with y | y
      · exact d x hx (h3 x (dj x y (List.mem_append_left _ hx)))
      · exact d x hx y.1
    · rcases List.mem_append.mp hx with z | z
      · exact .inr ⟨List.mem_append_left _ z, fun y => d x z (h3 x y)⟩
      · exact (k2 x z).imp id fun y => ⟨List.mem_append_right _ y.1, y.2⟩
theorem orf_lens : ∀ {vs : List (Str × V)} {ts : List (Str × OT)} {A : List Addr} {k : Nat} {x : Str} {t : OT}, ORF G I H vs ts A → ts[k]? = some (x, t) → ∃ w B, vs[k]? = some (x, w) ∧ OR G I H w t B ∧ (∀ a ∈ B, a ∈ A) ∧ Back G I H A B w fun I' H' t' A' => ORF G I' H' vs (setFk ts k t') A'
  | _, _, _, _, _, _, .nil, e => by simp at e
  | _, _, _, 0, x, t, .cons (A := A0) (B := B0) a b d, e => by
    simp at e
    obtain ⟨rfl, rfl⟩ := e
    refine ⟨_, A0, rfl, a, fun x hx => List.mem_append_left _ hx, fun I' H' t' B' sm fr r' dj => ?_⟩
    have rb : ORF G I' H' _ _ B0 := b.frame sm fun x hx => fr x (List.mem_append_right _ hx) fun z => d x z hx
    refine ⟨B' ++ B0, .cons r' rb fun x hx z => d x (dj x hx (List.mem_append_right _ z)) z, fun x hx => ?_⟩
    rcases List.mem_append.mp hx with z | z
    · exact .inl z
    · exact .inr ⟨List.mem_append_right _ z, fun y => d x y z⟩
  | _, _, _, k + 1, y, t, .cons (A := A0) (B := B0) a b d, e => by
    obtain ⟨w, B, h1, h2, h3, h4⟩ := orf_lens (k := k) (x := y) (t := t) b (by simpa using e)
    refine ⟨w, B, by simpa using h1, h2, fun x hx => List.mem_append_right _ (h3 x hx), fun I' H' t' B' sm fr r' dj => ?_⟩
    obtain ⟨A', k1, k2⟩ := h4 I' H' t' B' sm (fun x hx hn => fr x (List.mem_append_right _ hx) hn) r' fun x hx hz => dj x hx (List.mem_append_right _ hz)
    have ra : OR G I' H' _ _ A0 := a.frame sm fun x hx => fr x (List.mem_append_left _ hx) fun z => d x hx (h3 x z)
    refine ⟨A0 ++ A', .cons ra k1 fun x hx z => ?_, fun x hx => ?_⟩
    · rcases k2 x z with y | y
      · exact d x hx (h3 x (dj x y (List.mem_append_left _ hx)))
      · exact d x hx y.1
    · rcases List.mem_append.mp hx with z | z
      · exact .inr ⟨List.mem_append_left _ z, fun y => d x z (h3 x y)⟩
      · exact (k2 x z).imp id fun y => ⟨List.mem_append_right _ y.1, y.2⟩
/-- a node over a row of parts -/
theorem back_node {A B : List Addr} {p : Addr} {w : V} {K K2 : Hp → Hp → OT → List Addr → Prop} (hn : p ∉ A) (hs : ∀ a ∈ B, a ∈ A) (hb : Back G I H A B w K) (hk : ∀ I' H' t' A', I' p = none → H' p = H p → p ∉ A' → K I' H' t' A' → K2 I' H' t' (p :: A')) : Back G I H (p :: A) B w K2 := fun I' H' t' B' sm fr r' dj => by
  obtain ⟨A', k1, k2⟩ := hb I' H' t' B' sm (fun x hx => fr x (List.mem_cons_of_mem _ hx)) r' fun x hx hz => dj x hx (List.mem_cons_of_mem _ hz)
  obtain ⟨f1, f2⟩ := fr p List.mem_cons_self fun z => hn (hs p z)
  refine ⟨p :: A', hk I' H' t' A' f1 f2 (fun z => ?_) k1, fun x hx => ?_⟩
  · rcases k2 p z with y | y
    · exact hn (hs p (dj p y List.mem_cons_self))
    · exact hn y.1
  · rcases List.mem_cons.mp hx with rfl | z
    · exact .inr ⟨List.mem_cons_self, fun y => hn (hs x y)⟩
    · exact (k2 x z).imp id fun y => ⟨List.mem_cons_of_mem _ y.1, y.2⟩
theorem or_kid {v : V} {T : OT} {A : List Addr} {k : Nat} {t : OT} (h : OR G I H v T A) (e : T.kid k = some t) : ∃ w B, Kid H v k w ∧ OR G I H w t B ∧ (∀ a ∈ B, a ∈ A) ∧ Back G I H A B w fun I' H' t' A' => OR G I' H' v (T.setKid k t') A' := by
  cases h with
  | im _ => cases e
  | hole _ => cases e
  | lst h i n r =>
    obtain ⟨w, B, h1, h2, h3, h4⟩ := ors_lens (k := k) (t := t) r e
    exact ⟨w, B, .lst h h1, h2, fun a ha => List.mem_cons_of_mem _ (h3 a ha), back_node n h3 h4 fun I' H' t' A' f1 f2 f3 f4 => .lst (f2.trans h) f1 f3 f4⟩
  | tup h i n r =>
    obtain ⟨w, B, h1, h2, h3, h4⟩ := ors_lens (k := k) (t := t) r e
    exact ⟨w, B, .tup h h1, h2, fun a ha => List.mem_cons_of_mem _ (h3 a ha), back_node n h3 h4 fun I' H' t' A' f1 f2 f3 f4 => .tup (f2.trans h) f1 f3 f4⟩
  | @dic p fs ts A h i n r =>
    have e' : (ts[k]?).map (·.2) = some t := e
    obtain ⟨⟨x, t2⟩, e1, e2⟩ := Option.map_eq_some_iff.mp e'
    cases e2
    obtain ⟨w, B, h1, h2, h3, h4⟩ := orf_lens (k := k) r e1
    exact ⟨w, B, .dic h h1, h2, fun a ha => List.mem_cons_of_mem _ (h3 a ha), back_node n h3 h4 fun I' H' t' A' f1 f2 f3 f4 => .dic (f2.trans h) f1 f3 f4⟩
  | @ins p dx C fs ts A h i n r =>
    have e' : (ts[k]?).map (·.2) = some t := e
    obtain ⟨⟨x, t2⟩, e1, e2⟩ := Option.map_eq_some_iff.mp e'
    cases e2
    obtain ⟨w, B, h1, h2, h3, h4⟩ := orf_lens (k := k) r e1
    exact ⟨w, B, .ins h h1, h2, fun a ha => List.mem_cons_of_mem _ (h3 a ha), back_node n h3 h4 fun I' H' t' A' f1 f2 f3 f4 => .ins (f2.trans h) f1 f3 f4⟩
theorem or_lens : ∀ {π : Pth} {v : V} {T : OT} {A : List Addr} {t : OT}, OR G I H v T A → T.get π = some t → ∃ w B, AtV H v π w ∧ OR G I H w t B ∧ (∀ a ∈ B, a ∈ A) ∧ Back G I H A B w fun I' H' t' A' => OR G I' H' v (T.put π t') A'
  | [], v, T, A, t, h, e => by
    cases e
    exact ⟨v, A, .nil v, h, fun _ h => h, fun I' H' t' B' sm fr r' dj => ⟨B', r', fun a ha => .inl ha⟩⟩
  | k :: π, v, T, A, t, h, e => by
    rw [OT.get] at e
    cases e2 : T.kid k with
    | none => rw [e2] at e; cases e
    | some u =>
      rw [e2] at e
      obtain ⟨w1, B1, a1, a2, a3, a4⟩ := or_kid h e2
      obtain ⟨w, B, b1, b2, b3, b4⟩ := or_lens (π := π) a2 e
      refine ⟨w, B, .cons a1 b1, b2, fun a ha => a3 a (b3 a ha), fun I' H' t' B' sm fr r' dj => ?_⟩
      obtain ⟨A1, c1, c2⟩ := b4 I' H' t' B' sm (fun a ha => fr a (a3 a ha)) r' fun a ha hz => dj a ha (a3 a hz)
      obtain ⟨A', d1, d2⟩ := a4 I' H' _ A1 sm (fun a ha hn => fr a ha fun z => hn (b3 a z)) c1 fun a ha hz => by
        rcases c2 a ha with y | y
        · exact b3 a (dj a y hz)
        · exact y.1
      refine ⟨A', by
        show OR G I' H' v (T.put (k :: π) t') A'
        rw [OT.put, e2]
        exact d1, fun a ha => ?_⟩
      rcases d2 a ha with y | y
      · exact (c2 a y).imp id fun z => ⟨a3 a z.1, z.2⟩
      · exact .inr ⟨y.1, fun z => y.2 (b3 a z)⟩
theorem kid_fun {v u w : V} {k : Nat} (h1 : Kid H v k u) (h2 : Kid H v k w) : u = w := by
  have inj : ∀ {a b : List (Str × V)}, kvK a = kvK b → a = b := fun {a b} e => by
    have z := congrArg (List.map fun q : Key × V => (match q.1 with | .inr x => x | .inl _ => Str.empty, q.2)) e
    rw [kvK, kvK, List.map_map, List.map_map] at z
    have id2 : ∀ l : List (Str × V), l.map ((fun q : Key × V => ((match q.1 with | .inr x => x | .inl _ => Str.empty), q.2)) ∘ fun q : Str × V => ((Sum.inr q.1 : Key), q.2)) = l := fun l => List.map_id'' (fun _ => rfl) l
    rw [id2, id2] at z
    exact z
  cases h1 with
  | lst a b => cases h2 with
    | lst c d => rw [a] at c; cases c; rw [b] at d; cases d; rfl
    | tup c d => rw [a] at c; cases c
    | dic c d => rw [a] at c; cases c
    | ins c d => rw [a] at c; cases c
  | tup a b => cases h2 with
    | lst c d => rw [a] at c; cases c
    | tup c d => rw [a] at c; cases c; rw [b] at d; cases d; rfl
    | dic c d => rw [a] at c; cases c
    | ins c d => rw [a] at c; cases c
  | dic a b => cases h2 with
    | lst c d => rw [a] at c; cases c
    | tup c d => rw [a] at c; cases c
    | dic c d =>
      rw [a] at c
      have z := inj (HO.dK.inj (Option.some.inj c))
      rw [z, d] at b
      cases b
      rfl
    | ins c d => rw [a] at c; cases c
  | ins a b => cases h2 with
    | lst c d => rw [a] at c; cases c
    | tup c d => rw [a] at c; cases c
    | dic c d => rw [a] at c; cases c
    | ins c d => rw [a] at c; cases c; rw [b] at d; cases d; rfl
theorem atv_fun : ∀ {π : Pth} {v u w : V}, AtV H v π u → AtV H v π w → u = w
  | [], _, _, _, .nil _, .nil _ => rfl
  | _ :: _, _, _, _, .cons a b, .cons c d => by
    cases kid_fun a c
    exact atv_fun b d
theorem kid_keep {H' : Hp} {v u : V} {T t : OT} {A : List Addr} {k : Nat} (h : OR G I H v T A) (e : T.kid k = some t) (hk : Kid H v k u) (s : ∀ a ∈ A, H' a = H a) : Kid H' v k u := by
  have go : ∀ p, v = .ref p → p ∈ A → Kid H' v k u := fun p ev hp => by
    have z := s p hp
    cases hk with
    | lst a b => cases ev; exact .lst (z.trans a) b
    | tup a b => cases ev; exact .tup (z.trans a) b
    | dic a b => cases ev; exact .dic (z.trans a) b
    | ins a b => cases ev; exact .ins (z.trans a) b
  cases h with
  | im _ => cases e
  | hole _ => cases e
  | lst _ _ _ _ => exact go _ rfl List.mem_cons_self
  | tup _ _ _ _ => exact go _ rfl List.mem_cons_self
  | dic _ _ _ _ => exact go _ rfl List.mem_cons_self
  | ins _ _ _ _ => exact go _ rfl List.mem_cons_self
theorem atv_keep {H' : Hp} : ∀ {π : Pth} {v w : V} {T t : OT} {A : List Addr}, OR G I H v T A → T.get π = some t → AtV H v π w → (∀ a ∈ A, H' a = H a) → AtV H' v π w
  | [], _, _, _, _, _, _, _, .nil v, _ => .nil v
  | k :: π, _, _, T, t, A, h, e, .cons a b, s => by
    rw [OT.get] at e
    cases q : T.kid k with
    | none => rw [q] at e; cases e
    | some u =>
      rw [q] at e
      obtain ⟨w, B, c1, c2, c3, _⟩ := or_kid h q
      cases kid_fun a c1
      exact .cons (kid_keep h q a s) (atv_keep c2 e b fun x hx => s x (c3 x hx))
theorem atv_snoc : ∀ {π : Pth} {v u w : V} {k : Nat}, AtV H v π u → Kid H u k w → AtV H v (π ++ [k]) w
  | [], _, _, _, _, .nil _, h => .cons h (.nil _)
  | _ :: _, _, _, _, _, .cons a b, h => .cons a (atv_snoc b h)
theorem get_snoc {k : Nat} : ∀ {π : Pth} {T t : OT}, T.get π = some t → T.get (π ++ [k]) = t.kid k
  | [], T, t, e => by
    cases e
    show (match T.kid k with | some u => u.get [] | none => none) = _
    cases T.kid k <;> rfl
  | j :: π, T, t, e => by
    rw [OT.get] at e
    show (match T.kid j with | some u => u.get (π ++ [k]) | none => none) = _
    cases q : T.kid j with
    | none => rw [q] at e; cases e
    | some u =>
      rw [q] at e
      exact get_snoc e
end
section
variable {G : Glb} {U : Bool} {I0 H0 I H I1 H1 : Hp} {σ : L2.St} {ds : List DS}
/-- a place in a slot's tree, now -/
theorem EnvR.place (en : EnvR G U I0 H0 I H σ ds) {i : Nat} {q : Option Addr} {T t : OT} {π : Pth} (h : ds[i]? = some (.ot q T)) (hg : T.get π = some t) : ∃ v w B, σ[i]? = some (some v) ∧ AtV H v π w ∧ OR G I H w t B := by
  obtain ⟨v, A, e1, r, _⟩ := en.ot h
  obtain ⟨w, B, a1, a2, _⟩ := or_lens r hg
  exact ⟨v, w, B, e1, a1, a2⟩
/-- the node at p, a place of slot i, changes -/
theorem EnvR.mutP (en : EnvR G U I0 H0 I H σ ds) {i : Nat} {q : Option Addr} {T t : OT} {π : Pth} (h : ds[i]? = some (.ot q T)) (hg : T.get π = some t) (s : Step G I H I1 H1) : ∃ v w B, σ[i]? = some (some v) ∧ AtV H1 v π w ∧ OR G I1 H1 w t B ∧ (∀ a ∈ B, H a ≠ none) ∧
    ∀ p o t' B', w = .ref p → p ∈ B → OR G I1 (upd H1 p o) w t' B' → (∀ a ∈ B', a ∈ B ∨ H a = none) → EnvR G U I0 H0 I1 (upd H1 p o) σ (ds.set i (.ot q (T.put π t'))) ∧ Pres I H I1 (upd H1 p o) := by
  obtain ⟨F, ft⟩ := en.fp
  have hi : i < σ.length := by rw [en.len]; exact (List.getElem?_eq_some_iff.mp h).1
  obtain ⟨v, A, e1, r, hA, hq⟩ := ft.sl i _ _ (List.getElem?_eq_getElem hi) h
  have e2 : σ[i]? = some (some v) := by rw [List.getElem?_eq_getElem hi, e1]
  have hk : ∀ a ∈ A, I1 a = none ∧ H1 a = H a := fun a ha => s.ownKeep (r.there a ha)
  have r1 := r.frame s.isub hk
  obtain ⟨w, B, b1, b2, b3, b4⟩ := or_lens r1 hg
  have thereN : ∀ a ∈ A, H a ≠ none := fun a ha => by
    obtain ⟨_, u, z, _⟩ := r.there a ha
    rw [z]
    exact fun q => nomatch q
  refine ⟨v, w, B, e2, b1, b2, fun a ha => thereN a (b3 a ha), fun p o t' B' ew hp rn hn => ?_⟩
  obtain ⟨A', c1, c2⟩ := b4 I1 (upd H1 p o) t' B' (Same.refl I1) (fun a ha hb => ⟨(hk a ha).1, upd_ne fun z => hb (by rw [z]; exact hp)⟩) rn fun a ha hz => (hn a ha).elim id fun z => absurd z (thereN a hz)
  have pA := b3 p hp
  obtain ⟨p1, u, p2, p3, p4⟩ := r1.there p pA
  have p5 : ∀ q w, u ≠ .frz q w := fun q w z => r1.noFrz p pA q w (by rw [p2, z])
  have notT : ∀ w, H1 p = some w → (∀ ps, w ≠ HO.tbl ps) ∧ ∀ φ, w ≠ HO.ext φ := fun w e => by
    rw [p2] at e
    cases e
    exact ⟨p3, p4⟩
  refine ⟨?_, s.pres.trans (Pres.own p1 p2 p5)⟩
  have z := en.put ft ((en.st.trans s).mutOwn (o := o) p1 (hA p pA).1 notT) (tabs_upd (s.tabs en.tb) notT) (fun a n => by
    by_cases z : a = p
    · rw [z, upd_same]; exact fun q => nomatch q
    · rw [upd_ne z]; exact s.keepN a n) i (some v) (.ot q (T.put π t')) (fun a => a ∈ A') (fun j hj a ha ho => by
      obtain ⟨z1, z2⟩ := s.ownKeep ho
      exact ⟨z1, by rw [upd_ne fun z => hj (ft.dj j i a ha (by rw [z]; exact (hA p pA).2))]; exact z2⟩) s.isub (fun a ha => ⟨(by
      obtain ⟨_, u, z, _⟩ := c1.there a ha
      rw [z]
      exact fun q => nomatch q), ?_⟩) ⟨v, A', rfl, c1, fun a ha => ⟨?_, ha⟩, hq⟩
  · rwa [show σ.set i (some v) = σ from by
      obtain ⟨hl, he⟩ := List.getElem?_eq_some_iff.mp e2
      rw [← he, List.set_getElem_self]] at z
  · rcases c2 a ha with y | y
    · rcases hn a y with y | y
      · exact .inr (hA a (b3 a y)).2
      · exact .inl y
    · exact .inr (hA a y.1).2
  · rcases c2 a ha with y | y
    · rcases hn a y with y | y
      · exact (hA a (b3 a y)).1
      · exact en.st.free y
    · exact (hA a y.1).1
end
/-! ### expressions that are places -/
/-- e is the place π of slot i -/
def plV (G : Glb) (U : Bool) (ds : List DS) (i : Nat) (π : Pth) : TE := fun σ H Q => ∃ I0 H0 I, EnvR G U I0 H0 I H σ ds ∧ ∀ v w I' H', Step G I H I' H' → σ[i]? = some (some v) → AtV H' v π w → Q w H'
abbrev DPl (X : Cx) (T : List NdefX.NTab) (U : Bool) (e : Expr) (ds : List DS) (i : Nat) (π : Pth) : Prop := PE X e (plV (gx X T) U ds i π)
section
variable {X : Cx} {T : List NdefX.NTab} {W : WX} {U : Bool} {ds : List DS} {s : DS} {E : DEn} {e : Expr} {pos : Pos}
theorem dp_var (i : Nat) {x : Str} {q : Option Addr} {T' : OT} (h : ds[i]? = some (.ot q T')) (hN : X.N[i]? = some x := by rfl) (hv : Vis X.env.scope x := by first | exact Or.inl rfl | exact Or.inr (Or.inl rfl) | exact Or.inr (Or.inr rfl))
    (hd : (x == ("__debug__" : Str)) = false := by decide) (hcd : (x == ("__classdict__" : Str)) = false := by decide) : DPl X T U (.Name x pos) ds i [] :=
  (pe_var hN hv hd hcd).weak fun σ H Q ⟨I0, H0, I, en, k⟩ => by
    obtain ⟨v, A, e1, r, _⟩ := en.ot h
    exact ⟨v, e1, k v v I H (Step.refl en.sub) e1 (.nil v)⟩
/-- behind a place, something else is evaluated -/
theorem ORs.len {G : Glb} {I H : Hp} : ∀ {vs : List V} {ts : List OT} {A : List Addr}, ORs G I H vs ts A → vs.length = ts.length
  | _, _, _, .nil => rfl
  | _, _, _, .cons _ b _ => congrArg (· + 1) b.len
theorem EnvR.place2 {G : Glb} {I0 H0 I H I1 H1 : Hp} {σ : L2.St} (en : EnvR G U I0 H0 I H σ ds) {i : Nat} {q : Option Addr} {T' t : OT} {π : Pth} (h : ds[i]? = some (.ot q T')) (hg : T'.get π = some t) {v w : V} (e1 : σ[i]? = some (some v)) (h1 : AtV H v π w) (s : Step G I H I1 H1) : AtV H1 v π w ∧ ∃ B, OR G I1 H1 w t B ∧ ∀ a ∈ B, H0 a = none := by
  obtain ⟨v', A, f1, r, hA, _⟩ := en.ot h
  rw [e1] at f1
  cases f1
  have hk : ∀ a ∈ A, I1 a = none ∧ H1 a = H a := fun a ha => s.ownKeep (r.there a ha)
  have z := atv_keep r hg h1 fun a ha => (hk a ha).2
  obtain ⟨w', B, g1, g2, g3, _⟩ := or_lens (r.frame s.isub hk) hg
  cases atv_fun z g1
  exact ⟨z, B, g2, fun a ha => hA a (g3 a ha)⟩
theorem ixN_of {n j : Nat} (h : j < n) : ixN n (j : Int) = some j := by
  unfold ixN
  rw [if_pos (by omega), if_pos (by omega)]
  rfl
theorem ixN_lt {n k : Nat} {j : Int} (h : ixN n j = some k) : k < n := (ixN_seq h).2.1
/-- an item of a list, of a tuple -/
theorem dp_ixL {i : Nat} {a b : Expr} {q : Option Addr} {T' : OT} {π : Pth} {ts : List OT} {j : Int} {k : Nat} (h : ds[i]? = some (.ot q T')) (hg : T'.get π = some (.lst ts)) (ha : DPl X T U a ds i π) (hb : DE X T U b ds (.int j)) (hj : ixN ts.length j = some k) (hp : PlainIx b := by intro _ _; rfl) : DPl X T U (.Subscript a b pos) ds i (π ++ [k]) :=
  (pe_ix ix_list ha hb hp).weak fun σ H Q ⟨I0, H0, I, en, kk⟩ => ⟨I0, H0, I, en, fun v w I1 H1 s1 e1 h1 => ⟨I0, H0, I1, en.step s1, fun y I2 H2 s2 r2 => by
    cases r2
    obtain ⟨g1, B, g2, _⟩ := (en.step s1).place2 h hg e1 h1 s2
    cases g2 with
    | @lst p vs _ A a1 a2 a3 a4 =>
      have hl : k < vs.length := by rw [a4.len]; exact ixN_lt hj
      refine ⟨p, vs, j, vs[k], rfl, rfl, SqL.of a1, ?_, kk v _ I2 H2 (s1.trans s2) e1 (atv_snoc g1 (.lst a1 (List.getElem?_eq_getElem hl)))⟩
      unfold atI
      rw [a4.len, hj]
      exact List.getElem?_eq_getElem hl⟩⟩
theorem dp_ixT {i : Nat} {a b : Expr} {q : Option Addr} {T' : OT} {π : Pth} {ts : List OT} {j : Int} {k : Nat} (h : ds[i]? = some (.ot q T')) (hg : T'.get π = some (.tup ts)) (ha : DPl X T U a ds i π) (hb : DE X T U b ds (.int j)) (hj : ixN ts.length j = some k) (hp : PlainIx b := by intro _ _; rfl) : DPl X T U (.Subscript a b pos) ds i (π ++ [k]) :=
  (pe_ix ix_tup ha hb hp).weak fun σ H Q ⟨I0, H0, I, en, kk⟩ => ⟨I0, H0, I, en, fun v w I1 H1 s1 e1 h1 => ⟨I0, H0, I1, en.step s1, fun y I2 H2 s2 r2 => by
    cases r2
    obtain ⟨g1, B, g2, _⟩ := (en.step s1).place2 h hg e1 h1 s2
    cases g2 with
    | @tup p vs _ A a1 a2 a3 a4 =>
      have hl : k < vs.length := by rw [a4.len]; exact ixN_lt hj
      refine ⟨p, vs, j, vs[k], rfl, rfl, SqT.of a1, ?_, kk v _ I2 H2 (s1.trans s2) e1 (atv_snoc g1 (.tup a1 (List.getElem?_eq_getElem hl)))⟩
      unfold atI
      rw [a4.len, hj]
      exact List.getElem?_eq_getElem hl⟩⟩
/-- what stands at a place and is told -/
theorem de_at {i : Nat} {q : Option Addr} {T' : OT} {π : Pth} {d : D} (h : ds[i]? = some (.ot q T')) (hg : T'.get π = some (.im d)) (ha : DPl X T U e ds i π) : DE X T U e ds d :=
  ha.weak fun σ H Q ⟨I0, H0, I, en, k⟩ => ⟨I0, H0, I, en, fun v w I1 H1 s1 e1 h1 => by
    obtain ⟨_, B, g2, _⟩ := (en.step s1).place2 h hg e1 h1 (Step.refl s1.sub)
    cases g2 with
    | im r => exact k w I1 H1 s1 r⟩
/-- a new value, as a tree -/
theorem dv_tree {t : OT} (h : DV X T U e ds s) (ht : s.tree = some t) : DV X T U e ds (.ot none t) :=
  h.weak fun σ H Q ⟨I0, H0, I, en, k⟩ => ⟨I0, H0, I, en, fun v I1 H1 s1 r1 => by
    obtain ⟨A, r, n⟩ := r1.tree ht
    exact k v I1 H1 s1 ⟨A, r, n, fun _ z => nomatch z⟩⟩
/-- place.append(e) -/
theorem ds_appP (i : Nat) {b : Expr} {q : Option Addr} {T' : OT} {π : Pth} {ts : List OT} {t : OT} {apos cpos : Pos} (h : ds[i]? = some (.ot q T')) (hg : T'.get π = some (.lst ts)) (hp : DPl X T U b ds i π) (he : DV X T U e ds s) (ht : s.tree = some t) (hl : ts.length < 100000) (k : E.nx (ds.set i (.ot q (T'.put π (.lst (ts ++ [t]))))))
    (hb : attributeBase b "append" X.env (eval b X.env) = eval b X.env := by rfl) (ha : ((((backTo cpos (starEach [e] X.env)).all fun x => !x.fst) && (backToKw cpos (keywordEach [] X.env)).all fun x => x.fst.isSome) && decide (([e].length + ([] : List Keyword).length + if ([] : List Keyword).isEmpty = true then 0 else 1) < 30)) = true := by rfl)
    (hln : (apos.endLine == cpos.line) = true := by rfl) (hse : starEach [e] X.env = (false, eval e X.env) :: starEach [] X.env := by rfl) (hsw : swapsWith (.Call (.Attribute b "append" apos) [e] [] cpos) none pos.line X.env = pure false := by rfl) :
    DSt X T W U (.Expr (.Call (.Attribute b "append" apos) [e] [] cpos) pos) ds E :=
  (ps_expr (pe_bm PySem.F.plainAttrs_list PySem.F.slot_list_append PySem.F.type_list_append mt_append hp (pa_cons he pa_nil hse) hb ha hln hse) hsw).weak fun D σ H ⟨I0, H0, I, en, k1, _⟩ => by
    refine ⟨I0, H0, I, en, fun v w I1 H1 s1 e1 h1 => ?_⟩
    obtain ⟨g1, B, g2, g3⟩ := (en.step s1).place2 h hg e1 h1 (Step.refl s1.sub)
    cases g2 with
    | @lst p vs _ B a1 a2 a3 a4 =>
    refine ⟨tyL a1, I0, H0, I1, en.step s1, fun y I2 H2 s2 r2 => ?_⟩
    obtain ⟨C, rC, nC⟩ := r2.tree ht
    obtain ⟨v', w', B2, b1, b2, b3, bN, b4⟩ := (en.step s1).mutP h hg s2
    rw [e1] at b1
    cases b1
    obtain ⟨c1, _⟩ := (en.step s1).place2 h hg e1 h1 s2
    cases atv_fun b2 c1
    cases b3 with
    | @lst _ ws _ B3 d1 d2 d3 d4 =>
    have pC : p ∉ C := fun z => bN p List.mem_cons_self (nC p z)
    have dis : ∀ a ∈ B3, a ∉ C := fun a ha z => bN a (List.mem_cons_of_mem _ ha) (nC a z)
    have fB : ORs (gx X T) I2 (upd H2 p (.lst (ws ++ [y]))) ws ts B3 := d4.frame (Same.refl _) fun a ha => ⟨(d4.there a ha).1, upd_ne fun z => d3 (by rw [← z]; exact ha)⟩
    have fC : OR (gx X T) I2 (upd H2 p (.lst (ws ++ [y]))) y t C := rC.frame (Same.refl _) fun a ha => ⟨(rC.there a ha).1, upd_ne fun z => pC (by rw [← z]; exact ha)⟩
    obtain ⟨e2, p2⟩ := b4 p (.lst (ws ++ [y])) (.lst (ts ++ [t])) (p :: (B3 ++ C)) rfl List.mem_cons_self (.lst upd_same d2 (fun z => (List.mem_append.mp z).elim d3 pC) (ORs.snoc fC fB dis)) fun a ha => by
      rcases List.mem_cons.mp ha with rfl | z
      · exact .inl List.mem_cons_self
      · exact (List.mem_append.mp z).imp (List.mem_cons_of_mem _) (nC a)
    exact ⟨p, ws, y, rfl, rfl, d1, by rw [d4.len]; exact Nat.lt_of_lt_of_le hl (by decide), k1 _ _ ⟨_, I2, e2, s1.pres.trans p2, k⟩⟩
end
end Lp

/-! Data among a list's items. -/
namespace Lp
open PySem PySem.Spec PyProof.Rows L2
def rInP (K : PySem.W.Frag) (f : Bool → Bool) : R2 := fun x y H Q => ∃ d ds, Dp K H x d ∧ Dp K H y (.list ds) ∧ d.plain = true ∧ PyData.plainAll ds = true ∧ d.depth ≤ 64 ∧ Q (.bl (f (ds.any fun z => PyData.eqv z d))) H
theorem op_inP {X : Cx} (hu : X.A.units + 65 < cLine) : OpR X (compareOp .In) (rInP X.K id) := by
  intro pins s σ H x y v u Q I rx ry h
  obtain ⟨d, ds, hd, he, sd, se, hl, q⟩ := h
  obtain ⟨as, r1⟩ := Dp.reads I d x v hd rx
  obtain ⟨bs, r2⟩ := Dp.reads I (.list ds) y u he ry
  exact SeqAt.in_list_data r2 r1 se sd (by have := Nat.min_le_right (PyData.depthAll ds) d.depth; omega) ⟨.bl _, H, I, rfl, q⟩
theorem op_niP {X : Cx} (hu : X.A.units + 65 < cLine) : OpR X (compareOp .NotIn) (rInP X.K not) := by
  intro pins s σ H x y v u Q I rx ry h
  obtain ⟨d, ds, hd, he, sd, se, hl, q⟩ := h
  obtain ⟨as, r1⟩ := Dp.reads I d x v hd rx
  obtain ⟨bs, r2⟩ := Dp.reads I (.list ds) y u he ry
  exact SeqAt.notIn_list_data r2 r1 se sd (by have := Nat.min_le_right (PyData.depthAll ds) d.depth; omega) ⟨.bl _, H, I, rfl, q⟩
theorem plains_en {α : Type} [DecidableEq α] [En α] : ∀ xs : List α, PyData.plainAll (xs.map PySem.W.Datum.toD) = true
  | [] => rfl
  | x :: xs => by rw [List.map_cons, PyData.plainAll, PySem.W.Datum.plain x, plains_en xs]; rfl
theorem any_en {α : Type} [DecidableEq α] [En α] (x : α) : ∀ xs : List α, ((xs.map PySem.W.Datum.toD).any fun z => PyData.eqv z (PySem.W.Datum.toD x)) = decide (x ∈ xs)
  | [] => rfl
  | y :: xs => by
    rw [List.map_cons, List.any_cons, any_en x xs, PySem.W.Datum.eqv, ← Bool.decide_or]
    refine decide_eq_decide.mpr ?_
    rw [List.mem_cons]
    exact ⟨fun z => z.imp Eq.symm id, fun z => z.imp Eq.symm id⟩
section
variable {G : Glb}
theorem dp_list {α : Type} [DecidableEq α] [En α] {I H : Hp} {v : V} {xs : List α} (r : RdS I H) (h : Rep G I v (.lst (xs.map en))) : Dp G.K H v (.list (xs.map PySem.W.Datum.toD)) := by
  cases h with
  | lst a b => exact .lst (SqL.of (r.lst a)) (dps_of r b)
theorem r2_inX {α : Type} [DecidableEq α] [En α] (hd : PySem.W.Datum.depth α ≤ 64) {x : α} {xs : List α} : R2D G (rInP G.K id) (en x) (.lst (xs.map en)) (.im (.bl (decide (x ∈ xs)))) := fun I H v w Q r h1 h2 k =>
  ⟨_, _, En.dp r h1, dp_list r h2, PySem.W.Datum.plain x, plains_en xs, Nat.le_trans (PySem.W.Datum.depth_le x) hd, by rw [any_en]; exact k _ I H (Step.refl r) (.bl _)⟩
theorem r2_niX {α : Type} [DecidableEq α] [En α] (hd : PySem.W.Datum.depth α ≤ 64) {x : α} {xs : List α} : R2D G (rInP G.K not) (en x) (.lst (xs.map en)) (.im (.bl (!decide (x ∈ xs)))) := fun I H v w Q r h1 h2 k =>
  ⟨_, _, En.dp r h1, dp_list r h2, PySem.W.Datum.plain x, plains_en xs, Nat.le_trans (PySem.W.Datum.depth_le x) hd, by rw [any_en]; exact k _ I H (Step.refl r) (.bl _)⟩
end
section
variable {X : Cx} {T : List NdefX.NTab} {W : WX} {U : Bool} {ds : List DS} {s : DS} {E : DEn} {a b : Expr} {pos : Pos}
theorem un65 {k : Nat} {A : Around} (hr : Room k A) : A.units + 65 < cLine := by
  have h1 := hr.un
  omega
theorem dt_inX {α : Type} [DecidableEq α] [En α] {x : α} {xs : List α} (ha : DE X T U a ds (en x)) (hb : DE X T U b ds (.lst (xs.map en))) (hu : X.A.units + 65 < cLine) (hd : PySem.W.Datum.depth α ≤ 64 := by decide) (hn : behindInMarks .In b = false := by rfl) : DT X T U (.Compare a [.In] [b] pos) ds (decide (x ∈ xs)) := dt_cmp (op_inP hu) (r2_inX hd) ha hb hn
theorem dt_niX {α : Type} [DecidableEq α] [En α] {x : α} {xs : List α} (ha : DE X T U a ds (en x)) (hb : DE X T U b ds (.lst (xs.map en))) (hu : X.A.units + 65 < cLine) (hd : PySem.W.Datum.depth α ≤ 64 := by decide) (hn : behindInMarks .NotIn b = false := by rfl) : DT X T U (.Compare a [.NotIn] [b] pos) ds (!decide (x ∈ xs)) := dt_cmp (op_niP hu) (r2_niX hd) ha hb hn
theorem de_inX {α : Type} [DecidableEq α] [En α] {x : α} {xs : List α} (ha : DE X T U a ds (en x)) (hb : DE X T U b ds (.lst (xs.map en))) (hu : X.A.units + 65 < cLine) (hd : PySem.W.Datum.depth α ≤ 64 := by decide) (hn : behindInMarks .In b = false := by rfl) : DE X T U (.Compare a [.In] [b] pos) ds (.bl (decide (x ∈ xs))) := dv_cmp (op_inP hu) (r2_inX hd) ha hb hn
theorem de_niX {α : Type} [DecidableEq α] [En α] {x : α} {xs : List α} (ha : DE X T U a ds (en x)) (hb : DE X T U b ds (.lst (xs.map en))) (hu : X.A.units + 65 < cLine) (hd : PySem.W.Datum.depth α ≤ 64 := by decide) (hn : behindInMarks .NotIn b = false := by rfl) : DE X T U (.Compare a [.NotIn] [b] pos) ds (.bl (!decide (x ∈ xs))) := dv_cmp (op_niP hu) (r2_niX hd) ha hb hn
/-- a statement, then the rest from what it leaves -/
theorem dss_mid {st : Stmt} {rest : List Stmt} (P : List DS → Prop) (h : DSt X T W U st ds { E with nx := P }) (k : ∀ ds', P ds' → DSs X T W U rest ds' E) : DSs X T W U (st :: rest) ds E :=
  dss_cons (PS.weak h fun D σ H q => sV_imp (E' := { E with nx := fun ds' => DSs X T W U rest ds' E }) k (fun _ z => z) (fun _ z => z) (fun _ z => z) (fun _ _ _ z => z) q)
end
end Lp

/-! Displays of values of one's own; membership in a tuple of scalars; sorting known lists. -/
namespace Lp
open PySem PySem.Spec PyProof.Rows L2
def aVT (G : Glb) (U : Bool) (ds : List DS) (ts : List OT) : TA := fun σ H Q => ∃ I0 H0 I, EnvR G U I0 H0 I H σ ds ∧ ∀ vs I' H' A, Step G I H I' H' → ORs G I' H' vs ts A → (∀ a ∈ A, H a = none) → Q vs H'
abbrev DAT (X : Cx) (T : List NdefX.NTab) (U : Bool) (es : List Expr) (ds : List DS) (ts : List OT) : Prop := PA X es (aVT (gx X T) U ds ts)
section
variable {X : Cx} {T : List NdefX.NTab} {W : WX} {U : Bool} {ds : List DS} {s : DS} {E : DEn} {e : Expr} {es : List Expr} {pos : Pos} {ts : List OT} {t : OT}
theorem dat_nil : DAT X T U [] ds [] := ⟨fun pos pins s σ H Q I ⟨I0, H0, I1, en, k⟩ => pa_nil.run pos pins s σ H Q I (k [] I1 H [] (Step.refl en.sub) .nil fun _ h => absurd h (by simp))⟩
theorem dat_cons (h : DV X T U e ds s) (ht : s.tree = some t) (hr : DAT X T U es ds ts) (he : starEach (e :: es) X.env = (false, eval e X.env) :: starEach es X.env := by rfl) : DAT X T U (e :: es) ds (t :: ts) :=
  (pa_cons h hr he).weak fun σ H Q ⟨I0, H0, I, en, k⟩ => ⟨I0, H0, I, en, fun v I1 H1 s1 r1 => ⟨I0, H0, I1, en.step s1, fun vs I2 H2 B s2 r2 n2 => by
    obtain ⟨A, rA, nA⟩ := r1.tree ht
    have rA2 := rA.frame (H' := H2) s2.isub fun a ha => s2.ownKeep (rA.there a ha)
    refine k (v :: vs) I2 H2 (A ++ B) (s1.trans s2) (.cons rA2 r2 fun a ha hb => ?_) fun a ha => ?_
    · obtain ⟨_, u, z, _⟩ := rA.there a ha
      rw [n2 a hb] at z
      cases z
    · exact (List.mem_append.mp ha).elim (nA a) fun z => s1.free (n2 a z)⟩⟩
theorem dv_tupT {n : Nat} (h : DAT X T U es ds ts) (hl : ts.length ≤ 100000) : DV X T U (.Tuple es n pos) ds (.ot none (.tup ts)) :=
  (pe_tup h).weak fun σ H Q ⟨I0, H0, I, en, k⟩ => ⟨I0, H0, I, en, fun vs I1 H1 A s1 r1 n1 => ⟨by rw [r1.len]; exact Nat.le_trans hl (by decide), fun p hp => by
    have s2 : Step (gx X T) I1 H1 I1 (upd H1 p (.tup vs)) := Step.newOwn s1.sub hp
    have pA : p ∉ A := fun z => by
      obtain ⟨_, u, y, _⟩ := r1.there p z
      rw [hp] at y
      cases y
    refine k _ I1 _ (s1.trans s2) ⟨p :: A, .tup upd_same (s1.sub.free hp) pA (r1.frame (Same.refl _) fun a ha => s2.ownKeep (r1.there a ha)), fun a ha => ?_, fun _ z => nomatch z⟩
    rcases List.mem_cons.mp ha with rfl | z
    · exact s1.free hp
    · exact n1 a z⟩⟩
theorem dv_lstT (h : DAT X T U es ds ts) (hl : ts.length ≤ 100000) : DV X T U (.List es pos) ds (.ot none (.lst ts)) :=
  (pe_lst h).weak fun σ H Q ⟨I0, H0, I, en, k⟩ => ⟨I0, H0, I, en, fun vs I1 H1 A s1 r1 n1 => ⟨by rw [r1.len]; exact Nat.le_trans hl (by decide), fun p hp => by
    have s2 : Step (gx X T) I1 H1 I1 (upd H1 p (.lst vs)) := Step.newOwn s1.sub hp
    have pA : p ∉ A := fun z => by
      obtain ⟨_, u, y, _⟩ := r1.there p z
      rw [hp] at y
      cases y
    refine k _ I1 _ (s1.trans s2) ⟨p :: A, .lst upd_same (s1.sub.free hp) pA (r1.frame (Same.refl _) fun a ha => s2.ownKeep (r1.there a ha)), fun a ha => ?_, fun _ z => nomatch z⟩
    rcases List.mem_cons.mp ha with rfl | z
    · exact s1.free hp
    · exact n1 a z⟩⟩
end
/-! ### a gate in (None, sender) -/
theorem r2_inNS {G : Glb} {g : Option Str} {x : Str} : R2D G (rIn G.K false) (gD g) (.tup [.non, .str x]) (.im (.bl (g.isNone || decide (g = some x)))) := fun I H v w Q r h1 h2 k => by
  cases h2 with
  | tup a b =>
    cases b with
    | cons b1 b =>
      cases b with
      | cons b2 b =>
        cases b
        cases b1
        cases b2
        cases g with
        | none =>
          cases h1
          exact ⟨_, _, rfl, .inr (SqT.of (r.tup a)), rfl, rfl, by rw [if_neg Bool.false_ne_true]; exact k _ I H (Step.refl r) (.bl _)⟩
        | some g =>
          cases h1
          refine ⟨_, _, rfl, .inr (SqT.of (r.tup a)), rfl, rfl, ?_⟩
          rw [if_neg Bool.false_ne_true]
          have e : inV (.str g) [.non, .str x] = (Option.isNone (some g) || decide (some g = some x)) := by
            unfold inV
            rw [List.any_cons, List.any_cons, List.any_nil, Bool.or_false]
            show (eqV .non (.str g) || eqV (.str x) (.str g)) = (false || decide (some g = some x))
            have e1 : eqV .non (.str g) = false := rfl
            have e2 : eqV (.str x) (.str g) = decide (some g = some x) := by
              show (x == g) = _
              rw [Bool.eq_iff_iff, beq_iff_eq, decide_eq_true_eq]
              exact ⟨fun e => by rw [e], fun e => (Option.some.inj e).symm⟩
            rw [e1, e2]
          rw [e]
          exact k _ I H (Step.refl r) (.bl _)
theorem de_inNS {X : Cx} {T : List NdefX.NTab} {U : Bool} {ds : List DS} {a b : Expr} {pos : Pos} {g : Option Str} {x : Str} (ha : DE X T U a ds (gD g)) (hb : DE X T U b ds (.tup [.non, .str x])) (hn : behindInMarks .In b = false := by rfl) : DE X T U (.Compare a [.In] [b] pos) ds (.bl (g.isNone || decide (g = some x))) := dv_cmp op_in_seq r2_inNS ha hb hn
/-! ### sorting known lists -/
def sortedB : List Str → Bool
  | [] => true
  | x :: l => (l.all fun y => PySem.W.dataLe false rankD x y) && sortedB l
theorem sortedB_pw : ∀ {l : List Str}, sortedB l = true → l.Pairwise fun a b => PySem.W.dataLe false rankD a b = true
  | [], _ => .nil
  | x :: l, h => by
    rw [sortedB, Bool.and_eq_true, List.all_eq_true] at h
    exact .cons h.1 (sortedB_pw h.2)
theorem sortN_sorted {l : List Str} (h : sortedB l = true) : sortN l = l := List.mergeSort_of_pairwise (sortedB_pw h)
end Lp

/-! Methods of texts and dicts; zip; slices backwards; closures told by what they are. -/
namespace Lp
open PySem PySem.Spec PyProof.Rows L2
/-! ### dict.update -/
def mergeK (kvs more : List (Key × V)) : List (Key × V) := more.foldl (fun acc kv => putK acc kv.1 kv.2) kvs
theorem kv_merge {more : List (Key × V)} {ws : List (Key × Value)} (r : KV more ws) : ∀ {kvs : List (Key × V)} {vs : List (Key × Value)}, KV kvs vs → KV (mergeK kvs more) (merged vs ws) := by
  induction r with
  | nil => exact fun h => h
  | @cons a b as bs h t ih =>
    intro kvs vs hk
    obtain ⟨h1, h2⟩ := h
    have z := ih (kvs := putK kvs a.1 a.2) (vs := stored vs b.1 b.2) (by rw [← h1]; exact hk.put a.1 h2)
    exact z
theorem mergeK_len : ∀ (more kvs : List (Key × V)), (mergeK kvs more).length ≤ kvs.length + more.length
  | [], kvs => Nat.le_refl _
  | kv :: more, kvs => by
    have z := mergeK_len more (putK kvs kv.1 kv.2)
    have y := length_putK kvs kv.1 kv.2
    show (mergeK (putK kvs kv.1 kv.2) more).length ≤ _
    rw [List.length_cons]
    omega
def rUpd : V → List V → Hp → VK → Prop := fun x xs H Q => ∃ (a b : Addr) (kvs more : List (Key × V)), x = .ref a ∧ xs = [.ref b] ∧ a ≠ b ∧ H a = some (.dK kvs) ∧ Rd H b (.dK more) ∧ kvs.length + more.length ≤ sizeLine ∧ Q .non (upd H a (.dK (mergeK kvs more)))
theorem mt_update {X : Cx} : MtR X "dict.update" rUpd := by
  intro pins s σ H x xs v us Q I rx rxs h
  obtain ⟨a, b, kvs, more, rfl, rfl, hne, ha, hb, hl, q⟩ := h
  cases rx
  obtain ⟨u1, rfl, r1⟩ := vals1 rxs
  cases (show u1 = Value.ref b from r1)
  obtain ⟨z, hd, vs, rel, dd⟩ := dk_of I.hok ha
  obtain ⟨z2, hd2, ws, rel2, dd2⟩ := dk_rd I.hok hb
  refine call_meetsIn PySem.F.slot_dict_update dd.typeIs PySem.F.entry_dict_update (PySem.F.args_dict_update_2 _ _) (meets_dict_update (mixKind X.prog X.w) a b hne hd2)
    ⟨vs, ws, dd, dd2, by rw [← rel.length, ← rel2.length]; exact hl, fun h' dd' _ hs => ?_⟩
  have he : ∃ q, h'.get? a = some q := let ⟨q, _, _, hq, _⟩ := dd'; ⟨q, hq⟩
  have hml := mergeK_len more kvs
  exact ⟨.non, _, d_write (t' := s.toks) I (by rw [ha]; exact True.intro) hs he (dk_new (by omega) hd (kv_merge rel2 rel) dd'), rfl, q⟩
def mergeD (kvs more : List (Str × D)) : List (Str × D) := more.foldl (fun acc kv => putD acc kv.1 kv.2) kvs
theorem merge_rep {G : Glb} {I : Hp} : ∀ {gs : List (Str × V)} {more : List (Str × D)}, RepF G I gs more → ∀ {fs : List (Str × V)} {kvs : List (Str × D)}, RepF G I fs kvs → ∃ fs', mergeK (kvK fs) (kvK gs) = kvK fs' ∧ RepF G I fs' (mergeD kvs more)
  | _, _, .nil, fs, kvs, h => ⟨fs, rfl, h⟩
  | _, _, .cons (x := x) (v := v) (d := d) (vs := vs) (ds := ds) a b, fs, kvs, h => by
    obtain ⟨f1, e1, r1⟩ := put_rep (k := x) h a
    obtain ⟨f2, e2, r2⟩ := merge_rep b r1
    refine ⟨f2, ?_, r2⟩
    show mergeK (putK (kvK fs) (Sum.inr x) v) (kvK vs) = _
    rw [e1, e2]
section
variable {X : Cx} {T : List NdefX.NTab} {W : WX} {U : Bool} {ds : List DS} {s : DS} {E : DEn} {e : Expr} {pos : Pos}
theorem tyD_dict {K : PySem.W.Frag} {H : Hp} {p : Addr} {kvs : List (Key × V)} (h : H p = some (.dK kvs)) : tyV K "dict" (.ref p) H := .inr (.inr (.inl ⟨rfl, .inl ⟨_, h⟩⟩))
/-- x.update(e), x a dict of one's own with told values -/
theorem ds_updD (i : Nat) {x : Str} {p apos cpos : Pos} {kvs more : List (Str × D)} (h : ds[i]? = some (.ownD kvs)) (he : DE X T U e ds (.dic more)) (hl : kvs.length + more.length ≤ 100000) (k : E.nx (ds.set i (.ownD (mergeD kvs more)))) (hN : X.N[i]? = some x := by rfl) (hv : Vis X.env.scope x := by first | exact Or.inl rfl | exact Or.inr (Or.inl rfl) | exact Or.inr (Or.inr rfl))
    (hd : (x == ("__debug__" : Str)) = false := by decide) (hcd : (x == ("__classdict__" : Str)) = false := by decide) (hb : attributeBase (.Name x p) "update" X.env (eval (.Name x p) X.env) = eval (.Name x p) X.env := by rfl) (ha : ((((backTo cpos (starEach [e] X.env)).all fun x => !x.fst) && (backToKw cpos (keywordEach [] X.env)).all fun x => x.fst.isSome) && decide (([e].length + ([] : List Keyword).length + if ([] : List Keyword).isEmpty = true then 0 else 1) < 30)) = true := by rfl)
    (hln : (apos.endLine == cpos.line) = true := by rfl) (hse : starEach [e] X.env = (false, eval e X.env) :: starEach [] X.env := by rfl) (hsw : swapsWith (.Call (.Attribute (.Name x p) "update" apos) [e] [] cpos) none pos.line X.env = pure false := by rfl) :
    DSt X T W U (.Expr (.Call (.Attribute (.Name x p) "update" apos) [e] [] cpos) pos) ds E :=
  (ps_expr (pe_bm PySem.F.plainAttrs_dict PySem.F.slot_dict_update PySem.F.type_dict_update mt_update (pe_var hN hv hd hcd) (pa_cons he pa_nil hse) hb ha hln hse) hsw).weak fun D σ H ⟨I0, H0, I, en, k1, _⟩ => by
    obtain ⟨q, fs, e1, e2, e3, e4, e5⟩ := en.ownD h
    refine ⟨_, e1, tyD_dict e2, I0, H0, I, en, fun v I1 H1 s1 r1 => ?_⟩
    have a1 := s1.keep q _ e2 (fun _ z => nomatch z) (.inl e4)
    have a2 := s1.fresh q _ e4 e2 (fun _ q => nomatch q) (fun _ q => nomatch q)
    cases r1 with
    | @dic p2 gs _ b1 b2 =>
      have hne : q ≠ p2 := fun z => by
        rw [z] at a2
        rw [a2] at b1
        cases b1
      obtain ⟨fs', z1, z2⟩ := merge_rep b2 (e3.mono s1.isub)
      refine ⟨q, p2, _, _, rfl, rfl, hne, a1, s1.sub.dic b1, ?_, ?_⟩
      · rw [kvK, kvK, List.length_map, List.length_map, e3.len, b2.len]
        exact Nat.le_trans hl (by decide)
      · rw [z1]
        exact k1 _ _ ⟨_, I1, (en.step s1).mutOwn (d' := .ownD (mergeD kvs more)) e1 (.inr ⟨_, h⟩) a2 e5 (by rw [a1]; exact ownNd) ⟨q, fs', rfl, upd_same, z2, a2, e5, rfl⟩, s1.pres.trans (Pres.own a2 a1 fun _ _ z => nomatch z), k⟩
/-! ### methods by values -/
def RMD (G : Glb) (r : V → List V → Hp → VK → Prop) (x : D) (xs : List D) (s : DS) : Prop := ∀ (I H : Hp) (v : V) (vs : List V) (Q : VK), RdS I H → Rep G I v x → Reps G I vs xs → (∀ z I' H', Step G I H I' H' → ValR G H I' H' z s → Q z H') → r v vs H Q
theorem dv_bmS {a : Expr} {es : List Expr} {name : Str} {apos cpos : Pos} {id : String} {r : V → List V → Hp → VK → Prop} {z : Str} {xs : List D} (slot : Slot "str" name id) (hty : typeOf (.builtin id) = pure (.type "method_descriptor")) (hm : MtR X id r) (hr : RMD (gx X T) r (.str z) xs s) (ho : DE X T U a ds (.str z)) (ha : DA X T U (e :: es) ds xs)
    (hb : attributeBase a name X.env (eval a X.env) = eval a X.env) (hf : ((backTo cpos (starEach (e :: es) X.env)).all (fun x => !x.1) && (backToKw cpos (keywordEach [] X.env)).all (fun x => x.1.isSome) && decide ((e :: es).length + ([] : List Keyword).length + (if ([] : List Keyword).isEmpty then 0 else 1) < 30)) = true)
    (hl : (apos.endLine == cpos.line) = true) (hs : starEach (e :: es) X.env = (false, eval e X.env) :: starEach es X.env) (hp : (backTo cpos (starEach es X.env)).any (·.1) = false) : DV X T U (.Call (.Attribute a name apos) (e :: es) [] cpos) ds s :=
  (pe_bm PySem.F.plainAttrs_str slot hty hm ho ha hb hf hl hs hp).weak fun σ H Q ⟨I0, H0, I, en, k⟩ => ⟨I0, H0, I, en, fun v I1 H1 s1 r1 => by
    cases r1
    exact ⟨rfl, I0, H0, I1, en.step s1, fun vs I2 H2 s2 r2 => hr I2 H2 _ vs Q s2.sub (.str z) r2 fun z I3 H3 s3 r3 => k z I3 H3 ((s1.trans s2).trans s3) (r3.back (s1.trans s2))⟩⟩
section
variable {a : Expr} {apos cpos : Pos} {x y : Str}
/-- a.rstrip(e) -/
theorem de_rstripC (ho : DE X T U a ds (.str x)) (he : DE X T U e ds (.str y)) (hl : x.length ≤ sizeLine) (hb : attributeBase a "rstrip" X.env (eval a X.env) = eval a X.env := by rfl) (hf : ((backTo cpos (starEach [e] X.env)).all (fun x => !x.1) && (backToKw cpos (keywordEach [] X.env)).all (fun x => x.1.isSome) && decide ([e].length + ([] : List Keyword).length + (if ([] : List Keyword).isEmpty then 0 else 1) < 30)) = true := by rfl)
    (hln : (apos.endLine == cpos.line) = true := by rfl) (hs : starEach [e] X.env = (false, eval e X.env) :: starEach [] X.env := by rfl) : DE X T U (.Call (.Attribute a "rstrip" apos) [e] [] cpos) ds (.str (Txt.rstripChars x y)) :=
  dv_bmS PySem.F.slot_str_rstrip PySem.F.type_str_rstrip mt_rstripChars (fun I H v vs Q r h1 h2 k => by
    cases h1
    cases h2 with
    | cons b1 b2 =>
      cases b2
      cases b1
      exact ⟨x, y, rfl, rfl, hl, k _ I H (Step.refl r) (.str _)⟩) ho (da_cons he da_nil hs) hb hf hln hs rfl
/-- a.strip(e) -/
theorem de_stripC (ho : DE X T U a ds (.str x)) (he : DE X T U e ds (.str y)) (hl : x.length ≤ sizeLine) (hb : attributeBase a "strip" X.env (eval a X.env) = eval a X.env := by rfl) (hf : ((backTo cpos (starEach [e] X.env)).all (fun x => !x.1) && (backToKw cpos (keywordEach [] X.env)).all (fun x => x.1.isSome) && decide ([e].length + ([] : List Keyword).length + (if ([] : List Keyword).isEmpty then 0 else 1) < 30)) = true := by rfl)
    (hln : (apos.endLine == cpos.line) = true := by rfl) (hs : starEach [e] X.env = (false, eval e X.env) :: starEach [] X.env := by rfl) : DE X T U (.Call (.Attribute a "strip" apos) [e] [] cpos) ds (.str (Txt.stripChars x y)) :=
  dv_bmS PySem.F.slot_str_strip PySem.F.type_str_strip mt_stripChars (fun I H v vs Q r h1 h2 k => by
    cases h1
    cases h2 with
    | cons b1 b2 =>
      cases b2
      cases b1
      exact ⟨x, y, rfl, rfl, hl, k _ I H (Step.refl r) (.str _)⟩) ho (da_cons he da_nil hs) hb hf hln hs rfl
/-- a.index(e), there -/
theorem de_index {i : Nat} {rest : List Nat} (ho : DE X T U a ds (.str x)) (he : DE X T U e ds (.str y)) (hi : Builtin.Str.occurrences x y 0 x.length 1 = i :: rest) (hb : attributeBase a "index" X.env (eval a X.env) = eval a X.env := by rfl) (hf : ((backTo cpos (starEach [e] X.env)).all (fun x => !x.1) && (backToKw cpos (keywordEach [] X.env)).all (fun x => x.1.isSome) && decide ([e].length + ([] : List Keyword).length + (if ([] : List Keyword).isEmpty then 0 else 1) < 30)) = true := by rfl)
    (hln : (apos.endLine == cpos.line) = true := by rfl) (hs : starEach [e] X.env = (false, eval e X.env) :: starEach [] X.env := by rfl) : DE X T U (.Call (.Attribute a "index" apos) [e] [] cpos) ds (.int (i : Nat)) :=
  dv_bmS PySem.F.slot_str_index PySem.F.type_str_index mt_sindex (fun I H v vs Q r h1 h2 k => by
    cases h1
    cases h2 with
    | cons b1 b2 =>
      cases b2
      cases b1
      exact ⟨x, y, i, rest, rfl, rfl, hi, k _ I H (Step.refl r) (.int _)⟩) ho (da_cons he da_nil hs) hb hf hln hs rfl
/-- a.join(e), e a told list of texts -/
theorem de_join {ys : List Str} (ho : DE X T U a ds (.str x)) (he : DE X T U e ds (.lst (ys.map .str))) (hl : (ys.map (·.length)).sum + ys.length * x.length ≤ 16777216) (hb : attributeBase a "join" X.env (eval a X.env) = eval a X.env := by rfl) (hf : ((backTo cpos (starEach [e] X.env)).all (fun x => !x.1) && (backToKw cpos (keywordEach [] X.env)).all (fun x => x.1.isSome) && decide ([e].length + ([] : List Keyword).length + (if ([] : List Keyword).isEmpty then 0 else 1) < 30)) = true := by rfl)
    (hln : (apos.endLine == cpos.line) = true := by rfl) (hs : starEach [e] X.env = (false, eval e X.env) :: starEach [] X.env := by rfl) : DE X T U (.Call (.Attribute a "join" apos) [e] [] cpos) ds (.str (Txt.join x ys)) :=
  dv_bmS PySem.F.slot_str_join PySem.F.type_str_join mt_join (fun I H v vs Q r h1 h2 k => by
    cases h1
    cases h2 with
    | cons b1 b2 =>
      cases b2
      cases b1 with
      | lst c1 c2 =>
        obtain rfl := c2.strs
        exact ⟨x, _, ys, rfl, rfl, .inl (SqL.of (r.lst c1)), hl, k _ I H (Step.refl r) (.str _)⟩) ho (da_cons he da_nil hs) hb hf hln hs rfl
end
/-! ### slices backwards, lists many times -/
theorem dv_revL {k : Nat} {p1 p2 p3 : Pos} {xs : List D} (he : DE X T U e ds (.lst xs)) : DV X T U (.Subscript e (.Slice none none (some (.UnaryOp .USub (.Constant (.int 1) k p1) p2)) p3) pos) ds (.own xs.reverse) :=
  (pe_revL he).weak fun σ H Q ⟨I0, H0, I, en, kk⟩ => ⟨I0, H0, I, en, fun v I1 H1 s1 r1 => by
    cases r1 with
    | @lst p vs _ a b =>
      refine ⟨p, vs, rfl, SqL.of (s1.sub.lst a), fun q hq => kk _ I1 _ (s1.trans (Step.newOwn s1.sub hq)) ⟨q, _, rfl, s1.free hq, s1.sub.free hq, upd_same, ?_⟩⟩
      have gen : ∀ {vs : List V} {ds : List D}, Reps (gx X T) I1 vs ds → Reps (gx X T) I1 vs.reverse ds.reverse := fun {vs ds} h => by
        induction vs generalizing ds with
        | nil => cases h; exact .nil
        | cons v vs ih =>
          cases h with
          | cons h1 h2 =>
            rw [List.reverse_cons, List.reverse_cons]
            exact (ih h2).app (.cons h1 .nil)
      exact gen b⟩
theorem r2_rep {G : Glb} {xs : List D} {n : Int} (h1 : -(2 ^ 63) ≤ n) (h2 : n < 2 ^ 63) (hl : xs.length * n.toNat ≤ 100000) : R2D G rRep (.lst xs) (.int n) (.own (List.replicate n.toNat xs).flatten) := fun I H v w Q r ha hb k => by
  cases hb
  cases ha with
  | lst a b =>
    refine ⟨_, n, _, rfl, rfl, r.lst a, h1, h2, by rw [b.len]; exact Nat.le_trans hl (by decide), fun p hp => k _ I _ (Step.newOwn r hp) ⟨p, _, rfl, hp, r.free hp, upd_same, ?_⟩⟩
    generalize n.toNat = m
    induction m with
    | zero => exact .nil
    | succ m ih =>
      rw [List.replicate_succ, List.replicate_succ, List.flatten_cons, List.flatten_cons]
      exact b.app ih
theorem dv_rep {a b : Expr} {xs : List D} {n : Int} (ha : DE X T U a ds (.lst xs)) (hb : DE X T U b ds (.int n)) (h1 : -(2 ^ 63) ≤ n) (h2 : n < 2 ^ 63) (hl : xs.length * n.toNat ≤ 100000) : DV X T U (.BinOp a .Mult b pos) ds (.own (List.replicate n.toNat xs).flatten) := dv_op op_rep (r2_rep h1 h2 hl) ha hb
/-! ### zip -/
def zipD (xs ys : List D) : List D := (List.zip xs ys).map fun p => .tup [p.1, p.2]
theorem goes_zip {G : Glb} {p q : Addr} {vs ws : List V} {xs ys : List D} {I H : Hp} (hp : I p = some (.lst vs)) (hq : I q = some (.lst ws)) (r : Reps G I vs xs) (r2 : Reps G I ws ys) : Goes G (Itz G.K p q) I H (zipD xs ys) := fun I1 H1 ps rd i => by
  have h1 : SqL G.K H1 p vs := SqL.of (rd.lst (ps.same _ _ hp))
  have h2 : SqL G.K H1 q ws := SqL.of (rd.lst (ps.same _ _ hq))
  unfold zipD
  refine ⟨fun hi => ?_, fun d hd => ?_⟩
  · rw [List.length_map, List.length_zip] at hi
    refine ⟨vs, ws, h1, h2, ?_⟩
    rw [r.len, r2.len]
    omega
  · rw [List.getElem?_map] at hd
    cases e : (List.zip xs ys)[i]? with
    | none => rw [e] at hd; cases hd
    | some z =>
      rw [e] at hd
      obtain rfl := (Option.some.inj hd).symm
      obtain ⟨z1, z2⟩ := z
      obtain ⟨e1, e2⟩ := List.getElem?_zip_eq_some.mp e
      obtain ⟨v, hv, rv⟩ := r.get' e1
      obtain ⟨w, hw, rw_⟩ := r2.get' e2
      refine ⟨⟨vs, ws, v, w, h1, h2, hv, hw⟩, fun x H2 ⟨t, y1, y2, f1, f2, f3, f4, f5⟩ => ?_⟩
      have g1 := f4 vs h1
      have g2 := f5 ws h2
      rw [hv] at g1
      rw [hw] at g2
      cases g1
      cases g2
      subst f1 f3
      refine ⟨_, Step.new rd f2, Rep.tup upd_same (.cons ?_ (.cons ?_ .nil))⟩
      · exact (rv.mono ps.same).mono (Step.new (G := G) rd f2).isub
      · exact (rw_.mono ps.same).mono (Step.new (G := G) rd f2).isub
theorem di_zip {a b : Expr} {p tpos : Pos} {elts : List Expr} {kk : Nat} {xs ys : List D} (ha : DE X T U a ds (.lst xs)) (hb : DE X T U b ds (.lst ys)) (hg : Gl X "zip") (hm : X.mg "zip" = none) (he : starEach [a, b] X.env = (false, eval a X.env) :: starEach [b] X.env := by rfl) (he2 : starEach [b] X.env = (false, eval b X.env) :: starEach [] X.env := by rfl) (hpl : (backTo pos (starEach [b] X.env)).any (·.1) = false := by rfl) :
    DI X T U (.Tuple elts kk tpos) (.Call (.Name "zip" p) [a, b] [] pos) ds (zipD xs ys) := by
  have q := pi_zip (elts := elts) (kk := kk) (tpos := tpos) (p := p) (pos := pos) hg hm (da_cons ha (da_cons hb da_nil he2) he) he hpl
  refine ⟨fun pins s σ H R I ⟨I0, H0, I1, en, k⟩ => q.run pins s σ H R I ⟨I0, H0, I1, en, fun vs I2 H2 s2 r2 => ?_⟩⟩
  cases r2 with
  | cons a b =>
    cases b with
    | cons b c =>
      cases c
      cases a with
      | lst a1 a2 =>
        cases b with
        | lst b1 b2 => exact ⟨_, _, _, _, rfl, SqL.of (s2.sub.lst a1), SqL.of (s2.sub.lst b1), k _ I2 H2 s2 (goes_zip a1 b1 a2 b2)⟩
end
/-! ### a lambda's closure, handed over -/
theorem rep_fnE {G : Glb} {F : Addr → NdefX.NF} {oe : Option Expr} {f : Addr} {k : Nat} {fr : List Str} {A : List D → List D → DS → Prop} {dom g : Str → Bool} {cl : List (Str × Addr)} (hF : ∀ c, (F c).cl = cl) (N : ∀ c, CloOk G k (F c) oe fr A) {I : Hp} {L : Cels} {ws : List (Option V)} {cd : List D} (hI : Rep G I (.ref f) (.cloE F oe)) (hc : CapR G I ws cd) (hwl : ws.length = cd.length)
    (hd : Holds cl fr ws L) (hw : WasCel L) (hn : ∀ a o, L.lookup a = some o → I a = none) (hA : ∀ x, dom x = true → A cd [.str x] (.im (.bl (g x)))) : Rep G (lay L I) (.ref f) (.fn k dom g) := by
  cases hI with
  | @cloE _ c _ _ h1 h2 => exact rep_fn (N c) (.clo h1 h2) hc hwl (by rw [hF c]; exact hd) hw hn hA
theorem rep_cloE {G : Glb} {F : Addr → NdefX.NF} {oe : Option Expr} {f c : Addr} {I : Hp} (h : Rep G I (.ref f) (.clo (F c) oe)) : Rep G I (.ref f) (.cloE F oe) := by
  cases h with
  | clo a b => exact .cloE a b
/-! ### None or a pair of texts -/
instance : PySem.W.Datum (Option (Str × Str)) where
  toD
    | none => .none
    | some p => PySem.W.Datum.toD p
  plain a := by
    cases a with
    | none => rfl
    | some p => exact PySem.W.Datum.plain p
  eqv a b := by
    cases a with
    | none => cases b with
      | none => rfl
      | some y => rfl
    | some x => cases b with
      | none => rfl
      | some y =>
        rw [show decide (some x = some y) = decide (x = y) from decide_eq_decide.mpr ⟨fun e => Option.some.inj e, fun e => by rw [e]⟩]
        exact PySem.W.Datum.eqv (α := Str × Str) x y
  depth := 1
  depth_le a := by
    cases a with
    | none => exact Nat.zero_le _
    | some p => exact PySem.W.Datum.depth_le p
instance : En (Option (Str × Str)) where
  enc
    | none => .non
    | some p => En.enc p
  dp {_ _ _ _ x} r h := by
    cases x with
    | none => cases h; exact .non
    | some y => exact En.dp (α := Str × Str) r h
end Lp

/-! More of statements and comparisons. -/
namespace Lp
open PySem PySem.Spec PyProof.Rows L2
section
variable {X : Cx} {T : List NdefX.NTab} {W : WX} {U : Bool} {ds : List DS} {s : DS} {E : DEn} {e a b : Expr} {pos : Pos}
/-- a target that takes a told value apart -/
theorem ds_asgT {tg : Expr} {d : D} {ds' : List DS} {js : List Nat} (he : DE X T U e ds d) (hg : DG X T U tg ds d ds' js) (k : E.nx ds') (hs : swapsWithSole [tg] e pos.line X.env = pure false := by rfl) (hw : swappedStores [tg] e X.env = pure none := by rfl) (h1 : (assignEach [tg] X.env).map (·.2) = [assign tg X.env] := by rfl) : DSt X T W U (.Assign [tg] e pos) ds E :=
  (ps_asg he hg hs hw h1).weak fun D σ H ⟨I0, H0, I, en, k1, _⟩ => ⟨I0, H0, I, en, fun v I1 H1 s1 r1 => ⟨I0, H0, I1, en.step s1, r1, fun σ' en' _ => k1 _ H1 ⟨ds', I1, en', s1.pres, k⟩⟩⟩
theorem de_neX {α : Type} [DecidableEq α] [En α] {x y : α} (ha : DE X T U a ds (en x)) (hb : DE X T U b ds (en y)) (hu : X.A.units + 64 < cLine) (hd : PySem.W.Datum.depth α ≤ 64 := by decide) : DE X T U (.Compare a [.NotEq] [b] pos) ds (.bl (!decide (x = y))) := dv_cmp (op_neP hu) (r2_neX hd) ha hb
end
theorem isN_p (o : Option (Str × Str)) : ∀ (G : Glb) (I : Hp) (v : V), Rep G I v (en o) → decide (v = .non) = o.isNone := fun G I v h => by
  cases o with
  | none => cases h; rfl
  | some p => cases h; rfl
theorem cutG_take {xs : List D} {k : Nat} : cutG xs none (some (k : Int)) = xs.take k := by
  unfold cutG
  rw [HT.sIx_none, HT.sIx_nat, List.drop_zero, Nat.sub_zero]
  by_cases h : k ≤ xs.length
  · rw [Nat.min_eq_left h]
  · rw [Nat.min_eq_right (by omega), List.take_of_length_le (Nat.le_refl _), List.take_of_length_le (by omega)]
theorem cutG_drop {xs : List D} {k : Nat} : cutG xs (some (k : Int)) none = xs.drop k := by
  unfold cutG
  rw [HT.sIx_none, HT.sIx_nat]
  by_cases h : k ≤ xs.length
  · rw [Nat.min_eq_left h]
    exact List.take_of_length_le (by rw [List.length_drop]; exact Nat.le_refl _)
  · rw [Nat.min_eq_right (by omega), List.drop_of_length_le (Nat.le_refl _), List.drop_of_length_le (by omega), List.take_nil]
end Lp

/-! Trees handed from slot to slot; loops over lists of trees of one's own; the values of a dict; parts of texts. -/
namespace Lp
open PySem PySem.Spec PyProof.Rows L2
def OT.ptr : OT → Bool
  | .im _ => false
  | .hole _ => false
  | _ => true
def DS.ptree : DS → Option OT
  | .own xs => some (.lst (xs.map .im))
  | .ownD kvs => some (.dic (kvs.map fun kv => (kv.1, .im kv.2)))
  | .ot _ t => if t.ptr then some t else none
  | _ => none
section
variable {G : Glb} {U : Bool} {I0 H0 I H : Hp} {σ : L2.St} {ds : List DS}
theorem OR.ref {v : V} {t : OT} {A : List Addr} (h : OR G I H v t A) (hp : t.ptr = true) : ∃ p, v = .ref p := by
  cases h with
  | im _ => cases hp
  | lst _ _ _ _ => exact ⟨_, rfl⟩
  | tup _ _ _ _ => exact ⟨_, rfl⟩
  | hole _ => cases hp
  | dic _ _ _ _ => exact ⟨_, rfl⟩
  | ins _ _ _ _ => exact ⟨_, rfl⟩
theorem SlotR.pin {ov : Option V} {S : Addr → Prop} {t : OT} : ∀ {s : DS}, SlotR G H0 I H ov S s → s.ptree = some t → ∃ p, SlotR G H0 I H ov S (.ot (some p) t)
  | .no, _, e => nomatch e
  | .gh _, _, e => nomatch e
  | .im _, _, e => nomatch e
  | .own _, ⟨p, vs, e, h, r, i, z1, z2⟩, e2 => by
    cases e2
    exact ⟨p, .ref p, [p], e, .lst h i (by simp) (ors_im r), fun a ha => by rw [List.mem_singleton.mp ha]; exact ⟨z1, z2⟩, fun q e => by cases e; rfl⟩
  | .ownD _, ⟨p, vs, e, h, r, i, z1, z2⟩, e2 => by
    cases e2
    exact ⟨p, .ref p, [p], e, .dic h i (by simp) (orf_im r), fun a ha => by rw [List.mem_singleton.mp ha]; exact ⟨z1, z2⟩, fun q e => by cases e; rfl⟩
  | .ot q t', ⟨v, A, e, r, z1, z2⟩, e2 => by
    change (if t'.ptr = true then some t' else none) = some t at e2
    cases hp : t'.ptr with
    | false => rw [hp] at e2; cases e2
    | true =>
      rw [hp] at e2
      cases e2
      obtain ⟨p, rfl⟩ := r.ref hp
      exact ⟨p, _, A, e, r, z1, fun q e => by cases e; rfl⟩
/-- one slot told anew; its addresses stay -/
theorem EnvR.retell (en : EnvR G U I0 H0 I H σ ds) (i : Nat) {s : DS} (h : ∀ o S, σ[i]? = some o → (∃ s0, ds[i]? = some s0 ∧ SlotR G H0 I H o S s0) → SlotR G H0 I H o S s) : EnvR G U I0 H0 I H σ (ds.set i s) := by
  obtain ⟨F, ft⟩ := en.fp
  refine ⟨en.st, en.tb, by rw [List.length_set]; exact en.len, F, fun j o d h1 h2 => ?_, ft.dj, ft.th⟩
  by_cases hj : j = i
  · subst hj
    have hl : j < ds.length := by
      have := (List.getElem?_eq_some_iff.mp h2).1
      rwa [List.length_set] at this
    rw [List.getElem?_set_self hl] at h2
    cases h2
    exact h o (F j) h1 ⟨_, List.getElem?_eq_getElem hl, ft.sl j o _ h1 (List.getElem?_eq_getElem hl)⟩
  · rw [List.getElem?_set_ne (Ne.symm hj)] at h2
    exact ft.sl j o d h1 h2
theorem EnvR.pin (en : EnvR G U I0 H0 I H σ ds) {i : Nat} {s : DS} {t : OT} (h : ds[i]? = some s) (ht : s.ptree = some t) : ∃ p, EnvR G U I0 H0 I H σ (ds.set i (.ot (some p) t)) := by
  obtain ⟨F, ft⟩ := en.fp
  have hi : i < σ.length := by rw [en.len]; exact (List.getElem?_eq_some_iff.mp h).1
  obtain ⟨p, hp⟩ := (ft.sl i _ _ (List.getElem?_eq_getElem hi) h).pin ht
  refine ⟨p, en.st, en.tb, by rw [List.length_set]; exact en.len, F, fun j o d h1 h2 => ?_, ft.dj, ft.th⟩
  by_cases hj : j = i
  · subst hj
    rw [List.getElem?_set_self (by rw [← en.len]; exact hi)] at h2
    rw [List.getElem?_eq_getElem hi] at h1
    cases h1
    cases h2
    exact hp
  · rw [List.getElem?_set_ne (Ne.symm hj)] at h2
    exact ft.sl j o d h1 h2
/-- what slot i holds goes to the hole that names it, in slot k -/
theorem EnvR.fill (en : EnvR G U I0 H0 I H σ ds) {i k : Nat} {q : Option Addr} {T t : OT} {π : Pth} {p : Addr} (hik : i ≠ k) (h : ds[i]? = some (.ot (some p) t)) (hk : ds[k]? = some (.ot q T)) (hg : T.get π = some (.hole p)) : EnvR G U I0 H0 I H σ ((ds.set i (.ot (some p) (.hole p))).set k (.ot q (T.put π t))) := by
  obtain ⟨F, ft⟩ := en.fp
  have li : i < σ.length := by rw [en.len]; exact (List.getElem?_eq_some_iff.mp h).1
  have lk : k < σ.length := by rw [en.len]; exact (List.getElem?_eq_some_iff.mp hk).1
  obtain ⟨v, A, e1, r, hA, hq⟩ := ft.sl i _ _ (List.getElem?_eq_getElem li) h
  obtain ⟨w, B, f1, g, hB, gq⟩ := ft.sl k _ _ (List.getElem?_eq_getElem lk) hk
  obtain rfl := hq p rfl
  obtain ⟨u, C, c1, c2, c3, c4⟩ := or_lens g hg
  cases c2
  obtain ⟨A', d1, d2⟩ := c4 I H t A (Same.refl _) (fun a ha _ => ⟨(g.there a ha).1, rfl⟩) r (fun a ha hb => (hik (ft.dj i k a (hA a ha).2 (hB a hb).2)).elim)
  refine ⟨en.st, en.tb, by rw [List.length_set, List.length_set]; exact en.len, fun j a => if j = k then F k a ∨ F i a else if j = i then False else F j a, fun j o d h1 h2 => ?_, fun a b x h1 h2 => ?_, fun j a ha => ?_⟩
  · by_cases jk : j = k
    · subst jk
      rw [List.getElem?_set_self (by rw [List.length_set, ← en.len]; exact lk)] at h2
      rw [List.getElem?_eq_getElem lk] at h1
      cases h1
      cases h2
      refine ⟨w, A', f1, d1, fun a ha => ?_, gq⟩
      show H0 a = none ∧ (if j = j then F j a ∨ F i a else if j = i then False else F j a)
      rw [if_pos rfl]
      rcases d2 a ha with z | z
      · exact ⟨(hA a z).1, .inr (hA a z).2⟩
      · exact ⟨(hB a z.1).1, .inl (hB a z.1).2⟩
    · rw [List.getElem?_set_ne (Ne.symm jk)] at h2
      by_cases ji : j = i
      · subst ji
        rw [List.getElem?_set_self (by rw [← en.len]; exact li)] at h2
        rw [List.getElem?_eq_getElem li] at h1
        cases h1
        cases h2
        exact ⟨_, [], e1, .hole p, fun a ha => absurd ha (by simp), fun q z => by cases z; rfl⟩
      · rw [List.getElem?_set_ne (Ne.symm ji)] at h2
        exact (ft.sl j o d h1 h2).more fun a ha => by rw [if_neg jk, if_neg ji]; exact ha
  · have w : ∀ j, (if j = k then F k x ∨ F i x else if j = i then False else F j x) → (j = k ∧ (F k x ∨ F i x)) ∨ (j ≠ k ∧ j ≠ i ∧ F j x) := fun j z => by
      by_cases jk : j = k
      · rw [if_pos jk] at z
        exact .inl ⟨jk, z⟩
      · rw [if_neg jk] at z
        by_cases ji : j = i
        · rw [if_pos ji] at z
          exact z.elim
        · rw [if_neg ji] at z
          exact .inr ⟨jk, ji, z⟩
    rcases w a h1 with ⟨z1, y1⟩ | ⟨z1, z2, y1⟩
    · rcases w b h2 with ⟨z3, y2⟩ | ⟨z3, z4, y2⟩
      · rw [z1, z3]
      · rcases y1 with y1 | y1
        · exact (z3 (ft.dj k b x y1 y2).symm).elim
        · exact (z4 (ft.dj i b x y1 y2).symm).elim
    · rcases w b h2 with ⟨z3, y2⟩ | ⟨z3, z4, y2⟩
      · rcases y2 with y2 | y2
        · exact (z1 (ft.dj a k x y1 y2)).elim
        · exact (z2 (ft.dj a i x y1 y2)).elim
      · exact ft.dj a b x y1 y2
  · by_cases jk : j = k
    · rw [if_pos jk] at ha
      exact ha.elim (ft.th k a) (ft.th i a)
    · rw [if_neg jk] at ha
      by_cases ji : j = i
      · rw [if_pos ji] at ha
        exact ha.elim
      · rw [if_neg ji] at ha
        exact ft.th j a ha
end
section
variable {X : Cx} {T : List NdefX.NTab} {W : WX} {U : Bool} {ds : List DS} {s : DS} {E : DEn} {e : Expr} {pos : Pos}
theorem dss_pin (i : Nat) {sts : List Stmt} {t : OT} (h : ds[i]? = some s) (ht : s.ptree = some t) (hs : ∀ p, DSs X T W U sts (ds.set i (.ot (some p) t)) E) : DSs X T W U sts ds E :=
  ⟨fun pins s σ H D I ⟨I0, H0, I1, en, k1, k2, k3, k4, k5⟩ => by
    obtain ⟨p, e'⟩ := en.pin h ht
    exact (hs p).run pins s σ H D I (sV_from (ds := ds) (σ := σ) (Pres.refl _ _) e' k1 k2 k3 k4 k5)⟩
theorem dss_fill (i k : Nat) {sts : List Stmt} {q : Option Addr} {T' t : OT} (π : Pth) {p : Addr} (hik : i ≠ k) (h : ds[i]? = some (.ot (some p) t)) (hk : ds[k]? = some (.ot q T')) (hg : T'.get π = some (.hole p)) (hs : DSs X T W U sts ((ds.set i (.ot (some p) (.hole p))).set k (.ot q (T'.put π t))) E) : DSs X T W U sts ds E :=
  PSs.weak hs fun D σ H ⟨I0, H0, I, en, k1, k2, k3, k4, k5⟩ => sV_from (ds := ds) (σ := σ) (Pres.refl _ _) (en.fill hik h hk hg) k1 k2 k3 k4 k5
/-- a name whose tree is handed over later -/
theorem dv_hole (i : Nat) {x : Str} {p : Addr} {t : OT} (h : ds[i]? = some (.ot (some p) t)) (hN : X.N[i]? = some x := by rfl) (hv : Vis X.env.scope x := by first | exact Or.inl rfl | exact Or.inr (Or.inl rfl) | exact Or.inr (Or.inr rfl))
    (hd : (x == ("__debug__" : Str)) = false := by decide) (hcd : (x == ("__classdict__" : Str)) = false := by decide) : DV X T U (.Name x pos) ds (.ot none (.hole p)) :=
  (pe_var hN hv hd hcd).weak fun σ H Q ⟨I0, H0, I, en, k⟩ => by
    obtain ⟨v, A, e1, r, _, hq⟩ := en.ot h
    obtain rfl := hq p rfl
    exact ⟨_, e1, k _ I H (Step.refl en.sub) ⟨[], .hole p, fun a ha => absurd ha (by simp), fun _ z => nomatch z⟩⟩
/-! ### for x in y, y a list of trees of one's own -/
def FillP (i j n : Nat) (p : Addr) (P : List DS → Prop) : List DS → Prop := fun ds2 => ∃ (q : Option Addr) (T t : OT), ds2[i]? = some (.ot q T) ∧ ds2[j]? = some (.ot (some p) t) ∧ T.get [n] = some (.hole p) ∧ P ((ds2.set j (.ot (some p) (.hole p))).set i (.ot q (T.put [n] t)))
theorem ors_ptr {G : Glb} {I H : Hp} {vs : List V} {ts : List OT} {A : List Addr} (r : ORs G I H vs ts A) {n : Nat} {t : OT} (h : ts[n]? = some t) (hp : t.ptr = true) : ∃ p, vs[n]? = some (.ref p) := by
  obtain ⟨w, B, h1, h2, _⟩ := ors_lens r h
  obtain ⟨p, rfl⟩ := h2.ref hp
  exact ⟨p, h1⟩
/-- item n of the list at slot i is taken to slot j -/
theorem EnvR.take {G : Glb} {I0 H0 I H : Hp} {σ : L2.St} (en : EnvR G U I0 H0 I H σ ds) {i j n : Nat} {q : Option Addr} {ts : List OT} {t : OT} {p0 p : Addr} {vs : List V} (hij : j ≠ i) (hj : j < ds.length) (h : ds[i]? = some (.ot q (.lst ts))) (hn : ts[n]? = some t) (e0 : σ[i]? = some (some (.ref p0))) (h0 : H p0 = some (.lst vs)) (hv : vs[n]? = some (.ref p)) :
    EnvR G U I0 H0 I H (σ.set j (some (.ref p))) ((ds.set i (.ot q (.lst (ts.set n (.hole p))))).set j (.ot (some p) t)) := by
  obtain ⟨F, ft⟩ := en.fp
  have li : i < σ.length := by rw [en.len]; exact (List.getElem?_eq_some_iff.mp h).1
  obtain ⟨v, A, e1, r, hA, hq⟩ := ft.sl i _ _ (List.getElem?_eq_getElem li) h
  have e2 : v = .ref p0 := by
    rw [List.getElem?_eq_getElem li, e1] at e0
    exact Option.some.inj (Option.some.inj e0)
  subst e2
  cases r with
  | @lst _ vs2 _ A a1 a2 a3 a4 =>
  rw [h0] at a1
  cases a1
  obtain ⟨w, B, c1, c2, c3, c4⟩ := ors_lens a4 hn
  rw [hv] at c1
  cases c1
  obtain ⟨A', d1, d2⟩ := c4 I H (.hole p) [] (Same.refl _) (fun a ha _ => ⟨(a4.there a ha).1, rfl⟩) (.hole p) (fun a ha => absurd ha (by simp))
  have hA' : ∀ a ∈ A', a ∈ A ∧ a ∉ B := fun a ha => (d2 a ha).elim (fun z => absurd z (by simp)) id
  have pB : p0 ∉ B := fun z => a3 (c3 p0 z)
  have e3 : OR G I H (.ref p0) (.lst (ts.set n (.hole p))) (p0 :: A') := .lst h0 a2 (fun z => a3 (hA' p0 z).1) d1
  refine ⟨en.st, en.tb, by rw [List.length_set, List.length_set, List.length_set]; exact en.len, fun k a => if k = j then a ∈ B else if k = i then F i a ∧ a ∉ B else F k a, fun k o d h1 h2 => ?_, fun a b x h1 h2 => ?_, fun k a ha => ?_⟩
  · by_cases kj : k = j
    · subst kj
      rw [List.getElem?_set_self (by rw [List.length_set]; exact hj)] at h2
      rw [List.getElem?_set_self (by rw [en.len]; exact hj)] at h1
      cases h1
      cases h2
      exact ⟨_, B, rfl, c2, fun a ha => ⟨(hA a (List.mem_cons_of_mem _ (c3 a ha))).1, by show (if k = k then a ∈ B else if k = i then F i a ∧ a ∉ B else F k a); rw [if_pos rfl]; exact ha⟩, fun q z => by cases z; rfl⟩
    · rw [List.getElem?_set_ne (Ne.symm kj)] at h1 h2
      by_cases ki : k = i
      · subst ki
        rw [List.getElem?_set_self (by rw [← en.len]; exact li)] at h2
        rw [List.getElem?_eq_getElem li] at h1
        cases h1
        cases h2
        refine ⟨_, _, e1, e3, fun a ha => ?_, hq⟩
        show H0 a = none ∧ (if k = j then a ∈ B else if k = k then F k a ∧ a ∉ B else F k a)
        rw [if_neg kj, if_pos rfl]
        rcases List.mem_cons.mp ha with rfl | z
        · exact ⟨(hA _ List.mem_cons_self).1, (hA _ List.mem_cons_self).2, pB⟩
        · exact ⟨(hA a (List.mem_cons_of_mem _ (hA' a z).1)).1, (hA a (List.mem_cons_of_mem _ (hA' a z).1)).2, (hA' a z).2⟩
      · rw [List.getElem?_set_ne (Ne.symm ki)] at h2
        exact (ft.sl k o d h1 h2).more fun a ha => by rw [if_neg kj, if_neg ki]; exact ha
  · have w : ∀ k, (if k = j then x ∈ B else if k = i then F i x ∧ x ∉ B else F k x) → (k = j ∧ x ∈ B ∧ F i x) ∨ (k ≠ j ∧ F k x ∧ (k = i → x ∉ B)) := fun k z => by
      by_cases kj : k = j
      · rw [if_pos kj] at z
        exact .inl ⟨kj, z, (hA x (List.mem_cons_of_mem _ (c3 x z))).2⟩
      · rw [if_neg kj] at z
        by_cases ki : k = i
        · rw [if_pos ki] at z
          exact .inr ⟨kj, by rw [ki]; exact z.1, fun _ => z.2⟩
        · rw [if_neg ki] at z
          exact .inr ⟨kj, z, fun y => (ki y).elim⟩
    rcases w a h1 with ⟨z1, y1, u1⟩ | ⟨z1, y1, u1⟩
    · rcases w b h2 with ⟨z3, y2, u2⟩ | ⟨z3, y2, u2⟩
      · rw [z1, z3]
      · exact (u2 (ft.dj b i x y2 u1) y1).elim
    · rcases w b h2 with ⟨z3, y2, u2⟩ | ⟨z3, y2, u2⟩
      · exact (u1 (ft.dj a i x y1 u2) y2).elim
      · exact ft.dj a b x y1 y2
  · by_cases kj : k = j
    · rw [if_pos kj] at ha
      obtain ⟨_, u, z, _⟩ := c2.there a ha
      rw [z]
      exact fun q => nomatch q
    · rw [if_neg kj] at ha
      by_cases ki : k = i
      · rw [if_pos ki] at ha
        exact ft.th i a ha.1
      · rw [if_neg ki] at ha
        exact ft.th k a ha
theorem ds_forT (i j : Nat) {x y : Str} {tp ip : Pos} {body : List Stmt} {m : Nat} {p0 : Addr} (Pv : Nat → List DS → Prop) (hij : j ≠ i) (h0 : Pv 0 ds) (hl : ∀ n ds1, Pv n ds1 → ds1.length = ds.length ∧ j < ds1.length ∧ ∃ ts, ds1[i]? = some (.ot (some p0) (.lst ts)) ∧ ts.length = m ∧ ∀ t ∈ ts, t.ptr = true)
    (hb : ∀ n ds1 ts t p, Pv n ds1 → ds1[i]? = some (.ot (some p0) (.lst ts)) → ts[n]? = some t → DSs X T W U body ((ds1.set i (.ot (some p0) (.lst (ts.set n (.hole p))))).set j (.ot (some p) t)) { E with nx := FillP i j n p (Pv (n + 1)), ct := FillP i j n p (Pv (n + 1)), bk := E.nx }) (hd : ∀ ds1, Pv m ds1 → E.nx ds1)
    (hp : PassesOwn (model X.prog X.w) X.A X.env X.xe) (hN : X.N.Nodup) (hNj : X.N[j]? = some x := by rfl) (hx : Loc X.env.scope x := by first | exact Or.inl rfl | exact Or.inr rfl) (hf : X.fn x = true ∨ X.env.scope.names.lookup x = some .local := by first | exact .inl rfl | exact .inr rfl | assumption)
    (hNi : X.N[i]? = some y := by rfl) (hv : Vis X.env.scope y := by first | exact Or.inl rfl | exact Or.inr (Or.inl rfl) | exact Or.inr (Or.inr rfl)) (hdd : (y == ("__debug__" : Str)) = false := by decide) (hcd : (y == ("__classdict__" : Str)) = false := by decide)
    (hc : X.calm = true := by rfl) (hs : ∀ x, foldedSetIterable (.Name y ip) X.env x = pure x := by intro _; rfl) : DSt X T W U (.For (.Name x tp) (.Name y ip) body [] pos) ds E := by
  have hB : PSs X body (fun D σ H => ∃ n ds1 ts t p, Pv n ds1 ∧ ds1[i]? = some (.ot (some p0) (.lst ts)) ∧ ts[n]? = some t ∧ sV (gx X T) W U ((ds1.set i (.ot (some p0) (.lst (ts.set n (.hole p))))).set j (.ot (some p) t)) { E with nx := FillP i j n p (Pv (n + 1)), ct := FillP i j n p (Pv (n + 1)), bk := E.nx } D σ H) :=
    ⟨fun pins s σ H D I ⟨n, ds1, ts, t, p, a1, a2, a3, q⟩ => (hb n ds1 ts t p a1 a2 a3).run pins s σ H D I q⟩
  refine (ps_for hp hc (pi_list (pe_var hNi hv hdd hcd)) (pg_name (pos := tp) hN hNj hx hf) hB hs).weak fun D σ H ⟨I0, H0, I, en, k1, k2, k3, k4, k5⟩ => ?_
  obtain ⟨_, _, ts0, g1, g2, g3⟩ := hl 0 ds h0
  have root : ∀ {ds1 : List DS} {I' H' : Hp} {σ' : L2.St} {ts : List OT}, EnvR (gx X T) U I0 H0 I' H' σ' ds1 → ds1[i]? = some (.ot (some p0) (.lst ts)) → σ'[i]? = some (some (.ref p0)) ∧ ∃ vs A, H' p0 = some (.lst vs) ∧ ORs (gx X T) I' H' vs ts A := fun {ds1 I' H' σ' ts} en h => by
    obtain ⟨v, A, e1, r, _, hq⟩ := en.ot h
    obtain rfl := hq p0 rfl
    cases r with
    | lst a1 a2 a3 a4 => exact ⟨e1, _, _, a1, a4⟩
  obtain ⟨r1, vs0, A0, r2, r3⟩ := root en g1
  refine ⟨_, r1, p0, rfl, ⟨vs0, SqL.of r2⟩, fun n mm σ' H' => mm = m - n ∧ n ≤ m ∧ ∃ ds1 I', EnvR (gx X T) U I0 H0 I' H' σ' ds1 ∧ Pres I H I' H' ∧ Pv n ds1, ⟨_, rfl, Nat.zero_le _, ds, I, en, Pres.refl _ _, h0⟩, ?_⟩
  rintro n mm σ' H' ⟨rfl, hn, ds1, I', en', ps, hv⟩
  obtain ⟨l1, l2, ts, g1, g2, g3⟩ := hl n ds1 hv
  obtain ⟨r1, vs, A, r2, r3⟩ := root en' g1
  by_cases hlt : n < m
  · refine .inr ?_
    have hl2 : n < ts.length := by rw [g2]; exact hlt
    obtain ⟨p, hp2⟩ := ors_ptr r3 (List.getElem?_eq_getElem hl2) (g3 _ (List.getElem_mem hl2))
    refine ⟨⟨vs, .ref p, SqL.of r2, hp2⟩, fun σ2 H2 => ∃ ds2 I2, EnvR (gx X T) U I0 H0 I2 H2 σ2 ds2 ∧ Pres I H I2 H2 ∧ Pv (n + 1) ds2, fun σ2 H2 ⟨ds2, I2, e2, p2, v2⟩ => ⟨m - (n + 1), by omega, rfl, hlt, ds2, I2, e2, p2, v2⟩, fun z H2 ⟨y1, y2⟩ => ?_⟩
    have y3 := y2 vs (SqL.of r2)
    rw [hp2] at y3
    cases y3
    rw [y1]
    have e3 := en'.take hij l2 g1 (List.getElem?_eq_getElem hl2) r1 r2 hp2
    have fin : ∀ σ4 H4, NxR (gx X T) U I0 H0 I' H' (FillP i j n p (Pv (n + 1))) σ4 H4 → ∃ ds2 I2, EnvR (gx X T) U I0 H0 I2 H4 σ4 ds2 ∧ Pres I H I2 H4 ∧ Pv (n + 1) ds2 := by
      rintro σ4 H4 ⟨ds4, I4, e4, p4, q, T4, t4, w1, w2, w3, w4⟩
      exact ⟨_, I4, e4.fill hij w2 w1 w3, ps.trans p4, w4⟩
    refine ⟨n, ds1, ts, ts[n], p, hv, g1, List.getElem?_eq_getElem hl2, I0, H0, I', e3, fin, k2, ?_, fin, fun C fs d s h n => k5 C fs d s h (n.pre ps)⟩
    rintro σ4 H4 ⟨ds4, I4, e4, p4, v4⟩
    exact k1 σ4 H4 ⟨ds4, I4, e4, ps.trans p4, v4⟩
  · have e : n = m := by omega
    subst e
    exact .inl ⟨⟨vs, SqL.of r2, by rw [r3.len, g2]; exact Nat.le_refl _⟩, k1 σ' H' ⟨ds1, I', en', ps, hd ds1 hv⟩⟩
end
/-! ### list(d.values()), handed back -/
def tVals (te : TE) : TE := fun σ H Q => te σ H fun x H1 => ∃ a kvs, x = .ref a ∧ Rd H1 a (.dK kvs) ∧ ∀ p, H1 p = none → Q (.ref p) (upd H1 p (viewO "dict_values" p a))
theorem vals_at : ∀ {kvs : List (Key × V)} {vs : List (Key × Value)} {us : List Value}, KV kvs vs → us.length = vs.length → (∀ (j : Nat) (v : Value), us[j]? = some v → ∃ k : Key, vs[j]? = some (k, v)) → Vals (kvs.map (·.2)) us
  | _, _, [], .nil, _, _ => .nil
  | _, _, u :: us, .cons a b, hl, h => by
    obtain ⟨k, e⟩ := h 0 u rfl
    cases Option.some.inj e
    exact .cons a.2 (vals_at b (by simpa using hl) fun j v e => h (j + 1) v e)
section
variable {X : Cx}
theorem pe_valsK {e : Expr} {td : TE} {apos cpos : Pos} (he : PE X e td) (hbase : attributeBase e "values" X.env (eval e X.env) = eval e X.env := by rfl) (hline : (apos.endLine == cpos.line) = true := by rfl) : PE X (.Call (.Attribute e "values" apos) [] [] cpos) (tVals td) := by
  refine ⟨fun pins s σ H Q I h => ?_⟩
  refine wpAny_Call_method (T := "dict") (id := "dict.values") hbase rfl hline F.plainAttrs_dict F.slot_dict_values F.type_dict_values (thn (he.run pins s σ H _ I h) fun u s1 ⟨x, H1, I1, rx, d, kvs, ex, hd, q⟩ => ?_)
  subst ex
  obtain rfl : u = Value.ref d := rx
  obtain ⟨z, lo, vs, rel, dd⟩ := dk_rd I1.hok hd
  refine ⟨dd.typeIs, dd.mapOf.noDict, ?_⟩
  have fin : EP X pins σ Q (.ref s1.heap.objs.size) { s1 with heap := s1.heap.push { cls := .type "dict_values", data := .fields #[.ref d] } } :=
    ⟨.ref s1.heap.objs.size, _, I1.laid (t' := s1.toks) (fun b o q => Heap.get?_push_of_some _ q) (Nat.le_refl _) (viewO_ok (Heap.get?_push_size _ rfl)), rfl, q _ (I1.hok.fresh (Nat.le_refl _))⟩
  show wpAny _ _ (callWith cpos (.builtin "dict.values") [.ref d] [] []) _ X.xe s1
  exact method_meetsIn F.slot_dict_values F.entry_dict_values rfl (PySem.evalArgs_none ⟨rfl, dd.typeIs, F.args_dict_values_1 _, _, meets_dict_values (mixKind X.prog X.w) d lo, ⟨vs, dd⟩, fin⟩)
theorem call_listV (hcalm : X.calm = true) : CallR X (.type "list") (fun xs H Q => ∃ (p a : Addr) (kvs : List (Key × V)), xs = [.ref p] ∧ H p = some (viewO "dict_values" p a) ∧ Rd H a (.dK kvs) ∧ ∀ l, H l = none → Q (.ref l) (upd H l (.lst (kvs.map (·.2))))) := by
  intro pins s σ H xs us Q I r q
  obtain ⟨p, a, kvs, ex, hp, hd, q⟩ := q
  subst ex
  obtain ⟨u, eu, rx⟩ := vals1 r
  subst eu
  cases rx
  obtain ⟨z, lo, vs, rel, dd⟩ := dk_rd I.hok hd
  obtain ⟨ep, hat⟩ := dd.dictAt
  have hv : s.heap.get? p = some (DSub.viewOb "dict_values" a) := (show ObjOk X.prog X.w H s.heap p (viewO "dict_values" p a) from I.hok p _ hp).1
  refine PySem.W.kdl_call (PySem.W.kdl_values (knd := mixKind X.prog X.w) (kvs := vs) (ep := ep)) (I.ok.hd hcalm) ⟨⟨_, hv, rfl, rfl⟩, hat⟩ (by rw [← rel.length]; exact z) fun h' tk acc c' hk hD hacc => ?_
  have hv : Vals (kvs.map (·.2)) acc.toList := vals_at rel (by rw [Array.length_toList]; exact hacc.1) fun j v e => hacc.2 j v (by rw [← Array.getElem?_toList]; exact e)
  refine ⟨.ref s.heap.objs.size, upd H s.heap.objs.size (.lst (kvs.map (·.2))), I.laid (t' := tk) hk (Nat.le_refl _)
    (show ObjOk X.prog X.w _ _ _ (.lst (kvs.map (·.2))) from ⟨by rw [List.length_map]; exact z, acc.toList, c', hv, by rw [Array.toArray_toList]; exact hD⟩), rfl, q _ (I.hok.fresh (Nat.le_refl _))⟩
end
theorem ORF.vals {G : Glb} {I H : Hp} : ∀ {fs : List (Str × V)} {ts : List (Str × OT)} {A : List Addr}, ORF G I H fs ts A → ORs G I H (fs.map (·.2)) (ts.map (·.2)) A
  | _, _, _, .nil => .nil
  | _, _, _, .cons a b c => .cons a b.vals c
section
variable {X : Cx} {T : List NdefX.NTab} {W : WX} {U : Bool} {ds : List DS} {s : DS} {E : DEn} {e a b : Expr} {pos : Pos}
/-- return list(x.values()), x a dict of one's own -/
theorem ds_retVals (i : Nat) {x : Str} {p lp pos' apos cpos : Pos} {q : Option Addr} {ts : List (Str × OT)} (h : ds[i]? = some (.ot q (.dic ts))) (k : E.rt (.ot none (.lst (ts.map (·.2))))) (hg : Gl X "list") (hm : X.mg "list" = none) (hc : X.calm = true := by rfl) (hN : X.N[i]? = some x := by rfl) (hv : Vis X.env.scope x := by first | exact Or.inl rfl | exact Or.inr (Or.inl rfl) | exact Or.inr (Or.inr rfl))
    (hd : (x == ("__debug__" : Str)) = false := by decide) (hcd : (x == ("__classdict__" : Str)) = false := by decide) (hb : attributeBase (.Name x p) "values" X.env (eval (.Name x p) X.env) = eval (.Name x p) X.env := by rfl) (hl : (apos.endLine == cpos.line) = true := by rfl)
    (he : starEach [(Expr.Call (.Attribute (.Name x p) "values" apos) [] [] cpos)] X.env = (false, eval (Expr.Call (.Attribute (.Name x p) "values" apos) [] [] cpos) X.env) :: starEach [] X.env := by rfl) :
    DSt X T W U (.Return (some (.Call (.Name "list" lp) [.Call (.Attribute (.Name x p) "values" apos) [] [] cpos] [] pos')) pos) ds E :=
  (ps_ret (pe_callTy (call_listV hc) hg hm (by decide +kernel) (pa_cons (pe_valsK (pe_var hN hv hd hcd) hb hl) pa_nil he) (by decide) (by decide) he rfl)).weak fun D σ H ⟨I0, H0, I, en, _, k2, _⟩ => by
    obtain ⟨v, A, e1, r, hA, hq⟩ := en.ot h
    cases r with
    | @dic p fs _ A a1 a2 a3 a4 =>
    refine ⟨_, e1, p, kvK fs, rfl, .inl a1, fun p2 hp2 => ?_⟩
    have pp : p ≠ p2 := fun z => by
      rw [z, hp2] at a1
      cases a1
    refine ⟨p2, p, kvK fs, rfl, upd_same, .inl (by rw [upd_ne pp]; exact a1), fun l hl => ?_⟩
    have s1 : Step (gx X T) I H I (upd H p2 (viewO "dict_values" p2 p)) := Step.newOwn en.sub hp2
    have s2 : Step (gx X T) I (upd H p2 (viewO "dict_values" p2 p)) I (upd (upd H p2 (viewO "dict_values" p2 p)) l (.lst ((kvK fs).map (·.2)))) := Step.newOwn s1.sub hl
    have hlH : H l = none := s1.free hl
    have z : (kvK fs).map (·.2) = fs.map (·.2) := by
      rw [kvK, List.map_map]
      rfl
    have r4 : ORs (gx X T) I (upd (upd H p2 (viewO "dict_values" p2 p)) l (.lst ((kvK fs).map (·.2)))) (fs.map (·.2)) (ts.map (·.2)) A := a4.vals.frame (Same.refl I) fun a ha => (s1.trans s2).ownKeep (a4.vals.there a ha)
    refine k2 _ _ (.ot none (.lst (ts.map (·.2)))) ⟨I, en.st.trans (s1.trans s2), l :: A, .lst (by rw [upd_same, z]) (en.sub.free hlH) (fun y => ?_) r4, fun a ha => ?_, fun _ z => nomatch z⟩ k
    · obtain ⟨_, u, y2, _⟩ := a4.vals.there l y
      rw [hlH] at y2
      cases y2
    · rcases List.mem_cons.mp ha with rfl | y
      · exact en.st.free hlH
      · exact hA a (List.mem_cons_of_mem _ y)
/-! ### texts in parts -/
section
variable {apos cpos : Pos} {x y : Str}
theorem de_partition (ho : DE X T U a ds (.str x)) (he : DE X T U e ds (.str y)) (hl : x.length ≤ sizeLine) (hy : (y.length == 0) = false) (hb : attributeBase a "partition" X.env (eval a X.env) = eval a X.env := by rfl) (hf : ((backTo cpos (starEach [e] X.env)).all (fun x => !x.1) && (backToKw cpos (keywordEach [] X.env)).all (fun x => x.1.isSome) && decide ([e].length + ([] : List Keyword).length + (if ([] : List Keyword).isEmpty then 0 else 1) < 30)) = true := by rfl)
    (hln : (apos.endLine == cpos.line) = true := by rfl) (hs : starEach [e] X.env = (false, eval e X.env) :: starEach [] X.env := by rfl) : DE X T U (.Call (.Attribute a "partition" apos) [e] [] cpos) ds (.tup [.str (Txt.partition x y).1, .str (Txt.partition x y).2.1, .str (Txt.partition x y).2.2]) :=
  dv_bmS PySem.F.slot_str_partition PySem.F.type_str_partition mt_partition (fun I H v vs Q r h1 h2 k => by
    cases h1
    cases h2 with
    | cons b1 b2 =>
      cases b2
      cases b1
      exact ⟨x, y, rfl, rfl, hy, hl, fun p hp => k _ _ _ (Step.new r hp) (.tup upd_same (.cons (.str _) (.cons (.str _) (.cons (.str _) .nil))))⟩) ho (da_cons he da_nil hs) hb hf hln hs rfl
theorem dv_split (ho : DE X T U a ds (.str x)) (he : DE X T U e ds (.str y)) (hl : x.length + 2 ≤ sizeLine) (hy : (y.length == 0) = false) (hb : attributeBase a "split" X.env (eval a X.env) = eval a X.env := by rfl) (hf : ((backTo cpos (starEach [e] X.env)).all (fun x => !x.1) && (backToKw cpos (keywordEach [] X.env)).all (fun x => x.1.isSome) && decide ([e].length + ([] : List Keyword).length + (if ([] : List Keyword).isEmpty then 0 else 1) < 30)) = true := by rfl)
    (hln : (apos.endLine == cpos.line) = true := by rfl) (hs : starEach [e] X.env = (false, eval e X.env) :: starEach [] X.env := by rfl) : DV X T U (.Call (.Attribute a "split" apos) [e] [] cpos) ds (.own ((Txt.split x y).map .str)) :=
  dv_bmS PySem.F.slot_str_split PySem.F.type_str_split mt_split (fun I H v vs Q r h1 h2 k => by
    cases h1
    cases h2 with
    | cons b1 b2 =>
      cases b2
      cases b1
      exact ⟨x, y, rfl, rfl, hy, hl, fun p hp => k _ I _ (Step.newOwn r hp) ⟨p, _, rfl, hp, r.free hp, upd_same, Reps.ofStrs _⟩⟩) ho (da_cons he da_nil hs) hb hf hln hs rfl
theorem de_starts (ho : DE X T U a ds (.str x)) (he : DE X T U e ds (.str y)) (hb : attributeBase a "startswith" X.env (eval a X.env) = eval a X.env := by rfl) (hf : ((backTo cpos (starEach [e] X.env)).all (fun x => !x.1) && (backToKw cpos (keywordEach [] X.env)).all (fun x => x.1.isSome) && decide ([e].length + ([] : List Keyword).length + (if ([] : List Keyword).isEmpty then 0 else 1) < 30)) = true := by rfl)
    (hln : (apos.endLine == cpos.line) = true := by rfl) (hs : starEach [e] X.env = (false, eval e X.env) :: starEach [] X.env := by rfl) : DE X T U (.Call (.Attribute a "startswith" apos) [e] [] cpos) ds (.bl (Txt.startswith x y)) :=
  dv_bmS PySem.F.slot_str_startswith PySem.F.type_str_startswith mt_startswith (fun I H v vs Q r h1 h2 k => by
    cases h1
    cases h2 with
    | cons b1 b2 =>
      cases b2
      cases b1
      exact ⟨x, y, rfl, rfl, k _ I H (Step.refl r) (.bl _)⟩) ho (da_cons he da_nil hs) hb hf hln hs rfl
/-- f'{e}..' -/
theorem de_fmt2 {j : Nat} {p1 p2 : Pos} (he : DE X T U e ds (.str x)) (h1 : x.length ≤ sizeLine) (h2 : (x ++ y).length ≤ sizeLine) : DE X T U (.JoinedStr [.FormattedValue e (-1) none p1, .Constant (.str y) j p2] pos) ds (.str (x ++ y)) :=
  (pe_joined (.cons (pe_fmt he) (.cons pe_str .nil))).weak fun σ H Q ⟨I0, H0, I, en, k⟩ => ⟨I0, H0, I, en, fun v I1 H1 s1 r1 => by
    cases r1
    have e0 : Str.empty ++ x = x := TL.ext_tl (by rw [TL.tl_append]; rfl)
    refine .inl ⟨x, rfl, h1, x, rfl, by rw [e0]; exact h1, y, rfl, by rw [e0]; exact h2, ?_⟩
    rw [e0]
    exact k _ I1 H1 s1 (.str _)⟩
end
/-- x += e, texts -/
theorem ds_augS (i : Nat) {x : Str} {pos' : Pos} {y z : Str} (h : ds[i]? = some (.im (.str y))) (he : DE X T U e ds (.str z)) (hl : y.length + z.length ≤ sizeLine) (k : E.nx (ds.set i (.im (.str (y ++ z))))) (hN : X.N.Nodup) (hi : X.N[i]? = some x := by rfl) (hx : Loc X.env.scope x := by first | exact Or.inl rfl | exact Or.inr rfl)
    (hf : X.fn x = true ∨ X.env.scope.names.lookup x = some .local := by first | exact .inl rfl | exact .inr rfl | assumption) : DSt X T W U (.AugAssign (.Name x pos') .Add e pos) ds E :=
  (ps_aug hN hi hx he (ti := fun x y H Q => ∃ i j, x = .str i ∧ y = .str j ∧ i.length + j.length ≤ sizeLine ∧ Q (.str (i ++ j)) H) iop_add_str hf).weak fun D σ H ⟨I0, H0, I, en, k1, _⟩ => by
    obtain ⟨v, e1, r⟩ := en.im h
    cases r
    refine ⟨_, e1, I0, H0, I, en, fun w I1 H1 s1 r1 => ?_⟩
    cases r1
    exact ⟨y, z, rfl, rfl, hl, k1 _ H1 ⟨_, I1, (en.step s1).setIm i (.str _), s1.pres, k⟩⟩
end
end Lp

/-! x.extend(e). -/
namespace Lp
open PySem PySem.Spec PyProof.Rows L2
section
variable {X : Cx} {T : List NdefX.NTab} {W : WX} {U : Bool} {ds : List DS} {s : DS} {E : DEn} {e a b : Expr} {pos : Pos} {xs ys : List D}
theorem ds_extL (i : Nat) {x : Str} {p apos cpos : Pos} (h : ds[i]? = some (.own xs)) (he : DE X T U e ds (.lst ys)) (hl : xs.length + ys.length ≤ 100000) (k : E.nx (ds.set i (.own (xs ++ ys)))) (hN : X.N[i]? = some x := by rfl) (hv : Vis X.env.scope x := by first | exact Or.inl rfl | exact Or.inr (Or.inl rfl) | exact Or.inr (Or.inr rfl))
    (hd : (x == ("__debug__" : Str)) = false := by decide) (hcd : (x == ("__classdict__" : Str)) = false := by decide) (hb : attributeBase (.Name x p) "extend" X.env (eval (.Name x p) X.env) = eval (.Name x p) X.env := by rfl) (ha : ((((backTo cpos (starEach [e] X.env)).all fun x => !x.fst) && (backToKw cpos (keywordEach [] X.env)).all fun x => x.fst.isSome) && decide (([e].length + ([] : List Keyword).length + if ([] : List Keyword).isEmpty = true then 0 else 1) < 30)) = true := by rfl)
    (hln : (apos.endLine == cpos.line) = true := by rfl) (hse : starEach [e] X.env = (false, eval e X.env) :: starEach [] X.env := by rfl) (hsw : swapsWith (.Call (.Attribute (.Name x p) "extend" apos) [e] [] cpos) none pos.line X.env = pure false := by rfl) :
    DSt X T W U (.Expr (.Call (.Attribute (.Name x p) "extend" apos) [e] [] cpos) pos) ds E :=
  (ps_expr (pe_bm PySem.F.plainAttrs_list PySem.F.slot_list_extend PySem.F.type_list_extend mt_extend (pe_var hN hv hd hcd) (pa_cons he pa_nil hse) hb ha hln hse) hsw).weak fun D σ H ⟨I0, H0, I, en, k1, _⟩ => by
    obtain ⟨q, vs, e1, e2, e3, e4, e5⟩ := en.own h
    refine ⟨_, e1, tyL e2, I0, H0, I, en, fun v I1 H1 s1 r1 => ?_⟩
    have a1 := s1.keep q _ e2 (fun _ z => nomatch z) (.inl e4)
    have a2 := s1.fresh q _ e4 e2 (fun _ q => nomatch q) (fun _ q => nomatch q)
    cases r1 with
    | @lst p2 ws _ b1 b2 =>
      refine ⟨q, p2, vs, ws, rfl, rfl, a1, s1.sub.lst b1, by rw [e3.len, b2.len]; exact Nat.le_trans hl (by decide), ?_⟩
      obtain ⟨c1, c2⟩ := (en.step s1).putL h e1 a1 a2 e5 ((e3.mono s1.isub).app b2)
      exact k1 _ _ ⟨_, I1, c1, s1.pres.trans c2, k⟩
end
end Lp

/-! Methods of told instances; isinstance of own classes. -/
namespace Lp
open PySem PySem.Spec PyProof.Rows L2
/-- a method, by data: the instance is told first -/
structure MethD (G : Glb) (k : Nat) (c m : Str) (ps : List Str) (A : List D → DS → Prop) : Prop where
  cls : Cls G.K (He.ga G.K c)
  mth : Meth G.K (He.ga G.K c) m (He.ma G.K (He.ga G.K c) m)
  ok : FnOk G.P G.w G.K G.mg G.base CX0 k (He.ma G.K (He.ga G.K c) m) (fdOf G.K (He.ma G.K (He.ga G.K c) m)) ps (spD G false A)
  n : L2.Binds G.K (fdOf G.K (He.ma G.K (He.ga G.K c) m)) ps []
theorem look_no {G : Glb} {I : Hp} {m : Str} : ∀ {vs : List (Str × V)} {ts : List (Str × D)}, RepF G I vs ts → ts.lookup m = none → vs.lookup m = none
  | _, _, .nil, _ => rfl
  | _, _, .cons (x := x) (vs := vs) (ds := ds) a b, h => by
    rw [List.lookup_cons] at h ⊢
    cases e : m == x with
    | true => rw [e] at h; cases h
    | false =>
      rw [e] at h
      exact look_no b h
section
variable {X : Cx} {T : List NdefX.NTab} {U : Bool} {ds : List DS} {s : DS} {o e : Expr} {es : List Expr} {pos apos : Pos} {c m : Str} {ps : List Str} {A : List D → DS → Prop} {k j : Nat} {fds : List (Str × D)} {xs : List D}
theorem dv_meth (C : MethD (gx X T) k c m ps A) (hr : Room j X.A) (ho : DE X T U o ds (.ins c fds)) (ha : DA X T U (e :: es) ds xs) (hA : A (.ins c fds :: xs) s) (hl : fds.lookup m = none := by rfl) (hk : k ≤ j := by decide) {pl : Sem Bool}
    (hst : starEach (e :: es) X.env = (false, eval e X.env) :: starEach es X.env := by rfl) (hpl : (backTo pos (starEach es X.env)).any (·.1) = false := by rfl)
    (ht : eval (.Call (.Attribute o m apos) (e :: es) [] pos) X.env = (do
      let ov ← eval o X.env
      standAt apos.atName
      let (f, first) ← holding [ov] (getMethod ov m pl)
      callWith pos f first (backTo pos (starEach (e :: es) X.env)) (backToKw pos (keywordEach [] X.env))) := by rfl) : DV X T U (.Call (.Attribute o m apos) (e :: es) [] pos) ds s :=
  (pe_meth (pl := pl) ho C.cls C.mth C.ok (hr.mono hk) C.n .nil (E := E0) pass0 ha hst hpl ht).weak fun σ H Q ⟨I0, H0, I, en, kk⟩ => ⟨I0, H0, I, en, fun v I1 H1 s1 r1 => by
    cases r1 with
    | @ins p dx _ fs _ a b =>
      refine ⟨p, dx, fs, rfl, s1.sub.ins a, look_no b hl, I0, H0, I1, en.step s1, fun vs I2 H2 s2 r2 => ?_⟩
      show spD (gx X T) false A (.ref p :: (vs ++ [])) H2 Q E0
      rw [List.append_nil]
      have s12 := s1.trans s2
      exact ⟨I2, .ins c fds :: xs, s, s2.sub, (en.step s12).tb, .cons (.ins (s2.isub _ _ a) (b.mono s2.isub)) r2, hA, fun v H' ⟨I3, s3, r3⟩ => kk v I3 H' (s12.trans s3) (r3.back s12)⟩⟩
theorem dv_meth0 (C : MethD (gx X T) k c m ps A) (hr : Room j X.A) (ho : DE X T U o ds (.ins c fds)) (hA : A [.ins c fds] s) (hl : fds.lookup m = none := by rfl) (hk : k ≤ j := by decide) {pl : Sem Bool}
    (ht : eval (.Call (.Attribute o m apos) [] [] pos) X.env = (do
      let ov ← eval o X.env
      standAt apos.atName
      let (f, first) ← holding [ov] (getMethod ov m pl)
      callWith pos f first (backTo pos (starEach [] X.env)) (backToKw pos (keywordEach [] X.env))) := by rfl) : DV X T U (.Call (.Attribute o m apos) [] [] pos) ds s :=
  (pe_meth0 (pl := pl) ho C.cls C.mth C.ok (hr.mono hk) C.n .nil (E := E0) pass0 ht).weak fun σ H Q ⟨I0, H0, I, en, kk⟩ => ⟨I0, H0, I, en, fun v I1 H1 s1 r1 => by
    cases r1 with
    | @ins p dx _ fs _ a b =>
      refine ⟨p, dx, fs, rfl, s1.sub.ins a, look_no b hl, ?_⟩
      show spD (gx X T) false A [.ref p] H1 Q E0
      exact ⟨I1, [.ins c fds], s, s1.sub, (en.step s1).tb, .cons (.ins a b) .nil, hA, fun v H' ⟨I3, s3, r3⟩ => kk v I3 H' (s1.trans s3) (r3.back s1)⟩⟩
/-- what isinstance asks of a class C of one's own and of the class D -/
structure IsC (K : PySem.W.Frag) (C D : Addr) (b : Bool) : Prop where
  i : C8.InsC K C
  me : PySem.W.kitOne K (.ref C) (.ref D) = some b
theorem de_isC {x : Str} {p1 : Pos} {b : Bool} {cc : Expr} (he : DE X T U e ds (.ins c fds)) (hI : IsC X.K (He.ga X.K c) (He.ga X.K x) b) (hx : X.mg x = some (.ref (He.ga X.K x))) (hm : X.mg "isinstance" = none) (hg : Gl X x := by rfl) (hgi : Gl X "isinstance" := by rfl) (hdb : (x == ("__debug__" : Str)) = false := by decide)
    (h1 : starEach [e, .Name x p1] X.env = (false, eval e X.env) :: starEach [.Name x p1] X.env := by rfl) (h2 : starEach [.Name x p1] X.env = (false, eval (.Name x p1) X.env) :: starEach [] X.env := by rfl) (hpl : (backTo pos (starEach [.Name x p1] X.env)).any (·.1) = false := by rfl) {p0 : Pos} :
    DE X T U (.Call (.Name "isinstance" p0) [e, .Name x p1] [] pos) ds (.bl b) :=
  (pe_callB (p := p0) call_isi hgi hm (by decide +kernel) (pa_cons he (pa_cons (pe_glob (v := .ref (He.ga X.K x)) hg hx rfl hdb) pa_nil h2) h1) (by decide) (by decide) h1 hpl).weak fun σ H Q ⟨I0, H0, I, en, kk⟩ => ⟨I0, H0, I, en, fun v I1 H1 s1 r1 => by
    cases r1 with
    | @ins p dx _ fs _ a b2 =>
      exact ⟨.ref p, .ref (He.ga X.K x), .ref (He.ga X.K c), .ref (He.ga X.K x), b, rfl, .own _, .base (.ins (s1.sub.ins a) hI.i.cl hI.i.ha hI.i.hn hI.i.htk hI.i.hm), hI.me, kk _ I1 H1 s1 (.bl b)⟩⟩
end
end Lp

/-! Loops over a list of one's own with told items. -/
namespace Lp
open PySem PySem.Spec PyProof.Rows L2
theorem imL_fz : ∀ l : List D, OT.fzs (l.map .im) = l
  | [] => by rw [List.map_nil, OT.fzs]
  | d :: l => by rw [List.map_cons, OT.fzs, OT.fz, imL_fz l]
theorem imL_nd : ∀ l : List D, OT.nds (l.map .im) = true
  | [] => by rw [List.map_nil, OT.nds]
  | d :: l => by rw [List.map_cons, OT.nds, OT.nd, imL_nd l]; rfl
theorem lstI_fz (l : List D) : (OT.lst (l.map .im)).fz = .lst l := by rw [OT.fz, imL_fz]
theorem lstI_nd (l : List D) : (OT.lst (l.map .im)).nd = true := by rw [OT.nd, imL_nd]
theorem lk_d {xs : List D} {j : Nat} {d : D} (h : xs[j]? = some d) : atI xs (j : Int) = some d := by
  unfold atI
  rw [ixN_of (List.getElem?_eq_some_iff.mp h).1]
  exact h
section
variable {X : Cx} {T : List NdefX.NTab} {W : WX} {U : Bool} {ds : List DS} {s : DS} {E : DEn} {e : Expr} {pos : Pos}
theorem ds_forI (i j : Nat) {x y : Str} {tp ip : Pos} {body : List Stmt} {m : Nat} {p0 : Addr} (Pv : Nat → List DS → Prop) (h0 : Pv 0 ds) (hl : ∀ n ds1, Pv n ds1 → ∃ xs : List D, ds1[i]? = some (.ot (some p0) (.lst (xs.map .im))) ∧ xs.length = m)
    (hb : ∀ (n : Nat) (ds1 : List DS) (xs : List D) (d : D), Pv n ds1 → ds1[i]? = some (.ot (some p0) (.lst (xs.map .im))) → xs[n]? = some d → DSs X T W U body (ds1.set j (.im d)) { E with nx := Pv (n + 1), ct := Pv (n + 1), bk := E.nx }) (hd : ∀ ds1, Pv m ds1 → E.nx ds1)
    (hp : PassesOwn (model X.prog X.w) X.A X.env X.xe) (hN : X.N.Nodup) (hNj : X.N[j]? = some x := by rfl) (hx : Loc X.env.scope x := by first | exact Or.inl rfl | exact Or.inr rfl) (hf : X.fn x = true ∨ X.env.scope.names.lookup x = some .local := by first | exact .inl rfl | exact .inr rfl | assumption)
    (hNi : X.N[i]? = some y := by rfl) (hv : Vis X.env.scope y := by first | exact Or.inl rfl | exact Or.inr (Or.inl rfl) | exact Or.inr (Or.inr rfl)) (hdd : (y == ("__debug__" : Str)) = false := by decide) (hcd : (y == ("__classdict__" : Str)) = false := by decide)
    (hc : X.calm = true := by rfl) (hs : ∀ x, foldedSetIterable (.Name y ip) X.env x = pure x := by intro _; rfl) : DSt X T W U (.For (.Name x tp) (.Name y ip) body [] pos) ds E := by
  have hB : PSs X body (fun D' σ H => ∃ (n : Nat) (ds1 : List DS) (xs : List D) (d : D), Pv n ds1 ∧ ds1[i]? = some (.ot (some p0) (.lst (xs.map .im))) ∧ xs[n]? = some d ∧ sV (gx X T) W U (ds1.set j (.im d)) { E with nx := Pv (n + 1), ct := Pv (n + 1), bk := E.nx } D' σ H) :=
    ⟨fun pins s σ H D I ⟨n, ds1, xs, d, a1, a2, a3, q⟩ => (hb n ds1 xs d a1 a2 a3).run pins s σ H D I q⟩
  refine (ps_for hp hc (pi_list (pe_var hNi hv hdd hcd)) (pg_name (pos := tp) hN hNj hx hf) hB hs).weak fun D σ H ⟨I0, H0, I, en, k1, k2, k3, k4, k5⟩ => ?_
  obtain ⟨xs0, g1, g2⟩ := hl 0 ds h0
  have root : ∀ {ds1 : List DS} {I' H' : Hp} {σ' : L2.St} {ts : List OT}, EnvR (gx X T) U I0 H0 I' H' σ' ds1 → ds1[i]? = some (.ot (some p0) (.lst ts)) → σ'[i]? = some (some (.ref p0)) ∧ ∃ vs A, H' p0 = some (.lst vs) ∧ ORs (gx X T) I' H' vs ts A := fun {ds1 I' H' σ' ts} en h => by
    obtain ⟨v, A, e1, r, _, hq⟩ := en.ot h
    obtain rfl := hq p0 rfl
    cases r with
    | lst a1 a2 a3 a4 => exact ⟨e1, _, _, a1, a4⟩
  obtain ⟨r1, vs0, A0, r2, r3⟩ := root en g1
  refine ⟨_, r1, p0, rfl, ⟨vs0, SqL.of r2⟩, fun n mm σ' H' => mm = m - n ∧ n ≤ m ∧ ∃ ds1 I', EnvR (gx X T) U I0 H0 I' H' σ' ds1 ∧ Pres I H I' H' ∧ Pv n ds1, ⟨_, rfl, Nat.zero_le _, ds, I, en, Pres.refl _ _, h0⟩, ?_⟩
  rintro n mm σ' H' ⟨rfl, hn, ds1, I', en', ps, hv⟩
  obtain ⟨xs, g1, g2⟩ := hl n ds1 hv
  obtain ⟨r1, vs, A, r2, r3⟩ := root en' g1
  by_cases hlt : n < m
  · refine .inr ?_
    have hx : xs[n]? = some xs[n] := List.getElem?_eq_getElem (by rw [g2]; exact hlt)
    have hx2 : (xs.map OT.im)[n]? = some (.im xs[n]) := by rw [List.getElem?_map, hx]; rfl
    obtain ⟨w, B, q1, q2, _⟩ := ors_lens r3 hx2
    have rw_ : Rep (gx X T) I' w xs[n] := by
      cases q2 with
      | im r => exact r
    refine ⟨⟨vs, w, SqL.of r2, q1⟩, fun σ2 H2 => ∃ ds2 I2, EnvR (gx X T) U I0 H0 I2 H2 σ2 ds2 ∧ Pres I H I2 H2 ∧ Pv (n + 1) ds2, fun σ2 H2 ⟨ds2, I2, e2, p2, v2⟩ => ⟨m - (n + 1), by omega, rfl, hlt, ds2, I2, e2, p2, v2⟩, fun z H2 ⟨y1, y2⟩ => ?_⟩
    have y3 := y2 vs (SqL.of r2)
    rw [q1] at y3
    cases y3
    rw [y1]
    refine ⟨n, ds1, xs, xs[n], hv, g1, hx, I0, H0, I', en'.setIm j rw_, ?_, k2, ?_, ?_, fun C fs d s h n => k5 C fs d s h (n.pre ps)⟩
    · rintro σ4 H4 ⟨ds4, I4, e4, p4, v4⟩
      exact ⟨ds4, I4, e4, ps.trans p4, v4⟩
    · rintro σ4 H4 ⟨ds4, I4, e4, p4, v4⟩
      exact k1 σ4 H4 ⟨ds4, I4, e4, ps.trans p4, v4⟩
    · rintro σ4 H4 ⟨ds4, I4, e4, p4, v4⟩
      exact ⟨ds4, I4, e4, ps.trans p4, v4⟩
  · have e : n = m := by omega
    subst e
    exact .inl ⟨⟨vs, SqL.of r2, by rw [r3.len, List.length_map, g2]; exact Nat.le_refl _⟩, k1 σ' H' ⟨ds1, I', en', ps, hd ds1 hv⟩⟩
end
end Lp

/-! Ranks compared. -/
namespace Lp
open PySem PySem.Spec PyProof.Rows L2
def rGeP (K : PySem.W.Frag) : R2 := fun x y H Q => ∃ d e, Dp K H x d ∧ Dp K H y e ∧ PySem.W.alike d e = true ∧ d ≠ .none ∧ d.depth ≤ 64 ∧ Q (.bl (!PySem.W.dataLt d e)) H
theorem op_geP {X : Cx} (hu : X.A.units + 64 < cLine) : OpR X (compareOp .GtE) (rGeP X.K) := by
  intro pins s σ H x y v u Q I rx ry h
  obtain ⟨d, e, hd, he, pa, pn, l, q⟩ := h
  obtain ⟨as, r1⟩ := Dp.reads I d x v hd rx
  obtain ⟨bs, r2⟩ := Dp.reads I e y u he ry
  exact PySem.W.ge_data r1 r2 pa pn (by have := Nat.min_le_left d.depth e.depth; omega) ⟨.bl _, H, I, rfl, q⟩
theorem r2_geR {G : Glb} {x y : Str} : R2D G (rGeP G.K) (.tup [.int (x.length : Int), .str x]) (.tup [.int (y.length : Int), .str y]) (.im (.bl (PySem.W.dataLe false rankD y x))) := fun I H v w Q r h1 h2 k => by
  refine ⟨rankD x, rankD y, En.dp (x := ((x.length : Int), x)) r h1, En.dp (x := ((y.length : Int), y)) r h2, by simp [rankD, PySem.W.alike, PySem.W.alikeAll], (fun z => by cases z), by simp [rankD, PyData.depth, PyData.depthAll], ?_⟩
  have e : PySem.W.dataLe false rankD y x = !PySem.W.dataLt (rankD x) (rankD y) := by rw [PySem.W.dataLe_eq]; rfl
  rw [← e]
  exact k _ I H (Step.refl r) (.bl _)
theorem de_geR {X : Cx} {T : List NdefX.NTab} {U : Bool} {ds : List DS} {a b : Expr} {pos : Pos} {x y : Str} (ha : DE X T U a ds (.tup [.int (x.length : Int), .str x])) (hb : DE X T U b ds (.tup [.int (y.length : Int), .str y])) (hu : X.A.units + 64 < cLine) : DE X T U (.Compare a [.GtE] [b] pos) ds (.bl (PySem.W.dataLe false rankD y x)) := dv_cmp (op_geP hu) r2_geR ha hb
end Lp

/-! sorted(xs, key=f), f's keys may hold lists that f has just made. -/
namespace Lp
open PySem PySem.Spec PyProof.Rows PySem.Calls
/-- a call that keeps all that was there and gives the key k; the key's lists are new -/
def KeyMade (k : PyData) (s₁ : Shared) (v : Value) (s₂ : Shared) : Prop := ∃ h' tk as, s₂ = { s₁ with heap := h', toks := tk } ∧ (∀ b o, s₁.heap.get? b = some o → h'.get? b = some o) ∧ PySem.Reads h' v k as ∧ ∀ x ∈ as, s₁.heap.get? x = none
/-- a key that the list at c does not touch -/
def Apart (c : Addr) (h : Heap) (v : Value) (k : PyData) : Prop := (∃ as, PySem.Reads h v k as ∧ c ∉ as) ∧ PySem.W.alike k k = true
section
variable {prog : Program} {w : World} {A : Around} {E : Value → Shared → Prop} {s : Shared} {a kS : Addr} {b : Bool} {vs : List Value} {e1 : Nat} {P : PySem.Fin → Shared → Prop} {kz : List PyData}
theorem Apart.keeps {c : Addr} {h h' : Heap} {v : Value} {k : PyData} (q : Apart c h v k) (kp : ∀ b o, h.get? b = some o → h'.get? b = some o) : Apart c h' v k := by
  obtain ⟨⟨as, r, n⟩, z⟩ := q
  exact ⟨⟨as, PyProof.Rows.Reads.keeps kp r, n⟩, z⟩
theorem Apart.change {c : Addr} {h h' : Heap} {v : Value} {k : PyData} (q : Apart c h v k) (kp : ∀ b o, b ≠ c → h.get? b = some o → h'.get? b = some o) (hl : ∀ o, h.get? c = some o → o.cls = .type "list") : Apart c h' v k := by
  obtain ⟨⟨as, r, n⟩, z⟩ := q
  exact ⟨⟨as, PySem.W.Reads.keepBut kp hl k v as z r n, n⟩, z⟩
/-- the keys' turn of list.sort -/
structure Turn (s : Shared) (a kS : Addr) (e1 : Nat) (h₁ : Heap) (kz : List PyData) (i : Nat) (s' : Shared) : Prop where
  ex : ∃ h' tk kA e, s' = { s with heap := h', toks := tk } ∧ PySem.W.KeepsBut a h₁ h' ∧ h'.get? kS = some (seqObj "list" kA e) ∧ h'.get? a = some (seqObj "list" #[] e1) ∧ PySem.W.EachIs (Apart kS h') kA.toList (kz.take i)
theorem keys_turn {f : Value} {h₁ : Heap} (hkS : h₁.get? kS = none) (hka : kS ≠ a) (hlen : kz.length = vs.length) (hZ : vs.length ≤ sizeLine) (hal : PySem.W.AllAlike kz)
    (turn : ∀ (i : Nat) (v : Value) (k : PyData), vs[i]? = some v → kz[i]? = some k → ∀ (h : Heap) (tk : Nat), PySem.W.KeepsBut a h₁ h → wpAny (model prog w) A (call f [v]) (KeyMade k { s with heap := h, toks := tk }) (fun _ _ => False) { s with heap := h, toks := tk })
    {j : Nat} {x : Value} {s' : Shared} (hx : vs[j]? = some x) (T : Turn s a kS e1 h₁ kz j s') {F : Value → Shared → Prop} :
    wpAny (model prog w) A (call f [x]) (fun v s2 => ∃ kA e, s2.heap.get? kS = some (seqObj "list" kA e) ∧ kA.size ≤ vs.length ∧ ∀ h3, Heap.SameBut kS s2.heap h3 → ∀ c2, h3.get? kS = some (seqObj "list" (kA.push v) c2) → Turn s a kS e1 h₁ kz (j + 1) { s2 with heap := h3 }) (fun _ _ => False) s' := by
  obtain ⟨h', tk, kA, e, rfl, kp', nk', na', hk⟩ := T.ex
  have hj : j < vs.length := (List.getElem?_eq_some_iff.mp hx).1
  obtain ⟨k, hkj⟩ : ∃ k, kz[j]? = some k := ⟨_, List.getElem?_eq_getElem (by omega)⟩
  have hkk : PySem.W.alike k k = true := hal k (List.mem_of_getElem? hkj) k (List.mem_of_getElem? hkj)
  have hz : kA.size ≤ vs.length := by
    have h1 := hk.length
    rw [Array.length_toList, List.length_take] at h1
    omega
  refine wpAny_mono (turn j x k hx hkj h' tk kp') (fun v s2 ⟨g, tk2, as, es, hg, hr, hn⟩ => ?_) fun _ _ z => z
  subst es
  have nk2 := hg _ _ nk'
  have nS : kS ∉ as := fun z => by
    have q := hn kS z
    rw [nk'] at q
    cases q
  refine ⟨kA, e, nk2, hz, fun h3 sb c2 hc2 => ⟨h3, tk2, kA.push v, c2, rfl, (kp'.trans_all hg).same sb (.inr hkS), hc2, (sb.2 a hka.symm).trans (hg _ _ na'), ?_⟩⟩
  have ek : kz.take (j + 1) = kz.take j ++ [k] := by rw [List.take_succ, hkj]; rfl
  have ea : (kA.push v).toList = kA.toList ++ [v] := by simp
  have ch : ∀ (u : Value) (d : PyData), Apart kS g u d → Apart kS h3 u d := fun u d q => q.change (fun b o hb e => (sb.2 b hb).trans e) (fun o e => by rw [nk2] at e; rw [← Option.some.inj e])
  rw [ea, ek]
  exact PySem.W.each_snoc (R := Apart kS h3) (ch v k ⟨⟨as, hr, nS⟩, hkk⟩) (hk.mono fun u d q => ch u d (q.keeps hg))
theorem keys_rest {f : Value} {h₁ : Heap} (T0 : Turn s a kS e1 h₁ kz 0 s) (hkS : h₁.get? kS = none) (hka : kS ≠ a) (hlen : kz.length = vs.length) (hZ : vs.length ≤ sizeLine) (hal : PySem.W.AllAlike kz) (hsk : PySem.W.Sortable kz) (hu : ∀ d, d ∈ kz → A.units + d.depth < cLine)
    (turn : ∀ (i : Nat) (v : Value) (k : PyData), vs[i]? = some v → kz[i]? = some k → ∀ (h : Heap) (tk : Nat), PySem.W.KeepsBut a h₁ h → wpAny (model prog w) A (call f [v]) (KeyMade k { s with heap := h, toks := tk }) (fun _ _ => False) { s with heap := h, toks := tk })
    (h : ∀ h' tk out c, PySem.W.KeepsBut a h₁ h' → h'.get? a = some (seqObj "list" (List.toArray out) c) → PySem.W.KeyedOut b kz vs out → P (.done (.ret .none)) { s with heap := h', toks := tk }) :
    wpAny (model prog w) A (PyProof.Rows.ksk_rest a f b vs.toArray e1 (.ref kS)) P E s := by
  unfold PyProof.Rows.ksk_rest
  refine wpAny_bind (wpAny_rule ?_)
  first
    | rw [List.forIn_toArray]
    | (rw [← Array.forIn_toList]; simp only [List.toList_toArray])
    | rw [← Array.forIn_toList]
  refine wpAny_bind (PyProof.Rows.ksk_fold (fun i s' => Turn s a kS e1 h₁ kz i s') vs 0 s T0 (fun j x s' hx T => ?_) fun s' T => ?_)
  · rw [Nat.zero_add] at T ⊢
    refine wpAny_bind (wpAny_attempt (wpAny_mono (keys_turn (F := E) hkS hka hlen hZ hal turn hx T) (fun v s2 ⟨kA, e, nk, hz, fin⟩ => ?_) fun _ _ hF => hF.elim))
    try dsimp only
    obtain ⟨c2, hc2⟩ : ∃ c2, (s2.heap.update kS (Obj.mapSeq (·.push v))).get? kS = some (seqObj "list" (kA.push v) c2) := ⟨_, get?_update_seq nk (·.push v)⟩
    refine wpAny_bind (listUpdate_at nk rfl ?_ (Nat.le_trans hz hZ) (Nat.le_trans (Nat.le_of_eq (Array.size_push ..)) (Nat.succ_le_succ (Nat.le_trans hz hZ))))
    exact wpAny_pure ⟨rfl, fin _ (Heap.SameBut.update s2.heap kS (Obj.mapSeq (·.push v))) c2 hc2⟩
  · obtain ⟨h', tk, kA, e, rfl, kp', nk', na', hk⟩ := T.ex
    have e3 : kz.take (0 + vs.length) = kz := List.take_of_length_le (by omega)
    rw [e3] at hk
    have hk' : PySem.W.EachIs (fun v k => ∃ as, PySem.Reads h' v k as) kA.toList kz := hk.mono fun v k q => ⟨q.1.choose, q.1.choose_spec.1⟩
    have hsz : kA.size = vs.length := by
      have h1 := hk'.length
      rw [Array.length_toList] at h1
      omega
    try dsimp only
    refine wpAny_bind (listItems_at nk' rfl ?_)
    exact PySem.W.keyH_end (κ := PySem.W.dataKind h' kz) (h₁ := h₁) kp' hkS nk' na' hka (PySem.W.SortsAt.data (s := { s with heap := h', toks := tk }) hk' hal hsk hu) hsz hZ fun h3 tk3 c k3 n3 => h h3 tk3 _ c k3 n3 ⟨h', kA.toList, hal, rfl, hk'⟩
theorem keys_tree {f : Value} {n : Nat} (ho : s.heap.get? a = some (seqObj "list" vs.toArray n)) (hlen : kz.length = vs.length) (hZ : vs.length ≤ sizeLine) (hal : PySem.W.AllAlike kz) (hsk : PySem.W.Sortable kz) (hu : ∀ d, d ∈ kz → A.units + d.depth < cLine)
    (turn : ∀ (i : Nat) (v : Value) (k : PyData), vs[i]? = some v → kz[i]? = some k → ∀ (h : Heap) (tk : Nat), PySem.W.KeepsBut a s.heap h → wpAny (model prog w) A (call f [v]) (KeyMade k { s with heap := h, toks := tk }) (fun _ _ => False) { s with heap := h, toks := tk })
    (h : ∀ h' tk out c, PySem.W.KeepsBut a s.heap h' → h'.get? a = some (seqObj "list" (List.toArray out) c) → PySem.W.KeyedOut b kz vs out → P (.done (.ret .none)) { s with heap := h', toks := tk }) :
    wpAny (model prog w) A (PyProof.Rows.ksk_tree a f b) P E s := by
  have ha : a < s.heap.objs.size := Heap.lt_size ho
  obtain ⟨e1, ho1⟩ : ∃ e1, (s.heap.update a (Obj.mapSeq fun _ => (#[] : Array Value))).get? a = some (seqObj "list" #[] e1) := ⟨_, get?_update_seq ho fun _ => #[]⟩
  have hS : ((s.heap.update a (Obj.mapSeq fun _ => (#[] : Array Value))).push (seqObj "tuple" vs.toArray 0)).objs.size = s.heap.objs.size + 1 := by rw [size_push', Heap.size_update]
  unfold PyProof.Rows.ksk_tree
  refine wpAny_bind (listItems_at ho rfl (wpAny_bind (listUpdate_at ho rfl ?_ (by rw [List.size_toArray]; exact hZ) (Nat.zero_le _))))
  refine wpAny_bind (seqEpoch_at ho1 rfl (wpAny_bind (wpAny_newTuple ?_ (by show vs.length ≤ _; exact hZ))))
  refine wpAny_bind (wpAny_newList (wpAny_holding ?_) (Nat.zero_le _))
  generalize hk : ((s.heap.update a (Obj.mapSeq fun _ => (#[] : Array Value))).push (seqObj "tuple" vs.toArray 0)) = hp at hS
  have kp : PySem.W.KeepsBut a s.heap (hp.push (seqObj "list" #[] 0)) := fun b o hb q => by
    rw [← hk]
    exact PySem.W.sortingHeap_old hb q
  refine keys_rest (kz := kz) (h₁ := s.heap) (s := { s with heap := hp.push (seqObj "list" #[] 0) }) (kS := hp.objs.size) ⟨_, s.toks, #[], 0, rfl, kp, Heap.get?_push_size _ rfl, Heap.get?_push_of_some _ (by rw [← hk]; exact Heap.get?_push_of_some _ ho1), by rw [List.take_zero]; exact .nil⟩
    (Heap.get?_none_of_le (by rw [hS]; exact Nat.le_succ _)) (by rw [hS]; exact Nat.ne_of_gt (Nat.lt_succ_of_lt ha)) hlen hZ hal hsk hu turn h
end
section
variable {prog : Program} {w : World} {A : Around} {E : Value → Shared → Prop} {s : Shared} {β : Type} {vs : List Value} {bs : List β} {R : Value → β → Prop}
theorem sorted_made {l : Addr} {f : Value} {kw : List (Str × Value)} {b : Bool} {Q : Value → Shared → Prop} (k : β → PyData) (hl : s.heap.IsList l vs.toArray) (e : PySem.W.EachIs R vs bs) (hal : PySem.W.AllAlike (bs.map k)) (hk : PySem.W.Sortable (bs.map k)) (hL : bs.length ≤ sizeLine)
    (hu : ∀ x, x ∈ bs → A.units + 2 + (k x).depth < cLine) (ha1 : argsOk "sorted" ⟨[.ref l], kw⟩) (ha2 : ∀ x, argsOk "list.sort" ⟨[.ref x], kw⟩) (ht : ∀ x, Builtin.«list.sort» ⟨[.ref x], kw⟩ = PyProof.Rows.ksk_tree x f b)
    (turn : ∀ (v : Value) (x : β), R v x → x ∈ bs → ∀ (h : Heap) (tk : Nat), (∀ b o, s.heap.get? b = some o → h.get? b = some o) → wpAny (model prog w) A.in1.in1 (call f [v]) (KeyMade (k x) { s with heap := h, toks := tk }) (fun _ _ => False) { s with heap := h, toks := tk })
    (h : ∀ out c h' tk, (∀ b o, s.heap.get? b = some o → h'.get? b = some o) → h'.get? (s.heap.objs.size + 1) = some (seqObj "list" (List.toArray out) c) → out.length = bs.length → PySem.W.EachIs R out (bs.mergeSort (PySem.W.dataLe b k)) → Q (.ref (s.heap.objs.size + 1)) { s with heap := h', toks := tk }) :
    wpAny (model prog w) A (call (.builtin "sorted") [.ref l] kw) Q E s := by
  have up : ∀ {g : Heap}, PySem.W.KeepsBut (s.heap.objs.size + 1) (PySem.W.copyHeap s.heap vs) g → ∀ b o, s.heap.get? b = some o → g.get? b = some o := fun {g} kp b o q => kp b o (Nat.ne_of_lt (Nat.lt_succ_of_lt (Heap.lt_size q))) (PySem.W.copyHeap_old q)
  refine PySem.W.sorted_of_sort hl (by rw [e.length]; exact hL) ha1 ha2 fun E' => ?_
  rw [ht]
  refine keys_tree (kz := bs.map k) (s := { s with heap := PySem.W.copyHeap s.heap vs }) (PySem.W.copyHeap_at s.heap vs) (by rw [List.length_map]; exact e.length.symm) (by rw [e.length]; exact hL) hal hk (PySem.W.bound_map (A := A.in1.in1) hu) (fun i v d hv hd g tk kp => ?_) fun h' tk out c kp hD ko => ⟨rfl, ?_⟩
  · rw [List.getElem?_map] at hd
    obtain ⟨x, hx, rfl⟩ : ∃ x, bs[i]? = some x ∧ k x = d := by
      cases q : bs[i]? with
      | none => rw [q] at hd; cases hd
      | some x => rw [q] at hd; exact ⟨x, rfl, Option.some.inj hd⟩
    have hz : (v, x) ∈ vs.zip bs := List.mem_of_getElem? (i := i) (by rw [List.getElem?_zip_eq_some]; exact ⟨hv, hx⟩)
    exact turn v x (e.zip _ hz) (List.mem_of_getElem? hx) g tk (up kp)
  · exact h out c h' tk (up kp) hD ((ko.length (by rw [List.length_map]; exact e.length.symm)).trans e.length) (PySem.W.keyedOut_each k ko e)
end
end Lp

/-! sorted(xs, key=f), xs told items of any kind, f a def that only makes objects, lists too. -/
namespace Lp
open PySem PySem.Spec PyProof.Rows L2
structure PureKeyR (G : Glb) {α : Type} (f : Addr) (ev : α → D) (k : α → PyData) (dom : α → Prop) : Prop where
  run : ∀ (A : Around) (outer : List Env) (s : Shared) (I H : Hp) (v : V) (u : Value) (x : α), Room 2 A → dom x → Env0 G.P G.w G.K G.mg G.base A outer s H → RdS I H → Rep G I v (ev x) → RelV v u → wpAny (model G.P G.w) A (call (.ref f) [u]) (KeyMade (k x) s) (fun _ _ => False) s
section
variable {G : Glb} {α : Type} {ev : α → D} {I : Hp}
theorem reps_each : ∀ {vs : List V} {us : List Value} {ns : List α}, Reps G I vs (ns.map ev) → Vals vs us → PySem.W.EachIs (fun v x => ∃ w, RelV w v ∧ Rep G I w (ev x)) us ns
  | [], [], [], _, _ => .nil
  | _ :: _, _ :: _, _ :: _, .cons a b, .cons c d => .cons ⟨_, c, a⟩ (reps_each b d)
theorem each_reps : ∀ {us : List Value} {ns : List α}, PySem.W.EachIs (fun v x => ∃ w, RelV w v ∧ Rep G I w (ev x)) us ns → ∃ ws, Vals ws us ∧ Reps G I ws (ns.map ev)
  | _, _, .nil => ⟨[], .nil, .nil⟩
  | _, _, .cons ⟨w, a, b⟩ c => by
    obtain ⟨ws, d, e⟩ := each_reps c
    exact ⟨w :: ws, .cons a d, .cons b e⟩
end
def rSortedR {α : Type} (G : Glb) (f : Addr) (ev : α → D) (k : α → PyData) (dom : α → Prop) (ns : List α) : List V → List V → Hp → VK → Prop := fun xs zs H Q => ∃ (I : Hp) (a : Addr) (ws : List V), xs = [.ref a] ∧ zs = [.ref f] ∧ SqL G.K H a ws ∧ RdS I H ∧ Reps G I ws (ns.map ev) ∧
  ∀ p ws', H p = none → Reps G I ws' ((ns.mergeSort (PySem.W.dataLe false k)).map ev) → Q (.ref p) (upd H p (.lst ws'))
theorem cr_sortedR {X : Cx} {T : List NdefX.NTab} {α : Type} {f : Addr} {ev : α → D} {k : α → PyData} {dom : α → Prop} {ns : List α} {j : Nat} (hk : PureKeyR (gx X T) f ev k dom) (hd : ∀ n ∈ ns, dom n) (hal : ∀ x y, PySem.W.alike (k x) (k y) = true) (hso : ∀ x, k x ≠ .none ∧ ∀ xs, k x ≠ .tuple xs) (hdep : ∀ x, (k x).depth ≤ 8) (hr : Room j X.A) (hj : 4 ≤ j) :
    CallRK X (.builtin "sorted") [Str.ofString "key"] (rSortedR (gx X T) f ev k dom ns) := by
  intro pins s σ H vs zs us ws Q I r rz h
  obtain ⟨I1, a, ws1, rfl, rfl, hs, rd, rp, q⟩ := h
  obtain rfl := Vals.ref1 r
  obtain ⟨w1, rfl, e1⟩ := vals1 rz
  obtain rfl : w1 = Value.ref f := e1
  obtain ⟨its, rv, hl, hz⟩ := I.list hs
  have el : ws1.length = ns.length := by rw [rp.len, List.length_map]
  rw [el] at hz
  have ei := reps_each rp rv
  refine sorted_made (b := false) (kw := [(Str.ofString "key", Value.ref f)]) k hl.isList ei (PySem.W.AllAlike.of hal) (PySem.W.Sortable.others hso) hz (fun p _ => ?_) (PyProof.Rows.ksk_s1 _ _) (fun _ => PyProof.Rows.ksk_l1 _ _) (fun _ => PyProof.Rows.ksk_t1 _ _)
    (fun v x ⟨w, rw1, rw2⟩ hx h tk kp => ?_) fun out c h' tk kp hD hlen eo => ?_
  · have := hdep p
    have := hr.units
    omega
  · have I2 : Inv X pins σ H { s with heap := h, toks := tk } := I.kept kp
    exact hk.run X.A.in1.in1 X.stack _ I1 H w v x (((hr.mono hj).in1).in1) (hd x hx) I2.env0.in1.in1 rd rw2 rw1
  · obtain ⟨ws', hv, hr'⟩ := each_reps eo
    refine ⟨.ref _, upd H (s.heap.objs.size + 1) (.lst ws'), I.laid (t' := tk) kp (Nat.le_succ _) ⟨?_, out, c, hv, hD⟩, rfl, q _ ws' (I.hok.fresh (Nat.le_succ _)) hr'⟩
    rw [hr'.len, List.length_map, List.length_mergeSort]
    exact hz
section
variable {X : Cx} {T : List NdefX.NTab} {U : Bool} {ds : List DS} {e : Expr} {x : Str} {p p2 pos kpos : Pos}
theorem dv_sortR {α : Type} {ev : α → D} {k : α → PyData} {dom : α → Prop} {ns : List α} {j : Nat} (h : DE X T U e ds (.lst (ns.map ev))) (hk : PureKeyR (gx X T) (He.ga X.K x) ev k dom) (hd : ∀ n ∈ ns, dom n) (hal : ∀ x y, PySem.W.alike (k x) (k y) = true) (hso : ∀ x, k x ≠ .none ∧ ∀ xs, k x ≠ .tuple xs) (hdep : ∀ x, (k x).depth ≤ 8) (hm : X.mg x = some (.ref (He.ga X.K x))) (hr : Room j X.A) (hs : X.mg "sorted" = none) (hj : 4 ≤ j := by decide) (hg : Gl X x := by rfl) (hgs : Gl X "sorted" := by rfl) (hdb : (x == ("__debug__" : Str)) = false := by decide)
    (he1 : starEach [e] X.env = [(false, eval e X.env)] := by rfl)
    (he : backTo pos (starEach [e] X.env) = (false, eval e X.env) :: backTo pos (starEach [] X.env) := by rfl) (hpl : (backTo pos (starEach [e] X.env)).any (·.1) = false := by rfl)
    (hall : (backToKw pos (keywordEach [⟨some "key", .Name x p2, kpos⟩] X.env)).all (·.1.isSome) = true := by rfl) (hnone : (backToKw pos (keywordEach [⟨some "key", .Name x p2, kpos⟩] X.env)).any (·.1.isNone) = false := by rfl) (hks : (backToKw pos (keywordEach [⟨some "key", .Name x p2, kpos⟩] X.env)).filterMap (·.1) = [Str.ofString "key"] := by rfl) :
    DV X T U (.Call (.Name "sorted" p) [e] [⟨some "key", .Name x p2, kpos⟩] pos) ds (.own ((ns.mergeSort (PySem.W.dataLe false k)).map ev)) :=
  (pe_callBK (p := p) (r := rSortedR (gx X T) (He.ga X.K x) ev k dom ns) (cr_sortedR hk hd hal hso hdep hr hj) hgs hs rfl (da_cons h da_nil he1) (pk_cons (pe_glob (v := .ref (He.ga X.K x)) hg hm rfl hdb) pk_nil) (by decide) (by decide) he hpl hall hnone hks).weak
    fun σ H Q ⟨I0, H0, I, en, k⟩ => ⟨I0, H0, I, en, fun vs I1 H1 s1 r1 => by
      cases r1 with
      | cons a b =>
        cases b
        cases a with
        | @lst p ws _ a b =>
          exact ⟨I1, _, ws, rfl, rfl, SqL.of (s1.sub.lst a), s1.sub, b, fun q ws' hq rr => k _ I1 _ (s1.trans (Step.newOwn s1.sub hq)) ⟨q, ws', rfl, s1.free hq, s1.sub.free hq, upd_same, rr⟩⟩⟩
end
end Lp

/-! Fields as places in trees of one's own. -/
namespace Lp
open PySem PySem.Spec PyProof.Rows L2
def fIx {α : Type} (f : Str) : List (Str × α) → Option Nat
  | [] => none
  | (g, _) :: r => if (f == g) = true then some 0 else (fIx f r).map (· + 1)
section
variable {G : Glb} {I H : Hp}
theorem orf_look {f : Str} : ∀ {vs : List (Str × V)} {ts : List (Str × OT)} {A : List Addr} {k : Nat}, ORF G I H vs ts A → fIx f ts = some k → ∃ w x, vs.lookup f = some w ∧ vs[k]? = some (x, w)
  | _, _, _, _, .nil, e => nomatch e
  | _, _, _, k, .cons (x := x) (v := v) a b _, e => by
    unfold fIx at e
    rw [List.lookup_cons]
    cases q : f == x with
    | true =>
      rw [q, if_pos rfl] at e
      cases e
      exact ⟨v, x, rfl, rfl⟩
    | false =>
      rw [q, if_neg Bool.false_ne_true] at e
      obtain ⟨j, e1, rfl⟩ := Option.map_eq_some_iff.mp e
      obtain ⟨w, y, z1, z2⟩ := orf_look b e1
      exact ⟨w, y, z1, z2⟩
end
section
variable {X : Cx} {T : List NdefX.NTab} {W : WX} {U : Bool} {ds : List DS} {s : DS} {E : DEn} {e : Expr} {pos : Pos}
/-- a field of a place -/
theorem dp_fld {i : Nat} {a : Expr} {q : Option Addr} {T' : OT} {π : Pth} {C f : Str} {ts : List (Str × OT)} {k : Nat} (h : ds[i]? = some (.ot q T')) (hg : T'.get π = some (.ins C ts)) (ha : DPl X T U a ds i π) (hk : fIx f ts = some k) (hc : Cls X.K (He.ga X.K C)) (hn : NoAttr X.K (He.ga X.K C) f) (hb : attributeBase a f X.env (eval a X.env) = eval a X.env := by rfl) :
    DPl X T U (.Attribute a f pos) ds i (π ++ [k]) :=
  (pe_fld ha hb).weak fun σ H Q ⟨I0, H0, I, en, kk⟩ => ⟨I0, H0, I, en, fun v w I1 H1 s1 e1 h1 => by
    obtain ⟨g1, B, g2, _⟩ := (en.step s1).place2 h hg e1 h1 (Step.refl s1.sub)
    cases g2 with
    | @ins p dx _ fs _ A a1 a2 a3 a4 =>
      obtain ⟨u, x, z1, z2⟩ := orf_look a4 hk
      exact ⟨p, _, dx, fs, u, rfl, a1, hc, hn, z1, kk v u I1 H1 s1 e1 (atv_snoc g1 (.ins a1 z2))⟩⟩
end
end Lp

/-! [f(x) for x in xs], each item a new tuple; all that is there stays. -/
namespace Lp
open PySem PySem.Spec PyProof.Rows
/-- what the walk of the items has come to -/
structure Rowed (s : Shared) (G : Value → Array Value → Prop) (C J D ax : Addr) (its : Array Value) (n : Nat) (z : Shared) : Prop where
  ex : ∃ g tk m ys i, z = { s with heap := g, toks := tk } ∧ g.IsListIter J ax i ∧ g.IsList ax its ∧ g.IsList D ys ∧ g.Ns C m ∧ Paired (TupAt C J D G g) (its.toList.take i) ys.toList ∧ i ≤ its.size ∧ n = its.size + 1 - i ∧ ∀ b o, b ≠ C → b ≠ J → b ≠ D → s.heap.get? b = some o → g.get? b = some o
section
variable {prog : Program} {w : World} {A : Around} {s : Shared} {env : Env} {elt iter : Expr} {x : Str} {px pos : Pos} {scope : Scope}
theorem rows_loop {C J D ax : Addr} {its : Array Value} {m : Str → Option Value} {R : Result → Shared → Prop} (G : Value → Array Value → Prop) (hh : A.handled = none) (hkind : scope.kind = .function) (hx : scope.names.lookup x = some .local)
    (n1 : D ≠ J) (n2 : D ≠ C) (n3 : J ≠ C) (n4 : ax ≠ J) (n5 : ax ≠ C) (n6 : ax ≠ D) (hi : s.heap.IsListIter J ax 0) (hl : s.heap.IsList ax its) (hd : s.heap.IsList D #[]) (hn : s.heap.Ns C m) (hz : its.size ≤ sizeLine)
    (one : ∀ (v : Value) (g : Heap) (tk : Nat) (m2 : Str → Option Value) (E2 : Value → Shared → Prop), v ∈ its → g.Ns C m2 → m2 x = some v → (∀ b o, b ≠ C → b ≠ J → b ≠ D → s.heap.get? b = some o → g.get? b = some o) →
      wpAny (model prog w) A (eval elt (compEnv scope C env)) (fun y z => (∃ P vs, y = .ref P ∧ g.get? P = none ∧ z.heap.IsTuple P vs ∧ G v vs) ∧ Keeps { s with heap := g, toks := tk } z) E2 { s with heap := g, toks := tk })
    (fin : ∀ g tk m2 ys, g.Ns C m2 → g.IsList D ys → Paired (TupAt C J D G g) its.toList ys.toList → (∀ b o, b ≠ C → b ≠ J → b ≠ D → s.heap.get? b = some o → g.get? b = some o) → R (.ok .next) { s with heap := g, toks := tk }) :
    codeAny (model prog w) A (.compLoop (.ListComp elt [⟨.Name x px, iter, [], 0⟩] scope pos) 0 (.ref J) (.ref D) (compEnv scope C env)) R s := by
  refine codeAny_compLoop_list (Rowed s G C J D ax its) (fun n z hI => ?_) (its.size + 1) ⟨s.heap, s.toks, m, #[], 0, rfl, hi, hl, hd, hn, by rw [List.take_zero]; exact .nil, Nat.zero_le _, rfl, fun _ _ _ _ _ e => e⟩
  obtain ⟨g, tk, m', ys, i, rfl, a1, a2, a3, a4, a5, a6, rfl, a8⟩ := hI
  cases hv : its[i]? with
  | none =>
    have hle : its.toList.length ≤ i := by simpa using hv
    refine wpAny_pyNext_list_end hh a1 a2 hv fun g1 k1 => ?_
    rw [List.take_of_length_le hle] at a5
    exact fin g1 tk m' ys (a4.extBut k1 (Ne.symm n3)) (a3.extBut k1 n1) (a5.mono fun _ _ q => q.keep fun b o _ hb _ e => k1 b o hb e) fun b o h1 h2 h3 e => k1 b o h2 (a8 b o h1 h2 h3 e)
  | some v =>
    obtain ⟨lt, ev⟩ := Array.getElem?_eq_some_iff.mp hv
    have mem : v ∈ its := by rw [← ev]; exact Array.getElem_mem lt
    have hvl : its.toList[i]? = some v := by simpa using hv
    refine wpAny_pyNext_list_item a1 a2 hv fun g1 b1 k1 => ?_
    refine wpAny_assign_Name (wpAny_storeName_local (show (compEnv scope C env).kindOf x = some .local from hx) (a4.sameBut k1 (Ne.symm n3)) (fun g2 b2 k2 => ?_) (by simp [compEnv, hkind]))
    have up2 : ∀ b o, b ≠ C → b ≠ J → g.get? b = some o → g2.get? b = some o := fun b o h1 h2 e => k2.extBut b o h1 (k1.extBut b o h2 e)
    refine wpAny_mono (one v g2 (tk + 1) _ _ mem b2 (by simp) fun b o h1 h2 h3 e => up2 b o h1 h2 (a8 b o h1 h2 h3 e)) (fun y z hy => ?_) fun _ _ e => e
    obtain ⟨⟨P, vs, rfl, new, tup, hG⟩, g3, tk3, rfl, k3⟩ := hy
    have up3 : ∀ b o, b ≠ C → b ≠ J → g.get? b = some o → g3.get? b = some o := fun b o h1 h2 e => k3 b o (up2 b o h1 h2 e)
    have nf : ∀ a o, g2.get? a = some o → P ≠ a := fun a o e z => by rw [← z, new] at e; cases e
    have it3 : g3.IsListIter J ax (i + 1) := (b1.extBut k2.extBut n3).at fun o e => k3 _ o e
    have PC : P ≠ C := by obtain ⟨o, _, _, e, _⟩ := b2; exact nf _ o e
    have PJ : P ≠ J := by obtain ⟨o, e, _⟩ := b1; exact nf _ o (k2.extBut J o n3 e)
    have PD : P ≠ D := by obtain ⟨o, e, _⟩ := a3; exact nf _ o (up2 D o n2 n1 e)
    have ysz : ys.size ≤ sizeLine := by
      have e1 := a5.length
      rw [List.length_take] at e1
      have e2 : ys.toList.length = ys.size := by simp
      omega
    refine wpAny_list_append (hsz := ysz) (a3.at fun o e => up3 D o n2 n1 e) fun g4 b4 k4 => ?_
    have up4 : ∀ b o, b ≠ C → b ≠ J → b ≠ D → g.get? b = some o → g4.get? b = some o := fun b o h1 h2 h3 e => k4.extBut b o h3 (up3 b o h1 h2 e)
    refine ⟨its.size + 1 - (i + 1), by omega, g4, tk3, _, ys.push (.ref P), i + 1, rfl, it3.extBut k4.extBut (Ne.symm n1), (a2.at fun o e => up3 ax o n5 n4 e).extBut k4.extBut n6, b4, (b2.keeps k3).sameBut k4 (Ne.symm n2), ?_, lt, rfl, fun b o h1 h2 h3 e => up4 b o h1 h2 h3 (a8 b o h1 h2 h3 e)⟩
    have et : its.toList.take (i + 1) = its.toList.take i ++ [v] := by rw [List.take_succ, hvl]; rfl
    have q4 : TupAt C J D G g4 v (.ref P) := by
      obtain ⟨o, e, r⟩ := tup
      exact ⟨P, vs, rfl, PC, PJ, PD, ⟨o, k4.extBut P o PD e, r⟩, hG⟩
    rw [et]
    have ep : (ys.push (.ref P)).toList = ys.toList ++ [.ref P] := by simp
    rw [ep]
    exact Paired.snoc (a5.mono fun _ _ q => q.keep fun b o h1 h2 h3 e => up4 b o h1 h2 h3 e) q4
theorem rows_comp {E : Value → Shared → Prop} {Q : Value → Shared → Prop} {ax : Addr} {its : Array Value} (G : Value → Array Value → Prop) (hh : A.handled = none) (hfree : ∀ y ∈ scope.names, y.2 ≠ .free) (hcell : ∀ y ∈ scope.names, y.2 ≠ .cell) (hkind : scope.kind = .function)
    (hnames : ∀ y ∈ scope.names, y.2 = .local → scope.names.lookup y.1 = some .local) (hx : scope.names.lookup x = some .local) (hl : s.heap.IsList ax its) (hz : its.size ≤ sizeLine)
    (hi : ∀ Q2 : Value → Shared → Prop, Q2 (.ref ax) s → wpAny (model prog w) A (eval iter env) Q2 E s)
    (one : ∀ (C : Addr) (v : Value) (g : Heap) (tk : Nat) (m2 : Str → Option Value) (E2 : Value → Shared → Prop), v ∈ its → g.Ns C m2 → m2 x = some v → (∀ b o, s.heap.get? b = some o → g.get? b = some o) →
      wpAny (model prog w) A (eval elt (compEnv scope C env)) (fun y z => (∃ P vs, y = .ref P ∧ g.get? P = none ∧ z.heap.IsTuple P vs ∧ G v vs) ∧ Keeps { s with heap := g, toks := tk } z) E2 { s with heap := g, toks := tk })
    (fin : ∀ D g tk ys, s.heap.get? D = none → g.IsList D ys → Paired (TupIs G g) its.toList ys.toList → (∀ b o, s.heap.get? b = some o → g.get? b = some o) → Q (.ref D) { s with heap := g, toks := tk })
    (hs : ∀ x, foldedSetIterable iter env x = pure x := by intro _; rfl) :
    wpAny (model prog w) A (eval (.ListComp elt [⟨.Name x px, iter, [], 0⟩] scope pos) env) Q E s := by
  refine wpAny_ListComp hfree hkind hnames (hi _ ?_) hs
  refine wpAny_pyIter_list hl (wpAny_newObj_type (hd := by size_fits) (wpAny_newFunctionEnv hcell (by intro y hy; simp at hy) (fun g1 ns1 k1 => ?_) hkind))
  dsimp only at ns1 k1 ⊢
  obtain ⟨ol, oe, _⟩ := id hl
  have lt := Heap.lt_size oe
  obtain ⟨H1, e1⟩ : ∃ H1, s.heap.push { cls := .type "list_iterator", data := .fields #[.ref ax, .int 0 0] } = H1 := ⟨_, rfl⟩
  rw [e1] at ns1 k1 ⊢
  have z1 : H1.objs.size = s.heap.objs.size + 1 := by rw [← e1, Heap.size_push]
  obtain ⟨H2, e2⟩ : ∃ H2, H1.push { cls := .type "list", dict := none, data := .seq ([] : List Value).toArray } = H2 := ⟨_, rfl⟩
  rw [e2] at ns1 k1 ⊢
  have z2 : H2.objs.size = s.heap.objs.size + 2 := by rw [← e2, Heap.size_push, z1]
  have n1 : H1.objs.size ≠ s.heap.objs.size := by rw [z1]; exact Nat.succ_ne_self _
  have n2 : H1.objs.size ≠ H2.objs.size := by rw [z1, z2]; exact Nat.ne_of_lt (Nat.lt_succ_self _)
  have n3 : s.heap.objs.size ≠ H2.objs.size := by rw [z2]; exact Nat.ne_of_lt (Nat.lt_succ_of_lt (Nat.lt_succ_self _))
  have far : ∀ b, b < s.heap.objs.size → b ≠ H2.objs.size ∧ b ≠ s.heap.objs.size ∧ b ≠ H1.objs.size := fun b hb => ⟨by rw [z2]; exact Nat.ne_of_lt (Nat.lt_succ_of_lt (Nat.lt_succ_of_lt hb)), Nat.ne_of_lt hb, by rw [z1]; exact Nat.ne_of_lt (Nat.lt_succ_of_lt hb)⟩
  have was : ∀ b o, s.heap.get? b = some o → g1.get? b = some o := fun b o e => k1.extBut b o (far b (Heap.lt_size e)).1 (Heap.get?_push_of_some _ (e2 ▸ Heap.get?_push_of_some _ (e1 ▸ Heap.get?_push_of_some _ e)))
  have itr : g1.IsListIter s.heap.objs.size ax 0 := ⟨_, k1.extBut _ _ n3 (Heap.get?_push_of_some _ (e2 ▸ Heap.get?_push_of_some _ (e1 ▸ Heap.get?_push_size _ rfl))), rfl, rfl⟩
  have acc : g1.IsList H1.objs.size #[] := ⟨_, k1.extBut _ _ n2 (Heap.get?_push_of_some _ (e2 ▸ Heap.get?_push_size _ rfl)), rfl, _, rfl⟩
  have new : s.heap.get? H1.objs.size = none := by
    cases e : s.heap.get? H1.objs.size with
    | none => rfl
    | some o => exact absurd (Heap.lt_size e) (by rw [z1]; exact Nat.not_lt.mpr (Nat.le_succ _))
  have loop : ∀ z : Shared, z = { s with heap := g1, toks := s.toks + ([] : List (Str × Value)).length } → codeAny (model prog w) A (.compLoop (.ListComp elt [⟨.Name x px, iter, [], 0⟩] scope pos) 0 (.ref s.heap.objs.size) (.ref H1.objs.size) (compEnv scope H2.objs.size env))
      (fun r s' => ∃ m, s'.heap.Ns H2.objs.size m ∧ ∀ h', Heap.SameBut H2.objs.size s'.heap h' →
          match r with | .ok _ => Q (.ref H1.objs.size) { s' with heap := h' } | .error x => wpAny (model prog w) A (passOn "comprehension.variables-let-go" x (compEnv scope H2.objs.size env)) Q E { s' with heap := h' }) z := by
    rintro z rfl
    refine rows_loop G hh hkind hx n1 n2 n3 (far ax lt).2.1 (far ax lt).1 (far ax lt).2.2 itr (hl.at fun o e => was ax o e) acc ns1 hz (fun v g tk m2 E2 hv hn hm k => one _ v g tk m2 E2 hv hn hm fun b o e => k b o (far b (Heap.lt_size e)).1 (far b (Heap.lt_size e)).2.1 (far b (Heap.lt_size e)).2.2 (was b o e)) fun g tk m2 ys hn hd hp k => ?_
    exact ⟨m2, hn, fun g2 k2 => fin _ g2 tk ys new (hd.extBut k2.extBut n2) (hp.mono fun v y q => (q.keep fun b o hb _ _ e => k2.extBut b o hb e).plain) fun b o e =>
      k2.extBut b o (far b (Heap.lt_size e)).1 (k b o (far b (Heap.lt_size e)).1 (far b (Heap.lt_size e)).2.1 (far b (Heap.lt_size e)).2.2 (was b o e))⟩
  exact codeAny_compStart_list (loop _ rfl) (wpAny_pyIter_listiter itr (loop _ rfl))
end
end Lp

/-! x is True, x is not True, x is not None as a value. -/
namespace Lp
open PySem PySem.Spec PyProof.Rows L2
section
variable {G : Glb}
def rIsBl : R2 := fun x y H Q => ∃ a b, x = .bl a ∧ y = .bl b ∧ Q (.bl (decide (a = b))) H
def rNotBl : R2 := fun x y H Q => ∃ a b, x = .bl a ∧ y = .bl b ∧ Q (.bl (!decide (a = b))) H
theorem r2_isBl {x y : Bool} : R2D G rIsBl (.bl x) (.bl y) (.im (.bl (decide (x = y)))) := fun I H v w Q r h1 h2 k => by
  cases h1; cases h2
  exact ⟨x, y, rfl, rfl, k _ I H (Step.refl r) (.bl _)⟩
theorem r2_notBl {x y : Bool} : R2D G rNotBl (.bl x) (.bl y) (.im (.bl (!decide (x = y)))) := fun I H v w Q r h1 h2 k => by
  cases h1; cases h2
  exact ⟨x, y, rfl, rfl, k _ I H (Step.refl r) (.bl _)⟩
end
section
variable {X : Cx} {T : List NdefX.NTab} {U : Bool} {ds : List DS} {a b : Expr} {pos : Pos} {x y : Bool}
theorem dt_isB (ha : DE X T U a ds (.bl x)) (hb : DE X T U b ds (.bl y)) (hn : behindInMarks .Is b = false := by rfl) : DT X T U (.Compare a [.Is] [b] pos) ds (decide (x = y)) := dt_cmp (r := rIsBl) op_is_bl r2_isBl ha hb hn
theorem dt_notB (ha : DE X T U a ds (.bl x)) (hb : DE X T U b ds (.bl y)) (hn : behindInMarks .IsNot b = false := by rfl) : DT X T U (.Compare a [.IsNot] [b] pos) ds (!decide (x = y)) := dt_cmp (r := rNotBl) op_isnot_bl r2_notBl ha hb hn
theorem de_notN {j : Nat} {p : Pos} {d : D} {c : Bool} (ha : DE X T U a ds d) (hc : ∀ (G : Glb) (I : Hp) (v : V), Rep G I v d → decide (v = .non) = c) : DE X T U (.Compare a [.IsNot] [.Constant .none j p] pos) ds (.bl (!c)) :=
  (pe_cmp (pc_notN ha)).weak fun σ H Q ⟨I0, H0, I, en, k⟩ => ⟨I0, H0, I, en, fun v I' H' st r => by
    show Q (.bl (!decide (v = .non))) H'
    rw [hc _ _ _ r]
    exact k _ I' H' st (.bl (!c))⟩
end
end Lp

/-! xs[::k], k 1 or -1, worked out. -/
namespace Lp
open PySem PySem.Spec PyProof.Rows L2
section
variable {X : Cx} {T : List NdefX.NTab} {U : Bool} {ds : List DS} {e st : Expr} {pos : Pos}
def turnL {α : Type} (k : Int) (xs : List α) : List α := if k = 1 then xs else xs.reverse
def tTurn (K : PySem.W.Frag) (te : TE) (tk : TO) : TE := fun σ H Q => te σ H fun x H1 => tk σ H1 fun o H2 => ∃ a xs k, x = .ref a ∧ o = some k ∧ (k = 1 ∨ k = -1) ∧ SqL K H2 a xs ∧ ∀ p, H2 p = none → Q (.ref p) (upd H2 p (.lst (turnL k xs)))
theorem pick_one (items : Array Value) : slicePick items none none (some 1) = items.toList.toArray := by
  have h : slicePick items none none (some 1) = slicePick items none none none := rfl
  have e : items = items.toList.toArray := by simp
  rw [h, e, slicePick_cut]
  simp only [HT.sIx, List.drop_zero]
  simp
  rw [List.take_of_length_le (Nat.le_of_eq (Array.length_toList (xs := items)))]
theorem pe_turnL {te : TE} {tk : TO} {p3 : Pos} (he : PE X e te) (hk : PO X (some st) tk)
    (ht : ∀ a b, subscripted (.Slice none none (some st) p3) false (.ref a) (.ref b) = operate [.ref a, .ref b] (getItem (.ref a) (.ref b)) := by intro _ _; with_unfolding_all rfl) : PE X (.Subscript e (.Slice none none (some st) p3) pos) (tTurn X.K te tk) := by
  refine ⟨fun pins s σ H Q I h => ?_⟩
  refine Subscript_ (thn (he.run pins s σ H _ I h) fun v s1 ⟨x, H1, I1, r1, q1⟩ => ?_)
  refine wpAny_Slice (thn (po_none.run pins s1 σ H1 (fun o H2 => o = none ∧ H2 = H1) I1 ⟨rfl, rfl⟩) fun lo s2 ⟨l, H2, I2, pl, el, e2⟩ => ?_)
  subst el e2
  refine thn (po_none.run pins s2 σ H2 (fun o H3 => o = none ∧ H3 = H2) I2 ⟨rfl, rfl⟩) fun hi s3 ⟨u, H3, I3, pu, eu, e3⟩ => ?_
  subst eu e3
  refine thn (hk.run pins s3 σ H3 _ I3 q1) fun sv s4 ⟨o, H4, I4, ps, q4⟩ => ?_
  obtain ⟨a, xs, k, rfl, rfl, hk1, hx, q⟩ := q4
  cases r1
  have I5 : Inv X pins σ H4 { s4 with heap := s4.heap.push { cls := .type "slice", data := .fields #[lo, hi, sv] } } := I4.kept (t' := s4.toks) fun b ob z => Heap.get?_push_of_some _ z
  obtain ⟨its, r, hl, hz⟩ := I5.list hx
  have hlen := r.length
  show wpAny (model X.prog X.w) X.A (subscriptTail e (.Slice none none (some st) p3) (.ref a) (.ref s4.heap.objs.size)) (EP X pins σ Q) X.xe { s4 with heap := s4.heap.push { cls := .type "slice", data := .fields #[lo, hi, sv] } }
  refine tail_any (ops := [.ref a, .ref s4.heap.objs.size]) hl.isList.typeIs (PySem.slot_list_getitem.lookup) ?_ (ht _ _)
  refine wpAny_getItem_list_slice (sl := s4.heap.objs.size) hl.isList (Heap.IsSliceOf.new _ lo hi sv) pl pu ps (by rcases hk1 with z | z <;> rw [z] <;> decide) ?_ (by rw [List.size_toArray]; omega)
  have fin : ∀ (zs : List V) (ys : List Value), Vals zs ys → zs.length = xs.length → turnL k xs = zs → slicePick its.toArray none none (some k) = ys.toArray → EP X pins σ Q (.ref { s4 with heap := s4.heap.push { cls := .type "slice", data := .fields #[lo, hi, sv] } }.heap.objs.size) { s4 with heap := (s4.heap.push { cls := .type "slice", data := .fields #[lo, hi, sv] }).push { cls := .type "list", data := .seq (slicePick its.toArray none none (some k)) } } := fun zs ys rz ez et ep => by
    rw [ep]
    refine ⟨.ref _, _, I5.laid (t' := s4.toks) (o := .lst zs) (fun b ob z => Heap.get?_push_of_some _ z) (Nat.le_refl _) ⟨by rw [ez]; exact hz, _, 0, rz, Heap.get?_push_size _ rfl⟩, rfl, ?_⟩
    have z := q _ (I5.hok.fresh (Nat.le_refl _))
    rw [et] at z
    exact z
  rcases hk1 with rfl | rfl
  · exact fin xs its r rfl (if_pos rfl) (by rw [pick_one])
  · exact fin xs.reverse its.reverse r.reverse (List.length_reverse ..) (if_neg (by decide)) (by rw [PySem.W.krv_pick])
theorem dv_turnL {k : Int} {p3 : Pos} {xs : List D} (he : DE X T U e ds (.lst xs)) (hk : DE X T U st ds (.int k)) (h1 : k = 1 ∨ k = -1)
    (ht : ∀ a b, subscripted (.Slice none none (some st) p3) false (.ref a) (.ref b) = operate [.ref a, .ref b] (getItem (.ref a) (.ref b)) := by intro _ _; with_unfolding_all rfl) : DV X T U (.Subscript e (.Slice none none (some st) p3) pos) ds (.own (turnL k xs)) :=
  (pe_turnL he (po_some hk) ht).weak fun σ H Q ⟨I0, H0, I, en, kk⟩ => ⟨I0, H0, I, en, fun v I1 H1 s1 r1 => ⟨I0, H0, I1, en.step s1, fun y I2 H2 s2 r2 => by
    cases r2
    cases r1 with
    | @lst p vs _ a b =>
      have s3 := s1.trans s2
      refine ⟨k, rfl, p, vs, k, rfl, rfl, h1, SqL.of (s2.sub.lst (s2.isub _ _ a)), fun q hq => kk _ I2 _ (s3.trans (Step.newOwn s2.sub hq)) ⟨q, _, rfl, s3.free hq, s2.sub.free hq, upd_same, ?_⟩⟩
      have gen : ∀ {vs : List V} {zs : List D}, Reps (gx X T) I1 vs zs → Reps (gx X T) I1 vs.reverse zs.reverse := fun {vs zs} h => by
        induction vs generalizing zs with
        | nil => cases h; exact .nil
        | cons v vs ih =>
          cases h with
          | cons h1 h2 =>
            rw [List.reverse_cons, List.reverse_cons]
            exact (ih h2).app (.cons h1 .nil)
      unfold turnL
      split
      · exact b.mono s2.isub
      · exact (gen b).mono s2.isub⟩⟩
end
end Lp

/-! What is one's own, read as told for one expression: dicts that it walks over are let go again. -/
namespace Lp
open PySem PySem.Spec PyProof.Rows L2
def unl1 (d : Addr) (H : Hp) : Hp := match H d with
  | some (.frz _ u) => upd H d u
  | _ => H
theorem unl1_frz {d : Addr} {H : Hp} {o : Obj} {u : HO} (h : H d = some (.frz o u)) : unl1 d H = upd H d u := by
  unfold unl1
  rw [h]
theorem unl1_or (d : Addr) (H : Hp) : unl1 d H = H ∨ ∃ o u, H d = some (.frz o u) ∧ unl1 d H = upd H d u := by
  cases e : H d with
  | none => exact .inl (by unfold unl1; rw [e])
  | some w =>
    cases w with
    | frz o u => exact .inr ⟨o, u, rfl, unl1_frz e⟩
    | _ => exact .inl (by unfold unl1; rw [e])
def unlk : List Addr → Hp → Hp
  | [], H => H
  | d :: L, H => unlk L (unl1 d H)
theorem unlk_out : ∀ {L : List Addr} {H : Hp} {a : Addr}, a ∉ L → unlk L H a = H a
  | [], _, _, _ => rfl
  | d :: L, H, a, h => by
    rw [List.mem_cons, not_or] at h
    rw [unlk, unlk_out h.2]
    rcases unl1_or d H with z | ⟨o, u, e, z⟩
    · rw [z]
    · rw [z, upd_ne h.1]
theorem unlk_in {k : List (Key × V)} : ∀ {L : List Addr} {H : Hp} {d : Addr}, (H d = some (.dK k) ∨ (d ∈ L ∧ ∃ o, H d = some (.frz o (.dK k)))) → unlk L H d = some (.dK k)
  | [], _, _, h => h.elim id fun h => by cases h.1
  | c :: L, H, d, h => by
    rw [unlk]
    refine unlk_in ?_
    by_cases z : d = c
    · subst z
      rcases h with h | ⟨_, o, h⟩
      · rcases unl1_or d H with y | ⟨o, u, e, y⟩
        · exact .inl (by rw [y]; exact h)
        · rw [h] at e
          cases e
      · exact .inl (by rw [unl1_frz h, upd_same])
    · have e : unl1 c H d = H d := by
        rcases unl1_or c H with y | ⟨o, u, e, y⟩
        · rw [y]
        · rw [y, upd_ne z]
      rw [e]
      exact h.imp id fun h => ⟨(List.mem_cons.mp h.1).resolve_left z, h.2⟩
theorem unlk_some : ∀ {L : List Addr} {H : Hp} {a : Addr}, H a ≠ none → unlk L H a ≠ none
  | [], _, _, h => h
  | d :: L, H, a, h => by
    rw [unlk]
    refine unlk_some ?_
    rcases unl1_or d H with y | ⟨o, u, e, y⟩
    · rw [y]
      exact h
    · rw [y]
      by_cases z : a = d
      · subst z
        rw [upd_same]
        exact fun q => nomatch q
      · rw [upd_ne z]
        exact h
theorem unlk_tabs {T : List NdefX.NTab} : ∀ {L : List Addr} {H : Hp}, NdefX.TabsN T H → NdefX.TabsN T (unlk L H)
  | [], _, h => h
  | d :: L, H, h => by
    rw [unlk]
    refine unlk_tabs ?_
    rcases unl1_or d H with y | ⟨o, u, e, y⟩
    · rw [y]
      exact h
    · rw [y]
      exact tabs_upd h fun u q => by
        rw [e] at q
        cases q
        exact ⟨fun _ z => (nomatch z), fun _ z => (nomatch z)⟩
section
variable {X : Cx} {pins : List (Addr × Obj)} {σ : L2.St} {s : Shared}
theorem inv_unlk : ∀ {L : List Addr} {H : Hp}, Inv X pins σ H s → (∀ d ∈ L, ∀ o u, X.H_0 d ≠ some (.frz o u)) → Inv X pins σ (unlk L H) s
  | [], _, I, _ => I
  | d :: L, H, I, h => by
    rw [unlk]
    refine inv_unlk ?_ fun c hc => h c (List.mem_cons_of_mem _ hc)
    rcases unl1_or d H with y | ⟨o, u, e, y⟩
    · rw [y]
      exact I
    · rw [y]
      exact I.unlock e (h d List.mem_cons_self)
end
def tUnE (t : TE) : TE := fun σ H Q => ∃ L : List Addr, (∀ d ∈ L, ∃ kvs, H d = some (.dK kvs)) ∧ t σ H fun v H' => Q v (unlk L H')
def tUnT (t : TT) : TT := fun σ H Q => ∃ L : List Addr, (∀ d ∈ L, ∃ kvs, H d = some (.dK kvs)) ∧ t σ H fun b H' => Q b (unlk L H')
theorem pe_un {X : Cx} {e : Expr} {t : TE} (h : PE X e t) : PE X e (tUnE t) := ⟨fun pins s σ H Q I ⟨L, hL, q⟩ => thn (h.run pins s σ H _ I q) fun u s1 ⟨v, H1, I1, r, q⟩ =>
  ⟨v, _, inv_unlk I1 fun d hd => by obtain ⟨kvs, e⟩ := hL d hd; exact I.nofrz e trivial, r, q⟩⟩
theorem pt_un {X : Cx} {e : Expr} {t : TT} (h : PT X e t) : PT X e (tUnT t) := ⟨fun pins s σ H Q I ⟨L, hL, q⟩ => thn (h.run pins s σ H _ I q) fun u s1 ⟨H1, I1, q⟩ =>
  ⟨_, inv_unlk I1 fun d hd => by obtain ⟨kvs, e⟩ := hL d hd; exact I.nofrz e trivial, q⟩⟩
section
variable {G : Glb} {U : Bool} {I0 H0 I H : Hp} {σ : L2.St} {ds : List DS}
theorem EnvR.freezeOt (en : EnvR G U I0 H0 I H σ ds) {i : Nat} {q : Option Addr} {t : OT} (h : ds[i]? = some (.ot q t)) : ∃ A, EnvR G U I0 H0 (tellA I H A) H σ (ds.set i (.im t.fz)) ∧ ∀ a ∈ A, OwnO I H a := by
  obtain ⟨F, f⟩ := en.fp
  have hl : i < σ.length := by rw [en.len]; exact (List.getElem?_eq_some_iff.mp h).1
  obtain ⟨v, A, e1, r, hA, _⟩ := f.sl i _ _ (List.getElem?_eq_getElem hl) h
  have ts : Same I (tellA I H A) := tell_same fun a ha => (r.there a ha).1
  obtain ⟨p1, p2⟩ := en.growTo (J := tellA I H A) (c := t.fz) f (by rw [List.getElem?_eq_getElem hl, e1]) ts (fun a u q => (tell_of q).imp id fun z => ⟨(r.there a z.1).1, z.2, hA a z.1⟩) (fun a u hi e => by
    rcases tell_of e with z | z
    · rw [hi] at z; cases z
    · obtain ⟨_, w, y, y1, _⟩ := r.there a z.1
      rw [z.2] at y
      cases y
      exact y1) (r.told ts fun a ha => tell_at ha)
  exact ⟨A, p2, r.there⟩
def isDk (o : Option HO) : Bool := match o with
  | some (.dK _) => true
  | _ => false
theorem isDk_of {o : Option HO} (h : isDk o = true) : ∃ kvs, o = some (.dK kvs) := by
  unfold isDk at h
  split at h
  · exact ⟨_, rfl⟩
  · cases h
theorem step_un {I2 H2 : Hp} {A : List Addr} (r : RdS I H) (own : ∀ a ∈ A, OwnO I H a) (s : Step G (tellA I H A) H I2 H2) : Step G I H I (unlk (A.filter fun a => isDk (H a)) H2) := by
  have inL : ∀ {a : Addr} {k : List (Key × V)}, a ∈ A → H a = some (.dK k) → unlk (A.filter fun a => isDk (H a)) H2 a = some (.dK k) := fun {a k} ha hk => by
    have i2 : I2 a = some (.dK k) := s.isub a _ (by rw [tell_at ha]; exact hk)
    refine unlk_in ?_
    rcases s.sub a _ i2 with z | ⟨_, o, z⟩
    · exact .inl z.1
    · exact .inr ⟨List.mem_filter.mpr ⟨ha, by rw [hk]; rfl⟩, o, z⟩
  have outL : ∀ {a : Addr} {u : HO}, H a = some u → (∀ k, u ≠ .dK k) → a ∉ A.filter fun a => isDk (H a) := fun {a u} e hn z => by
    obtain ⟨k, hk⟩ := isDk_of (List.mem_filter.mp z).2
    rw [e] at hk
    exact hn k (Option.some.inj hk)
  have notA : ∀ {a : Addr} {u : HO}, I a = some u → a ∉ A := fun {a u} e z => by
    have := (own a z).1
    rw [this] at e
    cases e
  refine ⟨Same.refl I, fun a u e => ?_, fun a o e n c => ?_, fun a n => unlk_some (s.keepN a n), fun _ _ e _ _ _ => e, fun t => unlk_tabs (s.tabs t)⟩
  · have hn : a ∉ A.filter fun a => isDk (H a) := fun z => notA e (List.mem_filter.mp z).1
    rw [unlk_out hn]
    exact s.sub a u (s.isub a u (by unfold tellA; rw [if_neg (notA e)]; exact e))
  · by_cases hd : ∃ k, o = .dK k
    · obtain ⟨k, rfl⟩ := hd
      have hi : I a = none := c.resolve_right fun z => z k rfl
      by_cases ha : a ∈ A
      · exact inL ha e
      · rw [unlk_out fun z => ha (List.mem_filter.mp z).1]
        exact s.keep a _ e n (.inl (by unfold tellA; rw [if_neg ha]; exact hi))
    · have hk : ∀ k, o ≠ .dK k := fun k z => hd ⟨k, z⟩
      rw [unlk_out (outL e hk)]
      exact s.keep a o e n (.inr hk)
theorem clean_un {I2 H2 : Hp} {A : List Addr} {v : V} (r : RdS I H) (own : ∀ a ∈ A, OwnO I H a) : ∀ {s : DS}, s.clean = true → ValR G H I2 H2 v s → ValR G H I (unlk (A.filter fun a => isDk (H a)) H2) v s
  | .im .non, _, r => by cases r; exact Rep.non
  | .im (.bl _), _, r => by cases r; exact Rep.bl _
  | .im (.int _), _, r => by cases r; exact Rep.int _
  | .im (.str _), _, r => by cases r; exact Rep.str _
  | .own _, hc, ⟨p, vs, ev, n, i, hp, rr⟩ => by
    have hn : p ∉ A.filter fun a => isDk (H a) := fun z => by
      obtain ⟨k, e⟩ := isDk_of (List.mem_filter.mp z).2
      rw [n] at e
      cases e
    exact ⟨p, vs, ev, n, r.free n, by rw [unlk_out hn]; exact hp, flatD_reps hc rr⟩
  | .ownD _, hc, ⟨p, vs, ev, n, i, hp, rr⟩ => by
    have hn : p ∉ A.filter fun a => isDk (H a) := fun z => by
      obtain ⟨k, e⟩ := isDk_of (List.mem_filter.mp z).2
      rw [n] at e
      cases e
    exact ⟨p, vs, ev, n, r.free n, by rw [unlk_out hn]; exact hp, flatF_rep hc rr⟩
end
section
variable {X : Cx} {T : List NdefX.NTab} {U : Bool} {ds : List DS} {s : DS} {e : Expr} {q : Option Addr} {t : OT}
/-- for one expression the tree is told -/
theorem dv_viewU (i : Nat) (h : ds[i]? = some (.ot q t)) (hf : s.clean = true) (he : DV X T U e (ds.set i (.im t.fz)) s) : DV X T U e ds s :=
  PE.weak (pe_un he) fun σ H Q ⟨I0, H0, I, en, k⟩ => by
    obtain ⟨A, e', own⟩ := en.freezeOt h
    exact ⟨A.filter fun a => isDk (H a), fun d hd => isDk_of (List.mem_filter.mp hd).2, I0, H0, tellA I H A, e', fun v I2 H2 s2 r2 => k v I _ (step_un en.sub own s2) (clean_un en.sub own hf r2)⟩
theorem dt_viewU (i : Nat) {b : Bool} (h : ds[i]? = some (.ot q t)) (he : DT X T U e (ds.set i (.im t.fz)) b) : DT X T U e ds b :=
  PT.weak (pt_un he) fun σ H Q ⟨I0, H0, I, en, k⟩ => by
    obtain ⟨A, e', own⟩ := en.freezeOt h
    exact ⟨A.filter fun a => isDk (H a), fun d hd => isDk_of (List.mem_filter.mp hd).2, I0, H0, tellA I H A, e', fun I2 H2 s2 => k I _ (step_un en.sub own s2)⟩
end
end Lp

/-! Items of dicts as places; a part of a tree is told where it stands; dict.pop at a place. -/
namespace Lp
open PySem PySem.Spec PyProof.Rows L2
section
variable {G : Glb} {U : Bool} {I0 H0 I H : Hp} {σ : L2.St} {ds : List DS}
theorem orf_val {f : Str} : ∀ {vs : List (Str × V)} {ts : List (Str × OT)} {A : List Addr} {k : Nat}, ORF G I H vs ts A → fIx f ts = some k → ∃ w x, valV (kvK vs) (Sum.inr f) = some w ∧ vs[k]? = some (x, w)
  | _, _, _, _, .nil, e => nomatch e
  | _, _, _, k, .cons (x := x) (v := v) (vs := vs) a b _, e => by
    unfold fIx at e
    cases q : f == x with
    | true =>
      rw [q, if_pos rfl] at e
      cases e
      have : x = f := (eq_of_beq q).symm
      exact ⟨v, x, valV_pos (by rw [← this]), rfl⟩
    | false =>
      rw [q, if_neg Bool.false_ne_true] at e
      obtain ⟨j, e1, rfl⟩ := Option.map_eq_some_iff.mp e
      obtain ⟨w, y, z1, z2⟩ := orf_val b e1
      refine ⟨w, y, ?_, z2⟩
      have hne : ¬ (Sum.inr x : Key) = Sum.inr f := fun z => by
        have : x = f := Sum.inr.inj z
        rw [this] at q
        simp at q
      show valV ((Sum.inr x, v) :: kvK vs) (Sum.inr f) = some w
      rw [valV_neg (p := ((Sum.inr x : Key), v)) hne]
      exact z1
theorem EnvR.tellAt (en : EnvR G U I0 H0 I H σ ds) {i : Nat} {q : Option Addr} {T t : OT} {π : Pth} (h : ds[i]? = some (.ot q T)) (hg : T.get π = some t) : ∃ I', Pres I H I' H ∧ EnvR G U I0 H0 I' H σ (ds.set i (.ot q (T.put π (.im t.fz)))) := by
  obtain ⟨F, f⟩ := en.fp
  have hl : i < σ.length := by rw [en.len]; exact (List.getElem?_eq_some_iff.mp h).1
  obtain ⟨v, A, e1, r, hA, hq⟩ := f.sl i _ _ (List.getElem?_eq_getElem hl) h
  obtain ⟨w, B, b1, b2, b3, b4⟩ := or_lens r hg
  have ts : Same I (tellA I H B) := tell_same fun a ha => (b2.there a ha).1
  have off : ∀ a, I a = none → a ∉ B → tellA I H B a = none := fun a hi hb => by unfold tellA; rw [if_neg hb]; exact hi
  obtain ⟨A', c1, c2⟩ := b4 (tellA I H B) H (.im t.fz) [] ts (fun a ha hb => ⟨off a (r.there a ha).1 hb, rfl⟩) (.im (b2.told ts fun a ha => tell_at ha)) (fun a ha => absurd ha (by simp))
  have hA' : ∀ a ∈ A', a ∈ A ∧ a ∉ B := fun a ha => (c2 a ha).elim (fun z => absurd z (by simp)) id
  have st := en.st.tell ts fun a u e => (tell_of e).imp id fun ⟨za, zh⟩ => ⟨(hA a (b3 a za)).1, zh, by
    obtain ⟨_, y, y0, y1, _⟩ := b2.there a za
    rw [zh] at y0
    cases y0
    exact y1⟩
  have z := en.put f st en.tb (fun _ h => h) i (some v) (.ot q (T.put π (.im t.fz))) (fun a => a ∈ A') (fun j hj a ha ho => ⟨off a ho.1 fun z => hj (f.dj j i a ha (hA a (b3 a z)).2), rfl⟩) ts (fun a ha => ⟨(by
    obtain ⟨_, u, z, _⟩ := r.there a (hA' a ha).1
    rw [z]
    exact fun q => nomatch q), .inr (hA a (hA' a ha).1).2⟩) ⟨v, A', rfl, c1, fun a ha => ⟨(hA a (hA' a ha).1).1, ha⟩, hq⟩
  refine ⟨_, ⟨ts, fun _ _ _ q => q⟩, ?_⟩
  rwa [show σ.set i (some v) = σ from by
    obtain ⟨hl, he⟩ := List.getElem?_eq_some_iff.mp (show σ[i]? = some (some v) by rw [List.getElem?_eq_getElem hl, e1])
    rw [← he, List.set_getElem_self]] at z
def dropF {α : Type} (k : Str) (l : List (Str × α)) : List (Str × α) := l.filter fun kv => !decide (kv.1 = k)
theorem dropK_kvK (k : Str) : ∀ fs : List (Str × V), dropK (kvK fs) (Sum.inr k) = kvK (dropF k fs)
  | [] => rfl
  | (x, v) :: fs => by
    have ih := dropK_kvK k fs
    show dropK ((Sum.inr x, v) :: kvK fs) (Sum.inr k) = _
    unfold dropK dropF
    rw [List.filter_cons, List.filter_cons]
    by_cases e : x = k
    · subst e
      rw [if_neg (by simp), if_neg (by simp)]
      exact ih
    · have hne : ¬ (Sum.inr x : Key) = Sum.inr k := fun z => e (Sum.inr.inj z)
      rw [if_pos (by simpa using hne), if_pos (by simpa using e)]
      show _ = (Sum.inr x, v) :: kvK (dropF k fs)
      rw [← ih]
      rfl
theorem orf_drop (k : Str) : ∀ {fs : List (Str × V)} {ts : List (Str × OT)} {A : List Addr}, ORF G I H fs ts A → ∃ A', ORF G I H (dropF k fs) (dropF k ts) A' ∧ ∀ a ∈ A', a ∈ A
  | _, _, _, .nil => ⟨[], .nil, fun _ h => h⟩
  | _, _, _, .cons (x := x) (A := A) a b c => by
    obtain ⟨A', r, hs⟩ := orf_drop k b
    unfold dropF
    rw [List.filter_cons, List.filter_cons]
    by_cases e : x = k
    · rw [if_neg (by simp [e]), if_neg (by simp [e])]
      exact ⟨A', r, fun x hx => List.mem_append_right _ (hs x hx)⟩
    · rw [if_pos (by simp [e]), if_pos (by simp [e])]
      exact ⟨A ++ A', .cons a r fun x hx z => c x hx (hs x z), fun x hx => (List.mem_append.mp hx).elim (List.mem_append_left _) fun z => List.mem_append_right _ (hs x z)⟩
end
section
variable {X : Cx} {T : List NdefX.NTab} {W : WX} {U : Bool} {ds : List DS} {s : DS} {E : DEn} {e : Expr} {pos : Pos}
/-- from now on a part of the tree is told -/
theorem dss_tellAt (i : Nat) (π : Pth) {sts : List Stmt} {q : Option Addr} {T' t : OT} (h : ds[i]? = some (.ot q T')) (hg : T'.get π = some t) (hs : DSs X T W U sts (ds.set i (.ot q (T'.put π (.im t.fz)))) E) : DSs X T W U sts ds E :=
  PSs.weak hs fun D σ H ⟨I0, H0, I, en, k1, k2, k3, k4, k5⟩ => by
    obtain ⟨I', p, e'⟩ := en.tellAt h hg
    exact sV_from (ds := ds) (σ := σ) p e' k1 k2 k3 k4 k5
/-- an item of a dict, by its key -/
theorem dp_dget {i : Nat} {a b : Expr} {q : Option Addr} {T' : OT} {π : Pth} {ts : List (Str × OT)} {key : Str} {k : Nat} (h : ds[i]? = some (.ot q T')) (hg : T'.get π = some (.dic ts)) (ha : DPl X T U a ds i π) (hb : DE X T U b ds (.str key)) (hk : fIx key ts = some k) (hu : X.A.units + 1 < cLine) (hn : NoSl b := by intro _ _; rfl) :
    DPl X T U (.Subscript a b pos) ds i (π ++ [k]) :=
  (pe_dget hu ha hb hn).weak fun σ H Q ⟨I0, H0, I, en, kk⟩ => ⟨I0, H0, I, en, fun v w I1 H1 s1 e1 h1 => ⟨I0, H0, I1, en.step s1, fun y I2 H2 s2 r2 => by
    cases r2
    obtain ⟨g1, B, g2, _⟩ := (en.step s1).place2 h hg e1 h1 s2
    cases g2 with
    | @dic p fs _ A a1 a2 a3 a4 =>
      obtain ⟨u, x, z1, z2⟩ := orf_val a4 hk
      exact ⟨p, u, rfl, .inl ⟨_, Sum.inr key, .inl a1, rfl, z1.symm⟩, kk v u I2 H2 (s1.trans s2) e1 (atv_snoc g1 (.dic a1 z2))⟩⟩⟩
/-- place.pop(e), the value let go -/
theorem ds_popD (i : Nat) {b : Expr} {q : Option Addr} {T' : OT} {π : Pth} {ts : List (Str × OT)} {key : Str} {k : Nat} {apos cpos : Pos} (h : ds[i]? = some (.ot q T')) (hg : T'.get π = some (.dic ts)) (hp : DPl X T U b ds i π) (he : DE X T U e ds (.str key)) (hk : fIx key ts = some k) (kk : E.nx (ds.set i (.ot q (T'.put π (.dic (dropF key ts))))))
    (m : M1 X b "pop" apos e cpos) (hsw : swapsWith (.Call (.Attribute b "pop" apos) [e] [] cpos) none pos.line X.env = pure false := by rfl) :
    DSt X T W U (.Expr (.Call (.Attribute b "pop" apos) [e] [] cpos) pos) ds E :=
  (ps_expr (pe_dpop1 hp he m) hsw).weak fun D σ H ⟨I0, H0, I, en, k1, _⟩ => by
    refine ⟨I0, H0, I, en, fun v w I1 H1 s1 e1 h1 => ?_⟩
    obtain ⟨g1, B, g2, g3⟩ := (en.step s1).place2 h hg e1 h1 (Step.refl s1.sub)
    cases g2 with
    | @dic p fs _ B a1 a2 a3 a4 =>
    refine ⟨p, rfl, .inl ⟨_, .inl a1⟩, I0, H0, I1, en.step s1, fun y I2 H2 s2 r2 => ?_⟩
    cases r2
    obtain ⟨v', w', B2, b1, b2, b3, bN, b4⟩ := (en.step s1).mutP h hg s2
    rw [e1] at b1
    cases b1
    obtain ⟨c1, _⟩ := (en.step s1).place2 h hg e1 h1 s2
    cases atv_fun b2 c1
    cases b3 with
    | @dic _ fs2 _ B3 d1 d2 d3 d4 =>
    obtain ⟨u, x, z1, z2⟩ := orf_val d4 hk
    obtain ⟨A', r', hs⟩ := orf_drop key d4
    refine ⟨_, Sum.inr key, u, d1, rfl, z1, ?_⟩
    rw [dropK_kvK]
    have pA : p ∉ A' := fun z => d3 (hs p z)
    have fB : ORF (gx X T) I2 (upd H2 p (.dK (kvK (dropF key fs2)))) (dropF key fs2) (dropF key ts) A' := r'.frame (Same.refl _) fun a ha => ⟨(r'.there a ha).1, upd_ne fun z => pA (by rw [← z]; exact ha)⟩
    obtain ⟨e2, p2⟩ := b4 p (.dK (kvK (dropF key fs2))) (.dic (dropF key ts)) (p :: A') rfl List.mem_cons_self (.dic upd_same d2 pA fB) fun a ha => by
      rcases List.mem_cons.mp ha with rfl | z
      · exact .inl List.mem_cons_self
      · exact .inl (List.mem_cons_of_mem _ (hs a z))
    exact k1 _ _ ⟨_, I2, e2, (s1.pres.trans p2), kk⟩
end
end Lp

/-! for x in y.values(), y a dict of trees of one's own: each taken out for its turn, the dict locked. -/
namespace Lp
open PySem PySem.Spec PyProof.Rows L2
/-- a dict of one's own while it is locked -/
def dicG (p0 : Addr) (o : Obj) (fs : List (Str × V)) (ts : List (Str × OT)) : Gh where
  R G I H v A := v = .ref p0 ∧ H p0 = some (.frz o (.dK (kvK fs))) ∧ I p0 = none ∧ ∃ A1, A = p0 :: A1 ∧ p0 ∉ A1 ∧ ORF G I H fs ts A1
  frame := by
    rintro G I H I' H' v A ⟨e, h, i, A1, rfl, n, r⟩ s k
    obtain ⟨k1, k2⟩ := k p0 List.mem_cons_self
    exact ⟨e, k2.trans h, k1, A1, rfl, n, r.frame s fun a ha => k a (List.mem_cons_of_mem _ ha)⟩
  there := by
    rintro G I H v A ⟨e, h, i, A1, rfl, n, r⟩ a ha
    rcases List.mem_cons.mp ha with rfl | z
    · exact ⟨i, _, h, (fun _ z => nomatch z), (fun _ z => nomatch z)⟩
    · exact r.there a z
theorem fIxn_set {ts : List (Str × OT)} : ∀ {n : Nat} {x : Str} {t u : OT}, ts[n]? = some (x, t) → setFk ts n u = ts.set n (x, u) := by
  induction ts with
  | nil => intro n x t u h; simp at h
  | cons p ts ih =>
    intro n x t u h
    cases n with
    | zero =>
      simp at h
      rw [h]
      rfl
    | succ n => exact congrArg (p :: ·) (ih (by simpa using h))
section
variable {G : Glb} {U : Bool} {I0 H0 I H : Hp} {σ : L2.St} {ds : List DS}
/-- what slot i has goes in two, a part to slot j -/
theorem EnvR.split (en : EnvR G U I0 H0 I H σ ds) {F : Nat → Addr → Prop} (f : Foot G H0 I H σ ds F) {i j : Nat} {oi oj : Option V} {di dj : DS} (hij : j ≠ i) (hj : j < ds.length) (hi : i < ds.length) (ei : σ[i]? = some oi) (Si Sj : Addr → Prop) (h1 : ∀ a, Si a → F i a ∧ ¬ Sj a) (h2 : ∀ a, Sj a → F i a)
    (si : SlotR G H0 I H oi Si di) (sj : SlotR G H0 I H oj Sj dj) : EnvR G U I0 H0 I H (σ.set j oj) ((ds.set i di).set j dj) := by
  have w : ∀ k x, (if k = j then Sj x else if k = i then Si x else F k x) → (k = j ∧ Sj x) ∨ (k ≠ j ∧ F k x ∧ (k = i → ¬ Sj x)) := fun k x z => by
    by_cases kj : k = j
    · rw [if_pos kj] at z
      exact .inl ⟨kj, z⟩
    · rw [if_neg kj] at z
      by_cases ki : k = i
      · rw [if_pos ki] at z
        exact .inr ⟨kj, by rw [ki]; exact (h1 x z).1, fun _ => (h1 x z).2⟩
      · rw [if_neg ki] at z
        exact .inr ⟨kj, z, fun y => (ki y).elim⟩
  refine ⟨en.st, en.tb, by rw [List.length_set, List.length_set, List.length_set]; exact en.len, fun k a => if k = j then Sj a else if k = i then Si a else F k a, fun k o d a1 a2 => ?_, fun a b x a1 a2 => ?_, fun k a ha => ?_⟩
  · by_cases kj : k = j
    · subst kj
      rw [List.getElem?_set_self (by rw [List.length_set]; exact hj)] at a2
      rw [List.getElem?_set_self (by rw [en.len]; exact hj)] at a1
      cases a1
      cases a2
      exact sj.more fun a ha => by rw [if_pos rfl]; exact ha
    · rw [List.getElem?_set_ne (Ne.symm kj)] at a1 a2
      by_cases ki : k = i
      · subst ki
        rw [List.getElem?_set_self hi] at a2
        rw [ei] at a1
        cases a1
        cases a2
        exact si.more fun a ha => by rw [if_neg kj, if_pos rfl]; exact ha
      · rw [List.getElem?_set_ne (Ne.symm ki)] at a2
        exact (f.sl k o d a1 a2).more fun a ha => by rw [if_neg kj, if_neg ki]; exact ha
  · rcases w a x a1 with ⟨z1, y1⟩ | ⟨z1, y1, u1⟩
    · rcases w b x a2 with ⟨z3, y2⟩ | ⟨z3, y2, u2⟩
      · rw [z1, z3]
      · exact (u2 (f.dj b i x y2 (h2 x y1)) y1).elim
    · rcases w b x a2 with ⟨z3, y2⟩ | ⟨z3, y2, u2⟩
      · exact (u1 (f.dj a i x y1 (h2 x y2)) y2).elim
      · exact f.dj a b x y1 y2
  · rcases w k a ha with ⟨z1, y1⟩ | ⟨z1, y1, _⟩
    · exact f.th i a (h2 a y1)
    · exact f.th k a y1
/-- what slot j has comes to slot i -/
theorem EnvR.join (en : EnvR G U I0 H0 I H σ ds) {F : Nat → Addr → Prop} (f : Foot G H0 I H σ ds F) {i j : Nat} {oi oj : Option V} {di dj : DS} (hij : j ≠ i) (hj : j < ds.length) (hi : i < ds.length) (ei : σ[i]? = some oi) (ej : σ[j]? = some oj)
    (si : SlotR G H0 I H oi (fun a => F i a ∨ F j a) di) (sj : SlotR G H0 I H oj (fun _ => False) dj) : EnvR G U I0 H0 I H σ ((ds.set j dj).set i di) := by
  have w : ∀ k x, (if k = i then F i x ∨ F j x else if k = j then False else F k x) → (k = i ∧ (F i x ∨ F j x)) ∨ (k ≠ i ∧ k ≠ j ∧ F k x) := fun k x z => by
    by_cases ki : k = i
    · rw [if_pos ki] at z
      exact .inl ⟨ki, z⟩
    · rw [if_neg ki] at z
      by_cases kj : k = j
      · rw [if_pos kj] at z
        exact z.elim
      · rw [if_neg kj] at z
        exact .inr ⟨ki, kj, z⟩
  refine ⟨en.st, en.tb, by rw [List.length_set, List.length_set]; exact en.len, fun k a => if k = i then F i a ∨ F j a else if k = j then False else F k a, fun k o d a1 a2 => ?_, fun a b x a1 a2 => ?_, fun k a ha => ?_⟩
  · by_cases ki : k = i
    · subst ki
      rw [List.getElem?_set_self (by rw [List.length_set]; exact hi)] at a2
      rw [ei] at a1
      cases a1
      cases a2
      exact si.more fun a ha => by rw [if_pos rfl]; exact ha
    · rw [List.getElem?_set_ne (Ne.symm ki)] at a2
      by_cases kj : k = j
      · subst kj
        rw [List.getElem?_set_self hj] at a2
        rw [ej] at a1
        cases a1
        cases a2
        exact sj.more fun a ha => ha.elim
      · rw [List.getElem?_set_ne (Ne.symm kj)] at a2
        exact (f.sl k o d a1 a2).more fun a ha => by rw [if_neg ki, if_neg kj]; exact ha
  · rcases w a x a1 with ⟨z1, y1⟩ | ⟨z1, z2, y1⟩
    · rcases w b x a2 with ⟨z3, y2⟩ | ⟨z3, z4, y2⟩
      · rw [z1, z3]
      · rcases y1 with y1 | y1
        · exact (z3 (f.dj i b x y1 y2).symm).elim
        · exact (z4 (f.dj j b x y1 y2).symm).elim
    · rcases w b x a2 with ⟨z3, y2⟩ | ⟨z3, z4, y2⟩
      · rcases y2 with y2 | y2
        · exact (z1 (f.dj a i x y1 y2)).elim
        · exact (z2 (f.dj a j x y1 y2)).elim
      · exact f.dj a b x y1 y2
  · rcases w k a ha with ⟨_, y1⟩ | ⟨_, _, y1⟩
    · exact y1.elim (f.th i a) (f.th j a)
    · exact f.th k a y1
theorem setSelf {α : Type} {l : List α} {i : Nat} {x : α} (h : l[i]? = some x) : l.set i x = l := by
  obtain ⟨hl, he⟩ := List.getElem?_eq_some_iff.mp h
  rw [← he, List.set_getElem_self]
/-- the dict at slot i, locked -/
theorem EnvR.lockG (en : EnvR G U I0 H0 I H σ ds) {i : Nat} {p0 : Addr} {ts : List (Str × OT)} (h : ds[i]? = some (.ot (some p0) (.dic ts))) : σ[i]? = some (some (.ref p0)) ∧ ∃ fs : List (Str × V), H p0 = some (.dK (kvK fs)) ∧ fs.length = ts.length ∧ ∀ o, EnvR G U I0 H0 I (upd H p0 (.frz o (.dK (kvK fs)))) σ (ds.set i (.gh (dicG p0 o fs ts))) := by
  obtain ⟨F, f⟩ := en.fp
  have hl : i < σ.length := by rw [en.len]; exact (List.getElem?_eq_some_iff.mp h).1
  obtain ⟨v, A, e1, r, hA, hq⟩ := f.sl i _ _ (List.getElem?_eq_getElem hl) h
  obtain rfl := hq p0 rfl
  have es : σ[i]? = some (some (.ref p0)) := by rw [List.getElem?_eq_getElem hl, e1]
  cases r with
  | @dic _ fs _ A a1 a2 a3 a4 =>
  refine ⟨es, fs, a1, a4.len, fun o => ?_⟩
  have hp : ∀ u, H p0 = some u → (∀ ps, u ≠ HO.tbl ps) ∧ ∀ φ, u ≠ HO.ext φ := fun u e => by
    rw [a1] at e
    cases e
    exact ⟨fun _ z => (nomatch z), fun _ z => (nomatch z)⟩
  have rf : ORF G I (upd H p0 (.frz o (.dK (kvK fs)))) fs ts A := a4.frame (Same.refl _) fun a ha => ⟨(a4.there a ha).1, upd_ne fun z => a3 (by rw [← z]; exact ha)⟩
  have z := en.put f (en.st.mutOwn (o := .frz o (.dK (kvK fs))) a2 (hA p0 List.mem_cons_self).1 hp) (tabs_upd en.tb hp) (fun a n => by
    by_cases z : a = p0
    · rw [z, upd_same]; exact fun q => nomatch q
    · rw [upd_ne z]; exact n) i (some (.ref p0)) (.gh (dicG p0 o fs ts)) (fun a => a ∈ p0 :: A) (fun j hj a ha ho => ⟨ho.1, upd_ne fun z => hj (f.dj j i a ha (by rw [z]; exact (hA p0 List.mem_cons_self).2))⟩) (Same.refl I) (fun a ha => ⟨(by
      by_cases z : a = p0
      · rw [z, upd_same]; exact fun q => nomatch q
      · rw [upd_ne z]
        exact f.th i a (hA a ha).2), .inr (hA a ha).2⟩) ⟨.ref p0, p0 :: A, rfl, ⟨rfl, upd_same, a2, A, rfl, a3, rf⟩, fun a ha => ⟨(hA a ha).1, ha⟩⟩
  rwa [setSelf es] at z
theorem EnvR.ghAt (en : EnvR G U I0 H0 I H σ ds) {i : Nat} {p0 : Addr} {o : Obj} {fs : List (Str × V)} {ts : List (Str × OT)} (h : ds[i]? = some (.gh (dicG p0 o fs ts))) : H p0 = some (.frz o (.dK (kvK fs))) := by
  obtain ⟨_, _, _, v, A, e, ⟨_, z, _⟩, _⟩ := en.at_ h
  exact z
theorem EnvR.unlockG (en : EnvR G U I0 H0 I H σ ds) {i : Nat} {p0 : Addr} {o : Obj} {fs : List (Str × V)} {ts : List (Str × OT)} (h : ds[i]? = some (.gh (dicG p0 o fs ts))) : EnvR G U I0 H0 I (upd H p0 (.dK (kvK fs))) σ (ds.set i (.ot (some p0) (.dic ts))) := by
  obtain ⟨F, f⟩ := en.fp
  have hl : i < σ.length := by rw [en.len]; exact (List.getElem?_eq_some_iff.mp h).1
  obtain ⟨v, A0, e1, ⟨rfl, a1, a2, A, rfl, a3, a4⟩, hA⟩ := f.sl i _ _ (List.getElem?_eq_getElem hl) h
  have es : σ[i]? = some (some (.ref p0)) := by rw [List.getElem?_eq_getElem hl, e1]
  have hp : ∀ u, H p0 = some u → (∀ ps, u ≠ HO.tbl ps) ∧ ∀ φ, u ≠ HO.ext φ := fun u e => by
    rw [a1] at e
    cases e
    exact ⟨fun _ z => (nomatch z), fun _ z => (nomatch z)⟩
  have rf : ORF G I (upd H p0 (.dK (kvK fs))) fs ts A := a4.frame (Same.refl _) fun a ha => ⟨(a4.there a ha).1, upd_ne fun z => a3 (by rw [← z]; exact ha)⟩
  have z := en.put f (en.st.mutOwn (o := .dK (kvK fs)) a2 (hA p0 List.mem_cons_self).1 hp) (tabs_upd en.tb hp) (fun a n => by
    by_cases z : a = p0
    · rw [z, upd_same]; exact fun q => nomatch q
    · rw [upd_ne z]; exact n) i (some (.ref p0)) (.ot (some p0) (.dic ts)) (fun a => a ∈ p0 :: A) (fun j hj a ha ho => ⟨ho.1, upd_ne fun z => hj (f.dj j i a ha (by rw [z]; exact (hA p0 List.mem_cons_self).2))⟩) (Same.refl I) (fun a ha => ⟨(by
      by_cases z : a = p0
      · rw [z, upd_same]; exact fun q => nomatch q
      · rw [upd_ne z]
        exact f.th i a (hA a ha).2), .inr (hA a ha).2⟩) ⟨.ref p0, p0 :: A, rfl, .dic upd_same a2 a3 rf, fun a ha => ⟨(hA a ha).1, ha⟩, fun _ z => by cases z; rfl⟩
  rwa [setSelf es] at z
/-- item n of the locked dict is taken to slot j -/
theorem EnvR.takeG (en : EnvR G U I0 H0 I H σ ds) {i j n : Nat} {p0 : Addr} {o : Obj} {fs : List (Str × V)} {ts : List (Str × OT)} {x : Str} {t : OT} (hij : j ≠ i) (hj : j < ds.length) (h : ds[i]? = some (.gh (dicG p0 o fs ts))) (hn : ts[n]? = some (x, t)) (hp : t.ptr = true) :
    ∃ p, fs[n]? = some (x, .ref p) ∧ EnvR G U I0 H0 I H (σ.set j (some (.ref p))) ((ds.set i (.gh (dicG p0 o fs (ts.set n (x, .hole p))))).set j (.ot (some p) t)) := by
  obtain ⟨F, f⟩ := en.fp
  have hi := (List.getElem?_eq_some_iff.mp h).1
  have hl : i < σ.length := by rw [en.len]; exact hi
  obtain ⟨v, A0, e1, ⟨rfl, a1, a2, A, rfl, a3, a4⟩, hA⟩ := f.sl i _ _ (List.getElem?_eq_getElem hl) h
  have es : σ[i]? = some (some (.ref p0)) := by rw [List.getElem?_eq_getElem hl, e1]
  obtain ⟨w, B, c1, c2, c3, c4⟩ := orf_lens a4 hn
  obtain ⟨p, rfl⟩ := c2.ref hp
  obtain ⟨A', d1, d2⟩ := c4 I H (.hole p) [] (Same.refl _) (fun a ha _ => ⟨(a4.there a ha).1, rfl⟩) (.hole p) (fun a ha => absurd ha (by simp))
  have hA' : ∀ a ∈ A', a ∈ A ∧ a ∉ B := fun a ha => (d2 a ha).elim (fun z => absurd z (by simp)) id
  rw [fIxn_set hn] at d1
  refine ⟨p, c1, en.split f hij hj hi es (fun a => a ∈ p0 :: A') (fun a => a ∈ B) (fun a ha => ?_) (fun a ha => (hA a (List.mem_cons_of_mem _ (c3 a ha))).2) ⟨.ref p0, p0 :: A', rfl, ⟨rfl, a1, a2, A', rfl, fun z => a3 (hA' p0 z).1, d1⟩, fun a ha => ⟨?_, ha⟩⟩ ⟨.ref p, B, rfl, c2, fun a ha => ⟨(hA a (List.mem_cons_of_mem _ (c3 a ha))).1, ha⟩, fun _ z => by cases z; rfl⟩⟩
  · rcases List.mem_cons.mp ha with rfl | z
    · exact ⟨(hA _ List.mem_cons_self).2, fun z => a3 (c3 _ z)⟩
    · exact ⟨(hA a (List.mem_cons_of_mem _ (hA' a z).1)).2, (hA' a z).2⟩
  · rcases List.mem_cons.mp ha with rfl | z
    · exact (hA _ List.mem_cons_self).1
    · exact (hA a (List.mem_cons_of_mem _ (hA' a z).1)).1
theorem EnvR.fillG (en : EnvR G U I0 H0 I H σ ds) {i j n : Nat} {p0 p : Addr} {o : Obj} {fs : List (Str × V)} {ts : List (Str × OT)} {x : Str} {t : OT} (hij : j ≠ i) (h : ds[i]? = some (.gh (dicG p0 o fs ts))) (hj : ds[j]? = some (.ot (some p) t)) (hn : ts[n]? = some (x, .hole p)) :
    EnvR G U I0 H0 I H σ ((ds.set j (.ot (some p) (.hole p))).set i (.gh (dicG p0 o fs (ts.set n (x, t))))) := by
  obtain ⟨F, f⟩ := en.fp
  have hi := (List.getElem?_eq_some_iff.mp h).1
  have hjl := (List.getElem?_eq_some_iff.mp hj).1
  have hl : i < σ.length := by rw [en.len]; exact hi
  have hl2 : j < σ.length := by rw [en.len]; exact hjl
  obtain ⟨v, A0, e1, ⟨rfl, a1, a2, A, rfl, a3, a4⟩, hA⟩ := f.sl i _ _ (List.getElem?_eq_getElem hl) h
  obtain ⟨v2, B, e2, r2, hB, hq⟩ := f.sl j _ _ (List.getElem?_eq_getElem hl2) hj
  obtain rfl := hq p rfl
  obtain ⟨w, C, c1, c2, c3, c4⟩ := orf_lens a4 hn
  cases c2
  obtain ⟨A', d1, d2⟩ := c4 I H t B (Same.refl _) (fun a ha _ => ⟨(a4.there a ha).1, rfl⟩) r2 (fun a ha hb => (hij (f.dj j i a (hB a ha).2 (hA a (List.mem_cons_of_mem _ hb)).2)).elim)
  rw [fIxn_set hn] at d1
  refine en.join f hij hjl hi (by rw [List.getElem?_eq_getElem hl, e1]) (by rw [List.getElem?_eq_getElem hl2, e2]) ⟨.ref p0, p0 :: A', rfl, ⟨rfl, a1, a2, A', rfl, fun z => ?_, d1⟩, fun a ha => ?_⟩ ⟨.ref p, [], rfl, .hole p, fun a ha => absurd ha (by simp), fun _ z => by cases z; rfl⟩
  · rcases d2 p0 z with y | y
    · exact hij (f.dj j i p0 (hB p0 y).2 (hA p0 List.mem_cons_self).2)
    · exact a3 y.1
  · rcases List.mem_cons.mp ha with rfl | z
    · exact ⟨(hA _ List.mem_cons_self).1, .inl (hA _ List.mem_cons_self).2⟩
    · rcases d2 a z with y | y
      · exact ⟨(hB a y).1, .inr (hB a y).2⟩
      · exact ⟨(hA a (List.mem_cons_of_mem _ y.1)).1, .inl (hA a (List.mem_cons_of_mem _ y.1)).2⟩
end
end Lp

namespace Lp
open PySem PySem.Spec PyProof.Rows L2
def FillD (i j n : Nat) (p p0 : Addr) (o : Obj) (fs : List (Str × V)) (P : List DS → Prop) : List DS → Prop := fun ds2 => ∃ (ts : List (Str × OT)) (x : Str) (t : OT), ds2[i]? = some (.gh (dicG p0 o fs ts)) ∧ ds2[j]? = some (.ot (some p) t) ∧ ts[n]? = some (x, .hole p) ∧ P ((ds2.set j (.ot (some p) (.hole p))).set i (.ot (some p0) (.dic (ts.set n (x, t)))))
section
variable {X : Cx} {T : List NdefX.NTab} {W : WX} {U : Bool} {ds : List DS} {E : DEn} {pos : Pos}
theorem setTwice {α : Type} (l : List α) (i : Nat) (x y : α) : (l.set i x).set i y = l.set i y := by rw [List.set_set]
/-- for x in y.values() -/
theorem ds_forDV (i j : Nat) {x y : Str} {tp ip apos cpos : Pos} {body : List Stmt} {m : Nat} {p0 : Addr} (Pv : Nat → List DS → Prop) (hij : j ≠ i) (h0 : Pv 0 ds) (hl : ∀ n ds1, Pv n ds1 → j < ds1.length ∧ ∃ ts, ds1[i]? = some (.ot (some p0) (.dic ts)) ∧ ts.length = m ∧ ∀ t ∈ ts, t.2.ptr = true)
    (hb : ∀ n ds1 ts z t p o fs, Pv n ds1 → ds1[i]? = some (.ot (some p0) (.dic ts)) → ts[n]? = some (z, t) → DSs X T W U body ((ds1.set i (.gh (dicG p0 o fs (ts.set n (z, .hole p))))).set j (.ot (some p) t)) { nx := FillD i j n p p0 o fs (Pv (n + 1)), ct := FillD i j n p p0 o fs (Pv (n + 1)) }) (hd : ∀ ds1, Pv m ds1 → E.nx ds1)
    (hp : PassesOwn (model X.prog X.w) X.A X.env X.xe) (hN : X.N.Nodup) (hNj : X.N[j]? = some x := by rfl) (hx : Loc X.env.scope x := by first | exact Or.inl rfl | exact Or.inr rfl) (hf : X.fn x = true ∨ X.env.scope.names.lookup x = some .local := by first | exact .inl rfl | exact .inr rfl | assumption)
    (hNi : X.N[i]? = some y := by rfl) (hv : Vis X.env.scope y := by first | exact Or.inl rfl | exact Or.inr (Or.inl rfl) | exact Or.inr (Or.inr rfl)) (hdd : (y == ("__debug__" : Str)) = false := by decide) (hcd : (y == ("__classdict__" : Str)) = false := by decide)
    (hc : X.calm = true := by rfl) (hba : attributeBase (.Name y ip) "values" X.env (eval (.Name y ip) X.env) = eval (.Name y ip) X.env := by rfl) (hln : (apos.endLine == cpos.line) = true := by rfl) (hs : ∀ x, foldedSetIterable (.Call (.Attribute (.Name y ip) "values" apos) [] [] cpos) X.env x = pure x := by intro _; rfl) : DSt X T W U (.For (.Name x tp) (.Call (.Attribute (.Name y ip) "values" apos) [] [] cpos) body [] pos) ds E := by
  have hB : PSs X body (fun D σ H => ∃ n ds1 ts z t p o fs, Pv n ds1 ∧ ds1[i]? = some (.ot (some p0) (.dic ts)) ∧ ts[n]? = some (z, t) ∧ sV (gx X T) W U ((ds1.set i (.gh (dicG p0 o fs (ts.set n (z, .hole p))))).set j (.ot (some p) t)) { nx := FillD i j n p p0 o fs (Pv (n + 1)), ct := FillD i j n p p0 o fs (Pv (n + 1)) } D σ H) :=
    ⟨fun pins s σ H D I ⟨n, ds1, ts, z, t, p, o, fs, a1, a2, a3, q⟩ => (hb n ds1 ts z t p o fs a1 a2 a3).run pins s σ H D I q⟩
  refine (ps_lock (ps_for hp hc (pi_values (pe_var hNi hv hdd hcd) hba hln) (pg_name (pos := tp) hN hNj hx hf) hB hs)).weak fun D σ H ⟨I0, H0, I, en, k1, k2, k3, k4, k5⟩ => ?_
  obtain ⟨_, ts0, g1, g2, g3⟩ := hl 0 ds h0
  obtain ⟨es, fs, hf0, hfl, lk⟩ := en.lockG g1
  refine ⟨p0, _, hf0, trivial, fun o => ?_⟩
  have pr0 : Pres I H I (upd H p0 (.frz o (.dK (kvK fs)))) := ⟨Same.refl I, fun a o' u e => by
    rw [upd_ne fun z => by rw [z, hf0] at e; cases e]
    exact e⟩
  refine ⟨_, es, p0, o, kvK fs, rfl, upd_same, fun n mm σ' H' => mm = m - n ∧ n ≤ m ∧ ∃ ds1 ts1 I', ds1[i]? = some (.ot (some p0) (.dic ts1)) ∧ EnvR (gx X T) U I0 H0 I' H' σ' (ds1.set i (.gh (dicG p0 o fs ts1))) ∧ Pres I H I' H' ∧ Pv n ds1, ⟨_, rfl, Nat.zero_le _, ds, ts0, I, g1, lk o, pr0, h0⟩, ?_⟩
  rintro n mm σ' H' ⟨rfl, hn, ds1, ts1, I', w1, en', ps, hv1⟩
  obtain ⟨l2, ts2, u1, u2, u3⟩ := hl n ds1 hv1
  rw [w1] at u1
  cases u1
  have li : i < ds1.length := (List.getElem?_eq_some_iff.mp w1).1
  have gi : (ds1.set i (.gh (dicG p0 o fs ts1)))[i]? = some (.gh (dicG p0 o fs ts1)) := List.getElem?_set_self li
  have hfz := en'.ghAt gi
  by_cases hlt : n < m
  · refine .inr ?_
    have hl2 : n < ts1.length := by rw [u2]; exact hlt
    obtain ⟨z, t, hzt⟩ : ∃ z t, ts1[n]? = some (z, t) := ⟨_, _, List.getElem?_eq_getElem hl2⟩
    obtain ⟨p, c1, e3⟩ := en'.takeG hij (by rw [List.length_set]; exact l2) gi hzt (u3 _ (List.mem_of_getElem? hzt))
    rw [setTwice] at e3
    have kn : (kvK fs)[n]? = some ((Sum.inr z : Key), V.ref p) := by rw [List.getElem?_map, c1]; rfl
    refine ⟨⟨hfz, (List.getElem?_eq_some_iff.mp kn).1⟩, fun σ2 H2 => ∃ ds2 ts2 I2, ds2[i]? = some (.ot (some p0) (.dic ts2)) ∧ EnvR (gx X T) U I0 H0 I2 H2 σ2 (ds2.set i (.gh (dicG p0 o fs ts2))) ∧ Pres I H I2 H2 ∧ Pv (n + 1) ds2, fun σ2 H2 ⟨ds2, ts2, I2, q1, q2, q3, q4⟩ => ⟨m - (n + 1), by omega, rfl, hlt, ds2, ts2, I2, q1, q2, q3, q4⟩, fun v H2 ⟨y1, k, y2⟩ => ?_⟩
    subst y1
    rw [kn] at y2
    cases y2
    have fin : ∀ σ4 H4, NxR (gx X T) U I0 H0 I' H2 (FillD i j n p p0 o fs (Pv (n + 1))) σ4 H4 → ∃ ds2 ts2 I2, ds2[i]? = some (.ot (some p0) (.dic ts2)) ∧ EnvR (gx X T) U I0 H0 I2 H4 σ4 (ds2.set i (.gh (dicG p0 o fs ts2))) ∧ Pres I H I2 H4 ∧ Pv (n + 1) ds2 := by
      rintro σ4 H4 ⟨ds4, I4, e4, p4, ts4, x4, t4, w1, w2, w3, w4⟩
      have e5 := e4.fillG hij w1 w2 w3
      have l4 : i < (ds4.set j (.ot (some p) (.hole p))).length := by rw [List.length_set]; exact (List.getElem?_eq_some_iff.mp w1).1
      refine ⟨_, ts4.set n (x4, t4), I4, List.getElem?_set_self l4, ?_, ps.trans p4, w4⟩
      rw [setTwice]
      exact e5
    exact ⟨n, ds1, ts1, z, t, p, o, fs, hv1, w1, hzt, I0, H0, I', e3, fin, fun _ _ _ _ h => h.elim, fun _ _ ⟨_, _, _, _, h⟩ => h.elim, fin, fun _ _ _ _ _ ⟨_, _, _, _, _, h⟩ => h.elim⟩
  · have e : n = m := by omega
    subst e
    refine .inl ⟨⟨hfz, by rw [List.length_map, hfl, g2]; exact Nat.le_refl _⟩, hfz, ?_⟩
    have e6 := en'.unlockG gi
    rw [setTwice, setSelf w1] at e6
    refine k1 σ' _ ⟨ds1, I', e6, ⟨ps.same, fun a o' u e => ?_⟩, hd ds1 hv1⟩
    rw [upd_ne fun z => by rw [z, hf0] at e; cases e]
    exact ps.frz a o' u e
end
end Lp

/-! list.index; place[a:b] = e. -/
namespace Lp
open PySem PySem.Spec PyProof.Rows L2
section
variable {X : Cx} {T : List NdefX.NTab} {W : WX} {U : Bool} {ds : List DS} {s : DS} {E : DEn} {e : Expr} {pos : Pos}
/-- xs.index(x), x among them -/
theorem de_indexL {a : Expr} {apos cpos : Pos} {ns : List Str} {x : Str} {j : Nat} (ho : DE X T U a ds (.lst (ns.map .str))) (he : DE X T U e ds (.str x)) (hj : ns[j]? = some x) (hno : ∀ m y, m < j → ns[m]? = some y → y ≠ x) (hb : attributeBase a "index" X.env (eval a X.env) = eval a X.env := by rfl) (hf : ((backTo cpos (starEach [e] X.env)).all (fun x => !x.1) && (backToKw cpos (keywordEach [] X.env)).all (fun x => x.1.isSome) && decide ([e].length + ([] : List Keyword).length + (if ([] : List Keyword).isEmpty then 0 else 1) < 30)) = true := by rfl)
    (hln : (apos.endLine == cpos.line) = true := by rfl) (hs : starEach [e] X.env = (false, eval e X.env) :: starEach [] X.env := by rfl) : DE X T U (.Call (.Attribute a "index" apos) [e] [] cpos) ds (.int (j : Int)) :=
  (pe_bm PySem.F.plainAttrs_list PySem.F.slot_list_index PySem.F.type_list_index mt_index ho (da_cons he da_nil hs) hb hf hln hs rfl).weak fun σ H Q ⟨I0, H0, I, en, k⟩ => ⟨I0, H0, I, en, fun v I1 H1 s1 r1 => by
    cases r1 with
    | @lst p vs _ i1 i2 =>
    obtain rfl := i2.strs
    refine ⟨tyL (s1.sub.lst i1), I0, H0, I1, en.step s1, fun vs I2 H2 s2 r2 => ?_⟩
    cases r2 with
    | cons b1 b2 =>
      cases b2
      cases b1
      refine ⟨p, _, .str x, j, .str x, rfl, rfl, SqL.of (s2.sub.lst (s2.isub _ _ i1)), rfl, flat_strs ns, by rw [List.getElem?_map, hj]; rfl, by show (x == x) = true; exact beq_self_eq_true x, fun m z hm hz => ?_, k _ I2 H2 (s1.trans s2) (.int _)⟩
      rw [List.getElem?_map] at hz
      obtain ⟨y, hy, rfl⟩ := Option.map_eq_some_iff.mp hz
      show (y == x) = false
      exact beq_eq_false_iff_ne.mpr (hno m y hm hy)⟩
end
/-! ### slices set -/
def tSetSl (tv to : TE) (tl tu : TO) : TS := fun D σ H => tv σ H fun y H1 => to σ H1 fun x H2 => tl σ H2 fun l H3 => tu σ H3 fun u H4 => ∃ (a b : Addr) (xs ys : List V) (i j : Int), x = .ref a ∧ y = .ref b ∧ l = some i ∧ u = some j ∧ H4 a = some (.lst xs) ∧ H4 b = some (.lst ys) ∧ a ≠ b ∧ 0 ≤ i ∧ i ≤ j ∧ j ≤ xs.length ∧ xs.length + ys.length ≤ sizeLine ∧ D.nx σ (upd H4 a (.lst (xs.take i.toNat ++ ys ++ xs.drop j.toNat)))
theorem ps_setSl {X : Cx} {o value : Expr} {lo hi : Option Expr} {tv to : TE} {tl tu : TO} {p2 pos pos' : Pos} (hv : PE X value tv) (ho : PE X o to) (hl : PO X lo tl) (hu : PO X hi tu) (hs : swapsWith value (some (.Subscript o (.Slice lo hi none p2) pos')) pos.line X.env = pure false) :
    PS X (.Assign [.Subscript o (.Slice lo hi none p2) pos'] value pos) (tSetSl tv to tl tu) := by
  refine ⟨fun pins s σ H D I h => ?_⟩
  refine wpAny_Assign_Subscript (thn (hv.run pins s σ H _ I h) fun r s1 ⟨y, H1, I1, ry, q1⟩ => thn (ho.run pins s1 σ H1 _ I1 q1) fun w s2 ⟨x, H2, I2, rx, q2⟩ => ?_) hs
  refine wpAny_Slice (thn (hl.run pins s2 σ H2 _ I2 q2) fun vl s3 ⟨l, H3, I3, pl, q3⟩ => thn (hu.run pins s3 σ H3 _ I3 q3) fun vu s4 ⟨u, H4, I4, pu, q4⟩ => ?_)
  obtain ⟨a, b, xs, ys, i, j, rfl, rfl, rfl, rfl, ha, hb, ne, c1, c2, c3, c4, q⟩ := q4
  cases rx
  cases ry
  rw [evalPart_none]
  refine wpAny_pure ?_
  have I5 : Inv X pins σ H4 { s4 with heap := s4.heap.push { cls := .type "slice", data := .fields #[vl, vu, .none] } } := I4.kept (t' := s4.toks) fun c ob z => Heap.get?_push_of_some _ z
  refine set_slice I5 ha hb ne (Heap.IsSliceOf.new _ vl vu .none) ?_ ?_ c1 c2 c3 c4 fun s' J => ⟨σ, _, J, q⟩
  · cases pl
    exact ⟨_, rfl⟩
  · cases pu
    exact ⟨_, rfl⟩
theorem ors_imR {G : Glb} {I H : Hp} : ∀ {vs : List V} {xs : List D} {A : List Addr}, ORs G I H vs (xs.map .im) A → Reps G I vs xs ∧ A = []
  | [], [], _, .nil => ⟨.nil, rfl⟩
  | _ :: _, [], _, h => nomatch h
  | [], _ :: _, _, h => nomatch h
  | _ :: _, _ :: _, _, .cons a b _ => by
    obtain ⟨r, rfl⟩ := ors_imR b
    cases a with
    | im r1 => exact ⟨.cons r1 r, rfl⟩
section
variable {X : Cx} {T : List NdefX.NTab} {W : WX} {U : Bool} {ds : List DS} {s : DS} {E : DEn} {e : Expr} {pos : Pos}
/-- place[a:b] = e -/
theorem ds_setSl (i : Nat) {b lo hi : Expr} {q : Option Addr} {T' : OT} {π : Pth} {xs ys : List D} {l u : Nat} {p2 pos' : Pos} (h : ds[i]? = some (.ot q T')) (hg : T'.get π = some (.lst (xs.map .im))) (hp : DPl X T U b ds i π) (hl : DE X T U lo ds (.int (l : Int))) (hu : DE X T U hi ds (.int (u : Int))) (he : DE X T U e ds (.lst ys)) (h1 : l ≤ u) (h2 : u ≤ xs.length) (hz : xs.length + ys.length ≤ 100000)
    (k : E.nx (ds.set i (.ot q (T'.put π (.lst ((xs.take l ++ ys ++ xs.drop u).map .im)))))) (hs : swapsWith e (some (.Subscript b (.Slice (some lo) (some hi) none p2) pos')) pos.line X.env = pure false := by rfl) :
    DSt X T W U (.Assign [.Subscript b (.Slice (some lo) (some hi) none p2) pos'] e pos) ds E :=
  (ps_setSl he hp (po_some hl) (po_some hu) hs).weak fun D σ H ⟨I0, H0, I, en, k1, _⟩ => by
    refine ⟨I0, H0, I, en, fun y I1 H1 s1 r1 => ⟨I0, H0, I1, en.step s1, fun v w I2 H2 s2 e2 a2 => ⟨I0, H0, I2, (en.step s1).step s2, fun x I3 H3 s3 r3 => ?_⟩⟩⟩
    cases r3
    refine ⟨(l : Int), rfl, I0, H0, I3, ((en.step s1).step s2).step s3, fun x I4 H4 s4 r4 => ?_⟩
    cases r4
    refine ⟨(u : Int), rfl, ?_⟩
    have en2 := (en.step s1).step s2
    have s34 := s3.trans s4
    obtain ⟨v', w', B2, b1, b2, b3, bN, b4⟩ := en2.mutP h hg s34
    have e2' : σ[i]? = some (some v) := e2
    rw [e2'] at b1
    cases b1
    obtain ⟨c1, _⟩ := en2.place2 h hg e2' a2 s34
    cases atv_fun b2 c1
    cases b3 with
    | @lst p ws _ B3 d1 d2 d3 d4 =>
    obtain ⟨rr, rfl⟩ := ors_imR d4
    cases r1 with
    | @lst pb vb _ i1 i2 =>
    have s234 := s2.trans s34
    have ib : I4 pb = some (.lst vb) := s234.isub _ _ i1
    have hb4 : H4 pb = some (.lst vb) := s234.sub.lst ib
    have ne : p ≠ pb := fun z => by rw [z, ib] at d2; cases d2
    refine ⟨p, pb, ws, vb, (l : Int), (u : Int), rfl, rfl, rfl, rfl, d1, hb4, ne, by omega, by omega, by rw [rr.len]; omega, by rw [rr.len, i2.len]; exact Nat.le_trans hz (by decide), ?_⟩
    simp only [Int.toNat_natCast]
    have nr : Reps (gx X T) I4 (ws.take l ++ vb ++ ws.drop u) (xs.take l ++ ys ++ xs.drop u) := ((rr.take l).app (i2.mono s234.isub)).app (rr.drop u)
    obtain ⟨e5, p5⟩ := b4 p (.lst (ws.take l ++ vb ++ ws.drop u)) (.lst ((xs.take l ++ ys ++ xs.drop u).map .im)) [p] rfl List.mem_cons_self (.lst upd_same d2 (by simp) (ors_im nr)) fun a ha => by
      rw [List.mem_singleton.mp ha]
      exact .inl List.mem_cons_self
    exact k1 _ _ ⟨_, I4, e5, (s1.pres.trans s2.pres).trans p5, k⟩
end
end Lp

/-! place.f = e, the field there already. -/
namespace Lp
open PySem PySem.Spec PyProof.Rows L2
theorem orf_putF {G : Glb} {I H : Hp} {f : Str} {v : V} {t : OT} {B : List Addr} (rv : OR G I H v t B) : ∀ {fs : List (Str × V)} {ts : List (Str × OT)} {A : List Addr} {k : Nat}, ORF G I H fs ts A → fIx f ts = some k → (∀ a ∈ A, a ∉ B) → ∃ A', ORF G I H (putF f v fs) (setFk ts k t) A' ∧ ∀ a ∈ A', a ∈ A ∨ a ∈ B
  | _, _, _, _, .nil, e, _ => nomatch e
  | _, _, _, k, .cons (x := x) (v := w) (vs := vs) (ts := ts) (A := A1) (B := A2) a b c, e, d => by
    unfold fIx at e
    cases q : f == x with
    | true =>
      rw [q, if_pos rfl] at e
      cases e
      have ex : x = f := (eq_of_beq q).symm
      refine ⟨B ++ A2, ?_, fun y hy => (List.mem_append.mp hy).elim .inr fun z => .inl (List.mem_append_right _ z)⟩
      rw [putF, if_pos ex]
      show ORF G I H ((x, v) :: vs) ((x, t) :: ts) (B ++ A2)
      exact .cons rv b fun y hy z => d y (List.mem_append_right _ z) hy
    | false =>
      rw [q, if_neg Bool.false_ne_true] at e
      obtain ⟨j, e1, rfl⟩ := Option.map_eq_some_iff.mp e
      obtain ⟨A', r, hs⟩ := orf_putF rv b e1 fun y hy => d y (List.mem_append_right _ hy)
      have ex : ¬ x = f := fun z => by rw [z] at q; simp at q
      refine ⟨A1 ++ A', ?_, fun y hy => ?_⟩
      · rw [putF, if_neg ex]
        show ORF G I H ((x, w) :: putF f v vs) ((x, _) :: setFk ts j t) (A1 ++ A')
        refine .cons a r fun y hy z => ?_
        rcases hs y z with u | u
        · exact c y hy u
        · exact d y (List.mem_append_left _ hy) u
      · rcases List.mem_append.mp hy with z | z
        · exact .inl (List.mem_append_left _ z)
        · exact (hs y z).imp (List.mem_append_right _) id
section
variable {X : Cx} {T : List NdefX.NTab} {W : WX} {U : Bool} {ds : List DS} {s : DS} {E : DEn} {e : Expr} {pos : Pos}
theorem ds_setFP (i : Nat) {b : Expr} {q : Option Addr} {T' t : OT} {π : Pth} {C f : Str} {ts : List (Str × OT)} {k : Nat} {pos' : Pos} (h : ds[i]? = some (.ot q T')) (hg : T'.get π = some (.ins C ts)) (hp : DPl X T U b ds i π) (he : DV X T U e ds s) (ht : s.tree = some t) (hk : fIx f ts = some k) (hl : ts.length < 1000)
    (kk : E.nx (ds.set i (.ot q (T'.put π (.ins C (setFk ts k t)))))) (hc : Cls X.K (He.ga X.K C)) (hn : NoAttr X.K (He.ga X.K C) f) (hs : swapsWith e (some (.Attribute b f pos')) pos.line X.env = pure false := by rfl) : DSt X T W U (.Assign [.Attribute b f pos'] e pos) ds E :=
  (ps_fld hp he hs).weak fun D σ H ⟨I0, H0, I, en, k1, _⟩ => by
    refine ⟨I0, H0, I, en, fun y I1 H1 s1 r1 => ⟨I0, H0, I1, en.step s1, fun v w I2 H2 s2 e2 a2 => ?_⟩⟩
    obtain ⟨Bv, rB, nB⟩ := r1.tree ht
    have rB2 := rB.frame (H' := H2) s2.isub fun a ha => s2.ownKeep (rB.there a ha)
    have s12 := s1.trans s2
    obtain ⟨v', w', B2, b1, b2, b3, bN, b4⟩ := en.mutP h hg s12
    have e2' : σ[i]? = some (some v) := e2
    rw [e2'] at b1
    cases b1
    cases atv_fun b2 a2
    cases b3 with
    | @ins p dx _ fs _ B3 d1 d2 d3 d4 =>
    have far : ∀ a, a ∈ p :: B3 → a ∉ Bv := fun a ha z => bN a ha (nB a z)
    obtain ⟨A', r', hA⟩ := orf_putF rB2 d4 hk fun a ha => far a (List.mem_cons_of_mem _ ha)
    have pA : p ∉ A' := fun z => (hA p z).elim d3 (far p List.mem_cons_self)
    refine ⟨p, _, dx, fs, rfl, d1, hc, hn, by rw [d4.len]; exact hl, ?_⟩
    have fB : ORF (gx X T) I2 (upd H2 p (.ins (He.ga X.K C) dx (putF f y fs))) (putF f y fs) (setFk ts k t) A' := r'.frame (Same.refl _) fun a ha => ⟨(r'.there a ha).1, upd_ne fun z => pA (by rw [← z]; exact ha)⟩
    obtain ⟨e5, p5⟩ := b4 p (.ins (He.ga X.K C) dx (putF f y fs)) (.ins C (setFk ts k t)) (p :: A') rfl List.mem_cons_self (.ins upd_same d2 pA fB) fun a ha => by
      rcases List.mem_cons.mp ha with rfl | z
      · exact .inl List.mem_cons_self
      · rcases hA a z with u | u
        · exact .inl (List.mem_cons_of_mem _ u)
        · exact .inr (nB a u)
    exact k1 _ _ ⟨_, I2, e5, p5, kk⟩
end
end Lp

/-! Comprehensions whose items are trees of one's own. -/
namespace Lp
open PySem PySem.Spec PyProof.Rows L2
section
variable {G : Glb} {U : Bool} {ds : List DS}
theorem lc_runT {α : Type} {ev : α → D} {wi : TI} {g : TG} {tt : TT} {te : TE} {vs js : List Nat} {xs : List α} {gd : α → List DS} {p : α → Bool} {f : α → OT} {σ : L2.St} {H : Hp} {Q : VK} (hl : xs.length ≤ 100000)
    (hi : ∀ σ H R, iV G U ds (xs.map ev) σ H R → wi σ H R) (hg : ∀ d ∈ xs, ∀ v σ H Q, gV G U (wipeD ds vs) (ev d) (gd d) js v σ H Q → g v σ H Q) (hj : ∀ j ∈ js, j ∈ vs) (ht : ∀ d ∈ xs, ∀ σ H Q, tV G U (gd d) (p d) σ H Q → tt σ H Q)
    (he : ∀ d ∈ xs, p d = true → ∀ σ H Q, eV G U (gd d) (.ot none (f d)) σ H Q → te σ H Q) (h : eV G U ds (.ot none (.lst ((xs.filter p).map f))) σ H Q) : tLc wi g tt te vs σ H Q := by
  obtain ⟨I0, H0, I, en, k⟩ := h
  refine hi σ H _ ⟨I0, H0, I, en, fun J I1 H1 s1 go Dl hD => ?_⟩
  have en1 := en.step s1
  refine ⟨fun i m H' => m = xs.length - i ∧ i ≤ xs.length ∧ ∃ I' ws A, Step G I1 H1 I' H' ∧ H' Dl = some (.lst ws) ∧ I' Dl = none ∧ ORs G I' H' ws (((xs.take i).filter p).map f) A ∧ ∀ a ∈ A, H1 a = none ∧ a ≠ Dl, ⟨_, rfl, Nat.zero_le _, I1, [], [], Step.newOwn s1.sub hD, upd_same, s1.sub.free hD, .nil, fun a ha => absurd ha (by simp)⟩, ?_⟩
  rintro i m H' ⟨rfl, hil, I', ws, A, st, hDl, iDl, rs, hA⟩
  obtain ⟨g1, g2⟩ := go I' H' st.pres st.sub i
  by_cases hlt : i < xs.length
  · refine .inr ?_
    obtain ⟨a, b⟩ := g2 (ev xs[i]) (by rw [List.getElem?_map, List.getElem?_eq_getElem hlt]; rfl)
    refine ⟨a, fun H2 => i + 1 ≤ xs.length ∧ ∃ I' ws A, Step G I1 H1 I' H2 ∧ H2 Dl = some (.lst ws) ∧ I' Dl = none ∧ ORs G I' H2 ws (((xs.take (i + 1)).filter p).map f) A ∧ ∀ a ∈ A, H1 a = none ∧ a ≠ Dl, fun H2 ⟨q1, q2⟩ => ⟨xs.length - (i + 1), by omega, rfl, q1, q2⟩, fun x H2 y => ?_⟩
    obtain ⟨I2, s2, r2⟩ := b x H2 y
    have hm : xs[i] ∈ xs := List.getElem_mem hlt
    have et : xs.take (i + 1) = xs.take i ++ [xs[i]] := by rw [List.take_succ, List.getElem?_eq_getElem hlt]; rfl
    have en2 := (en1.step (st.trans s2))
    refine hg xs[i] hm x (wipe σ vs) H2 _ ⟨I0, H0, I2, env_wipe en2 vs, r2, fun σ2 e2 bt => ⟨wipe_but bt hj, ?_⟩⟩
    refine ht xs[i] hm σ2 H2 _ ⟨I0, H0, I2, e2, fun I3 H3 s3 => ?_⟩
    have s23 := s2.trans s3
    have k1 : H3 Dl = some (.lst ws) := s23.keep Dl _ hDl (fun _ z => nomatch z) (.inr fun _ z => nomatch z)
    have k2 : I3 Dl = none := s23.fresh Dl _ iDl hDl (fun _ q => nomatch q) (fun _ q => nomatch q)
    have r3 := rs.frame (H' := H3) s23.isub fun a ha => s23.ownKeep (rs.there a ha)
    cases hf : p xs[i] with
    | false =>
      show if false = true then _ else _
      rw [if_neg Bool.false_ne_true]
      refine ⟨hlt, I3, ws, A, st.trans s23, k1, k2, ?_, hA⟩
      rw [et, List.filter_append, List.filter_cons, hf, if_neg Bool.false_ne_true, List.filter_nil, List.append_nil]
      exact r3
    | true =>
      show if true = true then _ else _
      rw [if_pos rfl]
      refine he xs[i] hm hf σ2 H3 _ ⟨I0, H0, I3, e2.step s3, fun v I4 H4 s4 r4 => ?_⟩
      obtain ⟨B, rB, nB, _⟩ := r4
      have s24 := s23.trans s4
      have k3 : H4 Dl = some (.lst ws) := s4.keep Dl _ k1 (fun _ z => nomatch z) (.inr fun _ z => nomatch z)
      have k4 : I4 Dl = none := s4.fresh Dl _ k2 k1 (fun _ q => nomatch q) (fun _ q => nomatch q)
      have r5 := r3.frame (H' := H4) s4.isub fun a ha => s4.ownKeep (r3.there a ha)
      have bD : ∀ a ∈ B, a ≠ Dl := fun a ha z => by
        have := nB a ha
        rw [z, k1] at this
        cases this
      have dis : ∀ a ∈ A, a ∉ B := fun a ha hb => by
        obtain ⟨_, u, z, _⟩ := r3.there a ha
        rw [nB a hb] at z
        cases z
      have f5 : ORs G I4 (upd H4 Dl (.lst (ws ++ [v]))) ws (((xs.take i).filter p).map f) A := r5.frame (Same.refl _) fun a ha => ⟨(r5.there a ha).1, upd_ne (hA a ha).2⟩
      have fB : OR G I4 (upd H4 Dl (.lst (ws ++ [v]))) v (f xs[i]) B := rB.frame (Same.refl _) fun a ha => ⟨(rB.there a ha).1, upd_ne (bD a ha)⟩
      refine ⟨ws, k3, ?_, hlt, I4, ws ++ [v], A ++ B, (st.trans s24).mutOwn k4 hD (by rw [k3]; exact ownNt), upd_same, k4, ?_, fun a ha => ?_⟩
      · rw [rs.len, List.length_map]
        have z := List.length_filter_le p (xs.take i)
        rw [List.length_take] at z
        exact Nat.lt_of_le_of_lt (Nat.le_trans z (Nat.min_le_left _ _)) (Nat.lt_of_lt_of_le hlt (Nat.le_trans hl (by decide)))
      · rw [et, List.filter_append, List.filter_cons, hf, if_pos rfl, List.filter_nil, List.map_append]
        exact ORs.snoc fB f5 dis
      · rcases List.mem_append.mp ha with z | z
        · exact hA a z
        · exact ⟨(st.trans s23).free (nB a z), bD a z⟩
  · have e : i = xs.length := by omega
    subst e
    refine .inl ⟨g1 (by rw [List.length_map]; exact Nat.le_refl _), ?_⟩
    rw [List.take_length] at rs
    exact k _ I' H' (s1.trans st) ⟨Dl :: A, .lst hDl iDl (fun z => (hA Dl z).2 rfl) rs, fun a ha => by
      rcases List.mem_cons.mp ha with rfl | z
      · exact s1.free hD
      · exact s1.free (hA a z).1, fun _ z => nomatch z⟩
end
section
variable {X : Cx} {T : List NdefX.NTab} {W : WX} {U : Bool} {ds : List DS} {s : DS} {E : DEn}
section
variable {α : Type} {ev : α → D} {elt tg iter : Expr} {ifs : List Expr} {scope : Scope} {own : List (Str × Nat)} {pos : Pos} {xs : List α} {js : List Nat}
theorem dv_lcT (gd : α → List DS) (p : α → Bool) (f : α → OT) (hi : DI X T U tg iter ds (xs.map ev)) (hl : xs.length ≤ 100000) (hN : X.N.Nodup) (ok : BlkOk X.N X.env.scope scope own) (hg : ∀ s H C cl fp, ∀ d ∈ xs, DG (blkX X scope s H C cl fp) T U tg (wipeD ds (own.map (·.2))) (ev d) (gd d) js)
    (ht : ∀ s H C cl fp, ∀ d ∈ xs, DTs (blkX X scope s H C cl fp) T U ifs (gd d) (p d)) (he : ∀ s H C cl fp, ∀ d ∈ xs, p d = true → DV (blkX X scope s H C cl fp) T U elt (gd d) (.ot none (f d))) (hj : ∀ j ∈ js, j ∈ own.map (·.2) := by decide) (hc : X.calm = true := by rfl) (hs : ∀ x, foldedSetIterable iter X.env x = pure x := by intro _; rfl) :
    DV X T U (.ListComp elt [⟨tg, iter, ifs, 0⟩] scope pos) ds (.ot none (.lst ((xs.filter p).map f))) := by
  refine (pe_lc (own := own) (g := fun v σ H Q => ∃ d, d ∈ xs ∧ gV (gx X T) U (wipeD ds (own.map (·.2))) (ev d) (gd d) js v σ H Q) (tt := fun σ H Q => ∃ d, d ∈ xs ∧ tV (gx X T) U (gd d) (p d) σ H Q) (te := fun σ H Q => ∃ d, d ∈ xs ∧ p d = true ∧ eV (gx X T) U (gd d) (.ot none (f d)) σ H Q)
    hc hN hi ok (fun s H C cl fp => ⟨fun pins s' σ H' v u Q I r ⟨d, m, q⟩ => (hg s H C cl fp d m).run pins s' σ H' v u Q I r q⟩) (fun s H C cl fp => ⟨fun pins s' σ H' Q I ⟨d, m, q⟩ => (ht s H C cl fp d m).run pins s' σ H' Q I q⟩) (fun s H C cl fp => ⟨fun pins s' σ H' Q I ⟨d, m, e, q⟩ => (he s H C cl fp d m e).run pins s' σ H' Q I q⟩) hs).weak fun σ H Q h => ?_
  exact lc_runT hl (fun _ _ _ h => h) (fun d m v σ H Q h => ⟨d, m, h⟩) hj (fun d m σ H Q h => ⟨d, m, h⟩) (fun d m e σ H Q h => ⟨d, m, e, h⟩) h
theorem ds_setLcT (i : Nat) {y : Str} {py spos : Pos} (gd : α → List DS) (p : α → Bool) (f : α → OT) (hi : DI X T U tg iter ds (xs.map ev)) (hl : xs.length ≤ 100000) (hN : X.N.Nodup) (ok : BlkOk X.N X.env.scope scope own) (hg : ∀ s H C cl fp, ∀ d ∈ xs, DG (blkX X scope s H C cl fp) T U tg (wipeD ds (own.map (·.2))) (ev d) (gd d) js)
    (ht : ∀ s H C cl fp, ∀ d ∈ xs, DTs (blkX X scope s H C cl fp) T U ifs (gd d) (p d)) (he : ∀ s H C cl fp, ∀ d ∈ xs, p d = true → DV (blkX X scope s H C cl fp) T U elt (gd d) (.ot none (f d))) (k : E.nx (ds.set i (.ot none (.lst ((xs.filter p).map f)))))
    (hsw : swapsWith (.ListComp elt [⟨tg, iter, ifs, 0⟩] scope pos) (some (.Name y py)) spos.line X.env = pure true := by exact sw_true rfl rfl rfl (by decide +kernel)) (hj : ∀ j ∈ js, j ∈ own.map (·.2) := by decide) (hy : X.N[i]? = some y := by rfl) (hyl : X.env.scope.names.lookup y = some .local := by rfl)
    (hc : X.calm = true := by rfl) (hs : ∀ x, foldedSetIterable iter X.env x = pure x := by intro _; rfl) : DSt X T W U (.Assign [.Name y py] (.ListComp elt [⟨tg, iter, ifs, 0⟩] scope pos) spos) ds E := by
  refine (ps_setLc (i := i) (own := own) (g := fun v σ H Q => ∃ d, d ∈ xs ∧ gV (gx X T) U (wipeD ds (own.map (·.2))) (ev d) (gd d) js v σ H Q) (tt := fun σ H Q => ∃ d, d ∈ xs ∧ tV (gx X T) U (gd d) (p d) σ H Q) (te := fun σ H Q => ∃ d, d ∈ xs ∧ p d = true ∧ eV (gx X T) U (gd d) (.ot none (f d)) σ H Q)
    hc hN hy hyl hsw hi ok (fun s H C cl fp => ⟨fun pins s' σ H' v u Q I r ⟨d, m, q⟩ => (hg s H C cl fp d m).run pins s' σ H' v u Q I r q⟩) (fun s H C cl fp => ⟨fun pins s' σ H' Q I ⟨d, m, q⟩ => (ht s H C cl fp d m).run pins s' σ H' Q I q⟩) (fun s H C cl fp => ⟨fun pins s' σ H' Q I ⟨d, m, e, q⟩ => (he s H C cl fp d m e).run pins s' σ H' Q I q⟩) hs).weak fun D σ H ⟨I0, H0, I, en, k1, _⟩ => ?_
  exact lc_runT hl (fun _ _ _ h => h) (fun d m v σ H Q h => ⟨d, m, h⟩) hj (fun d m σ H Q h => ⟨d, m, h⟩) (fun d m e σ H Q h => ⟨d, m, e, h⟩) ⟨I0, H0, I, en, fun v I1 H1 s1 r1 => k1 _ H1 ⟨_, I1, en.setV s1 i r1, s1.pres, k⟩⟩
end
end
end Lp

/-! Trees of one's own lent to defs and methods, which may change them. -/
namespace Lp
open PySem PySem.Spec PyProof.Rows L2
/-! ### what comes back -/
inductive BR where
  | dat (d : D) | al (π : Pth)
def BR.R (G : Glb) (I H : Hp) (t : OT) (p : Addr) (v : V) : BR → Prop
  | .dat d => Rep G I v d
  | .al π => (∃ u, t.get π = some u) ∧ AtV H (.ref p) π v
/-- a value, and the tree at p -/
def bothG (p : Addr) (t : OT) (r : BR) : Gh where
  R := fun G I H v A => OR G I H (.ref p) t A ∧ r.R G I H t p v
  frame := fun {G I H I' H' v A} ⟨h1, h2⟩ s k => ⟨h1.frame s k, by
    cases r with
    | dat d => exact Rep.mono s h2
    | al π =>
      obtain ⟨⟨u, h3⟩, h4⟩ := h2
      exact ⟨⟨u, h3⟩, atv_keep h1 h3 h4 fun a ha => (k a ha).2⟩⟩
  there := fun ⟨h1, _⟩ => h1.there
/-- the first thing handed over is a tree t of one's own; behind the call it is t', and r comes back -/
def spO (G : Glb) (A : OT → List D → OT → BR → Prop) : Sp := fun vs H Q _ => ∃ (I H0 : Hp) (p : Addr) (us : List V) (B0 : List Addr) (xs : List D) (t t' : OT) (r : BR), vs = .ref p :: us ∧ Step G I H0 I H ∧ NdefX.TabsN G.T H ∧ Reps G I us xs ∧ OR G I H (.ref p) t B0 ∧ (∀ a ∈ B0, H0 a = none) ∧ A t xs t' r ∧
  ∀ v I' H' B, Step G I H0 I' H' → OR G I' H' (.ref p) t' B → (∀ a ∈ B, H0 a = none) → r.R G I' H' t' p v → Q v H'
theorem env_startO {G : Glb} {I H0 H : Hp} {us : List V} {xs : List D} {p : Addr} {B0 : List Addr} {t : OT} {n : Nat} (st : Step G I H0 I H) (tb : NdefX.TabsN G.T H) (rs : Reps G I us xs) (r : OR G I H (.ref p) t B0) (h0 : ∀ a ∈ B0, H0 a = none) (hl : xs.length ≤ n) :
    EnvR G false I H0 I H (some (.ref p) :: L2.start (List.replicate n Str.empty) us) (.ot (some p) t :: startD n xs) := by
  have e := rs.len
  refine ⟨st, tb, ?_, fun i a => i = 0 ∧ a ∈ B0, fun i o s h1 h2 => ?_, fun i j a h1 h2 => h1.1.trans h2.1.symm, fun i a h => ?_⟩
  · unfold L2.start startD
    rw [List.length_cons, List.length_cons, List.length_append, List.length_append, List.length_map, List.length_map, List.length_replicate, List.length_replicate, List.length_replicate, e]
  · cases i with
    | zero =>
      cases h1
      cases h2
      exact ⟨.ref p, B0, rfl, r, fun a ha => ⟨h0 a ha, rfl, ha⟩, fun q z => by cases z; rfl⟩
    | succ i =>
      have h1' : (L2.start (List.replicate n Str.empty) us)[i]? = some o := by simpa using h1
      have h2' : (startD n xs)[i]? = some s := by simpa using h2
      unfold L2.start at h1'
      unfold startD at h2'
      by_cases hi : i < xs.length
      · rw [List.getElem?_append_left (by rw [List.length_map, e]; exact hi), List.getElem?_map] at h1'
        rw [List.getElem?_append_left (by rw [List.length_map]; exact hi), List.getElem?_map] at h2'
        obtain ⟨v, hv, rv⟩ := rs.get' (List.getElem?_eq_getElem hi)
        rw [hv] at h1'
        rw [List.getElem?_eq_getElem hi] at h2'
        cases h1'
        cases h2'
        exact ⟨v, rfl, rv⟩
      · rw [List.getElem?_append_right (by rw [List.length_map]; omega)] at h2'
        have z := List.mem_of_getElem? h2'
        rw [List.eq_of_mem_replicate z]
        trivial
  · obtain ⟨_, u, z, _⟩ := r.there a h.2
    rw [z]
    exact fun q => nomatch q
theorem start_cons {N : List Str} {p : Addr} {us : List V} : L2.start N (.ref p :: us) = some (.ref p) :: L2.start (List.replicate (N.length - 1) Str.empty) us := by
  unfold L2.start
  rw [List.length_replicate, List.map_cons, List.cons_append, List.length_cons, Nat.sub_sub, Nat.add_comm us.length 1]
def envO (p : Addr) (t' : OT) (r : BR) : DEn := { nx := fun ds => ds[0]? = some (.ot (some p) t') ∧ r = .dat .non, rt := fun s => s = .gh (bothG p t' r) }
theorem okO {G : Glb} {x qual : Str} {params : Arguments} {body : List Stmt} {scope : Scope} {f : Addr} {fd : FuncData} {N ps : List Str} {k : Nat} {A : OT → List D → OT → BR → Prop} (F : FunD G.K x qual params body scope [] [] f fd) (S : FnScope N ps scope)
    (hA : ∀ t xs t' r, A t xs t' r → xs.length + 1 = ps.length)
    (hb : ∀ (cdv : Value) (Ar : Around) (outer : List Env) (s : Shared) (H : Hp) (E : XK), Room k (Ar.deeper (envOfC qual scope s.heap.objs.size f cdv)) → ∀ p t xs t' r, A t xs t' r →
      DSs (cxOf CX0 G.P G.w G.K G.mg G.base N qual scope f cdv Ar outer s H E).nox G.T W0 false body (.ot (some p) t :: startD (N.length - 1) xs) (envO p t' r)) :
    FnOk G.P G.w G.K G.mg G.base CX0 (k + 1) f fd ps (spO G A) := by
  refine F.ok S (fun vs H Q E ⟨I, H0, p, us, B0, xs, t, t', r, e, _, _, rs, _, _, hAx, _⟩ => by rw [e, List.length_cons, rs.len]; exact hA t xs t' r hAx) (fun cdv Ar outer s H vs Q E hr ⟨I, H0, p, us, B0, xs, t, t', r, e, st, tb, rs, ro, h0, hAx, k⟩ => ?_)
  subst e
  have h := hb cdv Ar outer s H E hr p t xs t' r hAx
  have hl : xs.length + 1 ≤ N.length := by
    have e1 := S.pre
    have e2 := hA t xs t' r hAx
    rw [e2, ← e1, List.length_take]
    exact Nat.min_le_right _ _
  refine ⟨_, PSs.nox h, I, H0, I, by rw [start_cons]; exact env_startO st tb rs ro h0 (by omega), ?_, ?_, ?_, ?_, ?_⟩
  · rintro σ' H' ⟨ds', I', e', p', q, er⟩
    obtain ⟨v, B, _, r2, hB, hv⟩ := e'.ot q
    rw [hv p rfl] at r2
    exact k .non I' H' B e'.st r2 hB (by rw [er]; exact Rep.non)
  · rintro v H' s ⟨I', st', hv⟩ es
    cases es
    obtain ⟨B, ⟨r1, r2⟩, hB⟩ := hv
    exact k v I' H' B st' r1 hB r2
  · rintro _ _ ⟨_, _, _, _, q⟩
    exact q
  · rintro _ _ ⟨_, _, _, _, q⟩
    exact q
  · rintro _ _ _ _ _ ⟨_, _, _, _, _, q⟩
    exact q
theorem okOc {G : Glb} {x qual q : Str} {params : Arguments} {body : List Stmt} {scope : Scope} {f : Addr} {N ps : List Str} {k : Nat} {A : OT → List D → OT → BR → Prop} (F : FunD G.K x qual params body scope [] [] f (fdOf G.K f)) (t : HasTab G f q) (S : FnScope N ps scope)
    (hA : ∀ t xs t' r, A t xs t' r → xs.length + 1 = ps.length)
    (hb : ∀ (c P : Addr), Tbl G c P q → ∀ (Ar : Around) (outer : List Env) (s : Shared) (H : Hp) (E : XK), Room k (Ar.deeper (envOfC qual scope s.heap.objs.size f (.ref c))) → ∀ p t xs t' r, A t xs t' r →
      DSs (cxOf CX0 G.P G.w G.K G.mg G.base N qual scope f (.ref c) Ar outer s H E).nox G.T W0 false body (.ot (some p) t :: startD (N.length - 1) xs) (envO p t' r)) :
    FnOk G.P G.w G.K G.mg G.base CX0 (k + 1) f (fdOf G.K f) ps (spO G A) := by
  obtain ⟨c, P, hc, tb⟩ := t
  have gen : ∀ fd : FuncData, FunD G.K x qual params body scope [] [] f fd → fd.code = .ref c → FnOk G.P G.w G.K G.mg G.base CX0 (k + 1) f fd ps (spO G A) := fun fd F hc => by
    obtain ⟨oc, od, dV, kV, doc, pm, an, cdv, ct, osl, rfl, lk, hcd, _, _⟩ := F.ex
    obtain rfl : cdv = .ref c := hc
    refine fn_of lk hcd S (fun vs H Q E ⟨I, H0, p, us, B0, xs, t, t', r, e, _, _, rs, _, _, hAx, _⟩ => by rw [e, List.length_cons, rs.len]; exact hA t xs t' r hAx) fun Ar outer s H vs Q E hr ⟨I, H0, p, us, B0, xs, t, t', r, e, st, tb2, rs, ro, h0, hAx, k⟩ => ?_
    subst e
    have h := hb c P tb Ar outer s H E hr p t xs t' r hAx
    have hl : xs.length + 1 ≤ N.length := by
      have e1 := S.pre
      have e2 := hA t xs t' r hAx
      rw [e2, ← e1, List.length_take]
      exact Nat.min_le_right _ _
    refine ⟨_, PSs.nox h, I, H0, I, by rw [start_cons]; exact env_startO st tb2 rs ro h0 (by omega), ?_, ?_, ?_, ?_, ?_⟩
    · rintro σ' H' ⟨ds', I', e', p', q, er⟩
      obtain ⟨v, B, _, r2, hB, hv⟩ := e'.ot q
      rw [hv p rfl] at r2
      exact k .non I' H' B e'.st r2 hB (by rw [er]; exact Rep.non)
    · rintro v H' s ⟨I', st', hv⟩ es
      cases es
      obtain ⟨B, ⟨r1, r2⟩, hB⟩ := hv
      exact k v I' H' B st' r1 hB r2
    · rintro _ _ ⟨_, _, _, _, q⟩
      exact q
    · rintro _ _ ⟨_, _, _, _, q⟩
      exact q
    · rintro _ _ _ _ _ ⟨_, _, _, _, _, q⟩
      exact q
  exact gen _ F hc
/-! ### coming back -/
theorem get_put : ∀ {π : Pth} {T w u : OT}, T.get π = some w → (T.put π u).get π = some u
  | [], _, _, _, _ => rfl
  | k :: π, T, w, u, h => by
    rw [OT.get] at h
    cases q : T.kid k with
    | none => rw [q] at h; cases h
    | some x =>
      rw [q] at h
      have ih := get_put (u := u) h
      rw [OT.put, q]
      show (match (T.setKid k (x.put π u)).kid k with | some u => u.get π | none => none) = _
      have : (T.setKid k (x.put π u)).kid k = some (x.put π u) := by
        have fk : ∀ {xs : List (Str × OT)} {k : Nat}, (xs[k]?).map (·.2) = some x → ((setFk xs k (x.put π u))[k]?).map (·.2) = some (x.put π u) := fun {xs} => by
          induction xs with
          | nil => intro k h; simp at h
          | cons p xs ih =>
            intro k h
            obtain ⟨y, t⟩ := p
            cases k with
            | zero => rfl
            | succ k => exact ih (k := k) (by simpa using h)
        cases T with
        | lst xs =>
          have h2 : xs[k]? = some x := q
          show (xs.set k _)[k]? = _
          exact List.getElem?_set_self (List.getElem?_eq_some_iff.mp h2).1
        | tup xs =>
          have h2 : xs[k]? = some x := q
          show (xs.set k _)[k]? = _
          exact List.getElem?_set_self (List.getElem?_eq_some_iff.mp h2).1
        | dic xs => exact fk q
        | ins C xs => exact fk q
        | im d => cases q
        | hole a => cases q
      rw [this]
      exact ih
section
variable {X : Cx} {T : List NdefX.NTab} {W : WX} {U : Bool} {ds : List DS} {s : DS} {E : DEn} {e : Expr} {pos : Pos}
theorem ds_retB {p : Addr} {t' : OT} {d : D} (he : DE X T U e ds d) (h : ds[0]? = some (.ot (some p) t')) (k : E.rt (.gh (bothG p t' (.dat d)))) : DSt X T W U (.Return (some e) pos) ds E :=
  (ps_ret he).weak fun D σ H ⟨I0, H0, I, en, _, k2, _⟩ => ⟨I0, H0, I, en, fun v I1 H1 s1 r1 => by
    obtain ⟨w, A, _, r, hA, hq⟩ := en.ot h
    obtain rfl := hq p rfl
    exact k2 v H1 (.gh (bothG p t' (.dat d))) ⟨I1, en.st.trans s1, A, ⟨r.frame s1.isub fun a ha => s1.ownKeep (r.there a ha), r1⟩, hA⟩ k⟩
/-- a part of the tree comes back -/
theorem ds_retP {p : Addr} {t' u : OT} {π : Pth} (he : DPl X T U e ds 0 π) (h : ds[0]? = some (.ot (some p) t')) (hg : t'.get π = some u) (k : E.rt (.gh (bothG p t' (.al π)))) : DSt X T W U (.Return (some e) pos) ds E :=
  (ps_ret he).weak fun D σ H ⟨I0, H0, I, en, _, k2, _⟩ => ⟨I0, H0, I, en, fun v w I1 H1 s1 e1 h1 => by
    obtain ⟨w', A, f1, r, hA, hq⟩ := en.ot h
    obtain rfl := hq p rfl
    rw [e1] at f1
    cases f1
    exact k2 w H1 (.gh (bothG p t' (.al π))) ⟨I1, en.st.trans s1, A, ⟨r.frame s1.isub fun a ha => s1.ownKeep (r.there a ha), ⟨u, hg⟩, h1⟩, hA⟩ k⟩
/-- a part of the tree that was taken out comes back -/
theorem ds_retH (i : Nat) {x : Str} {p w : Addr} {t' u : OT} (π : Pth) (hi : i ≠ 0) (h : ds[0]? = some (.ot (some p) t')) (hh : ds[i]? = some (.ot (some w) u)) (hg : t'.get π = some (.hole w)) (k : E.rt (.gh (bothG p (t'.put π u) (.al π)))) (hN : X.N[i]? = some x := by rfl) (hv : Vis X.env.scope x := by first | exact Or.inl rfl | exact Or.inr (Or.inl rfl) | exact Or.inr (Or.inr rfl))
    (hd : (x == ("__debug__" : Str)) = false := by decide) (hcd : (x == ("__classdict__" : Str)) = false := by decide) {px : Pos} : DSt X T W U (.Return (some (.Name x px)) pos) ds E :=
  (ps_ret (pe_var hN hv hd hcd)).weak fun D σ H ⟨I0, H0, I, en, _, k2, _⟩ => by
    obtain ⟨v1, A1, f1, r1, hA1, hq1⟩ := en.ot h
    obtain rfl := hq1 p rfl
    obtain ⟨v, A, e1, r, hA, hq⟩ := en.ot hh
    obtain rfl := hq w rfl
    refine ⟨_, e1, ?_⟩
    have en2 := en.fill hi hh h hg
    have l0 : 0 < (ds.set i (.ot (some w) (.hole w))).length := by
      rw [List.length_set]
      exact (List.getElem?_eq_some_iff.mp h).1
    obtain ⟨v2, A2, f2, r2, hA2, hq2⟩ := en2.ot (List.getElem?_set_self l0)
    obtain rfl := hq2 p rfl
    obtain ⟨wv, B, b1, b2, _, _⟩ := or_lens r1 hg
    cases b2
    have hgp := get_put (u := u) hg
    obtain ⟨wv2, B2, c1, c2, c3, _⟩ := or_lens r2 hgp
    exact k2 _ H (.gh (bothG p (t'.put π u) (.al π))) ⟨I, en.st, A2, ⟨r2, ⟨u, hgp⟩, b1⟩, hA2⟩ k
end
end Lp

/-! Calls that are lent a tree of one's own. -/
namespace Lp
open PySem PySem.Spec PyProof.Rows L2
def cutA (A : List Addr) (H : Hp) : Hp := fun a => if a ∈ A then none else H a
theorem cutA_out {A : List Addr} {H : Hp} {a : Addr} (h : a ∉ A) : cutA A H a = H a := if_neg h
theorem cutA_in {A : List Addr} {H : Hp} {a : Addr} (h : a ∈ A) : cutA A H a = none := if_pos h
theorem cutA_some {A : List Addr} {H : Hp} {a : Addr} {u : HO} (h : cutA A H a = some u) : H a = some u ∧ a ∉ A := by
  by_cases z : a ∈ A
  · rw [cutA_in z] at h
    cases h
  · rw [cutA_out z] at h
    exact ⟨h, z⟩
theorem tabs_of {T : List NdefX.NTab} {H H' : Hp} (s : ∀ a u, H a = some u → ((∃ ps, u = HO.tbl ps) ∨ ∃ φ, u = HO.ext φ) → H' a = some u) (h : NdefX.TabsN T H) : NdefX.TabsN T H' := fun t ht => by
  obtain ⟨ps, h1, h2, h3⟩ := h t ht
  refine ⟨ps, s _ _ h1 (.inl ⟨_, rfl⟩), h2, fun pos cv hc => ?_⟩
  obtain ⟨c, e1, e2⟩ := h3 pos cv hc
  exact ⟨c, e1, s _ _ e2 (.inr ⟨_, rfl⟩)⟩
section
variable {G : Glb} {U : Bool} {I0 H0 I H I1 H1 : Hp} {A : List Addr}
theorem own_not {a : Addr} {u : HO} (h : OwnO I H a) (e : H a = some u) : ¬ ((∃ ps, u = HO.tbl ps) ∨ ∃ φ, u = HO.ext φ) := by
  obtain ⟨_, w, e2, n1, n2⟩ := h
  rw [e] at e2
  cases e2
  rintro (⟨ps, z⟩ | ⟨φ, z⟩)
  · exact n1 ps z
  · exact n2 φ z
theorem tabs_cut {T : List NdefX.NTab} (own : ∀ a ∈ A, OwnO I H a) (h : NdefX.TabsN T H) : NdefX.TabsN T (cutA A H) :=
  tabs_of (fun a u e z => by
    rw [cutA_out fun ha => own_not (own a ha) e z]
    exact e) h
theorem Step.uncut (r : RdS I H) : Step G I (cutA A H) I H :=
  ⟨Same.refl I, r, (fun _ _ h _ _ => (cutA_some h).1), (fun a n => by
    cases e : cutA A H a with
    | none => exact absurd e n
    | some u => rw [(cutA_some e).1]; exact fun z => nomatch z), (fun _ _ h _ _ _ => h), tabs_of fun _ _ h _ => (cutA_some h).1⟩
theorem Step.cut (s : Step G I0 H0 I H) (h0 : ∀ a ∈ A, H0 a = none) (own : ∀ a ∈ A, OwnO I H a) : Step G I0 H0 I (cutA A H) := by
  have out : ∀ {a : Addr}, H0 a ≠ none → a ∉ A := fun {a} n z => n (h0 a z)
  have oi : ∀ {a : Addr} {u : HO}, I a = some u → a ∉ A := fun {a u} e z => by
    rw [(own a z).1] at e
    cases e
  refine ⟨s.isub, fun a u e => ?_, fun a o h n c => ?_, fun a n => ?_, s.fresh, fun t => tabs_cut own (s.tabs t)⟩
  · rw [cutA_out (oi e)]
    exact s.sub a u e
  · rw [cutA_out (out (by rw [h]; exact fun z => nomatch z))]
    exact s.keep a o h n c
  · rw [cutA_out (out n)]
    exact s.keepN a n
variable {σ : L2.St} {ds : List DS}
theorem EnvR.put2 {I' H' : Hp} (e : EnvR G U I0 H0 I H σ ds) {F : Nat → Addr → Prop} (f : Foot G H0 I H σ ds F) (st : Step G I0 H0 I' H') (tb : NdefX.TabsN G.T H') (i : Nat) (o : Option V) (d : DS) (S : Addr → Prop)
    (kN : ∀ j, j ≠ i → ∀ a, F j a → H' a ≠ none) (far : ∀ j, j ≠ i → ∀ a, F j a → OwnO I H a → I' a = none ∧ H' a = H a) (sm : Same I I')
    (new : ∀ a, S a → H' a ≠ none ∧ (H a = none ∨ F i a)) (hs : SlotR G H0 I' H' o S d) : EnvR G U I0 H0 I' H' (σ.set i o) (ds.set i d) := by
  refine ⟨st, tb, by rw [List.length_set, List.length_set]; exact e.len, fun j a => if j = i then S a else F j a, fun j ov s h1 h2 => ?_, fun j k a h1 h2 => ?_, fun j a h => ?_⟩
  · by_cases hj : j = i
    · subst hj
      have l1 : j < ds.length := by
        have := (List.getElem?_eq_some_iff.mp h2).1
        rwa [List.length_set] at this
      rw [List.getElem?_set_self (by rw [e.len]; exact l1)] at h1
      rw [List.getElem?_set_self l1] at h2
      cases h1
      cases h2
      exact hs.more fun a ha => by rw [if_pos rfl]; exact ha
    · rw [List.getElem?_set_ne (Ne.symm hj)] at h1 h2
      exact ((f.sl j ov s h1 h2).away sm fun a ha => far j hj a ha).more fun a ha => by rw [if_neg hj]; exact ha
  · have two : ∀ j k, (if j = i then S a else F j a) → (if k = i then S a else F k a) → j = i → k ≠ i → False := fun j k h1 h2 hj hk => by
      rw [if_pos hj] at h1
      rw [if_neg hk] at h2
      rcases (new a h1).2 with z | z
      · exact f.th k a h2 z
      · exact hk (f.dj k i a h2 z)
    by_cases hj : j = i
    · by_cases hk : k = i
      · rw [hj, hk]
      · exact (two j k h1 h2 hj hk).elim
    · by_cases hk : k = i
      · exact (two k j h2 h1 hk hj).elim
      · rw [if_neg hj] at h1
        rw [if_neg hk] at h2
        exact f.dj j k a h1 h2
  · by_cases hj : j = i
    · rw [if_pos hj] at h
      exact (new a h).1
    · rw [if_neg hj] at h
      exact kN j hj a h
/-- the tree at slot i is lent -/
theorem EnvR.lend (en : EnvR G U I0 H0 I H σ ds) {i : Nat} {q : Option Addr} {t : OT} {p : Addr} (h : ds[i]? = some (.ot q t)) (e0 : σ[i]? = some (some (.ref p))) (s : Step G I H I1 H1) :
    ∃ B0, Step G I1 (cutA B0 H1) I1 H1 ∧ OR G I1 H1 (.ref p) t B0 ∧ ∀ I' H' t' B, Step G I1 (cutA B0 H1) I' H' → OR G I' H' (.ref p) t' B → (∀ a ∈ B, cutA B0 H1 a = none) → EnvR G U I0 H0 I' H' σ (ds.set i (.ot q t')) ∧ Pres I H I' H' := by
  obtain ⟨F, ft⟩ := en.fp
  have li : i < σ.length := by rw [en.len]; exact (List.getElem?_eq_some_iff.mp h).1
  obtain ⟨v, A, e1, r, hA, hq⟩ := ft.sl i _ _ (List.getElem?_eq_getElem li) h
  have ev : v = .ref p := by
    rw [List.getElem?_eq_getElem li, e1] at e0
    exact Option.some.inj (Option.some.inj e0)
  subst ev
  have hk : ∀ a ∈ A, I1 a = none ∧ H1 a = H a := fun a ha => s.ownKeep (r.there a ha)
  have r1 := r.frame s.isub hk
  have own1 := r1.there
  refine ⟨A, Step.uncut s.sub, r1, fun I' H' t' B s2 r2 hB => ⟨?_, ?_⟩⟩
  · have notA : ∀ j, j ≠ i → ∀ a, F j a → a ∉ A := fun j hj a ha z => hj (ft.dj j i a ha (hA a z).2)
    have hcut : Step G I0 H0 I1 (cutA A H1) := (en.st.trans s).cut (fun a ha => (hA a ha).1) own1
    have hnB : ∀ a ∈ B, H a = none ∨ a ∈ A := fun a ha => by
      by_cases z : a ∈ A
      · exact .inr z
      · have y := hB a ha
        rw [cutA_out z] at y
        exact .inl (s.free y)
    have z := en.put2 ft (hcut.trans s2) (s2.tabs (tabs_cut own1 (s.tabs en.tb))) i (some (.ref p)) (.ot q t') (fun a => a ∈ B) (fun j hj a ha => by
      refine s2.keepN a ?_
      rw [cutA_out (notA j hj a ha)]
      exact s.keepN a (ft.th j a ha)) (fun j hj a ha ho => by
      obtain ⟨y1, y2⟩ := s.ownKeep ho
      obtain ⟨_, u, e2, n1, n2⟩ := ho
      have oc : OwnO I1 (cutA A H1) a := ⟨y1, u, by rw [cutA_out (notA j hj a ha), y2]; exact e2, n1, n2⟩
      obtain ⟨w1, w2⟩ := s2.ownKeep oc
      exact ⟨w1, by rw [w2, cutA_out (notA j hj a ha)]; exact y2⟩) (s.isub.trans s2.isub) (fun a ha => ⟨(by
        obtain ⟨_, u, z, _⟩ := r2.there a ha
        rw [z]
        exact fun q => nomatch q), (hnB a ha).imp id fun z => (hA a z).2⟩) ⟨.ref p, B, rfl, r2, fun a ha => ⟨(hnB a ha).elim (fun z => en.st.free z) fun z => (hA a z).1, ha⟩, hq⟩
    rwa [show σ.set i (some (.ref p)) = σ from by
      obtain ⟨hl, he⟩ := List.getElem?_eq_some_iff.mp e0
      rw [← he, List.set_getElem_self]] at z
  · refine ⟨s.isub.trans s2.isub, fun a o u e => ?_⟩
    have e2 := s.pres.frz a o u e
    have na : a ∉ A := fun z => r1.noFrz a z o u e2
    exact s2.pres.frz a o u (by rw [cutA_out na]; exact e2)
/-- a part of slot i's tree is taken to slot j -/
theorem EnvR.takeAt (en : EnvR G U I0 H0 I H σ ds) {i j : Nat} {q : Option Addr} {T' t : OT} {π : Pth} {v w : V} (hij : j ≠ i) (hj : j < ds.length) (h : ds[i]? = some (.ot q T')) (hg : T'.get π = some t) (hp : t.ptr = true) (e0 : σ[i]? = some (some v)) (ha : AtV H v π w) :
    ∃ p, w = .ref p ∧ EnvR G U I0 H0 I H (σ.set j (some (.ref p))) ((ds.set i (.ot q (T'.put π (.hole p)))).set j (.ot (some p) t)) := by
  obtain ⟨F, ft⟩ := en.fp
  have hi : i < ds.length := (List.getElem?_eq_some_iff.mp h).1
  have li : i < σ.length := by rw [en.len]; exact hi
  obtain ⟨v', A, e1, r, hA, hq⟩ := ft.sl i _ _ (List.getElem?_eq_getElem li) h
  have ev : v' = v := by
    rw [List.getElem?_eq_getElem li, e1] at e0
    exact Option.some.inj (Option.some.inj e0)
  subst ev
  obtain ⟨w', B, b1, b2, b3, b4⟩ := or_lens r hg
  obtain rfl := atv_fun b1 ha
  obtain ⟨p, rfl⟩ := b2.ref hp
  obtain ⟨A', d1, d2⟩ := b4 I H (.hole p) [] (Same.refl _) (fun a ha _ => ⟨(r.there a ha).1, rfl⟩) (.hole p) (fun a ha => absurd ha (by simp))
  have hA' : ∀ a ∈ A', a ∈ A ∧ a ∉ B := fun a ha => (d2 a ha).elim (fun z => absurd z (by simp)) id
  refine ⟨p, rfl, en.split ft hij hj hi e0 (fun a => a ∈ A') (fun a => a ∈ B) (fun a ha => ⟨(hA a (hA' a ha).1).2, (hA' a ha).2⟩) (fun a ha => (hA a (b3 a ha)).2) ⟨v', A', rfl, d1, fun a ha => ⟨(hA a (hA' a ha).1).1, ha⟩, hq⟩ ⟨_, B, rfl, b2, fun a ha => ⟨(hA a (b3 a ha)).1, ha⟩, fun q z => by cases z; rfl⟩⟩
end
/-! ### expressions that change what they are lent -/
def mV (G : Glb) (U : Bool) (ds : List DS) (d : D) (ds' : List DS) : TE := fun σ H Q => ∃ I0 H0 I, EnvR G U I0 H0 I H σ ds ∧ ∀ v I' H', EnvR G U I0 H0 I' H' σ ds' → Pres I H I' H' → Rep G I' v d → Q v H'
abbrev DM (X : Cx) (T : List NdefX.NTab) (U : Bool) (e : Expr) (ds : List DS) (d : D) (ds' : List DS) : Prop := PE X e (mV (gx X T) U ds d ds')
def mtV (G : Glb) (U : Bool) (ds : List DS) (b : Bool) (ds' : List DS) : TT := fun σ H Q => ∃ I0 H0 I, EnvR G U I0 H0 I H σ ds ∧ ∀ I' H', EnvR G U I0 H0 I' H' σ ds' → Pres I H I' H' → Q b H'
abbrev DMT (X : Cx) (T : List NdefX.NTab) (U : Bool) (e : Expr) (ds : List DS) (b : Bool) (ds' : List DS) : Prop := PT X e (mtV (gx X T) U ds b ds')
/-- a method that is lent the instance -/
structure MethO (G : Glb) (k : Nat) (c m : Str) (ps : List Str) (A : OT → List D → OT → BR → Prop) : Prop where
  cls : Cls G.K (He.ga G.K c)
  mth : Meth G.K (He.ga G.K c) m (He.ma G.K (He.ga G.K c) m)
  ok : FnOk G.P G.w G.K G.mg G.base CX0 k (He.ma G.K (He.ga G.K c) m) (fdOf G.K (He.ma G.K (He.ga G.K c) m)) ps (spO G A)
  n : L2.Binds G.K (fdOf G.K (He.ma G.K (He.ga G.K c) m)) ps []
/-- a def that is lent its first thing -/
structure CallO (G : Glb) (k : Nat) (x : Str) (ps : List Str) (A : OT → List D → OT → BR → Prop) : Prop where
  ok : FnOk G.P G.w G.K G.mg G.base CX0 k (He.ga G.K x) (fdOf G.K (He.ga G.K x)) ps (spO G A)
  g : G.mg x = some (.ref (He.ga G.K x))
  n : L2.Binds G.K (fdOf G.K (He.ga G.K x)) ps []
  kp : PySem.W.keepIn G.K (.ref (He.ga G.K x)) = true
theorem look_noO {G : Glb} {I H : Hp} {m : Str} : ∀ {vs : List (Str × V)} {ts : List (Str × OT)} {A : List Addr}, ORF G I H vs ts A → ts.lookup m = none → vs.lookup m = none
  | _, _, _, .nil, _ => rfl
  | _, _, _, .cons (x := x) (vs := vs) (ts := ts) a b _, h => by
    rw [List.lookup_cons] at h ⊢
    cases e : m == x with
    | true => rw [e] at h; cases h
    | false =>
      rw [e] at h
      exact look_noO b h
section
variable {X : Cx} {T : List NdefX.NTab} {W : WX} {U : Bool} {ds ds' : List DS} {s : DS} {E : DEn} {e a : Expr} {es : List Expr} {pos apos : Pos} {c m : Str} {ps : List Str} {A : OT → List D → OT → BR → Prop} {k j : Nat} {xs : List D} {d : D} {b : Bool}
theorem dm_meth (i : Nat) {x : Str} {p1 : Pos} {q : Option Addr} {ts : List (Str × OT)} {t' : OT} (C : MethO (gx X T) k c m ps A) (hr : Room j X.A) (h : ds[i]? = some (.ot q (.ins c ts))) (ha : DA X T U (e :: es) ds xs) (hA : A (.ins c ts) xs t' (.dat d)) (hl : ts.lookup m = none := by rfl) (hk : k ≤ j := by decide) (hN : X.N[i]? = some x := by rfl) (hv : Vis X.env.scope x := by first | exact Or.inl rfl | exact Or.inr (Or.inl rfl) | exact Or.inr (Or.inr rfl))
    (hd : (x == ("__debug__" : Str)) = false := by decide) (hcd : (x == ("__classdict__" : Str)) = false := by decide) {pl : Sem Bool}
    (hst : starEach (e :: es) X.env = (false, eval e X.env) :: starEach es X.env := by rfl) (hpl : (backTo pos (starEach es X.env)).any (·.1) = false := by rfl)
    (ht : eval (.Call (.Attribute (.Name x p1) m apos) (e :: es) [] pos) X.env = (do
      let ov ← eval (.Name x p1) X.env
      standAt apos.atName
      let (f, first) ← holding [ov] (getMethod ov m pl)
      callWith pos f first (backTo pos (starEach (e :: es) X.env)) (backToKw pos (keywordEach [] X.env))) := by rfl) : DM X T U (.Call (.Attribute (.Name x p1) m apos) (e :: es) [] pos) ds d (ds.set i (.ot q t')) :=
  (pe_meth (pl := pl) (pe_var hN hv hd hcd) C.cls C.mth C.ok (hr.mono hk) C.n .nil (E := E0) pass0 ha hst hpl ht).weak fun σ H Q ⟨I0, H0, I, en, kk⟩ => by
    obtain ⟨v, B, e1, r, _⟩ := en.ot h
    cases r with
    | @ins p dx _ fs _ B a1 a2 a3 a4 =>
    refine ⟨_, e1, p, dx, fs, rfl, a1, look_noO a4 hl, I0, H0, I, en, fun vs I2 H2 s2 r2 => ?_⟩
    show spO (gx X T) A (.ref p :: (vs ++ [])) H2 Q E0
    rw [List.append_nil]
    obtain ⟨B0, l1, l2, l3⟩ := en.lend h e1 s2
    exact ⟨I2, cutA B0 H2, p, vs, B0, xs, _, t', .dat d, rfl, l1, s2.tabs en.tb, r2, l2, fun a ha => cutA_in ha, hA, fun v I' H' B s3 r3 h3 rr => by
      obtain ⟨z1, z2⟩ := l3 I' H' t' B s3 r3 h3
      exact kk v I' H' z1 z2 rr⟩
theorem dm_meth0 (i : Nat) {x : Str} {p1 : Pos} {q : Option Addr} {ts : List (Str × OT)} {t' : OT} (C : MethO (gx X T) k c m ps A) (hr : Room j X.A) (h : ds[i]? = some (.ot q (.ins c ts))) (hA : A (.ins c ts) [] t' (.dat d)) (hl : ts.lookup m = none := by rfl) (hk : k ≤ j := by decide) (hN : X.N[i]? = some x := by rfl) (hv : Vis X.env.scope x := by first | exact Or.inl rfl | exact Or.inr (Or.inl rfl) | exact Or.inr (Or.inr rfl))
    (hd : (x == ("__debug__" : Str)) = false := by decide) (hcd : (x == ("__classdict__" : Str)) = false := by decide) {pl : Sem Bool}
    (ht : eval (.Call (.Attribute (.Name x p1) m apos) [] [] pos) X.env = (do
      let ov ← eval (.Name x p1) X.env
      standAt apos.atName
      let (f, first) ← holding [ov] (getMethod ov m pl)
      callWith pos f first (backTo pos (starEach [] X.env)) (backToKw pos (keywordEach [] X.env))) := by rfl) : DM X T U (.Call (.Attribute (.Name x p1) m apos) [] [] pos) ds d (ds.set i (.ot q t')) :=
  (pe_meth0 (pl := pl) (pe_var hN hv hd hcd) C.cls C.mth C.ok (hr.mono hk) C.n .nil (E := E0) pass0 ht).weak fun σ H Q ⟨I0, H0, I, en, kk⟩ => by
    obtain ⟨v, B, e1, r, _⟩ := en.ot h
    cases r with
    | @ins p dx _ fs _ B a1 a2 a3 a4 =>
    refine ⟨_, e1, p, dx, fs, rfl, a1, look_noO a4 hl, ?_⟩
    show spO (gx X T) A [.ref p] H Q E0
    obtain ⟨B0, l1, l2, l3⟩ := en.lend h e1 (Step.refl en.sub)
    exact ⟨I, cutA B0 H, p, [], B0, [], _, t', .dat d, rfl, l1, en.tb, .nil, l2, fun a ha => cutA_in ha, hA, fun v I' H' B s3 r3 h3 rr => by
      obtain ⟨z1, z2⟩ := l3 I' H' t' B s3 r3 h3
      exact kk v I' H' z1 z2 rr⟩
theorem dm_c (i : Nat) {f x : Str} {p p1 : Pos} {q : Option Addr} {t t' : OT} (C : CallO (gx X T) k f ps A) (hr : Room j X.A) (h : ds[i]? = some (.ot q t)) (hp : t.ptr = true) (ha : DA X T U es ds xs) (hA : A t xs t' (.dat d)) (hk : k ≤ j := by decide) (hN : X.N[i]? = some x := by rfl) (hv : Vis X.env.scope x := by first | exact Or.inl rfl | exact Or.inr (Or.inl rfl) | exact Or.inr (Or.inr rfl))
    (hd : (x == ("__debug__" : Str)) = false := by decide) (hcd : (x == ("__classdict__" : Str)) = false := by decide) (hg : Gl X f := by rfl) (hdb : (f == ("__debug__" : Str)) = false := by decide) (he : starEach (.Name x p1 :: es) X.env = (false, eval (.Name x p1) X.env) :: starEach es X.env := by rfl)
    (hpl : (backTo pos (starEach es X.env)).any (·.1) = false := by rfl) : DM X T U (.Call (.Name f p) (.Name x p1 :: es) [] pos) ds d (ds.set i (.ot q t')) :=
  (pe_call C.ok (hr.mono hk) hg C.g C.kp C.n .nil (E := E0) pass0 (pa_cons (pe_var hN hv hd hcd) ha he) hdb he hpl).weak fun σ H Q ⟨I0, H0, I, en, kk⟩ => by
    obtain ⟨v, B, e1, r, _⟩ := en.ot h
    obtain ⟨p, rfl⟩ := r.ref hp
    refine ⟨_, e1, I0, H0, I, en, fun vs I2 H2 s2 r2 => ?_⟩
    show spO (gx X T) A (.ref p :: vs ++ []) H2 Q E0
    rw [List.append_nil]
    obtain ⟨B0, l1, l2, l3⟩ := en.lend h e1 s2
    exact ⟨I2, cutA B0 H2, p, vs, B0, xs, _, t', .dat d, rfl, l1, s2.tabs en.tb, r2, l2, fun a ha => cutA_in ha, hA, fun v I' H' B s3 r3 h3 rr => by
      obtain ⟨z1, z2⟩ := l3 I' H' t' B s3 r3 h3
      exact kk v I' H' z1 z2 rr⟩
theorem dm_tr (h : DM X T U a ds (.bl b) ds') (he : ∀ whole, isTrue a X.env whole = (do let v ← whole; standAt a.pos; holding [v] (truthy v)) := by intro _; rfl) : DMT X T U a ds b ds' :=
  (pt_val h he).weak fun σ H Q ⟨I0, H0, I, en, k⟩ => ⟨I0, H0, I, en, fun v I' H' e' ps r => by
    cases r
    exact ⟨b, rfl, k I' H' e' ps⟩⟩
theorem dm_not (h : DMT X T U a ds b ds') : DMT X T U (.UnaryOp .Not a pos) ds (!b) ds' := (pt_not h).weak fun σ H Q ⟨I0, H0, I, en, k⟩ => ⟨I0, H0, I, en, fun I' H' e' ps => k I' H' e' ps⟩
theorem ds_exprM (he : DM X T U e ds d ds') (k : E.nx ds') (hs : swapsWith e none pos.line X.env = pure false := by rfl) : DSt X T W U (.Expr e pos) ds E :=
  (ps_expr he hs).weak fun D σ H ⟨I0, H0, I, en, k1, _⟩ => ⟨I0, H0, I, en, fun v I1 H1 e' ps r1 => k1 _ H1 ⟨_, I1, e', ps, k⟩⟩
theorem ds_setM (i : Nat) {x : Str} {pos' : Pos} (he : DM X T U e ds d ds') (k : E.nx (ds'.set i (.im d))) (hN : X.N.Nodup) (hi : X.N[i]? = some x := by rfl) (hx : Loc X.env.scope x := by first | exact Or.inl rfl | exact Or.inr rfl)
    (hs : swapsWith e (some (.Name x pos')) pos.line X.env = pure false := by rfl) (hf : X.fn x = true ∨ X.env.scope.names.lookup x = some .local := by first | exact .inl rfl | exact .inr rfl | assumption) : DSt X T W U (.Assign [.Name x pos'] e pos) ds E :=
  (ps_set hN hi hx he hs hf).weak fun D σ H ⟨I0, H0, I, en, k1, _⟩ => ⟨I0, H0, I, en, fun v I1 H1 e' ps r1 => k1 _ H1 ⟨_, I1, e'.setIm i r1, ps, k⟩⟩
theorem ds_ifM {c : Expr} {a b : List Stmt} {x : Bool} (h : DMT X T U c ds x ds') (h1 : x = true → DSs X T W U a ds' E) (h2 : x = false → DSs X T W U b ds' E) : DSt X T W U (.If c a b pos) ds E := by
  cases x with
  | true =>
    refine (ps_if h (h1 rfl) pss_never).weak fun D σ H ⟨I0, H0, I, e, k1, k2, k3, k4, k5⟩ => ⟨I0, H0, I, e, fun I' H' e' ps => ?_⟩
    exact sV_from (ds := ds) (σ := σ) ps e' k1 k2 k3 k4 k5
  | false =>
    refine (ps_if h pss_never (h2 rfl)).weak fun D σ H ⟨I0, H0, I, e, k1, k2, k3, k4, k5⟩ => ⟨I0, H0, I, e, fun I' H' e' ps => ?_⟩
    exact sV_from (ds := ds) (σ := σ) ps e' k1 k2 k3 k4 k5
/-- x = y.m(..), which tells a part of y: it is taken out -/
theorem ds_setA (i l : Nat) {x y : Str} {p1 pos' : Pos} {q : Option Addr} {ts : List (Str × OT)} {t' u : OT} {π : Pth} (C : MethO (gx X T) k c m ps A) (hr : Room j X.A) (h : ds[i]? = some (.ot q (.ins c ts))) (hil : l ≠ i) (hll : l < ds.length) (ha : DA X T U (e :: es) ds xs) (hA : A (.ins c ts) xs t' (.al π)) (hu : t'.get π = some u) (hp : u.ptr = true)
    (kk : ∀ w, E.nx ((ds.set i (.ot q (t'.put π (.hole w)))).set l (.ot (some w) u))) (hNd : X.N.Nodup) (hl : ts.lookup m = none := by rfl) (hk : k ≤ j := by decide) (hN : X.N[i]? = some x := by rfl) (hv : Vis X.env.scope x := by first | exact Or.inl rfl | exact Or.inr (Or.inl rfl) | exact Or.inr (Or.inr rfl))
    (hd : (x == ("__debug__" : Str)) = false := by decide) (hcd : (x == ("__classdict__" : Str)) = false := by decide) {pl : Sem Bool}
    (hNl : X.N[l]? = some y := by rfl) (hx : Loc X.env.scope y := by first | exact Or.inl rfl | exact Or.inr rfl) (hs : swapsWith (.Call (.Attribute (.Name x p1) m apos) (e :: es) [] pos') (some (.Name y pos)) pos.line X.env = pure false := by rfl) (hf : X.fn y = true ∨ X.env.scope.names.lookup y = some .local := by first | exact .inl rfl | exact .inr rfl | assumption)
    (hst : starEach (e :: es) X.env = (false, eval e X.env) :: starEach es X.env := by rfl) (hpl : (backTo pos' (starEach es X.env)).any (·.1) = false := by rfl)
    (ht : eval (.Call (.Attribute (.Name x p1) m apos) (e :: es) [] pos') X.env = (do
      let ov ← eval (.Name x p1) X.env
      standAt apos.atName
      let (f, first) ← holding [ov] (getMethod ov m pl)
      callWith pos' f first (backTo pos' (starEach (e :: es) X.env)) (backToKw pos' (keywordEach [] X.env))) := by rfl) {spos : Pos} (hs2 : swapsWith (.Call (.Attribute (.Name x p1) m apos) (e :: es) [] pos') (some (.Name y pos)) spos.line X.env = pure false := by rfl) : DSt X T W U (.Assign [.Name y pos] (.Call (.Attribute (.Name x p1) m apos) (e :: es) [] pos') spos) ds E :=
  (ps_set hNd hNl hx (pe_meth (pl := pl) (pe_var hN hv hd hcd) C.cls C.mth C.ok (hr.mono hk) C.n .nil (E := E0) pass0 ha hst hpl ht) hs2 hf).weak fun D σ H ⟨I0, H0, I, en, k1, _⟩ => by
    obtain ⟨v, B, e1, r, _⟩ := en.ot h
    cases r with
    | @ins p dx _ fs _ B a1 a2 a3 a4 =>
    refine ⟨_, e1, p, dx, fs, rfl, a1, look_noO a4 hl, I0, H0, I, en, fun vs I2 H2 s2 r2 => ?_⟩
    show spO (gx X T) A (.ref p :: (vs ++ [])) H2 _ E0
    rw [List.append_nil]
    obtain ⟨B0, l1, l2, l3⟩ := en.lend h e1 s2
    exact ⟨I2, cutA B0 H2, p, vs, B0, xs, _, t', .al π, rfl, l1, s2.tabs en.tb, r2, l2, fun a ha => cutA_in ha, hA, fun v I' H' B s3 r3 h3 rr => by
      obtain ⟨z1, z2⟩ := l3 I' H' t' B s3 r3 h3
      have h4 : (ds.set i (.ot q t'))[i]? = some (.ot q t') := List.getElem?_set_self (List.getElem?_eq_some_iff.mp h).1
      obtain ⟨w, ew, z3⟩ := z1.takeAt hil (by rw [List.length_set]; exact hll) h4 hu hp e1 rr.2
      subst ew
      rw [List.set_set] at z3
      exact k1 _ H' ⟨_, I', z3, z2, kk w⟩⟩
end
end Lp

/-! Dicts within trees written; sorted(dict, key=f); trees of scalars looked at from outside. -/
namespace Lp
open PySem PySem.Spec PyProof.Rows L2
def dicI (kvs : List (Str × D)) : OT := .dic (kvs.map fun kv => (kv.1, .im kv.2))
theorem orf_imR {G : Glb} {I H : Hp} : ∀ {vs : List (Str × V)} {kvs : List (Str × D)} {A : List Addr}, ORF G I H vs (kvs.map fun kv => (kv.1, .im kv.2)) A → RepF G I vs kvs ∧ A = []
  | _, [], _, .nil => ⟨.nil, rfl⟩
  | _, kv :: kvs, _, .cons a b d => by
    obtain ⟨h1, h2⟩ := orf_imR (kvs := kvs) b
    cases a with
    | im r => exact ⟨.cons r h1, by rw [h2]; rfl⟩
section
variable {X : Cx} {T : List NdefX.NTab} {W : WX} {U : Bool} {ds : List DS} {s : DS} {E : DEn} {e b x : Expr} {pos pos' : Pos}
/-- place[k] = e, the place a dict of told values -/
theorem ds_dputP (i : Nat) {q : Option Addr} {T' : OT} {π : Pth} {kvs : List (Str × D)} {k : Str} {d : D} (h : ds[i]? = some (.ot q T')) (hg : T'.get π = some (dicI kvs)) (hp : DPl X T U b ds i π) (hk : DE X T U x ds (.str k)) (he : DE X T U e ds d) (hl : kvs.length < 100000) (kk : E.nx (ds.set i (.ot q (T'.put π (dicI (putD kvs k d))))))
    (hu : X.A.units + 1 < cLine) (hs : swapsWith e (some (.Subscript b x pos')) pos.line X.env = pure false := by rfl) : DSt X T W U (.Assign [.Subscript b x pos'] e pos) ds E :=
  (ps_dput hu hp hk he hs).weak fun D σ H ⟨I0, H0, I, en, k1, _⟩ => ⟨I0, H0, I, en, fun v I1 H1 s1 r1 => by
    refine ⟨I0, H0, I1, en.step s1, fun v0 w I2 H2 s2 e1 h1 => ?_⟩
    refine ⟨I0, H0, I2, (en.step s1).step s2, fun y I3 H3 s3 r3 => ?_⟩
    cases r3
    obtain ⟨v', w', B2, b1, b2, b3, bN, b4⟩ := ((en.step s1).step s2).mutP h hg s3
    rw [e1] at b1
    cases b1
    obtain ⟨c1, _⟩ := ((en.step s1).step s2).place2 h hg e1 h1 s3
    cases atv_fun b2 c1
    cases b3 with
    | @dic p fs _ B3 d1 d2 d3 d4 =>
    obtain ⟨f1, f2⟩ := orf_imR d4
    obtain ⟨fs', z1, z2⟩ := put_rep (k := k) f1 (Rep.mono (s2.isub.trans s3.isub) r1)
    refine ⟨p, _, rfl, .inl ⟨_, Sum.inr k, d1, rfl, ?_, rfl⟩, ?_⟩
    · rw [kvK, List.length_map, f1.len]
      exact Nat.lt_of_lt_of_le hl (by decide)
    rw [z1]
    obtain ⟨e2, p2⟩ := b4 p (.dK (kvK fs')) (dicI (putD kvs k d)) [p] rfl List.mem_cons_self (.dic upd_same d2 (by simp) (orf_im z2)) fun a ha => by
      rw [List.mem_singleton.mp ha]
      exact .inl List.mem_cons_self
    exact k1 _ _ ⟨_, I3, e2, (s1.pres.trans s2.pres).trans p2, kk⟩⟩
end
/-! ### sorted(dict, key=f) -/
def rSortedDF (K : PySem.W.Frag) (f : Addr) : List V → List V → Hp → VK → Prop := fun xs zs H Q => ∃ (a : Addr) (kvs : List (Key × V)) (ns : List Str), xs = [.ref a] ∧ zs = [.ref f] ∧ Rd H a (.dK kvs) ∧ kvs.map (·.1) = ns.map Sum.inr ∧ (∀ n ∈ ns, n.length ≤ 100000) ∧ ∀ p, H p = none → Q (.ref p) (upd H p (.lst ((sortN ns).map V.str)))
theorem strs_each : ∀ {us : List Value} {ns : List Str}, us.length = ns.length → (∀ (j : Nat) (v : Value), us[j]? = some v → ∃ x t, ns[j]? = some x ∧ v = Value.str x t) → PySem.W.EachIs (fun v x => ∃ t, v = Value.str x t) us ns
  | [], [], _, _ => .nil
  | u :: us, n :: ns, hl, h => by
    obtain ⟨x, t, e1, e2⟩ := h 0 u rfl
    have e1' : n = x := Option.some.inj e1
    subst e1'
    exact .cons ⟨t, e2⟩ (strs_each (by simpa using hl) fun j v e => by
      obtain ⟨x, t, a, b⟩ := h (j + 1) v (by simpa using e)
      exact ⟨x, t, by simpa using a, b⟩)
  | [], _ :: _, hl, _ => by simp at hl
  | _ :: _, [], hl, _ => by simp at hl
theorem cr_sortedDF {X : Cx} {T : List NdefX.NTab} {f : Addr} {j : Nat} (hcalm : X.calm = true) (hk : PureKey (gx X T) f rankD) (hr : Room j X.A) (hj : 3 ≤ j) : CallRK X (.builtin "sorted") [Str.ofString "key"] (rSortedDF X.K f) := by
  intro pins s σ H vs zs us ws Q I r rz h
  obtain ⟨a, kvs, ns, rfl, rfl, hd, hks, hbd, q⟩ := h
  obtain rfl := Vals.ref1 r
  obtain ⟨w1, rfl, e1⟩ := vals1 rz
  obtain rfl : w1 = Value.ref f := e1
  obtain ⟨z, lo, vs, rel, dd⟩ := dk_rd I.hok hd
  obtain ⟨ep, hat⟩ := dd.dictAt
  have hkeys : vs.map (·.1) = ns.map Sum.inr := rel.keys.symm.trans hks
  have hl : vs.length = ns.length := by
    have e := congrArg List.length hkeys
    rw [List.length_map, List.length_map] at e
    exact e
  have h16 : vs.length ≤ sizeLine := by rw [← rel.length]; exact z
  refine call_function_entry_kw PyProof.Rows.kind_sorted PyProof.Rows.plain_sorted PyProof.Rows.entry_sorted (PyProof.Rows.ksk_s1 _ _) ?_
  unfold Builtin.«sorted»
  refine wpAny_bind (m := checkCount "sorted" 1 1 _) (wpAny_pure ?_)
  refine wpAny_bind (PySem.W.kdu_collect (A := X.A.in1) (PySem.W.kdl_dict (knd := mixKind X.prog X.w) (kvs := vs) (ep := ep) lo) (I.ok.hd hcalm) hat h16 fun h' tk acc hk' hacc => ?_)
  have hal : acc.toList.length = ns.length := by rw [Array.length_toList, hacc.1, hl]
  have hS : PySem.W.EachIs (fun v x => ∃ t, v = Value.str x t) acc.toList ns := strs_each hal fun j v e => by
    obtain ⟨k, x, e1, e2⟩ := hacc.2 j v (by rw [← Array.getElem?_toList]; exact e)
    have e3 : (vs.map (·.1))[j]? = some k := by rw [List.getElem?_map, e1]; all_goals rfl
    rw [hkeys, List.getElem?_map] at e3
    cases e4 : ns[j]? with
    | none => rw [e4] at e3; cases e3
    | some y =>
      rw [e4] at e3
      have e5 : Sum.inr y = k := Option.some.inj e3
      subst e5
      obtain ⟨t, ev⟩ := Value.isStrOf_shape (x := y) (v := v) e2
      exact ⟨y, t, rfl, ev⟩
  have I1 : Inv X pins σ H { s with heap := h', toks := tk } := I.kept hk'
  have hZ : ns.length ≤ sizeLine := by rw [← hl]; exact h16
  refine wpAny_bind (wpAny_newList ?_ (by rw [hal]; exact hZ))
  have hoL : (h'.push (seqObj "list" acc.toList.toArray 0)).get? h'.objs.size = some (seqObj "list" acc.toList.toArray 0) := Heap.get?_push_size _ rfl
  show wpAny _ _ _ _ _ { s with heap := h'.push (seqObj "list" acc.toList.toArray 0), toks := tk }
  have old : ∀ {g : Heap}, PySem.W.KeepsBut h'.objs.size (h'.push (seqObj "list" acc.toList.toArray 0)) g → ∀ b o, s.heap.get? b = some o → g.get? b = some o := fun {g} kp b o e => by
    have e2 := hk' b o e
    exact kp b o (Nat.ne_of_lt (Heap.lt_size e2)) (Heap.get?_push_of_some _ e2)
  refine wpAny_bind (wpAny_holding (PySem.W.list_sort_key_data (A := X.A.in1) (b := false) (kw := [(Str.ofString "key", Value.ref f)]) (s := { s with heap := h'.push (seqObj "list" acc.toList.toArray 0), toks := tk }) rankD hoL hS (PySem.W.AllAlike.of fun _ _ => by simp [rankD, PySem.W.alike, PySem.W.alikeAll]) (PySem.W.Sortable.tuples fun _ => ⟨_, _, rfl⟩) hZ (fun p _ => ?_) (PyProof.Rows.ksk_l1 _ _) (PyProof.Rows.ksk_t1 _ _)
    (fun v x ⟨t, e⟩ hx h tk kp => ?_) fun out c h2 tk kp hD hlen eo => ?_))
  · have hd : (rankD p).depth = 1 := by simp [rankD, PyData.depth, PyData.depthAll]
    have := hr.units
    show X.A.units + 1 + 1 + (rankD p).depth < cLine
    omega
  · subst e
    have I2 : Inv X pins σ H { s with heap := h, toks := tk } := I.kept (old kp)
    have hr2 : Room 1 X.A.in1.in1 := (((hr.mono hj).in1).in1)
    exact hk.run X.A.in1.in1 X.stack _ H x t hr2 (hbd x hx) I2.env0.in1.in1
  · have hv := each_vals (ns := ns.mergeSort (PySem.W.dataLe false rankD)) eo
    have hl2 : (sortN ns).length = ns.length := List.length_mergeSort _
    refine wpAny_pure ⟨_, rfl, .ref h'.objs.size, upd H h'.objs.size (.lst ((sortN ns).map V.str)), ?_, rfl, q _ (I1.hok.fresh (Nat.le_refl _))⟩
    refine I1.laid (t' := tk) (fun b u e => kp b u (Nat.ne_of_lt (Heap.lt_size e)) (Heap.get?_push_of_some _ e)) (Nat.le_refl _) (show ObjOk X.prog X.w _ _ _ (.lst ((sortN ns).map V.str)) from ⟨?_, out, c, hv, hD⟩)
    rw [List.length_map, hl2]
    exact hZ
section
variable {X : Cx} {T : List NdefX.NTab} {U : Bool} {ds : List DS} {e : Expr} {x : Str} {p p2 pos kpos : Pos} {kvs : List (Str × D)}
/-- sorted(e, key=x), e a told dict -/
theorem dv_sortD {j : Nat} (h : DE X T U e ds (.dic kvs)) (hb : ∀ n ∈ kvs.map (·.1), n.length ≤ 100000) (hk : PureKey (gx X T) (He.ga X.K x) rankD) (hm : X.mg x = some (.ref (He.ga X.K x))) (hr : Room j X.A) (hs : X.mg "sorted" = none) (hc : X.calm = true := by rfl) (hj : 3 ≤ j := by decide) (hg : Gl X x := by rfl) (hgs : Gl X "sorted" := by rfl) (hdb : (x == ("__debug__" : Str)) = false := by decide)
    (he1 : starEach [e] X.env = [(false, eval e X.env)] := by rfl)
    (he : backTo pos (starEach [e] X.env) = (false, eval e X.env) :: backTo pos (starEach [] X.env) := by rfl) (hpl : (backTo pos (starEach [e] X.env)).any (·.1) = false := by rfl)
    (hall : (backToKw pos (keywordEach [⟨some "key", .Name x p2, kpos⟩] X.env)).all (·.1.isSome) = true := by rfl) (hnone : (backToKw pos (keywordEach [⟨some "key", .Name x p2, kpos⟩] X.env)).any (·.1.isNone) = false := by rfl) (hks : (backToKw pos (keywordEach [⟨some "key", .Name x p2, kpos⟩] X.env)).filterMap (·.1) = [Str.ofString "key"] := by rfl) :
    DV X T U (.Call (.Name "sorted" p) [e] [⟨some "key", .Name x p2, kpos⟩] pos) ds (.own ((sortN (kvs.map (·.1))).map .str)) :=
  (pe_callBK (p := p) (r := rSortedDF X.K (He.ga X.K x)) (cr_sortedDF hc hk hr hj) hgs hs rfl (da_cons h da_nil he1) (pk_cons (pe_glob (v := .ref (He.ga X.K x)) hg hm rfl hdb) pk_nil) (by decide) (by decide) he hpl hall hnone hks).weak
    fun σ H Q ⟨I0, H0, I, en, k⟩ => ⟨I0, H0, I, en, fun vs I1 H1 s1 r1 => by
      cases r1 with
      | cons a b =>
        cases b
        cases a with
        | @dic q fs _ e1 e2 =>
          refine ⟨_, _, kvs.map (·.1), rfl, rfl, s1.sub.dic e1, ?_, hb, fun q hq => k _ I1 _ (s1.trans (Step.newOwn s1.sub hq)) ⟨q, _, rfl, s1.free hq, s1.sub.free hq, upd_same, Reps.ofStrs _⟩⟩
          rw [← e2.names, kvK, List.map_map, List.map_map]
          rfl⟩
end
/-! ### trees of scalars -/
mutual
def OT.flat : OT → Bool
  | .im d => flatD d
  | .lst xs => OT.flats xs
  | .tup xs => OT.flats xs
  | .dic xs => OT.flatF xs
  | .ins _ xs => OT.flatF xs
  | .hole _ => false
def OT.flats : List OT → Bool
  | [] => true
  | t :: r => t.flat && OT.flats r
def OT.flatF : List (Str × OT) → Bool
  | [] => true
  | (_, t) :: r => t.flat && OT.flatF r
end
section
variable {G : Glb} {I2 H2 I H' : Hp}
mutual
theorem OR.unflat : ∀ {v : V} {t : OT} {A : List Addr}, OR G I2 H2 v t A → t.flat = true → (∀ a ∈ A, I a = none ∧ H' a = H2 a) → OR G I H' v t A
  | _, _, _, .im r, f, _ => by
    rw [OT.flat] at f
    cases flatD_reps (I := I2) (I' := I) (vs := [_]) (xs := [_]) (by rw [List.all_cons, f]; rfl) (.cons r .nil) with
    | cons a _ => exact .im a
  | _, _, _, .lst h i n r, f, k => .lst ((k _ List.mem_cons_self).2.trans h) (k _ List.mem_cons_self).1 n (ORs.unflat r (by rw [OT.flat] at f; exact f) fun a ha => k a (List.mem_cons_of_mem _ ha))
  | _, _, _, .tup h i n r, f, k => .tup ((k _ List.mem_cons_self).2.trans h) (k _ List.mem_cons_self).1 n (ORs.unflat r (by rw [OT.flat] at f; exact f) fun a ha => k a (List.mem_cons_of_mem _ ha))
  | _, _, _, .hole p, f, _ => by rw [OT.flat] at f; cases f
  | _, _, _, .dic h i n r, f, k => .dic ((k _ List.mem_cons_self).2.trans h) (k _ List.mem_cons_self).1 n (ORF.unflat r (by rw [OT.flat] at f; exact f) fun a ha => k a (List.mem_cons_of_mem _ ha))
  | _, _, _, .ins h i n r, f, k => .ins ((k _ List.mem_cons_self).2.trans h) (k _ List.mem_cons_self).1 n (ORF.unflat r (by rw [OT.flat] at f; exact f) fun a ha => k a (List.mem_cons_of_mem _ ha))
theorem ORs.unflat : ∀ {v : List V} {t : List OT} {A : List Addr}, ORs G I2 H2 v t A → OT.flats t = true → (∀ a ∈ A, I a = none ∧ H' a = H2 a) → ORs G I H' v t A
  | _, _, _, .nil, _, _ => .nil
  | _, _, _, .cons a b d, f, k => by
    rw [OT.flats, Bool.and_eq_true] at f
    exact .cons (OR.unflat a f.1 fun x hx => k x (List.mem_append_left _ hx)) (ORs.unflat b f.2 fun x hx => k x (List.mem_append_right _ hx)) d
theorem ORF.unflat : ∀ {v : List (Str × V)} {t : List (Str × OT)} {A : List Addr}, ORF G I2 H2 v t A → OT.flatF t = true → (∀ a ∈ A, I a = none ∧ H' a = H2 a) → ORF G I H' v t A
  | _, _, _, .nil, _, _ => .nil
  | _, _, _, .cons a b d, f, k => by
    rw [OT.flatF, Bool.and_eq_true] at f
    exact .cons (OR.unflat a f.1 fun x hx => k x (List.mem_append_left _ hx)) (ORF.unflat b f.2 fun x hx => k x (List.mem_append_right _ hx)) d
end
end
section
variable {X : Cx} {T : List NdefX.NTab} {U : Bool} {ds : List DS} {e : Expr} {q : Option Addr} {t u : OT}
/-- for one expression the tree is told; a new tree of scalars comes of it -/
theorem dv_viewUT (i : Nat) (h : ds[i]? = some (.ot q t)) (hf : u.flat = true) (he : DV X T U e (ds.set i (.im t.fz)) (.ot none u)) : DV X T U e ds (.ot none u) :=
  PE.weak (pe_un he) fun σ H Q ⟨I0, H0, I, en, k⟩ => by
    obtain ⟨A, e', own⟩ := en.freezeOt h
    refine ⟨A.filter fun a => isDk (H a), fun d hd => isDk_of (List.mem_filter.mp hd).2, I0, H0, tellA I H A, e', fun v I2 H2 s2 ⟨B, r, n, z⟩ => k v I _ (step_un en.sub own s2) ⟨B, ?_, n, z⟩⟩
    refine r.unflat hf fun a ha => ⟨en.sub.free (n a ha), unlk_out fun w => ?_⟩
    obtain ⟨kvs, e⟩ := isDk_of (List.mem_filter.mp w).2
    rw [n a ha] at e
    cases e
end
end Lp

/-! place.extend(e), e a new list of trees; parts of trees put back. -/
namespace Lp
open PySem PySem.Spec PyProof.Rows L2
theorem ORs.app {G : Glb} {I H : Hp} {ws : List V} {us : List OT} {C : List Addr} (h : ORs G I H ws us C) : ∀ {vs : List V} {ts : List OT} {A : List Addr}, ORs G I H vs ts A → (∀ a ∈ A, a ∉ C) → ORs G I H (vs ++ ws) (ts ++ us) (A ++ C)
  | _, _, _, .nil, _ => h
  | _, _, _, .cons (A := A0) (B := A1) a b d, k => by
    rw [List.append_assoc]
    refine .cons a (ORs.app h b fun x hx => k x (List.mem_append_right _ hx)) fun x hx z => ?_
    rcases List.mem_append.mp z with z | z
    · exact d x hx z
    · exact k x (List.mem_append_left _ hx) z
section
variable {X : Cx} {T : List NdefX.NTab} {W : WX} {U : Bool} {ds : List DS} {s : DS} {E : DEn} {e : Expr} {pos : Pos}
theorem ds_extP (i : Nat) {b : Expr} {q : Option Addr} {T' : OT} {π : Pth} {ts us : List OT} {apos cpos : Pos} (h : ds[i]? = some (.ot q T')) (hg : T'.get π = some (.lst ts)) (hp : DPl X T U b ds i π) (he : DV X T U e ds s) (ht : s.tree = some (.lst us)) (hl : ts.length + us.length ≤ 100000) (k : E.nx (ds.set i (.ot q (T'.put π (.lst (ts ++ us))))))
    (hb : attributeBase b "extend" X.env (eval b X.env) = eval b X.env := by rfl) (ha : ((((backTo cpos (starEach [e] X.env)).all fun x => !x.fst) && (backToKw cpos (keywordEach [] X.env)).all fun x => x.fst.isSome) && decide (([e].length + ([] : List Keyword).length + if ([] : List Keyword).isEmpty = true then 0 else 1) < 30)) = true := by rfl)
    (hln : (apos.endLine == cpos.line) = true := by rfl) (hse : starEach [e] X.env = (false, eval e X.env) :: starEach [] X.env := by rfl) (hsw : swapsWith (.Call (.Attribute b "extend" apos) [e] [] cpos) none pos.line X.env = pure false := by rfl) :
    DSt X T W U (.Expr (.Call (.Attribute b "extend" apos) [e] [] cpos) pos) ds E :=
  (ps_expr (pe_bm PySem.F.plainAttrs_list PySem.F.slot_list_extend PySem.F.type_list_extend mt_extend hp (pa_cons he pa_nil hse) hb ha hln hse) hsw).weak fun D σ H ⟨I0, H0, I, en, k1, _⟩ => by
    refine ⟨I0, H0, I, en, fun v w I1 H1 s1 e1 h1 => ?_⟩
    obtain ⟨g1, B, g2, g3⟩ := (en.step s1).place2 h hg e1 h1 (Step.refl s1.sub)
    cases g2 with
    | @lst p vs _ B a1 a2 a3 a4 =>
    refine ⟨tyL a1, I0, H0, I1, en.step s1, fun y I2 H2 s2 r2 => ?_⟩
    obtain ⟨C, rC, nC⟩ := r2.tree ht
    cases rC with
    | @lst p2 zs _ C0 f1 f2 f3 f4 =>
    obtain ⟨v', w', B2, b1, b2, b3, bN, b4⟩ := (en.step s1).mutP h hg s2
    rw [e1] at b1
    cases b1
    obtain ⟨c1, _⟩ := (en.step s1).place2 h hg e1 h1 s2
    cases atv_fun b2 c1
    cases b3 with
    | @lst _ ws _ B3 d1 d2 d3 d4 =>
    have nC0 : ∀ a ∈ C0, H1 a = none := fun a ha => nC a (List.mem_cons_of_mem _ ha)
    have pC : p ∉ C0 := fun z => bN p List.mem_cons_self (nC0 p z)
    have dis : ∀ a ∈ B3, a ∉ C0 := fun a ha z => bN a (List.mem_cons_of_mem _ ha) (nC0 a z)
    have fB : ORs (gx X T) I2 (upd H2 p (.lst (ws ++ zs))) ws ts B3 := d4.frame (Same.refl _) fun a ha => ⟨(d4.there a ha).1, upd_ne fun z => d3 (by rw [← z]; exact ha)⟩
    have fC : ORs (gx X T) I2 (upd H2 p (.lst (ws ++ zs))) zs us C0 := f4.frame (Same.refl _) fun a ha => ⟨(f4.there a ha).1, upd_ne fun z => pC (by rw [← z]; exact ha)⟩
    obtain ⟨e2, p3⟩ := b4 p (.lst (ws ++ zs)) (.lst (ts ++ us)) (p :: (B3 ++ C0)) rfl List.mem_cons_self (.lst upd_same d2 (fun z => (List.mem_append.mp z).elim d3 pC) (ORs.app fC fB dis)) fun a ha => by
      rcases List.mem_cons.mp ha with rfl | z
      · exact .inl List.mem_cons_self
      · exact (List.mem_append.mp z).imp (List.mem_cons_of_mem _) (nC0 a)
    exact ⟨p, p2, ws, zs, rfl, rfl, d1, f1, by rw [d4.len, f4.len]; exact Nat.le_trans hl (by decide), k1 _ _ ⟨_, I2, e2, s1.pres.trans p3, k⟩⟩
end
end Lp

/-! x = [..] while a tree of one's own is looked at. -/
namespace Lp
open PySem PySem.Spec PyProof.Rows L2
def tUnS (t : TS) : TS := fun D σ H => ∃ L : List Addr, (∀ d ∈ L, ∃ kvs, H d = some (.dK kvs)) ∧ t ⟨fun σ' H' => D.nx σ' (unlk L H'), fun _ _ => False, fun _ _ => False, fun _ _ => False⟩ σ H
theorem ps_un {X : Cx} {st : Stmt} {t : TS} (h : PS X st t) : PS X st (tUnS t) := ⟨fun pins s σ H D I ⟨L, hL, q⟩ => thn (h.run pins s σ H _ I q) fun f s1 z => by
  have hn : ∀ d ∈ L, ∀ o u, X.H_0 d ≠ some (.frz o u) := fun d hd => by obtain ⟨kvs, e⟩ := hL d hd; exact I.nofrz e trivial
  cases f with
  | next =>
    obtain ⟨σ', H', I', q'⟩ := z
    exact ⟨σ', _, inv_unlk I' hn, q'⟩
  | brk =>
    obtain ⟨σ', H', I', q'⟩ := z
    exact q'.elim
  | cont =>
    obtain ⟨σ', H', I', q'⟩ := z
    exact q'.elim
  | ret v =>
    obtain ⟨x, σ', H', I', r, q'⟩ := z
    exact q'.elim⟩
section
variable {X : Cx} {T : List NdefX.NTab} {W : WX} {U : Bool} {ds : List DS} {E : DEn} {α : Type} {ev : α → D} {elt tg iter : Expr} {ifs : List Expr} {scope : Scope} {own : List (Str × Nat)} {pos : Pos} {xs : List α} {js : List Nat}
theorem ds_setLcTV (v l : Nat) {q : Option Addr} {t : OT} {y : Str} {py spos : Pos} (hv : ds[v]? = some (.ot q t)) (gd : α → List DS) (p : α → Bool) (f : α → OT) (hi : DI X T U tg iter (ds.set v (.im t.fz)) (xs.map ev)) (hl : xs.length ≤ 100000) (hN : X.N.Nodup) (ok : BlkOk X.N X.env.scope scope own) (hg : ∀ s H C cl fp, ∀ d ∈ xs, DG (blkX X scope s H C cl fp) T U tg (wipeD (ds.set v (.im t.fz)) (own.map (·.2))) (ev d) (gd d) js)
    (ht : ∀ s H C cl fp, ∀ d ∈ xs, DTs (blkX X scope s H C cl fp) T U ifs (gd d) (p d)) (he : ∀ s H C cl fp, ∀ d ∈ xs, p d = true → DV (blkX X scope s H C cl fp) T U elt (gd d) (.ot none (f d))) (hfl : (OT.lst ((xs.filter p).map f)).flat = true) (k : E.nx (ds.set l (.ot none (.lst ((xs.filter p).map f)))))
    (hsw : swapsWith (.ListComp elt [⟨tg, iter, ifs, 0⟩] scope pos) (some (.Name y py)) spos.line X.env = pure true := by exact sw_true rfl rfl rfl (by decide +kernel)) (hj : ∀ j ∈ js, j ∈ own.map (·.2) := by decide) (hy : X.N[l]? = some y := by rfl) (hyl : X.env.scope.names.lookup y = some .local := by rfl)
    (hc : X.calm = true := by rfl) (hs : ∀ x, foldedSetIterable iter X.env x = pure x := by intro _; rfl) : DSt X T W U (.Assign [.Name y py] (.ListComp elt [⟨tg, iter, ifs, 0⟩] scope pos) spos) ds E := by
  refine (ps_un (ps_setLc (i := l) (own := own) (g := fun v' σ H Q => ∃ d, d ∈ xs ∧ gV (gx X T) U (wipeD (ds.set v (.im t.fz)) (own.map (·.2))) (ev d) (gd d) js v' σ H Q) (tt := fun σ H Q => ∃ d, d ∈ xs ∧ tV (gx X T) U (gd d) (p d) σ H Q) (te := fun σ H Q => ∃ d, d ∈ xs ∧ p d = true ∧ eV (gx X T) U (gd d) (.ot none (f d)) σ H Q)
    hc hN hy hyl hsw hi ok (fun s H C cl fp => ⟨fun pins s' σ H' v u Q I r ⟨d, m, q⟩ => (hg s H C cl fp d m).run pins s' σ H' v u Q I r q⟩) (fun s H C cl fp => ⟨fun pins s' σ H' Q I ⟨d, m, q⟩ => (ht s H C cl fp d m).run pins s' σ H' Q I q⟩) (fun s H C cl fp => ⟨fun pins s' σ H' Q I ⟨d, m, e, q⟩ => (he s H C cl fp d m e).run pins s' σ H' Q I q⟩) hs)).weak fun D σ H ⟨I0, H0, I, en, k1, _⟩ => ?_
  obtain ⟨A, e', own'⟩ := en.freezeOt hv
  refine ⟨A.filter fun a => isDk (H a), fun d hd => isDk_of (List.mem_filter.mp hd).2, ?_⟩
  exact lc_runT hl (fun _ _ _ h => h) (fun d m v σ H Q h => ⟨d, m, h⟩) hj (fun d m σ H Q h => ⟨d, m, h⟩) (fun d m e σ H Q h => ⟨d, m, e, h⟩) ⟨I0, H0, tellA I H A, e', fun w I2 H2 s2 ⟨B, r, n, z⟩ => by
    have su := step_un en.sub own' s2
    have r2 : ValR (gx X T) H I (unlk (A.filter fun a => isDk (H a)) H2) w (.ot none (.lst ((xs.filter p).map f))) := ⟨B, r.unflat hfl fun a ha => ⟨en.sub.free (n a ha), unlk_out fun y => by
      obtain ⟨kvs, e⟩ := isDk_of (List.mem_filter.mp y).2
      rw [n a ha] at e
      cases e⟩, n, z⟩
    exact k1 _ _ ⟨_, I, en.setV su l r2, su.pres, k⟩⟩
end
section
variable {X : Cx} {T : List NdefX.NTab} {W : WX} {U : Bool} {ds : List DS} {E : DEn}
theorem ds_retU (i : Nat) {x : Str} {p pos : Pos} {t : OT} {q : Option Addr} (h : ds[i]? = some (.ot q t)) (k : E.rt (.ot none t)) (hN : X.N[i]? = some x := by rfl) (hv : Vis X.env.scope x := by first | exact Or.inl rfl | exact Or.inr (Or.inl rfl) | exact Or.inr (Or.inr rfl))
    (hd : (x == ("__debug__" : Str)) = false := by decide) (hcd : (x == ("__classdict__" : Str)) = false := by decide) : DSt X T W U (.Return (some (.Name x p)) pos) ds E :=
  (ps_ret (pe_var hN hv hd hcd)).weak fun D σ H ⟨I0, H0, I, en, _, k2, _⟩ => by
    obtain ⟨v, A, e1, r, hA, hq⟩ := en.ot h
    exact ⟨_, e1, k2 _ H (.ot none t) ⟨I, en.st, A, r, hA, fun _ z => nomatch z⟩ k⟩
end
end Lp

namespace K
open PySem PySem.Spec PyProof.Rows L2 Lp
def top (i : Nat) : Stmt := PySem.Challenge.pw_listpost_k12_whole_let_on.main.body.getD i (.Pass ⟨0, 0, 0, 0⟩)
abbrev FnP (K : PySem.W.Frag) (x : Str) (st : Stmt) (f : Addr) (fd : FuncData) : Prop := FunD K x x (defArgs st) (defBody st) (defScope st) [] [] f fd
abbrev MeP (K : PySem.W.Frag) (x q : Str) (st : Stmt) (f : Addr) (fd : FuncData) : Prop := FunD K x q (defArgs st) (defBody st) (defScope st) [] [] f fd
abbrev S_wall : Stmt := top 0
abbrev S_BadBook_init : Stmt := inClass (top 3) 0
abbrev S_is_name : Stmt := top 12
abbrev S_are_names : Stmt := top 13
abbrev S_rank : Stmt := top 14
abbrev S_in_order : Stmt := top 15
abbrev S_Entry_init : Stmt := inClass (top 16) 0
abbrev S_Entry_told : Stmt := inClass (top 16) 1
abbrev S_is_entry : Stmt := top 17
abbrev S_lists_of : Stmt := top 18
abbrev S_book_of : Stmt := top 19
abbrev S_check_name : Stmt := top 20
abbrev S_check_names : Stmt := top 21
abbrev S_check_letter : Stmt := top 22
abbrev S_come_to : Stmt := top 23
abbrev S_reached_by : Stmt := top 24
abbrev S_stands_for : Stmt := top 25
abbrev S_lets_in : Stmt := top 26
abbrev S_holding : Stmt := top 27
abbrev S_Letter_init : Stmt := inClass (top 29) 0
abbrev S_Letter_goes : Stmt := inClass (top 29) 1
abbrev S_Letter_copy_of : Stmt := inClass (top 29) 2
abbrev S_Post_init : Stmt := inClass (top 30) 0
abbrev S_Post_book : Stmt := inClass (top 30) 1
abbrev S_Post_people : Stmt := inClass (top 30) 2
abbrev S_Post_found : Stmt := inClass (top 30) 3
abbrev S_Post_looked_at : Stmt := inClass (top 30) 4
abbrev S_Post_put_in : Stmt := inClass (top 30) 5
abbrev S_Post_take_out : Stmt := inClass (top 30) 6
abbrev S_Post_enter : Stmt := inClass (top 30) 7
abbrev S_Post_strike : Stmt := inClass (top 30) 8
abbrev S_Post_leave : Stmt := inClass (top 30) 9
abbrev S_Post_come_back : Stmt := inClass (top 30) 10
abbrev S_Post_bar : Stmt := inClass (top 30) 11
abbrev S_Post_send : Stmt := inClass (top 30) 12
abbrev S_Post_letter_of : Stmt := inClass (top 30) 13
abbrev S_Post_held_by : Stmt := inClass (top 30) 14
abbrev S_Post_held : Stmt := inClass (top 30) 15
abbrev S_Post_let : Stmt := inClass (top 30) 16
abbrev S_Post_drop : Stmt := inClass (top 30) 17
abbrev S_Post_got : Stmt := inClass (top 30) 18
abbrev S_Post_letter : Stmt := inClass (top 30) 19
abbrev S_Post_twin : Stmt := inClass (top 30) 20
abbrev S_law_draw : Stmt := top 32
abbrev S_law_cell_at : Stmt := top 33
abbrev S_law_digits : Stmt := top 34
abbrev S_law_letters : Stmt := top 35
abbrev S_law_names : Stmt := top 36
abbrev S_law_some : Stmt := top 37
abbrev S_law_entry : Stmt := top 38
abbrev S_law_book : Stmt := top 39
abbrev S_law_copy : Stmt := top 40
abbrev S_law_rank : Stmt := top 41
abbrev S_law_met : Stmt := top 42
abbrev S_law_lists : Stmt := top 43
abbrev S_law_all : Stmt := top 44
abbrev S_law_reached : Stmt := top 45
abbrev S_law_passed : Stmt := top 46
abbrev S_law_posted : Stmt := top 47
abbrev S_law_let_all : Stmt := top 48
abbrev S_law_due : Stmt := top 49
abbrev S_law_meant : Stmt := top 50
abbrev S_law : Stmt := top 51
structure Facts (G : Glb) : Prop where
  b_len : G.mg "len" = none
  b_abs : G.mg "abs" = none
  b_sum : G.mg "sum" = none
  b_range : G.mg "range" = none
  b_enumerate : G.mg "enumerate" = none
  b_isinstance : G.mg "isinstance" = none
  b_all : G.mg "all" = none
  b_any : G.mg "any" = none
  b_list : G.mg "list" = none
  b_set : G.mg "set" = none
  b_str : G.mg "str" = none
  b_sorted : G.mg "sorted" = none
  b_zip : G.mg "zip" = none
  b_int : G.mg "int" = none
  b_bool : G.mg "bool" = none
  b_tuple : G.mg "tuple" = none
  b_ValueError : G.mg "ValueError" = none
  c_LETTERS : ∃ t, G.mg "LETTERS" = some (.str "abcdefghijklmnopqrstuvwxyz" t)
  c_LONGEST : ∃ t, G.mg "LONGEST" = some (.int 20 t)
  g_is_name : G.mg "is_name" = some (.ref (He.ga G.K "is_name"))
  f_is_name : FnP G.K "is_name" S_is_name (He.ga G.K "is_name") (fdOf G.K (He.ga G.K "is_name"))
  n_is_name : L2.Binds G.K (fdOf G.K (He.ga G.K "is_name")) ["thing"] []
  g_are_names : G.mg "are_names" = some (.ref (He.ga G.K "are_names"))
  f_are_names : FnP G.K "are_names" S_are_names (He.ga G.K "are_names") (fdOf G.K (He.ga G.K "are_names"))
  n_are_names : L2.Binds G.K (fdOf G.K (He.ga G.K "are_names")) ["thing"] []
  g_rank : G.mg "rank" = some (.ref (He.ga G.K "rank"))
  f_rank : FnP G.K "rank" S_rank (He.ga G.K "rank") (fdOf G.K (He.ga G.K "rank"))
  n_rank : L2.Binds G.K (fdOf G.K (He.ga G.K "rank")) ["name"] []
  g_in_order : G.mg "in_order" = some (.ref (He.ga G.K "in_order"))
  f_in_order : FnP G.K "in_order" S_in_order (He.ga G.K "in_order") (fdOf G.K (He.ga G.K "in_order"))
  n_in_order : L2.Binds G.K (fdOf G.K (He.ga G.K "in_order")) ["names"] []
  g_is_entry : G.mg "is_entry" = some (.ref (He.ga G.K "is_entry"))
  f_is_entry : FnP G.K "is_entry" S_is_entry (He.ga G.K "is_entry") (fdOf G.K (He.ga G.K "is_entry"))
  n_is_entry : L2.Binds G.K (fdOf G.K (He.ga G.K "is_entry")) ["thing"] []
  g_lists_of : G.mg "lists_of" = some (.ref (He.ga G.K "lists_of"))
  f_lists_of : FnP G.K "lists_of" S_lists_of (He.ga G.K "lists_of") (fdOf G.K (He.ga G.K "lists_of"))
  n_lists_of : L2.Binds G.K (fdOf G.K (He.ga G.K "lists_of")) ["book"] []
  g_book_of : G.mg "book_of" = some (.ref (He.ga G.K "book_of"))
  f_book_of : FnP G.K "book_of" S_book_of (He.ga G.K "book_of") (fdOf G.K (He.ga G.K "book_of"))
  n_book_of : L2.Binds G.K (fdOf G.K (He.ga G.K "book_of")) ["lists"] []
  g_check_name : G.mg "check_name" = some (.ref (He.ga G.K "check_name"))
  f_check_name : FnP G.K "check_name" S_check_name (He.ga G.K "check_name") (fdOf G.K (He.ga G.K "check_name"))
  n_check_name : L2.Binds G.K (fdOf G.K (He.ga G.K "check_name")) ["name"] []
  g_check_names : G.mg "check_names" = some (.ref (He.ga G.K "check_names"))
  f_check_names : FnP G.K "check_names" S_check_names (He.ga G.K "check_names") (fdOf G.K (He.ga G.K "check_names"))
  n_check_names : L2.Binds G.K (fdOf G.K (He.ga G.K "check_names")) ["names"] []
  g_check_letter : G.mg "check_letter" = some (.ref (He.ga G.K "check_letter"))
  f_check_letter : FnP G.K "check_letter" S_check_letter (He.ga G.K "check_letter") (fdOf G.K (He.ga G.K "check_letter"))
  n_check_letter : L2.Binds G.K (fdOf G.K (He.ga G.K "check_letter")) ["sender", "names"] []
  g_come_to : G.mg "come_to" = some (.ref (He.ga G.K "come_to"))
  f_come_to : FnP G.K "come_to" S_come_to (He.ga G.K "come_to") (fdOf G.K (He.ga G.K "come_to"))
  n_come_to : L2.Binds G.K (fdOf G.K (He.ga G.K "come_to")) ["lists", "names", "goes"] []
  g_reached_by : G.mg "reached_by" = some (.ref (He.ga G.K "reached_by"))
  f_reached_by : FnP G.K "reached_by" S_reached_by (He.ga G.K "reached_by") (fdOf G.K (He.ga G.K "reached_by"))
  n_reached_by : L2.Binds G.K (fdOf G.K (He.ga G.K "reached_by")) ["lists", "names", "passes"] []
  g_stands_for : G.mg "stands_for" = some (.ref (He.ga G.K "stands_for"))
  f_stands_for : FnP G.K "stands_for" S_stands_for (He.ga G.K "stands_for") (fdOf G.K (He.ga G.K "stands_for"))
  n_stands_for : L2.Binds G.K (fdOf G.K (He.ga G.K "stands_for")) ["lists", "name"] []
  g_lets_in : G.mg "lets_in" = some (.ref (He.ga G.K "lets_in"))
  f_lets_in : FnP G.K "lets_in" S_lets_in (He.ga G.K "lets_in") (fdOf G.K (He.ga G.K "lets_in"))
  n_lets_in : L2.Binds G.K (fdOf G.K (He.ga G.K "lets_in")) ["lists", "sender"] []
  g_holding : G.mg "holding" = some (.ref (He.ga G.K "holding"))
  f_holding : FnP G.K "holding" S_holding (He.ga G.K "holding") (fdOf G.K (He.ga G.K "holding"))
  n_holding : L2.Binds G.K (fdOf G.K (He.ga G.K "holding")) ["lists", "names", "passes"] []
  g_law_draw : G.mg "_law_draw" = some (.ref (He.ga G.K "_law_draw"))
  f_law_draw : FnP G.K "_law_draw" S_law_draw (He.ga G.K "_law_draw") (fdOf G.K (He.ga G.K "_law_draw"))
  n_law_draw : L2.Binds G.K (fdOf G.K (He.ga G.K "_law_draw")) ["_law_cell", "_law_k", "_law_many"] []
  g_law_cell_at : G.mg "_law_cell_at" = some (.ref (He.ga G.K "_law_cell_at"))
  f_law_cell_at : FnP G.K "_law_cell_at" S_law_cell_at (He.ga G.K "_law_cell_at") (fdOf G.K (He.ga G.K "_law_cell_at"))
  n_law_cell_at : L2.Binds G.K (fdOf G.K (He.ga G.K "_law_cell_at")) ["_law_script", "_law_k"] []
  g_law_digits : G.mg "_law_digits" = some (.ref (He.ga G.K "_law_digits"))
  f_law_digits : FnP G.K "_law_digits" S_law_digits (He.ga G.K "_law_digits") (fdOf G.K (He.ga G.K "_law_digits"))
  n_law_digits : L2.Binds G.K (fdOf G.K (He.ga G.K "_law_digits")) ["_law_script", "_law_at", "_law_many", "_law_base"] []
  g_law_letters : G.mg "_law_letters" = some (.ref (He.ga G.K "_law_letters"))
  f_law_letters : FnP G.K "_law_letters" S_law_letters (He.ga G.K "_law_letters") (fdOf G.K (He.ga G.K "_law_letters"))
  n_law_letters : L2.Binds G.K (fdOf G.K (He.ga G.K "_law_letters")) [] []
  g_law_names : G.mg "_law_names" = some (.ref (He.ga G.K "_law_names"))
  f_law_names : FnP G.K "_law_names" S_law_names (He.ga G.K "_law_names") (fdOf G.K (He.ga G.K "_law_names"))
  n_law_names : L2.Binds G.K (fdOf G.K (He.ga G.K "_law_names")) ["_law_script", "_law_at", "_law_many"] []
  g_law_some : G.mg "_law_some" = some (.ref (He.ga G.K "_law_some"))
  f_law_some : FnP G.K "_law_some" S_law_some (He.ga G.K "_law_some") (fdOf G.K (He.ga G.K "_law_some"))
  n_law_some : L2.Binds G.K (fdOf G.K (He.ga G.K "_law_some")) ["_law_names_here", "_law_number"] []
  g_law_entry : G.mg "_law_entry" = some (.ref (He.ga G.K "_law_entry"))
  f_law_entry : FnP G.K "_law_entry" S_law_entry (He.ga G.K "_law_entry") (fdOf G.K (He.ga G.K "_law_entry"))
  n_law_entry : L2.Binds G.K (fdOf G.K (He.ga G.K "_law_entry")) ["_law_script", "_law_at", "_law_name", "_law_names_here"] []
  g_law_book : G.mg "_law_book" = some (.ref (He.ga G.K "_law_book"))
  f_law_book : FnP G.K "_law_book" S_law_book (He.ga G.K "_law_book") (fdOf G.K (He.ga G.K "_law_book"))
  n_law_book : L2.Binds G.K (fdOf G.K (He.ga G.K "_law_book")) ["_law_script", "_law_at", "_law_names_here", "_law_many"] []
  g_law_copy : G.mg "_law_copy" = some (.ref (He.ga G.K "_law_copy"))
  f_law_copy : FnP G.K "_law_copy" S_law_copy (He.ga G.K "_law_copy") (fdOf G.K (He.ga G.K "_law_copy"))
  n_law_copy : L2.Binds G.K (fdOf G.K (He.ga G.K "_law_copy")) ["_law_book_here"] []
  g_law_rank : G.mg "_law_rank" = some (.ref (He.ga G.K "_law_rank"))
  f_law_rank : FnP G.K "_law_rank" S_law_rank (He.ga G.K "_law_rank") (fdOf G.K (He.ga G.K "_law_rank"))
  n_law_rank : L2.Binds G.K (fdOf G.K (He.ga G.K "_law_rank")) ["_law_name"] []
  g_law_met : G.mg "_law_met" = some (.ref (He.ga G.K "_law_met"))
  f_law_met : FnP G.K "_law_met" S_law_met (He.ga G.K "_law_met") (fdOf G.K (He.ga G.K "_law_met"))
  n_law_met : L2.Binds G.K (fdOf G.K (He.ga G.K "_law_met")) ["_law_book_here", "_law_names_here", "_law_passed_here", "_law_person"] []
  g_law_lists : G.mg "_law_lists" = some (.ref (He.ga G.K "_law_lists"))
  f_law_lists : FnP G.K "_law_lists" S_law_lists (He.ga G.K "_law_lists") (fdOf G.K (He.ga G.K "_law_lists"))
  n_law_lists : L2.Binds G.K (fdOf G.K (He.ga G.K "_law_lists")) ["_law_book_here"] []
  g_law_all : G.mg "_law_all" = some (.ref (He.ga G.K "_law_all"))
  f_law_all : FnP G.K "_law_all" S_law_all (He.ga G.K "_law_all") (fdOf G.K (He.ga G.K "_law_all"))
  n_law_all : L2.Binds G.K (fdOf G.K (He.ga G.K "_law_all")) ["_law_book_here", "_law_names_here"] []
  g_law_reached : G.mg "_law_reached" = some (.ref (He.ga G.K "_law_reached"))
  f_law_reached : FnP G.K "_law_reached" S_law_reached (He.ga G.K "_law_reached") (fdOf G.K (He.ga G.K "_law_reached"))
  n_law_reached : L2.Binds G.K (fdOf G.K (He.ga G.K "_law_reached")) ["_law_book_here", "_law_names_here", "_law_passed_here"] []
  g_law_passed : G.mg "_law_passed" = some (.ref (He.ga G.K "_law_passed"))
  f_law_passed : FnP G.K "_law_passed" S_law_passed (He.ga G.K "_law_passed") (fdOf G.K (He.ga G.K "_law_passed"))
  n_law_passed : L2.Binds G.K (fdOf G.K (He.ga G.K "_law_passed")) ["_law_book_here", "_law_sender"] []
  g_law_posted : G.mg "_law_posted" = some (.ref (He.ga G.K "_law_posted"))
  f_law_posted : FnP G.K "_law_posted" S_law_posted (He.ga G.K "_law_posted") (fdOf G.K (He.ga G.K "_law_posted"))
  n_law_posted : L2.Binds G.K (fdOf G.K (He.ga G.K "_law_posted")) ["_law_book_here", "_law_rows"] []
  g_law_let_all : G.mg "_law_let_all" = some (.ref (He.ga G.K "_law_let_all"))
  f_law_let_all : FnP G.K "_law_let_all" S_law_let_all (He.ga G.K "_law_let_all") (fdOf G.K (He.ga G.K "_law_let_all"))
  n_law_let_all : L2.Binds G.K (fdOf G.K (He.ga G.K "_law_let_all")) ["_law_post", "_law_names_here", "_law_cell", "_law_dropped"] []
  g_law_due : G.mg "_law_due" = some (.ref (He.ga G.K "_law_due"))
  f_law_due : FnP G.K "_law_due" S_law_due (He.ga G.K "_law_due") (fdOf G.K (He.ga G.K "_law_due"))
  n_law_due : L2.Binds G.K (fdOf G.K (He.ga G.K "_law_due")) ["_law_book_here", "_law_rows", "_law_name", "_law_dropped"] []
  g_law_meant : G.mg "_law_meant" = some (.ref (He.ga G.K "_law_meant"))
  f_law_meant : FnP G.K "_law_meant" S_law_meant (He.ga G.K "_law_meant") (fdOf G.K (He.ga G.K "_law_meant"))
  n_law_meant : L2.Binds G.K (fdOf G.K (He.ga G.K "_law_meant")) ["_law_post", "_law_rows", "_law_name"] []
  g_law : G.mg "law" = some (.ref (He.ga G.K "law"))
  f_law : FnP G.K "law" S_law (He.ga G.K "law") (fdOf G.K (He.ga G.K "law"))
  n_law : L2.Binds G.K (fdOf G.K (He.ga G.K "law")) ["_law_script"] []
  g_Entry : G.mg "Entry" = some (.ref (He.ga G.K "Entry"))
  k_Entry : Cls G.K (He.ga G.K "Entry")
  a_Entry_members : NoAttr G.K (He.ga G.K "Entry") "members"
  a_Entry_left : NoAttr G.K (He.ga G.K "Entry") "left"
  a_Entry_gate : NoAttr G.K (He.ga G.K "Entry") "gate"
  mk_Entry : Mk G.K (He.ga G.K "Entry") (He.ma G.K (He.ga G.K "Entry") "__init__")
  f_Entry_init : MeP G.K "__init__" "Entry.__init__" S_Entry_init (He.ma G.K (He.ga G.K "Entry") "__init__") (fdOf G.K (He.ma G.K (He.ga G.K "Entry") "__init__"))
  n_Entry_init : L2.Binds G.K (fdOf G.K (He.ma G.K (He.ga G.K "Entry") "__init__")) ["self", "members", "left", "gate"] []
  m_Entry_told : Meth G.K (He.ga G.K "Entry") "told" (He.ma G.K (He.ga G.K "Entry") "told")
  f_Entry_told : MeP G.K "told" "Entry.told" S_Entry_told (He.ma G.K (He.ga G.K "Entry") "told") (fdOf G.K (He.ma G.K (He.ga G.K "Entry") "told"))
  n_Entry_told : L2.Binds G.K (fdOf G.K (He.ma G.K (He.ga G.K "Entry") "told")) ["self", "name"] []
  g_Letter : G.mg "Letter" = some (.ref (He.ga G.K "Letter"))
  k_Letter : Cls G.K (He.ga G.K "Letter")
  a_Letter_sender : NoAttr G.K (He.ga G.K "Letter") "sender"
  a_Letter_names : NoAttr G.K (He.ga G.K "Letter") "names"
  a_Letter_had : NoAttr G.K (He.ga G.K "Letter") "had"
  a_Letter_stays : NoAttr G.K (He.ga G.K "Letter") "stays"
  a_Letter_passed : NoAttr G.K (He.ga G.K "Letter") "passed"
  a_Letter_dropped : NoAttr G.K (He.ga G.K "Letter") "dropped"
  mk_Letter : Mk G.K (He.ga G.K "Letter") (He.ma G.K (He.ga G.K "Letter") "__init__")
  f_Letter_init : MeP G.K "__init__" "Letter.__init__" S_Letter_init (He.ma G.K (He.ga G.K "Letter") "__init__") (fdOf G.K (He.ma G.K (He.ga G.K "Letter") "__init__"))
  n_Letter_init : L2.Binds G.K (fdOf G.K (He.ma G.K (He.ga G.K "Letter") "__init__")) ["self", "sender", "names"] []
  m_Letter_goes : Meth G.K (He.ga G.K "Letter") "goes" (He.ma G.K (He.ga G.K "Letter") "goes")
  f_Letter_goes : MeP G.K "goes" "Letter.goes" S_Letter_goes (He.ma G.K (He.ga G.K "Letter") "goes") (fdOf G.K (He.ma G.K (He.ga G.K "Letter") "goes"))
  n_Letter_goes : L2.Binds G.K (fdOf G.K (He.ma G.K (He.ga G.K "Letter") "goes")) ["self", "lists"] []
  m_Letter_copy_of : Meth G.K (He.ga G.K "Letter") "copy_of" (He.ma G.K (He.ga G.K "Letter") "copy_of")
  f_Letter_copy_of : MeP G.K "copy_of" "Letter.copy_of" S_Letter_copy_of (He.ma G.K (He.ga G.K "Letter") "copy_of") (fdOf G.K (He.ma G.K (He.ga G.K "Letter") "copy_of"))
  n_Letter_copy_of : L2.Binds G.K (fdOf G.K (He.ma G.K (He.ga G.K "Letter") "copy_of")) ["self"] []
  g_Post : G.mg "Post" = some (.ref (He.ga G.K "Post"))
  k_Post : Cls G.K (He.ga G.K "Post")
  a_Post_lists : NoAttr G.K (He.ga G.K "Post") "lists"
  a_Post_letters : NoAttr G.K (He.ga G.K "Post") "letters"
  mk_Post : Mk G.K (He.ga G.K "Post") (He.ma G.K (He.ga G.K "Post") "__init__")
  f_Post_init : MeP G.K "__init__" "Post.__init__" S_Post_init (He.ma G.K (He.ga G.K "Post") "__init__") (fdOf G.K (He.ma G.K (He.ga G.K "Post") "__init__"))
  n_Post_init : L2.Binds G.K (fdOf G.K (He.ma G.K (He.ga G.K "Post") "__init__")) ["self", "book"] []
  m_Post_book : Meth G.K (He.ga G.K "Post") "book" (He.ma G.K (He.ga G.K "Post") "book")
  f_Post_book : MeP G.K "book" "Post.book" S_Post_book (He.ma G.K (He.ga G.K "Post") "book") (fdOf G.K (He.ma G.K (He.ga G.K "Post") "book"))
  n_Post_book : L2.Binds G.K (fdOf G.K (He.ma G.K (He.ga G.K "Post") "book")) ["self"] []
  m_Post_people : Meth G.K (He.ga G.K "Post") "people" (He.ma G.K (He.ga G.K "Post") "people")
  f_Post_people : MeP G.K "people" "Post.people" S_Post_people (He.ma G.K (He.ga G.K "Post") "people") (fdOf G.K (He.ma G.K (He.ga G.K "Post") "people"))
  n_Post_people : L2.Binds G.K (fdOf G.K (He.ma G.K (He.ga G.K "Post") "people")) ["self", "name"] []
  m_Post_found : Meth G.K (He.ga G.K "Post") "found" (He.ma G.K (He.ga G.K "Post") "found")
  f_Post_found : MeP G.K "found" "Post.found" S_Post_found (He.ma G.K (He.ga G.K "Post") "found") (fdOf G.K (He.ma G.K (He.ga G.K "Post") "found"))
  n_Post_found : L2.Binds G.K (fdOf G.K (He.ma G.K (He.ga G.K "Post") "found")) ["self", "name"] []
  m_Post_looked_at : Meth G.K (He.ga G.K "Post") "looked_at" (He.ma G.K (He.ga G.K "Post") "looked_at")
  f_Post_looked_at : MeP G.K "looked_at" "Post.looked_at" S_Post_looked_at (He.ma G.K (He.ga G.K "Post") "looked_at") (fdOf G.K (He.ma G.K (He.ga G.K "Post") "looked_at"))
  n_Post_looked_at : L2.Binds G.K (fdOf G.K (He.ma G.K (He.ga G.K "Post") "looked_at")) ["self", "name", "other"] []
  m_Post_put_in : Meth G.K (He.ga G.K "Post") "put_in" (He.ma G.K (He.ga G.K "Post") "put_in")
  f_Post_put_in : MeP G.K "put_in" "Post.put_in" S_Post_put_in (He.ma G.K (He.ga G.K "Post") "put_in") (fdOf G.K (He.ma G.K (He.ga G.K "Post") "put_in"))
  n_Post_put_in : L2.Binds G.K (fdOf G.K (He.ma G.K (He.ga G.K "Post") "put_in")) ["self", "names", "name"] []
  m_Post_take_out : Meth G.K (He.ga G.K "Post") "take_out" (He.ma G.K (He.ga G.K "Post") "take_out")
  f_Post_take_out : MeP G.K "take_out" "Post.take_out" S_Post_take_out (He.ma G.K (He.ga G.K "Post") "take_out") (fdOf G.K (He.ma G.K (He.ga G.K "Post") "take_out"))
  n_Post_take_out : L2.Binds G.K (fdOf G.K (He.ma G.K (He.ga G.K "Post") "take_out")) ["self", "names", "name"] []
  m_Post_enter : Meth G.K (He.ga G.K "Post") "enter" (He.ma G.K (He.ga G.K "Post") "enter")
  f_Post_enter : MeP G.K "enter" "Post.enter" S_Post_enter (He.ma G.K (He.ga G.K "Post") "enter") (fdOf G.K (He.ma G.K (He.ga G.K "Post") "enter"))
  n_Post_enter : L2.Binds G.K (fdOf G.K (He.ma G.K (He.ga G.K "Post") "enter")) ["self", "name", "member"] []
  m_Post_strike : Meth G.K (He.ga G.K "Post") "strike" (He.ma G.K (He.ga G.K "Post") "strike")
  f_Post_strike : MeP G.K "strike" "Post.strike" S_Post_strike (He.ma G.K (He.ga G.K "Post") "strike") (fdOf G.K (He.ma G.K (He.ga G.K "Post") "strike"))
  n_Post_strike : L2.Binds G.K (fdOf G.K (He.ma G.K (He.ga G.K "Post") "strike")) ["self", "name", "member"] []
  m_Post_leave : Meth G.K (He.ga G.K "Post") "leave" (He.ma G.K (He.ga G.K "Post") "leave")
  f_Post_leave : MeP G.K "leave" "Post.leave" S_Post_leave (He.ma G.K (He.ga G.K "Post") "leave") (fdOf G.K (He.ma G.K (He.ga G.K "Post") "leave"))
  n_Post_leave : L2.Binds G.K (fdOf G.K (He.ma G.K (He.ga G.K "Post") "leave")) ["self", "name", "person"] []
  m_Post_come_back : Meth G.K (He.ga G.K "Post") "come_back" (He.ma G.K (He.ga G.K "Post") "come_back")
  f_Post_come_back : MeP G.K "come_back" "Post.come_back" S_Post_come_back (He.ma G.K (He.ga G.K "Post") "come_back") (fdOf G.K (He.ma G.K (He.ga G.K "Post") "come_back"))
  n_Post_come_back : L2.Binds G.K (fdOf G.K (He.ma G.K (He.ga G.K "Post") "come_back")) ["self", "name", "person"] []
  m_Post_bar : Meth G.K (He.ga G.K "Post") "bar" (He.ma G.K (He.ga G.K "Post") "bar")
  m_Post_send : Meth G.K (He.ga G.K "Post") "send" (He.ma G.K (He.ga G.K "Post") "send")
  f_Post_send : MeP G.K "send" "Post.send" S_Post_send (He.ma G.K (He.ga G.K "Post") "send") (fdOf G.K (He.ma G.K (He.ga G.K "Post") "send"))
  n_Post_send : L2.Binds G.K (fdOf G.K (He.ma G.K (He.ga G.K "Post") "send")) ["self", "sender", "names"] []
  m_Post_letter_of : Meth G.K (He.ga G.K "Post") "letter_of" (He.ma G.K (He.ga G.K "Post") "letter_of")
  f_Post_letter_of : MeP G.K "letter_of" "Post.letter_of" S_Post_letter_of (He.ma G.K (He.ga G.K "Post") "letter_of") (fdOf G.K (He.ma G.K (He.ga G.K "Post") "letter_of"))
  n_Post_letter_of : L2.Binds G.K (fdOf G.K (He.ma G.K (He.ga G.K "Post") "letter_of")) ["self", "number"] []
  m_Post_held_by : Meth G.K (He.ga G.K "Post") "held_by" (He.ma G.K (He.ga G.K "Post") "held_by")
  f_Post_held_by : MeP G.K "held_by" "Post.held_by" S_Post_held_by (He.ma G.K (He.ga G.K "Post") "held_by") (fdOf G.K (He.ma G.K (He.ga G.K "Post") "held_by"))
  n_Post_held_by : L2.Binds G.K (fdOf G.K (He.ma G.K (He.ga G.K "Post") "held_by")) ["self", "number", "name"] []
  m_Post_held : Meth G.K (He.ga G.K "Post") "held" (He.ma G.K (He.ga G.K "Post") "held")
  f_Post_held : MeP G.K "held" "Post.held" S_Post_held (He.ma G.K (He.ga G.K "Post") "held") (fdOf G.K (He.ma G.K (He.ga G.K "Post") "held"))
  n_Post_held : L2.Binds G.K (fdOf G.K (He.ma G.K (He.ga G.K "Post") "held")) ["self"] []
  m_Post_let : Meth G.K (He.ga G.K "Post") "let" (He.ma G.K (He.ga G.K "Post") "let")
  f_Post_let : MeP G.K "let" "Post.let" S_Post_let (He.ma G.K (He.ga G.K "Post") "let") (fdOf G.K (He.ma G.K (He.ga G.K "Post") "let"))
  n_Post_let : L2.Binds G.K (fdOf G.K (He.ma G.K (He.ga G.K "Post") "let")) ["self", "number", "name"] []
  m_Post_drop : Meth G.K (He.ga G.K "Post") "drop" (He.ma G.K (He.ga G.K "Post") "drop")
  f_Post_drop : MeP G.K "drop" "Post.drop" S_Post_drop (He.ma G.K (He.ga G.K "Post") "drop") (fdOf G.K (He.ma G.K (He.ga G.K "Post") "drop"))
  n_Post_drop : L2.Binds G.K (fdOf G.K (He.ma G.K (He.ga G.K "Post") "drop")) ["self", "number", "name"] []
  m_Post_got : Meth G.K (He.ga G.K "Post") "got" (He.ma G.K (He.ga G.K "Post") "got")
  f_Post_got : MeP G.K "got" "Post.got" S_Post_got (He.ma G.K (He.ga G.K "Post") "got") (fdOf G.K (He.ma G.K (He.ga G.K "Post") "got"))
  n_Post_got : L2.Binds G.K (fdOf G.K (He.ma G.K (He.ga G.K "Post") "got")) ["self", "person"] []
  m_Post_letter : Meth G.K (He.ga G.K "Post") "letter" (He.ma G.K (He.ga G.K "Post") "letter")
  f_Post_letter : MeP G.K "letter" "Post.letter" S_Post_letter (He.ma G.K (He.ga G.K "Post") "letter") (fdOf G.K (He.ma G.K (He.ga G.K "Post") "letter"))
  n_Post_letter : L2.Binds G.K (fdOf G.K (He.ma G.K (He.ga G.K "Post") "letter")) ["self", "number"] []
  m_Post_twin : Meth G.K (He.ga G.K "Post") "twin" (He.ma G.K (He.ga G.K "Post") "twin")
  f_Post_twin : MeP G.K "twin" "Post.twin" S_Post_twin (He.ma G.K (He.ga G.K "Post") "twin") (fdOf G.K (He.ma G.K (He.ga G.K "Post") "twin"))
  n_Post_twin : L2.Binds G.K (fdOf G.K (He.ma G.K (He.ga G.K "Post") "twin")) ["self"] []
  g_PostError : G.mg "PostError" = some (.ref (He.ga G.K "PostError"))
  e_PostError : PySem.W.excIn G.K (He.ga G.K "PostError") He.veBase "ValueError.__new__" = true ∧ PySem.W.keepIn G.K (.ref (He.ga G.K "PostError")) = true ∧ PySem.W.subIn G.K (.ref (He.ga G.K "PostError")) (.type "BaseException") = some true ∧ PySem.W.typeIn G.K (.ref (He.ga G.K "PostError")) = some (.type "type")
  g_BadBook : G.mg "BadBook" = some (.ref (He.ga G.K "BadBook"))
  g_BadName : G.mg "BadName" = some (.ref (He.ga G.K "BadName"))
  e_BadName : PySem.W.excIn G.K (He.ga G.K "BadName") He.veBase "ValueError.__new__" = true ∧ PySem.W.keepIn G.K (.ref (He.ga G.K "BadName")) = true ∧ PySem.W.subIn G.K (.ref (He.ga G.K "BadName")) (.type "BaseException") = some true ∧ PySem.W.typeIn G.K (.ref (He.ga G.K "BadName")) = some (.type "type")
  g_BadNames : G.mg "BadNames" = some (.ref (He.ga G.K "BadNames"))
  e_BadNames : PySem.W.excIn G.K (He.ga G.K "BadNames") He.veBase "ValueError.__new__" = true ∧ PySem.W.keepIn G.K (.ref (He.ga G.K "BadNames")) = true ∧ PySem.W.subIn G.K (.ref (He.ga G.K "BadNames")) (.type "BaseException") = some true ∧ PySem.W.typeIn G.K (.ref (He.ga G.K "BadNames")) = some (.type "type")
  g_Twice : G.mg "Twice" = some (.ref (He.ga G.K "Twice"))
  e_Twice : PySem.W.excIn G.K (He.ga G.K "Twice") He.veBase "ValueError.__new__" = true ∧ PySem.W.keepIn G.K (.ref (He.ga G.K "Twice")) = true ∧ PySem.W.subIn G.K (.ref (He.ga G.K "Twice")) (.type "BaseException") = some true ∧ PySem.W.typeIn G.K (.ref (He.ga G.K "Twice")) = some (.type "type")
  g_NoLetter : G.mg "NoLetter" = some (.ref (He.ga G.K "NoLetter"))
  e_NoLetter : PySem.W.excIn G.K (He.ga G.K "NoLetter") He.veBase "ValueError.__new__" = true ∧ PySem.W.keepIn G.K (.ref (He.ga G.K "NoLetter")) = true ∧ PySem.W.subIn G.K (.ref (He.ga G.K "NoLetter")) (.type "BaseException") = some true ∧ PySem.W.typeIn G.K (.ref (He.ga G.K "NoLetter")) = some (.type "type")
  g_NotHeld : G.mg "NotHeld" = some (.ref (He.ga G.K "NotHeld"))
  e_NotHeld : PySem.W.excIn G.K (He.ga G.K "NotHeld") He.veBase "ValueError.__new__" = true ∧ PySem.W.keepIn G.K (.ref (He.ga G.K "NotHeld")) = true ∧ PySem.W.subIn G.K (.ref (He.ga G.K "NotHeld")) (.type "BaseException") = some true ∧ PySem.W.typeIn G.K (.ref (He.ga G.K "NotHeld")) = some (.type "type")
  t_reached_by : HasTab G (He.ga G.K "reached_by") "reached_by.<locals>.goes"
  t_stands_for : HasTab G (He.ga G.K "stands_for") "stands_for.<locals>.<lambda>"
  t_Letter_goes : HasTab G (He.ma G.K (He.ga G.K "Letter") "goes") "Letter.goes.<locals>.passes"
/-! ### the law's draws -/
def primes : List Int := [1000003, 1000033, 1000037, 1000039, 1000081, 1000099, 1000117, 1000121, 1000133, 1000151, 1000159, 1000171, 1000183, 1000187, 1000193, 1000199]
def prime (k : Int) : Int := primes.getD (k % 16).toNat 1
def draw (c k m : Int) : Int := (c * 48271 + k * 69621) % prime k % m
theorem prime_pos (k : Int) : 0 < prime k := by
  unfold prime
  have h : ∀ n : Nat, 0 < primes.getD n 1 := by
    intro n
    by_cases hn : n < 16
    · have : ∀ n < 16, 0 < primes.getD n 1 := by decide
      exact this n hn
    · rw [List.getD_eq_getElem?_getD, List.getElem?_eq_none_iff.mpr (by show 16 ≤ n; omega)]; decide
  exact h _
theorem prime_at (k : Int) : atI (primes.map D.int) (k % 16) = some (.int (prime k)) := by
  have h0 : 0 ≤ k % 16 := by omega
  have h1 : k % 16 < 16 := by omega
  unfold atI ixN prime
  rw [if_pos h0, if_pos (by show k % 16 < 16; omega)]
  show (primes.map D.int)[(k % 16).toNat]? = _
  rw [List.getElem?_map, List.getElem?_eq_getElem (by show (k % 16).toNat < 16; omega), List.getD_eq_getElem?_getD, List.getElem?_eq_getElem (by show (k % 16).toNat < 16; omega)]
  rfl
theorem draw_ge (c k m : Int) (h : 0 < m) : 0 ≤ draw c k m := Int.emod_nonneg _ (by omega)
theorem draw_lt (c k m : Int) (h : 0 < m) : draw c k m < m := Int.emod_lt_of_pos _ h
theorem lk_int {i : Int} {xs : List Int} {j : Nat} {y : Int} (e : i = (j : Int)) (h : xs[j]? = some y) : atI (xs.map D.int) i = some (.int y) := by
  subst e
  exact atI_nat (by rw [List.getElem?_map, h]; rfl)
theorem lk_str {i : Int} {xs : List Str} {j : Nat} {y : Str} (e : i = (j : Int)) (h : xs[j]? = some y) : atI (xs.map D.str) i = some (.str y) := by
  subst e
  exact atI_nat (by rw [List.getElem?_map, h]; rfl)
def aDraw (xs : List D) (r : DS) : Prop := ∃ c k m : Int, xs = [.int c, .int k, .int m] ∧ 0 < m ∧ r = .im (.int (draw c k m))
abbrev nDraw : List Str := ["_law_cell", "_law_k", "_law_many", "_law_primes"]
theorem scDraw : FnScope nDraw ["_law_cell", "_law_k", "_law_many"] (defScope S_law_draw) := ⟨rfl, rfl, rfl, by decide +kernel, rfl, by decide +kernel, by decide +kernel⟩
theorem ok_draw {G : Glb} (Z : Facts G) : CallD G 1 "_law_draw" ["_law_cell", "_law_k", "_law_many"] false aDraw := by
  refine ⟨?_, Z.g_law_draw, Z.n_law_draw, Z.f_law_draw.kp⟩
  refine okD (N := nDraw) Z.f_law_draw scDraw (fun xs r ⟨c, k, m, e, _⟩ => by rw [e]; rfl) fun cdv Ar outer s H E hr xs r ⟨c, k, m, e, hm, er⟩ => ?_
  subst e er
  refine dss_cons (ds_set 3 (de_tup (xs := primes.map D.int) (da_cons de_int (da_cons de_int (da_cons de_int (da_cons de_int (da_cons de_int (da_cons de_int (da_cons de_int (da_cons de_int (da_cons de_int (da_cons de_int (da_cons de_int (da_cons de_int (da_cons de_int (da_cons de_int (da_cons de_int (da_cons de_int da_nil)))))))))))))))) (by decide)) ?_ scDraw.nd)
  exact dss_one (ds_ret (de_mod (de_mod (de_add (de_mul (de_var 0 rfl) de_int (.inr (by decide))) (de_mul (de_var 1 rfl) de_int (.inr (by decide)))) (de_ixT (de_var 3 rfl) (de_mod (de_var 1 rfl) de_int (by decide)) (prime_at k)) (prime_pos k)) (de_var 2 rfl) hm) (.inl rfl))
abbrev absI (i : Int) : Int := if i < 0 then -i else i
theorem absI_ge (i : Int) : 0 ≤ absI i := by unfold absI; split <;> omega
def cellAt (sc : List Int) (k : Int) : Int := if k < (sc.length : Int) then absI (sc.getD k.toNat 0) else draw (absI sc.sum + 7919 * k) k 999983
theorem cellAt_ge (sc : List Int) (k : Int) : 0 ≤ cellAt sc k := by
  unfold cellAt
  split
  · exact absI_ge _
  · exact draw_ge _ _ _ (by decide)
def aCell (xs : List D) (r : DS) : Prop := ∃ (sc : List Int) (k : Int), xs = [.lst (sc.map .int), .int k] ∧ 0 ≤ k ∧ r = .im (.int (cellAt sc k))
abbrev nCell : List Str := ["_law_script", "_law_k"]
theorem scCell : FnScope nCell nCell (defScope S_law_cell_at) := ⟨rfl, rfl, rfl, by decide +kernel, rfl, by decide +kernel, by decide +kernel⟩
theorem ok_cell {G : Glb} (Z : Facts G) : CallD G 2 "_law_cell_at" nCell false aCell := by
  refine ⟨?_, Z.g_law_cell_at, Z.n_law_cell_at, Z.f_law_cell_at.kp⟩
  refine okD (N := nCell) Z.f_law_cell_at scCell (fun xs r ⟨c, k, e, _⟩ => by rw [e]; rfl) fun cdv Ar outer s H E hr xs r ⟨sc, k, e, hk, er⟩ => ?_
  subst e er
  refine dss_cons (ds_if (dt_lt (de_var 1 rfl) (de_lenL (de_var 0 rfl) rfl Z.b_len)) (fun hc => ?_) (fun hc => dss_nil ?_))
  · have h1 : k < (sc.length : Int) := by simpa using hc
    have e : cellAt sc k = absI (sc.getD k.toNat 0) := if_pos h1
    rw [e]
    refine dss_one (ds_ret (de_abs (de_ixL (de_var 0 rfl) (de_var 1 rfl) (lk_int (j := k.toNat) (by omega) ?_)) rfl Z.b_abs) (.inl rfl))
    rw [List.getD_eq_getElem?_getD, List.getElem?_eq_getElem (by omega)]
    rfl
  · have h1 : ¬ k < (sc.length : Int) := by simpa using hc
    have e : cellAt sc k = draw (absI sc.sum + 7919 * k) k 999983 := if_neg h1
    rw [e]
    exact dss_one (ds_ret (dv_c (ok_draw Z) hr (da_cons (de_add (de_abs (de_sum (de_var 0 rfl) rfl Z.b_sum) rfl Z.b_abs) (de_mul de_int (de_var 1 rfl) (.inl (by decide)))) (da_cons (de_var 1 rfl) (da_cons de_int da_nil))) ⟨_, _, _, rfl, by decide, rfl⟩) (.inl rfl))

/-! ### numbers below a base -/
def p18 : Int := (10 : Int) ^ ((18 : Int).toNat)
theorem p18_eq : p18 = 1000000000000000000 := by decide
def digSmall (cell base : Int) (t : Int) : Int := (draw ((cell + 977 * t) * (cell + 31 * t + 5)) (t % 9 + 1) 999983 * 1000003 + draw ((cell + 31 * t) * (cell + 7) + 977 * t) (t % 7 + 2) 1000003) % base
def digStep (cell base : Int) (st : Int × List Int) (t : Nat) : Int × List Int :=
  if p18 ≤ cell then (st.1 / base, st.2 ++ [st.1 % base]) else (st.1, st.2 ++ [digSmall cell base (t : Int)])
def digRun (cell base : Int) (n : Nat) : Int × List Int := (List.range n).foldl (digStep cell base) (cell - p18, [])
theorem digRun_succ (cell base : Int) (n : Nat) : digRun cell base (n + 1) = digStep cell base (digRun cell base n) n := by
  unfold digRun
  rw [List.range_succ, List.foldl_append]
  rfl
def digits (sc : List Int) (at_ many base : Int) : List Int := (digRun (cellAt sc at_) base many.toNat).2
theorem digRun_len (cell base : Int) : ∀ n, (digRun cell base n).2.length = n
  | 0 => rfl
  | n + 1 => by
    rw [digRun_succ]
    unfold digStep
    split <;> (rw [List.length_append, digRun_len cell base n]; rfl)
theorem digRun_in (cell base : Int) (h : 0 < base) : ∀ n, ∀ x ∈ (digRun cell base n).2, 0 ≤ x ∧ x < base
  | 0 => fun x hx => by cases hx
  | n + 1 => by
    intro x hx
    rw [digRun_succ] at hx
    unfold digStep at hx
    split at hx
    · rcases List.mem_append.mp hx with z | z
      · exact digRun_in cell base h n x z
      · rw [List.mem_singleton.mp z]
        exact ⟨Int.emod_nonneg _ (by omega), Int.emod_lt_of_pos _ h⟩
    · rcases List.mem_append.mp hx with z | z
      · exact digRun_in cell base h n x z
      · rw [List.mem_singleton.mp z]
        exact ⟨Int.emod_nonneg _ (by omega), Int.emod_lt_of_pos _ h⟩
theorem digits_len (sc : List Int) (at_ many base : Int) : (digits sc at_ many base).length = many.toNat := digRun_len _ _ _
/-- the k-th of the digits -/
def dg (sc : List Int) (at_ many base : Int) (k : Nat) : Int := (digits sc at_ many base).getD k 0
theorem dg_at {sc : List Int} {at_ many base : Int} {k : Nat} (h : k < many.toNat) : (digits sc at_ many base)[k]? = some (dg sc at_ many base k) := by
  have hl : k < (digits sc at_ many base).length := by rw [digits_len]; exact h
  unfold dg
  rw [List.getD_eq_getElem?_getD, List.getElem?_eq_getElem hl]
  rfl
theorem dg_in {sc : List Int} {at_ many base : Int} {k : Nat} (hb : 0 < base) (h : k < many.toNat) : 0 ≤ dg sc at_ many base k ∧ dg sc at_ many base k < base :=
  digRun_in _ _ hb _ _ (List.mem_of_getElem? (dg_at (sc := sc) (at_ := at_) (base := base) h))
def aDig (xs : List D) (r : DS) : Prop := ∃ (sc : List Int) (a m b : Int), xs = [.lst (sc.map .int), .int a, .int m, .int b] ∧ 0 ≤ a ∧ 0 ≤ m ∧ m ≤ 1000 ∧ 0 < b ∧ b < 1073741824 ∧ r = .own ((digits sc a m b).map .int)
abbrev nDig : List Str := ["_law_script", "_law_at", "_law_many", "_law_base", "_law_cell", "_law_found", "_law_left", "_law_turn", "_law_blend", "_law_more"]
abbrev qDig : List Str := ["_law_script", "_law_at", "_law_many", "_law_base"]
theorem scDig : FnScope nDig qDig (defScope S_law_digits) := ⟨rfl, rfl, rfl, by decide +kernel, rfl, by decide +kernel, by decide +kernel⟩
theorem ok_digits {G : Glb} (Z : Facts G) : CallD G 3 "_law_digits" qDig false aDig := by
  refine ⟨?_, Z.g_law_digits, Z.n_law_digits, Z.f_law_digits.kp⟩
  refine okD (N := nDig) Z.f_law_digits scDig (fun xs r ⟨_, _, _, _, e, _⟩ => by rw [e]; rfl) fun cdv Ar outer s H E hr xs r ⟨sc, a, m, b, e, ha, hm, hm2, hb, hb2, er⟩ => ?_
  subst e er
  refine dss_cons (ds_par2 4 5 (dv_c (ok_cell Z) hr (da_cons (de_var 0 rfl) (da_cons (de_var 1 rfl) da_nil)) ⟨_, _, rfl, ha, rfl⟩) (dv_lst da_nil (by decide)) ?_ scDig.nd (by decide)
    (ps_par rfl scDig.nd rfl rfl (by decide) rfl rfl (pa_cons (dv_c (ok_cell Z) hr (da_cons (de_var 0 rfl) (da_cons (de_var 1 rfl) da_nil)) ⟨_, _, rfl, ha, rfl⟩) (pa_cons (dv_lst da_nil (by decide)) pa_nil)) (by rfl)))
  refine dss_cons (ds_set 6 (de_sub (de_var 4 rfl) (de_pow de_int de_int ⟨by decide, by decide, by decide⟩)) ?_ scDig.nd)
  have he : digits sc a m b = (digRun (cellAt sc a) b m.toNat).2 := rfl
  rw [he]
  have hc0 := cellAt_ge sc a
  generalize cellAt sc a = c at hc0 ⊢
  refine dss_cons (ds_forR [7, 8, 9] (fun i => [.im (.lst (sc.map .int)), .im (.int a), .im (.int m), .im (.int b), .im (.int c), .own ((digRun c b i).2.map .int), .im (.int (digRun c b i).1), .no, .no, .no]) (fun d ds1 => ds1.set 7 (.im (.int (0 + (d : Int))))) rfl
    (di_rng1 (de_var 2 rfl) rfl Z.b_range (by omega) (by omega)) (fun d _ ds1 => dg_name 7 scDig.nd) (fun i hi => ?_) ?_ PassesOwn.never)
  · rw [Int.zero_add]
    refine dss_one (ds_if (dt_ge (de_var 4 rfl) (de_pow de_int de_int ⟨by decide, by decide, by decide⟩)) (fun hc => ?_) (fun hc => ?_))
    · have hc' : p18 ≤ c := by simpa [p18] using hc
      refine dss_cons (ds_append 5 rfl (de_mod (de_var 6 rfl) (de_var 3 rfl) hb) (by rw [List.length_map, digRun_len]; omega) ?_)
      refine dss_one (ds_set 6 (de_div (de_var 6 rfl) (de_var 3 rfl) ⟨hb, hb2⟩) ?_ scDig.nd)
      show _ = _
      rw [digRun_succ]
      unfold digStep
      rw [if_pos hc', List.map_append]
      rfl
    · have hc' : ¬ p18 ≤ c := by simpa [p18] using hc
      have hc2 : c < 1000000000000000000 := by rw [p18_eq] at hc'; omega
      refine dss_cons (ds_set 8 (dv_c (ok_draw Z) hr (da_cons (de_mul (de_add (de_var 4 rfl) (de_mul de_int (de_var 7 rfl) (.inl (by decide)))) (de_add (de_add (de_var 4 rfl) (de_mul de_int (de_var 7 rfl) (.inl (by decide)))) de_int) (.inl ⟨by omega, by omega⟩)) (da_cons (de_add (de_mod (de_var 7 rfl) de_int (by decide)) de_int) (da_cons de_int da_nil))) ⟨_, _, _, rfl, by decide, rfl⟩) ?_ scDig.nd)
      refine dss_cons (ds_set 9 (dv_c (ok_draw Z) hr (da_cons (de_add (de_mul (de_add (de_var 4 rfl) (de_mul de_int (de_var 7 rfl) (.inl (by decide)))) (de_add (de_var 4 rfl) de_int) (.inl ⟨by omega, by omega⟩)) (de_mul de_int (de_var 7 rfl) (.inl (by decide)))) (da_cons (de_add (de_mod (de_var 7 rfl) de_int (by decide)) de_int) (da_cons de_int da_nil))) ⟨_, _, _, rfl, by decide, rfl⟩) ?_ scDig.nd)
      refine dss_one (ds_append 5 rfl (de_mod (de_add (de_mul (de_var 8 rfl) de_int (.inr (by decide))) (de_var 9 rfl)) (de_var 3 rfl) hb) (by rw [List.length_map, digRun_len]; omega) ?_)
      show _ = _
      rw [digRun_succ]
      unfold digStep
      rw [if_neg hc', List.map_append]
      rfl
  · exact dss_one (ds_retOwn 5 rfl (.inl rfl))

/-! ### the law's names -/
abbrev lettersS : Str := "abcdefghijklmnopqrstuvwxyz"
def sgn (i : Int) : Str := ⟨#[97 + i.toNat]⟩
theorem letters_at {i : Int} (h0 : 0 ≤ i) (h1 : i < 26) : atI lettersS.cps.toList i = some (97 + i.toNat) := by
  have h : ∀ n < 26, (lettersS.cps.toList)[n]? = some (97 + n) := by decide +kernel
  have e : lettersS.cps.toList.length = 26 := by decide +kernel
  unfold atI ixN
  rw [if_pos h0, if_pos (by rw [e]; omega)]
  exact h _ (by omega)
theorem mulOk {x : Str} {n : Int} (hx : x.length ≤ 1000) (h0 : 0 ≤ n) (hn : n ≤ 1000) : PySem.MulOk x n := by
  have h1 : x.length * n.toNat ≤ 1000 * 1000 := Nat.mul_le_mul hx (by omega : n.toNat ≤ 1000)
  refine ⟨?_, fun h2 h3 => ?_, fun h2 h3 => ?_⟩
  · rw [Bool.or_eq_false_iff]
    exact ⟨decide_eq_false (by omega), decide_eq_false (by omega)⟩
  · have z : (x.length : Int) ≤ (2 ^ 63 - 1) / n := by
      refine Int.le_ediv_of_mul_le (by omega) ?_
      have e : (x.length : Int) * n = ((x.length * n.toNat : Nat) : Int) := by rw [Int.natCast_mul, Int.toNat_of_nonneg h0]
      rw [e]
      omega
    omega
  · exact decide_eq_false (by show ¬ _ > sizeLine; have : sizeLine = 16777216 := rfl; omega)
/-! signs of texts -/
theorem app_l (a b : Str) : (a ++ b).cps.toList = a.cps.toList ++ b.cps.toList := by
  show (a.cps ++ b.cps).toList = _
  simp
theorem app_len (a b : Str) : (a ++ b).length = a.length + b.length := by rw [str_len, str_len, str_len, app_l, List.length_append]
theorem cut_l (z : Str) {k : Int} (h : 0 ≤ k) : (cutS z none (some k)).cps.toList = z.cps.toList.take k.toNat := by
  obtain ⟨n, rfl⟩ : ∃ n : Nat, k = (n : Int) := ⟨k.toNat, by omega⟩
  unfold cutS
  rw [HT.sIx_none, HT.sIx_nat]
  show ((z.cps.toList.drop 0).take _) = _
  rw [List.drop_zero, Nat.sub_zero, Int.toNat_natCast, str_len]
  by_cases hn : n ≤ z.cps.toList.length
  · rw [Nat.min_eq_left hn]
  · rw [Nat.min_eq_right (by omega), List.take_of_length_le (Nat.le_refl _), List.take_of_length_le (by omega)]
theorem cut_len (z : Str) {k : Int} (h : 0 ≤ k) : (cutS z none (some k)).length = min k.toNat z.length := by rw [str_len, cut_l z h, List.length_take, str_len]
theorem foldl_arr (x : Array Nat) : ∀ (n : Nat) (acc : Array Nat), ((List.replicate n x).foldl (· ++ ·) acc).toList = acc.toList ++ (List.replicate n x.toList).flatten
  | 0, acc => by simp
  | n + 1, acc => by
    rw [List.replicate_succ, List.foldl_cons, foldl_arr x n, List.replicate_succ, List.flatten_cons]
    simp
theorem mul_l (z : Str) {n : Int} (h : 0 ≤ n) : (PySem.Txt.mul z n).cps.toList = (List.replicate n.toNat z.cps.toList).flatten := by
  unfold PySem.Txt.mul
  by_cases h1 : n < 1
  · rw [if_pos h1]
    have e : n.toNat = 0 := by omega
    rw [e]
    rfl
  · rw [if_neg h1]
    by_cases h2 : (n == 1 || z.length == 0) = true
    · rw [if_pos h2]
      rcases Bool.or_eq_true_iff.mp h2 with a | a
      · have e : n.toNat = 1 := by
          have := eq_of_beq a
          omega
        rw [e]
        simp
      · have e : z.cps.toList = [] := List.eq_nil_of_length_eq_zero (by rw [← str_len]; exact eq_of_beq a)
        rw [e]
        have : ∀ k : Nat, (List.replicate k ([] : List Nat)).flatten = [] := fun k => by induction k with
          | zero => rfl
          | succ k ih => rw [List.replicate_succ, List.flatten_cons, ih]; rfl
        rw [this]
    · rw [if_neg h2]
      show ((List.replicate n.toNat z.cps).foldl (· ++ ·) #[]).toList = _
      rw [foldl_arr]
      simp
theorem flat_len (l : List Nat) : ∀ n : Nat, (List.replicate n l).flatten.length = n * l.length
  | 0 => by simp
  | n + 1 => by rw [List.replicate_succ, List.flatten_cons, List.length_append, flat_len l n, Nat.succ_mul]; omega
theorem mul_len (z : Str) {n : Int} (h : 0 ≤ n) : (PySem.Txt.mul z n).length = n.toNat * z.length := by rw [str_len, mul_l z h, flat_len, str_len]
/-- a name: one to twenty small letters -/
def okC (c : Nat) : Prop := 97 ≤ c ∧ c ≤ 122
structure Nm (n : Str) : Prop where
  lo : 1 ≤ n.length
  hi : n.length ≤ 20
  all : ∀ c ∈ n.cps.toList, okC c
theorem str_ext {a b : Str} (h : a.cps.toList = b.cps.toList) : a = b := by
  obtain ⟨x⟩ := a
  obtain ⟨y⟩ := b
  congr 1
  exact Array.toList_inj.mp h
theorem sgn_l (i : Int) : (sgn i).cps.toList = [97 + i.toNat] := rfl
theorem sgn_len (i : Int) : (sgn i).length = 1 := rfl
theorem sgn_ok {i : Int} (h0 : 0 ≤ i) (h1 : i < 26) : ∀ c ∈ (sgn i).cps.toList, okC c := fun c hc => by
  rw [sgn_l] at hc
  rw [List.mem_singleton.mp hc]
  unfold okC
  omega
/-- the t-th name by its number -/
def nmTail (d : Int) : Str := PySem.Txt.mul (sgn (d % 26)) (d / 26 % 3) ++ sgn (d / 78 % 26)
def nmAt (a d : Int) (t : Nat) : Str := sgn ((a + 3 * (t : Int)) % 26) ++ cutS (nmTail d) none (some (d / 1521))
theorem nmTail_len (d : Int) : (nmTail d).length ≤ 3 := by
  unfold nmTail
  rw [app_len, mul_len _ (by omega), sgn_len, sgn_len]
  omega
theorem mem_flat {l : List Nat} {c : Nat} : ∀ {n : Nat}, c ∈ (List.replicate n l).flatten → c ∈ l
  | 0, h => by simp at h
  | n + 1, h => by
    rw [List.replicate_succ, List.flatten_cons, List.mem_append] at h
    exact h.elim id mem_flat
theorem nmTail_ok (d : Int) : ∀ c ∈ (nmTail d).cps.toList, okC c := fun c hc => by
  unfold nmTail at hc
  rw [app_l, List.mem_append, mul_l _ (by omega)] at hc
  rcases hc with h | h
  · exact sgn_ok (by omega) (by omega) c (mem_flat h)
  · exact sgn_ok (by omega) (by omega) c h
theorem nmAt_l (a d : Int) (t : Nat) (hd : 0 ≤ d) : (nmAt a d t).cps.toList = (97 + ((a + 3 * (t : Int)) % 26).toNat) :: ((nmTail d).cps.toList.take (d / 1521).toNat) := by
  unfold nmAt
  rw [app_l, sgn_l, cut_l _ (by omega)]
  rfl
theorem nmAt_nm (a d : Int) (t : Nat) (hd : 0 ≤ d) : Nm (nmAt a d t) := by
  have h1 : (nmAt a d t).length ≤ 4 := by
    unfold nmAt
    have := nmTail_len d
    rw [app_len, sgn_len, cut_len _ (by omega)]
    omega
  refine ⟨?_, by omega, fun c hc => ?_⟩
  · rw [str_len, nmAt_l a d t hd]
    simp
  · rw [nmAt_l a d t hd] at hc
    rcases List.mem_cons.mp hc with rfl | h
    · unfold okC; omega
    · exact nmTail_ok d c (List.mem_of_mem_take h)
/-- made long -/
def nmLong (n : Str) (d : Int) : Str := cutS (PySem.Txt.mul n 20) none (some (6 + d % 15))
theorem nmLong_l (n : Str) (d : Int) : (nmLong n d).cps.toList = ((List.replicate 20 n.cps.toList).flatten).take (6 + d % 15).toNat := by
  unfold nmLong
  rw [cut_l _ (by omega), mul_l _ (by decide)]
  rfl
theorem nmLong_nm {n : Str} (h : Nm n) (d : Int) : Nm (nmLong n d) := by
  have e : (nmLong n d).length = min (6 + d % 15).toNat (20 * n.length) := by rw [str_len, nmLong_l, List.length_take, flat_len, str_len]
  have := h.lo
  refine ⟨by rw [e]; omega, by rw [e]; omega, fun c hc => ?_⟩
  rw [nmLong_l] at hc
  exact h.all c (mem_flat (List.mem_of_mem_take hc))
theorem nmLong_head {n : Str} (h : Nm n) (d : Int) : (nmLong n d).cps.toList.head? = n.cps.toList.head? := by
  rw [nmLong_l]
  have h1 := h.lo
  rw [str_len] at h1
  cases e : n.cps.toList with
  | nil => rw [e] at h1; simp at h1
  | cons c r =>
    obtain ⟨k, hk⟩ : ∃ k, (6 + d % 15).toNat = k + 1 := ⟨(6 + d % 15).toNat - 1, by omega⟩
    rw [hk]
    rfl
/-- the first sign -/
def hd (n : Str) : Option Nat := n.cps.toList.head?
def baseNames (ds : List Int) (many : Nat) : List Str := (List.range many).map fun t => nmAt (ds.getD many 0) (ds.getD t 0) t
def longNames (ds : List Int) (at_ : Nat) (l : List Str) : List Str := (List.range l.length).map fun t => nmLong (l.getD t Str.empty) (ds.getD at_ 0)
def names1 (ds : List Int) (many : Nat) : List Str := if ds.getD many 0 / 26 % 3 = 1 then (List.range many).map (fun t => nmLong (nmAt (ds.getD many 0) (ds.getD t 0) t) (ds.getD t 0)) else baseNames ds many
abbrev leftS : Str := "left"
abbrev byS : Str := "by"
def names2 (ds : List Int) (many : Nat) : List Str := if ds.getD many 0 / 26 % 3 = 0 ∧ leftS ∉ names1 ds many ∧ byS ∉ names1 ds many then ((names1 ds many).set (ds.getD many 0 % 2).toNat leftS).set (2 + ds.getD many 0 % 3).toNat byS else names1 ds many
theorem names1_at {ds : List Int} {many t : Nat} {n : Str} (hpos : ∀ d ∈ ds, 0 ≤ d) (h : (names1 ds many)[t]? = some n) : t < many ∧ Nm n ∧ hd n = some (97 + ((ds.getD many 0 + 3 * (t : Int)) % 26).toNat) := by
  have p : ∀ k, 0 ≤ ds.getD k 0 := fun k => by
    rw [List.getD_eq_getElem?_getD]
    cases e : ds[k]? with
    | none => simp
    | some d => exact hpos d (List.mem_of_getElem? e)
  have hr : ∀ {f : Nat → Str}, ((List.range many).map f)[t]? = some n → t < many ∧ n = f t := fun {f} q => by
    rw [List.getElem?_map] at q
    cases e : (List.range many)[t]? with
    | none => rw [e] at q; cases q
    | some j =>
      obtain ⟨h1, h2⟩ := List.getElem?_eq_some_iff.mp e
      rw [List.length_range] at h1
      rw [List.getElem_range] at h2
      rw [e] at q
      subst h2
      exact ⟨h1, (Option.some.inj q).symm⟩
  unfold names1 at h
  split at h
  · obtain ⟨h1, rfl⟩ := hr h
    have z := nmAt_nm (ds.getD many 0) (ds.getD t 0) t (p t)
    refine ⟨h1, nmLong_nm z _, ?_⟩
    unfold hd
    rw [nmLong_head z, nmAt_l _ _ _ (p t)]
    rfl
  · unfold baseNames at h
    obtain ⟨h1, rfl⟩ := hr h
    refine ⟨h1, nmAt_nm _ _ _ (p t), ?_⟩
    unfold hd
    rw [nmAt_l _ _ _ (p t)]
    rfl
theorem names1_len (ds : List Int) (many : Nat) : (names1 ds many).length = many := by
  unfold names1 baseNames
  split <;> rw [List.length_map, List.length_range]
theorem nodup_ix2 {α : Type} {l : List α} : l.Nodup ↔ ∀ i j, i < j → j < l.length → l[i]? ≠ l[j]? := by
  show List.Pairwise (· ≠ ·) l ↔ _
  rw [List.pairwise_iff_getElem]
  constructor
  · intro h i j hij hj e
    rw [List.getElem?_eq_getElem hj, List.getElem?_eq_getElem (by omega)] at e
    exact h i j (by omega) hj hij (Option.some.inj e)
  · intro h i j hi hj hij e
    exact h i j hij hj (by rw [List.getElem?_eq_getElem hj, List.getElem?_eq_getElem hi, e])
theorem names1_nd {ds : List Int} {many : Nat} (hpos : ∀ d ∈ ds, 0 ≤ d) (hm : many ≤ 9) : (names1 ds many).Nodup := by
  rw [nodup_ix2]
  intro i j hij hj e
  have hl := names1_len ds many
  have ej : (names1 ds many)[j]? = some (names1 ds many)[j] := List.getElem?_eq_getElem hj
  have a := names1_at hpos ej
  have b := names1_at hpos (e.trans ej)
  have z := b.2.2.symm.trans a.2.2
  have z2 := Option.some.inj z
  omega
structure Names (ns : List Str) (many : Nat) : Prop where
  len : ns.length = many
  nd : ns.Nodup
  nm : ∀ n ∈ ns, Nm n
theorem nodup_set {l : List Str} {x : Str} (h : l.Nodup) (hx : x ∉ l) (i : Nat) : (l.set i x).Nodup := by
  rw [nodup_ix2] at h ⊢
  intro a b hab hb e
  rw [List.length_set] at hb
  rw [List.getElem?_set, List.getElem?_set] at e
  by_cases h1 : i = a
  · subst h1
    have e2 : some x = l[b]? := by simpa [show i < l.length by omega, show ¬ i = b by omega] using e
    exact hx (List.mem_of_getElem? e2.symm)
  · rw [if_neg h1] at e
    by_cases h2 : i = b
    · subst h2
      rw [if_pos rfl, if_pos hb] at e
      exact hx (List.mem_of_getElem? e)
    · rw [if_neg h2] at e
      exact h a b hab hb e
theorem names2_ok {ds : List Int} {many : Nat} (hpos : ∀ d ∈ ds, 0 ≤ d) (hm : many ≤ 9) : Names (names2 ds many) many := by
  have n1 : Names (names1 ds many) many := ⟨names1_len ds many, names1_nd hpos hm, fun n hn => by
    obtain ⟨i, hi⟩ := List.mem_iff_getElem?.mp hn
    exact (names1_at hpos hi).2.1⟩
  unfold names2
  split
  · rename_i h
    obtain ⟨_, h1, h2⟩ := h
    refine ⟨by rw [List.length_set, List.length_set]; exact n1.len, ?_, fun n hn => ?_⟩
    · refine nodup_set (nodup_set n1.nd h1 _) (fun z => ?_) _
      rcases List.mem_or_eq_of_mem_set z with q | q
      · exact h2 q
      · exact absurd q (by decide +kernel)
    · rcases List.mem_or_eq_of_mem_set hn with q | q
      · rcases List.mem_or_eq_of_mem_set q with q | q
        · exact n1.nm n q
        · subst q
          exact ⟨by decide +kernel, by decide +kernel, by unfold okC; decide +kernel⟩
      · subst q
        exact ⟨by decide +kernel, by decide +kernel, by unfold okC; decide +kernel⟩
  · exact n1

/-! ### the law's names, walked -/
def aLetters (xs : List D) (r : DS) : Prop := xs = [] ∧ r = .im (.str lettersS)
theorem scLetters : FnScope [] [] (defScope S_law_letters) := ⟨rfl, rfl, rfl, by decide +kernel, rfl, by decide +kernel, by decide +kernel⟩
theorem ok_letters {G : Glb} (Z : Facts G) : CallD G 1 "_law_letters" [] false aLetters := by
  refine ⟨?_, Z.g_law_letters, Z.n_law_letters, Z.f_law_letters.kp⟩
  refine okD (N := []) Z.f_law_letters scLetters (fun xs r ⟨e, _⟩ => by rw [e]; rfl) fun cdv Ar outer s H E hr xs r ⟨e, er⟩ => ?_
  subst e er
  exact dss_one (ds_ret de_str (.inl rfl))
abbrev nameDs (sc : List Int) (a m : Int) : List Int := digits sc a (m + 1) (26 * 26 * 9)
def lawNames (sc : List Int) (a m : Int) : List Str := names2 (nameDs sc a m) m.toNat
theorem nameDs_pos (sc : List Int) (a m : Int) : ∀ d ∈ nameDs sc a m, 0 ≤ d := fun d hd => (digRun_in _ _ (by decide) _ d hd).1
theorem lawNames_ok (sc : List Int) (a : Int) {m : Int} (hm : m ≤ 9) : Names (lawNames sc a m) m.toNat := names2_ok (nameDs_pos sc a m) (by omega)
def aNames (xs : List D) (r : DS) : Prop := ∃ (sc : List Int) (a m : Int), xs = [.lst (sc.map .int), .int a, .int m] ∧ 0 ≤ a ∧ 5 ≤ m ∧ m ≤ 9 ∧ r = .own ((lawNames sc a m).map .str)
abbrev nNames : List Str := ["_law_script", "_law_at", "_law_many", "_law_draws", "_law_found", "_law_turn", "_law_first", "_law_number", "_law_tail", "_law_name"]
abbrev qNames : List Str := ["_law_script", "_law_at", "_law_many"]
theorem scNames : FnScope nNames qNames (defScope S_law_names) := ⟨rfl, rfl, rfl, by decide +kernel, rfl, by decide +kernel, by decide +kernel⟩
theorem ix_nat {n : Nat} {i : Int} {k : Nat} (e : i = (k : Int)) (h : k < n) : ixN n i = some k := by
  subst e
  unfold ixN
  rw [if_pos (by omega), if_pos (by omega)]
  rfl
/-- the last two statements -/
theorem names_end {G : Glb} (Z : Facts G) {cdv : Value} {Ar : Around} {outer : List Env} {s : Shared} {H : Hp} {E : XK} (hr : Room 3 (Ar.deeper (envOfC "_law_names" (defScope S_law_names) s.heap.objs.size (He.ga G.K "_law_names") cdv))) {sc : List Int} {a m : Int} {dsx : List Int} (hm : 5 ≤ m) (hm2 : m ≤ 9)
    (hp : ∀ d ∈ dsx, 0 ≤ d) (hl : dsx.length = m.toNat + 1) (hn1 : Names (names1 dsx m.toNat) m.toNat) (gd : ∀ k : Nat, k ≤ m.toNat → dsx[k]? = some (dsx.getD k 0) ∧ 0 ≤ dsx.getD k 0) {o5 o6 o7 o8 o9 : DS} :
    DSs (cxOf CX0 G.P G.w G.K G.mg G.base nNames "_law_names" (defScope S_law_names) (He.ga G.K "_law_names") cdv Ar outer s H E).nox G.T W0 false ((defBody S_law_names).drop 3) [.im (.lst (sc.map .int)), .im (.int a), .im (.int m), .im (.lst (dsx.map .int)), .own ((names1 dsx m.toNat).map .str), o5, o6, o7, o8, o9]
      { nx := fun _ => DS.own ((names2 dsx m.toNat).map D.str) = .im .non, rt := fun t => t = .own ((names2 dsx m.toNat).map D.str) ∨ t.fz = .own ((names2 dsx m.toNat).map D.str) } := by
  have gm := gd m.toNat (Nat.le_refl _)
  obtain ⟨dm, hdm⟩ : ∃ dm, dm = dsx.getD m.toNat 0 := ⟨_, rfl⟩
  rw [← hdm] at gm
  have hlen := hn1.len
  refine dss_cons (ds_if (dt_w (dw_and (dt_eqI (de_mod (de_div (de_ixL (de_var 3 rfl) (de_var 2 rfl) (lk_int (j := m.toNat) (by omega) gm.1)) de_int ⟨by decide, by decide⟩) de_int (by decide)) de_int) fun _ => dw_and (dt_view 4 rfl rfl (dt_niS de_str (de_var 4 rfl))) fun _ => dw_and1 (dt_view 4 rfl rfl (dt_niS de_str (de_var 4 rfl))))) (fun hc => ?_) (fun hc => ?_))
  · have hc' : dm / 26 % 3 = 0 ∧ leftS ∉ names1 dsx m.toNat ∧ byS ∉ names1 dsx m.toNat := by simpa using hc
    have e : names2 dsx m.toNat = ((names1 dsx m.toNat).set (dm % 2).toNat leftS).set (2 + dm % 3).toNat byS := by
      unfold names2
      rw [← hdm, if_pos hc']
    rw [e]
    refine dss_cons (ds_setI 4 rfl (de_mod (de_ixL (de_var 3 rfl) (de_var 2 rfl) (lk_int (j := m.toNat) (by omega) gm.1)) de_int (by decide)) de_str (ix_nat (k := (dm % 2).toNat) (by omega) (by rw [List.length_map, hlen]; omega)) ?_)
    refine dss_one (ds_setI 4 rfl (de_add de_int (de_mod (de_ixL (de_var 3 rfl) (de_var 2 rfl) (lk_int (j := m.toNat) (by omega) gm.1)) de_int (by decide))) de_str (ix_nat (k := (2 + dm % 3).toNat) (by omega) (by rw [List.length_set, List.length_map, hlen]; omega)) ?_)
    rw [← List.map_set, ← List.map_set]
    exact dss_one (ds_retOwn 4 rfl (.inl rfl))
  · have hc' : ¬ (dm / 26 % 3 = 0 ∧ leftS ∉ names1 dsx m.toNat ∧ byS ∉ names1 dsx m.toNat) := by simpa using hc
    have e : names2 dsx m.toNat = names1 dsx m.toNat := by
      unfold names2
      rw [← hdm, if_neg hc']
    rw [e]
    exact dss_nil (dss_one (ds_retOwn 4 rfl (.inl rfl)))
theorem ok_names {G : Glb} (Z : Facts G) : CallD G 4 "_law_names" qNames false aNames := by
  refine ⟨?_, Z.g_law_names, Z.n_law_names, Z.f_law_names.kp⟩
  refine okD (N := nNames) Z.f_law_names scNames (fun xs r ⟨_, _, _, e, _⟩ => by rw [e]; rfl) fun cdv Ar outer s H E hr xs r ⟨sc, a, m, e, ha, hm, hm2, er⟩ => ?_
  subst e er
  refine dss_cons (ds_p2t 3 4 (de_own (dv_c (ok_digits Z) hr (da_cons (de_var 0 rfl) (da_cons (de_var 1 rfl) (da_cons (de_add (de_var 2 rfl) de_int) (da_cons (de_mul (de_mul de_int de_int (.inr (by decide))) de_int (.inr (by decide))) da_nil)))) ⟨sc, a, m + 1, 26 * 26 * 9, rfl, ha, by omega, by omega, by decide, by decide, rfl⟩)) (dv_lst da_nil (by decide)) ?_ scNames.nd)
  have hl : (nameDs sc a m).length = m.toNat + 1 := by rw [digits_len]; omega
  have hp := nameDs_pos sc a m
  show DSs _ _ _ _ _ [.im (.lst (sc.map .int)), .im (.int a), .im (.int m), .im (.lst ((nameDs sc a m).map .int)), .own [], .no, .no, .no, .no, .no] _
  unfold lawNames
  generalize nameDs sc a m = dsx at hl hp ⊢
  have gd : ∀ k : Nat, k ≤ m.toNat → dsx[k]? = some (dsx.getD k 0) ∧ 0 ≤ dsx.getD k 0 := fun k hk => by
    have h1 : k < dsx.length := by omega
    rw [List.getD_eq_getElem?_getD, List.getElem?_eq_getElem h1]
    exact ⟨rfl, hp _ (List.getElem_mem h1)⟩
  have gm := gd m.toNat (Nat.le_refl _)
  have ok1 : ∀ {i : Int} (h0 : 0 ≤ i) (h1 : i < 26), (D.str ⟨#[97 + i.toNat]⟩ : D) = .str (sgn i) := fun _ _ => rfl
  have lz : lettersS.length ≤ sizeLine := by decide +kernel
  refine dss_cons (ds_forR [5, 6, 7, 8, 9] (fun i => [.im (.lst (sc.map .int)), .im (.int a), .im (.int m), .im (.lst (dsx.map .int)), .own (((List.range i).map fun t => nmAt (dsx.getD m.toNat 0) (dsx.getD t 0) t).map .str), .no, .no, .no, .no, .no]) (fun d ds1 => ds1.set 5 (.im (.int (0 + (d : Int))))) rfl
    (di_rng1 (de_var 2 rfl) rfl Z.b_range (by omega) (by omega)) (fun d _ ds1 => dg_name 5 scNames.nd) (fun i hi => ?_) ?_ PassesOwn.never)
  · rw [Int.zero_add]
    have gi := gd i (by omega)
    obtain ⟨di, hdi⟩ : ∃ di, di = dsx.getD i 0 := ⟨_, rfl⟩
    rw [← hdi] at gi
    refine dss_cons (ds_set 6 (de_ixS (dv_c0 (ok_letters Z) hr ⟨rfl, rfl⟩) (de_mod (de_add (de_ixL (de_var 3 rfl) (de_var 2 rfl) (lk_int (j := m.toNat) (by omega) gm.1)) (de_mul de_int (de_var 5 rfl) (.inl (by decide)))) de_int (by decide)) lz (letters_at (by omega) (by omega))) ?_ scNames.nd)
    refine dss_cons (ds_set 7 (de_ixL (de_var 3 rfl) (de_var 5 rfl) (lk_int (j := i) rfl gi.1)) ?_ scNames.nd)
    refine dss_cons (ds_set 8 (de_addS (de_mulS (de_ixS (dv_c0 (ok_letters Z) hr ⟨rfl, rfl⟩) (de_mod (de_var 7 rfl) de_int (by decide)) lz (letters_at (by omega) (by omega))) (de_mod (de_div (de_var 7 rfl) de_int ⟨by decide, by decide⟩) de_int (by decide)) (mulOk (by show 1 ≤ 1000; decide) (by omega) (by omega)))
      (de_ixS (dv_c0 (ok_letters Z) hr ⟨rfl, rfl⟩) (de_mod (de_div (de_var 7 rfl) de_int ⟨by decide, by decide⟩) de_int (by decide)) lz (letters_at (by omega) (by omega))) ?_) ?_ scNames.nd)
    · show (PySem.Txt.mul (sgn (di % 26)) (di / 26 % 3)).length + 1 ≤ sizeLine
      rw [mul_len _ (by omega), sgn_len]
      have : sizeLine = 16777216 := rfl
      omega
    have tl := nmTail_len di
    have sl : sizeLine = 16777216 := rfl
    refine dss_one (ds_append 4 rfl (de_addS (de_var 6 rfl) (de_slS (de_var 8 rfl) do_none (do_some (de_div (de_var 7 rfl) de_int ⟨by decide, by decide⟩)) ?_) ?_) (by rw [List.length_map, List.length_map, List.length_range]; omega) ?_)
    · show (nmTail di).length ≤ sizeLine
      omega
    · show 1 + (cutS (nmTail di) none (some (di / 1521))).length ≤ sizeLine
      rw [cut_len _ (by omega)]
      omega
    · show _ = _
      rw [List.range_succ, List.map_append, List.map_append, List.map_cons, ← hdi]
      rfl
  · obtain ⟨dm, hdm⟩ : ∃ dm, dm = dsx.getD m.toNat 0 := ⟨_, rfl⟩
    have hbase : (List.range m.toNat).map (fun t => nmAt (dsx.getD m.toNat 0) (dsx.getD t 0) t) = baseNames dsx m.toNat := rfl
    have hbl : (baseNames dsx m.toNat).length = m.toNat := by unfold baseNames; rw [List.length_map, List.length_range]
    rw [hbase]
    rw [← hdm] at gm
    have hn1 : Names (names1 dsx m.toNat) m.toNat := ⟨names1_len _ _, names1_nd hp (by omega), fun n hn => by
      obtain ⟨i, hi⟩ := List.mem_iff_getElem?.mp hn
      exact (names1_at hp hi).2.1⟩
    refine dss_cons (ds_if (dt_eqI (de_mod (de_div (de_ixL (de_var 3 rfl) (de_var 2 rfl) (lk_int (j := m.toNat) (by omega) gm.1)) de_int ⟨by decide, by decide⟩) de_int (by decide)) de_int) (fun hc => ?_) (fun hc => ?_))
    · have hc' : dm / 26 % 3 = 1 := by simpa using hc
      have e1 : names1 dsx m.toNat = (List.range m.toNat).map (fun t => nmLong (nmAt (dsx.getD m.toNat 0) (dsx.getD t 0) t) (dsx.getD t 0)) := by
        unfold names1
        rw [if_pos (by rw [← hdm]; exact hc')]
      refine dss_freeze 4 rfl rfl (dss_one (ds_setLcP 4 (ev := enE D.str) (xs := (baseNames dsx m.toNat).zipIdx) (own := [("_law_at", 1), ("_law_name", 9)]) (js := [1, 9]) (fun q => ([.im (.lst (sc.map .int)), .im (.int (q.2 : Int)), .im (.int m), .im (.lst (dsx.map .int)), .im (.lst ((baseNames dsx m.toNat).map .str)), .no, .no, .no, .no, .im (.str q.1)]))
        (fun _ => true) (fun q => .str (nmLong q.1 (dsx.getD q.2 0))) (by rw [← enumD_map]; exact di_enum (de_var 4 rfl) rfl Z.b_enumerate) (by rw [List.length_zipIdx, hbl]; omega) scNames.nd (blkOk_by (N := nNames) (sc := defScope S_law_names) (by decide +kernel))
        (fun s H C cl fp d hd => ?_) (fun s H C cl fp d hd => dts_nil) (fun s H C cl fp d hd _ => ?_) ?_))
      · exact dg_tup (dgs_cons (dg_name 1 scNames.nd) (dgs_cons (dg_name 9 scNames.nd) dgs_nil))
      · obtain ⟨i, hi⟩ := List.mem_iff_getElem?.mp hd
        obtain ⟨q1, q2⟩ := zi_get hi
        have q3 : d.2 < m.toNat := by
          rw [q1]
          have := (List.getElem?_eq_some_iff.mp q2).1
          omega
        have q4 : Nm d.1 := by
          unfold baseNames at q2
          rw [List.getElem?_map, List.getElem?_eq_getElem (by rw [List.length_range]; omega), List.getElem_range] at q2
          rw [← Option.some.inj q2]
          exact nmAt_nm _ _ _ (gd i (by omega)).2
        have q5 := gd d.2 (by omega)
        have := q4.hi
        have sl : sizeLine = 16777216 := rfl
        exact de_slS (de_mulS (de_var 9 rfl) de_int (mulOk (by omega) (by decide) (by decide))) do_none (do_some (de_add de_int (de_mod (de_ixL (de_var 3 rfl) (de_var 1 rfl) (lk_int (j := d.2) rfl q5.1)) de_int (by decide)))) (by rw [mul_len _ (by decide)]; show 20 * _ ≤ _; omega)
      · have e2 : (((baseNames dsx m.toNat).zipIdx.filter fun _ => true).map fun q => D.str (nmLong q.1 (dsx.getD q.2 0))) = (names1 dsx m.toNat).map D.str := by
          rw [List.filter_eq_self.mpr fun _ _ => rfl, e1]
          apply List.ext_getElem?
          intro i
          rw [List.getElem?_map, List.getElem?_map, List.getElem?_map, List.getElem?_zipIdx]
          unfold baseNames
          rw [List.getElem?_map]
          cases e : (List.range m.toNat)[i]? with
          | none => rfl
          | some a =>
            obtain ⟨_, rfl⟩ := rng_get e
            show some (D.str (nmLong _ (dsx.getD (0 + a) 0))) = _
            rw [Nat.zero_add]
            rfl
        rw [e2]
        exact names_end Z hr hm hm2 hp hl hn1 gd (o5 := .no) (o6 := .no) (o7 := .no) (o8 := .no) (o9 := .no)
    · have hc' : ¬ dm / 26 % 3 = 1 := by simpa using hc
      have e1 : names1 dsx m.toNat = baseNames dsx m.toNat := by
        unfold names1
        rw [if_neg (by rw [← hdm]; exact hc')]
      rw [← e1]
      exact dss_nil (names_end Z hr hm hm2 hp hl hn1 gd (o5 := .no) (o6 := .no) (o7 := .no) (o8 := .no) (o9 := .no))

/-! ### some of the names -/
def someStep (num : Int) (acc : List Str) (p : Str × Nat) : List Str :=
  if Builtin.bitAnd (num / 2 ^ ((p.2 : Int).toNat)) 1 = 1 then acc.take (num / 1009 * ((p.2 : Int) + 1) % ((acc.length : Int) + 1)).toNat ++ [p.1] ++ acc.drop (num / 1009 * ((p.2 : Int) + 1) % ((acc.length : Int) + 1)).toNat else acc
def someRun (ns : List Str) (num : Int) (i : Nat) : List Str := (ns.zipIdx.take i).foldl (someStep num) []
def some_ (ns : List Str) (num : Int) : List Str := ns.zipIdx.foldl (someStep num) []
theorem someRun_succ {ns : List Str} {num : Int} {i : Nat} {a : Str} (h : ns[i]? = some a) : someRun ns num (i + 1) = someStep num (someRun ns num i) (a, i) := by
  unfold someRun
  have e : ns.zipIdx[i]? = some (a, i) := by rw [List.getElem?_zipIdx, h, Nat.zero_add]; rfl
  rw [List.take_succ, e, List.foldl_append]
  rfl
theorem someRun_end (ns : List Str) (num : Int) : someRun ns num ns.length = some_ ns num := by
  unfold someRun some_
  rw [List.take_of_length_le (by rw [List.length_zipIdx]; exact Nat.le_refl _)]
theorem perm_ins (l : List Str) (x : Str) (k : Nat) : (l.take k ++ [x] ++ l.drop k).Perm (x :: l) := by
  rw [List.append_assoc]
  refine List.perm_middle.trans ?_
  show (x :: (l.take k ++ l.drop k)).Perm (x :: l)
  rw [List.take_append_drop]
theorem someRun_ok {ns : List Str} {num : Int} (hn : ns.Nodup) : ∀ i, i ≤ ns.length → (someRun ns num i).Nodup ∧ ∀ x ∈ someRun ns num i, x ∈ ns.take i
  | 0, _ => ⟨List.nodup_nil, fun x hx => by cases hx⟩
  | i + 1, hi => by
    have e : ns[i]? = some ns[i] := List.getElem?_eq_getElem hi
    obtain ⟨a, b⟩ := someRun_ok (num := num) hn i (by omega)
    have et : ns.take (i + 1) = ns.take i ++ [ns[i]] := by rw [List.take_succ, e]; rfl
    have nt : (ns.take (i + 1)).Nodup := hn.sublist (List.take_sublist _ _)
    rw [et] at nt
    have ni : ns[i] ∉ ns.take i := fun z => by
      have := (List.nodup_append.mp nt).2.2 _ z _ (List.mem_singleton_self _)
      exact this rfl
    rw [someRun_succ e]
    unfold someStep
    split
    · have p := perm_ins (someRun ns num i) ns[i] (num / 1009 * (((ns[i], i) : Str × Nat).2 + 1 : Int) % ((someRun ns num i).length + 1 : Int)).toNat
      refine ⟨p.nodup_iff.mpr (List.nodup_cons.mpr ⟨fun z => ni (b _ z), a⟩), fun x hx => ?_⟩
      rw [et]
      rcases List.mem_cons.mp (p.mem_iff.mp hx) with rfl | z
      · exact List.mem_append_right _ (List.mem_singleton_self _)
      · exact List.mem_append_left _ (b x z)
    · refine ⟨a, fun x hx => ?_⟩
      rw [et]
      exact List.mem_append_left _ (b x hx)
theorem some_ok {ns : List Str} (num : Int) (hn : ns.Nodup) : (some_ ns num).Nodup ∧ ∀ x ∈ some_ ns num, x ∈ ns := by
  have h := someRun_ok (num := num) hn ns.length (Nat.le_refl _)
  rw [someRun_end, List.take_length] at h
  exact h
theorem someRun_len (ns : List Str) (num : Int) : ∀ i, i ≤ ns.length → (someRun ns num i).length ≤ i
  | 0, _ => Nat.le_refl _
  | i + 1, hi => by
    rw [someRun_succ (List.getElem?_eq_getElem hi)]
    have := someRun_len ns num i (by omega)
    unfold someStep
    split
    · rw [List.length_append, List.length_append, List.length_take, List.length_drop, List.length_singleton]
      omega
    · omega
theorem some_len (ns : List Str) (num : Int) : (some_ ns num).length ≤ ns.length := by rw [← someRun_end]; exact someRun_len ns num _ (Nat.le_refl _)
def aSome (xs : List D) (r : DS) : Prop := ∃ (ns : List Str) (num : Int), xs = [.lst (ns.map .str), .int num] ∧ ns.length ≤ 1000 ∧ r = .own ((some_ ns num).map .str)
abbrev nSome : List Str := ["_law_names_here", "_law_number", "_law_found", "_law_at", "_law_name"]
abbrev qSome : List Str := ["_law_names_here", "_law_number"]
theorem scSome : FnScope nSome qSome (defScope S_law_some) := ⟨rfl, rfl, rfl, by decide +kernel, rfl, by decide +kernel, by decide +kernel⟩
theorem ok_some {G : Glb} (Z : Facts G) : CallD G 1 "_law_some" qSome false aSome := by
  refine ⟨?_, Z.g_law_some, Z.n_law_some, Z.f_law_some.kp⟩
  refine okD (N := nSome) Z.f_law_some scSome (fun xs r ⟨_, _, e, _⟩ => by rw [e]; rfl) fun cdv Ar outer s H E hr xs r ⟨ns, num, e, hn, er⟩ => ?_
  subst e er
  refine dss_cons (ds_set 2 (dv_lst da_nil (by decide)) ?_ scSome.nd)
  refine dss_cons (ds_forN [3, 4] (fun i => [.im (.lst (ns.map .str)), .im (.int num), .own ((someRun ns num i).map .str), .no, .no]) (fun i a ds1 => (ds1.set 3 (.im (.int (i : Int)))).set 4 (.im (.str a))) rfl (di_enum (de_var 0 rfl) rfl Z.b_enumerate)
    (fun i a _ ds1 => dg_tup (dgs_cons (dg_name 3 scSome.nd) (dgs_cons (dg_name 4 scSome.nd) dgs_nil))) (fun i a ha => ?_) ?_ PassesOwn.never)
  · have hi : i < ns.length := (List.getElem?_eq_some_iff.mp ha).1
    have hl := someRun_len ns num i (by omega)
    refine dss_one (ds_if (dt_eqI (de_band (de_shr (de_var 1 rfl) (de_var 3 rfl) (by omega)) de_int) de_int) (fun hc => ?_) (fun hc => ?_))
    · have hc' : Builtin.bitAnd (num / 2 ^ ((i : Int).toNat)) 1 = 1 := by simpa using hc
      refine dss_one (ds_insert 2 rfl (de_mod (de_mul (de_div (de_var 1 rfl) de_int ⟨by decide, by decide⟩) (de_add (de_var 3 rfl) de_int) (.inr ⟨by omega, by omega⟩)) (de_add (de_view 2 rfl rfl rfl (de_lenL (de_var 2 rfl) rfl Z.b_len)) de_int) (by omega)) (de_var 4 rfl) (by rw [List.length_map]; omega) (Int.emod_nonneg _ (by omega)) ?_ ?_)
      · rw [List.length_map]
        have := Int.emod_lt_of_pos (num / 1009 * ((i : Int) + 1)) (by omega : (0 : Int) < ((someRun ns num i).length : Int) + 1)
        omega
      · show _ = _
        rw [someRun_succ ha]
        unfold someStep
        rw [if_pos hc', List.length_map, ← List.map_take, ← List.map_drop, List.map_append, List.map_append]
        rfl
    · have hc' : ¬ Builtin.bitAnd (num / 2 ^ ((i : Int).toNat)) 1 = 1 := by simpa using hc
      refine dss_nil ?_
      show _ = _
      rw [someRun_succ ha]
      unfold someStep
      rw [if_neg hc']
      rfl
  · rw [someRun_end]
    exact dss_one (ds_retOwn 2 rfl (.inl rfl))

/-! ### names, as the program looks at them -/
abbrev LET : List Nat := lettersS.cps.toList
def isNm (d : D) : Bool := match d with
  | .str z => (decide (1 ≤ (z.length : Int)) && decide ((z.length : Int) ≤ 20)) && z.cps.toList.all fun c => decide (c ∈ LET)
  | _ => false
theorem let_ok {c : Nat} (h : okC c) : c ∈ LET := by
  have q : ∀ c < 123, 97 ≤ c → c ∈ LET := by decide +kernel
  unfold okC at h
  exact q c (by omega) h.1
theorem let_of {c : Nat} (h : c ∈ LET) : okC c := by
  have q : ∀ c ∈ LET, 97 ≤ c ∧ c ≤ 122 := by decide +kernel
  exact q c h
theorem isNm_of {n : Str} (h : Nm n) : isNm (.str n) = true := by
  have h1 := h.lo
  have h2 := h.hi
  unfold isNm
  show ((decide (1 ≤ (n.length : Int)) && decide ((n.length : Int) ≤ 20)) && n.cps.toList.all fun c => decide (c ∈ LET)) = true
  rw [decide_eq_true (by omega), decide_eq_true (by omega), Bool.and_true, Bool.true_and, List.all_eq_true]
  exact fun c hc => decide_eq_true (let_ok (h.all c hc))
theorem of_isNm {n : Str} (h : isNm (.str n) = true) : Nm n := by
  have h' : ((decide (1 ≤ (n.length : Int)) && decide ((n.length : Int) ≤ 20)) && n.cps.toList.all fun c => decide (c ∈ LET)) = true := h
  rw [Bool.and_eq_true, Bool.and_eq_true, decide_eq_true_eq, decide_eq_true_eq, List.all_eq_true] at h'
  exact ⟨by omega, by omega, fun c hc => let_of (of_decide_eq_true (h'.2 c hc))⟩
theorem kit_non_str : kitB "NoneType" "str" = some false := by decide +kernel
theorem kit_bool_str : kitB "bool" "str" = some false := by decide +kernel
theorem kit_int_str : kitB "int" "str" = some false := by decide +kernel
theorem kit_list_str : kitB "list" "str" = some false := by decide +kernel
theorem kit_tuple_str : kitB "tuple" "str" = some false := by decide +kernel
def Fine (d : D) : Prop := tyD d ≠ "?" ∧ ∀ z, d = .str z → z.length ≤ 100000
def aIsName (xs : List D) (r : DS) : Prop := ∃ d, xs = [d] ∧ Fine d ∧ r = .im (.bl (isNm d))
abbrev nIsName : List Str := ["thing", "sign"]
theorem scIsName : FnScope nIsName ["thing"] (defScope S_is_name) := ⟨rfl, rfl, rfl, by decide +kernel, rfl, by decide +kernel, by decide +kernel⟩
theorem ok_is_name {G : Glb} (Z : Facts G) : CallD G 1 "is_name" ["thing"] false aIsName := by
  refine ⟨?_, Z.g_is_name, Z.n_is_name, Z.f_is_name.kp⟩
  refine okD (N := nIsName) Z.f_is_name scIsName (fun xs r ⟨_, e, _⟩ => by rw [e]; rfl) fun cdv Ar outer s H E hr xs r ⟨d, e, hf, er⟩ => ?_
  subst e er
  by_cases hs : ∃ z, d = .str z
  · obtain ⟨z, rfl⟩ := hs
    have hz := hf.2 z rfl
    have hz2 : z.length ≤ sizeLine := Nat.le_trans hz (by decide)
    refine dss_cons (ds_if (dt_w (dw_or (dt_not (dt_val (de_isi (n := "str") (b := true) (de_var 0 rfl) (de_ty rfl Z.b_str (by decide +kernel)) (by show "str" ≠ "?"; decide) (show kitB "str" "str" = some true by decide +kernel) rfl Z.b_isinstance))) fun _ => dw_or1 (dt_not (dt_leLe de_int (de_lenS (de_var 0 rfl) hz2 rfl Z.b_len) (de_gint rfl Z.c_LONGEST))))) (fun hc => ?_) (fun hc => ?_))
    · have e : isNm (.str z) = false := by
        show ((decide (1 ≤ (z.length : Int)) && decide ((z.length : Int) ≤ 20)) && z.cps.toList.all fun c => decide (c ∈ LET)) = false
        have h : (decide (1 ≤ (z.length : Int)) && decide ((z.length : Int) ≤ 20)) = false := by
          cases ha : (decide (1 ≤ (z.length : Int)) && decide ((z.length : Int) ≤ 20)) with
          | false => rfl
          | true => rw [ha] at hc; cases hc
        rw [h]
        rfl
      rw [e]
      exact dss_one (ds_ret de_bl (.inl rfl))
    · have e : isNm (.str z) = z.cps.toList.all fun c => decide (c ∈ LET) := by
        show ((decide (1 ≤ (z.length : Int)) && decide ((z.length : Int) ≤ 20)) && z.cps.toList.all fun c => decide (c ∈ LET)) = _
        have h : (decide (1 ≤ (z.length : Int)) && decide ((z.length : Int) ≤ 20)) = true := by
          cases ha : (decide (1 ≤ (z.length : Int)) && decide ((z.length : Int) ≤ 20)) with
          | true => rfl
          | false => rw [ha] at hc; cases hc
        rw [h]
        rfl
      rw [e]
      refine dss_nil (dss_one (ds_ret (dv_is (de_all (bs := z.cps.toList.map fun c => decide (c ∈ LET)) (dv_is (de_own (dv_lcP (ev := fun c => D.str ⟨#[c]⟩) (xs := z.cps.toList) (own := [("sign", 1)]) (js := [1]) (fun c => [.im (.str z), .im (.str ⟨#[c]⟩)]) (fun _ => true) (fun c => .bl (decide (c ∈ LET))) (di_str (de_var 0 rfl))
        (by rw [← str_len]; exact hz) scIsName.nd (blkOk_by (N := nIsName) (sc := defScope S_is_name) (by decide +kernel)) (fun s H C cl fp c hc => dg_name 1 scIsName.nd) (fun s H C cl fp c hc => dts_nil) (fun s H C cl fp c hc _ => de_inC (de_var 1 rfl) (de_gstr rfl Z.c_LETTERS)))) ?_) rfl Z.b_all) rfl) (.inl ?_)))
      · rw [List.filter_eq_self.mpr fun _ _ => rfl, List.map_map]
        rfl
      · rw [List.all_map]
        rfl
  · have e : isNm d = false := by
      cases d <;> first | rfl | exact absurd ⟨_, rfl⟩ hs
    have ht : kitB (tyD d) "str" = some false := by
      have h1 := hf.1
      cases d with
      | non => exact kit_non_str
      | bl b => exact kit_bool_str
      | int i => exact kit_int_str
      | str z => exact absurd ⟨_, rfl⟩ hs
      | lst xs => exact kit_list_str
      | tup xs => exact kit_tuple_str
      | ty n => exact absurd rfl h1
      | dic k => exact absurd rfl h1
      | ins c f => exact absurd rfl h1
      | fn k d g => exact absurd rfl h1
      | clo F oe => exact absurd rfl h1
      | any => exact absurd rfl h1
      | cloE F oe => exact absurd rfl h1
    rw [e]
    exact dss_cons (ds_if (dt_w (dw_or (y := false) (dt_not (dt_val (de_isi (n := "str") (b := false) (de_var 0 rfl) (de_ty rfl Z.b_str (by decide +kernel)) hf.1 ht rfl Z.b_isinstance))) fun h => by cases h)) (fun hc => dss_one (ds_ret de_bl (.inl rfl))) (fun hc => by cases hc))

/-! ### lists of names; what a letter is -/
def strOf (d : D) : Option Str := match d with
  | .str z => some z
  | _ => none
theorem strs_back : ∀ {xs : List D}, xs.all isNm = true → xs = (xs.filterMap strOf).map D.str
  | [], _ => rfl
  | d :: xs, h => by
    rw [List.all_cons, Bool.and_eq_true] at h
    obtain ⟨z, rfl⟩ : ∃ z, d = .str z := by
      have h1 := h.1
      cases d with
      | str z => exact ⟨z, rfl⟩
      | non => cases h1
      | bl b => cases h1
      | int i => cases h1
      | lst xs => cases h1
      | tup xs => cases h1
      | ty n => cases h1
      | dic k => cases h1
      | ins c f => cases h1
      | fn k d g => cases h1
      | clo F oe => cases h1
      | any => cases h1
      | cloE F oe => cases h1
    show D.str z :: xs = D.str z :: (xs.filterMap strOf).map D.str
    rw [← strs_back h.2]
def areNm (d : D) : Bool := match d with
  | .lst xs => xs.all isNm && decide (((SetK.dd (xs.filterMap strOf)).length : Int) = (xs.length : Int))
  | _ => false
theorem filter_strs : ∀ ns : List Str, (ns.map D.str).filterMap strOf = ns
  | [] => rfl
  | n :: ns => by
    show n :: (ns.map D.str).filterMap strOf = _
    rw [filter_strs]
theorem areNm_of {ns : List Str} (h : ∀ n ∈ ns, Nm n) (hd : ns.Nodup) : areNm (.lst (ns.map .str)) = true := by
  show ((ns.map D.str).all isNm && decide (((SetK.dd ((ns.map D.str).filterMap strOf)).length : Int) = ((ns.map D.str).length : Int))) = true
  rw [filter_strs, (SetK.dd_len_eq ns).mpr hd, List.length_map, decide_eq_true rfl, Bool.and_true, List.all_map, List.all_eq_true]
  exact fun n hn => isNm_of (h n hn)
def aAreNames (xs : List D) (r : DS) : Prop := ∃ d, xs = [d] ∧ Fine d ∧ (∀ ys, d = .lst ys → ys.length ≤ 4000 ∧ ∀ y ∈ ys, Fine y) ∧ r = .im (.bl (areNm d))
abbrev nAre : List Str := ["thing", "one"]
theorem scAre : FnScope nAre ["thing"] (defScope S_are_names) := ⟨rfl, rfl, rfl, by decide +kernel, rfl, by decide +kernel, by decide +kernel⟩
theorem kit_list_list : kitB "list" "list" = some true := by decide +kernel
theorem kit_non_list : kitB "NoneType" "list" = some false := by decide +kernel
theorem kit_bool_list : kitB "bool" "list" = some false := by decide +kernel
theorem kit_int_list : kitB "int" "list" = some false := by decide +kernel
theorem kit_str_list : kitB "str" "list" = some false := by decide +kernel
theorem kit_tuple_list : kitB "tuple" "list" = some false := by decide +kernel
theorem ok_are_names {G : Glb} (Z : Facts G) : CallD G 2 "are_names" ["thing"] false aAreNames := by
  refine ⟨?_, Z.g_are_names, Z.n_are_names, Z.f_are_names.kp⟩
  refine okD (N := nAre) Z.f_are_names scAre (fun xs r ⟨_, e, _⟩ => by rw [e]; rfl) fun cdv Ar outer s H E hr xs r ⟨d, e, hf, hl, er⟩ => ?_
  subst e er
  by_cases hs : ∃ ys, d = .lst ys
  · obtain ⟨ys, rfl⟩ := hs
    obtain ⟨hy, hfy⟩ := hl ys rfl
    refine dss_cons (ds_if (dt_w (dw_or (dt_not (dt_val (de_isi (n := "list") (b := true) (de_var 0 rfl) (de_ty rfl Z.b_list (by decide +kernel)) (by show "list" ≠ "?"; decide) kit_list_list rfl Z.b_isinstance))) fun _ => dw_or1 (dt_not (dt_val (de_all (bs := ys.map isNm) (dv_is (de_own (dv_lcP (ev := id) (xs := ys) (own := [("one", 1)]) (js := [1])
      (fun c => [.im (.lst ys), .im c]) (fun _ => true) (fun c => .bl (isNm c)) (by rw [List.map_id]; exact di_list (de_var 0 rfl)) (by omega) scAre.nd (blkOk_by (N := nAre) (sc := defScope S_are_names) (by decide +kernel)) (fun s H C cl fp c hc => dg_name 1 scAre.nd) (fun s H C cl fp c hc => dts_nil)
      (fun s H C cl fp c hc _ => dv_c (ok_is_name Z) hr (da_cons (de_var 1 rfl) da_nil) ⟨c, rfl, hfy c hc, rfl⟩))) (by rw [List.filter_eq_self.mpr fun _ _ => rfl, List.map_map]; rfl)) rfl Z.b_all))))) (fun hc => ?_) (fun hc => ?_))
    · have e : areNm (.lst ys) = false := by
        have h : ys.all isNm = false := by
          rw [List.all_map] at hc
          cases q : ys.all isNm with
          | false => rfl
          | true =>
            have h2 : (ys.all fun x => (id ∘ isNm) x) = true := q
            rw [show ys.all (id ∘ isNm) = true from q] at hc
            cases hc
        show (ys.all isNm && _) = false
        rw [h]
        rfl
      rw [e]
      exact dss_one (ds_ret de_bl (.inl rfl))
    · have h : ys.all isNm = true := by
        rw [List.all_map] at hc
        cases q : ys.all isNm with
        | true => rfl
        | false =>
          rw [show ys.all (id ∘ isNm) = false from q] at hc
          cases hc
      have e := strs_back h
      have e2 : areNm (.lst ys) = decide (((SetK.dd (ys.filterMap strOf)).length : Int) = (ys.length : Int)) := by
        show (ys.all isNm && _) = _
        rw [h]
        rfl
      rw [e2]
      generalize ys.filterMap strOf = ns at e ⊢
      subst e
      rw [List.length_map] at hy ⊢
      refine dss_nil (dss_one (ds_ret (de_eqI (de_lenSet (de_var 0 rfl) hy rfl Z.b_len rfl Z.b_set) (dv_is (de_lenL (de_var 0 rfl) rfl Z.b_len) (by rw [List.length_map]))) (.inl rfl)))
  · have e : areNm d = false := by
      cases d <;> first | rfl | exact absurd ⟨_, rfl⟩ hs
    have ht : kitB (tyD d) "list" = some false := by
      have h1 := hf.1
      cases d with
      | non => exact kit_non_list
      | bl b => exact kit_bool_list
      | int i => exact kit_int_list
      | str z => exact kit_str_list
      | lst xs => exact absurd ⟨_, rfl⟩ hs
      | tup xs => exact kit_tuple_list
      | ty n => exact absurd rfl h1
      | dic k => exact absurd rfl h1
      | ins c f => exact absurd rfl h1
      | fn k d g => exact absurd rfl h1
      | clo F oe => exact absurd rfl h1
      | any => exact absurd rfl h1
      | cloE F oe => exact absurd rfl h1
    rw [e]
    exact dss_cons (ds_if (dt_w (dw_or (y := false) (dt_not (dt_val (de_isi (n := "list") (b := false) (de_var 0 rfl) (de_ty rfl Z.b_list (by decide +kernel)) hf.1 ht rfl Z.b_isinstance))) fun h => by cases h)) (fun hc => dss_one (ds_ret de_bl (.inl rfl))) (fun hc => by cases hc))
theorem fine_str {z : Str} (h : z.length ≤ 100000) : Fine (.str z) := ⟨by show "str" ≠ "?"; decide, fun y e => by cases e; exact h⟩
theorem Nm.fine {n : Str} (h : Nm n) : Fine (.str n) := fine_str (by have := h.hi; omega)

/-- a good name is no trouble -/
def aCheckName (xs : List D) (r : DS) : Prop := ∃ n, xs = [.str n] ∧ Nm n ∧ r = .im .non
theorem scCheckName : FnScope ["name"] ["name"] (defScope S_check_name) := ⟨rfl, rfl, rfl, by decide +kernel, rfl, by decide +kernel, by decide +kernel⟩
theorem ok_check_name {G : Glb} (Z : Facts G) : CallD G 2 "check_name" ["name"] false aCheckName := by
  refine ⟨?_, Z.g_check_name, Z.n_check_name, Z.f_check_name.kp⟩
  refine okD (N := ["name"]) Z.f_check_name scCheckName (fun xs r ⟨_, e, _⟩ => by rw [e]; rfl) fun cdv Ar outer s H E hr xs r ⟨n, e, hn, er⟩ => ?_
  subst e er
  exact dss_one (ds_if (dt_not (dt_val (dv_c (ok_is_name Z) hr (da_cons (de_var 0 rfl) da_nil) ⟨_, rfl, hn.fine, rfl⟩))) (fun hc => by rw [isNm_of hn] at hc; cases hc) (fun _ => dss_nil rfl))

/-- names to which a letter is sent -/
structure Ns (ns : List Str) : Prop where
  nm : ∀ n ∈ ns, Nm n
  nd : ns.Nodup
  ne : ns ≠ []
  le : ns.length ≤ 1000
theorem ns_fine {ns : List Str} (h : ∀ n ∈ ns, Nm n) (hl : ns.length ≤ 1000) : ∀ ys, D.lst (ns.map .str) = .lst ys → ys.length ≤ 4000 ∧ ∀ y ∈ ys, Fine y := fun ys e => by
  cases e
  refine ⟨by rw [List.length_map]; omega, fun y hy => ?_⟩
  obtain ⟨n, h1, rfl⟩ := List.mem_map.mp hy
  exact (h n h1).fine
theorem fine_lst (xs : List D) : Fine (.lst xs) := ⟨by show "list" ≠ "?"; decide, fun y e => by cases e⟩
def aCheckNames (xs : List D) (r : DS) : Prop := ∃ ns : List Str, xs = [.lst (ns.map .str)] ∧ Ns ns ∧ r = .im .non
theorem scCheckNames : FnScope ["names"] ["names"] (defScope S_check_names) := ⟨rfl, rfl, rfl, by decide +kernel, rfl, by decide +kernel, by decide +kernel⟩
theorem ok_check_names {G : Glb} (Z : Facts G) : CallD G 3 "check_names" ["names"] false aCheckNames := by
  refine ⟨?_, Z.g_check_names, Z.n_check_names, Z.f_check_names.kp⟩
  refine okD (N := ["names"]) Z.f_check_names scCheckNames (fun xs r ⟨_, e, _⟩ => by rw [e]; rfl) fun cdv Ar outer s H E hr xs r ⟨ns, e, hn, er⟩ => ?_
  subst e er
  refine dss_one (ds_if (dt_w (dw_or (dt_not (dt_val (dv_c (ok_are_names Z) hr (da_cons (de_var 0 rfl) da_nil) ⟨_, rfl, fine_lst _, ns_fine hn.nm hn.le, rfl⟩))) fun _ => dw_or1 (dt_eqX (x := ns) (y := []) (de_var 0 rfl) (de_own (dv_lst da_nil (by decide))) (units_of hr)))) (fun hc => ?_) (fun _ => dss_nil rfl))
  rw [areNm_of hn.nm hn.nd, decide_eq_false hn.ne] at hc
  cases hc
def aCheckLetter (xs : List D) (r : DS) : Prop := ∃ (s : Str) (ns : List Str), xs = [.str s, .lst (ns.map .str)] ∧ Nm s ∧ Ns ns ∧ r = .im .non
theorem scCheckLetter : FnScope ["sender", "names"] ["sender", "names"] (defScope S_check_letter) := ⟨rfl, rfl, rfl, by decide +kernel, rfl, by decide +kernel, by decide +kernel⟩
theorem ok_check_letter {G : Glb} (Z : Facts G) : CallD G 4 "check_letter" ["sender", "names"] false aCheckLetter := by
  refine ⟨?_, Z.g_check_letter, Z.n_check_letter, Z.f_check_letter.kp⟩
  refine okD (N := ["sender", "names"]) Z.f_check_letter scCheckLetter (fun xs r ⟨_, _, e, _⟩ => by rw [e]; rfl) fun cdv Ar outer s H E hr xs r ⟨se, ns, e, hse, hn, er⟩ => ?_
  subst e er
  exact dss_cons (ds_expr (dv_c (ok_check_name Z) hr (da_cons (de_var 0 rfl) da_nil) ⟨_, rfl, hse, rfl⟩) (dss_one (ds_expr (dv_c (ok_check_names Z) hr (da_cons (de_var 1 rfl) da_nil) ⟨_, rfl, hn, rfl⟩) rfl)))

/-! ### an entry, a book -/
abbrev eBase : Int := 1009 * 4096
def entM (sc : List Int) (a : Int) (n : Str) (ns : List Str) : Ent :=
  ⟨n, some_ ns (Builtin.bitAnd (dg sc a 4 eBase 0) (Builtin.bitOr (dg sc a 4 eBase 0 / 61) (dg sc a 4 eBase 1))),
   if 0 < dg sc a 4 eBase 3 % 3 then some_ ns (Builtin.bitAnd (dg sc a 4 eBase 1) (dg sc a 4 eBase 2)) else [],
   if dg sc a 4 eBase 3 / 3 % 2 = 0 then none else some (ns.getD (dg sc a 4 eBase 3 / 6 % (ns.length : Int)).toNat Str.empty)⟩
def aEntry (xs : List D) (r : DS) : Prop := ∃ (sc : List Int) (a : Int) (n : Str) (ns : List Str), xs = [.lst (sc.map .int), .int a, .str n, .lst (ns.map .str)] ∧ 0 ≤ a ∧ ns ≠ [] ∧ ns.length ≤ 1000 ∧ r = .im (entM sc a n ns).d
abbrev nEntry : List Str := ["_law_script", "_law_at", "_law_name", "_law_names_here", "_law_draws", "_law_left", "_law_gate"]
abbrev qEntry : List Str := ["_law_script", "_law_at", "_law_name", "_law_names_here"]
theorem scEntry : FnScope nEntry qEntry (defScope S_law_entry) := ⟨rfl, rfl, rfl, by decide +kernel, rfl, by decide +kernel, by decide +kernel⟩
theorem ok_entry {G : Glb} (Z : Facts G) : CallD G 4 "_law_entry" qEntry false aEntry := by
  refine ⟨?_, Z.g_law_entry, Z.n_law_entry, Z.f_law_entry.kp⟩
  refine okD (N := nEntry) Z.f_law_entry scEntry (fun xs r ⟨_, _, _, _, e, _⟩ => by rw [e]; rfl) fun cdv Ar outer s H E hr xs r ⟨sc, a, n, ns, e, ha, hne, hl, er⟩ => ?_
  subst e er
  have hns : 0 < ns.length := List.length_pos_iff.mpr hne
  have g := fun (k : Nat) (hk : k < 4) => dg_at (sc := sc) (at_ := a) (many := 4) (base := eBase) (k := k) (by omega)
  have gi := fun (k : Nat) (hk : k < 4) => dg_in (sc := sc) (at_ := a) (many := 4) (base := eBase) (k := k) (by decide) (by omega)
  have g3 := gi 3 (by decide)
  refine dss_cons (ds_set 4 (de_own (dv_c (ok_digits Z) hr (da_cons (de_var 0 rfl) (da_cons (de_var 1 rfl) (da_cons de_int (da_cons (de_mul de_int de_int (.inl (by decide))) da_nil)))) ⟨_, _, _, _, rfl, ha, by decide, by decide, by decide, by decide, rfl⟩)) ?_ scEntry.nd)
  have it : ∀ (k : Nat), k < 4 → atI ((digits sc a 4 eBase).map D.int) (k : Int) = some (.int (dg sc a 4 eBase k)) := fun k hk => lk_int rfl (g k hk)
  refine dss_cons (ds_set 5 (s := .im (.lst ((entM sc a n ns).left.map .str))) (dv_if (dt_gt (de_mod (de_ixL (de_var 4 rfl) de_int (it 3 (by decide))) de_int (by decide)) de_int) (fun hc => ?_) (fun hc => ?_)) ?_ scEntry.nd)
  · have hc' : 0 < dg sc a 4 eBase 3 % 3 := of_decide_eq_true hc
    have e : (entM sc a n ns).left = some_ ns (Builtin.bitAnd (dg sc a 4 eBase 1) (dg sc a 4 eBase 2)) := if_pos hc'
    rw [e]
    exact de_own (dv_c (ok_some Z) hr (da_cons (de_var 3 rfl) (da_cons (de_band (de_ixL (de_var 4 rfl) de_int (it 1 (by decide))) (de_ixL (de_var 4 rfl) de_int (it 2 (by decide)))) da_nil)) ⟨_, _, rfl, hl, rfl⟩)
  · have hc' : ¬ 0 < dg sc a 4 eBase 3 % 3 := of_decide_eq_false hc
    have e : (entM sc a n ns).left = [] := if_neg hc'
    rw [e]
    exact de_own (dv_lst da_nil (by decide))
  refine dss_cons (ds_set 6 (s := .im (gD (entM sc a n ns).gate)) (dv_if (dt_eqI (de_mod (de_div (de_ixL (de_var 4 rfl) de_int (it 3 (by decide))) de_int ⟨by decide, by decide⟩) de_int (by decide)) de_int) (fun hc => ?_) (fun hc => ?_)) ?_ scEntry.nd)
  · have e : (entM sc a n ns).gate = none := if_pos (of_decide_eq_true hc)
    rw [e]
    exact de_non
  · have e : (entM sc a n ns).gate = some (ns.getD (dg sc a 4 eBase 3 / 6 % (ns.length : Int)).toNat Str.empty) := if_neg (of_decide_eq_false hc)
    rw [e]
    have p1 := Int.emod_nonneg (dg sc a 4 eBase 3 / 6) (b := (ns.length : Int)) (by omega)
    have p2 := Int.emod_lt_of_pos (dg sc a 4 eBase 3 / 6) (b := (ns.length : Int)) (by omega)
    have p3 : (dg sc a 4 eBase 3 / 6 % (ns.length : Int)).toNat < ns.length := by omega
    refine de_ixL (de_var 3 rfl) (de_mod (de_div (de_ixL (de_var 4 rfl) de_int (it 3 (by decide))) de_int ⟨by decide, by decide⟩) (dv_is (de_lenL (de_var 3 rfl) rfl Z.b_len) (by rw [List.length_map])) (by omega)) (lk_str (j := (dg sc a 4 eBase 3 / 6 % (ns.length : Int)).toNat) (by omega) ?_)
    rw [List.getD_eq_getElem?_getD, List.getElem?_eq_getElem p3]
    rfl
  exact dss_one (ds_ret (de_tup (da_cons (de_var 2 rfl) (da_cons (de_own (dv_c (ok_some Z) hr (da_cons (de_var 3 rfl) (da_cons (de_band (de_ixL (de_var 4 rfl) de_int (it 0 (by decide))) (de_bor (de_div (de_ixL (de_var 4 rfl) de_int (it 0 (by decide))) de_int ⟨by decide, by decide⟩) (de_ixL (de_var 4 rfl) de_int (it 1 (by decide))))) da_nil)) ⟨_, _, rfl, hl, rfl⟩))
    (da_cons (de_var 5 rfl) (da_cons (de_var 6 rfl) da_nil)))) (by show 4 ≤ 100000; decide)) (.inl rfl))
/-- a good book -/
structure EntOk (e : Ent) : Prop where
  nm : Nm e.nm
  mem : ∀ x ∈ e.mem, Nm x
  memN : e.mem.Nodup
  memL : e.mem.length ≤ 900
  left : ∀ x ∈ e.left, Nm x
  leftN : e.left.Nodup
  leftL : e.left.length ≤ 900
  gate : ∀ g, e.gate = some g → Nm g
structure Bk (b : List Ent) : Prop where
  nd : (b.map Ent.nm).Nodup
  ok : ∀ e ∈ b, EntOk e
  le : b.length ≤ 900
theorem Bk.nil : Bk [] := ⟨List.nodup_nil, (fun _ h => nomatch h), by decide⟩
theorem entM_ok {sc : List Int} {a : Int} {n : Str} {ns : List Str} (hn : Nm n) (h : ∀ x ∈ ns, Nm x) (hd : ns.Nodup) (hl : ns.length ≤ 900) (hne : ns ≠ []) : EntOk (entM sc a n ns) := by
  have s1 := fun (k : Int) => some_ok (ns := ns) k hd
  have l1 := fun (k : Int) => some_len ns k
  refine ⟨hn, fun x hx => h x ((s1 _).2 x hx), (s1 _).1, Nat.le_trans (l1 _) hl, ?_, ?_, ?_, fun g hg => ?_⟩
  · intro x hx
    unfold entM at hx
    dsimp only at hx
    split at hx
    · exact h x ((s1 _).2 x hx)
    · cases hx
  · unfold entM
    dsimp only
    split
    · exact (s1 _).1
    · exact List.nodup_nil
  · unfold entM
    dsimp only
    split
    · exact Nat.le_trans (l1 _) hl
    · exact Nat.zero_le _
  · unfold entM at hg
    dsimp only at hg
    split at hg
    · cases hg
    · cases hg
      have hns : 0 < ns.length := List.length_pos_iff.mpr hne
      have p1 := Int.emod_nonneg (dg sc a 4 eBase 3 / 6) (b := (ns.length : Int)) (by omega)
      have p2 := Int.emod_lt_of_pos (dg sc a 4 eBase 3 / 6) (b := (ns.length : Int)) (by omega)
      rw [List.getD_eq_getElem?_getD, List.getElem?_eq_getElem (by omega)]
      exact h _ (List.getElem_mem _)
def bookStep (sc : List Int) (a : Int) (ns : List Str) (acc : List Ent) (t : Nat) : List Ent :=
  acc.take (cellAt sc (a + (t : Int)) % ((acc.length : Int) + 1)).toNat ++ [entM sc (a + (t : Int)) (ns.getD t Str.empty) ns] ++ acc.drop (cellAt sc (a + (t : Int)) % ((acc.length : Int) + 1)).toNat
def bookM (sc : List Int) (a : Int) (ns : List Str) (m : Nat) : List Ent := (List.range m).foldl (bookStep sc a ns) []
theorem bookM_succ (sc : List Int) (a : Int) (ns : List Str) (m : Nat) : bookM sc a ns (m + 1) = bookStep sc a ns (bookM sc a ns m) m := by
  unfold bookM
  rw [List.range_succ, List.foldl_append]
  rfl
theorem perm_insE {α : Type} (l : List α) (x : α) (k : Nat) : (l.take k ++ [x] ++ l.drop k).Perm (x :: l) := by
  rw [List.append_assoc]
  refine List.perm_middle.trans ?_
  show (x :: (l.take k ++ l.drop k)).Perm (x :: l)
  rw [List.take_append_drop]
theorem bookM_len (sc : List Int) (a : Int) (ns : List Str) : ∀ m, (bookM sc a ns m).length = m
  | 0 => rfl
  | m + 1 => by
    rw [bookM_succ]
    unfold bookStep
    rw [(perm_insE _ _ _).length_eq, List.length_cons, bookM_len sc a ns m]
theorem bookM_ok {sc : List Int} {a : Int} {ns : List Str} (h : ∀ x ∈ ns, Nm x) (hd : ns.Nodup) (hl : ns.length ≤ 900) : ∀ m, m ≤ ns.length → Bk (bookM sc a ns m) ∧ ∀ e ∈ bookM sc a ns m, e.nm ∈ ns.take m
  | 0, _ => ⟨Bk.nil, fun e he => by cases he⟩
  | m + 1, hm => by
    obtain ⟨b, c⟩ := bookM_ok (sc := sc) (a := a) h hd hl m (by omega)
    have hne : ns ≠ [] := fun z => by
      rw [z] at hm
      exact absurd hm (by simp)
    have em : ns[m]? = some ns[m] := List.getElem?_eq_getElem (by omega)
    have eg : ns.getD m Str.empty = ns[m] := by rw [List.getD_eq_getElem?_getD, em]; rfl
    have et : ns.take (m + 1) = ns.take m ++ [ns[m]] := by rw [List.take_succ, em]; rfl
    have nt : (ns.take (m + 1)).Nodup := hd.sublist (List.take_sublist _ _)
    rw [et] at nt
    have ni : ns[m] ∉ ns.take m := fun z => (List.nodup_append.mp nt).2.2 _ z _ (List.mem_singleton_self _) rfl
    rw [bookM_succ]
    unfold bookStep
    rw [eg]
    have p := perm_insE (bookM sc a ns m) (entM sc (a + (m : Int)) ns[m] ns) (cellAt sc (a + (m : Int)) % (((bookM sc a ns m).length : Int) + 1)).toNat
    have hl2 := p.length_eq
    rw [List.length_cons] at hl2
    have hl3 := bookM_len sc a ns m
    refine ⟨⟨?_, fun e he => ?_, by rw [hl2, hl3]; omega⟩, fun e he => ?_⟩
    · refine (p.map Ent.nm).nodup_iff.mpr (List.nodup_cons.mpr ⟨fun z => ?_, b.nd⟩)
      obtain ⟨e, he, e2⟩ := List.mem_map.mp z
      exact ni (by
        have := c e he
        rw [e2] at this
        exact this)
    · rcases List.mem_cons.mp (p.mem_iff.mp he) with rfl | z
      · exact entM_ok (h _ (List.getElem_mem _)) h hd hl hne
      · exact b.ok e z
    · rw [et]
      rcases List.mem_cons.mp (p.mem_iff.mp he) with rfl | z
      · exact List.mem_append_right _ (List.mem_singleton_self _)
      · exact List.mem_append_left _ (c e z)
abbrev bkD (b : List Ent) : D := .lst (b.map Ent.d)
def aBook (xs : List D) (r : DS) : Prop := ∃ (sc : List Int) (a : Int) (ns : List Str) (m : Int), xs = [.lst (sc.map .int), .int a, .lst (ns.map .str), .int m] ∧ 0 ≤ a ∧ 0 ≤ m ∧ m.toNat ≤ ns.length ∧ ns.length ≤ 900 ∧ r = .own ((bookM sc a ns m.toNat).map Ent.d)
abbrev nBook : List Str := ["_law_script", "_law_at", "_law_names_here", "_law_many", "_law_found", "_law_turn", "_law_entry_here"]
abbrev qBook : List Str := ["_law_script", "_law_at", "_law_names_here", "_law_many"]
theorem scBook : FnScope nBook qBook (defScope S_law_book) := ⟨rfl, rfl, rfl, by decide +kernel, rfl, by decide +kernel, by decide +kernel⟩
theorem ok_book {G : Glb} (Z : Facts G) : CallD G 5 "_law_book" qBook false aBook := by
  refine ⟨?_, Z.g_law_book, Z.n_law_book, Z.f_law_book.kp⟩
  refine okD (N := nBook) Z.f_law_book scBook (fun xs r ⟨_, _, _, _, e, _⟩ => by rw [e]; rfl) fun cdv Ar outer s H E hr xs r ⟨sc, a, ns, m, e, ha, hm0, hm, hl, er⟩ => ?_
  subst e er
  refine dss_cons (ds_set 4 (dv_lst da_nil (by decide)) ?_ scBook.nd)
  refine dss_cons (ds_forR [5, 6] (fun i => [.im (.lst (sc.map .int)), .im (.int a), .im (.lst (ns.map .str)), .im (.int m), .own ((bookM sc a ns i).map Ent.d), .no, .no]) (fun d ds1 => ds1.set 5 (.im (.int (0 + (d : Int))))) rfl
    (di_rng1 (de_var 3 rfl) rfl Z.b_range (by omega) (by omega)) (fun d _ ds1 => dg_name 5 scBook.nd) (fun i hi => ?_) ?_ PassesOwn.never)
  · rw [Int.zero_add]
    have hil : i < ns.length := by omega
    have hbl := bookM_len sc a ns i
    have hne : ns ≠ [] := fun z => by
      rw [z] at hil
      exact absurd hil (by simp)
    have ei : ns[i]? = some (ns.getD i Str.empty) := by rw [List.getD_eq_getElem?_getD, List.getElem?_eq_getElem hil]; rfl
    refine dss_cons (ds_set 6 (dv_c (ok_entry Z) hr (da_cons (de_var 0 rfl) (da_cons (de_add (de_var 1 rfl) (de_var 5 rfl)) (da_cons (de_ixL (de_var 2 rfl) (de_var 5 rfl) (lk_str (j := i) rfl ei)) (da_cons (de_var 2 rfl) da_nil)))) ⟨_, _, _, _, rfl, by omega, hne, by omega, rfl⟩) ?_ scBook.nd)
    have c0 := cellAt_ge sc (a + (i : Int))
    refine dss_one (ds_insert 4 rfl (de_mod (dv_c (ok_cell Z) hr (da_cons (de_var 0 rfl) (da_cons (de_add (de_var 1 rfl) (de_var 5 rfl)) da_nil)) ⟨_, _, rfl, by omega, rfl⟩) (de_add (de_view 4 rfl rfl rfl (de_lenL (de_var 4 rfl) rfl Z.b_len)) de_int) (by omega)) (de_var 6 rfl) (by rw [List.length_map]; omega) (Int.emod_nonneg _ (by omega)) ?_ ?_)
    · rw [List.length_map]
      have := Int.emod_lt_of_pos (cellAt sc (a + (i : Int))) (by omega : (0 : Int) < ((bookM sc a ns i).length : Int) + 1)
      omega
    · show _ = _
      rw [bookM_succ, List.length_map, ← List.map_take, ← List.map_drop]
      unfold bookStep
      rw [List.map_append, List.map_append]
      rfl
  · exact dss_one (ds_retOwn 4 rfl (.inl rfl))
def aCopy (xs : List D) (r : DS) : Prop := ∃ b : List Ent, xs = [bkD b] ∧ b.length ≤ 900 ∧ r = .own (b.map Ent.d)
abbrev nCopy : List Str := ["_law_book_here", "_law_name", "_law_members", "_law_left", "_law_gate"]
theorem scCopy : FnScope nCopy ["_law_book_here"] (defScope S_law_copy) := ⟨rfl, rfl, rfl, by decide +kernel, rfl, by decide +kernel, by decide +kernel⟩
theorem ok_copy {G : Glb} (Z : Facts G) : CallD G 1 "_law_copy" ["_law_book_here"] false aCopy := by
  refine ⟨?_, Z.g_law_copy, Z.n_law_copy, Z.f_law_copy.kp⟩
  refine okD (N := nCopy) Z.f_law_copy scCopy (fun xs r ⟨_, e, _⟩ => by rw [e]; rfl) fun cdv Ar outer s H E hr xs r ⟨b, e, hl, er⟩ => ?_
  subst e er
  exact dss_one (ds_ret (dv_lcP (ev := Ent.d) (xs := b) (own := [("_law_name", 1), ("_law_members", 2), ("_law_left", 3), ("_law_gate", 4)]) (js := [1, 2, 3, 4])
      (fun c => [.im (bkD b), .im (.str c.nm), .im (.lst (c.mem.map .str)), .im (.lst (c.left.map .str)), .im (gD c.gate)]) (fun _ => true) Ent.d (di_list (de_var 0 rfl)) (by omega) scCopy.nd (blkOk_by (N := nCopy) (sc := defScope S_law_copy) (by decide +kernel))
      (fun s H C cl fp c hc => dg_tup (dgs_cons (dg_name 1 scCopy.nd) (dgs_cons (dg_name 2 scCopy.nd) (dgs_cons (dg_name 3 scCopy.nd) (dgs_cons (dg_name 4 scCopy.nd) dgs_nil))))) (fun s H C cl fp c hc => dts_nil)
      (fun s H C cl fp c hc _ => de_tup (da_cons (de_var 1 rfl) (da_cons (de_own (dv_list (de_var 2 rfl) rfl Z.b_list)) (da_cons (de_own (dv_list (de_var 3 rfl) rfl Z.b_list)) (da_cons (de_var 4 rfl) da_nil)))) (by show 4 ≤ 100000; decide))) (.inl (by rw [List.filter_eq_self.mpr fun _ _ => rfl])))

/-! ### a book's lists -/
theorem kit_tuple_tuple : kitB "tuple" "tuple" = some true := by decide +kernel
theorem EntOk.fine_tup (e : Ent) : tyD e.d ≠ "?" := by show "tuple" ≠ "?"; decide
def aIsEntry (xs : List D) (r : DS) : Prop := ∃ e : Ent, xs = [e.d] ∧ EntOk e ∧ r = .im (.bl true)
theorem scIsEntry : FnScope ["thing"] ["thing"] (defScope S_is_entry) := ⟨rfl, rfl, rfl, by decide +kernel, rfl, by decide +kernel, by decide +kernel⟩
theorem nm_ns_fine {ns : List Str} (h : ∀ n ∈ ns, Nm n) (hl : ns.length ≤ 900) : ∀ ys, D.lst (ns.map .str) = .lst ys → ys.length ≤ 4000 ∧ ∀ y ∈ ys, Fine y := fun ys e => by
  cases e
  refine ⟨by rw [List.length_map]; omega, fun y hy => ?_⟩
  obtain ⟨n, h1, rfl⟩ := List.mem_map.mp hy
  exact fine_str (by have := (h n h1).hi; omega)
theorem fine_l (xs : List D) : Fine (.lst xs) := ⟨by show "list" ≠ "?"; decide, fun y e => by cases e⟩
theorem fine_s {n : Str} (h : Nm n) : Fine (.str n) := ⟨by show "str" ≠ "?"; decide, fun y e => by cases e; have := h.hi; omega⟩
theorem ok_is_entry {G : Glb} (Z : Facts G) : CallD G 3 "is_entry" ["thing"] false aIsEntry := by
  refine ⟨?_, Z.g_is_entry, Z.n_is_entry, Z.f_is_entry.kp⟩
  refine okD (N := ["thing"]) Z.f_is_entry scIsEntry (fun xs r ⟨_, e, _⟩ => by rw [e]; rfl) fun cdv Ar outer s H E hr xs r ⟨e, ex, ho, er⟩ => ?_
  subst ex er
  refine dss_cons (ds_if (dt_w (dw_or (dt_not (dt_val (de_isi (n := "tuple") (b := true) (de_var 0 rfl) (de_ty rfl Z.b_tuple (by decide +kernel)) (EntOk.fine_tup e) kit_tuple_tuple rfl Z.b_isinstance))) fun _ => dw_or (dt_neI (de_lenT (de_var 0 rfl) rfl Z.b_len) de_int) fun _ =>
    dw_or1 (dt_not (dt_val (dv_c (ok_is_name Z) hr (da_cons (de_ixT (de_var 0 rfl) de_int rfl) da_nil) ⟨_, rfl, fine_s ho.nm, rfl⟩))))) (fun hc => ?_) (fun _ => dss_nil ?_))
  · rw [isNm_of ho.nm] at hc
    cases hc
  have h1 := areNm_of ho.mem ho.memN
  have h2 := areNm_of ho.left ho.leftN
  refine dss_one (ds_ret (dv_is (de_and (dv_c (ok_are_names Z) hr (da_cons (de_ixT (de_var 0 rfl) de_int rfl) da_nil) ⟨_, rfl, fine_l _, nm_ns_fine ho.mem ho.memL, rfl⟩) fun _ => de_and (dv_c (ok_are_names Z) hr (da_cons (de_ixT (de_var 0 rfl) de_int rfl) da_nil) ⟨_, rfl, fine_l _, nm_ns_fine ho.left ho.leftL, rfl⟩) fun _ =>
    de_one (de_or (y := true) (de_isN (de_ixT (de_var 0 rfl) de_int rfl) (isN_g e.gate)) fun hg => de_one ?_)) ?_) (.inl rfl))
  · obtain ⟨g, hg2⟩ : ∃ g, e.gate = some g := by
      cases q : e.gate with
      | none => rw [q] at hg; cases hg
      | some g => exact ⟨g, rfl⟩
    have hn := ho.gate g hg2
    exact dv_c (ok_is_name Z) hr (da_cons (de_ixT (d := gD e.gate) (de_var 0 rfl) de_int rfl) da_nil) ⟨gD e.gate, rfl, by rw [hg2]; exact fine_s hn, by rw [hg2]; exact (congrArg (fun b => DS.im (.bl b)) (isNm_of hn)).symm⟩
  · rw [h1, h2, Bool.or_true]
    rfl
/-- an entry's own object -/
def entT (e : Ent) : OT := .ins "Entry" [("members", .lst ((e.mem.map D.str).map .im)), ("left", .lst ((e.left.map D.str).map .im)), ("gate", .im (gD e.gate))]
def aMkEntry (xs : List D) (t : OT) : Prop := ∃ (e : Ent), xs = [.lst (e.mem.map .str), .lst (e.left.map .str), gD e.gate] ∧ t = entT e
abbrev qMkEntry : List Str := ["self", "members", "left", "gate"]
theorem scMkEntry : FnScope qMkEntry qMkEntry (defScope S_Entry_init) := ⟨rfl, rfl, rfl, by decide +kernel, rfl, by decide +kernel, by decide +kernel⟩
theorem mk_entry {G : Glb} (Z : Facts G) : MakD G 1 "Entry" qMkEntry aMkEntry := by
  refine ⟨Z.mk_Entry, ?_, Z.g_Entry, Z.n_Entry_init⟩
  refine okI (N := qMkEntry) Z.f_Entry_init scMkEntry (fun xs r ⟨_, e, _⟩ => by rw [e]; rfl) fun cdv Ar outer s H E hr p xs t ⟨e, ex, et⟩ => ?_
  subst ex et
  refine dss_cons (ds_setF 0 rfl (dv_list (de_var 1 rfl) rfl Z.b_list) rfl ?_ Z.k_Entry Z.a_Entry_members (by simp) (by decide))
  refine dss_cons (ds_setF 0 rfl (dv_list (de_var 2 rfl) rfl Z.b_list) rfl ?_ Z.k_Entry Z.a_Entry_left (show ("left" : Str) ∉ (["members"] : List Str) by decide) (by show 1 < 1000; decide))
  exact dss_cons (ds_setF 0 rfl (de_var 3 rfl) rfl (dss_nil rfl) Z.k_Entry Z.a_Entry_gate (show ("gate" : Str) ∉ (["members", "left"] : List Str) by decide) (by show 2 < 1000; decide))
def lsT (b : List Ent) : OT := .dic (b.map fun e => (e.nm, entT e))
/-- as told -/
def entI (e : Ent) : D := .ins "Entry" [("members", .lst (e.mem.map .str)), ("left", .lst (e.left.map .str)), ("gate", gD e.gate)]
def lsK (b : List Ent) : List (Str × D) := b.map fun e => (e.nm, entI e)
abbrev lsD (b : List Ent) : D := .dic (lsK b)
theorem fzs_im : ∀ l : List D, OT.fzs (l.map .im) = l
  | [] => by rw [List.map_nil, OT.fzs]
  | d :: l => by rw [List.map_cons, OT.fzs, OT.fz, fzs_im l]
theorem entT_fz (e : Ent) : (entT e).fz = entI e := by
  unfold entT entI
  rw [OT.fz, OT.fzF, OT.fzF, OT.fzF, OT.fzF, OT.fz, OT.fz, OT.fz, fzs_im, fzs_im]
theorem fzF_ls : ∀ b : List Ent, OT.fzF (b.map fun e => (e.nm, entT e)) = lsK b
  | [] => by rw [List.map_nil, OT.fzF]; rfl
  | e :: b => by rw [List.map_cons, OT.fzF, fzF_ls b, entT_fz]; rfl
theorem lsT_fz (b : List Ent) : (lsT b).fz = lsD b := by
  unfold lsT
  rw [OT.fz, fzF_ls]
def aLists (xs : List D) (r : DS) : Prop := ∃ b : List Ent, xs = [bkD b] ∧ Bk b ∧ r = .ot none (lsT b)
abbrev nLists : List Str := ["book", "found", "row", "entry"]
theorem scLists : FnScope nLists ["book"] (defScope S_lists_of) := ⟨rfl, rfl, rfl, by decide +kernel, rfl, by decide +kernel, by decide +kernel⟩
theorem ok_lists_of {G : Glb} (Z : Facts G) : CallD G 4 "lists_of" ["book"] false aLists := by
  refine ⟨?_, Z.g_lists_of, Z.n_lists_of, Z.f_lists_of.kp⟩
  refine okD (N := nLists) Z.f_lists_of scLists (fun xs r ⟨_, e, _⟩ => by rw [e]; rfl) fun cdv Ar outer s H E hr xs r ⟨b, ex, hb, er⟩ => ?_
  subst ex er
  refine dss_cons (ds_if (dt_not (dt_val (de_isi (n := "list") (b := true) (de_var 0 rfl) (de_ty rfl Z.b_list (by decide +kernel)) (by show "list" ≠ "?"; decide) kit_list_list rfl Z.b_isinstance))) (fun hc => by cases hc) (fun _ => dss_nil ?_))
  refine dss_cons (ds_set 1 dv_newT ?_ scLists.nd)
  refine dss_cons (ds_forN [2, 3] (fun i => [.im (bkD b), .ot none (lsT (b.take i)), .no, .no]) (fun i a ds1 => (ds1.set 2 (.im (.int (i : Int)))).set 3 (.im a.d)) rfl (di_enum (de_var 0 rfl) rfl Z.b_enumerate)
    (fun i a _ ds1 => dg_tup (dgs_cons (dg_name 2 scLists.nd) (dgs_cons (dg_name 3 scLists.nd) dgs_nil))) (fun i a ha => ?_) ?_ PassesOwn.never)
  · have hm : a ∈ b := List.mem_of_getElem? ha
    have ho := hb.ok a hm
    have et : b.take (i + 1) = b.take i ++ [a] := by rw [List.take_succ, ha]; rfl
    have nt : ((b.take (i + 1)).map Ent.nm).Nodup := hb.nd.sublist ((List.take_sublist _ _).map _)
    rw [et, List.map_append] at nt
    have ni : a.nm ∉ (b.take i).map Ent.nm := fun z => (List.nodup_append.mp nt).2.2 _ z _ (List.mem_singleton_self _) rfl
    have nk : a.nm ∉ ((b.take i).map fun e => (e.nm, entT e)).map (·.1) := by rw [List.map_map]; exact ni
    refine dss_cons (ds_if (dt_w (dw_or (dt_not (dt_val (dv_c (ok_is_entry Z) hr (da_cons (de_var 3 rfl) da_nil) ⟨a, rfl, ho, rfl⟩))) fun _ => dw_or1 (dt_inK 1 rfl (de_ixT (de_var 3 rfl) de_int rfl) (u1 hr)))) (fun hc => ?_) (fun _ => dss_nil ?_))
    · rw [decide_eq_false nk] at hc
      cases hc
    refine dss_one (ds_dputO 1 rfl (de_ixT (de_var 3 rfl) de_int rfl) (dv_mk (mk_entry Z) hr (da_cons (de_ixT (de_var 3 rfl) de_int rfl) (da_cons (de_ixT (de_var 3 rfl) de_int rfl) (da_cons (de_ixT (de_var 3 rfl) de_int rfl) da_nil))) ⟨a, rfl, rfl⟩) rfl nk ?_ ?_ (u1 hr))
    · have := hb.le
      rw [List.length_map, List.length_take]
      omega
    · show _ = _
      unfold lsT
      rw [et, List.map_append]
      rfl
  · rw [List.take_length]
    exact dss_one (ds_retT 1 rfl (.inl rfl))
theorem lists_told {b : List Ent} : (DS.ot none (lsT b)).fz = .im (lsD b) := by
  show DS.im (lsT b).fz = _
  rw [lsT_fz]

/-! ### by what names are in order -/
theorem scRank : FnScope ["name"] ["name"] (defScope S_rank) := ⟨rfl, rfl, rfl, by decide +kernel, rfl, by decide +kernel, by decide +kernel⟩
theorem ok_rank {G : Glb} (Z : Facts G) : PureKey G (He.ga G.K "rank") rankD := by
  refine ⟨fun A outer s H x t hr hx e0 => ?_⟩
  obtain ⟨oc, od, dV, kV, doc, pm, an, cdv, ct, osl, e1, lk, hcd, _, _⟩ := Z.f_rank.ex
  have KX : G.K.In s.heap := e0.mod.kin.keeps fun b o e => (e0.bs b o e).1
  have lim : s.heap.NoLimit := e0.mod.nolimit.keeps fun b o e => (e0.bs b o e).1
  have hb := Z.n_rank s [.str x t] KX rfl
  rw [e1] at hb lk
  have S := scRank
  have hkind : ∀ y ∈ (["name"] : List Str).zip [Value.str x t], (defScope S_rank).names.lookup y.1 = some .local ∨ ((defScope S_rank).names.lookup y.1 = some .cell ∧ ((cellsFrom (s.heap.objs.size + 1) (defScope S_rank).names []).lookup y.1).isSome = true) := fun ⟨n, v⟩ hy => by
    rcases S.par n (List.of_mem_zip hy).1 with q | q
    · exact .inl q
    · exact .inr ⟨q, PySem.W.cellsFrom_some _ _ _ (.inl q)⟩
  refine wpAny_call (codeAny_call_function hr.depth (KX _ _ lk) rfl S.co S.gen rfl (PySem.W.codeRec_of KX hcd) (hb _ _ _ _ ?_))
  refine wpAny_newFunctionEnv_cells S.kind hkind fun env he s1 xx => ?_
  subst he
  refine ⟨lim.keeps xx.toInCall.keep, codeAny_func ?_⟩
  have I : L2.Inv (cxOf CX0 G.P G.w G.K G.mg G.base ["name"] "rank" (defScope S_rank) (He.ga G.K "rank") cdv A outer s H E0) [] (L2.start ["name"] [.str x]) H s1 := inv_start S hr.hd e0 rfl (.cons ⟨t, rfl⟩ .nil) xx
  obtain ⟨h1, tk, rfl, hk⟩ := xx.toInCall.done
  have nm : ∀ (s2 : Shared) (pos : Pos) (Q : Value → Shared → Prop) (E : Value → Shared → Prop) (A2 : Around), L2.Inv (cxOf CX0 G.P G.w G.K G.mg G.base ["name"] "rank" (defScope S_rank) (He.ga G.K "rank") cdv A outer s H E0) [] (L2.start ["name"] [.str x]) H s2 → (∀ t, Q (.str x t) s2) →
      wpAny (model G.P G.w) A2 (eval (.Name "name" pos) (envOfC "rank" (defScope S_rank) s.heap.objs.size (He.ga G.K "rank") cdv)) Q E s2 := fun s2 pos Q E A2 J q => by
    obtain ⟨m, hn, hl⟩ := J.loc
    obtain ⟨u, r, l⟩ := hl 0 "name" (.str x) rfl rfl (Or.inl rfl)
    obtain ⟨t2, rfl⟩ := (show ∃ t, u = Value.str x t from r)
    rcases l with ⟨hk, hm⟩ | ⟨hk, c, hc, hcell⟩
    · exact wpAny_Name (wpAny_loadName_local J.ok.kind hk hn hm (q t2)) (by decide)
    · rcases hk with z | z
      · exact absurd (show (defScope S_rank).names.lookup ("name" : Str) = some NameKind.cell from z) (by decide +kernel)
      · exact absurd (show (defScope S_rank).names.lookup ("name" : Str) = some NameKind.free from z) (by decide +kernel)
  refine wpAny_execs_cons (wpAny_Return_some (wpAny_Tuple_spliced ?_))
  refine Calls.spliced_cons ?_
  refine wpAny_Call_Name_kw (ld_blt I rfl Z.b_len rfl ?_)
  refine PyProof.Rows.callWith_kw (Calls.spliced_cons (nm _ _ _ _ _ I fun t2 => Calls.spliced_nil ?_)) rfl rfl rfl rfl
  refine wpAny_evalAll_nil ?_
  refine PySem.P.len_str (by omega) ?_
  refine Calls.spliced_cons (nm _ _ _ _ _ (I.tok _) fun t3 => Calls.spliced_nil ?_)
  refine ⟨(by decide : 2 ≤ sizeLine), ?_⟩
  refine ⟨_, _, rfl, fun b o e => Heap.get?_push_of_some _ (hk b o e), ?_⟩
  refine .tuple (Heap.get?_push_size _ rfl) rfl rfl (xs := [.int (x.length : Int), .str x]) (as := []) ?_
  exact .cons (as := []) (bs := []) (.int _ _) (.cons (as := []) (bs := []) (.str _ _) .nil)

abbrev srtOf (xs : List D) (r : DS) : Prop := ∃ ns : List Str, xs = [.lst (ns.map .str)] ∧ (∀ n ∈ ns, n.length ≤ 100000) ∧ r = .own ((sortN ns).map .str)
theorem scInOrder : FnScope ["names"] ["names"] (defScope S_in_order) := ⟨rfl, rfl, rfl, by decide +kernel, rfl, by decide +kernel, by decide +kernel⟩
theorem ok_in_order {G : Glb} (Z : Facts G) : CallD G 4 "in_order" ["names"] false srtOf := by
  refine ⟨?_, Z.g_in_order, Z.n_in_order, Z.f_in_order.kp⟩
  refine okD (N := ["names"]) Z.f_in_order scInOrder (fun xs r ⟨_, e, _⟩ => by rw [e]; rfl) fun cdv Ar outer s H E hr xs r ⟨ns, e, hn, er⟩ => ?_
  subst e er
  exact dss_one (ds_ret (dv_sortN (de_var 0 rfl) hn (ok_rank Z) Z.g_rank hr Z.b_sorted) (.inl rfl))

/-! ### whom one comes to -/
def memsOf (b : List Ent) (n : Str) : List Str := match b.find? fun e => decide (e.nm = n) with
  | some e => e.mem
  | none => []
def isL (b : List Ent) (n : Str) : Bool := b.any fun e => decide (e.nm = n)
def uni (b : List Ent) (ns : List Str) : List Str := ns ++ b.flatMap Ent.mem
def comeStep (b : List Ent) (g : Str → Bool) (line : List Str) (n : Str) : List Str := if (isL b n && g n) = true then line ++ (memsOf b n).filter fun m => !decide (m ∈ line) else line
def comeRun (b : List Ent) (g : Str → Bool) : Nat → List Str → Nat → List Str
  | 0, line, _ => line
  | f + 1, line, a => match line[a]? with
    | some n => comeRun b g f (comeStep b g line n) (a + 1)
    | none => line
def come (b : List Ent) (g : Str → Bool) (ns : List Str) : List Str := comeRun b g ((uni b ns).length + 1) ns 0
theorem look_ls (b : List Ent) (n : Str) : lookD (lsK b) n = (b.find? fun e => decide (e.nm = n)).map entI := by
  unfold lookD lsK
  rw [List.find?_map]
  cases h : b.find? (fun e => decide (e.nm = n)) with
  | none =>
    have : b.find? ((fun kv : Str × D => decide (kv.1 = n)) ∘ fun e => (e.nm, entI e)) = none := h
    rw [this]
    rfl
  | some e =>
    have : b.find? ((fun kv : Str × D => decide (kv.1 = n)) ∘ fun e => (e.nm, entI e)) = some e := h
    rw [this]
    rfl
theorem isL_look (b : List Ent) (n : Str) : (lookD (lsK b) n).isSome = isL b n := by
  rw [look_ls, Option.isSome_map]
  unfold isL
  rw [Bool.eq_iff_iff, List.find?_isSome, List.any_eq_true]
theorem isL_find {b : List Ent} {n : Str} (h : isL b n = true) : ∃ e, b.find? (fun e => decide (e.nm = n)) = some e ∧ e ∈ b ∧ e.nm = n := by
  cases q : b.find? (fun e => decide (e.nm = n)) with
  | none =>
    rw [← isL_look, look_ls, q] at h
    cases h
  | some e => exact ⟨e, rfl, List.mem_of_find?_eq_some q, of_decide_eq_true (List.find?_some (p := fun e : Ent => decide (e.nm = n)) q)⟩
theorem memsOf_mem {b : List Ent} {n m : Str} (h : m ∈ memsOf b n) : ∃ e ∈ b, m ∈ e.mem := by
  unfold memsOf at h
  cases q : b.find? (fun e => decide (e.nm = n)) with
  | none => rw [q] at h; cases h
  | some e =>
    rw [q] at h
    exact ⟨e, List.mem_of_find?_eq_some q, h⟩
theorem memsOf_nd {b : List Ent} (hb : Bk b) (n : Str) : (memsOf b n).Nodup := by
  unfold memsOf
  cases q : b.find? (fun e => decide (e.nm = n)) with
  | none => exact List.nodup_nil
  | some e => exact (hb.ok e (List.mem_of_find?_eq_some q)).memN
/-- what a line is like on the way -/
structure Line (b : List Ent) (ns line : List Str) : Prop where
  nd : line.Nodup
  sub : ∀ x ∈ line, x ∈ uni b ns
theorem nd_sub_len {α : Type} [BEq α] [LawfulBEq α] : ∀ {l m : List α}, l.Nodup → (∀ x ∈ l, x ∈ m) → l.length ≤ m.length
  | [], _, _, _ => Nat.zero_le _
  | x :: l, m, h, hs => by
    have hx := hs x List.mem_cons_self
    obtain ⟨h1, h2⟩ := List.nodup_cons.mp h
    have z := nd_sub_len (l := l) (m := m.erase x) h2 fun y hy => (List.mem_erase_of_ne fun e => h1 (by rw [← e]; exact hy)).mpr (hs y (List.mem_cons_of_mem _ hy))
    rw [List.length_erase_of_mem hx] at z
    have := List.length_pos_of_mem hx
    rw [List.length_cons]
    omega
theorem Line.len {b : List Ent} {ns line : List Str} (h : Line b ns line) : line.length ≤ (uni b ns).length := nd_sub_len h.nd h.sub
theorem Line.grow {b : List Ent} {ns line ms : List Str} (h : Line b ns line) (hm : ms.Nodup) (hs : ∀ m ∈ ms, ∃ e ∈ b, m ∈ e.mem) : Line b ns (line ++ ms.filter fun m => !decide (m ∈ line)) := by
  refine ⟨List.nodup_append.mpr ⟨h.nd, hm.filter _, fun x hx y hy e => ?_⟩, fun x hx => ?_⟩
  · have := (List.mem_filter.mp hy).2
    rw [← e] at this
    simp [hx] at this
  · rcases List.mem_append.mp hx with z | z
    · exact h.sub x z
    · obtain ⟨e, he, hm⟩ := hs x (List.mem_filter.mp z).1
      exact List.mem_append_right _ (List.mem_flatMap.mpr ⟨e, he, hm⟩)
theorem Line.step {b : List Ent} {ns line : List Str} {g : Str → Bool} (hb : Bk b) (h : Line b ns line) (n : Str) : Line b ns (comeStep b g line n) := by
  unfold comeStep
  split
  · exact h.grow (memsOf_nd hb n) fun m hm => memsOf_mem hm
  · exact h
abbrev trueD (line : List Str) : List (Str × D) := line.map fun n => (n, D.bl true)
abbrev eCome0 (b : List Ent) (k : Nat) (dom g : Str → Bool) (ns line kn : List Str) (a : Nat) (o6 o7 : DS) : List DS := [.im (lsD b), .im (.lst (ns.map .str)), .im (.fn k dom g), .own (line.map .str), .ownD (trueD kn), .im (.int (a : Int)), o6, o7]
theorem trueD_keys (line : List Str) : (trueD line).map (·.1) = line := by
  rw [List.map_map]
  exact List.map_id line
theorem putD_new {kvs : List (Str × D)} {k : Str} {d : D} (h : k ∉ kvs.map (·.1)) : putD kvs k d = kvs ++ [(k, d)] := by
  unfold putD
  rw [if_neg]
  intro z
  obtain ⟨kv, h1, h2⟩ := List.any_eq_true.mp z
  exact h (by rw [← of_decide_eq_true h2]; exact List.mem_map_of_mem h1)
theorem putT_new {line : List Str} {k : Str} (h : k ∉ line) : putD (trueD line) k (.bl true) = trueD (line ++ [k]) := by
  rw [putD_new (by rw [trueD_keys]; exact h)]
  show _ = (line ++ [k]).map fun n => (n, D.bl true)
  rw [List.map_append]
  rfl
theorem comeRun_at {b : List Ent} {g : Str → Bool} {m a : Nat} {line : List Str} {n : Str} (h : line[a]? = some n) : comeRun b g (m + 1) line a = comeRun b g m (comeStep b g line n) (a + 1) := by
  rw [comeRun, h]
theorem comeRun_end {b : List Ent} {g : Str → Bool} {m a : Nat} {line : List Str} (h : line.length ≤ a) : comeRun b g m line a = line := by
  cases m with
  | zero => rfl
  | succ m => rw [comeRun, List.getElem?_eq_none h]
theorem comeStep_len (b : List Ent) (g : Str → Bool) (line : List Str) (n : Str) : line.length ≤ (comeStep b g line n).length := by
  unfold comeStep
  split
  · rw [List.length_append]; omega
  · exact Nat.le_refl _
/-- ahead of a turn of the while: m turns are left at most -/
def PvCome (b : List Ent) (k : Nat) (dom g : Str → Bool) (ns : List Str) (m : Nat) (ds : List DS) : Prop := ∃ (line : List Str) (a : Nat) (o6 o7 : DS), ds = eCome0 b k dom g ns line line a o6 o7 ∧ m + a = (uni b ns).length + 1 ∧ a ≤ line.length ∧ Line b ns line ∧ comeRun b g m line a = come b g ns
def aCome (xs : List D) (r : DS) : Prop := ∃ (b : List Ent) (k : Nat) (dom g : Str → Bool) (ns : List Str), xs = [lsD b, .lst (ns.map .str), .fn k dom g] ∧ Bk b ∧ ns.Nodup ∧ (uni b ns).length ≤ 90000 ∧ (∀ n, isL b n = true → dom n = true) ∧ k ≤ 2 ∧ r = .ownD (trueD (come b g ns))
abbrev nCome : List Str := ["lists", "names", "goes", "line", "known", "at", "name", "member"]
abbrev qCome : List Str := ["lists", "names", "goes"]
theorem scCome : FnScope nCome qCome (defScope S_come_to) := ⟨rfl, rfl, rfl, by decide +kernel, rfl, by decide +kernel, by decide +kernel⟩
theorem ok_come_to {G : Glb} (Z : Facts G) : CallD G 3 "come_to" qCome false aCome := by
  refine ⟨?_, Z.g_come_to, Z.n_come_to, Z.f_come_to.kp⟩
  refine okD (N := nCome) Z.f_come_to scCome (fun xs r ⟨_, _, _, _, _, e, _⟩ => by rw [e]; rfl) fun cdv Ar outer s H E hr xs r ⟨b, k, dom, g, ns, e, hb, hn, hU, hdom, hk, er⟩ => ?_
  subst e er
  have hul : ns.length ≤ (uni b ns).length := by unfold uni; rw [List.length_append]; omega
  refine dss_cons (ds_p3 3 4 5 (dv_list (de_var 1 rfl) rfl Z.b_list) dv_newD de_int ?_ scCome.nd)
  refine dss_cons (ds_forE (e := D.str) (xs := ns) [6] (fun i => eCome0 b k dom g ns ns (ns.take i) 0 .no .no) (fun n ds1 => ds1.set 6 (.im (.str n))) rfl (di_list (de_var 1 rfl)) (fun n _ ds1 => dg_name 6 scCome.nd) (fun i n hi => ?_) ?_ PassesOwn.never)
  · have et : ns.take (i + 1) = ns.take i ++ [n] := by rw [List.take_succ, hi]; rfl
    have nt : (ns.take (i + 1)).Nodup := hn.sublist (List.take_sublist _ _)
    rw [et] at nt
    have ni : n ∉ ns.take i := fun z => (List.nodup_append.mp nt).2.2 _ z _ (List.mem_singleton_self _) rfl
    refine dss_one (ds_dput 4 rfl (de_var 6 rfl) de_bl ?_ ?_ (u1 hr))
    · rw [List.length_map, List.length_take]
      omega
    · show _ = _
      rw [putT_new ni, ← et]
      rfl
  · rw [List.take_length]
    have l0 : Line b ns ns := ⟨hn, fun x hx => List.mem_append_left _ hx⟩
    refine dss_cons (ds_while (PvCome b k dom g ns) ((uni b ns).length + 1) ⟨ns, 0, .no, .no, rfl, rfl, Nat.zero_le _, l0, rfl⟩ (fun m ds1 ⟨line, a, o6, o7, e1, e2, e3, e4, e5⟩ => ?_) PassesOwn.never)
    subst e1
    have hlu := e4.len
    refine ⟨_, dt_lt (de_var 5 rfl) (de_view 3 rfl rfl rfl (dv_is (de_lenL (de_var 3 rfl) rfl Z.b_len) (by rw [List.length_map]))), fun hc => ?_, fun hc => ?_⟩
    · have ha : a < line.length := by
        have := of_decide_eq_true hc
        omega
      obtain ⟨m', rfl⟩ : ∃ m', m = m' + 1 := ⟨m - 1, by omega⟩
      have hx : line[a]? = some line[a] := List.getElem?_eq_getElem ha
      generalize line[a] = n at hx
      rw [comeRun_at hx] at e5
      have l1 := e4.step (g := g) hb n
      have fin : ∀ o7', PvCome b k dom g ns m' (eCome0 b k dom g ns (comeStep b g line n) (comeStep b g line n) (a + 1) (.im (.str n)) o7') := fun o7' => ⟨_, a + 1, _, _, rfl, by omega, by have := comeStep_len b g line n; omega, l1, e5⟩
      refine dss_cons (ds_set 6 (de_view 3 rfl rfl rfl (de_ixL (de_var 3 rfl) (de_var 5 rfl) (lk_str (j := a) rfl hx))) ?_ scCome.nd)
      refine dss_cons (ds_if (dt_w (dw_and (x := isL b n) (y := g n) (isL_look b n ▸ dt_inD (de_var 6 rfl) (de_var 0 rfl) (u1 hr)) fun hl => dw_and1 (dt_val (de_fn 2 rfl (de_var 6 rfl) (hdom n hl) hr hk)))) (fun hc => ?_) (fun hc => ?_))
      · have hl : isL b n = true := (Bool.and_eq_true_iff.mp hc).1
        obtain ⟨en, f1, f2, f3⟩ := isL_find hl
        have em : memsOf b n = en.mem := by unfold memsOf; rw [f1]
        have es : comeStep b g line n = line ++ (memsOf b n).filter fun m => !decide (m ∈ line) := if_pos hc
        have mnd := memsOf_nd hb n
        refine dss_one (ds_forE (e := D.str) (xs := memsOf b n) [7] (fun i => eCome0 b k dom g ns (line ++ ((memsOf b n).take i).filter fun m => !decide (m ∈ line)) (line ++ ((memsOf b n).take i).filter fun m => !decide (m ∈ line)) a (.im (.str n)) .no) (fun n ds1 => ds1.set 7 (.im (.str n))) (by rw [List.take_zero, List.filter_nil, List.append_nil]; rfl)
          (di_list (de_fld (d := .lst ((memsOf b n).map .str)) (de_dget (d := entI en) (de_var 0 rfl) (de_var 6 rfl) (by rw [look_ls, f1]; rfl) (u1 hr)) Z.k_Entry Z.a_Entry_members (by rw [em]; rfl))) (fun n _ ds1 => dg_name 7 scCome.nd) (fun i x hi => ?_) ?_ PassesOwn.never)
        · have et : (memsOf b n).take (i + 1) = (memsOf b n).take i ++ [x] := by rw [List.take_succ, hi]; rfl
          have nt : ((memsOf b n).take (i + 1)).Nodup := mnd.sublist (List.take_sublist _ _)
          rw [et] at nt
          have ni : x ∉ (memsOf b n).take i := fun z => (List.nodup_append.mp nt).2.2 _ z _ (List.mem_singleton_self _) rfl
          have li := (e4.grow (ms := (memsOf b n).take i) (mnd.sublist (List.take_sublist _ _)) fun m hm => memsOf_mem (List.mem_of_mem_take hm)).len
          rw [et, List.filter_append]
          have inl : x ∈ line ++ ((memsOf b n).take i).filter (fun m => !decide (m ∈ line)) ↔ x ∈ line := by
            rw [List.mem_append]
            exact ⟨fun z => z.elim id fun z => absurd (List.mem_filter.mp z).1 ni, .inl⟩
          refine dss_one (ds_if (dt_niK 4 rfl (de_var 7 rfl) (u1 hr)) (fun hc => ?_) (fun hc => ?_))
          · rw [trueD_keys] at hc
            have nx : x ∉ line ++ ((memsOf b n).take i).filter (fun m => !decide (m ∈ line)) := fun z => by
              rw [decide_eq_true z] at hc
              cases hc
            have ef : [x].filter (fun m => !decide (m ∈ line)) = [x] := by
              rw [List.filter_cons, if_pos (by rw [decide_eq_false (fun z => nx (inl.mpr z))]; rfl)]
              rfl
            rw [ef, ← List.append_assoc]
            refine dss_cons (ds_dput 4 rfl (de_var 7 rfl) de_bl (by rw [List.length_map]; omega) ?_ (u1 hr))
            rw [putT_new nx]
            refine dss_one (ds_append 3 rfl (de_var 7 rfl) (by rw [List.length_map]; omega) ?_)
            show _ = _
            rw [show (line ++ ((memsOf b n).take i).filter (fun m => !decide (m ∈ line))).map D.str ++ [D.str x] = ((line ++ ((memsOf b n).take i).filter (fun m => !decide (m ∈ line))) ++ [x]).map D.str from by
              rw [List.map_append (l₁ := line ++ ((memsOf b n).take i).filter (fun m => !decide (m ∈ line)))]
              rfl]
            rfl
          · rw [trueD_keys] at hc
            have nx : x ∈ line ++ ((memsOf b n).take i).filter (fun m => !decide (m ∈ line)) := Decidable.byContradiction fun z => by
              rw [decide_eq_false z] at hc
              cases hc
            have ef : [x].filter (fun m => !decide (m ∈ line)) = [] := by
              rw [List.filter_cons, if_neg (by rw [decide_eq_true (inl.mp nx)]; exact fun z => nomatch z)]
              rfl
            rw [ef, List.append_nil]
            exact dss_nil rfl
        · rw [List.take_length, ← es]
          exact dss_one (ds_augI 5 rfl de_int ⟨m', Nat.lt_succ_self _, fin .no⟩ scCome.nd)
      · have es : comeStep b g line n = line := if_neg (by rw [hc]; exact fun z => nomatch z)
        rw [es] at fin
        exact dss_nil (dss_one (ds_augI 5 rfl de_int ⟨m', Nat.lt_succ_self _, fin o7⟩ scCome.nd))
    · have ha : line.length ≤ a := by
        have := of_decide_eq_false hc
        omega
      rw [comeRun_end ha] at e5
      refine dss_one (ds_retOwnD 4 rfl (.inl ?_))
      rw [e5]
theorem uni_short {b : List Ent} {ns : List Str} (hb : Bk b) (hn : ∀ x ∈ ns, Nm x) : ∀ x ∈ uni b ns, x.length ≤ 100000 := fun x hx => by
  have nm : Nm x := by
    rcases List.mem_append.mp hx with z | z
    · exact hn x z
    · obtain ⟨e, he, hm⟩ := List.mem_flatMap.mp z
      exact (hb.ok e he).mem x hm
  have := nm.hi
  omega

/-! ### all to whom a way leads -/
def leftOf (b : List Ent) (n : Str) : List Str := match b.find? fun e => decide (e.nm = n) with
  | some e => e.left
  | none => []
def goesM (b : List Ent) (g : Str → Bool) (p : Str) : Str → Bool := fun n => g n && !decide (p ∈ leftOf b n)
def reachedM (b : List Ent) (g : Str → Bool) (ns : List Str) : List Str := sortN (((come b g ns).filter fun n => !isL b n).filter fun p => decide (p ∈ come b (goesM b g p) ns))
theorem come_line {b : List Ent} (g : Str → Bool) {ns : List Str} (hb : Bk b) (hn : ns.Nodup) : Line b ns (come b g ns) := by
  unfold come
  have gen : ∀ (m a : Nat) (line : List Str), Line b ns line → Line b ns (comeRun b g m line a) := fun m => by
    induction m with
    | zero => exact fun a line h => h
    | succ m ih =>
      intro a line h
      rw [comeRun]
      cases line[a]? with
      | none => exact h
      | some n => exact ih _ _ (h.step hb n)
  exact gen _ _ _ ⟨hn, fun x hx => List.mem_append_left _ hx⟩
abbrev S_goes : Stmt := match (defBody S_reached_by).getD 1 (.Pass ⟨0, 0, 0, 0⟩) with
  | .For _ _ (s :: _) _ _ => s
  | _ => .Pass ⟨0, 0, 0, 0⟩
abbrev frGoes : List Str := ["passes", "person", "lists"]
abbrev nGoes : List Str := ["name", "passes", "person", "lists"]
theorem scGoes : NdefX.NScope nGoes ["name"] frGoes (C8.fnScope S_goes) := NdefX.nscope_by (by decide +kernel)
def aGoes (cd xs : List D) (r : DS) : Prop := ∃ (b : List Ent) (k : Nat) (dom g : Str → Bool) (p n : Str), cd = [.fn k dom g, .str p, lsD b] ∧ xs = [.str n] ∧ k ≤ 1 ∧ dom n = true ∧ isL b n = true ∧ r = .im (.bl (goesM b g p n))
theorem ok_goes {G : Glb} (Z : Facts G) (F : NdefX.NF) (hF : ∃ q cl c, F = NdefX.NF.of S_goes "goes" q cl c) : CloOk G 2 F none frGoes aGoes := by
  obtain ⟨q, cl, c, rfl⟩ := hF
  refine CloOk.ofN (p := "name") fun f => okN (N := nGoes) scGoes (fun doc pm ctv us hl => match us, hl with | [_], _ => rfl) (fun cd xs r ⟨_, _, _, _, _, _, _, e, _⟩ => by rw [e]; rfl) fun Ar outer s H E hr cd xs r ⟨b, k, dom, g, p, n, e1, e2, hk, hd, hl, er⟩ => ?_
  subst e1 e2 er
  obtain ⟨en, f1, f2, f3⟩ := isL_find hl
  have el : leftOf b n = en.left := by unfold leftOf; rw [f1]
  exact dss_one (ds_ret (de_and (de_fn 1 rfl (de_var 0 rfl) hd hr hk) fun _ => de_one (dv_is (de_niS (ns := en.left) (de_var 2 rfl) (de_fld (d := .lst (en.left.map .str)) (de_dget (d := entI en) (de_var 3 rfl) (de_var 0 rfl) (by rw [look_ls, f1]; rfl) (u1 hr)) Z.k_Entry Z.a_Entry_left rfl)) (by rw [el]))) (.inl rfl))
def aReached (xs : List D) (r : DS) : Prop := ∃ (b : List Ent) (k : Nat) (dom g : Str → Bool) (ns : List Str), xs = [lsD b, .lst (ns.map .str), .fn k dom g] ∧ Bk b ∧ ns.Nodup ∧ (uni b ns).length ≤ 90000 ∧ (∀ x ∈ uni b ns, x.length ≤ 100000) ∧ (∀ n, isL b n = true → dom n = true) ∧ k ≤ 1 ∧ r = .own ((reachedM b g ns).map .str)
abbrev nReached : List Str := ["lists", "names", "passes", "found", "person", "goes", "name"]
abbrev qReached : List Str := ["lists", "names", "passes"]
theorem scReached : FnScope nReached qReached (defScope S_reached_by) := ⟨rfl, rfl, rfl, by decide +kernel, rfl, by decide +kernel, by decide +kernel⟩
theorem nfGoes : NdefX.ndefB (defScope S_reached_by) (C8.fnScope S_goes) frGoes = true := by decide +kernel
theorem look_true (k : Str) : ∀ l : List Str, (lookD (trueD l) k).isSome = decide (k ∈ l)
  | [] => rfl
  | x :: l => by
    unfold lookD trueD
    rw [List.map_cons, List.find?_cons]
    by_cases e : x = k
    · rw [decide_eq_true (show ((x, D.bl true) : Str × D).1 = k from e), decide_eq_true (by rw [e]; exact List.mem_cons_self)]
      rfl
    · rw [decide_eq_false (show ¬ ((x, D.bl true) : Str × D).1 = k from e)]
      have z := look_true k l
      unfold lookD trueD at z
      rw [show (decide (k ∈ x :: l)) = decide (k ∈ l) from decide_eq_decide.mpr ⟨fun h => (List.mem_cons.mp h).elim (fun h => absurd h.symm e) id, List.mem_cons_of_mem _⟩, ← z]
theorem clean_true (l : List Str) : (DS.ownD (trueD l)).clean = true := by
  show ((l.map fun n => (n, D.bl true)).all fun kv => flatD kv.2) = true
  rw [List.all_map, List.all_eq_true]
  intro x _
  rfl

theorem ok_reached_by {G : Glb} (Z : Facts G) : CallD G 5 "reached_by" qReached false aReached := by
  refine ⟨?_, Z.g_reached_by, Z.n_reached_by, Z.f_reached_by.kp⟩
  refine okDc (N := nReached) Z.f_reached_by Z.t_reached_by scReached (fun xs r ⟨_, _, _, _, _, e, _⟩ => by rw [e]; rfl) fun c P tb Ar outer s H E hr xs r ⟨b, k, dom, g, ns, e, hb, hn, hU, hlen, hdom, hk, er⟩ => ?_
  subst e er
  obtain ⟨cs, hcs⟩ : ∃ cs, cs = (come b g ns).filter fun n => !isL b n := ⟨_, rfl⟩
  have lc := come_line g hb hn
  have csl : cs.length ≤ 90000 := by
    rw [hcs]
    exact Nat.le_trans (List.length_filter_le _ _) (Nat.le_trans lc.len hU)
  have aC : aCome [lsD b, .lst (ns.map .str), .fn k dom g] (.ownD (trueD (come b g ns))) := ⟨_, _, _, _, _, rfl, hb, hn, hU, hdom, by omega, rfl⟩
  refine dss_cons (ds_set 3 (dv_lst da_nil (by decide)) ?_ scReached.nd)
  refine dss_cons (ds_forE (e := D.str) (xs := cs) [4, 5] (fun i => [.im (lsD b), .im (.lst (ns.map .str)), .im (.fn k dom g), .own (((cs.take i).filter fun p => decide (p ∈ come b (goesM b g p) ns)).map .str), .no, .no, .no]) (fun n ds1 => ds1.set 4 (.im (.str n))) rfl
    (di_list (de_own (dv_is (dv_lcP (ev := D.str) (xs := come b g ns) (own := [("name", 6)]) (js := [6]) (fun n => [.im (lsD b), .im (.lst (ns.map .str)), .im (.fn k dom g), .own [], .no, .no, .im (.str n)]) (fun n => !isL b n) (fun n => .str n) ((keys_true (come b g ns)) ▸ di_keysNew (dv_c (ok_come_to Z) hr (da_cons (de_var 0 rfl) (da_cons (de_var 1 rfl) (da_cons (de_var 2 rfl) da_nil))) aC)) (by have := lc.len; omega) scReached.nd
      (blkOk_by (N := nReached) (sc := defScope S_reached_by) (by decide +kernel)) (fun s H C cl fp n hc => dg_name 6 scReached.nd) (fun s H C cl fp n hc => dts_one (isL_look b n ▸ dt_niD (de_var 6 rfl) (de_var 0 rfl) (u1 hr))) (fun s H C cl fp n hc _ => de_var 6 rfl)) (by rw [hcs])))) (fun n _ ds1 => dg_name 4 scReached.nd) (fun i p hi => ?_) ?_ PassesOwn.never)
  · have hp : p ∈ come b g ns := by
      have := List.mem_of_getElem? hi
      rw [hcs] at this
      exact (List.mem_filter.mp this).1
    have et : cs.take (i + 1) = cs.take i ++ [p] := by rw [List.take_succ, hi]; rfl
    refine dss_cons (ds_ndef 5 (c := c) (P := P) (nm := fun _ _ => "reached_by.<locals>.goes") (name := "goes") rfl tb.tb rfl tb.mem (show ("reached_by.<locals>.goes" : Str) = "reached_by" ++ ".<locals>." ++ "goes" by decide +kernel) tb.one (NdefX.ndef_free (sc := defScope S_reached_by) (nsc := C8.fnScope S_goes) nfGoes) scReached.nd (fun c' => ?_))
    refine dss_one (ds_if (dt_inD (kvs := trueD (come b (goesM b g p) ns)) (de_var 4 rfl) (de_ownD (dv_cl _ frGoes [2, 4, 0] [.fn k dom g, .str p, lsD b] [lsD b, .lst (ns.map .str), .fn 2 (fun n => isL b n) (goesM b g p)] (ok_come_to Z) hr (da_cons (de_var 0 rfl) (da_cons (de_var 1 rfl) (da_cons (de_var 5 rfl) da_nil)))
      (fun ok => NdefX.Caps.made (fr := frGoes) (scope := C8.fnScope S_goes) ok (NdefX.ndef_free (sc := defScope S_reached_by) (nsc := C8.fnScope S_goes) nfGoes) (NdefX.ndef_fr (sc := defScope S_reached_by) (nsc := C8.fnScope S_goes) nfGoes) rfl) (fun _ => rfl) ?_ rfl ?_ ⟨_, _, _, _, _, rfl, hb, hn, hU, fun _ h => h, by decide, rfl⟩ ?_)) (u1 hr)) (fun hc => ?_) (fun hc => ?_))
    · intro i d hd
      match i, hd with
      | 0, hd => exact ⟨2, rfl, by cases hd; rfl⟩
      | 1, hd => exact ⟨4, rfl, by cases hd; rfl⟩
      | 2, hd => exact ⟨0, rfl, by cases hd; rfl⟩
      | n + 3, hd => cases hd
    · intro I L vs ws cap wl hd hw hn sm rs
      cases rs with
      | cons r1 rs =>
      cases rs with
      | cons r2 rs =>
      cases rs with
      | @cons v3 _ _ _ r3 rs =>
      cases rs
      obtain ⟨f, rfl⟩ : ∃ f, v3 = .ref f := by
        cases r3
        exact ⟨_, rfl⟩
      exact .cons (r1.mono sm) (.cons (r2.mono sm) (.cons (rep_fn (ok_goes Z _ ⟨_, _, _, rfl⟩) r3 cap wl hd hw hn fun x hx => ⟨b, k, dom, g, p, x, rfl, rfl, hk, hdom x hx, hx, rfl⟩) .nil))
    · exact clean_true _
    · rw [look_true] at hc
      refine dss_one (ds_append 3 rfl (de_var 4 rfl) ?_ ?_)
      · rw [List.length_map]
        have := List.length_filter_le (fun p => decide (p ∈ come b (goesM b g p) ns)) (cs.take i)
        rw [List.length_take] at this
        omega
      · show _ = _
        rw [et, List.filter_append, List.filter_cons, if_pos hc, List.map_append]
        rfl
    · rw [look_true] at hc
      refine dss_nil ?_
      show _ = _
      rw [et, List.filter_append, List.filter_cons, if_neg (by rw [hc]; exact fun z => nomatch z), List.filter_nil, List.append_nil]
      rfl
  · rw [List.take_length]
    refine dss_freeze 3 rfl rfl (dss_one (ds_ret (dv_c (ok_in_order Z) hr (da_cons (de_var 3 rfl) da_nil) ⟨_, rfl, fun n hn => ?_, rfl⟩) (.inl ?_)))
    · have h1 := (List.mem_filter.mp hn).1
      rw [hcs] at h1
      exact hlen n (lc.sub n (List.mem_filter.mp h1).1)
    · rw [hcs]
      rfl

/-! ### all that a name stands for -/
def lamAt (e : Expr) : Arguments × Expr × Scope := match e with
  | .Lambda a b s _ => (a, b, s)
  | _ => ({ posonlyargs := [], args := [], vararg := none, kwonlyargs := [], kw_defaults := [], kwarg := none, defaults := [] }, e, { kind := .function, names := [], isGenerator := false, isCoroutine := false })
def retE (s : Stmt) : Expr := match s with
  | .Return (some e) _ => e
  | _ => .Name "" ⟨0, 0, 0, 0⟩
def argAt (e : Expr) (i : Nat) : Expr := match e with
  | .Call _ es _ _ => es.getD i (.Name "" ⟨0, 0, 0, 0⟩)
  | _ => .Name "" ⟨0, 0, 0, 0⟩
def aTrue (cd xs : List D) (r : DS) : Prop := cd = [] ∧ ∃ x : Str, xs = [.str x] ∧ r = .im (.bl true)
abbrev L_stands : Arguments × Expr × Scope := lamAt (argAt (retE ((defBody S_stands_for).getD 0 (.Pass ⟨0, 0, 0, 0⟩))) 2)
theorem scLamS : NdefX.NScope ["one"] ["one"] [] L_stands.2.2 := NdefX.nscope_by (by decide +kernel)
theorem ok_lamS {G : Glb} (F : NdefX.NF) (hF : ∃ q cl c, F = ⟨"<lambda>", q, L_stands.1, [], L_stands.2.2, cl, c⟩) : CloOk G 1 F (some L_stands.2.1) [] aTrue := by
  obtain ⟨q, cl, c, rfl⟩ := hF
  refine okL (N := ["one"]) (p := "one") scLamS (fun cd xs r ⟨_, x, e, _⟩ => ⟨x, e⟩) (fun pm ctv u => rfl) fun f Ar outer s H E hr cd x r ⟨e1, y, e2, er⟩ => ?_
  subst e1 er
  exact de_bl
theorem fn_true {G : Glb} {F : NdefX.NF} {e : Expr} (h : CloOk G 1 F (some e) [] aTrue) (hcl : F.cl = []) {J : Hp} {f : Addr} (r : Rep G J (.ref f) (.clo F (some e))) : Rep G J (.ref f) (.fn 1 (fun _ => true) fun _ => true) := by
  have z := rep_fn (L := []) (ws := []) (cd := []) (dom := fun _ => true) (g := fun _ => true) h r (fun i d e => nomatch e) rfl ⟨rfl, (fun y c e => by rw [hcl] at e; cases e), (fun x y c e => by rw [hcl] at e; cases e), (fun i y e => nomatch e)⟩ (fun a o e => nomatch e) (fun a o e => nomatch e) fun x _ => ⟨rfl, x, rfl, rfl⟩
  exact z
def aStands (xs : List D) (r : DS) : Prop := ∃ (b : List Ent) (n : Str), xs = [lsD b, .str n] ∧ Bk b ∧ (uni b [n]).length ≤ 90000 ∧ (∀ x ∈ uni b [n], x.length ≤ 100000) ∧ r = .own ((reachedM b (fun _ => true) [n]).map .str)
theorem scStands : FnScope ["lists", "name"] ["lists", "name"] (defScope S_stands_for) := ⟨rfl, rfl, rfl, by decide +kernel, rfl, by decide +kernel, by decide +kernel⟩
theorem nfStands : ∀ y ∈ L_stands.2.2.names, y.2 = .free → (defScope S_stands_for).names.lookup y.1 = some .cell ∨ (defScope S_stands_for).names.lookup y.1 = some .free := by decide +kernel
theorem ok_stands_for {G : Glb} (Z : Facts G) : CallD G 6 "stands_for" ["lists", "name"] false aStands := by
  refine ⟨?_, Z.g_stands_for, Z.n_stands_for, Z.f_stands_for.kp⟩
  refine okDc (N := ["lists", "name"]) Z.f_stands_for Z.t_stands_for scStands (fun xs r ⟨_, _, e, _⟩ => by rw [e]; rfl) fun c P tb Ar outer s H E hr xs r ⟨b, n, e, hb, hU, hlen, er⟩ => ?_
  subst e er
  refine dss_one (ds_ret (dv_c (ok_reached_by Z) hr (da_cons (de_var 0 rfl) (da_cons (de_own (dv_lst (da_cons (de_var 1 rfl) da_nil) (by show 1 ≤ 100000; decide))) (da_cons (de_lam (d := .fn 1 (fun _ => true) fun _ => true) (c := c) (P := P) (nm := fun _ _ => "stands_for.<locals>.<lambda>") tb.tb rfl tb.mem (show ("stands_for.<locals>.<lambda>" : Str) = "stands_for" ++ ".<locals>." ++ "<lambda>" by decide +kernel) tb.one nfStands (fun J f c' r => ?_)) da_nil)))
    ⟨b, 1, fun _ => true, fun _ => true, [n], rfl, hb, by simp, hU, hlen, fun _ _ => rfl, by decide, rfl⟩) (.inl rfl))
  exact fn_true (ok_lamS _ ⟨_, _, _, rfl⟩) rfl r

/-! ### which lists let a sender in -/
def openM (b : List Ent) (s : Str) (e : Ent) : Bool := match e.gate with
  | none => true
  | some g => if isL b g = true then decide (s ∈ reachedM b (fun _ => true) [g]) else decide (g = s)
def letsL (b : List Ent) (s : Str) (l : List Ent) : List (Str × D) := l.map fun e => (e.nm, D.bl (openM b s e))
def gateL (b : List Ent) (e : Ent) : Bool := match e.gate with
  | none => false
  | some g => !isL b g
theorem items_ls (b : List Ent) : DK.items.ds (lsK b) = b.map fun e => D.tup [.str e.nm, entI e] := by
  show (b.map fun e => (e.nm, entI e)).map (fun kv => D.tup [.str kv.1, kv.2]) = _
  rw [List.map_map]
  rfl
theorem keys_ls (b : List Ent) : DK.keys.ds (lsK b) = b.map fun e => D.str e.nm := by
  show (b.map fun e => (e.nm, entI e)).map (fun kv => D.str kv.1) = _
  rw [List.map_map]
  rfl
theorem uni_le {b : List Ent} (hU : (b.flatMap Ent.mem).length ≤ 80000) {ns : List Str} (h : ns.length ≤ 10000) : (uni b ns).length ≤ 90000 := by
  unfold uni
  rw [List.length_append]
  omega
theorem take_nd {b : List Ent} (hb : Bk b) {i : Nat} {a : Ent} (ha : b[i]? = some a) : a.nm ∉ (b.take i).map Ent.nm := by
  have et : b.take (i + 1) = b.take i ++ [a] := by rw [List.take_succ, ha]; rfl
  have nt : ((b.take (i + 1)).map Ent.nm).Nodup := hb.nd.sublist ((List.take_sublist _ _).map _)
  rw [et, List.map_append] at nt
  exact fun z => (List.nodup_append.mp nt).2.2 _ z _ (List.mem_singleton_self _) rfl
theorem take_snoc {α : Type} {l : List α} {i : Nat} {a : α} (h : l[i]? = some a) : l.take (i + 1) = l.take i ++ [a] := by rw [List.take_succ, h]; rfl
def aLetsIn (xs : List D) (r : DS) : Prop := ∃ (b : List Ent) (s : Str), xs = [lsD b, .str s] ∧ Bk b ∧ (b.flatMap Ent.mem).length ≤ 80000 ∧ r = .ownD (letsL b s b)
abbrev nLetsIn : List Str := ["lists", "sender", "found", "name", "entry"]
theorem scLetsIn : FnScope nLetsIn ["lists", "sender"] (defScope S_lets_in) := ⟨rfl, rfl, rfl, by decide +kernel, rfl, by decide +kernel, by decide +kernel⟩
theorem ok_lets_in {G : Glb} (Z : Facts G) : CallD G 7 "lets_in" ["lists", "sender"] false aLetsIn := by
  refine ⟨?_, Z.g_lets_in, Z.n_lets_in, Z.f_lets_in.kp⟩
  refine okD (N := nLetsIn) Z.f_lets_in scLetsIn (fun xs r ⟨_, _, e, _⟩ => by rw [e]; rfl) fun cdv Ar outer s H E hr xs r ⟨b, se, e, hb, hU, er⟩ => ?_
  subst e er
  have hble := hb.le
  refine dss_cons (ds_set 2 dv_newD ?_ scLetsIn.nd)
  refine dss_cons (ds_forE (e := fun e : Ent => D.tup [.str e.nm, entI e]) (xs := b) [3, 4] (fun i => [.im (lsD b), .im (.str se), .ownD (letsL b se (b.take i)), .no, .no]) (fun e ds1 => (ds1.set 3 (.im (.str e.nm))).set 4 (.im (entI e))) rfl
    (items_ls b ▸ di_items (de_var 0 rfl)) (fun e _ ds1 => dg_tup (dgs_cons (dg_name 3 scLetsIn.nd) (dgs_cons (dg_name 4 scLetsIn.nd) dgs_nil))) (fun i a ha => ?_) ?_ PassesOwn.never)
  · have hm : a ∈ b := List.mem_of_getElem? ha
    have ho := hb.ok a hm
    have nk : a.nm ∉ (letsL b se (b.take i)).map (·.1) := by
      unfold letsL
      rw [List.map_map]
      exact take_nd hb ha
    have hl : (letsL b se (b.take i)).length < 100000 := by
      unfold letsL
      rw [List.length_map, List.length_take]
      omega
    have fin : DS.ownD (putD (letsL b se (b.take i)) a.nm (.bl (openM b se a))) = .ownD (letsL b se (b.take (i + 1))) := by
      rw [putD_new nk, take_snoc ha]
      unfold letsL
      rw [List.map_append]
      rfl
    cases hg : a.gate with
    | none =>
      refine dss_one (ds_if (x := true) (dt_is (dt_w (dw_or (x := true) (y := false) (dt_is (dt_isN (de_fld (d := gD a.gate) (de_var 4 rfl) Z.k_Entry Z.a_Entry_gate rfl) (isN_g a.gate)) (by rw [hg]; rfl)) fun h => by cases h)) rfl) (fun _ => ?_) (fun h => by cases h))
      refine dss_one (ds_dput 2 rfl (de_var 3 rfl) (dv_is (de_inNS (g := a.gate) (x := se) (de_fld (d := gD a.gate) (de_var 4 rfl) Z.k_Entry Z.a_Entry_gate rfl) (de_tup (da_cons de_non (da_cons (de_var 1 rfl) da_nil)) (by show 2 ≤ 100000; decide))) (s' := .im (.bl (openM b se a))) (by unfold openM; rw [hg]; rfl)) hl ?_ (u1 hr))
      rw [fin]
      rfl
    | some g =>
      refine dss_one (ds_if (x := !isL b g) (dt_is (dt_w (dw_or (x := false) (y := !isL b g) (dt_is (dt_isN (de_fld (d := gD a.gate) (de_var 4 rfl) Z.k_Entry Z.a_Entry_gate rfl) (isN_g a.gate)) (by rw [hg]; rfl)) fun _ => dw_or1 (isL_look b g ▸ dt_niD (dv_is (de_fld (d := gD a.gate) (de_var 4 rfl) Z.k_Entry Z.a_Entry_gate rfl) (by rw [hg]; rfl)) (de_var 0 rfl) (u1 hr)))) (Bool.false_or _)) (fun hc => ?_) (fun hc => ?_))
      · have hc' : isL b g = false := by simpa using hc
        refine dss_one (ds_dput 2 rfl (de_var 3 rfl) (dv_is (de_inNS (g := a.gate) (x := se) (de_fld (d := gD a.gate) (de_var 4 rfl) Z.k_Entry Z.a_Entry_gate rfl) (de_tup (da_cons de_non (da_cons (de_var 1 rfl) da_nil)) (by show 2 ≤ 100000; decide))) (s' := .im (.bl (openM b se a))) (by
          unfold openM
          rw [hg]
          show DS.im (.bl (false || decide (some g = some se))) = .im (.bl (if isL b g = true then _ else decide (g = se)))
          rw [if_neg (by rw [hc']; exact fun z => nomatch z), Bool.false_or]
          exact congrArg (fun x => DS.im (D.bl x)) (decide_eq_decide.mpr ⟨fun e => Option.some.inj e, fun e => by rw [e]⟩))) hl ?_ (u1 hr))
        rw [fin]
        rfl
      · have hc' : isL b g = true := by simpa using hc
        have hgn := ho.gate g hg
        refine dss_one (ds_dput 2 rfl (de_var 3 rfl) (dv_is (de_inS (de_var 1 rfl) (de_own (dv_c (ok_stands_for Z) hr (da_cons (de_var 0 rfl) (da_cons (dv_is (de_fld (d := gD a.gate) (de_var 4 rfl) Z.k_Entry Z.a_Entry_gate rfl) (by rw [hg]; rfl)) da_nil)) ⟨b, g, rfl, hb, uni_le hU (by show 1 ≤ _; omega), uni_short hb (fun x hx => by rw [List.mem_singleton.mp hx]; exact hgn), rfl⟩))) (s' := .im (.bl (openM b se a))) (by
          unfold openM
          rw [hg]
          show _ = DS.im (.bl (if isL b g = true then _ else _))
          rw [if_pos hc'])) hl ?_ (u1 hr))
        rw [fin]
        rfl
  · rw [List.take_length]
    exact dss_one (ds_retOwnD 2 rfl (.inl rfl))
/-! ### whom a letter reaches, which lists hold it -/
def gM (b : List Ent) (s : Str) (n : Str) : Bool := match b.find? fun e => decide (e.nm = n) with
  | some e => openM b s e
  | none => false
theorem look_lets (b : List Ent) (s n : Str) : lookD (letsL b s b) n = (b.find? fun e => decide (e.nm = n)).map fun e => D.bl (openM b s e) := by
  unfold lookD letsL
  rw [List.find?_map]
  cases h : b.find? (fun e => decide (e.nm = n)) with
  | none =>
    have : b.find? ((fun kv : Str × D => decide (kv.1 = n)) ∘ fun e => (e.nm, D.bl (openM b s e))) = none := h
    rw [this]
    rfl
  | some e =>
    have : b.find? ((fun kv : Str × D => decide (kv.1 = n)) ∘ fun e => (e.nm, D.bl (openM b s e))) = some e := h
    rw [this]
    rfl
theorem look_gM {b : List Ent} {s n : Str} (h : isL b n = true) : lookD (letsL b s b) n = some (.bl (gM b s n)) := by
  obtain ⟨e, h1, _⟩ := isL_find h
  rw [look_lets, h1]
  unfold gM
  rw [h1]
  rfl

/-! ### the lists that hold a letter -/
def heldM (b : List Ent) (g : Str → Bool) (ns : List Str) : List Str := sortN ((come b g ns).filter fun n => isL b n && !g n)
def aHolding (xs : List D) (r : DS) : Prop := ∃ (b : List Ent) (k : Nat) (dom g : Str → Bool) (ns : List Str), xs = [lsD b, .lst (ns.map .str), .fn k dom g] ∧ Bk b ∧ ns.Nodup ∧ (uni b ns).length ≤ 90000 ∧ (∀ x ∈ uni b ns, x.length ≤ 100000) ∧ (∀ n, isL b n = true → dom n = true) ∧ k ≤ 2 ∧ r = .own ((heldM b g ns).map .str)
abbrev nHolding : List Str := ["lists", "names", "passes", "met", "name"]
theorem scHolding : FnScope nHolding ["lists", "names", "passes"] (defScope S_holding) := ⟨rfl, rfl, rfl, by decide +kernel, rfl, by decide +kernel, by decide +kernel⟩
theorem ok_holding {G : Glb} (Z : Facts G) : CallD G 5 "holding" ["lists", "names", "passes"] false aHolding := by
  refine ⟨?_, Z.g_holding, Z.n_holding, Z.f_holding.kp⟩
  refine okD (N := nHolding) Z.f_holding scHolding (fun xs r ⟨_, _, _, _, _, e, _⟩ => by rw [e]; rfl) fun cdv Ar outer s H E hr xs r ⟨b, k, dom, g, ns, e, hb, hn, hU, hlen, hdom, hk, er⟩ => ?_
  subst e er
  have lc := come_line g hb hn
  have cl := lc.len
  refine dss_cons (ds_set 3 (de_ownD (dv_c (ok_come_to Z) hr (da_cons (de_var 0 rfl) (da_cons (de_var 1 rfl) (da_cons (de_var 2 rfl) da_nil))) ⟨b, k, dom, g, ns, rfl, hb, hn, hU, hdom, hk, rfl⟩)) ?_ scHolding.nd)
  refine dss_one (ds_ret (dv_c (ok_in_order Z) hr (da_cons (dv_is (de_own (dv_lcP (ev := D.str) (xs := come b g ns) (own := [("name", 4)]) (js := [4]) (fun n => [.im (lsD b), .im (.lst (ns.map .str)), .im (.fn k dom g), .im (.dic (trueD (come b g ns))), .im (.str n)]) (fun n => isL b n && !g n) (fun n => .str n)
    (keys_true (come b g ns) ▸ di_keys (de_var 3 rfl)) (by omega) scHolding.nd (blkOk_by (N := nHolding) (sc := defScope S_holding) (by decide +kernel)) (fun s H C cl fp n hc => dg_name 4 scHolding.nd)
    (fun s H C cl fp n hc => dts_one (dt_w (dw_and (isL_look b n ▸ dt_inD (de_var 4 rfl) (de_var 0 rfl) (u1 hr)) fun hl => dw_and1 (dt_not (dt_val (de_fn 2 rfl (de_var 4 rfl) (hdom n hl) hr (by omega))))))) (fun s H C cl fp n hc _ => de_var 4 rfl))) rfl) da_nil) ⟨_, rfl, fun n hn => ?_, rfl⟩) (.inl rfl))
  exact hlen n (lc.sub n (List.mem_filter.mp hn).1)

/-! ### keys that are added -/
def addK (kn : List Str) (k : Str) : List Str := if k ∈ kn then kn else kn ++ [k]
theorem addK_mem {kn : List Str} {k x : Str} : x ∈ addK kn k ↔ (x ∈ kn ∨ x = k) := by
  unfold addK
  split
  · rename_i h
    exact ⟨.inl, fun z => z.elim id fun z => by rw [z]; exact h⟩
  · rw [List.mem_append, List.mem_singleton]
theorem addKs_mem {x : Str} : ∀ {l kn : List Str}, x ∈ l.foldl addK kn ↔ (x ∈ kn ∨ x ∈ l)
  | [], kn => ⟨.inl, fun z => z.elim id fun z => by cases z⟩
  | k :: l, kn => by
    rw [List.foldl_cons, addKs_mem, addK_mem, List.mem_cons, or_assoc]
theorem addT (kn : List Str) (k : Str) : putD (trueD kn) k (.bl true) = trueD (addK kn k) := by
  unfold addK
  split
  · rename_i h
    unfold putD
    rw [if_pos]
    · rw [List.map_map]
      refine List.map_congr_left fun x _ => ?_
      show (if x = k then (x, D.bl true) else (x, D.bl true)) = _
      rw [ite_self]
    · rw [List.any_map, List.any_eq_true]
      exact ⟨k, h, decide_eq_true rfl⟩
  · rename_i h
    exact putT_new h
theorem addK_nd {kn : List Str} {k : Str} (h : kn.Nodup) : (addK kn k).Nodup := by
  unfold addK
  split
  · exact h
  · rename_i n
    refine List.nodup_append.mpr ⟨h, by simp, fun x hx y hy e => ?_⟩
    rw [List.mem_singleton.mp hy] at e
    exact n (e ▸ hx)
theorem addKs_nd : ∀ {l kn : List Str}, kn.Nodup → (l.foldl addK kn).Nodup
  | [], _, h => h
  | k :: l, kn, h => by
    rw [List.foldl_cons]
    exact addKs_nd (addK_nd h)
theorem merge_true : ∀ (l kn : List Str), mergeD (trueD kn) (trueD l) = trueD (l.foldl addK kn)
  | [], _ => rfl
  | k :: l, kn => by
    show mergeD (putD (trueD kn) k (.bl true)) (trueD l) = _
    rw [addT, merge_true l, List.foldl_cons]

/-! ### the law's own rounds -/
abbrev noS : Str := ""
def metStep (passed : List Str) (p : Str) (met : List Str) (e : Ent) : List Str := if (decide (e.nm ∈ met) && (decide (e.nm ∈ passed) && !decide (p ∈ e.left))) = true then met ++ e.mem.filter fun m => !decide (m ∈ met) else met
def metRound (b : List Ent) (passed : List Str) (p : Str) (met : List Str) : List Str := b.foldl (metStep passed p) met
def metRun (b : List Ent) (passed : List Str) (p : Str) : Nat → List Str → Int → List Str
  | 0, met, _ => met
  | f + 1, met, many => if many < (met.length : Int) then metRun b passed p f (metRound b passed p met) (met.length : Int) else met
def metM (b : List Ent) (ns passed : List Str) (p : Str) : List Str := metRun b passed p ((uni b ns).length + 2) ns (-1)
theorem Line.met {b : List Ent} {ns met passed : List Str} {p : Str} (hb : Bk b) (h : Line b ns met) {e : Ent} (he : e ∈ b) : Line b ns (metStep passed p met e) := by
  unfold metStep
  split
  · exact h.grow (hb.ok e he).memN fun m hm => ⟨e, he, hm⟩
  · exact h
theorem Line.round {b : List Ent} {ns passed : List Str} {p : Str} (hb : Bk b) : ∀ (l : List Ent) (met : List Str), (∀ e ∈ l, e ∈ b) → Line b ns met → Line b ns (l.foldl (metStep passed p) met)
  | [], _, _, h => h
  | e :: l, met, hl, h => Line.round hb l _ (fun x hx => hl x (List.mem_cons_of_mem _ hx)) (h.met hb (hl e List.mem_cons_self))
def PvMet (b : List Ent) (ns passed : List Str) (p : Str) (m : Nat) (ds : List DS) : Prop := ∃ (met : List Str) (many : Int) (o6 o7 o8 o9 o10 : DS), ds = [.im (bkD b), .im (.lst (ns.map .str)), .im (.lst (passed.map .str)), .im (.str p), .im (.lst (met.map .str)), .im (.int many), o6, o7, o8, o9, o10] ∧ ((uni b ns).length : Int) + 1 ≤ (m : Int) + many ∧ Line b ns met ∧ metRun b passed p m met many = metM b ns passed p
def aMet (xs : List D) (r : DS) : Prop := ∃ (b : List Ent) (ns passed : List Str) (p : Str), xs = [bkD b, .lst (ns.map .str), .lst (passed.map .str), .str p] ∧ Bk b ∧ ns.Nodup ∧ (uni b ns).length ≤ 90000 ∧ r = .im (.lst ((metM b ns passed p).map .str))
abbrev nMet : List Str := ["_law_book_here", "_law_names_here", "_law_passed_here", "_law_person", "_law_met_here", "_law_many", "_law_name", "_law_members", "_law_left", "_law_gate", "_law_member"]
abbrev qMet : List Str := ["_law_book_here", "_law_names_here", "_law_passed_here", "_law_person"]
theorem scMet : FnScope nMet qMet (defScope S_law_met) := ⟨rfl, rfl, rfl, by decide +kernel, rfl, by decide +kernel, by decide +kernel⟩
theorem ok_met {G : Glb} (Z : Facts G) : CallD G 1 "_law_met" qMet false aMet := by
  refine ⟨?_, Z.g_law_met, Z.n_law_met, Z.f_law_met.kp⟩
  refine okD (N := nMet) Z.f_law_met scMet (fun xs r ⟨_, _, _, _, e, _⟩ => by rw [e]; rfl) fun cdv Ar outer s H E hr xs r ⟨b, ns, passed, p, e, hb, hn, hU, er⟩ => ?_
  subst e er
  have l0 : Line b ns ns := ⟨hn, fun x hx => List.mem_append_left _ hx⟩
  refine dss_cons (ds_p2t 4 5 (de_own (dv_list (de_var 1 rfl) rfl Z.b_list)) (de_neg de_int) ?_ scMet.nd)
  refine dss_cons (ds_while (PvMet b ns passed p) ((uni b ns).length + 2) ⟨ns, -1, .no, .no, .no, .no, .no, rfl, by omega, l0, rfl⟩ (fun m ds1 ⟨met, many, o6, o7, o8, o9, o10, e1, e2, e4, e5⟩ => ?_) PassesOwn.never)
  subst e1
  have hlu := e4.len
  refine ⟨_, dt_gt (dv_is (de_lenL (de_var 4 rfl) rfl Z.b_len) (by rw [List.length_map])) (de_var 5 rfl), fun hc => ?_, fun hc => ?_⟩
  · have ha : many < (met.length : Int) := of_decide_eq_true hc
    obtain ⟨m', rfl⟩ : ∃ m', m = m' + 1 := ⟨m - 1, by omega⟩
    have e6 : metRun b passed p m' (metRound b passed p met) (met.length : Int) = metM b ns passed p := by
      rw [← e5, metRun, if_pos ha]
    refine dss_cons (ds_set 5 (dv_is (de_lenL (de_var 4 rfl) rfl Z.b_len) (by rw [List.length_map])) ?_ scMet.nd)
    refine dss_one (ds_forE (e := Ent.d) (xs := b) [6, 7, 8, 9, 10] (fun i => [.im (bkD b), .im (.lst (ns.map .str)), .im (.lst (passed.map .str)), .im (.str p), .im (.lst (((b.take i).foldl (metStep passed p) met).map .str)), .im (.int (met.length : Int)), .no, .no, .no, .no, .no])
      (fun e ds1 => (((ds1.set 6 (.im (.str e.nm))).set 7 (.im (.lst (e.mem.map .str)))).set 8 (.im (.lst (e.left.map .str)))).set 9 (.im (gD e.gate))) rfl (di_list (de_var 0 rfl)) (fun e _ ds1 => dg_tup (dgs_cons (dg_name 6 scMet.nd) (dgs_cons (dg_name 7 scMet.nd) (dgs_cons (dg_name 8 scMet.nd) (dgs_cons (dg_name 9 scMet.nd) dgs_nil))))) (fun i e hi => ?_) ?_ PassesOwn.never)
    · have et : b.take (i + 1) = b.take i ++ [e] := by rw [List.take_succ, hi]; rfl
      have he : e ∈ b := List.mem_of_getElem? hi
      have li := (Line.round (passed := passed) (p := p) hb (b.take i) met (fun x hx => List.mem_of_mem_take hx) e4).len
      have es : (b.take (i + 1)).foldl (metStep passed p) met = metStep passed p ((b.take i).foldl (metStep passed p) met) e := by
        rw [et, List.foldl_append]
        rfl
      rw [es]
      generalize (b.take i).foldl (metStep passed p) met = cur at li
      refine dss_one (ds_if (dt_w (dw_and (dt_inS (de_var 6 rfl) (de_var 4 rfl)) fun _ => dw_and (dt_inS (de_var 6 rfl) (de_var 2 rfl)) fun _ => dw_and1 (dt_niS (de_var 3 rfl) (de_var 8 rfl)))) (fun hc => ?_) (fun hc => ?_))
      · have ec : metStep passed p cur e = cur ++ e.mem.filter fun m => !decide (m ∈ cur) := if_pos hc
        rw [ec]
        have hml := (hb.ok e he).memL
        have hfl := List.length_filter_le (fun m => !decide (m ∈ cur)) e.mem
        refine dss_one (ds_set 4 (de_own (dv_cat (de_var 4 rfl) (de_own (dv_lcP (ev := D.str) (xs := e.mem) (own := [("_law_member", 10)]) (js := [10]) (fun n => [.im (bkD b), .im (.lst (ns.map .str)), .im (.lst (passed.map .str)), .im (.str p), .im (.lst (cur.map .str)), .im (.int (met.length : Int)), .im (.str e.nm), .im (.lst (e.mem.map .str)), .im (.lst (e.left.map .str)), .im (gD e.gate), .im (.str n)])
          (fun n => !decide (n ∈ cur)) (fun n => .str n) (di_list (de_var 7 rfl)) (by omega) scMet.nd (blkOk_by (N := nMet) (sc := defScope S_law_met) (by decide +kernel)) (fun s H C cl fp n hc => dg_name 10 scMet.nd) (fun s H C cl fp n hc => dts_one (dt_niS (de_var 10 rfl) (de_var 4 rfl))) (fun s H C cl fp n hc _ => de_var 10 rfl))) (by rw [List.length_map, List.length_map]; omega))) ?_ scMet.nd)
        show _ = _
        rw [List.map_append]
        rfl
      · have ec : metStep passed p cur e = cur := if_neg (by rw [hc]; exact fun z => nomatch z)
        rw [ec]
        exact dss_nil rfl
    · rw [List.take_length]
      exact ⟨m', Nat.lt_succ_self _, _, _, _, _, _, _, _, rfl, by omega, Line.round hb b met (fun _ h => h) e4, e6⟩
  · have ha : ¬ many < (met.length : Int) := of_decide_eq_false hc
    have e6 : met = metM b ns passed p := by
      rw [← e5]
      cases m with
      | zero => rfl
      | succ m => rw [metRun, if_neg ha]
    refine dss_one (ds_ret (de_var 4 rfl) (.inl ?_))
    rw [e6]

def listsM (b : List Ent) : List Str := b.map Ent.nm
def aLawLists (xs : List D) (r : DS) : Prop := ∃ b : List Ent, xs = [bkD b] ∧ b.length ≤ 900 ∧ r = .own ((listsM b).map .str)
theorem scLawLists : FnScope ["_law_book_here", "_law_entry_here"] ["_law_book_here"] (defScope S_law_lists) := ⟨rfl, rfl, rfl, by decide +kernel, rfl, by decide +kernel, by decide +kernel⟩
theorem ok_lawlists {G : Glb} (Z : Facts G) : CallD G 1 "_law_lists" ["_law_book_here"] false aLawLists := by
  refine ⟨?_, Z.g_law_lists, Z.n_law_lists, Z.f_law_lists.kp⟩
  refine okD (N := ["_law_book_here", "_law_entry_here"]) Z.f_law_lists scLawLists (fun xs r ⟨_, e, _⟩ => by rw [e]; rfl) fun cdv Ar outer s H E hr xs r ⟨b, e, hl, er⟩ => ?_
  subst e er
  exact dss_one (ds_ret (dv_lcP (ev := Ent.d) (xs := b) (own := [("_law_entry_here", 1)]) (js := [1]) (fun c => [.im (bkD b), .im c.d]) (fun _ => true) (fun c => .str c.nm) (di_list (de_var 0 rfl)) (by omega) scLawLists.nd (blkOk_by (N := ["_law_book_here", "_law_entry_here"]) (sc := defScope S_law_lists) (by decide +kernel))
    (fun s H C cl fp c hc => dg_name 1 scLawLists.nd) (fun s H C cl fp c hc => dts_nil) (fun s H C cl fp c hc _ => de_ixT (de_var 1 rfl) de_int rfl)) (.inl (by
      rw [List.filter_eq_self.mpr fun _ _ => rfl]
      unfold listsM
      rw [List.map_map]
      rfl)))
theorem scLawRank : FnScope ["_law_name"] ["_law_name"] (defScope S_law_rank) := ⟨rfl, rfl, rfl, by decide +kernel, rfl, by decide +kernel, by decide +kernel⟩
theorem ok_lawrank {G : Glb} (Z : Facts G) : PureKey G (He.ga G.K "_law_rank") rankD := by
  refine ⟨fun A outer s H x t hr hx e0 => ?_⟩
  obtain ⟨oc, od, dV, kV, doc, pm, an, cdv, ct, osl, e1, lk, hcd, _, _⟩ := Z.f_law_rank.ex
  have KX : G.K.In s.heap := e0.mod.kin.keeps fun b o e => (e0.bs b o e).1
  have lim : s.heap.NoLimit := e0.mod.nolimit.keeps fun b o e => (e0.bs b o e).1
  have hb := Z.n_law_rank s [.str x t] KX rfl
  rw [e1] at hb lk
  have S := scLawRank
  have hkind : ∀ y ∈ (["_law_name"] : List Str).zip [Value.str x t], (defScope S_law_rank).names.lookup y.1 = some .local ∨ ((defScope S_law_rank).names.lookup y.1 = some .cell ∧ ((cellsFrom (s.heap.objs.size + 1) (defScope S_law_rank).names []).lookup y.1).isSome = true) := fun ⟨n, v⟩ hy => by
    rcases S.par n (List.of_mem_zip hy).1 with q | q
    · exact .inl q
    · exact .inr ⟨q, PySem.W.cellsFrom_some _ _ _ (.inl q)⟩
  refine wpAny_call (codeAny_call_function hr.depth (KX _ _ lk) rfl S.co S.gen rfl (PySem.W.codeRec_of KX hcd) (hb _ _ _ _ ?_))
  refine wpAny_newFunctionEnv_cells S.kind hkind fun env he s1 xx => ?_
  subst he
  refine ⟨lim.keeps xx.toInCall.keep, codeAny_func ?_⟩
  have I : L2.Inv (cxOf CX0 G.P G.w G.K G.mg G.base ["_law_name"] "_law_rank" (defScope S_law_rank) (He.ga G.K "_law_rank") cdv A outer s H E0) [] (L2.start ["_law_name"] [.str x]) H s1 := inv_start S hr.hd e0 rfl (.cons ⟨t, rfl⟩ .nil) xx
  obtain ⟨h1, tk, rfl, hk⟩ := xx.toInCall.done
  have nm : ∀ (s2 : Shared) (pos : Pos) (Q : Value → Shared → Prop) (E : Value → Shared → Prop) (A2 : Around), L2.Inv (cxOf CX0 G.P G.w G.K G.mg G.base ["_law_name"] "_law_rank" (defScope S_law_rank) (He.ga G.K "_law_rank") cdv A outer s H E0) [] (L2.start ["_law_name"] [.str x]) H s2 → (∀ t, Q (.str x t) s2) →
      wpAny (model G.P G.w) A2 (eval (.Name "_law_name" pos) (envOfC "_law_rank" (defScope S_law_rank) s.heap.objs.size (He.ga G.K "_law_rank") cdv)) Q E s2 := fun s2 pos Q E A2 J q => by
    obtain ⟨m, hn, hl⟩ := J.loc
    obtain ⟨u, r, l⟩ := hl 0 "_law_name" (.str x) rfl rfl (Or.inl rfl)
    obtain ⟨t2, rfl⟩ := (show ∃ t, u = Value.str x t from r)
    rcases l with ⟨hk, hm⟩ | ⟨hk, c, hc, hcell⟩
    · exact wpAny_Name (wpAny_loadName_local J.ok.kind hk hn hm (q t2)) (by decide)
    · rcases hk with z | z
      · exact absurd (show (defScope S_law_rank).names.lookup ("_law_name" : Str) = some NameKind.cell from z) (by decide +kernel)
      · exact absurd (show (defScope S_law_rank).names.lookup ("_law_name" : Str) = some NameKind.free from z) (by decide +kernel)
  refine wpAny_execs_cons (wpAny_Return_some (wpAny_Tuple_spliced ?_))
  refine Calls.spliced_cons ?_
  refine wpAny_Call_Name_kw (ld_blt I rfl Z.b_len rfl ?_)
  refine PyProof.Rows.callWith_kw (Calls.spliced_cons (nm _ _ _ _ _ I fun t2 => Calls.spliced_nil ?_)) rfl rfl rfl rfl
  refine wpAny_evalAll_nil ?_
  refine PySem.P.len_str (by omega) ?_
  refine Calls.spliced_cons (nm _ _ _ _ _ (I.tok _) fun t3 => Calls.spliced_nil ?_)
  refine ⟨(by decide : 2 ≤ sizeLine), ?_⟩
  refine ⟨_, _, rfl, fun b o e => Heap.get?_push_of_some _ (hk b o e), ?_⟩
  refine .tuple (Heap.get?_push_size _ rfl) rfl rfl (xs := [.int (x.length : Int), .str x]) (as := []) ?_
  exact .cons (as := []) (bs := []) (.int _ _) (.cons (as := []) (bs := []) (.str _ _) .nil)
def allStep (found : List Str) (e : Ent) : List Str := found ++ e.mem.filter fun m => !decide (m ∈ found)
def allM (b : List Ent) (ns : List Str) : List Str := (b.foldl allStep ns).filter fun n => !decide (n ∈ listsM b)
theorem Line.all {b : List Ent} {ns : List Str} (hb : Bk b) : ∀ (l : List Ent) (f : List Str), (∀ e ∈ l, e ∈ b) → Line b ns f → Line b ns (l.foldl allStep f)
  | [], _, _, h => h
  | e :: l, f, hl, h => Line.all hb l _ (fun x hx => hl x (List.mem_cons_of_mem _ hx)) (h.grow (hb.ok e (hl e List.mem_cons_self)).memN fun m hm => ⟨e, hl e List.mem_cons_self, hm⟩)
def aAll (xs : List D) (r : DS) : Prop := ∃ (b : List Ent) (ns : List Str), xs = [bkD b, .lst (ns.map .str)] ∧ Bk b ∧ ns.Nodup ∧ (uni b ns).length ≤ 90000 ∧ r = .own ((allM b ns).map .str)
abbrev nAll : List Str := ["_law_book_here", "_law_names_here", "_law_found", "_law_name", "_law_members", "_law_left", "_law_gate", "_law_member"]
abbrev qAll : List Str := ["_law_book_here", "_law_names_here"]
theorem scAll : FnScope nAll qAll (defScope S_law_all) := ⟨rfl, rfl, rfl, by decide +kernel, rfl, by decide +kernel, by decide +kernel⟩
theorem ok_lawall {G : Glb} (Z : Facts G) : CallD G 2 "_law_all" qAll false aAll := by
  refine ⟨?_, Z.g_law_all, Z.n_law_all, Z.f_law_all.kp⟩
  refine okD (N := nAll) Z.f_law_all scAll (fun xs r ⟨_, _, e, _⟩ => by rw [e]; rfl) fun cdv Ar outer s H E hr xs r ⟨b, ns, e, hb, hn, hU, er⟩ => ?_
  subst e er
  have l0 : Line b ns ns := ⟨hn, fun x hx => List.mem_append_left _ hx⟩
  refine dss_cons (ds_set 2 (de_own (dv_list (de_var 1 rfl) rfl Z.b_list)) ?_ scAll.nd)
  refine dss_cons (ds_forE (e := Ent.d) (xs := b) [3, 4, 5, 6, 7] (fun i => [.im (bkD b), .im (.lst (ns.map .str)), .im (.lst (((b.take i).foldl allStep ns).map .str)), .no, .no, .no, .no, .no])
      (fun e ds1 => (((ds1.set 3 (.im (.str e.nm))).set 4 (.im (.lst (e.mem.map .str)))).set 5 (.im (.lst (e.left.map .str)))).set 6 (.im (gD e.gate))) rfl (di_list (de_var 0 rfl)) (fun e _ ds1 => dg_tup (dgs_cons (dg_name 3 scAll.nd) (dgs_cons (dg_name 4 scAll.nd) (dgs_cons (dg_name 5 scAll.nd) (dgs_cons (dg_name 6 scAll.nd) dgs_nil))))) (fun i e hi => ?_) ?_ PassesOwn.never)
  · have et : b.take (i + 1) = b.take i ++ [e] := by rw [List.take_succ, hi]; rfl
    have he : e ∈ b := List.mem_of_getElem? hi
    have li := (Line.all hb (b.take i) ns (fun x hx => List.mem_of_mem_take hx) l0).len
    have es : (b.take (i + 1)).foldl allStep ns = allStep ((b.take i).foldl allStep ns) e := by
      rw [et, List.foldl_append]
      rfl
    rw [es]
    generalize (b.take i).foldl allStep ns = cur at li
    have hml := (hb.ok e he).memL
    have hfl := List.length_filter_le (fun m => !decide (m ∈ cur)) e.mem
    refine dss_one (ds_set 2 (de_own (dv_cat (de_var 2 rfl) (de_own (dv_lcP (ev := D.str) (xs := e.mem) (own := [("_law_member", 7)]) (js := [7]) (fun n => [.im (bkD b), .im (.lst (ns.map .str)), .im (.lst (cur.map .str)), .im (.str e.nm), .im (.lst (e.mem.map .str)), .im (.lst (e.left.map .str)), .im (gD e.gate), .im (.str n)])
      (fun n => !decide (n ∈ cur)) (fun n => .str n) (di_list (de_var 4 rfl)) (by omega) scAll.nd (blkOk_by (N := nAll) (sc := defScope S_law_all) (by decide +kernel)) (fun s H C cl fp n hc => dg_name 7 scAll.nd) (fun s H C cl fp n hc => dts_one (dt_niS (de_var 7 rfl) (de_var 2 rfl))) (fun s H C cl fp n hc _ => de_var 7 rfl))) (by rw [List.length_map, List.length_map]; omega))) ?_ scAll.nd)
    show _ = _
    unfold allStep
    rw [List.map_append]
    rfl
  · rw [List.take_length]
    have li := (Line.all hb b ns (fun _ h => h) l0).len
    have hble := hb.le
    exact dss_one (ds_ret (dv_lcP (ev := D.str) (xs := b.foldl allStep ns) (own := [("_law_name", 3)]) (js := [3]) (fun n => [.im (bkD b), .im (.lst (ns.map .str)), .im (.lst ((b.foldl allStep ns).map .str)), .im (.str n), .no, .no, .no, .no]) (fun n => !decide (n ∈ listsM b)) (fun n => .str n) (di_list (de_var 2 rfl)) (by omega) scAll.nd (blkOk_by (N := nAll) (sc := defScope S_law_all) (by decide +kernel))
      (fun s H C cl fp n hc => dg_name 3 scAll.nd) (fun s H C cl fp n hc => dts_one (dt_niS (de_var 3 rfl) (de_own (dv_c (ok_lawlists Z) hr (da_cons (de_var 0 rfl) da_nil) ⟨b, rfl, hble, rfl⟩)))) (fun s H C cl fp n hc _ => de_var 3 rfl)) (.inl rfl))

def lawReachedM (b : List Ent) (ns passed : List Str) : List Str := sortN ((allM b ns).filter fun p => decide (p ∈ metM b ns passed p))
theorem allM_line {b : List Ent} {ns : List Str} (hb : Bk b) (hn : ns.Nodup) : Line b ns (b.foldl allStep ns) := Line.all hb b ns (fun _ h => h) ⟨hn, fun x hx => List.mem_append_left _ hx⟩
def aLawReached (xs : List D) (r : DS) : Prop := ∃ (b : List Ent) (ns passed : List Str), xs = [bkD b, .lst (ns.map .str), .lst (passed.map .str)] ∧ Bk b ∧ ns.Nodup ∧ (uni b ns).length ≤ 90000 ∧ (∀ x ∈ uni b ns, x.length ≤ 100000) ∧ r = .own ((lawReachedM b ns passed).map .str)
abbrev nLawReached : List Str := ["_law_book_here", "_law_names_here", "_law_passed_here", "_law_found", "_law_person"]
abbrev qLawReached : List Str := ["_law_book_here", "_law_names_here", "_law_passed_here"]
theorem scLawReached : FnScope nLawReached qLawReached (defScope S_law_reached) := ⟨rfl, rfl, rfl, by decide +kernel, rfl, by decide +kernel, by decide +kernel⟩
theorem ok_lawreached {G : Glb} (Z : Facts G) : CallD G 4 "_law_reached" qLawReached false aLawReached := by
  refine ⟨?_, Z.g_law_reached, Z.n_law_reached, Z.f_law_reached.kp⟩
  refine okD (N := nLawReached) Z.f_law_reached scLawReached (fun xs r ⟨_, _, _, e, _⟩ => by rw [e]; rfl) fun cdv Ar outer s H E hr xs r ⟨b, ns, passed, e, hb, hn, hU, hlen, er⟩ => ?_
  subst e er
  have la := allM_line hb hn
  have hal : (allM b ns).length ≤ 90000 := Nat.le_trans (List.length_filter_le _ _) (Nat.le_trans la.len hU)
  refine dss_cons (ds_set 3 (dv_lst da_nil (by decide)) ?_ scLawReached.nd)
  refine dss_cons (ds_forE (e := D.str) (xs := allM b ns) [4] (fun i => [.im (bkD b), .im (.lst (ns.map .str)), .im (.lst (passed.map .str)), .own ((((allM b ns).take i).filter fun p => decide (p ∈ metM b ns passed p)).map .str), .no]) (fun n ds1 => ds1.set 4 (.im (.str n))) rfl
    (di_list (de_own (dv_c (ok_lawall Z) hr (da_cons (de_var 0 rfl) (da_cons (de_var 1 rfl) da_nil)) ⟨b, ns, rfl, hb, hn, hU, rfl⟩))) (fun n _ ds1 => dg_name 4 scLawReached.nd) (fun i p hi => ?_) ?_ PassesOwn.never)
  · have et : (allM b ns).take (i + 1) = (allM b ns).take i ++ [p] := by rw [List.take_succ, hi]; rfl
    refine dss_one (ds_if (dt_inS (de_var 4 rfl) (dv_c (ok_met Z) hr (da_cons (de_var 0 rfl) (da_cons (de_var 1 rfl) (da_cons (de_var 2 rfl) (da_cons (de_var 4 rfl) da_nil)))) ⟨b, ns, passed, p, rfl, hb, hn, hU, rfl⟩)) (fun hc => ?_) (fun hc => ?_))
    · refine dss_one (ds_append 3 rfl (de_var 4 rfl) ?_ ?_)
      · rw [List.length_map]
        have := List.length_filter_le (fun p => decide (p ∈ metM b ns passed p)) ((allM b ns).take i)
        rw [List.length_take] at this
        omega
      · show _ = _
        rw [et, List.filter_append, List.filter_cons, if_pos hc, List.map_append]
        rfl
    · refine dss_nil ?_
      show _ = _
      rw [et, List.filter_append, List.filter_cons, if_neg (by rw [hc]; exact fun z => nomatch z), List.filter_nil, List.append_nil]
      rfl
  · rw [List.take_length]
    refine dss_freeze 3 rfl rfl (dss_one (ds_ret (dv_sortN (de_var 3 rfl) (fun n hn => ?_) (ok_lawrank Z) Z.g_law_rank hr Z.b_sorted) (.inl rfl)))
    have h1 := (List.mem_filter.mp hn).1
    exact hlen n (la.sub n (List.mem_filter.mp h1).1)

/-! ### sorted is one -/
theorem rankLe (x y : Str) : PySem.W.dataLe false rankD x y = decide (x.length < y.length ∨ (x.length = y.length ∧ x.cps.toList ≤ y.cps.toList)) := by
  rw [PySem.W.dataLe_eq]
  show (!PySem.W.dataLt (rankD y) (rankD x)) = _
  unfold rankD
  rw [PySem.W.dataLt_pair (by simp [PySem.W.alike]) (by simp [PySem.W.alike]), PySem.W.dataLt_int, PySem.W.dataLt_str]
  simp only [PyData.eqv, beq_iff_eq]
  by_cases h1 : (y.length : Int) = (x.length : Int)
  · rw [if_pos h1]
    have e : y.length = x.length := by omega
    by_cases h2 : y = x
    · rw [if_pos h2]
      subst h2
      simp
    · rw [if_neg h2, Bool.eq_iff_iff]
      simp only [Bool.not_eq_true', decide_eq_false_iff_not, decide_eq_true_eq, List.not_lt]
      exact ⟨fun z => .inr ⟨e.symm, z⟩, fun z => z.elim (fun z => by omega) fun z => z.2⟩
  · rw [if_neg h1, Bool.eq_iff_iff]
    simp only [Bool.not_eq_true', decide_eq_false_iff_not, decide_eq_true_eq]
    exact ⟨fun z => .inl (by omega), fun z => by rcases z with z | z <;> omega⟩
theorem sortN_perm (l : List Str) : (sortN l).Perm l := List.mergeSort_perm _ _
theorem sortN_eq {l m : List Str} (h : l.Perm m) : sortN l = sortN m := by
  have tr : ∀ a b c : Str, PySem.W.dataLe false rankD a b = true → PySem.W.dataLe false rankD b c = true → PySem.W.dataLe false rankD a c = true := fun a b c h1 h2 => by
    rw [rankLe, decide_eq_true_eq] at h1 h2 ⊢
    rcases h1 with h1 | ⟨h1, h1'⟩
    · rcases h2 with h2 | ⟨h2, _⟩
      · exact .inl (by omega)
      · exact .inl (by omega)
    · rcases h2 with h2 | ⟨h2, h2'⟩
      · exact .inl (by omega)
      · exact .inr ⟨by omega, List.le_trans h1' h2'⟩
  have tot : ∀ a b : Str, (PySem.W.dataLe false rankD a b || PySem.W.dataLe false rankD b a) = true := fun a b => by
    rw [rankLe, rankLe, Bool.or_eq_true, decide_eq_true_eq, decide_eq_true_eq]
    rcases Nat.lt_trichotomy a.length b.length with z | z | z
    · exact .inl (.inl z)
    · rcases List.le_total a.cps.toList b.cps.toList with y | y
      · exact .inl (.inr ⟨z, y⟩)
      · exact .inr (.inr ⟨z.symm, y⟩)
    · exact .inr (.inl z)
  refine List.Perm.eq_of_pairwise (le := fun a b => PySem.W.dataLe false rankD a b = true) (fun a b _ _ h1 h2 => ?_) (List.pairwise_mergeSort tr tot l) (List.pairwise_mergeSort tr tot m) ((sortN_perm l).trans (h.trans (sortN_perm m).symm))
  rw [rankLe, decide_eq_true_eq] at h1 h2
  refine str_ext ?_
  rcases h1 with h1 | ⟨_, h1⟩
  · rcases h2 with h2 | ⟨h2, _⟩ <;> omega
  · rcases h2 with h2 | ⟨_, h2⟩
    · omega
    · exact List.le_antisymm h1 h2

/-! ### come: the least set that is closed -/
theorem comeRun_least {b : List Ent} {g : Str → Bool} {T : Str → Prop} (hT : ∀ n, T n → isL b n = true → g n = true → ∀ m ∈ memsOf b n, T m) : ∀ (f a : Nat) (line : List Str), (∀ x ∈ line, T x) → ∀ x ∈ comeRun b g f line a, T x
  | 0, _, _, h => h
  | f + 1, a, line, h => by
    rw [comeRun]
    cases e : line[a]? with
    | none => exact h
    | some n =>
      refine comeRun_least hT f (a + 1) _ fun x hx => ?_
      unfold comeStep at hx
      split at hx
      · rename_i c
        obtain ⟨c1, c2⟩ := Bool.and_eq_true_iff.mp c
        rcases List.mem_append.mp hx with z | z
        · exact h x z
        · exact hT n (h n (List.mem_of_getElem? e)) c1 c2 x (List.mem_filter.mp z).1
      · exact h x hx
theorem come_least {b : List Ent} {g : Str → Bool} {ns : List Str} {T : Str → Prop} (h0 : ∀ x ∈ ns, T x) (hT : ∀ n, T n → isL b n = true → g n = true → ∀ m ∈ memsOf b n, T m) : ∀ x ∈ come b g ns, T x := comeRun_least hT _ _ _ h0
theorem comeStep_pre (b : List Ent) (g : Str → Bool) (line : List Str) (n : Str) : ∃ more, comeStep b g line n = line ++ more := by
  unfold comeStep
  split
  · exact ⟨_, rfl⟩
  · exact ⟨[], (List.append_nil _).symm⟩
theorem comeRun_pre (b : List Ent) (g : Str → Bool) : ∀ (f a : Nat) (line : List Str), ∃ more, comeRun b g f line a = line ++ more
  | 0, _, line => ⟨[], (List.append_nil _).symm⟩
  | f + 1, a, line => by
    rw [comeRun]
    cases line[a]? with
    | none => exact ⟨[], (List.append_nil _).symm⟩
    | some n =>
      obtain ⟨m1, e1⟩ := comeStep_pre b g line n
      obtain ⟨m2, e2⟩ := comeRun_pre b g f (a + 1) (comeStep b g line n)
      exact ⟨m1 ++ m2, by
        show comeRun b g f (comeStep b g line n) (a + 1) = _
        rw [e2, e1, List.append_assoc]⟩
/-- what stands ahead of the place a is closed in the line -/
def Done (b : List Ent) (g : Str → Bool) (line : List Str) (a : Nat) : Prop := ∀ (i : Nat) (n : Str), i < a → line[i]? = some n → isL b n = true → g n = true → ∀ m ∈ memsOf b n, m ∈ line
theorem comeRun_done {b : List Ent} {g : Str → Bool} {ns : List Str} (hb : Bk b) : ∀ (f a : Nat) (line : List Str), Line b ns line → a ≤ line.length → (uni b ns).length + 1 ≤ f + a → Done b g line a → Done b g (comeRun b g f line a) (comeRun b g f line a).length
  | 0, a, line, hl, ha, hf, _ => by
    have := hl.len
    omega
  | f + 1, a, line, hl, ha, hf, hd => by
    rw [comeRun]
    cases e : line[a]? with
    | none =>
      have hle := List.getElem?_eq_none_iff.mp e
      exact fun i n (hi : i < line.length) => hd i n (by omega)
    | some n =>
      have hlt : a < line.length := (List.getElem?_eq_some_iff.mp e).1
      have hsl := comeStep_len b g line n
      refine comeRun_done hb f (a + 1) _ (hl.step hb n) (by omega) (by omega) fun i x hi hx h1 h2 m hm => ?_
      obtain ⟨more, em⟩ := comeStep_pre b g line n
      have hx2 : line[i]? = some x := by
        rw [em, List.getElem?_append_left (by omega)] at hx
        exact hx
      by_cases q : i = a
      · subst q
        rw [e] at hx2
        cases hx2
        unfold comeStep
        rw [if_pos (by rw [h1, h2]; rfl)]
        by_cases z : m ∈ line
        · exact List.mem_append_left _ z
        · exact List.mem_append_right _ (List.mem_filter.mpr ⟨hm, by rw [decide_eq_false z]; rfl⟩)
      · rw [em]
        exact List.mem_append_left _ (hd i x (by omega) hx2 h1 h2 m hm)
theorem come_closed {b : List Ent} {g : Str → Bool} {ns : List Str} (hb : Bk b) (hn : ns.Nodup) {n m : Str} (h : n ∈ come b g ns) (h1 : isL b n = true) (h2 : g n = true) (hm : m ∈ memsOf b n) : m ∈ come b g ns := by
  obtain ⟨i, hi⟩ := List.mem_iff_getElem?.mp h
  exact comeRun_done hb _ _ _ ⟨hn, fun x hx => List.mem_append_left _ hx⟩ (Nat.zero_le _) (by omega) (fun i n hi => absurd hi (by omega)) i n (List.getElem?_eq_some_iff.mp hi).1 hi h1 h2 m hm
theorem come_names {b : List Ent} {g : Str → Bool} {ns : List Str} {n : Str} (h : n ∈ ns) : n ∈ come b g ns := by
  obtain ⟨more, e⟩ := comeRun_pre b g ((uni b ns).length + 1) 0 ns
  unfold come
  rw [e]
  exact List.mem_append_left _ h

/-! ### the law's rounds: least -/
theorem metRound_least {b : List Ent} {passed : List Str} {p : Str} {T : Str → Prop} (hT : ∀ e ∈ b, T e.nm → e.nm ∈ passed → p ∉ e.left → ∀ m ∈ e.mem, T m) : ∀ (l : List Ent) (met : List Str), (∀ e ∈ l, e ∈ b) → (∀ x ∈ met, T x) → ∀ x ∈ l.foldl (metStep passed p) met, T x
  | [], _, _, h => h
  | e :: l, met, hl, h => metRound_least hT l _ (fun x hx => hl x (List.mem_cons_of_mem _ hx)) fun x hx => by
    unfold metStep at hx
    split at hx
    · rename_i c
      obtain ⟨c1, c2⟩ := Bool.and_eq_true_iff.mp c
      obtain ⟨c2, c3⟩ := Bool.and_eq_true_iff.mp c2
      rcases List.mem_append.mp hx with z | z
      · exact h x z
      · refine hT e (hl e List.mem_cons_self) (h _ (of_decide_eq_true c1)) (of_decide_eq_true c2) (fun q => ?_) x (List.mem_filter.mp z).1
        rw [decide_eq_true q] at c3
        cases c3
    · exact h x hx
theorem metRun_least {b : List Ent} {passed : List Str} {p : Str} {T : Str → Prop} (hT : ∀ e ∈ b, T e.nm → e.nm ∈ passed → p ∉ e.left → ∀ m ∈ e.mem, T m) : ∀ (f : Nat) (met : List Str) (many : Int), (∀ x ∈ met, T x) → ∀ x ∈ metRun b passed p f met many, T x
  | 0, _, _, h => h
  | f + 1, met, many, h => by
    rw [metRun]
    split
    · exact metRun_least hT f _ _ (metRound_least hT b met (fun _ z => z) h)
    · exact h
theorem metM_least {b : List Ent} {ns passed : List Str} {p : Str} {T : Str → Prop} (h0 : ∀ x ∈ ns, T x) (hT : ∀ e ∈ b, T e.nm → e.nm ∈ passed → p ∉ e.left → ∀ m ∈ e.mem, T m) : ∀ x ∈ metM b ns passed p, T x := metRun_least hT _ _ _ h0

/-! ### the law's rounds: closed -/
theorem metStep_pre (passed : List Str) (p : Str) (met : List Str) (e : Ent) : ∃ more, metStep passed p met e = met ++ more := by
  unfold metStep
  split
  · exact ⟨_, rfl⟩
  · exact ⟨[], (List.append_nil _).symm⟩
theorem metRound_pre (passed : List Str) (p : Str) : ∀ (l : List Ent) (met : List Str), ∃ more, l.foldl (metStep passed p) met = met ++ more
  | [], met => ⟨[], (List.append_nil _).symm⟩
  | e :: l, met => by
    obtain ⟨m1, e1⟩ := metStep_pre passed p met e
    obtain ⟨m2, e2⟩ := metRound_pre passed p l (metStep passed p met e)
    exact ⟨m1 ++ m2, by rw [List.foldl_cons, e2, e1, List.append_assoc]⟩
theorem met_still {passed : List Str} {p : Str} : ∀ (l : List Ent) (met : List Str), (l.foldl (metStep passed p) met).length = met.length → ∀ e ∈ l, e.nm ∈ met → e.nm ∈ passed → p ∉ e.left → ∀ m ∈ e.mem, m ∈ met
  | [], _, _, _, he, _, _, _ => by cases he
  | x :: l, met, h, e, he, h1, h2, h3 => by
    obtain ⟨m1, e1⟩ := metStep_pre passed p met x
    obtain ⟨m2, e2⟩ := metRound_pre passed p l (metStep passed p met x)
    have hl : m1 = [] ∧ m2 = [] := by
      rw [List.foldl_cons, e2, e1, List.length_append, List.length_append] at h
      exact ⟨List.eq_nil_of_length_eq_zero (by omega), List.eq_nil_of_length_eq_zero (by omega)⟩
    have e3 : metStep passed p met x = met := by rw [e1, hl.1, List.append_nil]
    rcases List.mem_cons.mp he with rfl | he
    · intro m hm
      refine Decidable.byContradiction fun z => ?_
      have c : (decide (e.nm ∈ met) && (decide (e.nm ∈ passed) && !decide (p ∈ e.left))) = true := by rw [decide_eq_true h1, decide_eq_true h2, decide_eq_false h3]; rfl
      have : m ∈ metStep passed p met e := by
        unfold metStep
        rw [if_pos c]
        exact List.mem_append_right _ (List.mem_filter.mpr ⟨hm, by rw [decide_eq_false z]; rfl⟩)
      rw [e3] at this
      exact z this
    · exact met_still l met (by rw [List.foldl_cons, e3] at h; exact h) e he h1 h2 h3
theorem metRun_closed {b : List Ent} {ns passed : List Str} {p : Str} (hb : Bk b) : ∀ (f : Nat) (met : List Str) (many : Int), Line b ns met → ((uni b ns).length : Int) + 1 ≤ (f : Int) + many → (many < (met.length : Int) ∨ ∀ e ∈ b, e.nm ∈ met → e.nm ∈ passed → p ∉ e.left → ∀ m ∈ e.mem, m ∈ met) →
    ∀ e ∈ b, e.nm ∈ metRun b passed p f met many → e.nm ∈ passed → p ∉ e.left → ∀ m ∈ e.mem, m ∈ metRun b passed p f met many
  | 0, met, many, hl, hf, h => by
    have := hl.len
    rcases h with h | h
    · omega
    · exact h
  | f + 1, met, many, hl, hf, h => by
    rw [metRun]
    split
    · rename_i c
      have lr := Line.round (passed := passed) (p := p) hb b met (fun _ z => z) hl
      refine metRun_closed hb f _ _ lr (by omega) ?_
      obtain ⟨more, em⟩ := metRound_pre passed p b met
      by_cases z : more = []
      · rw [z, List.append_nil] at em
        refine .inr ?_
        show ∀ e ∈ b, e.nm ∈ b.foldl (metStep passed p) met → _
        rw [em]
        intro e he h1 h2 h3 m hm
        have y := met_still b met (by rw [em]) e he h1 h2 h3 m hm
        show m ∈ b.foldl (metStep passed p) met
        rw [em]
        exact y
      · refine .inl ?_
        show ((met.length : Int)) < ((b.foldl (metStep passed p) met).length : Int)
        rw [em, List.length_append]
        have := List.length_pos_iff.mpr z
        omega
    · rename_i c
      rcases h with h | h
      · exact absurd h c
      · exact h
theorem metM_closed {b : List Ent} {ns passed : List Str} {p : Str} (hb : Bk b) (hn : ns.Nodup) : ∀ e ∈ b, e.nm ∈ metM b ns passed p → e.nm ∈ passed → p ∉ e.left → ∀ m ∈ e.mem, m ∈ metM b ns passed p :=
  metRun_closed hb _ _ _ ⟨hn, fun x hx => List.mem_append_left _ hx⟩ (by omega) (.inl (by omega))

/-! ### the program's reached, the law's: one -/
theorem nm_inj : ∀ {b : List Ent}, (b.map Ent.nm).Nodup → ∀ {e f : Ent}, e ∈ b → f ∈ b → e.nm = f.nm → e = f
  | [], _, _, _, he, _, _ => by cases he
  | x :: b, hn, e, f, he, hf, h => by
    rw [List.map_cons, List.nodup_cons] at hn
    rcases List.mem_cons.mp he with h1 | h1
    · rcases List.mem_cons.mp hf with h2 | h2
      · rw [h1, h2]
      · exact absurd (by rw [← h1, h]; exact List.mem_map_of_mem h2) hn.1
    · rcases List.mem_cons.mp hf with h2 | h2
      · exact absurd (by rw [← h2, ← h]; exact List.mem_map_of_mem h1) hn.1
      · exact nm_inj hn.2 h1 h2 h
theorem isL_iff {b : List Ent} {n : Str} : isL b n = true ↔ n ∈ listsM b := by
  unfold isL listsM
  rw [List.any_eq_true, List.mem_map]
  exact ⟨fun ⟨e, h1, h2⟩ => ⟨e, h1, of_decide_eq_true h2⟩, fun ⟨e, h1, h2⟩ => ⟨e, h1, decide_eq_true h2⟩⟩
theorem find_self {b : List Ent} (hb : Bk b) {e : Ent} (he : e ∈ b) : b.find? (fun x => decide (x.nm = e.nm)) = some e := by
  obtain ⟨f, h1, h2, h3⟩ := isL_find (b := b) (n := e.nm) (isL_iff.mpr (List.mem_map_of_mem he))
  rw [h1, nm_inj hb.nd h2 he h3]
theorem mems_self {b : List Ent} (hb : Bk b) {e : Ent} (he : e ∈ b) : memsOf b e.nm = e.mem := by
  unfold memsOf
  rw [find_self hb he]
theorem left_self {b : List Ent} (hb : Bk b) {e : Ent} (he : e ∈ b) : leftOf b e.nm = e.left := by
  unfold leftOf
  rw [find_self hb he]
theorem metRun_pre (b : List Ent) (passed : List Str) (p : Str) : ∀ (f : Nat) (met : List Str) (many : Int), ∃ more, metRun b passed p f met many = met ++ more
  | 0, met, _ => ⟨[], (List.append_nil _).symm⟩
  | f + 1, met, many => by
    rw [metRun]
    split
    · obtain ⟨m1, e1⟩ := metRound_pre passed p b met
      obtain ⟨m2, e2⟩ := metRun_pre b passed p f (metRound b passed p met) (met.length : Int)
      refine ⟨m1 ++ m2, ?_⟩
      rw [e2]
      show b.foldl (metStep passed p) met ++ m2 = _
      rw [e1, List.append_assoc]
    · exact ⟨[], (List.append_nil _).symm⟩
theorem met_names {b : List Ent} {ns passed : List Str} {p n : Str} (h : n ∈ ns) : n ∈ metM b ns passed p := by
  obtain ⟨more, e⟩ := metRun_pre b passed p ((uni b ns).length + 2) ns (-1)
  unfold metM
  rw [e]
  exact List.mem_append_left _ h
theorem metRun_line {b : List Ent} {ns passed : List Str} {p : Str} (hb : Bk b) : ∀ (f : Nat) (met : List Str) (many : Int), Line b ns met → Line b ns (metRun b passed p f met many)
  | 0, _, _, h => h
  | f + 1, met, many, h => by
    rw [metRun]
    split
    · exact metRun_line hb f _ _ (Line.round hb b met (fun _ z => z) h)
    · exact h
theorem metM_line {b : List Ent} {ns passed : List Str} {p : Str} (hb : Bk b) (hn : ns.Nodup) : Line b ns (metM b ns passed p) := metRun_line hb _ _ _ ⟨hn, fun x hx => List.mem_append_left _ hx⟩
theorem met_come {b : List Ent} {g : Str → Bool} {ns P : List Str} {p x : Str} (hb : Bk b) (hn : ns.Nodup) (hg : ∀ n, isL b n = true → (g n = true ↔ (n ∈ P ∧ p ∉ leftOf b n))) : x ∈ come b g ns ↔ x ∈ metM b ns P p := by
  constructor
  · refine come_least (T := fun x => x ∈ metM b ns P p) (fun x hx => met_names hx) (fun n hm hl hgn m hmm => ?_) x
    obtain ⟨e, f1, f2, f3⟩ := isL_find hl
    subst f3
    rw [mems_self hb f2] at hmm
    have z := (hg _ hl).mp hgn
    rw [left_self hb f2] at z
    exact metM_closed hb hn e f2 hm z.1 z.2 m hmm
  · refine metM_least (T := fun x => x ∈ come b g ns) (fun x hx => come_names hx) (fun e he hc hp hl m hm => ?_) x
    have hL : isL b e.nm = true := isL_iff.mpr (List.mem_map_of_mem he)
    exact come_closed hb hn hc hL ((hg _ hL).mpr ⟨hp, by rw [left_self hb he]; exact hl⟩) (by rw [mems_self hb he]; exact hm)
theorem mem_allFold {x : Str} : ∀ (l : List Ent) (f : List Str), (x ∈ f ∨ ∃ e ∈ l, x ∈ e.mem) → x ∈ l.foldl allStep f
  | [], f, h => h.elim id fun ⟨_, h, _⟩ => by cases h
  | e :: l, f, h => by
    rw [List.foldl_cons]
    refine mem_allFold l _ ?_
    unfold allStep
    rcases h with h | ⟨e2, h1, h2⟩
    · exact .inl (List.mem_append_left _ h)
    · rcases List.mem_cons.mp h1 with rfl | h1
      · refine .inl ?_
        by_cases z : x ∈ f
        · exact List.mem_append_left _ z
        · exact List.mem_append_right _ (List.mem_filter.mpr ⟨h2, by rw [decide_eq_false z]; rfl⟩)
      · exact .inr ⟨e2, h1, h2⟩
theorem reached_eq {b : List Ent} {g : Str → Bool} {ns P : List Str} (hb : Bk b) (hn : ns.Nodup) (hP : ∀ n, isL b n = true → (g n = true ↔ n ∈ P)) : reachedM b g ns = lawReachedM b ns P := by
  have hG : ∀ p n, isL b n = true → (goesM b g p n = true ↔ (n ∈ P ∧ p ∉ leftOf b n)) := fun p n hl => by
    unfold goesM
    rw [Bool.and_eq_true, hP n hl, Bool.not_eq_true', decide_eq_false_iff_not]
  unfold reachedM lawReachedM
  refine sortN_eq ((List.perm_ext_iff_of_nodup ?_ ?_).mpr fun p => ?_)
  · exact ((come_line g hb hn).nd.filter _).filter _
  · unfold allM
    exact ((allM_line hb hn).nd.filter _).filter _
  · rw [List.mem_filter, List.mem_filter]
    unfold allM
    rw [List.mem_filter, List.mem_filter, decide_eq_true_eq, decide_eq_true_eq, met_come (P := P) (p := p) hb hn (hG p)]
    constructor
    · rintro ⟨⟨h1, h2⟩, h3⟩
      refine ⟨⟨mem_allFold b ns ?_, ?_⟩, h3⟩
      · rcases List.mem_append.mp ((come_line g hb hn).sub p h1) with z | z
        · exact .inl z
        · obtain ⟨e, he, hm⟩ := List.mem_flatMap.mp z
          exact .inr ⟨e, he, hm⟩
      · rw [Bool.not_eq_true', decide_eq_false_iff_not]
        intro z
        rw [isL_iff.mpr z] at h2
        cases h2
    · rintro ⟨⟨h1, h2⟩, h3⟩
      refine ⟨⟨?_, ?_⟩, h3⟩
      · have z := (met_come (P := P) (p := p) hb hn (hG p)).mpr h3
        refine come_least (T := fun x => x ∈ come b g ns) (fun x hx => come_names hx) (fun n hm hl hgn m hmm => ?_) p z
        unfold goesM at hgn
        exact come_closed hb hn hm hl (Bool.and_eq_true_iff.mp hgn).1 hmm
      · rw [Bool.not_eq_true', decide_eq_false_iff_not] at h2
        cases q : isL b p with
        | false => rfl
        | true => exact absurd (isL_iff.mp q) h2

/-! ### the law's own gates -/
def lawOpen (b : List Ent) (s : Str) (e : Ent) : Bool := match e.gate with
  | none => true
  | some g => (decide (g = s) && !decide (g ∈ listsM b)) || (decide (g ∈ listsM b) && decide (s ∈ lawReachedM b [g] (listsM b)))
def lawPassM (b : List Ent) (s : Str) : List Str := (b.filter (lawOpen b s)).map Ent.nm
theorem reach_one {b : List Ent} (hb : Bk b) (n : Str) : reachedM b (fun _ => true) [n] = lawReachedM b [n] (listsM b) := reached_eq hb (by simp) fun m hm => ⟨fun _ => isL_iff.mp hm, fun _ => rfl⟩
theorem open_eq {b : List Ent} (hb : Bk b) (s : Str) (e : Ent) : openM b s e = lawOpen b s e := by
  unfold openM lawOpen
  cases e.gate with
  | none => rfl
  | some g =>
    show (if isL b g = true then _ else _) = ((decide (g = s) && !decide (g ∈ listsM b)) || (decide (g ∈ listsM b) && decide (s ∈ lawReachedM b [g] (listsM b))))
    rw [reach_one hb]
    by_cases h : isL b g = true
    · rw [if_pos h, decide_eq_true (isL_iff.mp h)]
      simp
    · rw [if_neg h, decide_eq_false fun z => h (isL_iff.mpr z)]
      simp
theorem gM_pass {b : List Ent} (hb : Bk b) (s : Str) : ∀ n, isL b n = true → (gM b s n = true ↔ n ∈ lawPassM b s) := fun n hn => by
  obtain ⟨e, h1, h2, h3⟩ := isL_find hn
  have e1 : gM b s n = lawOpen b s e := by
    unfold gM
    rw [h1]
    exact open_eq hb s e
  rw [e1]
  unfold lawPassM
  rw [List.mem_map]
  constructor
  · exact fun h => ⟨e, List.mem_filter.mpr ⟨h2, h⟩, h3⟩
  · rintro ⟨f, hf, h4⟩
    obtain ⟨f1, f2⟩ := List.mem_filter.mp hf
    rw [nm_inj hb.nd h2 f1 (h3.trans h4.symm)]
    exact f2
def aLawPassed (xs : List D) (r : DS) : Prop := ∃ (b : List Ent) (s : Str), xs = [bkD b, .str s] ∧ Bk b ∧ (b.flatMap Ent.mem).length ≤ 80000 ∧ r = .own ((lawPassM b s).map .str)
abbrev nLawPassed : List Str := ["_law_book_here", "_law_sender", "_law_lists_here", "_law_found", "_law_name", "_law_members", "_law_left", "_law_gate"]
theorem scLawPassed : FnScope nLawPassed ["_law_book_here", "_law_sender"] (defScope S_law_passed) := ⟨rfl, rfl, rfl, by decide +kernel, rfl, by decide +kernel, by decide +kernel⟩
theorem ok_lawpassed {G : Glb} (Z : Facts G) : CallD G 5 "_law_passed" ["_law_book_here", "_law_sender"] false aLawPassed := by
  refine ⟨?_, Z.g_law_passed, Z.n_law_passed, Z.f_law_passed.kp⟩
  refine okD (N := nLawPassed) Z.f_law_passed scLawPassed (fun xs r ⟨_, _, e, _⟩ => by rw [e]; rfl) fun cdv Ar outer s H E hr xs r ⟨b, se, e, hb, hU, er⟩ => ?_
  subst e er
  have hble := hb.le
  refine dss_cons (ds_p2 2 3 (s1 := .im (.lst ((listsM b).map .str))) (de_own (dv_c (ok_lawlists Z) hr (da_cons (de_var 0 rfl) da_nil) ⟨b, rfl, hble, rfl⟩)) (dv_lst da_nil (by decide)) ?_ scLawPassed.nd)
  refine dss_cons (ds_forE (e := Ent.d) (xs := b) [4, 5, 6, 7] (fun i => [.im (bkD b), .im (.str se), .im (.lst ((listsM b).map .str)), .own ((((b.take i).filter (lawOpen b se)).map Ent.nm).map .str), .no, .no, .no, .no])
      (fun e ds1 => (((ds1.set 4 (.im (.str e.nm))).set 5 (.im (.lst (e.mem.map .str)))).set 6 (.im (.lst (e.left.map .str)))).set 7 (.im (gD e.gate))) rfl (di_list (de_var 0 rfl)) (fun e _ ds1 => dg_tup (dgs_cons (dg_name 4 scLawPassed.nd) (dgs_cons (dg_name 5 scLawPassed.nd) (dgs_cons (dg_name 6 scLawPassed.nd) (dgs_cons (dg_name 7 scLawPassed.nd) dgs_nil))))) (fun i a ha => ?_) ?_ PassesOwn.never)
  · have hm : a ∈ b := List.mem_of_getElem? ha
    have ho := hb.ok a hm
    have hl : ((((b.take i).filter (lawOpen b se)).map Ent.nm).map D.str).length < 100000 := by
      rw [List.length_map, List.length_map]
      have := List.length_filter_le (lawOpen b se) (b.take i)
      rw [List.length_take] at this
      omega
    have fin : ∀ c, lawOpen b se a = c → ((((b.take (i + 1)).filter (lawOpen b se)).map Ent.nm).map D.str) = if c = true then (((b.take i).filter (lawOpen b se)).map Ent.nm).map D.str ++ [D.str a.nm] else (((b.take i).filter (lawOpen b se)).map Ent.nm).map D.str := fun c hc => by
      rw [take_snoc ha, List.filter_append, List.filter_cons, hc]
      cases c with
      | true => rw [if_pos rfl, if_pos rfl, List.map_append, List.map_append]; rfl
      | false => rw [if_neg Bool.false_ne_true, if_neg Bool.false_ne_true, List.filter_nil, List.append_nil]
    cases hg : a.gate with
    | none =>
      have ho1 : lawOpen b se a = true := by unfold lawOpen; rw [hg]
      refine dss_one (ds_if (x := true) (dt_is (dt_w (dw_or (x := true) (y := false) (dt_is (dt_isN (d := gD a.gate) (dv_is (de_var 7 rfl) (by rw [hg])) (isN_g a.gate)) (by rw [hg]; rfl)) fun h => by cases h)) rfl) (fun _ => ?_) (fun h => by cases h))
      refine dss_one (ds_append 3 rfl (de_var 4 rfl) hl ?_)
      show _ = _
      rw [fin true ho1, if_pos rfl]
      rfl
    | some g =>
      have hgn := ho.gate g hg
      have eo : lawOpen b se a = ((decide (g = se) && !decide (g ∈ listsM b)) || (decide (g ∈ listsM b) && decide (se ∈ lawReachedM b [g] (listsM b)))) := by unfold lawOpen; rw [hg]
      refine dss_one (ds_if (x := decide (g = se) && !decide (g ∈ listsM b)) (dt_is (dt_w (dw_or (x := false) (y := decide (g = se) && !decide (g ∈ listsM b)) (dt_is (dt_isN (d := gD a.gate) (dv_is (de_var 7 rfl) (by rw [hg])) (isN_g a.gate)) (by rw [hg]; rfl)) fun _ => dw_or1 (dt_w (dw_and (dt_eqS (de_var 7 rfl) (de_var 1 rfl)) fun _ => dw_and1 (dt_niS (de_var 7 rfl) (de_var 2 rfl)))))) (Bool.false_or _)) (fun hc => ?_) (fun hc => ?_))
      · rw [hc, Bool.true_or] at eo
        refine dss_one (ds_append 3 rfl (de_var 4 rfl) hl ?_)
        show _ = _
        rw [fin true eo, if_pos rfl]
        rfl
      · rw [hc, Bool.false_or] at eo
        refine dss_one (ds_if (dt_w (dw_and (dt_inS (de_var 7 rfl) (de_var 2 rfl)) fun _ => dw_and1 (dt_inS (de_var 1 rfl) (de_own (dv_c (ok_lawreached Z) hr (da_cons (de_var 0 rfl) (da_cons (de_own (dv_lst (da_cons (de_var 7 rfl) da_nil) (by show 1 ≤ 100000; decide))) (da_cons (de_var 2 rfl) da_nil))) ⟨b, [g], listsM b, rfl, hb, by simp, uni_le hU (by show 1 ≤ _; omega), uni_short hb (fun x hx => by rw [List.mem_singleton.mp hx]; exact hgn), rfl⟩))))) (fun hd => ?_) (fun hd => ?_))
        · rw [hd] at eo
          refine dss_one (ds_append 3 rfl (de_var 4 rfl) hl ?_)
          show _ = _
          rw [fin true eo, if_pos rfl]
          rfl
        · rw [hd] at eo
          refine dss_nil ?_
          show _ = _
          rw [fin false eo, if_neg Bool.false_ne_true]
          rfl
  · rw [List.take_length]
    exact dss_one (ds_retOwn 3 rfl (.inl rfl))

/-! ### letters at the post -/
structure Lt where
  snd : Str
  nms : List Str
  had : List Str
  sty : List Str
  psd : List Str
  drp : List Str
def setT (l : List Str) : OT := dicI (trueD l)
def lstS (l : List Str) : OT := .lst ((l.map D.str).map .im)
def ltF (L : Lt) : List (Str × OT) := [("sender", .im (.str L.snd)), ("names", lstS L.nms), ("had", setT L.had), ("stays", setT L.sty), ("passed", setT L.psd), ("dropped", setT L.drp)]
def ltT (L : Lt) : OT := .ins "Letter" (ltF L)
def ltK (L : Lt) : List (Str × D) := [("sender", .str L.snd), ("names", .lst (L.nms.map .str)), ("had", .dic (trueD L.had)), ("stays", .dic (trueD L.sty)), ("passed", .dic (trueD L.psd)), ("dropped", .dic (trueD L.drp))]
def ltD (L : Lt) : D := .ins "Letter" (ltK L)
theorem fzF_im : ∀ kvs : List (Str × D), OT.fzF (kvs.map fun kv => (kv.1, .im kv.2)) = kvs
  | [] => by rw [List.map_nil, OT.fzF]
  | kv :: kvs => by rw [List.map_cons, OT.fzF, OT.fz, fzF_im kvs]
theorem setT_fz (l : List Str) : (setT l).fz = .dic (trueD l) := by
  unfold setT dicI
  rw [OT.fz, fzF_im]
theorem ltT_fz (L : Lt) : (ltT L).fz = ltD L := by
  unfold ltT ltF ltD ltK lstS
  rw [OT.fz, OT.fzF, OT.fzF, OT.fzF, OT.fzF, OT.fzF, OT.fzF, OT.fzF, OT.fz, OT.fz, fzs_im, setT_fz, setT_fz, setT_fz, setT_fz]
def lt0 (s : Str) (ns : List Str) : Lt := ⟨s, ns, [], [], [], []⟩
def aMkLetter (xs : List D) (t : OT) : Prop := ∃ (s : Str) (ns : List Str), xs = [.str s, .lst (ns.map .str)] ∧ t = ltT (lt0 s ns)
abbrev qMkLetter : List Str := ["self", "sender", "names"]
theorem scMkLetter : FnScope qMkLetter qMkLetter (defScope S_Letter_init) := ⟨rfl, rfl, rfl, by decide +kernel, rfl, by decide +kernel, by decide +kernel⟩
theorem mk_letter {G : Glb} (Z : Facts G) : MakD G 1 "Letter" qMkLetter aMkLetter := by
  refine ⟨Z.mk_Letter, ?_, Z.g_Letter, Z.n_Letter_init⟩
  refine okI (N := qMkLetter) Z.f_Letter_init scMkLetter (fun xs r ⟨_, _, e, _⟩ => by rw [e]; rfl) fun cdv Ar outer s H E hr p xs t ⟨se, ns, ex, et⟩ => ?_
  subst ex et
  refine dss_cons (ds_setF 0 rfl (de_var 1 rfl) rfl ?_ Z.k_Letter Z.a_Letter_sender (by simp) (by decide))
  refine dss_cons (ds_setF 0 rfl (dv_list (de_var 2 rfl) rfl Z.b_list) rfl ?_ Z.k_Letter Z.a_Letter_names (show ("names" : Str) ∉ (["sender"] : List Str) by decide) (by show 1 < 1000; decide))
  refine dss_cons (ds_setF 0 rfl dv_newT rfl ?_ Z.k_Letter Z.a_Letter_had (show ("had" : Str) ∉ (["sender", "names"] : List Str) by decide) (by show 2 < 1000; decide))
  refine dss_cons (ds_setF 0 rfl dv_newT rfl ?_ Z.k_Letter Z.a_Letter_stays (show ("stays" : Str) ∉ (["sender", "names", "had"] : List Str) by decide) (by show 3 < 1000; decide))
  refine dss_cons (ds_setF 0 rfl dv_newT rfl ?_ Z.k_Letter Z.a_Letter_passed (show ("passed" : Str) ∉ (["sender", "names", "had", "stays"] : List Str) by decide) (by show 4 < 1000; decide))
  exact dss_cons (ds_setF 0 rfl dv_newT rfl (dss_nil rfl) Z.k_Letter Z.a_Letter_dropped (show ("dropped" : Str) ∉ (["sender", "names", "had", "stays", "passed"] : List Str) by decide) (by show 5 < 1000; decide))
/-! a letter goes on -/
abbrev S_goesIn : Stmt := (defBody S_Letter_goes).getD 1 (.Pass ⟨0, 0, 0, 0⟩)
abbrev nGoesIn : List Str := ["name", "opened", "self"]
theorem scLtGoesIn : NdefX.NScope nGoesIn ["name"] ["opened", "self"] (C8.fnScope S_goesIn) := NdefX.nscope_by (by decide +kernel)
/-- by a letter that may have been let on -/
def gL (b : List Ent) (s : Str) (psd : List Str) (n : Str) : Bool := gM b s n || decide (n ∈ psd)
def aGoesIn (cd xs : List D) (r : DS) : Prop := ∃ (b : List Ent) (L : Lt) (n : Str), cd = [.dic (letsL b L.snd b), ltD L] ∧ xs = [.str n] ∧ isL b n = true ∧ r = .im (.bl (gL b L.snd L.psd n))
theorem ok_goesIn {G : Glb} (Z : Facts G) (F : NdefX.NF) (hF : ∃ q cl c, F = NdefX.NF.of S_goesIn "passes" q cl c) : CloOk G 1 F none ["opened", "self"] aGoesIn := by
  obtain ⟨q, cl, c, rfl⟩ := hF
  refine CloOk.ofN (p := "name") fun f => okN (N := nGoesIn) scLtGoesIn (fun doc pm ctv us hl => match us, hl with | [_], _ => rfl) (fun cd xs r ⟨_, _, _, _, e, _⟩ => by rw [e]; rfl) fun Ar outer s H E hr cd xs r ⟨b, L, n, e1, e2, hl, er⟩ => ?_
  subst e1 e2 er
  refine dss_one (ds_ret (de_or (x := gM b L.snd n) (y := decide (n ∈ L.psd)) (de_dget (de_var 1 rfl) (de_var 0 rfl) (look_gM hl) (u1 hr)) fun _ => de_one (dv_is (de_inD (kvs := trueD L.psd) (de_var 0 rfl) (de_fld (de_var 2 rfl) Z.k_Letter Z.a_Letter_passed rfl) (u1 hr)) (by rw [look_true]))) (.inl rfl))
def stF (drp : List Str) (st : List Str) (n : Str) : List Str := if n ∈ drp then st else addK st n
def goL (b : List Ent) (L : Lt) : Lt := { L with had := (reachedM b (gL b L.snd L.psd) L.nms).foldl addK L.had, sty := (heldM b (gL b L.snd L.psd) L.nms).foldl (stF L.drp) L.sty }
structure LtB (b : List Ent) (L : Lt) : Prop where
  snd : Nm L.snd
  nms : Ns L.nms
  uni : (uni b L.nms).length ≤ 20000
  had : L.had.length ≤ 20000
  sty : L.sty.length ≤ 20000
def aLtGoes (t : OT) (xs : List D) (t' : OT) (r : BR) : Prop := ∃ (b : List Ent) (L : Lt), t = ltT L ∧ xs = [lsD b] ∧ Bk b ∧ LtB b L ∧ (b.flatMap Ent.mem).length ≤ 80000 ∧ t' = ltT (goL b L) ∧ r = .dat .non
abbrev nLtGoes : List Str := ["self", "lists", "opened", "passes", "person", "name"]
theorem scLtGoes : FnScope nLtGoes ["self", "lists"] (defScope S_Letter_goes) := ⟨rfl, rfl, rfl, by decide +kernel, rfl, by decide +kernel, by decide +kernel⟩
theorem nfGoesIn : NdefX.ndefB (defScope S_Letter_goes) (C8.fnScope S_goesIn) ["opened", "self"] = true := by decide +kernel
theorem clean_strs (l : List Str) : (DS.own (l.map D.str)).clean = true := by
  show ((l.map D.str).all flatD) = true
  rw [List.all_map, List.all_eq_true]
  intro x _
  rfl
theorem adds_len : ∀ (l kn : List Str), (l.foldl addK kn).length ≤ kn.length + l.length
  | [], _ => Nat.le_refl _
  | n :: l, kn => by
    have h := adds_len l (addK kn n)
    have h2 : (addK kn n).length ≤ kn.length + 1 := by
      unfold addK
      split
      · omega
      · rw [List.length_append]; exact Nat.le_refl _
    rw [List.foldl_cons, List.length_cons]
    omega
theorem stF_len (drp : List Str) : ∀ (l st : List Str), (l.foldl (stF drp) st).length ≤ st.length + l.length
  | [], _ => Nat.le_refl _
  | n :: l, st => by
    have h := stF_len drp l (stF drp st n)
    have h2 : (stF drp st n).length ≤ st.length + 1 := by
      unfold stF addK
      split
      · omega
      · split
        · omega
        · rw [List.length_append]; exact Nat.le_refl _
    rw [List.foldl_cons, List.length_cons]
    omega
theorem reached_len {b : List Ent} {g : Str → Bool} {ns : List Str} (hb : Bk b) (hn : ns.Nodup) : (reachedM b g ns).length ≤ (uni b ns).length ∧ (heldM b g ns).length ≤ (uni b ns).length := by
  have lc := (come_line g hb hn).len
  constructor
  · unfold reachedM
    rw [(sortN_perm _).length_eq]
    have h1 := List.length_filter_le (fun p => decide (p ∈ come b (goesM b g p) ns)) ((come b g ns).filter fun n => !isL b n)
    have h2 := List.length_filter_le (fun n => !isL b n) (come b g ns)
    omega
  · unfold heldM
    rw [(sortN_perm _).length_eq]
    have h2 := List.length_filter_le (fun n => isL b n && !g n) (come b g ns)
    omega
theorem ok_ltgoes {G : Glb} (Z : Facts G) : MethO G 8 "Letter" "goes" ["self", "lists"] aLtGoes := by
  refine ⟨Z.k_Letter, Z.m_Letter_goes, ?_, Z.n_Letter_goes⟩
  refine okOc (N := nLtGoes) Z.f_Letter_goes Z.t_Letter_goes scLtGoes (fun t xs t' r ⟨_, _, _, e, _⟩ => by rw [e]; rfl) fun c P tb Ar outer s H E hr p t xs t' r ⟨b, L, et, ex, hb, hL, hU, et', er⟩ => ?_
  subst et ex et' er
  have hu := hL.uni
  have hs := uni_short hb hL.nms.nm
  obtain ⟨rl1, rl2⟩ := reached_len (g := gL b L.snd L.psd) hb hL.nms.nd
  refine dss_cons (ds_set 2 (de_ownD (dv_c (ok_lets_in Z) hr (da_cons (de_var 1 rfl) (da_cons (de_at (π := [0]) rfl rfl (dp_fld (π := []) rfl rfl (dp_var 0 rfl) rfl Z.k_Letter Z.a_Letter_sender)) da_nil)) ⟨b, L.snd, rfl, hb, hU, rfl⟩)) ?_ scLtGoes.nd)
  refine dss_cons (ds_ndef 3 (c := c) (P := P) (nm := fun _ _ => "Letter.goes.<locals>.passes") (name := "passes") rfl tb.tb rfl tb.mem (show ("Letter.goes.<locals>.passes" : Str) = "Letter.goes" ++ ".<locals>." ++ "passes" by decide +kernel) tb.one (NdefX.ndef_free (sc := defScope S_Letter_goes) (nsc := C8.fnScope S_goesIn) nfGoesIn) scLtGoes.nd (fun c' => ?_))
  obtain ⟨F, hF⟩ : ∃ F : NdefX.NF, F = NdefX.NF.of S_goesIn "passes" ("Letter.goes" ++ ".<locals>." ++ "passes") (cloFrom (envOfC "Letter.goes" (defScope S_Letter_goes) s.heap.objs.size (He.ma G.K (He.ga G.K "Letter") "goes") (.ref c)).cells (C8.fnScope S_goesIn).names []) c' := ⟨_, rfl⟩
  have vw : ∀ L2 : Lt, (some (DS.im (ltT L2).fz)) = some (.im (ltD L2)) := fun L2 => congrArg (fun d => some (DS.im d)) (ltT_fz L2)
  have hcd : ∀ (L2 : Lt) (o4 : DS) (i : Nat) (d : D), ([D.dic (letsL b L.snd b), ltD L2] : List D)[i]? = some d → ∃ m, ([2, 0] : List Nat)[i]? = some m ∧ ([.im (ltT L2).fz, .im (lsD b), .im (.dic (letsL b L.snd b)), .im (.clo F none), o4, .no] : List DS)[m]? = some (.im d) := fun L2 o4 i d hd => by
    match i, hd with
    | 0, hd => exact ⟨2, rfl, by cases hd; rfl⟩
    | 1, hd => exact ⟨0, rfl, by cases hd; exact vw L2⟩
    | n + 2, hd => cases hd
  have cps := fun ok => NdefX.Caps.made (X := (cxOf CX0 G.P G.w G.K G.mg G.base nLtGoes "Letter.goes" (defScope S_Letter_goes) (He.ma G.K (He.ga G.K "Letter") "goes") (.ref c) Ar outer s H E).nox) (fr := ["opened", "self"]) (js := [2, 0]) (scope := C8.fnScope S_goesIn) ok (NdefX.ndef_free (sc := defScope S_Letter_goes) (nsc := C8.fnScope S_goesIn) nfGoesIn) (NdefX.ndef_fr (sc := defScope S_Letter_goes) (nsc := C8.fnScope S_goesIn) nfGoesIn) rfl
  subst hF
  obtain ⟨R, hR⟩ : ∃ R, R = reachedM b (gL b L.snd L.psd) L.nms := ⟨_, rfl⟩
  obtain ⟨Hd, hHd⟩ : ∃ Hd, Hd = heldM b (gL b L.snd L.psd) L.nms := ⟨_, rfl⟩
  have hsn := hL.sty
  have hhn := hL.had
  have got : goL b L = { L with had := R.foldl addK L.had, sty := Hd.foldl (stF L.drp) L.sty } := by rw [hR, hHd]; rfl
  rw [got]
  rw [← hR] at rl1
  rw [← hHd] at rl2
  refine dss_cons (ds_forE (e := D.str) (xs := R) [4] (fun i => [.ot (some p) (ltT { L with had := (R.take i).foldl addK L.had }), .im (lsD b), .im (.dic (letsL b L.snd b)), .im (.clo _ none), .no, .no]) (fun n ds1 => ds1.set 4 (.im (.str n))) rfl
    (di_list (de_own (dv_viewU 0 rfl (clean_strs _) (hR ▸ dv_cl _ ["opened", "self"] [2, 0] [.dic (letsL b L.snd b), ltD L] [lsD b, .lst (L.nms.map .str), .fn 1 (fun n => isL b n) (gL b L.snd L.psd)] (ok_reached_by Z) hr (da_cons (de_var 1 rfl) (da_cons (de_fld (de_var 0 (vw L)) Z.k_Letter Z.a_Letter_names rfl) (da_cons (de_var 3 rfl) da_nil)))
      cps (fun _ => rfl) (hcd L .no) rfl ?_ ⟨_, _, _, _, _, rfl, hb, hL.nms.nd, by omega, hs, fun _ h => h, by decide, rfl⟩ (clean_strs _))))) (fun n _ ds1 => dg_name 4 scLtGoes.nd) (fun i n hi => ?_) ?_ PassesOwn.never)
  · intro I L2 vs ws cap wl hd hw hn sm rs
    cases rs with
    | cons r1 rs =>
    cases rs with
    | cons r2 rs =>
    cases rs with
    | @cons v3 _ _ _ r3 rs =>
    cases rs
    obtain ⟨f, rfl⟩ : ∃ f, v3 = .ref f := by
      cases r3
      exact ⟨_, rfl⟩
    exact .cons (r1.mono sm) (.cons (r2.mono sm) (.cons (rep_fn (ok_goesIn Z _ ⟨_, _, _, rfl⟩) r3 cap wl hd hw hn fun x hx => ⟨b, L, x, rfl, rfl, hx, rfl⟩) .nil))
  · have es : (R.take (i + 1)).foldl addK L.had = addK ((R.take i).foldl addK L.had) n := by rw [take_snoc hi, List.foldl_append]; rfl
    have al := adds_len (R.take i) L.had
    rw [List.length_take] at al
    rw [es]
    generalize (R.take i).foldl addK L.had = cur at al
    refine dss_one (ds_dputP 0 (π := [] ++ [2]) (kvs := trueD cur) rfl rfl (dp_fld rfl rfl (dp_var 0 rfl) rfl Z.k_Letter Z.a_Letter_had) (de_var 4 rfl) de_bl (by rw [List.length_map]; omega) ?_ (u1 hr))
    rw [addT]
    rfl
  · rw [List.take_length]
    obtain ⟨L1, hL1⟩ : ∃ L1 : Lt, L1 = { L with had := R.foldl addK L.had } := ⟨_, rfl⟩
    rw [← hL1]
    have q1 : L1.snd = L.snd := by rw [hL1]
    have q2 : L1.nms = L.nms := by rw [hL1]
    have q3 : L1.psd = L.psd := by rw [hL1]
    have q4 : L1.drp = L.drp := by rw [hL1]
    have q5 : L1.sty = L.sty := by rw [hL1]
    have q6 : ({ L with had := R.foldl addK L.had, sty := Hd.foldl (stF L.drp) L.sty } : Lt) = { L1 with sty := Hd.foldl (stF L1.drp) L1.sty } := by rw [hL1]
    rw [q6]
    rw [← q2] at hs
    refine dss_one (ds_forE (e := D.str) (xs := Hd) [5] (fun i => [.ot (some p) (ltT { L1 with sty := (Hd.take i).foldl (stF L1.drp) L1.sty }), .im (lsD b), .im (.dic (letsL b L.snd b)), .im (.clo _ none), .no, .no]) (fun n ds1 => ds1.set 5 (.im (.str n))) rfl
      (di_list (de_own (dv_viewU 0 rfl (clean_strs _) (hHd ▸ dv_cl _ ["opened", "self"] [2, 0] [.dic (letsL b L.snd b), ltD L1] [lsD b, .lst (L1.nms.map .str), .fn 1 (fun n => isL b n) (gL b L.snd L.psd)] (ok_holding Z) hr (da_cons (de_var 1 rfl) (da_cons (de_fld (de_var 0 (vw L1)) Z.k_Letter Z.a_Letter_names rfl) (da_cons (de_var 3 rfl) da_nil)))
        cps (fun _ => rfl) (hcd L1 .no) rfl ?_ ⟨_, _, _, _, _, rfl, hb, by rw [q2]; exact hL.nms.nd, by rw [q2]; omega, hs, fun _ h => h, by decide, by rw [q2]⟩ (clean_strs _))))) (fun n _ ds1 => dg_name 5 scLtGoes.nd) (fun i n hi => ?_) ?_ PassesOwn.never)
    · intro I L2 vs ws cap wl hd hw hn sm rs
      cases rs with
      | cons r1 rs =>
      cases rs with
      | cons r2 rs =>
      cases rs with
      | @cons v3 _ _ _ r3 rs =>
      cases rs
      obtain ⟨f, rfl⟩ : ∃ f, v3 = .ref f := by
        cases r3
        exact ⟨_, rfl⟩
      exact .cons (r1.mono sm) (.cons (r2.mono sm) (.cons (rep_fn (ok_goesIn Z _ ⟨_, _, _, rfl⟩) r3 cap wl hd hw hn fun x hx => ⟨b, L1, x, by rw [q1], rfl, hx, by rw [q1, q3]⟩) .nil))
    · have es : (Hd.take (i + 1)).foldl (stF L1.drp) L1.sty = stF L1.drp ((Hd.take i).foldl (stF L1.drp) L1.sty) n := by rw [take_snoc hi, List.foldl_append]; rfl
      have al := stF_len L1.drp (Hd.take i) L1.sty
      rw [List.length_take, q5] at al
      rw [q5] at es ⊢
      rw [es]
      generalize (Hd.take i).foldl (stF L1.drp) L.sty = cur at al
      obtain ⟨L3, hL3⟩ : ∃ L3 : Lt, L3 = { L1 with sty := cur } := ⟨_, rfl⟩
      rw [← hL3]
      have d3 : L3.drp = L1.drp := by rw [hL3]
      refine dss_one (ds_if (x := !decide (n ∈ L1.drp)) (dt_is (dt_viewU 0 rfl (dt_niD (kvs := trueD L3.drp) (de_var 5 rfl) (de_fld (de_var 0 (vw L3)) Z.k_Letter Z.a_Letter_dropped rfl) (u1 hr))) (by rw [look_true, d3])) (fun hc => ?_) (fun hc => ?_))
      · have z : stF L1.drp cur n = addK cur n := if_neg (by simpa using hc)
        rw [z, hL3]
        refine dss_one (ds_dputP 0 (π := [] ++ [3]) (kvs := trueD cur) rfl rfl (dp_fld rfl rfl (dp_var 0 rfl) rfl Z.k_Letter Z.a_Letter_stays) (de_var 5 rfl) de_bl (by rw [List.length_map]; omega) ?_ (u1 hr))
        rw [addT]
        rfl
      · have z : stF L1.drp cur n = cur := if_pos (by simpa using hc)
        rw [z, hL3]
        exact dss_nil rfl
    · rw [List.take_length]
      exact ⟨rfl, rfl⟩

/-! ### the post -/
def poI (t0 : OT) (ts : List OT) : OT := .ins "Post" [("lists", t0), ("letters", .lst ts)]
abbrev poT (b : List Ent) (Ls : List Lt) : OT := poI (.im (lsD b)) (Ls.map ltT)
def poK (b : List Ent) (Ls : List Lt) : List (Str × D) := [("lists", lsD b), ("letters", .lst (Ls.map ltD))]
def poD (b : List Ent) (Ls : List Lt) : D := .ins "Post" (poK b Ls)
theorem lts_fz : ∀ Ls : List Lt, OT.fzs (Ls.map ltT) = Ls.map ltD
  | [] => by rw [List.map_nil, OT.fzs]; rfl
  | L :: Ls => by rw [List.map_cons, OT.fzs, lts_fz Ls, ltT_fz]; rfl
theorem poT_fz (b : List Ent) (Ls : List Lt) : (poT b Ls).fz = poD b Ls := by
  show (OT.ins "Post" [("lists", .im (lsD b)), ("letters", .lst (Ls.map ltT))]).fz = .ins "Post" [("lists", lsD b), ("letters", .lst (Ls.map ltD))]
  rw [OT.fz, OT.fzF, OT.fzF, OT.fzF, OT.fz, OT.fz, lts_fz]
theorem po_get (t0 : OT) (ts : List OT) (n : Nat) : (poI t0 ts).get [1, n] = ts[n]? := by
  show (match ts[n]? with | some u => u.get [] | none => none) = _
  cases ts[n]? <;> rfl
theorem po_put {t0 : OT} {ts : List OT} {n : Nat} {u : OT} (h : n < ts.length) : (poI t0 ts).put [1, n] u = poI t0 (ts.set n u) := by
  have e : (OT.lst ts).put [n] u = .lst (ts.set n u) := by
    show (match ts[n]? with | some w => OT.lst (ts.set n (w.put [] u)) | none => OT.lst ts) = _
    rw [List.getElem?_eq_getElem h]
    rfl
  show OT.ins "Post" [("lists", t0), ("letters", (OT.lst ts).put [n] u)] = _
  rw [e]
  rfl
def aMkPost (xs : List D) (t : OT) : Prop := ∃ b : List Ent, xs = [bkD b] ∧ Bk b ∧ t = poI (lsT b) []
theorem scMkPost : FnScope ["self", "book"] ["self", "book"] (defScope S_Post_init) := ⟨rfl, rfl, rfl, by decide +kernel, rfl, by decide +kernel, by decide +kernel⟩
theorem mk_post {G : Glb} (Z : Facts G) : MakD G 5 "Post" ["self", "book"] aMkPost := by
  refine ⟨Z.mk_Post, ?_, Z.g_Post, Z.n_Post_init⟩
  refine okI (N := ["self", "book"]) Z.f_Post_init scMkPost (fun xs r ⟨_, e, _⟩ => by rw [e]; rfl) fun cdv Ar outer s H E hr p xs t ⟨b, ex, hb, et⟩ => ?_
  subst ex et
  refine dss_cons (ds_setF 0 rfl (dv_c (ok_lists_of Z) hr (da_cons (de_var 1 rfl) da_nil) ⟨b, rfl, hb, rfl⟩) rfl ?_ Z.k_Post Z.a_Post_lists (by simp) (by decide))
  exact dss_cons (ds_setF 0 rfl (dv_lst da_nil (by decide)) rfl (dss_nil rfl) Z.k_Post Z.a_Post_letters (show ("letters" : Str) ∉ (["lists"] : List Str) by decide) (by show 1 < 1000; decide))
/-! a letter goes in -/
def aSend (t : OT) (xs : List D) (t' : OT) (r : BR) : Prop := ∃ (b : List Ent) (Ls : List Lt) (s : Str) (ns : List Str), t = poT b Ls ∧ xs = [.str s, .lst (ns.map .str)] ∧ Bk b ∧ Nm s ∧ Ns ns ∧ (uni b ns).length ≤ 20000 ∧ (b.flatMap Ent.mem).length ≤ 80000 ∧ Ls.length ≤ 1000 ∧
  t' = poT b (Ls ++ [goL b (lt0 s ns)]) ∧ r = .dat (.int (Ls.length : Int))
abbrev nSend : List Str := ["self", "sender", "names", "letter"]
theorem scSend : FnScope nSend ["self", "sender", "names"] (defScope S_Post_send) := ⟨rfl, rfl, rfl, by decide +kernel, rfl, by decide +kernel, by decide +kernel⟩
theorem ok_send {G : Glb} (Z : Facts G) : MethO G 9 "Post" "send" ["self", "sender", "names"] aSend := by
  refine ⟨Z.k_Post, Z.m_Post_send, ?_, Z.n_Post_send⟩
  refine okO (N := nSend) Z.f_Post_send scSend (fun t xs t' r ⟨_, _, _, _, _, e, _⟩ => by rw [e]; rfl) fun cdv Ar outer s H E hr p t xs t' r ⟨b, Ls, se, ns, et, ex, hb, hse, hns, hu, hU, hLs, et', er⟩ => ?_
  subst et ex et' er
  refine dss_cons (ds_expr (dv_c (ok_check_letter Z) hr (da_cons (de_var 1 rfl) (da_cons (de_var 2 rfl) da_nil)) ⟨_, _, rfl, hse, hns, rfl⟩) ?_)
  refine dss_cons (ds_set 3 (dv_mk (mk_letter Z) hr (da_cons (de_var 1 rfl) (da_cons (de_var 2 rfl) da_nil)) ⟨se, ns, rfl, rfl⟩) ?_ scSend.nd)
  refine dss_pin 3 rfl rfl fun w => ?_
  refine dss_cons (ds_exprM (dm_meth 3 (ok_ltgoes Z) hr rfl (da_cons (de_at (π := [0]) rfl rfl (dp_fld (π := []) rfl rfl (dp_var 0 rfl) rfl Z.k_Post Z.a_Post_lists)) da_nil) ⟨b, lt0 se ns, rfl, rfl, hb, ⟨hse, hns, hu, Nat.zero_le _, Nat.zero_le _⟩, hU, rfl, rfl⟩) ?_)
  generalize goL b (lt0 se ns) = L
  refine dss_cons (ds_appP 0 (π := [] ++ [1]) (ts := Ls.map ltT) (t := .hole w) rfl rfl (dp_fld rfl rfl (dp_var 0 rfl) rfl Z.k_Post Z.a_Post_letters) (dv_hole 3 rfl) rfl (by rw [List.length_map]; omega) ?_)
  have lm : (Ls.map ltT).length = Ls.length := List.length_map _
  have g1 : (poI (.im (lsD b)) (Ls.map ltT ++ [OT.hole w])).get [1, Ls.length] = some (.hole w) := by
    rw [po_get, List.getElem?_append_right (by omega), lm, Nat.sub_self]
    rfl
  refine dss_fill 3 0 [1, Ls.length] (by decide) rfl (T' := poI (.im (lsD b)) (Ls.map ltT ++ [OT.hole w])) rfl g1 ?_
  rw [po_put (by rw [List.length_append, lm]; exact Nat.lt_succ_self _)]
  have e1 : (Ls.map ltT ++ [OT.hole w]).set Ls.length (ltT L) = (Ls ++ [L]).map ltT := by
    rw [List.set_append_right _ _ (by omega), lm, Nat.sub_self, List.map_append]
    rfl
  rw [e1]
  refine dss_one (ds_retB (p := p) (t' := poT b (Ls ++ [L])) (d := .int (Ls.length : Int)) (dv_viewU 0 rfl rfl (dv_is (de_sub (i := ((Ls.length : Int) + 1)) (dv_is (de_lenL (xs := (Ls ++ [L]).map ltD) (de_fld (de_var 0 (d := poD b (Ls ++ [L])) (congrArg (fun d => some (DS.im d)) (poT_fz b (Ls ++ [L])))) Z.k_Post Z.a_Post_letters rfl) rfl Z.b_len) (by rw [List.length_map, List.length_append]; rfl)) de_int) (congrArg (fun i => DS.im (.int i)) (by omega)))) rfl rfl)

/-! ### a letter of the post -/
theorem set_same {α : Type} {x : α} : ∀ {l : List α} {a : Nat}, l[a]? = some x → l.set a x = l
  | [], _, _ => rfl
  | y :: l, 0, h => by
    simp at h
    rw [h]
    rfl
  | y :: l, a + 1, h => congrArg (y :: ·) (set_same (by simpa using h))
theorem kit_int_int : kitB "int" "int" = some true := by decide +kernel
theorem kit_int_bool : kitB "int" "bool" = some false := by decide +kernel
theorem kit_str_str : kitB "str" "str" = some true := by decide +kernel
def aLetterOf (t : OT) (xs : List D) (t' : OT) (r : BR) : Prop := ∃ (b : List Ent) (Ls : List Lt) (n : Nat), t = poT b Ls ∧ xs = [.int (n : Int)] ∧ n < Ls.length ∧ t' = poT b Ls ∧ r = .al [1, n]
theorem scLetterOf : FnScope ["self", "number"] ["self", "number"] (defScope S_Post_letter_of) := ⟨rfl, rfl, rfl, by decide +kernel, rfl, by decide +kernel, by decide +kernel⟩
theorem ok_letter_of {G : Glb} (Z : Facts G) : MethO G 1 "Post" "letter_of" ["self", "number"] aLetterOf := by
  refine ⟨Z.k_Post, Z.m_Post_letter_of, ?_, Z.n_Post_letter_of⟩
  refine okO (N := ["self", "number"]) Z.f_Post_letter_of scLetterOf (fun t xs t' r ⟨_, _, _, _, e, _⟩ => by rw [e]; rfl) fun cdv Ar outer s H E hr p t xs t' r ⟨b, Ls, n, et, ex, hn, et', er⟩ => ?_
  subst et ex et' er
  have vw : (some (DS.im (poT b Ls).fz)) = some (.im (poD b Ls)) := congrArg (fun d => some (DS.im d)) (poT_fz b Ls)
  have gt : (poT b Ls).get [1, n] = some (ltT Ls[n]) := by
    rw [po_get, List.getElem?_map, List.getElem?_eq_getElem hn]
    rfl
  refine dss_cons (ds_if (x := false) (dt_is (dt_w (dw_or (x := false) (y := !(decide ((0 : Int) ≤ (n : Int)) && decide ((n : Int) < ((Ls.map ltD).length : Int)))) (dt_is (dt_not (dt_val (de_isi (n := "int") (b := true) (de_var 1 rfl) (de_ty rfl Z.b_int (by decide +kernel)) (by show "int" ≠ "?"; decide) kit_int_int rfl Z.b_isinstance))) rfl) fun _ => dw_or (x := false) (dt_val (de_isi (n := "bool") (b := false) (de_var 1 rfl) (de_ty rfl Z.b_bool (by decide +kernel)) (by show "int" ≠ "?"; decide) kit_int_bool rfl Z.b_isinstance)) fun _ => dw_or1 (dt_not (dt_viewU 0 rfl (dt_leLt de_int (de_var 1 rfl) (de_lenL (xs := Ls.map ltD) (de_fld (de_var 0 (d := poD b Ls) vw) Z.k_Post Z.a_Post_letters rfl) rfl Z.b_len)))))) (by
      rw [List.length_map, decide_eq_true (by omega), decide_eq_true (by omega)]
      rfl)) (fun hc => by cases hc) (fun _ => dss_nil ?_))
  exact dss_one (ds_retP (π := [1, n]) (dp_ixL (π := [1]) (ts := Ls.map ltT) rfl rfl (dp_fld (π := []) rfl rfl (dp_var 0 rfl) rfl Z.k_Post Z.a_Post_letters) (de_var 1 rfl) (ixN_of (by rw [List.length_map]; exact hn))) rfl gt rfl)
def aHeldBy (t : OT) (xs : List D) (t' : OT) (r : BR) : Prop := ∃ (b : List Ent) (Ls : List Lt) (n : Nat) (L : Lt) (m : Str), t = poT b Ls ∧ xs = [.int (n : Int), .str m] ∧ Ls[n]? = some L ∧ m ∈ L.sty ∧ t' = poT b Ls ∧ r = .al [1, n]
abbrev nHeldBy : List Str := ["self", "number", "name", "letter"]
theorem scHeldBy : FnScope nHeldBy ["self", "number", "name"] (defScope S_Post_held_by) := ⟨rfl, rfl, rfl, by decide +kernel, rfl, by decide +kernel, by decide +kernel⟩
theorem po_at {b : List Ent} {Ls : List Lt} {n : Nat} {L : Lt} (h : Ls[n]? = some L) : (poT b Ls).get [1, n] = some (ltT L) := by
  rw [po_get, List.getElem?_map, h]
  rfl
theorem po_hole {b : List Ent} {Ls : List Lt} {n : Nat} {L : Lt} (h : Ls[n]? = some L) (w : Addr) : (poT b Ls).put [1, n] (.hole w) = poI (.im (lsD b)) ((Ls.map ltT).set n (.hole w)) ∧ (poI (.im (lsD b)) ((Ls.map ltT).set n (.hole w))).get [1, n] = some (.hole w) ∧
    ∀ L2 : Lt, (poI (.im (lsD b)) ((Ls.map ltT).set n (.hole w))).put [1, n] (ltT L2) = poT b (Ls.set n L2) := by
  have hn := (List.getElem?_eq_some_iff.mp h).1
  have hl : n < (Ls.map ltT).length := by rw [List.length_map]; exact hn
  refine ⟨po_put hl, ?_, fun L2 => ?_⟩
  · rw [po_get, List.getElem?_set_self hl]
  · rw [po_put (by rw [List.length_set]; exact hl), List.set_set, ← List.map_set]
theorem ok_held_by {G : Glb} (Z : Facts G) : MethO G 2 "Post" "held_by" ["self", "number", "name"] aHeldBy := by
  refine ⟨Z.k_Post, Z.m_Post_held_by, ?_, Z.n_Post_held_by⟩
  refine okO (N := nHeldBy) Z.f_Post_held_by scHeldBy (fun t xs t' r ⟨_, _, _, _, _, _, e, _⟩ => by rw [e]; rfl) fun cdv Ar outer s H E hr p t xs t' r ⟨b, Ls, n, L, m, et, ex, hn, hm, et', er⟩ => ?_
  subst et ex et' er
  have vw : (some (DS.im (ltT L).fz)) = some (.im (ltD L)) := congrArg (fun d => some (DS.im d)) (ltT_fz L)
  refine dss_cons (ds_setA 0 3 (ok_letter_of Z) hr rfl (by decide) (by show 3 < 4; decide) (da_cons (de_var 1 rfl) da_nil) ⟨b, Ls, n, rfl, rfl, (List.getElem?_eq_some_iff.mp hn).1, rfl, rfl⟩ (po_at hn) rfl (fun w => ?_) scHeldBy.nd)
  obtain ⟨h1, h2, h3⟩ := po_hole (b := b) hn w
  rw [h1]
  refine dss_cons (ds_if (x := false) (dt_is (dt_w (dw_or (x := false) (y := !decide (m ∈ L.sty)) (dt_is (dt_not (dt_val (de_isi (n := "str") (b := true) (de_var 2 rfl) (de_ty rfl Z.b_str (by decide +kernel)) (by show "str" ≠ "?"; decide) kit_str_str rfl Z.b_isinstance))) rfl) fun _ => dw_or1 (dt_is (dt_viewU 3 rfl (dt_niD (kvs := trueD L.sty) (de_var 2 rfl) (de_fld (de_var 3 vw) Z.k_Letter Z.a_Letter_stays rfl) (u1 hr))) (by rw [look_true])))) (by rw [decide_eq_true hm]; rfl)) (fun hc => by cases hc) (fun _ => dss_nil ?_))
  refine dss_one (ds_retH 3 [1, n] (by decide) rfl rfl h2 ?_)
  show DS.gh _ = .gh _
  rw [h3, set_same hn]
theorem dropT {l : List Str} {m : Str} (hm : m ∈ l) : ∃ k, fIx m ((trueD l).map fun kv => (kv.1, OT.im kv.2)) = some k := by
  induction l with
  | nil => cases hm
  | cons x l ih =>
    by_cases q : (m == x) = true
    · exact ⟨0, by show (if (m == x) = true then some 0 else _) = _; rw [if_pos q]⟩
    · have : m ∈ l := (List.mem_cons.mp hm).resolve_left fun z => q (by rw [z]; exact beq_self_eq_true _)
      obtain ⟨k, hk⟩ := ih this
      refine ⟨k + 1, ?_⟩
      show (if (m == x) = true then some 0 else (fIx m ((trueD l).map fun kv => (kv.1, OT.im kv.2))).map (· + 1)) = _
      rw [if_neg q, hk]
      rfl
theorem dropT_eq (l : List Str) (m : Str) : OT.dic (dropF m ((trueD l).map fun kv => (kv.1, OT.im kv.2))) = setT (l.filter fun x => !decide (x = m)) := by
  unfold setT dicI dropF trueD
  congr 1
  rw [List.map_map, List.map_map, List.filter_map]
  rfl
def letL (L : Lt) (m : Str) : Lt := { L with sty := L.sty.filter (fun x => !decide (x = m)), psd := addK L.psd m }
def drpL (L : Lt) (m : Str) : Lt := { L with sty := L.sty.filter (fun x => !decide (x = m)), drp := addK L.drp m }
def aLet (t : OT) (xs : List D) (t' : OT) (r : BR) : Prop := ∃ (b : List Ent) (Ls : List Lt) (n : Nat) (L : Lt) (m : Str), t = poT b Ls ∧ xs = [.int (n : Int), .str m] ∧ Ls[n]? = some L ∧ m ∈ L.sty ∧ Bk b ∧ LtB b L ∧ L.psd.length ≤ 20000 ∧ (b.flatMap Ent.mem).length ≤ 80000 ∧ t' = poT b (Ls.set n (goL b (letL L m))) ∧ r = .dat .non
theorem scLet : FnScope nHeldBy ["self", "number", "name"] (defScope S_Post_let) := ⟨rfl, rfl, rfl, by decide +kernel, rfl, by decide +kernel, by decide +kernel⟩
theorem ok_let {G : Glb} (Z : Facts G) : MethO G 9 "Post" "let" ["self", "number", "name"] aLet := by
  refine ⟨Z.k_Post, Z.m_Post_let, ?_, Z.n_Post_let⟩
  refine okO (N := nHeldBy) Z.f_Post_let scLet (fun t xs t' r ⟨_, _, _, _, _, _, e, _⟩ => by rw [e]; rfl) fun cdv Ar outer s H E hr p t xs t' r ⟨b, Ls, n, L, m, et, ex, hn, hm, hb, hL, hps, hU, et', er⟩ => ?_
  subst et ex et' er
  refine dss_cons (ds_setA 0 3 (ok_held_by Z) hr rfl (by decide) (by show 3 < 4; decide) (da_cons (de_var 1 rfl) (da_cons (de_var 2 rfl) da_nil)) ⟨b, Ls, n, L, m, rfl, rfl, hn, hm, rfl, rfl⟩ (po_at hn) rfl (fun w => ?_) scLet.nd)
  obtain ⟨h1, h2, h3⟩ := po_hole (b := b) hn w
  rw [h1]
  obtain ⟨k, hk⟩ := dropT hm
  refine dss_cons (ds_popD 3 (π := [] ++ [3]) (ts := (trueD L.sty).map fun kv => (kv.1, OT.im kv.2)) rfl rfl (dp_fld rfl rfl (dp_var 3 rfl) rfl Z.k_Letter Z.a_Letter_stays) (de_var 2 rfl) hk ?_ ⟨rfl, rfl, rfl, rfl⟩)
  rw [dropT_eq]
  obtain ⟨L1, hL1⟩ : ∃ L1 : Lt, L1 = { L with sty := L.sty.filter (fun x => !decide (x = m)) } := ⟨_, rfl⟩
  have e1 : (ltT L).put ([] ++ [3]) (setT (L.sty.filter fun x => !decide (x = m))) = ltT L1 := by rw [hL1]; rfl
  show DSs _ _ _ _ _ [.ot (some p) (poI (.im (lsD b)) ((Ls.map ltT).set n (.hole w))), .im (.int (n : Int)), .im (.str m), .ot (some w) ((ltT L).put ([] ++ [3]) (setT (L.sty.filter fun x => !decide (x = m))))] _
  rw [e1]
  refine dss_cons (ds_dputP 3 (π := [] ++ [4]) (kvs := trueD L1.psd) rfl rfl (dp_fld rfl rfl (dp_var 3 rfl) rfl Z.k_Letter Z.a_Letter_passed) (de_var 2 rfl) de_bl (by rw [List.length_map, hL1]; show L.psd.length < _; omega) ?_ (u1 hr))
  rw [addT]
  have e2 : (ltT L1).put ([] ++ [4]) (dicI (trueD (addK L1.psd m))) = ltT (letL L m) := by rw [hL1]; rfl
  show DSs _ _ _ _ _ [.ot (some p) (poI (.im (lsD b)) ((Ls.map ltT).set n (.hole w))), .im (.int (n : Int)), .im (.str m), .ot (some w) ((ltT L1).put ([] ++ [4]) (dicI (trueD (addK L1.psd m))))] _
  rw [e2]
  have hs2 := List.length_filter_le (fun x => !decide (x = m)) L.sty
  refine dss_cons (ds_exprM (dm_meth 3 (ok_ltgoes Z) hr rfl (da_cons (de_at (π := [0]) rfl rfl (dp_fld (π := []) rfl rfl (dp_var 0 rfl) rfl Z.k_Post Z.a_Post_lists)) da_nil) ⟨b, letL L m, rfl, rfl, hb, ⟨hL.snd, hL.nms, hL.uni, hL.had, Nat.le_trans hs2 hL.sty⟩, hU, rfl, rfl⟩) ?_)
  refine dss_fill 3 0 [1, n] (by decide) rfl (T' := poI (.im (lsD b)) ((Ls.map ltT).set n (.hole w))) rfl h2 ?_
  rw [h3]
  exact dss_nil ⟨rfl, rfl⟩
def aDrop (t : OT) (xs : List D) (t' : OT) (r : BR) : Prop := ∃ (b : List Ent) (Ls : List Lt) (n : Nat) (L : Lt) (m : Str), t = poT b Ls ∧ xs = [.int (n : Int), .str m] ∧ Ls[n]? = some L ∧ m ∈ L.sty ∧ L.drp.length ≤ 20000 ∧ t' = poT b (Ls.set n (drpL L m)) ∧ r = .dat .non
theorem scDrop : FnScope nHeldBy ["self", "number", "name"] (defScope S_Post_drop) := ⟨rfl, rfl, rfl, by decide +kernel, rfl, by decide +kernel, by decide +kernel⟩
theorem ok_drop {G : Glb} (Z : Facts G) : MethO G 3 "Post" "drop" ["self", "number", "name"] aDrop := by
  refine ⟨Z.k_Post, Z.m_Post_drop, ?_, Z.n_Post_drop⟩
  refine okO (N := nHeldBy) Z.f_Post_drop scDrop (fun t xs t' r ⟨_, _, _, _, _, _, e, _⟩ => by rw [e]; rfl) fun cdv Ar outer s H E hr p t xs t' r ⟨b, Ls, n, L, m, et, ex, hn, hm, hdp, et', er⟩ => ?_
  subst et ex et' er
  refine dss_cons (ds_setA 0 3 (ok_held_by Z) hr rfl (by decide) (by show 3 < 4; decide) (da_cons (de_var 1 rfl) (da_cons (de_var 2 rfl) da_nil)) ⟨b, Ls, n, L, m, rfl, rfl, hn, hm, rfl, rfl⟩ (po_at hn) rfl (fun w => ?_) scDrop.nd)
  obtain ⟨h1, h2, h3⟩ := po_hole (b := b) hn w
  rw [h1]
  obtain ⟨k, hk⟩ := dropT hm
  refine dss_cons (ds_popD 3 (π := [] ++ [3]) (ts := (trueD L.sty).map fun kv => (kv.1, OT.im kv.2)) rfl rfl (dp_fld rfl rfl (dp_var 3 rfl) rfl Z.k_Letter Z.a_Letter_stays) (de_var 2 rfl) hk ?_ ⟨rfl, rfl, rfl, rfl⟩)
  rw [dropT_eq]
  obtain ⟨L1, hL1⟩ : ∃ L1 : Lt, L1 = { L with sty := L.sty.filter (fun x => !decide (x = m)) } := ⟨_, rfl⟩
  have e1 : (ltT L).put ([] ++ [3]) (setT (L.sty.filter fun x => !decide (x = m))) = ltT L1 := by rw [hL1]; rfl
  show DSs _ _ _ _ _ [.ot (some p) (poI (.im (lsD b)) ((Ls.map ltT).set n (.hole w))), .im (.int (n : Int)), .im (.str m), .ot (some w) ((ltT L).put ([] ++ [3]) (setT (L.sty.filter fun x => !decide (x = m))))] _
  rw [e1]
  refine dss_cons (ds_dputP 3 (π := [] ++ [5]) (kvs := trueD L1.drp) rfl rfl (dp_fld rfl rfl (dp_var 3 rfl) rfl Z.k_Letter Z.a_Letter_dropped) (de_var 2 rfl) de_bl (by rw [List.length_map, hL1]; show L.drp.length < _; omega) ?_ (u1 hr))
  rw [addT]
  have e2 : (ltT L1).put ([] ++ [5]) (dicI (trueD (addK L1.drp m))) = ltT (drpL L m) := by rw [hL1]; rfl
  show DSs _ _ _ _ _ [.ot (some p) (poI (.im (lsD b)) ((Ls.map ltT).set n (.hole w))), .im (.int (n : Int)), .im (.str m), .ot (some w) ((ltT L1).put ([] ++ [5]) (dicI (trueD (addK L1.drp m))))] _
  rw [e2]
  refine dss_fill 3 0 [1, n] (by decide) rfl (T' := poI (.im (lsD b)) ((Ls.map ltT).set n (.hole w))) rfl h2 ?_
  rw [h3]
  exact dss_nil ⟨rfl, rfl⟩

/-! ### what a post tells -/
def pairsU (l : List (Lt × Nat)) : List (Nat × Str) := l.flatMap fun q => (sortN q.1.sty).map fun n => (q.2, n)
def pairsM (Ls : List Lt) : List (Nat × Str) := pairsU Ls.zipIdx
def pT (q : Nat × Str) : OT := .tup [.im (.int (q.1 : Int)), .im (.str q.2)]
def pD (q : Nat × Str) : D := .tup [.int (q.1 : Int), .str q.2]
def prT (l : List (Nat × Str)) : OT := .lst (l.map pT)
theorem prT_flat (l : List (Nat × Str)) : (prT l).flat = true := by
  unfold prT
  rw [OT.flat]
  induction l with
  | nil => rw [List.map_nil, OT.flats]
  | cons q l ih =>
    rw [List.map_cons, OT.flats, ih]
    unfold pT
    rw [OT.flat, OT.flats, OT.flats, OT.flats, OT.flat, OT.flat]
    rfl
theorem prT_fz (l : List (Nat × Str)) : (prT l).fz = .lst (l.map pD) := by
  unfold prT
  rw [OT.fz]
  congr 1
  induction l with
  | nil => rw [List.map_nil, OT.fzs]; rfl
  | cons q l ih =>
    rw [List.map_cons, OT.fzs, ih]
    unfold pT
    rw [OT.fz, OT.fzs, OT.fzs, OT.fzs, OT.fz, OT.fz]
    rfl
theorem prT_nd (l : List (Nat × Str)) : (prT l).nd = true := by
  unfold prT
  rw [OT.nd]
  induction l with
  | nil => rw [List.map_nil, OT.nds]
  | cons q l ih =>
    rw [List.map_cons, OT.nds, ih]
    unfold pT
    rw [OT.nd, OT.nds, OT.nds, OT.nds, OT.nd, OT.nd]
    rfl
structure LsB (Ls : List Lt) : Prop where
  len : Ls.length ≤ 100
  sty : ∀ L ∈ Ls, L.sty.length ≤ 100 ∧ ∀ n ∈ L.sty, Nm n
theorem zi_mem {α : Type} {l : List α} {q : α × Nat} (h : q ∈ l.zipIdx) : q.1 ∈ l := by
  obtain ⟨i, hi⟩ := List.mem_iff_getElem?.mp h
  exact List.mem_of_getElem? (zi_get hi).2
theorem pairs_len {l : List (Lt × Nat)} (h : ∀ q ∈ l, q.1.sty.length ≤ 100) : (pairsU l).length ≤ 100 * l.length := by
  unfold pairsU
  induction l with
  | nil => exact Nat.le_refl _
  | cons q l ih =>
    rw [List.flatMap_cons, List.length_append, List.length_map, List.length_cons, (sortN_perm _).length_eq]
    have h1 := h q List.mem_cons_self
    have h2 := ih fun x hx => h x (List.mem_cons_of_mem _ hx)
    omega
def aHeld (xs : List D) (r : DS) : Prop := ∃ (b : List Ent) (Ls : List Lt), xs = [poD b Ls] ∧ LsB Ls ∧ r = .ot none (prT (pairsM Ls))
abbrev nHeld : List Str := ["self", "found", "number", "letter", "name"]
theorem scHeld : FnScope nHeld ["self"] (defScope S_Post_held) := ⟨rfl, rfl, rfl, by decide +kernel, rfl, by decide +kernel, by decide +kernel⟩
theorem ok_held {G : Glb} (Z : Facts G) : MethD G 4 "Post" "held" ["self"] aHeld := by
  refine ⟨Z.k_Post, Z.m_Post_held, ?_, Z.n_Post_held⟩
  refine okD (N := nHeld) Z.f_Post_held scHeld (fun xs r ⟨_, _, e, _⟩ => by rw [e]; rfl) fun cdv Ar outer s H E hr xs r ⟨b, Ls, e, hLs, er⟩ => ?_
  subst e er
  have ll := hLs.len
  have zl : Ls.zipIdx.length = Ls.length := List.length_zipIdx
  refine dss_cons (ds_set 1 (s := .ot none (prT [])) (dv_tree (dv_lst da_nil (by decide)) rfl) ?_ scHeld.nd)
  refine dss_mid (fun ds => ∃ o2 o3, ds = [.im (poD b Ls), .ot none (prT (pairsM Ls)), o2, o3, .no]) (ds_for (e := enE ltD) (xs := Ls.zipIdx) (fun i ds => ∃ o2 o3, ds = [.im (poD b Ls), .ot none (prT (pairsU (Ls.zipIdx.take i))), o2, o3, .no])
    (fun q ds1 => (ds1.set 2 (.im (.int (q.2 : Int)))).set 3 (.im (ltD q.1))) (enumD_map ltD Ls ▸ di_enum (de_fld (d := .lst (Ls.map ltD)) (de_var 0 rfl) Z.k_Post Z.a_Post_letters rfl) rfl Z.b_enumerate)
    (fun q _ ds1 => dg_tup (dgs_cons (dg_name 2 scHeld.nd) (dgs_cons (dg_name 3 scHeld.nd) dgs_nil))) ⟨.no, .no, rfl⟩ (fun i q ds1 hi ⟨o2, o3, e1⟩ => ?_) (fun ds1 ⟨o2, o3, e1⟩ => ⟨o2, o3, by rw [e1, List.take_length]; rfl⟩) PassesOwn.never) fun ds' ⟨o2, o3, ed⟩ => ?_
  · subst e1
    have hq := zi_mem (List.mem_of_getElem? hi)
    obtain ⟨s1, s2⟩ := hLs.sty _ hq
    have es : pairsU (Ls.zipIdx.take (i + 1)) = pairsU (Ls.zipIdx.take i) ++ (sortN q.1.sty).map fun n => (q.2, n) := by
      unfold pairsU
      rw [take_snoc hi, List.flatMap_append, List.flatMap_cons, List.flatMap_nil, List.append_nil]
    have al := pairs_len (l := Ls.zipIdx.take i) fun x hx => (hLs.sty _ (zi_mem (List.mem_of_mem_take hx))).1
    rw [List.length_take] at al
    rw [es]
    generalize pairsU (Ls.zipIdx.take i) = cur at al
    have sl : (sortN q.1.sty).length = q.1.sty.length := (sortN_perm _).length_eq
    have fs : (trueD q.1.sty).map (·.1) = q.1.sty := by
      unfold trueD
      rw [List.map_map]
      exact List.map_id' _
    refine dss_one (ds_extP 1 (π := []) (ts := cur.map pT) (us := ((sortN q.1.sty).map fun n => (q.2, n)).map pT) rfl rfl (dp_var 1 rfl) (s := .ot none (.lst (((sortN q.1.sty).map fun n => (q.2, n)).map pT))) (dv_is (dv_lcT (ev := D.str) (xs := sortN q.1.sty) (own := [("name", 4)]) (js := [4]) (fun n => [.im (poD b Ls), .ot none (prT cur), .im (.int (q.2 : Int)), .im (ltD q.1), .im (.str n)]) (fun _ => true) (fun n => pT (q.2, n))
      (di_list (dv_is (de_own (dv_sortD (kvs := trueD q.1.sty) (de_fld (de_var 3 rfl) Z.k_Letter Z.a_Letter_stays rfl) (fun n hn => by
        rw [fs] at hn
        have := (s2 n hn).hi
        omega) (ok_rank Z) Z.g_rank hr Z.b_sorted)) (by rw [fs]))) (by omega) scHeld.nd (blkOk_by (N := nHeld) (sc := defScope S_Post_held) (by decide +kernel)) (fun s H C cl fp n hc => dg_name 4 scHeld.nd) (fun s H C cl fp n hc => dts_nil)
      (fun s H C cl fp n hc _ => dv_tupT (dat_cons (de_var 2 rfl) rfl (dat_cons (de_var 4 rfl) rfl dat_nil)) (by show 2 ≤ 100000; decide))) (by
        rw [List.filter_eq_self.mpr fun _ _ => rfl, List.map_map]
        rfl)) rfl (by rw [List.length_map, List.length_map, List.length_map, sl]; omega) ⟨.im (.int (q.2 : Int)), .im (ltD q.1), ?_⟩)
    show (_ : List DS) = [DS.im (poD b Ls), .ot none (.lst ((cur ++ (sortN q.1.sty).map fun n => (q.2, n)).map pT)), .im (.int (q.2 : Int)), .im (ltD q.1), .no]
    rw [List.map_append]
    rfl
  subst ed
  exact dss_one (ds_retT 1 rfl (.inl rfl))
def gotM (Ls : List Lt) (x : Str) : List Int := (Ls.zipIdx.filter fun q => decide (x ∈ q.1.had)).map fun q => (q.2 : Int)
def aGot (xs : List D) (r : DS) : Prop := ∃ (b : List Ent) (Ls : List Lt) (x : Str), xs = [poD b Ls, .str x] ∧ Nm x ∧ Ls.length ≤ 1000 ∧ r = .own ((gotM Ls x).map .int)
abbrev nGot : List Str := ["self", "person", "number", "letter"]
theorem scGot : FnScope nGot ["self", "person"] (defScope S_Post_got) := ⟨rfl, rfl, rfl, by decide +kernel, rfl, by decide +kernel, by decide +kernel⟩
theorem ok_got {G : Glb} (Z : Facts G) : MethD G 3 "Post" "got" ["self", "person"] aGot := by
  refine ⟨Z.k_Post, Z.m_Post_got, ?_, Z.n_Post_got⟩
  refine okD (N := nGot) Z.f_Post_got scGot (fun xs r ⟨_, _, _, e, _⟩ => by rw [e]; rfl) fun cdv Ar outer s H E hr xs r ⟨b, Ls, x, e, hx, hLs, er⟩ => ?_
  subst e er
  have zl : Ls.zipIdx.length = Ls.length := List.length_zipIdx
  refine dss_cons (ds_expr (dv_c (ok_check_name Z) hr (da_cons (de_var 1 rfl) da_nil) ⟨x, rfl, hx, rfl⟩) ?_)
  refine dss_one (ds_ret (dv_lcP (ev := enE ltD) (xs := Ls.zipIdx) (own := [("number", 2), ("letter", 3)]) (js := [2, 3]) (fun q => [.im (poD b Ls), .im (.str x), .im (.int (q.2 : Int)), .im (ltD q.1)]) (fun q => decide (x ∈ q.1.had)) (fun q => .int (q.2 : Int))
    (enumD_map ltD Ls ▸ di_enum (de_fld (d := .lst (Ls.map ltD)) (de_var 0 rfl) Z.k_Post Z.a_Post_letters rfl) rfl Z.b_enumerate) (by omega) scGot.nd (blkOk_by (N := nGot) (sc := defScope S_Post_got) (by decide +kernel)) (fun s H C cl fp q hc => dg_tup (dgs_cons (dg_name 2 scGot.nd) (dgs_cons (dg_name 3 scGot.nd) dgs_nil)))
    (fun s H C cl fp q hc => dts_one (look_true x q.1.had ▸ dt_inD (kvs := trueD q.1.had) (de_var 1 rfl) (de_fld (de_var 3 rfl) Z.k_Letter Z.a_Letter_had rfl) (u1 hr))) (fun s H C cl fp q hc _ => de_var 2 rfl)) (.inl ?_))
  unfold gotM
  rw [List.map_map]
  rfl
def aPeople (xs : List D) (r : DS) : Prop := ∃ (b : List Ent) (Ls : List Lt) (n : Str), xs = [poD b Ls, .str n] ∧ Nm n ∧ aStands [lsD b, .str n] r
theorem scPeople : FnScope ["self", "name"] ["self", "name"] (defScope S_Post_people) := ⟨rfl, rfl, rfl, by decide +kernel, rfl, by decide +kernel, by decide +kernel⟩
theorem ok_people {G : Glb} (Z : Facts G) : MethD G 7 "Post" "people" ["self", "name"] aPeople := by
  refine ⟨Z.k_Post, Z.m_Post_people, ?_, Z.n_Post_people⟩
  refine okD (N := ["self", "name"]) Z.f_Post_people scPeople (fun xs r ⟨_, _, _, e, _⟩ => by rw [e]; rfl) fun cdv Ar outer s H E hr xs r ⟨b, Ls, n, e, hn, er⟩ => ?_
  subst e
  refine dss_cons (ds_expr (dv_c (ok_check_name Z) hr (da_cons (de_var 1 rfl) da_nil) ⟨n, rfl, hn, rfl⟩) ?_)
  exact dss_one (ds_ret (dv_c (ok_stands_for Z) hr (da_cons (de_fld (de_var 0 rfl) Z.k_Post Z.a_Post_lists rfl) (da_cons (de_var 1 rfl) da_nil)) er) (.inl rfl))

/-! ### reached, by members -/
theorem come_union {b : List Ent} {g : Str → Bool} {ns : List Str} (hb : Bk b) (hn : ns.Nodup) {x : Str} : x ∈ come b g ns ↔ ∃ n ∈ ns, x ∈ come b g [n] := by
  constructor
  · refine come_least (T := fun x => ∃ n ∈ ns, x ∈ come b g [n]) (fun x hx => ⟨x, hx, come_names (List.mem_singleton_self x)⟩) (fun n ⟨m, h1, h2⟩ hl hg y hy => ⟨m, h1, ?_⟩) x
    exact come_closed hb (by simp) h2 hl hg hy
  · rintro ⟨n, h1, h2⟩
    refine come_least (T := fun x => x ∈ come b g ns) (fun y hy => ?_) (fun m hm hl hg y hy => come_closed hb hn hm hl hg hy) x h2
    rw [List.mem_singleton.mp hy]
    exact come_names h1
theorem reached_mem {b : List Ent} {g : Str → Bool} {ns : List Str} (hb : Bk b) (hn : ns.Nodup) {p : Str} : p ∈ reachedM b g ns ↔ (isL b p = false ∧ p ∈ come b (goesM b g p) ns) := by
  unfold reachedM
  rw [(sortN_perm _).mem_iff, List.mem_filter, List.mem_filter, decide_eq_true_eq, Bool.not_eq_true']
  constructor
  · exact fun ⟨⟨_, h⟩, h2⟩ => ⟨h, h2⟩
  · rintro ⟨h, h2⟩
    refine ⟨⟨?_, h⟩, h2⟩
    refine come_least (T := fun x => x ∈ come b g ns) (fun x hx => come_names hx) (fun n hm hl hgn m hmm => ?_) p h2
    unfold goesM at hgn
    exact come_closed hb hn hm hl (Bool.and_eq_true_iff.mp hgn).1 hmm
theorem reached_nd {b : List Ent} {g : Str → Bool} {ns : List Str} (hb : Bk b) (hn : ns.Nodup) : (reachedM b g ns).Nodup := by
  unfold reachedM
  rw [(sortN_perm _).nodup_iff]
  exact ((come_line g hb hn).nd.filter _).filter _
theorem sort_idem (l : List Str) : sortN (sortN l) = sortN l := sortN_eq (sortN_perm l)

/-! ### letters let on: what they keep -/
theorem come_mono {b : List Ent} {g g' : Str → Bool} {ns : List Str} (hb : Bk b) (hn : ns.Nodup) (h : ∀ n, isL b n = true → g n = true → g' n = true) {x : Str} : x ∈ come b g ns → x ∈ come b g' ns :=
  come_least (T := fun x => x ∈ come b g' ns) (fun _ hx => come_names hx) (fun n hm hl hg m hmm => come_closed hb hn hm hl (h n hl hg) hmm) x
theorem goes_is {b : List Ent} {g : Str → Bool} {p n : Str} : goesM b g p n = true ↔ (g n = true ∧ p ∉ leftOf b n) := by
  unfold goesM
  rw [Bool.and_eq_true, Bool.not_eq_true', decide_eq_false_iff_not]
theorem reached_mono {b : List Ent} {g g' : Str → Bool} {ns : List Str} (hb : Bk b) (hn : ns.Nodup) (h : ∀ n, isL b n = true → g n = true → g' n = true) {p : Str} (hp : p ∈ reachedM b g ns) : p ∈ reachedM b g' ns := by
  rw [reached_mem hb hn] at hp ⊢
  exact ⟨hp.1, come_mono hb hn (fun n hl hg => goes_is.mpr ⟨h n hl (goes_is.mp hg).1, (goes_is.mp hg).2⟩) hp.2⟩
theorem held_mem {b : List Ent} {g : Str → Bool} {ns : List Str} {n : Str} : n ∈ heldM b g ns ↔ (n ∈ come b g ns ∧ isL b n = true ∧ g n = false) := by
  unfold heldM
  rw [(sortN_perm _).mem_iff, List.mem_filter, Bool.and_eq_true, Bool.not_eq_true']
theorem stF_mem {drp : List Str} {x : Str} : ∀ {l st : List Str}, x ∈ l.foldl (stF drp) st ↔ (x ∈ st ∨ (x ∈ l ∧ x ∉ drp))
  | [], st => by simp
  | n :: l, st => by
    rw [List.foldl_cons, stF_mem]
    have h : x ∈ stF drp st n ↔ (x ∈ st ∨ (x = n ∧ x ∉ drp)) := by
      unfold stF
      split
      · rename_i q
        exact ⟨.inl, fun z => z.elim id fun z => absurd (z.1 ▸ q) z.2⟩
      · rename_i q
        rw [addK_mem]
        exact ⟨fun z => z.imp id fun z => ⟨z, z ▸ q⟩, fun z => z.imp id fun z => z.1⟩
    rw [h, List.mem_cons]
    constructor
    · rintro ((z | z) | z)
      · exact .inl z
      · exact .inr ⟨.inl z.1, z.2⟩
      · exact .inr ⟨.inr z.1, z.2⟩
    · rintro (z | ⟨z | z, w⟩)
      · exact .inl (.inl z)
      · exact .inl (.inr ⟨z, w⟩)
      · exact .inr ⟨z, w⟩
theorem stF_nd {drp : List Str} : ∀ {l st : List Str}, st.Nodup → (l.foldl (stF drp) st).Nodup
  | [], _, h => h
  | n :: l, st, h => by
    rw [List.foldl_cons]
    refine stF_nd ?_
    unfold stF
    split
    · exact h
    · exact addK_nd h
theorem adds_nd : ∀ {l kn : List Str}, kn.Nodup → (l.foldl addK kn).Nodup
  | [], _, h => h
  | n :: l, kn, h => by
    rw [List.foldl_cons]
    exact adds_nd (addK_nd h)
structure InvL (b : List Ent) (d s : Str) (ns : List Str) (L : Lt) : Prop where
  snd : L.snd = s
  nms : L.nms = ns
  had : ∀ x, x ∈ L.had ↔ x ∈ reachedM b (gL b s L.psd) ns
  hadN : L.had.Nodup
  sty : ∀ n ∈ L.sty, n ∈ heldM b (gL b s L.psd) ns ∧ n ∉ L.drp
  styN : L.sty.Nodup
  cov : ∀ n ∈ heldM b (gL b s L.psd) ns, n ∈ L.sty ∨ n ∈ L.drp
  drp : ∀ n ∈ L.drp, n = d
  psd : ∀ n ∈ L.psd, n ≠ d ∧ n ∈ listsM b
  psdN : L.psd.Nodup
  drpN : L.drp.Nodup
theorem gL_nil (b : List Ent) (s n : Str) : gL b s [] n = gM b s n := by
  unfold gL
  rw [decide_eq_false (by simp), Bool.or_false]
theorem inv_new {b : List Ent} (d s : Str) (ns : List Str) : InvL b d s ns (goL b (lt0 s ns)) := by
  refine ⟨rfl, rfl, fun x => ?_, adds_nd List.nodup_nil, fun n hn => ?_, stF_nd List.nodup_nil, fun n hn => .inl ?_, (fun _ h => by cases h), (fun _ h => by cases h), List.nodup_nil, List.nodup_nil⟩
  · show x ∈ (reachedM b (gL b s []) ns).foldl addK [] ↔ _
    rw [addKs_mem]
    exact ⟨fun z => z.elim (fun z => by cases z) id, .inr⟩
  · have z : n ∈ (heldM b (gL b s []) ns).foldl (stF []) [] := hn
    rw [stF_mem] at z
    exact ⟨z.elim (fun z => by cases z) fun z => z.1, fun y => by cases y⟩
  · show n ∈ (heldM b (gL b s []) ns).foldl (stF []) []
    rw [stF_mem]
    exact .inr ⟨hn, fun y => by cases y⟩
theorem gL_grow {b : List Ent} {s m : Str} {psd : List Str} {n : Str} : gL b s (addK psd m) n = true ↔ (gL b s psd n = true ∨ n = m) := by
  unfold gL
  rw [Bool.or_eq_true, Bool.or_eq_true, decide_eq_true_eq, decide_eq_true_eq, addK_mem, or_assoc]
theorem inv_let {b : List Ent} {d s m : Str} {ns : List Str} {L : Lt} (hb : Bk b) (hn : ns.Nodup) (I : InvL b d s ns L) (hm : m ∈ L.sty) (hd : m ≠ d) : InvL b d s ns (goL b (letL L m)) := by
  have e1 := I.snd
  have e2 := I.nms
  have mono : ∀ n, isL b n = true → gL b s L.psd n = true → gL b s (addK L.psd m) n = true := fun n _ h => gL_grow.mpr (.inl h)
  have hml := (held_mem.mp (I.sty m hm).1).2.1
  refine ⟨e1, e2, fun x => ?_, adds_nd I.hadN, fun n hn' => ?_, stF_nd (I.styN.filter _), fun n hn' => ?_, I.drp, fun n hn' => ?_, addK_nd I.psdN, I.drpN⟩
  · show x ∈ (reachedM b (gL b L.snd (addK L.psd m)) L.nms).foldl addK L.had ↔ x ∈ reachedM b (gL b s (addK L.psd m)) ns
    rw [e1, e2, addKs_mem, I.had]
    exact ⟨fun z => z.elim (reached_mono hb hn mono) id, .inr⟩
  · have z : n ∈ (heldM b (gL b L.snd (addK L.psd m)) L.nms).foldl (stF L.drp) (L.sty.filter fun x => !decide (x = m)) := hn'
    rw [stF_mem, e1, e2] at z
    show n ∈ heldM b (gL b s (addK L.psd m)) ns ∧ n ∉ L.drp
    rcases z with z | z
    · obtain ⟨z1, z2⟩ := List.mem_filter.mp z
      obtain ⟨y1, y2⟩ := I.sty n z1
      obtain ⟨w1, w2, w3⟩ := held_mem.mp y1
      refine ⟨held_mem.mpr ⟨come_mono hb hn mono w1, w2, ?_⟩, y2⟩
      cases q : gL b s (addK L.psd m) n with
      | false => rfl
      | true =>
        rcases gL_grow.mp q with y | y
        · rw [w3] at y; cases y
        · rw [y, decide_eq_true rfl] at z2; cases z2
    · exact z
  · have hn2 : n ∈ heldM b (gL b s (addK L.psd m)) ns := hn'
    show n ∈ (heldM b (gL b L.snd (addK L.psd m)) L.nms).foldl (stF L.drp) (L.sty.filter fun x => !decide (x = m)) ∨ n ∈ L.drp
    rw [stF_mem, e1, e2]
    by_cases q : n ∈ L.drp
    · exact .inr q
    · exact .inl (.inr ⟨hn2, q⟩)
  · have z : n ∈ addK L.psd m := hn'
    rcases addK_mem.mp z with y | y
    · exact I.psd n y
    · rw [y]; exact ⟨hd, isL_iff.mp hml⟩
theorem inv_drop {b : List Ent} {d s : Str} {ns : List Str} {L : Lt} (I : InvL b d s ns L) : InvL b d s ns (drpL L d) := by
  refine ⟨I.snd, I.nms, I.had, I.hadN, fun n hn => ?_, I.styN.filter _, fun n hn => ?_, fun n hn => ?_, I.psd, I.psdN, addK_nd I.drpN⟩
  · obtain ⟨z1, z2⟩ := List.mem_filter.mp (show n ∈ L.sty.filter fun x => !decide (x = d) from hn)
    have nd : n ≠ d := by simpa using z2
    refine ⟨(I.sty n z1).1, fun y => ?_⟩
    rcases addK_mem.mp (show n ∈ addK L.drp d from y) with w | w
    · exact (I.sty n z1).2 w
    · exact nd w
  · show n ∈ L.sty.filter (fun x => !decide (x = d)) ∨ n ∈ addK L.drp d
    rcases I.cov n hn with z | z
    · by_cases q : n = d
      · exact .inr (addK_mem.mpr (.inr q))
      · exact .inl (List.mem_filter.mpr ⟨z, by rw [decide_eq_false q]; rfl⟩)
    · exact .inr (addK_mem.mpr (.inl z))
  · rcases addK_mem.mp (show n ∈ addK L.drp d from hn) with z | z
    · exact I.drp n z
    · exact z
theorem inv_had_len {b : List Ent} {d s : Str} {ns : List Str} {L : Lt} (hb : Bk b) (hn : ns.Nodup) (I : InvL b d s ns L) : L.had.length ≤ (uni b ns).length ∧ L.sty.length ≤ (uni b ns).length ∧ L.psd.length ≤ b.length ∧ L.drp.length ≤ 1 := by
  refine ⟨nd_sub_len I.hadN fun x hx => ?_, nd_sub_len I.styN fun x hx => ?_, ?_, ?_⟩
  · have h := ((reached_mem hb hn).mp ((I.had x).mp hx)).2
    exact (come_line _ hb hn).sub x h
  · exact (come_line _ hb hn).sub x (held_mem.mp (I.sty x hx).1).1
  · have := nd_sub_len I.psdN (m := listsM b) fun x hx => (I.psd x hx).2
    unfold listsM at this
    rwa [List.length_map] at this
  · have := nd_sub_len I.drpN (m := [d]) fun x hx => by rw [I.drp x hx]; exact List.mem_singleton_self _
    exact this
/-! with nothing held any more -/
def passD (b : List Ent) (s d : Str) : List Str := (listsM b).filter fun n => !decide (n = d) || decide (n ∈ lawPassM b s)
theorem passD_mem {b : List Ent} {s d n : Str} : n ∈ passD b s d ↔ (n ∈ listsM b ∧ (n ≠ d ∨ n ∈ lawPassM b s)) := by
  unfold passD
  rw [List.mem_filter, Bool.or_eq_true, Bool.not_eq_true', decide_eq_false_iff_not, decide_eq_true_eq]
theorem inv_done {b : List Ent} {d s : Str} {ns : List Str} {L : Lt} (hb : Bk b) (hn : ns.Nodup) (I : InvL b d s ns L) (h0 : L.sty = []) (x : Str) : x ∈ L.had ↔ x ∈ lawReachedM b ns (passD b s d) := by
  rw [I.had, ← reached_eq (b := b) (g := fun m => decide (m ∈ passD b s d)) (ns := ns) (P := passD b s d) hb hn fun m _ => decide_eq_true_iff]
  constructor
  · refine reached_mono hb hn fun n hl hg => ?_
    have hln := isL_iff.mp hl
    rw [decide_eq_true_eq, passD_mem]
    refine ⟨hln, ?_⟩
    unfold gL at hg
    rcases Bool.or_eq_true_iff.mp hg with z | z
    · exact .inr ((gM_pass hb s n hl).mp z)
    · exact .inl (I.psd n (of_decide_eq_true z)).1
  · intro hp
    rw [reached_mem hb hn] at hp ⊢
    refine ⟨hp.1, ?_⟩
    refine come_least (T := fun y => y ∈ come b (goesM b (gL b s L.psd) x) ns) (fun _ hx => come_names hx) (fun n hm hl hg m hmm => ?_) x hp.2
    obtain ⟨g1, g2⟩ := goes_is.mp hg
    rw [decide_eq_true_eq, passD_mem] at g1
    refine come_closed hb hn hm hl (goes_is.mpr ⟨?_, g2⟩) hmm
    cases q : gL b s L.psd n with
    | true => rfl
    | false =>
      have hc : n ∈ come b (gL b s L.psd) ns := come_mono hb hn (fun k _ hk => (goes_is.mp hk).1) hm
      rcases I.cov n (held_mem.mpr ⟨hc, hl, q⟩) with z | z
      · rw [h0] at z; cases z
      · have nd := I.drp n z
        have y := (gM_pass hb s n hl).mpr (g1.2.resolve_left fun w => w nd)
        unfold gL at q
        rw [y] at q
        cases q

/-! ### all letters of a post, let on in some turn -/
theorem mem_pairs {Ls : List Lt} {q : Nat × Str} : q ∈ pairsM Ls ↔ ∃ L, Ls[q.1]? = some L ∧ q.2 ∈ L.sty := by
  unfold pairsM pairsU
  rw [List.mem_flatMap]
  constructor
  · rintro ⟨p, h1, h2⟩
    obtain ⟨n, h3, rfl⟩ := List.mem_map.mp h2
    obtain ⟨i, hi⟩ := List.mem_iff_getElem?.mp h1
    obtain ⟨e1, e2⟩ := zi_get hi
    exact ⟨p.1, by rw [show (p.2, n).1 = p.2 from rfl, e1]; exact e2, (sortN_perm _).mem_iff.mp h3⟩
  · rintro ⟨L, h1, h2⟩
    refine ⟨(L, q.1), List.mem_iff_getElem?.mpr ⟨q.1, ?_⟩, List.mem_map.mpr ⟨q.2, (sortN_perm _).mem_iff.mpr h2, rfl⟩⟩
    rw [List.getElem?_zipIdx, h1]
    simp
abbrev Rw := Str × List Str
structure InvS (b : List Ent) (d : Str) (rows : List Rw) (Ls : List Lt) : Prop where
  len : Ls.length = rows.length
  at_ : ∀ (i : Nat) (L : Lt) (r : Rw), Ls[i]? = some L → rows[i]? = some r → InvL b d r.1 r.2 L
def stepL (b : List Ent) (d : Str) (L : Lt) (m : Str) : Lt := if m = d then drpL L m else goL b (letL L m)
def turnM (b : List Ent) (d : Str) (Ls : List Lt) (q : Nat × Str) : List Lt := match Ls[q.1]? with
  | some L => Ls.set q.1 (stepL b d L q.2)
  | none => Ls
theorem inv_step {b : List Ent} {d s m : Str} {ns : List Str} {L : Lt} (hb : Bk b) (hn : ns.Nodup) (I : InvL b d s ns L) (hm : m ∈ L.sty) : InvL b d s ns (stepL b d L m) := by
  unfold stepL
  split
  · rename_i h
    subst h
    exact inv_drop I
  · rename_i h
    exact inv_let hb hn I hm h
theorem step_keep {b : List Ent} {d m : Str} {L : Lt} : (∀ n ∈ L.psd, n ∈ (stepL b d L m).psd) ∧ (∀ n ∈ L.drp, n ∈ (stepL b d L m).drp) ∧ (m ∈ (stepL b d L m).psd ∨ m ∈ (stepL b d L m).drp) ∧ ∀ x ∈ L.had, x ∈ (stepL b d L m).had := by
  unfold stepL
  split
  · exact ⟨fun n h => h, fun n h => addK_mem.mpr (.inl h), .inr (addK_mem.mpr (.inr rfl)), fun x h => h⟩
  · refine ⟨fun n h => addK_mem.mpr (.inl h), fun n h => h, .inl (addK_mem.mpr (.inr rfl)), fun x h => ?_⟩
    show x ∈ (reachedM b _ _).foldl addK L.had
    exact addKs_mem.mpr (.inl h)
theorem turn_at {b : List Ent} {d : Str} {Ls : List Lt} {q : Nat × Str} {L : Lt} (h : Ls[q.1]? = some L) : turnM b d Ls q = Ls.set q.1 (stepL b d L q.2) := by
  unfold turnM
  rw [h]
theorem turn_get {b : List Ent} {d : Str} {Ls : List Lt} {q : Nat × Str} {L : Lt} (h : Ls[q.1]? = some L) {i : Nat} {K : Lt} (hi : Ls[i]? = some K) : ∃ K', (turnM b d Ls q)[i]? = some K' ∧ (K' = K ∨ (i = q.1 ∧ K' = stepL b d K q.2)) := by
  rw [turn_at h]
  by_cases e : q.1 = i
  · subst e
    rw [h] at hi
    cases hi
    exact ⟨_, List.getElem?_set_self (List.getElem?_eq_some_iff.mp h).1, .inr ⟨rfl, rfl⟩⟩
  · exact ⟨K, by rw [List.getElem?_set_ne e]; exact hi, .inl rfl⟩
theorem inv_turn {b : List Ent} {d : Str} {rows : List Rw} {Ls : List Lt} {q : Nat × Str} (hb : Bk b) (hr : ∀ r ∈ rows, r.2.Nodup) (S : InvS b d rows Ls) (hq : q ∈ pairsM Ls) : InvS b d rows (turnM b d Ls q) := by
  obtain ⟨L, h1, h2⟩ := mem_pairs.mp hq
  refine ⟨by rw [turn_at h1, List.length_set]; exact S.len, fun i K r hi hr' => ?_⟩
  have hil : i < Ls.length := by
    have := (List.getElem?_eq_some_iff.mp hi).1
    rwa [turn_at h1, List.length_set] at this
  obtain ⟨K', k1, k2⟩ := turn_get (b := b) (d := d) h1 (List.getElem?_eq_getElem hil)
  rw [k1] at hi
  cases hi
  have I := S.at_ i _ r (List.getElem?_eq_getElem hil) hr'
  rcases k2 with rfl | ⟨rfl, rfl⟩
  · exact I
  · have e : Ls[q.1] = L := by
      rw [List.getElem?_eq_getElem hil] at h1
      exact Option.some.inj h1
    exact inv_step hb (hr r (List.mem_of_getElem? hr')) I (by rw [e]; exact h2)
structure Gone (b : List Ent) (rows : List Rw) (Ls : List Lt) (gone : List (Nat × Str)) : Prop where
  ok : ∀ q ∈ gone, ∃ L, Ls[q.1]? = some L ∧ (q.2 ∈ L.psd ∨ q.2 ∈ L.drp)
  nd : gone.Nodup
  lst : ∀ q ∈ gone, q.1 < rows.length ∧ q.2 ∈ listsM b
theorem gone_not {b : List Ent} {d : Str} {rows : List Rw} {Ls : List Lt} {gone : List (Nat × Str)} (S : InvS b d rows Ls) (Gn : Gone b rows Ls gone) {q : Nat × Str} (hq : q ∈ pairsM Ls) : q ∉ gone := fun hg => by
  obtain ⟨L, h1, h2⟩ := mem_pairs.mp hq
  obtain ⟨K, k1, k2⟩ := Gn.ok q hg
  rw [h1] at k1
  cases k1
  have hl := (Gn.lst q hg).1
  have I := S.at_ q.1 L _ h1 (List.getElem?_eq_getElem hl)
  obtain ⟨y1, y2⟩ := I.sty _ h2
  rcases k2 with z | z
  · have w := (held_mem.mp y1).2.2
    unfold gL at w
    rw [decide_eq_true z, Bool.or_true] at w
    cases w
  · exact y2 z
theorem gone_turn {b : List Ent} {d : Str} {rows : List Rw} {Ls : List Lt} {gone : List (Nat × Str)} (S : InvS b d rows Ls) (Gn : Gone b rows Ls gone) {q : Nat × Str} (hq : q ∈ pairsM Ls) : Gone b rows (turnM b d Ls q) (gone ++ [q]) := by
  obtain ⟨L, h1, h2⟩ := mem_pairs.mp hq
  have hl : q.1 < rows.length := by rw [← S.len]; exact (List.getElem?_eq_some_iff.mp h1).1
  refine ⟨fun p hp => ?_, ?_, fun p hp => ?_⟩
  · rcases List.mem_append.mp hp with z | z
    · obtain ⟨K, k1, k2⟩ := Gn.ok p z
      obtain ⟨K', c1, c2⟩ := turn_get (b := b) (d := d) h1 k1
      refine ⟨K', c1, ?_⟩
      rcases c2 with rfl | ⟨_, rfl⟩
      · exact k2
      · obtain ⟨s1, s2, _, _⟩ := step_keep (b := b) (d := d) (m := q.2) (L := K)
        exact k2.imp (s1 _) (s2 _)
    · rw [List.mem_singleton.mp z]
      refine ⟨stepL b d L q.2, by rw [turn_at h1]; exact List.getElem?_set_self (List.getElem?_eq_some_iff.mp h1).1, (step_keep (b := b) (d := d) (m := q.2) (L := L)).2.2.1⟩
  · refine List.nodup_append.mpr ⟨Gn.nd, by simp, fun x hx y hy e => ?_⟩
    rw [List.mem_singleton.mp hy] at e
    exact gone_not S Gn hq (e ▸ hx)
  · rcases List.mem_append.mp hp with z | z
    · exact Gn.lst p z
    · rw [List.mem_singleton.mp z]
      have I := S.at_ q.1 L _ h1 (List.getElem?_eq_getElem hl)
      exact ⟨hl, isL_iff.mp (held_mem.mp (I.sty _ h2).1).2.1⟩
theorem gone_len {b : List Ent} {rows : List Rw} {Ls : List Lt} {gone : List (Nat × Str)} (Gn : Gone b rows Ls gone) : gone.length ≤ rows.length * b.length := by
  have h := nd_sub_len Gn.nd (m := (List.range rows.length).flatMap fun k => (listsM b).map fun n => (k, n)) fun q hq => by
    obtain ⟨h1, h2⟩ := Gn.lst q hq
    exact List.mem_flatMap.mpr ⟨q.1, List.mem_range.mpr h1, List.mem_map.mpr ⟨q.2, h2, rfl⟩⟩
  have e : ∀ n : Nat, ((List.range n).flatMap fun k => (listsM b).map fun m => (k, m)).length = n * b.length := fun n => by
    induction n with
    | zero => simp
    | succ n ih =>
      rw [List.range_succ, List.flatMap_append, List.length_append, ih, List.flatMap_cons, List.flatMap_nil, List.append_nil, List.length_map, Nat.succ_mul]
      unfold listsM
      rw [List.length_map]
  rwa [e] at h
def pickM (cell : Int) (t : Nat) (h : List (Nat × Str)) : Nat × Str := h.getD (draw (cell + 31 * (t : Int)) (t : Int) 1000 % (h.length : Int)).toNat (0, Str.empty)
def runM (b : List Ent) (d : Str) (cell : Int) : Nat → Nat → List Lt → List Lt
  | 0, _, Ls => Ls
  | f + 1, t, Ls => if pairsM Ls = [] then Ls else runM b d cell f (t + 1) (turnM b d Ls (pickM cell t (pairsM Ls)))
theorem pick_in {cell : Int} {t : Nat} {h : List (Nat × Str)} (hn : h ≠ []) : pickM cell t h ∈ h ∧ h[(draw (cell + 31 * (t : Int)) (t : Int) 1000 % (h.length : Int)).toNat]? = some (pickM cell t h) := by
  have hl : 0 < h.length := List.length_pos_iff.mpr hn
  have p1 := Int.emod_nonneg (draw (cell + 31 * (t : Int)) (t : Int) 1000) (b := (h.length : Int)) (by omega)
  have p2 := Int.emod_lt_of_pos (draw (cell + 31 * (t : Int)) (t : Int) 1000) (b := (h.length : Int)) (by omega)
  have hi : (draw (cell + 31 * (t : Int)) (t : Int) 1000 % (h.length : Int)).toNat < h.length := by omega
  unfold pickM
  rw [List.getD_eq_getElem?_getD, List.getElem?_eq_getElem hi]
  exact ⟨List.getElem_mem _, rfl⟩
theorem run_ok {b : List Ent} {d : Str} {rows : List Rw} {cell : Int} (hb : Bk b) (hr : ∀ r ∈ rows, r.2.Nodup) : ∀ (f t : Nat) (Ls : List Lt) (gone : List (Nat × Str)), InvS b d rows Ls → Gone b rows Ls gone → rows.length * b.length ≤ f + gone.length → InvS b d rows (runM b d cell f t Ls) ∧ pairsM (runM b d cell f t Ls) = []
  | 0, t, Ls, gone, S, Gn, hf => by
    refine ⟨S, Decidable.byContradiction fun hne => ?_⟩
    obtain ⟨q, hq⟩ := List.exists_mem_of_ne_nil _ hne
    have := gone_len (gone_turn S Gn hq)
    rw [List.length_append, List.length_singleton] at this
    omega
  | f + 1, t, Ls, gone, S, Gn, hf => by
    rw [runM]
    split
    · rename_i h
      exact ⟨S, h⟩
    · rename_i h
      have hq := (pick_in (cell := cell) (t := t) h).1
      exact run_ok hb hr f (t + 1) _ _ (inv_turn hb hr S hq) (gone_turn S Gn hq) (by rw [List.length_append, List.length_singleton]; omega)
/-! what is got -/
theorem got_mem {Ls : List Lt} {x : Str} {i : Int} : i ∈ gotM Ls x ↔ ∃ (k : Nat) (L : Lt), i = (k : Int) ∧ Ls[k]? = some L ∧ x ∈ L.had := by
  unfold gotM
  rw [List.mem_map]
  constructor
  · rintro ⟨q, h1, h2⟩
    obtain ⟨h3, h4⟩ := List.mem_filter.mp h1
    obtain ⟨k, hk⟩ := List.mem_iff_getElem?.mp h3
    obtain ⟨e1, e2⟩ := zi_get hk
    exact ⟨k, q.1, by rw [← h2, e1], e2, of_decide_eq_true h4⟩
  · rintro ⟨k, L, h1, h2, h3⟩
    refine ⟨(L, k), List.mem_filter.mpr ⟨List.mem_iff_getElem?.mpr ⟨k, ?_⟩, decide_eq_true h3⟩, h1.symm⟩
    rw [List.getElem?_zipIdx, h2]
    simp
theorem got_turn {b : List Ent} {d : Str} {Ls : List Lt} {q : Nat × Str} (hq : q ∈ pairsM Ls) (x : Str) : ∀ i ∈ gotM Ls x, i ∈ gotM (turnM b d Ls q) x := fun i hi => by
  obtain ⟨L, h1, h2⟩ := mem_pairs.mp hq
  obtain ⟨k, K, e, k1, k2⟩ := got_mem.mp hi
  obtain ⟨K', c1, c2⟩ := turn_get (b := b) (d := d) h1 k1
  refine got_mem.mpr ⟨k, K', e, c1, ?_⟩
  rcases c2 with rfl | ⟨_, rfl⟩
  · exact k2
  · exact (step_keep (b := b) (d := d) (m := q.2) (L := K)).2.2.2 x k2
theorem filt_zip {α β : Type} {p : α → Bool} {r : β → Bool} : ∀ {l : List α} {m : List β} (n : Nat), l.length = m.length → (∀ (i : Nat) (a : α) (c : β), l[i]? = some a → m[i]? = some c → p a = r c) → ((l.zipIdx n).filter fun q => p q.1).map (fun q => (q.2 : Int)) = ((m.zipIdx n).filter fun q => r q.1).map (fun q => (q.2 : Int))
  | [], [], _, _, _ => rfl
  | [], _ :: _, _, h, _ => by cases h
  | _ :: _, [], _, h, _ => by cases h
  | a :: l, c :: m, n, h, e => by
    have e0 := e 0 a c rfl rfl
    have ih := filt_zip (n + 1) (Nat.succ.inj h) fun i x y hx hy => e (i + 1) x y (by simpa using hx) (by simpa using hy)
    rw [List.zipIdx_cons, List.zipIdx_cons, List.filter_cons, List.filter_cons]
    show (if p a = true then _ else _ : List (α × Nat)).map _ = (if r c = true then _ else _ : List (β × Nat)).map _
    rw [e0]
    split
    · rw [List.map_cons, List.map_cons, ih]
    · exact ih
def dueM (b : List Ent) (rows : List Rw) (x d : Str) : List Int := (rows.zipIdx.filter fun q => decide (x ∈ lawReachedM b q.1.2 (passD b q.1.1 d))).map fun q => (q.2 : Int)
theorem done_got {b : List Ent} {d : Str} {rows : List Rw} {Ls : List Lt} (hb : Bk b) (hr : ∀ r ∈ rows, r.2.Nodup) (S : InvS b d rows Ls) (h0 : pairsM Ls = []) (x : Str) : gotM Ls x = dueM b rows x d := by
  unfold gotM dueM
  refine filt_zip (p := fun L : Lt => decide (x ∈ L.had)) (r := fun r : Rw => decide (x ∈ lawReachedM b r.2 (passD b r.1 d))) 0 S.len fun i L r hL hrw => ?_
  have I := S.at_ i L r hL hrw
  have hs : L.sty = [] := by
    cases e : L.sty with
    | nil => rfl
    | cons n l =>
      have : (i, n) ∈ pairsM Ls := mem_pairs.mpr ⟨L, hL, by rw [e]; exact List.mem_cons_self⟩
      rw [h0] at this
      cases this
  exact decide_eq_decide.mpr (inv_done hb (hr r (List.mem_of_getElem? hrw)) I hs x)
/-! for whom names stand -/
def meantM (b : List Ent) (rows : List Rw) (x : Str) : List Int := (rows.zipIdx.filter fun q => q.1.2.any fun n => decide (x ∈ reachedM b (fun _ => true) [n])).map fun q => (q.2 : Int)
theorem due_meant {b : List Ent} {rows : List Rw} {x : Str} (hb : Bk b) (hr : ∀ r ∈ rows, r.2.Nodup) : dueM b rows x Str.empty = meantM b rows x := by
  unfold dueM meantM
  refine filt_zip (p := fun r : Rw => decide (x ∈ lawReachedM b r.2 (passD b r.1 Str.empty))) (r := fun r : Rw => r.2.any fun n => decide (x ∈ reachedM b (fun _ => true) [n])) 0 rfl fun i r r' h1 h2 => ?_
  rw [h1] at h2
  cases h2
  have hn := hr r (List.mem_of_getElem? h1)
  have e : lawReachedM b r.2 (passD b r.1 Str.empty) = reachedM b (fun _ => true) r.2 := by
    refine (reached_eq (b := b) (g := fun _ => true) (ns := r.2) (P := passD b r.1 Str.empty) hb hn fun n hl => ⟨fun _ => ?_, fun _ => rfl⟩).symm
    have hln := isL_iff.mp hl
    refine passD_mem.mpr ⟨hln, .inl fun z => ?_⟩
    obtain ⟨en, he, hen⟩ := List.mem_map.mp hln
    have := (hb.ok en he).nm.lo
    rw [hen, z] at this
    exact absurd this (by decide)
  rw [e, Bool.eq_iff_iff, decide_eq_true_eq, List.any_eq_true, reached_mem hb hn]
  constructor
  · rintro ⟨h1, h2⟩
    obtain ⟨n, h3, h4⟩ := (come_union hb hn).mp h2
    exact ⟨n, h3, decide_eq_true ((reached_mem hb (by simp)).mpr ⟨h1, h4⟩)⟩
  · rintro ⟨n, h3, h4⟩
    obtain ⟨h5, h6⟩ := (reached_mem hb (by simp)).mp (of_decide_eq_true h4)
    exact ⟨h5, (come_union hb hn).mpr ⟨n, h3, h6⟩⟩

/-! ### the law's posts -/
def rwD (r : Rw) : D := .tup [.str r.1, .lst (r.2.map .str)]
structure RowOk (b : List Ent) (r : Rw) : Prop where
  snd : Nm r.1
  nms : Ns r.2
  uni : (uni b r.2).length ≤ 100
def postM (b : List Ent) (rows : List Rw) : List Lt := rows.map fun r => goL b (lt0 r.1 r.2)
def aPosted (xs : List D) (r : DS) : Prop := ∃ (b : List Ent) (rows : List Rw), xs = [bkD b, .lst (rows.map rwD)] ∧ Bk b ∧ (b.flatMap Ent.mem).length ≤ 80000 ∧ rows.length ≤ 100 ∧ (∀ q ∈ rows, RowOk b q) ∧ r = .ot none (poT b (postM b rows))
abbrev nPosted : List Str := ["_law_book_here", "_law_rows", "_law_post", "_law_sender", "_law_some_here"]
theorem scPosted : FnScope nPosted ["_law_book_here", "_law_rows"] (defScope S_law_posted) := ⟨rfl, rfl, rfl, by decide +kernel, rfl, by decide +kernel, by decide +kernel⟩
theorem ok_posted {G : Glb} (Z : Facts G) : CallD G 10 "_law_posted" ["_law_book_here", "_law_rows"] false aPosted := by
  refine ⟨?_, Z.g_law_posted, Z.n_law_posted, Z.f_law_posted.kp⟩
  refine okD (N := nPosted) Z.f_law_posted scPosted (fun xs r ⟨_, _, e, _⟩ => by rw [e]; rfl) fun cdv Ar outer s H E hr xs r ⟨b, rows, e, hb, hU, hl, hrw, er⟩ => ?_
  subst e er
  have ble := hb.le
  refine dss_cons (ds_set 2 (dv_mk (mk_post Z) hr (da_cons (de_own (dv_c (ok_copy Z) hr (da_cons (de_var 0 rfl) da_nil) ⟨b, rfl, ble, rfl⟩)) da_nil) ⟨b, rfl, hb, rfl⟩) ?_ scPosted.nd)
  refine dss_pin 2 rfl rfl fun p => ?_
  refine dss_tellAt 2 [0] rfl (show (poI (lsT b) []).get [0] = some (lsT b) from rfl) ?_
  have e1 : (poI (lsT b) []).put [0] (.im (lsT b).fz) = poT b [] := by
    show OT.ins "Post" [("lists", .im (lsT b).fz), ("letters", .lst [])] = _
    rw [lsT_fz]
    rfl
  rw [e1]
  refine dss_cons (ds_forE (e := rwD) (xs := rows) [3, 4] (fun i => [.im (bkD b), .im (.lst (rows.map rwD)), .ot (some p) (poT b (postM b (rows.take i))), .no, .no]) (fun r ds1 => (ds1.set 3 (.im (.str r.1))).set 4 (.im (.lst (r.2.map .str)))) rfl (di_list (de_var 1 rfl)) (fun r _ ds1 => dg_tup (dgs_cons (dg_name 3 scPosted.nd) (dgs_cons (dg_name 4 scPosted.nd) dgs_nil))) (fun i r hi => ?_) ?_ PassesOwn.never)
  · have ho := hrw r (List.mem_of_getElem? hi)
    have hu := ho.uni
    have ml : (postM b (rows.take i)).length ≤ 1000 := by
      unfold postM
      rw [List.length_map, List.length_take]
      omega
    refine dss_one (ds_exprM (dm_meth 2 (ok_send Z) hr rfl (da_cons (de_var 3 rfl) (da_cons (de_own (dv_list (de_var 4 rfl) rfl Z.b_list)) da_nil)) ⟨b, postM b (rows.take i), r.1, r.2, rfl, rfl, hb, ho.snd, ho.nms, by omega, hU, ml, rfl, rfl⟩) ?_)
    show _ = _
    have es : postM b (rows.take (i + 1)) = postM b (rows.take i) ++ [goL b (lt0 r.1 r.2)] := by
      unfold postM
      rw [take_snoc hi, List.map_append]
      rfl
    rw [es]
    rfl
  · rw [List.take_length]
    exact dss_one (ds_retU 2 rfl (.inl rfl))
/-! whom letters are to reach -/
def aDueL (xs : List D) (r : DS) : Prop := ∃ (b : List Ent) (rows : List Rw) (x d : Str), xs = [bkD b, .lst (rows.map rwD), .str x, .str d] ∧ Bk b ∧ (b.flatMap Ent.mem).length ≤ 80000 ∧ rows.length ≤ 100 ∧ (∀ q ∈ rows, RowOk b q) ∧ r = .im (.lst ((dueM b rows x d).map .int))
abbrev qDueL : List Str := ["_law_book_here", "_law_rows", "_law_name", "_law_dropped"]
abbrev nDueL : List Str := ["_law_book_here", "_law_rows", "_law_name", "_law_dropped", "_law_found", "_law_number", "_law_row", "_law_passed_here", "_law_one"]
theorem scDueL : FnScope nDueL qDueL (defScope S_law_due) := ⟨rfl, rfl, rfl, by decide +kernel, rfl, by decide +kernel, by decide +kernel⟩
theorem ok_duel {G : Glb} (Z : Facts G) : CallD G 6 "_law_due" qDueL false aDueL := by
  refine ⟨?_, Z.g_law_due, Z.n_law_due, Z.f_law_due.kp⟩
  refine okD (N := nDueL) Z.f_law_due scDueL (fun xs r ⟨_, _, _, _, e, _⟩ => by rw [e]; rfl) fun cdv Ar outer s H E hr xs r ⟨b, rows, x, d, e, hb, hU, hl, hrw, er⟩ => ?_
  subst e er
  have ble := hb.le
  have zl : rows.zipIdx.length = rows.length := List.length_zipIdx
  obtain ⟨dU, hdU⟩ : ∃ dU : List (Rw × Nat) → List Int, ∀ l, dU l = (l.filter fun q => decide (x ∈ lawReachedM b q.1.2 (passD b q.1.1 d))).map fun q => (q.2 : Int) := ⟨_, fun _ => rfl⟩
  have d0 : dU [] = [] := by rw [hdU]; rfl
  have dl : ∀ l, (dU l).length ≤ l.length := fun l => by rw [hdU, List.length_map]; exact List.length_filter_le _ _
  have dz : dueM b rows x d = dU rows.zipIdx := by rw [hdU]; rfl
  rw [dz]
  refine dss_cons (ds_set 4 (dv_lst da_nil (by decide)) ?_ scDueL.nd)
  refine dss_cons (ds_forE (e := enE rwD) (xs := rows.zipIdx) [5, 6, 7, 8] (fun i => [.im (bkD b), .im (.lst (rows.map rwD)), .im (.str x), .im (.str d), .own ((dU (rows.zipIdx.take i)).map .int), .no, .no, .no, .no]) (fun q ds1 => (ds1.set 5 (.im (.int (q.2 : Int)))).set 6 (.im (rwD q.1))) (by rw [List.take_zero, d0]; rfl)
    (enumD_map rwD rows ▸ di_enum (de_var 1 rfl) rfl Z.b_enumerate) (fun q _ ds1 => dg_tup (dgs_cons (dg_name 5 scDueL.nd) (dgs_cons (dg_name 6 scDueL.nd) dgs_nil))) (fun i q hi => ?_) ?_ PassesOwn.never)
  · have ho := hrw _ (zi_mem (List.mem_of_getElem? hi))
    have es : dU (rows.zipIdx.take (i + 1)) = dU (rows.zipIdx.take i) ++ if decide (x ∈ lawReachedM b q.1.2 (passD b q.1.1 d)) = true then [(q.2 : Int)] else [] := by
      rw [hdU, hdU, take_snoc hi, List.filter_append, List.map_append, List.filter_cons]
      split <;> rfl
    have al := dl (rows.zipIdx.take i)
    rw [List.length_take] at al
    rw [es]
    generalize dU (rows.zipIdx.take i) = cur at al
    obtain ⟨⟨se, ns⟩, k⟩ := q
    have hns := ho.nms
    have hu : (uni b ns).length ≤ 100 := ho.uni
    have hs := uni_short hb hns.nm
    have hlb : (listsM b).length ≤ 900 := by unfold listsM; rw [List.length_map]; exact ble
    refine dss_cons (ds_setLcP 7 (ev := D.str) (xs := listsM b) (own := [("_law_one", 8)]) (js := [8]) (fun n => [.im (bkD b), .im (.lst (rows.map rwD)), .im (.str x), .im (.str d), .own (cur.map .int), .im (.int (k : Int)), .im (rwD (se, ns)), .no, .im (.str n)]) (fun n => !decide (n = d) || decide (n ∈ lawPassM b se)) D.str
      (di_list (de_own (dv_c (ok_lawlists Z) hr (da_cons (de_var 0 rfl) da_nil) ⟨b, rfl, ble, rfl⟩))) (by omega) scDueL.nd (blkOk_by (N := nDueL) (sc := defScope S_law_due) (by decide +kernel)) (fun s H C cl fp n hc => dg_name 8 scDueL.nd)
      (fun s H C cl fp n hc => dts_one (dt_w (dw_or (dt_neS (de_var 8 rfl) (de_var 3 rfl)) fun _ => dw_or1 (dt_inS (de_var 8 rfl) (de_own (dv_c (ok_lawpassed Z) hr (da_cons (de_var 0 rfl) (da_cons (de_ixT (de_var 6 rfl) de_int rfl) da_nil)) ⟨b, se, rfl, hb, hU, rfl⟩)))))) (fun s H C cl fp n hc _ => de_var 8 rfl) ?_)
    refine dss_freeze 7 rfl rfl ?_
    have q8 : ∃ q, q = passD b se d := ⟨_, rfl⟩
    obtain ⟨P, hP⟩ := q8
    show DSs _ _ _ _ _ [.im (bkD b), .im (.lst (rows.map rwD)), .im (.str x), .im (.str d), .own (cur.map .int), .im (.int (k : Int)), .im (rwD (se, ns)), .im (.lst ((passD b se d).map .str)), .no] _
    rw [← hP]
    refine dss_one (ds_if (dt_inS (de_var 2 rfl) (de_own (dv_c (ok_lawreached Z) hr (da_cons (de_var 0 rfl) (da_cons (de_ixT (de_var 6 rfl) de_int rfl) (da_cons (de_var 7 rfl) da_nil))) ⟨b, ns, P, rfl, hb, hns.nd, by omega, hs, rfl⟩))) (fun hc => ?_) (fun hc => ?_))
    · rw [if_pos (by subst hP; exact hc)]
      refine dss_one (ds_append 4 rfl (de_var 5 rfl) (by rw [List.length_map]; omega) ?_)
      show _ = _
      rw [List.map_append]
      rfl
    · rw [if_neg (by subst hP; intro z; exact Bool.false_ne_true (hc.symm.trans z)), List.append_nil]
      exact dss_nil rfl
  · rw [show rows.zipIdx.take rows.zipIdx.length = rows.zipIdx from List.take_length]
    exact dss_one (ds_retOwn 4 rfl (.inr rfl))
def aMeant (xs : List D) (r : DS) : Prop := ∃ (b : List Ent) (Ls : List Lt) (rows : List Rw) (x : Str), xs = [poD b Ls, .lst (rows.map rwD), .str x] ∧ Bk b ∧ (b.flatMap Ent.mem).length ≤ 80000 ∧ rows.length ≤ 100 ∧ (∀ q ∈ rows, RowOk b q) ∧ r = .own ((meantM b rows x).map .int)
abbrev qMeant : List Str := ["_law_post", "_law_rows", "_law_name"]
abbrev nMeant : List Str := ["_law_post", "_law_rows", "_law_name", "_law_found", "_law_number", "_law_row", "_law_one"]
theorem scMeant : FnScope nMeant qMeant (defScope S_law_meant) := ⟨rfl, rfl, rfl, by decide +kernel, rfl, by decide +kernel, by decide +kernel⟩
theorem ok_meant {G : Glb} (Z : Facts G) : CallD G 8 "_law_meant" qMeant false aMeant := by
  refine ⟨?_, Z.g_law_meant, Z.n_law_meant, Z.f_law_meant.kp⟩
  refine okD (N := nMeant) Z.f_law_meant scMeant (fun xs r ⟨_, _, _, _, e, _⟩ => by rw [e]; rfl) fun cdv Ar outer s H E hr xs r ⟨b, Ls, rows, x, e, hb, hU, hl, hrw, er⟩ => ?_
  subst e er
  have zl : rows.zipIdx.length = rows.length := List.length_zipIdx
  obtain ⟨dU, hdU⟩ : ∃ dU : List (Rw × Nat) → List Int, ∀ l, dU l = (l.filter fun q => q.1.2.any fun n => decide (x ∈ reachedM b (fun _ => true) [n])).map fun q => (q.2 : Int) := ⟨_, fun _ => rfl⟩
  have d0 : dU [] = [] := by rw [hdU]; rfl
  have dl : ∀ l, (dU l).length ≤ l.length := fun l => by rw [hdU, List.length_map]; exact List.length_filter_le _ _
  have dz : meantM b rows x = dU rows.zipIdx := by rw [hdU]; rfl
  rw [dz]
  refine dss_cons (ds_set 3 (dv_lst da_nil (by decide)) ?_ scMeant.nd)
  refine dss_cons (ds_forE (e := enE rwD) (xs := rows.zipIdx) [4, 5, 6] (fun i => [.im (poD b Ls), .im (.lst (rows.map rwD)), .im (.str x), .own ((dU (rows.zipIdx.take i)).map .int), .no, .no, .no]) (fun q ds1 => (ds1.set 4 (.im (.int (q.2 : Int)))).set 5 (.im (rwD q.1))) (by rw [List.take_zero, d0]; rfl)
    (enumD_map rwD rows ▸ di_enum (de_var 1 rfl) rfl Z.b_enumerate) (fun q _ ds1 => dg_tup (dgs_cons (dg_name 4 scMeant.nd) (dgs_cons (dg_name 5 scMeant.nd) dgs_nil))) (fun i q hi => ?_) ?_ PassesOwn.never)
  · have ho := hrw _ (zi_mem (List.mem_of_getElem? hi))
    have es : dU (rows.zipIdx.take (i + 1)) = dU (rows.zipIdx.take i) ++ if (q.1.2.any fun n => decide (x ∈ reachedM b (fun _ => true) [n])) = true then [(q.2 : Int)] else [] := by
      rw [hdU, hdU, take_snoc hi, List.filter_append, List.map_append, List.filter_cons]
      split <;> rfl
    have al := dl (rows.zipIdx.take i)
    rw [List.length_take] at al
    rw [es]
    generalize dU (rows.zipIdx.take i) = cur at al
    obtain ⟨⟨se, ns⟩, k⟩ := q
    have hns := ho.nms
    have hnl : ns.length ≤ 1000 := hns.le
    refine dss_one (ds_if (x := ns.any fun n => decide (x ∈ reachedM b (fun _ => true) [n])) (dt_is (dt_val (de_any (bs := ns.map fun n => decide (x ∈ reachedM b (fun _ => true) [n])) (dv_is (de_own (dv_lcP (ev := D.str) (xs := ns) (own := [("_law_one", 6)]) (js := [6]) (fun n => [.im (poD b Ls), .im (.lst (rows.map rwD)), .im (.str x), .own (cur.map .int), .im (.int (k : Int)), .im (rwD (se, ns)), .im (.str n)]) (fun _ => true) (fun n => .bl (decide (x ∈ reachedM b (fun _ => true) [n])))
      (di_list (de_ixT (de_var 5 rfl) de_int rfl)) (by omega) scMeant.nd (blkOk_by (N := nMeant) (sc := defScope S_law_meant) (by decide +kernel)) (fun s H C cl fp n hc => dg_name 6 scMeant.nd) (fun s H C cl fp n hc => dts_nil)
      (fun s H C cl fp n hc _ => de_inS (de_var 2 rfl) (de_own (dv_meth (ok_people Z) hr (de_var 0 rfl) (da_cons (de_var 6 rfl) da_nil) ⟨b, Ls, n, rfl, hns.nm n hc, ⟨b, n, rfl, hb, uni_le hU (by show 1 ≤ _; omega), uni_short hb (fun y hy => by rw [List.mem_singleton.mp hy]; exact hns.nm n hc), rfl⟩⟩))))) (by
        rw [List.filter_eq_self.mpr fun _ _ => rfl, List.map_map]
        rfl)) rfl Z.b_any)) (by rw [List.any_map]; rfl)) (fun hc => ?_) (fun hc => ?_))
    · rw [if_pos hc]
      refine dss_one (ds_append 3 rfl (de_var 4 rfl) (by rw [List.length_map]; omega) ?_)
      show _ = _
      rw [List.map_append]
      rfl
    · rw [if_neg (fun z => Bool.false_ne_true (hc.symm.trans z)), List.append_nil]
      exact dss_nil rfl
  · rw [show rows.zipIdx.take rows.zipIdx.length = rows.zipIdx from List.take_length]
    exact dss_one (ds_retOwn 3 rfl (.inl rfl))

/-! ### all that is held let on -/
theorem dec_any {p : Prop} {i : Decidable p} {c : Bool} (h : p ↔ c = true) : @decide p i = c := by
  cases i with
  | isTrue z => exact (h.mp z).symm
  | isFalse z =>
    cases c with
    | true => exact absurd (h.mpr rfl) z
    | false => rfl
def cst (q : Nat × Str) : Int × Str := ((q.1 : Int), q.2)
theorem cst_inj {p q : Nat × Str} (h : cst p = cst q) : p = q := by
  obtain ⟨a, x⟩ := p
  obtain ⟨c, y⟩ := q
  have h1 : (a : Int) = (c : Int) := congrArg Prod.fst h
  have h2 : x = y := congrArg Prod.snd h
  rw [h2, Int.ofNat_inj.mp h1]
theorem cst_mem {q : Nat × Str} {l : List (Nat × Str)} : cst q ∈ l.map cst ↔ q ∈ l := by
  rw [List.mem_map]
  exact ⟨fun ⟨p, h1, h2⟩ => cst_inj h2 ▸ h1, fun h => ⟨q, h, rfl⟩⟩
theorem pD_en (l : List (Nat × Str)) : l.map pD = (l.map cst).map en := by
  rw [List.map_map]
  rfl
theorem zip_map2 {α : Type} (f g : α → D) : ∀ l : List α, zipD (l.map f) (l.map g) = l.map fun a => .tup [f a, g a]
  | [] => rfl
  | a :: l => by
    have := zip_map2 f g l
    unfold zipD at this ⊢
    rw [List.map_cons, List.map_cons, List.zip_cons_cons, List.map_cons, this, List.map_cons]
theorem letI_flat (xs : List (List Int)) : (OT.lst (xs.map fun l => OT.lst ((l.map D.int).map .im))).flat = true := by
  have e : ∀ l : List Int, OT.flats ((l.map D.int).map .im) = true := fun l => by
    induction l with
    | nil => rw [List.map_nil, List.map_nil, OT.flats]
    | cons i l ih =>
      rw [List.map_cons, List.map_cons, OT.flats, OT.flat, ih]
      rfl
  rw [OT.flat]
  induction xs with
  | nil => rw [List.map_nil, OT.flats]
  | cons l xs ih =>
    rw [List.map_cons, OT.flats, OT.flat, e, ih]
    rfl
theorem letI_fz (xs : List (List Int)) : (OT.lst (xs.map fun l => OT.lst ((l.map D.int).map .im))).fz = .lst (xs.map fun l => .lst (l.map .int)) := by
  rw [OT.fz]
  congr 1
  induction xs with
  | nil => rw [List.map_nil, OT.fzs]; rfl
  | cons l xs ih =>
    rw [List.map_cons, OT.fzs, OT.fz, fzs_im, ih]
    rfl
theorem lk_d' {xs : List D} {i : Int} {j : Nat} {d : D} (e : i = (j : Int)) (h : xs[j]? = some d) : atI xs i = some d := by
  rw [e]
  exact lk_d h
def rowD (Ls : List Lt) (n : Str) : D := .lst ((gotM Ls n).map .int)
theorem inv_lsB {b : List Ent} {d : Str} {rows : List Rw} {Ls : List Lt} (hb : Bk b) (hr : ∀ r ∈ rows, RowOk b r) (hl : rows.length ≤ 100) (S : InvS b d rows Ls) : LsB Ls := by
  refine ⟨by rw [S.len]; exact hl, fun L hL => ?_⟩
  obtain ⟨i, hi⟩ := List.mem_iff_getElem?.mp hL
  have hil : i < rows.length := by rw [← S.len]; exact (List.getElem?_eq_some_iff.mp hi).1
  have I := S.at_ i L _ hi (List.getElem?_eq_getElem hil)
  have ho := hr _ (List.getElem_mem hil)
  refine ⟨?_, fun n hn => ?_⟩
  · have h1 := (inv_had_len hb ho.nms.nd I).2.1
    have h2 := ho.uni
    omega
  · obtain ⟨e, he, hen⟩ := List.mem_map.mp (isL_iff.mp (held_mem.mp (I.sty n hn).1).2.1)
    rw [← hen]
    exact (hb.ok e he).nm
def aLetAll (t : OT) (xs : List D) (t' : OT) (r : BR) : Prop := ∃ (b : List Ent) (Ls : List Lt) (rows : List Rw) (ns : List Str) (cell : Int) (d : Str), t = poT b Ls ∧ xs = [.lst (ns.map .str), .int cell, .str d] ∧ Bk b ∧ (b.flatMap Ent.mem).length ≤ 80000 ∧ (∀ r ∈ rows, RowOk b r) ∧ rows.length ≤ 100 ∧ rows.length * b.length < 200 ∧ (∀ n ∈ ns, Nm n) ∧ ns.length ≤ 100 ∧ InvS b d rows Ls ∧
  t' = poT b (runM b d cell 200 0 Ls) ∧ r = .dat (.bl true)
abbrev qLetAll : List Str := ["_law_post", "_law_names_here", "_law_cell", "_law_dropped"]
abbrev nLetAll : List Str := ["_law_post", "_law_names_here", "_law_cell", "_law_dropped", "_law_turn", "_law_held", "_law_gone", "_law_before", "_law_number", "_law_name", "_law_after", "_law_pair", "_law_old", "_law_fresh", "_law_one"]
theorem scLetAll : FnScope nLetAll qLetAll (defScope S_law_let_all) := ⟨rfl, rfl, rfl, by decide +kernel, rfl, by decide +kernel, by decide +kernel⟩
theorem ok_letall {G : Glb} (Z : Facts G) : CallO G 10 "_law_let_all" qLetAll aLetAll := by
  refine ⟨?_, Z.g_law_let_all, Z.n_law_let_all, Z.f_law_let_all.kp⟩
  refine okO (N := nLetAll) Z.f_law_let_all scLetAll (fun t xs t' r ⟨_, _, _, _, _, _, _, e, _⟩ => by rw [e]; rfl) fun cdv Ar outer s H E hr p t xs t' r ⟨b, Ls0, rows, ns, cell, d, et, ex, hb, hU, hrw, hrl, hrb, hns, hnl, S0, et', er⟩ => ?_
  subst et ex et' er
  have hrn : ∀ r ∈ rows, r.2.Nodup := fun r hr => (hrw r hr).nms.nd
  have vw : ∀ Ls : List Lt, (some (DS.im (poT b Ls).fz)) = some (.im (poD b Ls)) := fun Ls => congrArg (fun d => some (DS.im d)) (poT_fz b Ls)
  have bf : ∀ Ls : List Lt, (OT.lst (ns.map fun n => OT.lst (((gotM Ls n).map D.int).map .im))) = OT.lst ((ns.map (gotM Ls)).map fun l => OT.lst ((l.map D.int).map .im)) := fun Ls => by rw [List.map_map]; rfl
  have bz : ∀ Ls : List Lt, (OT.lst (ns.map fun n => OT.lst (((gotM Ls n).map D.int).map .im))).fz = .lst (ns.map (rowD Ls)) := fun Ls => by
    rw [bf, letI_fz, List.map_map]
    rfl
  have B0 := inv_lsB hb hrw hrl S0
  have heldZ : ∀ Ls : List Lt, (DS.ot none (prT (pairsM Ls))).fz = .im (.lst ((pairsM Ls).map pD)) := fun Ls => congrArg DS.im (prT_fz _)
  refine dss_cons (ds_p3t 4 5 6 (s2 := .ot none (prT (pairsM Ls0))) de_int (dv_viewUT 0 rfl (prT_flat _) (dv_meth0 (ok_held Z) hr (de_var 0 (d := poD b Ls0) (vw Ls0)) ⟨b, Ls0, rfl, B0, rfl⟩)) (dv_lst da_nil (by decide)) ?_ scLetAll.nd)
  refine dss_freeze 5 rfl rfl ?_
  rw [heldZ]
  refine dss_cons (ds_setLcTV 0 7 rfl (ev := D.str) (xs := ns) (own := [("_law_name", 9)]) (js := [9]) (fun n => [.im (poT b Ls0).fz, .im (.lst (ns.map .str)), .im (.int cell), .im (.str d), .im (.int 0), .im (.lst ((pairsM Ls0).map pD)), .own [], .no, .no, .im (.str n), .no, .no, .no, .no, .no]) (fun _ => true) (fun n => .lst (((gotM Ls0 n).map D.int).map .im))
    (di_list (de_var 1 rfl)) (by omega) scLetAll.nd (blkOk_by (N := nLetAll) (sc := defScope S_law_let_all) (by decide +kernel)) (fun s H C cl fp n hc => dg_name 9 scLetAll.nd) (fun s H C cl fp n hc => dts_nil)
    (fun s H C cl fp n hc _ => dv_tree (dv_meth (ok_got Z) hr (de_var 0 (d := poD b Ls0) (vw Ls0)) (da_cons (de_var 9 rfl) da_nil) ⟨b, Ls0, n, rfl, hns n hc, by have := B0.len; omega, rfl⟩) rfl) (by rw [List.filter_eq_self.mpr fun _ _ => rfl, bf]; exact letI_flat _) ?_)
  rw [List.filter_eq_self.mpr fun _ _ => rfl]
  refine dss_freeze 7 rfl rfl ?_
  have b0 : (DS.ot (none : Option Addr) (OT.lst (ns.map fun n => OT.lst (((gotM Ls0 n).map D.int).map .im)))).fz = .im (.lst (ns.map (rowD Ls0))) := congrArg DS.im (bz Ls0)
  rw [b0]
  show DSs _ _ _ _ _ [.ot (some p) (poT b Ls0), .im (.lst (ns.map .str)), .im (.int cell), .im (.str d), .im (.int 0), .im (.lst ((pairsM Ls0).map pD)), .own [], .im (.lst (ns.map (rowD Ls0))), .no, .no, .no, .no, .no, .no, .no] _
  obtain ⟨fin, hfin⟩ : ∃ fin, fin = runM b d cell 200 0 Ls0 := ⟨_, rfl⟩
  rw [← hfin]
  refine dss_mid (fun ds => ∃ (o4 o6 o7 o8 o9 o10 o11 o12 o13 o14 : DS), ds = [.ot (some p) (poT b fin), .im (.lst (ns.map .str)), .im (.int cell), .im (.str d), o4, .im (.lst []), o6, o7, o8, o9, o10, o11, o12, o13, o14]) (ds_while (fun m ds => ∃ (tn : Nat) (Ls : List Lt) (gone : List (Nat × Str)) (o8 o9 o10 o11 o12 o13 o14 : DS), m + tn = 200 ∧ tn = gone.length ∧ InvS b d rows Ls ∧ Gone b rows Ls gone ∧ runM b d cell (200 - tn) tn Ls = fin ∧
      ds = [.ot (some p) (poT b Ls), .im (.lst (ns.map .str)), .im (.int cell), .im (.str d), .im (.int (tn : Int)), .im (.lst ((pairsM Ls).map pD)), .own (gone.map pD), .im (.lst (ns.map (rowD Ls))), o8, o9, o10, o11, o12, o13, o14]) 200
    ⟨0, Ls0, [], .no, .no, .no, .no, .no, .no, .no, rfl, rfl, S0, ⟨(fun _ h => by cases h), List.nodup_nil, (fun _ h => by cases h)⟩, hfin.symm, rfl⟩ (fun m ds1 ⟨tn, Ls, gone, o8, o9, o10, o11, o12, o13, o14, hm, htn, S, Gn, hrun, e1⟩ => ?_) PassesOwn.never) fun ds' ⟨o4, o6, o7, o8, o9, o10, o11, o12, o13, o14, ed⟩ => ?_
  · subst e1
    have gl := gone_len Gn
    have B := inv_lsB hb hrw hrl S
    refine ⟨!decide ((pairsM Ls).map cst = []) && decide ((tn : Int) < 200), dt_w (dw_and (dt_neX (x := (pairsM Ls).map cst) (y := []) (dv_is (de_var 5 rfl) (congrArg (fun l => DS.im (D.lst l)) (pD_en _))) (de_own (dv_lst da_nil (by decide))) (units_of hr)) fun _ => dw_and1 (dt_lt (de_var 4 rfl) de_int)), fun hc => ?_, fun hc => ?_⟩
    · obtain ⟨hc1, hc2⟩ := Bool.and_eq_true_iff.mp hc
      have hne : pairsM Ls ≠ [] := fun z => by rw [z] at hc1; cases hc1
      have htl : tn < 200 := by have := of_decide_eq_true hc2; omega
      obtain ⟨hq, hqa⟩ := pick_in (cell := cell) (t := tn) hne
      have hrun2 : runM b d cell (200 - (tn + 1)) (tn + 1) (turnM b d Ls (pickM cell tn (pairsM Ls))) = fin := by
        rw [← hrun, show 200 - tn = (200 - (tn + 1)) + 1 by omega, runM, if_neg hne]
      generalize pickM cell tn (pairsM Ls) = q at hq hqa hrun2
      have S2 := inv_turn hb hrn S hq
      have G2 := gone_turn S Gn hq
      have B2 := inv_lsB hb hrw hrl S2
      have gt := got_turn (b := b) (d := d) hq
      have pl : 0 < (pairsM Ls).length := List.length_pos_iff.mpr hne
      have p1 := Int.emod_nonneg (draw (cell + 31 * (tn : Int)) (tn : Int) 1000) (b := ((pairsM Ls).length : Int)) (by omega)
      obtain ⟨L, hL1, hL2⟩ := mem_pairs.mp hq
      have hil : q.1 < rows.length := by rw [← S.len]; exact (List.getElem?_eq_some_iff.mp hL1).1
      have IL := S.at_ q.1 L _ hL1 (List.getElem?_eq_getElem hil)
      have ho := hrw _ (List.getElem_mem hil)
      have tt := turn_at (b := b) (d := d) hL1
      refine dss_cons (ds_asgT (d := pD q) (de_ixL (xs := (pairsM Ls).map pD) (de_var 5 rfl) (dv_is (de_mod (dv_c (ok_draw Z) hr (da_cons (de_add (de_var 2 rfl) (de_mul de_int (de_var 4 rfl) (.inl (by decide)))) (da_cons (de_var 4 rfl) (da_cons de_int da_nil))) ⟨cell + 31 * (tn : Int), (tn : Int), 1000, rfl, by decide, rfl⟩) (de_lenL (de_var 5 rfl) rfl Z.b_len) (by rw [List.length_map]; omega)) (by rw [List.length_map])) (lk_d' (j := (draw (cell + 31 * (tn : Int)) (tn : Int) 1000 % ((pairsM Ls).length : Int)).toNat) (by omega) (by rw [List.getElem?_map, hqa]; rfl))) (dg_tup (dgs_cons (dg_name 8 scLetAll.nd) (dgs_cons (dg_name 9 scLetAll.nd) dgs_nil))) ?_)
      clear hqa
      refine dss_mid (fun ds => ds = [.ot (some p) (poT b (turnM b d Ls q)), .im (.lst (ns.map .str)), .im (.int cell), .im (.str d), .im (.int (tn : Int)), .im (.lst ((pairsM Ls).map pD)), .own (gone.map pD), .im (.lst (ns.map (rowD Ls))), .im (.int (q.1 : Int)), .im (.str q.2), o10, o11, o12, o13, o14]) (ds_if (dt_eqS (de_var 9 rfl) (de_var 3 rfl)) (fun hd => ?_) (fun hd => ?_)) fun ds' ed => ?_
      · have hd' : q.2 = d := of_decide_eq_true hd
        refine dss_one (ds_exprM (dm_meth 0 (ok_drop Z) hr rfl (da_cons (de_var 8 rfl) (da_cons (de_var 9 rfl) da_nil)) ⟨b, Ls, q.1, L, q.2, rfl, rfl, hL1, hL2, by have := (inv_had_len hb ho.nms.nd IL).2.2.2; omega, rfl, rfl⟩) ?_)
        show _ = _
        have e2 : stepL b d L q.2 = drpL L q.2 := if_pos hd'
        rw [tt, e2]
        rfl
      · have hd' : q.2 ≠ d := of_decide_eq_false hd
        obtain ⟨n1, n2, n3, _⟩ := inv_had_len hb ho.nms.nd IL
        have hu := ho.uni
        have ble := hb.le
        refine dss_one (ds_exprM (dm_meth 0 (ok_let Z) hr rfl (da_cons (de_var 8 rfl) (da_cons (de_var 9 rfl) da_nil)) ⟨b, Ls, q.1, L, q.2, rfl, rfl, hL1, hL2, hb, ⟨by rw [IL.snd]; exact ho.snd, by rw [IL.nms]; exact ho.nms, by rw [IL.nms]; omega, by omega, by omega⟩, by omega, hU, rfl, rfl⟩) ?_)
        show _ = _
        have e2 : stepL b d L q.2 = goL b (letL L q.2) := if_neg hd'
        rw [tt, e2]
        rfl
      subst ed
      clear tt hL1 hL2 IL
      generalize turnM b d Ls q = Ls2 at S2 G2 B2 gt hrun2
      refine dss_cons (ds_setLcTV 0 10 rfl (ev := D.str) (xs := ns) (own := [("_law_name", 9)]) (js := [9]) (fun n => [.im (poT b Ls2).fz, .im (.lst (ns.map .str)), .im (.int cell), .im (.str d), .im (.int (tn : Int)), .im (.lst ((pairsM Ls).map pD)), .own (gone.map pD), .im (.lst (ns.map (rowD Ls))), .im (.int (q.1 : Int)), .im (.str n), o10, o11, o12, o13, o14]) (fun _ => true) (fun n => .lst (((gotM Ls2 n).map D.int).map .im))
        (di_list (de_var 1 rfl)) (by omega) scLetAll.nd (blkOk_by (N := nLetAll) (sc := defScope S_law_let_all) (by decide +kernel)) (fun s H C cl fp n hc => dg_name 9 scLetAll.nd) (fun s H C cl fp n hc => dts_nil)
        (fun s H C cl fp n hc _ => dv_tree (dv_meth (ok_got Z) hr (de_var 0 (d := poD b Ls2) (vw Ls2)) (da_cons (de_var 9 rfl) da_nil) ⟨b, Ls2, n, rfl, hns n hc, by have := B2.len; omega, rfl⟩) rfl) (by rw [List.filter_eq_self.mpr fun _ _ => rfl, bf]; exact letI_flat _) ?_)
      rw [List.filter_eq_self.mpr fun _ _ => rfl]
      refine dss_freeze 10 rfl rfl ?_
      have b2 : (DS.ot (none : Option Addr) (OT.lst (ns.map fun n => OT.lst (((gotM Ls2 n).map D.int).map .im)))).fz = .im (.lst (ns.map (rowD Ls2))) := congrArg DS.im (bz Ls2)
      rw [b2]
      refine dss_cons (ds_append (d := pD q) 6 rfl (de_tup (da_cons (de_var 8 rfl) (da_cons (de_var 9 rfl) da_nil)) (by show 2 ≤ 100000; decide)) (by rw [List.length_map]; omega) ?_)
      have ga : gone.map pD ++ [pD q] = (gone ++ [q]).map pD := by rw [List.map_append]; rfl
      rw [ga]
      have g2l : (gone ++ [q]).length = tn + 1 := by rw [List.length_append, htn]; rfl
      generalize gone ++ [q] = gone2 at G2 g2l
      have pl2 : (pairsM Ls2).length ≤ 100000 := by
        have h1 := pairs_len (l := Ls2.zipIdx) fun x hx => (B2.sty _ (zi_mem hx)).1
        rw [List.length_zipIdx] at h1
        have h2 := B2.len
        unfold pairsM
        omega
      show DSs _ _ _ _ _ [.ot (some p) (poT b Ls2), .im (.lst (ns.map .str)), .im (.int cell), .im (.str d), .im (.int (tn : Int)), .im (.lst ((pairsM Ls).map pD)), .own (gone2.map pD), .im (.lst (ns.map (rowD Ls))), .im (.int (q.1 : Int)), .im (.str q.2), .im (.lst (ns.map (rowD Ls2))), o11, o12, o13, o14] _
      refine dss_cons (ds_if (x := false) (dt_is (dt_val (de_any (bs := (pairsM Ls2).map fun q => decide (q ∈ gone2)) (dv_is (de_own (dv_lcP (ev := pD) (xs := pairsM Ls2) (own := [("_law_pair", 11)]) (js := [11]) (fun q' => [.ot (some p) (poT b Ls2), .im (.lst (ns.map .str)), .im (.int cell), .im (.str d), .im (.int (tn : Int)), .im (.lst ((pairsM Ls).map pD)), .own (gone2.map pD), .im (.lst (ns.map (rowD Ls))), .im (.int (q.1 : Int)), .im (.str q.2), .im (.lst (ns.map (rowD Ls2))), .im (pD q'), o12, o13, o14]) (fun _ => true) (fun q' => .bl (decide (q' ∈ gone2)))
        (di_list (dv_is (dv_fz (dv_viewUT 0 rfl (prT_flat _) (dv_meth0 (ok_held Z) hr (de_var 0 (d := poD b Ls2) (vw Ls2)) ⟨b, Ls2, rfl, B2, rfl⟩))) (heldZ Ls2))) pl2 scLetAll.nd (blkOk_by (N := nLetAll) (sc := defScope S_law_let_all) (by decide +kernel)) (fun s H C cl fp q' hc => dg_name 11 scLetAll.nd) (fun s H C cl fp q' hc => dts_nil)
        (fun s H C cl fp q' hc _ => de_view 6 rfl rfl rfl (dv_is (de_inX (x := cst q') (xs := gone2.map cst) (de_var 11 rfl) (dv_is (de_var 6 rfl) (congrArg (fun l => DS.im (D.lst l)) (pD_en _))) (un65 hr)) (congrArg (fun c => DS.im (D.bl c)) (dec_any (cst_mem.trans decide_eq_true_iff.symm))))))) (by
          rw [List.filter_eq_self.mpr fun _ _ => rfl, List.map_map]
          rfl)) rfl Z.b_any)) (by
        rw [List.any_eq_false]
        intro x hx
        obtain ⟨q', h1, rfl⟩ := List.mem_map.mp hx
        rw [decide_eq_false fun z => gone_not S2 G2 h1 z]
        exact Bool.false_ne_true)) (fun hc => by cases hc) (fun _ => dss_nil ?_))
      refine dss_mid (fun ds => ∃ o12 o13, ds = [.ot (some p) (poT b Ls2), .im (.lst (ns.map .str)), .im (.int cell), .im (.str d), .im (.int (tn : Int)), .im (.lst ((pairsM Ls).map pD)), .own (gone2.map pD), .im (.lst (ns.map (rowD Ls))), .im (.int (q.1 : Int)), .im (.str q.2), .im (.lst (ns.map (rowD Ls2))), o11, o12, o13, o14]) (ds_for (e := fun n => D.tup [rowD Ls n, rowD Ls2 n]) (xs := ns) (fun _ ds => ∃ o12 o13, ds = [.ot (some p) (poT b Ls2), .im (.lst (ns.map .str)), .im (.int cell), .im (.str d), .im (.int (tn : Int)), .im (.lst ((pairsM Ls).map pD)), .own (gone2.map pD), .im (.lst (ns.map (rowD Ls))), .im (.int (q.1 : Int)), .im (.str q.2), .im (.lst (ns.map (rowD Ls2))), o11, o12, o13, o14])
        (fun n ds1 => (ds1.set 12 (.im (rowD Ls n))).set 13 (.im (rowD Ls2 n))) (zip_map2 (rowD Ls) (rowD Ls2) ns ▸ di_zip (de_var 7 rfl) (de_var 10 rfl) rfl Z.b_zip) (fun n _ ds1 => dg_tup (dgs_cons (dg_name 12 scLetAll.nd) (dgs_cons (dg_name 13 scLetAll.nd) dgs_nil))) ⟨_, _, rfl⟩ (fun j n ds1 hj ⟨o12, o13, e1⟩ => ?_) (fun ds1 h => h) PassesOwn.never) fun ds' ⟨o12, o13, ed⟩ => ?_
      · subst e1
        have gsl : (gotM Ls n).length ≤ 100000 := by
          unfold gotM
          rw [List.length_map]
          have h1 := List.length_filter_le (fun q : Lt × Nat => decide (n ∈ q.1.had)) Ls.zipIdx
          rw [List.length_zipIdx] at h1
          have h2 := B.len
          omega
        refine dss_one (ds_if (x := !true) (dt_not (dt_is (dt_val (de_all (bs := (gotM Ls n).map fun i => decide (i ∈ gotM Ls2 n)) (dv_is (de_own (dv_lcP (ev := D.int) (xs := gotM Ls n) (own := [("_law_one", 14)]) (js := [14]) (fun i => [.ot (some p) (poT b Ls2), .im (.lst (ns.map .str)), .im (.int cell), .im (.str d), .im (.int (tn : Int)), .im (.lst ((pairsM Ls).map pD)), .own (gone2.map pD), .im (.lst (ns.map (rowD Ls))), .im (.int (q.1 : Int)), .im (.str q.2), .im (.lst (ns.map (rowD Ls2))), o11, .im (rowD Ls n), .im (rowD Ls2 n), .im (.int i)]) (fun _ => true) (fun i => .bl (decide (i ∈ gotM Ls2 n)))
          (di_list (de_var 12 rfl)) gsl scLetAll.nd (blkOk_by (N := nLetAll) (sc := defScope S_law_let_all) (by decide +kernel)) (fun s H C cl fp i hc => dg_name 14 scLetAll.nd) (fun s H C cl fp i hc => dts_nil)
          (fun s H C cl fp i hc _ => de_inX (x := i) (xs := gotM Ls2 n) (de_var 14 rfl) (de_var 13 rfl) (un65 hr)))) (by
            rw [List.filter_eq_self.mpr fun _ _ => rfl, List.map_map]
            rfl)) rfl Z.b_all)) (by
          rw [List.all_map, List.all_eq_true]
          exact fun i hi => decide_eq_true (gt n i hi)))) (fun hc => by cases hc) (fun _ => dss_nil ⟨_, _, rfl⟩))
      · subst ed
        refine dss_cons (ds_p3 4 5 7 (s1 := .im (.int ((tn + 1 : Nat) : Int))) (s2 := .ot none (prT (pairsM Ls2))) (dv_is (de_add (de_var 4 rfl) de_int) (by rw [Int.natCast_add]; rfl)) (dv_viewUT 0 rfl (prT_flat _) (dv_meth0 (ok_held Z) hr (de_var 0 (d := poD b Ls2) (vw Ls2)) ⟨b, Ls2, rfl, B2, rfl⟩)) (de_var 10 rfl) ?_ scLetAll.nd)
        refine dss_freeze 5 rfl rfl ?_
        rw [heldZ]
        exact dss_nil ⟨m - 1, by omega, tn + 1, Ls2, gone2, _, _, _, _, _, _, _, by omega, g2l.symm, S2, G2, hrun2, rfl⟩
    · have h0 : pairsM Ls = [] := by
        refine Decidable.byContradiction fun hne => ?_
        have c1 : decide ((pairsM Ls).map cst = []) = false := decide_eq_false fun z => hne (List.map_eq_nil_iff.mp z)
        rw [c1, decide_eq_true (by omega)] at hc
        cases hc
      have e2 : Ls = fin := by
        rw [← hrun]
        cases h2 : 200 - tn with
        | zero => rfl
        | succ f => rw [runM, if_pos h0]
      rw [h0, e2]
      exact ⟨_, _, _, _, _, _, _, _, _, _, rfl⟩
  · subst ed
    refine dss_one (ds_retB (p := p) (t' := poT b fin) (d := .bl true) (dv_is (de_eqX (x := ([] : List Str)) (y := []) (de_var 5 rfl) (de_own (dv_lst da_nil (by decide))) (units_of hr)) (by rw [decide_eq_true rfl])) rfl rfl)

/-! ### the law -/
abbrev q5S : Str := "qqqqq"
def someN (ns : List Str) (num : Int) (k : Nat) : List Str := if (some_ ns num).take k ≠ [] then (some_ ns num).take k else ns.take 1
theorem someN_ns {ns : List Str} {num : Int} {k : Nat} (h : ∀ x ∈ ns, Nm x) (hd : ns.Nodup) (hne : ns ≠ []) (hl : ns.length ≤ 900) : Ns (someN ns num k) ∧ (someN ns num k).length ≤ max k 1 := by
  have so := some_ok num hd
  have sl := some_len ns num
  unfold someN
  split
  · rename_i z
    exact ⟨⟨fun n hn => h n (so.2 n (List.mem_of_mem_take hn)), so.1.sublist (List.take_sublist _ _), z, by rw [List.length_take]; omega⟩, by rw [List.length_take]; omega⟩
  · refine ⟨⟨fun n hn => h n (List.mem_of_mem_take hn), hd.sublist (List.take_sublist _ _), fun z => ?_, by rw [List.length_take]; omega⟩, by rw [List.length_take]; omega⟩
    have := congrArg List.length z
    rw [List.length_take] at this
    have := List.length_pos_iff.mpr hne
    rw [show ([] : List Str).length = 0 from rfl] at *
    omega
theorem nm_q5 : Nm q5S := by
  refine ⟨by decide, by decide, fun c hc => ?_⟩
  have e : q5S.cps.toList = [113, 113, 113, 113, 113] := by decide +kernel
  rw [e] at hc
  have : c = 113 := by simpa using hc
  unfold okC
  omega
def rowM (sc : List Int) (ns : List Str) (t : Nat) : Rw := ((ns ++ [q5S]).getD (dg sc (3 + (t : Int)) 2 (1009 * 4096) 1 % 9).toNat Str.empty, someN ns (dg sc (3 + (t : Int)) 2 (1009 * 4096) 0) 3)
theorem inv_posted {b : List Ent} (d : Str) (rows : List Rw) : InvS b d rows (postM b rows) := by
  refine ⟨List.length_map _, fun i L r h1 h2 => ?_⟩
  unfold postM at h1
  rw [List.getElem?_map, h2] at h1
  cases h1
  exact inv_new d r.1 r.2
theorem gone_nil (b : List Ent) (rows : List Rw) (Ls : List Lt) : Gone b rows Ls [] := ⟨(fun _ h => by cases h), List.nodup_nil, (fun _ h => by cases h)⟩
theorem mem_le {b : List Ent} {k : Nat} (h : ∀ e ∈ b, e.mem.length ≤ k) : (b.flatMap Ent.mem).length ≤ k * b.length := by
  induction b with
  | nil => exact Nat.zero_le _
  | cons e b ih =>
    rw [List.flatMap_cons, List.length_append, List.length_cons, Nat.mul_succ]
    have h1 := ih fun x hx => h x (List.mem_cons_of_mem _ hx)
    have h2 := h e List.mem_cons_self
    omega
theorem book_mem {sc : List Int} {a : Int} {ns : List Str} (m : Nat) : ∀ e ∈ bookM sc a ns m, e.mem.length ≤ ns.length := by
  induction m with
  | zero => exact fun e he => by cases he
  | succ m ih =>
    intro e he
    rw [bookM_succ] at he
    unfold bookStep at he
    rcases List.mem_cons.mp ((perm_insE _ _ _).mem_iff.mp he) with rfl | z
    · unfold entM
      exact some_len _ _
    · exact ih e z
abbrev nLaw : List Str := ["_law_script", "_law_names_here", "_law_draws", "_law_book_here", "_law_rows", "_law_turn", "_law_more", "_law_some_here", "_law_cell", "_law_dropped", "_law_post", "_law_name", "_law_due_here"]
theorem scLaw : FnScope nLaw ["_law_script"] (defScope S_law) := ⟨rfl, rfl, rfl, by decide +kernel, rfl, by decide +kernel, by decide +kernel⟩
theorem name_lk {ns : List Str} {i : Int} (h0 : 0 ≤ i) (h1 : i < (ns.length : Int)) : ∃ s, s ∈ ns ∧ atI (ns.map D.str) i = some (.str s) := by
  have hl : i.toNat < ns.length := by omega
  exact ⟨ns[i.toNat], List.getElem_mem hl, lk_str (j := i.toNat) (by omega) (List.getElem?_eq_getElem hl)⟩
theorem ok_law {G : Glb} (Z : Facts G) : FnOk G.P G.w G.K G.mg G.base CX0 11 (He.ga G.K "law") (fdOf G.K (He.ga G.K "law")) ["_law_script"] (spLaw G) := by
  refine okLaw (N := nLaw) Z.f_law rfl scLaw (fun cdv Ar outer s H E => ps_set scLaw.nd rfl (.inl rfl) (pe_slice sl_list (pv 0) po_none (po_some pe_int))) fun cdv Ar outer s H E hr sc hsc => ?_
  refine dss_cons (ds_p2 1 2 (s1 := .im (.lst ((lawNames sc 0 8).map .str))) (s2 := .im (.lst ((digits sc 1 6 1000003).map .int))) (de_own (dv_c (ok_names Z) hr (da_cons (de_var 0 rfl) (da_cons de_int (da_cons de_int da_nil))) ⟨sc, 0, 8, rfl, by decide, by decide, by decide, rfl⟩)) (de_own (dv_c (ok_digits Z) hr (da_cons (de_var 0 rfl) (da_cons de_int (da_cons de_int (da_cons de_int da_nil)))) ⟨sc, 1, 6, 1000003, rfl, by decide, by decide, by decide, by decide, by decide, rfl⟩)) ?_ scLaw.nd)
  have hN := lawNames_ok sc 0 (m := 8) (by decide)
  generalize lawNames sc 0 8 = ns at hN ⊢
  have hlen : ns.length = 8 := hN.len
  have hne : ns ≠ [] := fun z => by rw [z] at hlen; cases hlen
  have g := fun (k : Nat) (hk : k < 6) => dg_at (sc := sc) (at_ := 1) (many := 6) (base := 1000003) (k := k) (by omega)
  have gi := fun (k : Nat) (hk : k < 6) => dg_in (sc := sc) (at_ := 1) (many := 6) (base := 1000003) (k := k) (by decide) (by omega)
  have g0 := g 0 (by decide)
  have g1 := g 1 (by decide)
  have g2 := g 2 (by decide)
  have g3 := g 3 (by decide)
  have g4 := g 4 (by decide)
  have g5 := g 5 (by decide)
  have i0 := (gi 0 (by decide)).1
  have i1 := (gi 1 (by decide)).1
  have i5 := (gi 5 (by decide)).1
  clear g gi
  generalize dg sc 1 6 1000003 0 = x0 at g0 i0
  generalize dg sc 1 6 1000003 1 = x1 at g1 i1
  generalize dg sc 1 6 1000003 2 = x2 at g2
  generalize dg sc 1 6 1000003 3 = x3 at g3
  generalize dg sc 1 6 1000003 4 = x4 at g4
  generalize dg sc 1 6 1000003 5 = x5 at g5 i5
  generalize digits sc 1 6 1000003 = dr at g0 g1 g2 g3 g4 g5 ⊢
  have hk5 : (x0 % 6).toNat ≤ 5 := by omega
  obtain ⟨hb, _⟩ := bookM_ok (sc := sc) (a := 2) hN.nm hN.nd (by omega) (x0 % 6).toNat (by omega)
  have hbl := bookM_len sc 2 ns (x0 % 6).toNat
  have hbm := book_mem (sc := sc) (a := 2) (ns := ns) (x0 % 6).toNat
  refine dss_cons (ds_p2 3 4 (s1 := .im (bkD (bookM sc 2 ns (x0 % 6).toNat))) (s2 := .own []) (de_own (dv_c (ok_book Z) hr (da_cons (de_var 0 rfl) (da_cons de_int (da_cons (de_var 1 rfl) (da_cons (de_mod (de_ixL (de_var 2 rfl) de_int (lk_int (j := 0) rfl g0)) de_int (by decide)) da_nil)))) ⟨sc, 2, ns, x0 % 6, rfl, by decide, by omega, by omega, by omega, rfl⟩)) (dv_lst da_nil (by decide)) ?_ scLaw.nd)
  generalize bookM sc 2 ns (x0 % 6).toNat = b at hb hbl hbm ⊢
  have hbl5 : b.length ≤ 5 := by omega
  have hU := mem_le hbm
  have hU2 : (b.flatMap Ent.mem).length ≤ 40 := by
    have : ns.length * b.length ≤ 8 * 5 := Nat.mul_le_mul (by omega) hbl5
    omega
  obtain ⟨many, hmany⟩ : ∃ many : Nat, 2 + x1 % 3 = (many : Int) := ⟨(2 + x1 % 3).toNat, by omega⟩
  have hm4 : many ≤ 4 := by omega
  have rok : ∀ t, RowOk b (rowM sc ns t) := fun t => by
    have d1 := dg_in (sc := sc) (at_ := 3 + (t : Int)) (many := 2) (base := 1009 * 4096) (k := 1) (by decide) (by decide)
    obtain ⟨s1, s2⟩ := someN_ns (ns := ns) (num := dg sc (3 + (t : Int)) 2 (1009 * 4096) 0) (k := 3) hN.nm hN.nd hne (by omega)
    refine ⟨?_, s1, ?_⟩
    · show Nm ((ns ++ [q5S]).getD (dg sc (3 + (t : Int)) 2 (1009 * 4096) 1 % 9).toNat Str.empty)
      have hi : (dg sc (3 + (t : Int)) 2 (1009 * 4096) 1 % 9).toNat < (ns ++ [q5S]).length := by rw [List.length_append, hlen]; show _ < 9; omega
      rw [List.getD_eq_getElem?_getD, List.getElem?_eq_getElem hi]
      rcases List.mem_append.mp (List.getElem_mem hi) with z | z
      · exact hN.nm _ z
      · show Nm _
        rw [show (ns ++ [q5S])[(dg sc (3 + (t : Int)) 2 (1009 * 4096) 1 % 9).toNat] = q5S from List.mem_singleton.mp z]
        exact nm_q5
    · show (uni b (someN ns (dg sc (3 + (t : Int)) 2 (1009 * 4096) 0) 3)).length ≤ 100
      unfold uni
      rw [List.length_append]
      omega
  refine dss_cons (ds_forR [5, 6, 7] (fun i => [.im (.lst (sc.map .int)), .im (.lst (ns.map .str)), .im (.lst (dr.map .int)), .im (bkD b), .own (((List.range i).map (rowM sc ns)).map rwD), .no, .no, .no, .no, .no, .no, .no, .no]) (fun i ds1 => ds1.set 5 (.im (.int (0 + (i : Int))))) rfl (di_rng1 (dv_is (de_add de_int (de_mod (de_ixL (de_var 2 rfl) de_int (lk_int (j := 1) rfl g1)) de_int (by decide))) (by rw [hmany])) rfl Z.b_range (by omega) (by omega)) (fun i _ ds1 => dg_name 5 scLaw.nd) (fun i hi => ?_) ?_ PassesOwn.never)
  · have il : i < 4 := by omega
    have d0 := dg_at (sc := sc) (at_ := 3 + (i : Int)) (many := 2) (base := 1009 * 4096) (k := 0) (by decide)
    have d1 := dg_at (sc := sc) (at_ := 3 + (i : Int)) (many := 2) (base := 1009 * 4096) (k := 1) (by decide)
    have dl := digits_len sc (3 + (i : Int)) 2 (1009 * 4096)
    have rw0 : rowM sc ns i = ((ns ++ [q5S]).getD (dg sc (3 + (i : Int)) 2 (1009 * 4096) 1 % 9).toNat Str.empty, someN ns (dg sc (3 + (i : Int)) 2 (1009 * 4096) 0) 3) := rfl
    have p1 := (dg_in (sc := sc) (at_ := 3 + (i : Int)) (many := 2) (base := 1009 * 4096) (k := 1) (by decide) (by decide)).1
    refine dss_cons (ds_set 6 (de_own (dv_c (ok_digits Z) hr (da_cons (de_var 0 rfl) (da_cons (dv_is (s' := .im (.int (3 + (i : Int)))) (de_add de_int (de_var 5 rfl)) (by rw [Int.zero_add])) (da_cons de_int (da_cons (de_mul de_int de_int (.inr (by decide))) da_nil)))) ⟨sc, 3 + (i : Int), 2, 1009 * 4096, rfl, by omega, by decide, by decide, by decide, by decide, rfl⟩)) ?_ scLaw.nd)
    generalize dg sc (3 + (i : Int)) 2 (1009 * 4096) 0 = e0 at d0 rw0
    generalize dg sc (3 + (i : Int)) 2 (1009 * 4096) 1 = e1 at d1 rw0 p1
    generalize digits sc (3 + (i : Int)) 2 (1009 * 4096) = md at d0 d1 dl ⊢
    refine dss_cons (ds_set 7 (s := .im (.lst (((some_ ns e0).take 3).map .str))) (dv_is (de_own (dv_slL (de_own (dv_c (ok_some Z) hr (da_cons (de_var 1 rfl) (da_cons (de_ixL (de_var 6 rfl) de_int (lk_int (j := 0) rfl d0)) da_nil)) ⟨ns, e0, rfl, by omega, rfl⟩)) do_none (do_some de_int))) (by rw [show (3 : Int) = ((3 : Nat) : Int) from rfl, cutG_take, List.map_take])) ?_ scLaw.nd)
    have esn : someN ns e0 3 = if (some_ ns e0).take 3 ≠ [] then (some_ ns e0).take 3 else ns.take 1 := rfl
    generalize (some_ ns e0).take 3 = so1 at esn ⊢
    have hi9 : (e1 % 9).toNat < (ns ++ [q5S]).length := by rw [List.length_append, hlen]; show _ < 9; omega
    have ll : (((List.range i).map (rowM sc ns)).map rwD).length = i := by rw [List.length_map, List.length_map, List.length_range]
    refine dss_one (ds_append (d := rwD (rowM sc ns i)) 4 rfl (dv_is (de_tup (da_cons (de_ixL (xs := (ns ++ [q5S]).map .str) (dv_is (de_own (dv_cat (de_var 1 rfl) (de_own (dv_lst (da_cons de_str da_nil) (by show 1 ≤ 100000; decide))) (by rw [List.length_map, hlen]; show 8 + 1 ≤ _; decide))) (by rw [List.map_append]; rfl)) (de_mod (de_ixL (de_var 6 rfl) de_int (lk_int (j := 1) rfl d1)) de_int (by decide)) (lk_str (j := (e1 % 9).toNat) (by omega) (List.getElem?_eq_getElem hi9))) (da_cons (d := .lst ((someN ns e0 3).map .str)) (dv_if (x := !decide (so1 = [])) (dt_neX (x := so1) (y := []) (de_var 7 rfl) (de_own (dv_lst da_nil (by decide))) (units_of hr)) (fun h => ?_) (fun h => ?_)) da_nil)) (by show 2 ≤ 100000; decide)) (by
      rw [rw0, List.getD_eq_getElem?_getD, List.getElem?_eq_getElem hi9]
      rfl)) (by rw [ll]; omega) ?_)
    · have h' : so1 ≠ [] := by simpa using h
      rw [esn, if_pos h']
      exact de_var 7 rfl
    · have h' : ¬ so1 ≠ [] := by simpa using h
      rw [esn, if_neg h', List.map_take]
      exact dv_is (de_own (dv_slL (de_var 1 rfl) do_none (do_some de_int))) (congrArg (fun l => DS.im (D.lst l)) (cutG_take (k := 1)))
    · show _ = _
      rw [List.range_succ, List.map_append, List.map_append]
      rfl
  obtain ⟨rows, hrows⟩ : ∃ rows, rows = (List.range many).map (rowM sc ns) := ⟨_, rfl⟩
  have e3 : (2 + x1 % 3).toNat = many := by omega
  have hrl : rows.length = many := by rw [hrows, List.length_map, List.length_range]
  have hrk : ∀ r ∈ rows, RowOk b r := fun r hr => by
    rw [hrows] at hr
    obtain ⟨t, _, rfl⟩ := List.mem_map.mp hr
    exact rok t
  have hrn : ∀ r ∈ rows, r.2.Nodup := fun r hr => (hrk r hr).nms.nd
  have hprod : rows.length * b.length < 200 := by
    have : rows.length * b.length ≤ 4 * 5 := Nat.mul_le_mul (by omega) hbl5
    omega
  rw [Int.toNat_natCast, ← hrows]
  refine dss_freeze 4 rfl rfl ?_
  obtain ⟨s5, hs5m, hs5⟩ := name_lk (ns := ns) (i := x5 % 8) (by omega) (by omega)
  refine dss_cons (ds_forE (e := fun q : Int × Str => D.tup [.int q.1, .str q.2]) (xs := [(x2, ("" : Str)), (x3, ("" : Str)), (x4, s5)]) [8, 9, 10, 11, 12] (fun _ => [.im (.lst (sc.map .int)), .im (.lst (ns.map .str)), .im (.lst (dr.map .int)), .im (bkD b), .im (.lst (rows.map rwD)), .no, .no, .no, .no, .no, .no, .no, .no]) (fun q ds1 => (ds1.set 8 (.im (.int q.1))).set 9 (.im (.str q.2))) rfl
    (di_tup (de_tup (da_cons (de_tup (da_cons (de_ixL (de_var 2 rfl) de_int (lk_int (j := 2) rfl g2)) (da_cons de_str da_nil)) (by show 2 ≤ 100000; decide)) (da_cons (de_tup (da_cons (de_ixL (de_var 2 rfl) de_int (lk_int (j := 3) rfl g3)) (da_cons de_str da_nil)) (by show 2 ≤ 100000; decide)) (da_cons (de_tup (da_cons (de_ixL (de_var 2 rfl) de_int (lk_int (j := 4) rfl g4)) (da_cons (de_ixL (de_var 1 rfl) (de_mod (de_ixL (de_var 2 rfl) de_int (lk_int (j := 5) rfl g5)) de_int (by decide)) hs5) da_nil)) (by show 2 ≤ 100000; decide)) da_nil))) (by show 3 ≤ 100000; decide)))
    (fun q _ ds1 => dg_tup (dgs_cons (dg_name 8 scLaw.nd) (dgs_cons (dg_name 9 scLaw.nd) dgs_nil))) (fun i q hi => ?_) ?_ PassesOwn.never)
  · obtain ⟨cell, d⟩ := q
    refine dss_cons (ds_set 10 (dv_c (ok_posted Z) hr (da_cons (de_var 3 rfl) (da_cons (de_var 4 rfl) da_nil)) ⟨b, rows, rfl, hb, by omega, by omega, hrk, rfl⟩) ?_ scLaw.nd)
    refine dss_pin 10 rfl rfl fun p => ?_
    refine dss_cons (ds_ifM (x := !true) (dm_not (dm_tr (dm_c 10 (ok_letall Z) hr rfl rfl (da_cons (de_var 1 rfl) (da_cons (de_var 8 rfl) (da_cons (de_var 9 rfl) da_nil))) ⟨b, postM b rows, rows, ns, cell, d, rfl, rfl, hb, by omega, hrk, by omega, hprod, hN.nm, by omega, inv_posted d rows, rfl, rfl⟩))) (fun hc => by cases hc) (fun _ => dss_nil ?_))
    obtain ⟨S, h0⟩ := run_ok (cell := cell) hb hrn 200 0 (postM b rows) [] (inv_posted d rows) (gone_nil b rows _) (by omega)
    generalize runM b d cell 200 0 (postM b rows) = Ls at S h0
    have hgd := done_got hb hrn S h0
    have lsl : Ls.length ≤ 1000 := by rw [S.len]; omega
    have vw : (some (DS.im (poT b Ls).fz)) = some (.im (poD b Ls)) := congrArg (fun d => some (DS.im d)) (poT_fz b Ls)
    refine dss_one (ds_forE (e := D.str) (xs := ns) [11, 12] (fun _ => [.im (.lst (sc.map .int)), .im (.lst (ns.map .str)), .im (.lst (dr.map .int)), .im (bkD b), .im (.lst (rows.map rwD)), .no, .no, .no, .im (.int cell), .im (.str d), .ot (some p) (poT b Ls), .no, .no]) (fun x ds1 => ds1.set 11 (.im (.str x))) rfl (di_list (de_var 1 rfl)) (fun x _ ds1 => dg_name 11 scLaw.nd) (fun j x hj => ?_) rfl PassesOwn.never)
    have hx := hN.nm x (List.mem_of_getElem? hj)
    refine dss_cons (ds_set 12 (dv_c (ok_duel Z) hr (da_cons (de_var 3 rfl) (da_cons (de_var 4 rfl) (da_cons (de_var 11 rfl) (da_cons (de_var 9 rfl) da_nil)))) ⟨b, rows, x, d, rfl, hb, by omega, by omega, hrk, rfl⟩) ?_ scLaw.nd)
    have hm : d = ("" : Str) → dueM b rows x d = meantM b rows x := fun z => by
      rw [z]
      exact due_meant hb hrn
    refine dss_one (ds_if (x := false) (dt_is (dt_w (dw_or (x := false) (y := decide (d = ("" : Str)) && !decide (dueM b rows x d = meantM b rows x)) (dt_is (dt_viewU 10 rfl (dt_neX (x := gotM Ls x) (y := dueM b rows x d) (de_own (dv_meth (ok_got Z) hr (de_var 10 (d := poD b Ls) vw) (da_cons (de_var 11 rfl) da_nil) ⟨b, Ls, x, rfl, hx, lsl, rfl⟩)) (de_var 12 rfl) (units_of hr))) (by rw [hgd, decide_eq_true rfl]; rfl)) fun _ => dw_or1 (dt_w (dw_and (dt_eqS (de_var 9 rfl) de_str) fun _ => dw_and1 (dt_viewU 10 rfl (dt_neX (x := dueM b rows x d) (y := meantM b rows x) (de_var 12 rfl) (de_own (dv_c (ok_meant Z) hr (da_cons (de_var 10 (d := poD b Ls) vw) (da_cons (de_var 4 rfl) (da_cons (de_var 11 rfl) da_nil))) ⟨b, Ls, rows, x, rfl, hb, by omega, by omega, hrk, rfl⟩)) (units_of hr))))))) (by
      by_cases z : d = ("" : Str)
      · rw [hm z, decide_eq_true rfl, Bool.not_true, Bool.and_false]
        rfl
      · rw [decide_eq_false z]
        rfl)) (fun hc => by cases hc) (fun _ => dss_nil rfl))
  · exact dss_one (ds_ret de_bl rfl)

set_option maxHeartbeats 0
/-! ### the head -/
abbrev R : PySem.W.OpenRow := PySem.W.OpenLaw.row PySem.Challenge.rw_listpost_k12_whole_let_on
def fn_0 : He.DefD := ⟨("is_name", none), "is_name", "is_name", defArgs S_is_name, defBody S_is_name, defScope S_is_name, [], []⟩
def fn_1 : He.DefD := ⟨("are_names", none), "are_names", "are_names", defArgs S_are_names, defBody S_are_names, defScope S_are_names, [], []⟩
def fn_2 : He.DefD := ⟨("rank", none), "rank", "rank", defArgs S_rank, defBody S_rank, defScope S_rank, [], []⟩
def fn_3 : He.DefD := ⟨("in_order", none), "in_order", "in_order", defArgs S_in_order, defBody S_in_order, defScope S_in_order, [], []⟩
def fn_4 : He.DefD := ⟨("is_entry", none), "is_entry", "is_entry", defArgs S_is_entry, defBody S_is_entry, defScope S_is_entry, [], []⟩
def fn_5 : He.DefD := ⟨("lists_of", none), "lists_of", "lists_of", defArgs S_lists_of, defBody S_lists_of, defScope S_lists_of, [], []⟩
def fn_6 : He.DefD := ⟨("book_of", none), "book_of", "book_of", defArgs S_book_of, defBody S_book_of, defScope S_book_of, [], []⟩
def fn_7 : He.DefD := ⟨("check_name", none), "check_name", "check_name", defArgs S_check_name, defBody S_check_name, defScope S_check_name, [], []⟩
def fn_8 : He.DefD := ⟨("check_names", none), "check_names", "check_names", defArgs S_check_names, defBody S_check_names, defScope S_check_names, [], []⟩
def fn_9 : He.DefD := ⟨("check_letter", none), "check_letter", "check_letter", defArgs S_check_letter, defBody S_check_letter, defScope S_check_letter, [], []⟩
def fn_10 : He.DefD := ⟨("come_to", none), "come_to", "come_to", defArgs S_come_to, defBody S_come_to, defScope S_come_to, [], []⟩
def fn_11 : He.DefD := ⟨("reached_by", none), "reached_by", "reached_by", defArgs S_reached_by, defBody S_reached_by, defScope S_reached_by, [], []⟩
def fn_12 : He.DefD := ⟨("stands_for", none), "stands_for", "stands_for", defArgs S_stands_for, defBody S_stands_for, defScope S_stands_for, [], []⟩
def fn_13 : He.DefD := ⟨("lets_in", none), "lets_in", "lets_in", defArgs S_lets_in, defBody S_lets_in, defScope S_lets_in, [], []⟩
def fn_14 : He.DefD := ⟨("holding", none), "holding", "holding", defArgs S_holding, defBody S_holding, defScope S_holding, [], []⟩
def fn_15 : He.DefD := ⟨("_law_draw", none), "_law_draw", "_law_draw", defArgs S_law_draw, defBody S_law_draw, defScope S_law_draw, [], []⟩
def fn_16 : He.DefD := ⟨("_law_cell_at", none), "_law_cell_at", "_law_cell_at", defArgs S_law_cell_at, defBody S_law_cell_at, defScope S_law_cell_at, [], []⟩
def fn_17 : He.DefD := ⟨("_law_digits", none), "_law_digits", "_law_digits", defArgs S_law_digits, defBody S_law_digits, defScope S_law_digits, [], []⟩
def fn_18 : He.DefD := ⟨("_law_letters", none), "_law_letters", "_law_letters", defArgs S_law_letters, defBody S_law_letters, defScope S_law_letters, [], []⟩
def fn_19 : He.DefD := ⟨("_law_names", none), "_law_names", "_law_names", defArgs S_law_names, defBody S_law_names, defScope S_law_names, [], []⟩
def fn_20 : He.DefD := ⟨("_law_some", none), "_law_some", "_law_some", defArgs S_law_some, defBody S_law_some, defScope S_law_some, [], []⟩
def fn_21 : He.DefD := ⟨("_law_entry", none), "_law_entry", "_law_entry", defArgs S_law_entry, defBody S_law_entry, defScope S_law_entry, [], []⟩
def fn_22 : He.DefD := ⟨("_law_book", none), "_law_book", "_law_book", defArgs S_law_book, defBody S_law_book, defScope S_law_book, [], []⟩
def fn_23 : He.DefD := ⟨("_law_copy", none), "_law_copy", "_law_copy", defArgs S_law_copy, defBody S_law_copy, defScope S_law_copy, [], []⟩
def fn_24 : He.DefD := ⟨("_law_rank", none), "_law_rank", "_law_rank", defArgs S_law_rank, defBody S_law_rank, defScope S_law_rank, [], []⟩
def fn_25 : He.DefD := ⟨("_law_met", none), "_law_met", "_law_met", defArgs S_law_met, defBody S_law_met, defScope S_law_met, [], []⟩
def fn_26 : He.DefD := ⟨("_law_lists", none), "_law_lists", "_law_lists", defArgs S_law_lists, defBody S_law_lists, defScope S_law_lists, [], []⟩
def fn_27 : He.DefD := ⟨("_law_all", none), "_law_all", "_law_all", defArgs S_law_all, defBody S_law_all, defScope S_law_all, [], []⟩
def fn_28 : He.DefD := ⟨("_law_reached", none), "_law_reached", "_law_reached", defArgs S_law_reached, defBody S_law_reached, defScope S_law_reached, [], []⟩
def fn_29 : He.DefD := ⟨("_law_passed", none), "_law_passed", "_law_passed", defArgs S_law_passed, defBody S_law_passed, defScope S_law_passed, [], []⟩
def fn_30 : He.DefD := ⟨("_law_posted", none), "_law_posted", "_law_posted", defArgs S_law_posted, defBody S_law_posted, defScope S_law_posted, [], []⟩
def fn_31 : He.DefD := ⟨("_law_let_all", none), "_law_let_all", "_law_let_all", defArgs S_law_let_all, defBody S_law_let_all, defScope S_law_let_all, [], []⟩
def fn_32 : He.DefD := ⟨("_law_due", none), "_law_due", "_law_due", defArgs S_law_due, defBody S_law_due, defScope S_law_due, [], []⟩
def fn_33 : He.DefD := ⟨("_law_meant", none), "_law_meant", "_law_meant", defArgs S_law_meant, defBody S_law_meant, defScope S_law_meant, [], []⟩
def fn_34 : He.DefD := ⟨("law", none), "law", "law", defArgs S_law, defBody S_law, defScope S_law, [], []⟩
def fn_35 : He.DefD := ⟨("Entry", some "__init__"), "__init__", "Entry.__init__", defArgs S_Entry_init, defBody S_Entry_init, defScope S_Entry_init, [], []⟩
def fn_36 : He.DefD := ⟨("Entry", some "told"), "told", "Entry.told", defArgs S_Entry_told, defBody S_Entry_told, defScope S_Entry_told, [], []⟩
def fn_37 : He.DefD := ⟨("Letter", some "__init__"), "__init__", "Letter.__init__", defArgs S_Letter_init, defBody S_Letter_init, defScope S_Letter_init, [], []⟩
def fn_38 : He.DefD := ⟨("Letter", some "goes"), "goes", "Letter.goes", defArgs S_Letter_goes, defBody S_Letter_goes, defScope S_Letter_goes, [], []⟩
def fn_39 : He.DefD := ⟨("Letter", some "copy_of"), "copy_of", "Letter.copy_of", defArgs S_Letter_copy_of, defBody S_Letter_copy_of, defScope S_Letter_copy_of, [], []⟩
def fn_40 : He.DefD := ⟨("Post", some "__init__"), "__init__", "Post.__init__", defArgs S_Post_init, defBody S_Post_init, defScope S_Post_init, [], []⟩
def fn_41 : He.DefD := ⟨("Post", some "book"), "book", "Post.book", defArgs S_Post_book, defBody S_Post_book, defScope S_Post_book, [], []⟩
def fn_42 : He.DefD := ⟨("Post", some "people"), "people", "Post.people", defArgs S_Post_people, defBody S_Post_people, defScope S_Post_people, [], []⟩
def fn_43 : He.DefD := ⟨("Post", some "found"), "found", "Post.found", defArgs S_Post_found, defBody S_Post_found, defScope S_Post_found, [], []⟩
def fn_44 : He.DefD := ⟨("Post", some "looked_at"), "looked_at", "Post.looked_at", defArgs S_Post_looked_at, defBody S_Post_looked_at, defScope S_Post_looked_at, [], []⟩
def fn_45 : He.DefD := ⟨("Post", some "put_in"), "put_in", "Post.put_in", defArgs S_Post_put_in, defBody S_Post_put_in, defScope S_Post_put_in, [], []⟩
def fn_46 : He.DefD := ⟨("Post", some "take_out"), "take_out", "Post.take_out", defArgs S_Post_take_out, defBody S_Post_take_out, defScope S_Post_take_out, [], []⟩
def fn_47 : He.DefD := ⟨("Post", some "enter"), "enter", "Post.enter", defArgs S_Post_enter, defBody S_Post_enter, defScope S_Post_enter, [], []⟩
def fn_48 : He.DefD := ⟨("Post", some "strike"), "strike", "Post.strike", defArgs S_Post_strike, defBody S_Post_strike, defScope S_Post_strike, [], []⟩
def fn_49 : He.DefD := ⟨("Post", some "leave"), "leave", "Post.leave", defArgs S_Post_leave, defBody S_Post_leave, defScope S_Post_leave, [], []⟩
def fn_50 : He.DefD := ⟨("Post", some "come_back"), "come_back", "Post.come_back", defArgs S_Post_come_back, defBody S_Post_come_back, defScope S_Post_come_back, [], []⟩
def fn_51 : He.DefD := ⟨("Post", some "send"), "send", "Post.send", defArgs S_Post_send, defBody S_Post_send, defScope S_Post_send, [], []⟩
def fn_52 : He.DefD := ⟨("Post", some "letter_of"), "letter_of", "Post.letter_of", defArgs S_Post_letter_of, defBody S_Post_letter_of, defScope S_Post_letter_of, [], []⟩
def fn_53 : He.DefD := ⟨("Post", some "held_by"), "held_by", "Post.held_by", defArgs S_Post_held_by, defBody S_Post_held_by, defScope S_Post_held_by, [], []⟩
def fn_54 : He.DefD := ⟨("Post", some "held"), "held", "Post.held", defArgs S_Post_held, defBody S_Post_held, defScope S_Post_held, [], []⟩
def fn_55 : He.DefD := ⟨("Post", some "let"), "let", "Post.let", defArgs S_Post_let, defBody S_Post_let, defScope S_Post_let, [], []⟩
def fn_56 : He.DefD := ⟨("Post", some "drop"), "drop", "Post.drop", defArgs S_Post_drop, defBody S_Post_drop, defScope S_Post_drop, [], []⟩
def fn_57 : He.DefD := ⟨("Post", some "got"), "got", "Post.got", defArgs S_Post_got, defBody S_Post_got, defScope S_Post_got, [], []⟩
def fn_58 : He.DefD := ⟨("Post", some "letter"), "letter", "Post.letter", defArgs S_Post_letter, defBody S_Post_letter, defScope S_Post_letter, [], []⟩
def fn_59 : He.DefD := ⟨("Post", some "twin"), "twin", "Post.twin", defArgs S_Post_twin, defBody S_Post_twin, defScope S_Post_twin, [], []⟩
def fnp_0 : List He.DefD := [fn_0, fn_1, fn_2, fn_3, fn_4, fn_5, fn_6, fn_7, fn_8, fn_9, fn_10, fn_11, fn_12, fn_13, fn_14, fn_15, fn_16, fn_17, fn_18, fn_19, fn_20, fn_21, fn_22, fn_23, fn_24, fn_25, fn_26, fn_27, fn_28, fn_29]
def fnp_1 : List He.DefD := [fn_30, fn_31, fn_32, fn_33, fn_34, fn_35, fn_36, fn_37, fn_38, fn_39, fn_40, fn_41, fn_42, fn_43, fn_44, fn_45, fn_46, fn_47, fn_48, fn_49, fn_50, fn_51, fn_52, fn_53, fn_54, fn_55, fn_56, fn_57, fn_58, fn_59]
def fn : List He.DefD := fnp_0 ++ fnp_1
def fap_0 : List He.Fa := [.free "len", .free "abs", .free "sum", .free "range", .free "enumerate", .free "isinstance", .free "all", .free "any", .free "list", .free "set", .free "str", .free "sorted", .free "zip", .free "int", .free "bool", .free "tuple", .free "ValueError", .str "LETTERS" "abcdefghijklmnopqrstuvwxyz", .int "LONGEST" 20, .glo "is_name", .glo "are_names", .glo "rank", .glo "in_order", .glo "is_entry", .glo "lists_of", .glo "book_of", .glo "check_name", .glo "check_names", .glo "check_letter", .glo "come_to"]
def fap_1 : List He.Fa := [.glo "reached_by", .glo "stands_for", .glo "lets_in", .glo "holding", .glo "_law_draw", .glo "_law_cell_at", .glo "_law_digits", .glo "_law_letters", .glo "_law_names", .glo "_law_some", .glo "_law_entry", .glo "_law_book", .glo "_law_copy", .glo "_law_rank", .glo "_law_met", .glo "_law_lists", .glo "_law_all", .glo "_law_reached", .glo "_law_passed", .glo "_law_posted", .glo "_law_let_all", .glo "_law_due", .glo "_law_meant", .glo "law", .glo "Entry", .cls "Entry", .noat "Entry" "members", .noat "Entry" "left", .noat "Entry" "gate", .mkr "Entry"]
def fap_2 : List He.Fa := [.meth "Entry" "told", .glo "Letter", .cls "Letter", .noat "Letter" "sender", .noat "Letter" "names", .noat "Letter" "had", .noat "Letter" "stays", .noat "Letter" "passed", .noat "Letter" "dropped", .mkr "Letter", .meth "Letter" "goes", .meth "Letter" "copy_of", .glo "Post", .cls "Post", .noat "Post" "lists", .noat "Post" "letters", .mkr "Post", .meth "Post" "book", .meth "Post" "people", .meth "Post" "found", .meth "Post" "looked_at", .meth "Post" "put_in", .meth "Post" "take_out", .meth "Post" "enter", .meth "Post" "strike", .meth "Post" "leave", .meth "Post" "come_back", .meth "Post" "bar", .meth "Post" "send", .meth "Post" "letter_of"]
def fap_3 : List He.Fa := [.meth "Post" "held_by", .meth "Post" "held", .meth "Post" "let", .meth "Post" "drop", .meth "Post" "got", .meth "Post" "letter", .meth "Post" "twin", .glo "PostError", .exc "PostError", .glo "BadBook", .glo "BadName", .exc "BadName", .glo "BadNames", .exc "BadNames", .glo "Twice", .exc "Twice", .glo "NoLetter", .exc "NoLetter", .glo "NotHeld", .exc "NotHeld"]
def fa : List He.Fa := fap_0 ++ fap_1 ++ fap_2 ++ fap_3
def lo_0 : List Str := ["_wall", "__name__", "PostError", "BadBook", "BadName", "BadNames", "Twice", "NoLetter", "NotHeld", "LETTERS", "LONGEST", "is_name", "are_names", "rank", "in_order", "Entry", "is_entry", "lists_of", "book_of", "check_name", "check_names", "check_letter", "come_to", "reached_by", "stands_for", "lets_in", "holding", "Letter", "Post", "_law_draw"]
def lo_1 : List Str := ["_law_cell_at", "_law_digits", "_law_letters", "_law_names", "_law_some", "_law_entry", "_law_book", "_law_copy", "_law_rank", "_law_met", "_law_lists", "_law_all", "_law_reached", "_law_passed", "_law_posted", "_law_let_all", "_law_due", "_law_meant"]
def loose : List Str := lo_0 ++ lo_1
def tfN : List (He.Defn × Str) := [(("reached_by", none), "reached_by.<locals>.goes"), (("stands_for", none), "stands_for.<locals>.<lambda>"), (("Letter", some "goes"), "Letter.goes.<locals>.passes")]
def iscL : List (Str × Str × Bool) := []
def iscB (K : PySem.W.Frag) (c d : Str) (b : Bool) : Bool := He.eqO (PySem.W.findIn K (.ref (He.ga K c)) "__class__") (some (some (.builtin "object.__class__"))) && (He.eqO (PySem.W.specialIn K (.builtin "object.__class__") "__get__") (some (some (.builtin "getset_descriptor.__get__"))) && (decide (PySem.W.takesIn K (.builtin "object.__class__") = some true) && (decide (PySem.W.mroIn K (He.ga K c) (.type "object") = some true) && (decide (PySem.W.kitOne K (.ref (He.ga K c)) (.ref (He.ga K c)) = some true) && decide (PySem.W.kitOne K (.ref (He.ga K c)) (.ref (He.ga K d)) = some b)))))
def exI (K : PySem.W.Frag) : Bool := iscL.all fun p => iscB K p.1 p.2.1 p.2.2
theorem isc_at {K : PySem.W.Frag} {c d : Str} {b : Bool} (hk : Cls K (He.ga K c)) (h : exI K = true) (i : Nat) (hi : iscL[i]? = some (c, d, b)) : IsC K (He.ga K c) (He.ga K d) b := by
  have z := List.all_eq_true.mp h _ (List.mem_of_getElem? hi)
  unfold iscB at z
  simp only [Bool.and_eq_true, decide_eq_true_eq] at z
  exact ⟨⟨hk, He.eqO_ok z.1, He.eqO_ok z.2.1, z.2.2.1, z.2.2.2.1, z.2.2.2.2.1⟩, z.2.2.2.2.2⟩
def tf : List He.Defn := tfN.map (·.1)
def exB (K : PySem.W.Frag) : Bool := decide ((tf.map fun p => (He.cT K p).2).Nodup) && exI K
def tabsOf (K : PySem.W.Frag) : List NdefX.NTab := tfN.map fun m => ((He.cT K m.1).2, fun _ _ => m.2)
abbrev hk : PySem.W.Hook := He.hookX 4 fa fn [] tf exB
def ob (s : PySem.W.SharedT) : He.AlX := He.obsX 4 fa fn [] tf exB (HandSHeadRun.getT s)
theorem ob_eq (s : PySem.W.SharedT) : ob s = hk.obs s.abs := He.obsX_eq (HandSHeadRun.getT_eq s)
theorem run (w : World) : HandSHeadRun.RunEq R (PySem.W.view R.prog [51]) hk ob 8000 loose w := by
  intro os
  kernel_rfl
theorem nd_inj {α β : Type} [DecidableEq β] {f : α → β} : ∀ {l : List α}, (l.map f).Nodup → ∀ {a b : α}, a ∈ l → b ∈ l → f a = f b → a = b
  | [], _, _, _, ha, _, _ => by cases ha
  | x :: l, hn, a, b, ha, hb, h => by
    rw [List.map_cons, List.nodup_cons] at hn
    rcases List.mem_cons.mp ha with h1 | h1
    · rcases List.mem_cons.mp hb with h2 | h2
      · rw [h1, h2]
      · exact absurd (by rw [← h1, h]; exact List.mem_map_of_mem h2) hn.1
    · rcases List.mem_cons.mp hb with h2 | h2
      · exact absurd (by rw [← h2, ← h]; exact List.mem_map_of_mem h1) hn.1
      · exact nd_inj hn.2 h1 h2 h
theorem tab_at {P : Program} {w : World} {K : PySem.W.Frag} {base : Heap} {mg : Str → Option Value} (tb : ∀ p ∈ tf.map (He.cT K), LamX.TabB base mg p.1 p.2) (nd : (tf.map fun p => (He.cT K p).2).Nodup) (i : Nat) {m : He.Defn × Str} (hm : tfN[i]? = some m) {f : Addr} {x qq : Str} {ps : Arguments} {b : List Stmt} {sc : Scope} {dv : List V} {kw : List (Str × V)} (F : FunD K x qq ps b sc dv kw f (fdOf K f)) (hf : He.fAd K m.1 = f) : HasTab ⟨P, w, K, mg, base, tabsOf K⟩ f m.2 := by
  obtain ⟨oc, od, dV, kV, doc, pm, an, cdv, ct, osl, e1, lk, hcd, _, _⟩ := F.ex
  obtain ⟨c, rfl⟩ := He.codeIn_ref hcd
  have ec : (fdOf K f).code = .ref c := by rw [e1]
  have e2 : He.codeOf K m.1 = c := He.codeOf_eq (by rw [hf]; exact lk) ec
  have hmm : m ∈ tfN := List.mem_of_getElem? hm
  have e3 : He.cT K m.1 = (c, He.tabOf K c) := by unfold He.cT; rw [e2]
  refine ⟨c, He.tabOf K c, ec, ?_, ?_, fun p hp e => ?_⟩
  · have z := tb (He.cT K m.1) (List.mem_map_of_mem (List.mem_map_of_mem hmm))
    rw [e3] at z
    exact z
  · have z : ((He.cT K m.1).2, fun _ _ => m.2) ∈ tabsOf K := List.mem_map_of_mem (f := fun m : He.Defn × Str => (((He.cT K m.1).2, fun _ _ => m.2) : NdefX.NTab)) hmm
    rw [e3] at z
    exact z
  · obtain ⟨m2, h2, rfl⟩ := List.mem_map.mp (show p ∈ tfN.map fun m => (((He.cT K m.1).2, fun _ _ => m.2) : NdefX.NTab) from hp)
    have e4 : (He.cT K m2.1).2 = (He.cT K m.1).2 := by rw [e3]; exact e
    have nd2 : (tfN.map fun m => (He.cT K m.1).2).Nodup := by
      have z := nd
      unfold tf at z
      rw [List.map_map] at z
      exact z
    have e5 : m2 = m := nd_inj nd2 h2 hmm e4
    rw [e5]
theorem facts_of {P : Program} {w : World} {K : PySem.W.Frag} {h base : Heap} {mg : Str → Option Value} (X : K.In h) (Gn : h.Ns mainGlobals mg) (c : He.SaysD fa fn K) (tb : ∀ p ∈ tf.map (He.cT K), LamX.TabB base mg p.1 p.2) (nd : (tf.map fun p => (He.cT K p).2).Nodup) (xb : exI K = true) : Facts ⟨P, w, K, mg, base, tabsOf K⟩ := ⟨
He.free_ok X Gn (c.fact 0 (f := .free "len") rfl),
  He.free_ok X Gn (c.fact 1 (f := .free "abs") rfl),
  He.free_ok X Gn (c.fact 2 (f := .free "sum") rfl),
  He.free_ok X Gn (c.fact 3 (f := .free "range") rfl),
  He.free_ok X Gn (c.fact 4 (f := .free "enumerate") rfl),
  He.free_ok X Gn (c.fact 5 (f := .free "isinstance") rfl),
  He.free_ok X Gn (c.fact 6 (f := .free "all") rfl),
  He.free_ok X Gn (c.fact 7 (f := .free "any") rfl),
  He.free_ok X Gn (c.fact 8 (f := .free "list") rfl),
  He.free_ok X Gn (c.fact 9 (f := .free "set") rfl),
  He.free_ok X Gn (c.fact 10 (f := .free "str") rfl),
  He.free_ok X Gn (c.fact 11 (f := .free "sorted") rfl),
  He.free_ok X Gn (c.fact 12 (f := .free "zip") rfl),
  He.free_ok X Gn (c.fact 13 (f := .free "int") rfl),
  He.free_ok X Gn (c.fact 14 (f := .free "bool") rfl),
  He.free_ok X Gn (c.fact 15 (f := .free "tuple") rfl),
  He.free_ok X Gn (c.fact 16 (f := .free "ValueError") rfl),
  He.str_ok X Gn (c.fact 17 (f := .str "LETTERS" "abcdefghijklmnopqrstuvwxyz") rfl),
  He.int_ok X Gn (c.fact 18 (f := .int "LONGEST" 20) rfl),
  He.glo_ok X Gn (c.fact 19 (f := .glo "is_name") rfl),
  funD_of (c.def_ 0 (d := fn_0) rfl),
  FunD.bindsN (ps := ["thing"]) (funD_of (c.def_ 0 (d := fn_0) rfl)) fun _ _ _ _ _ _ us hl => match us, hl with | [_], _ => rfl,
  He.glo_ok X Gn (c.fact 20 (f := .glo "are_names") rfl),
  funD_of (c.def_ 1 (d := fn_1) rfl),
  FunD.bindsN (ps := ["thing"]) (funD_of (c.def_ 1 (d := fn_1) rfl)) fun _ _ _ _ _ _ us hl => match us, hl with | [_], _ => rfl,
  He.glo_ok X Gn (c.fact 21 (f := .glo "rank") rfl),
  funD_of (c.def_ 2 (d := fn_2) rfl),
  FunD.bindsN (ps := ["name"]) (funD_of (c.def_ 2 (d := fn_2) rfl)) fun _ _ _ _ _ _ us hl => match us, hl with | [_], _ => rfl,
  He.glo_ok X Gn (c.fact 22 (f := .glo "in_order") rfl),
  funD_of (c.def_ 3 (d := fn_3) rfl),
  FunD.bindsN (ps := ["names"]) (funD_of (c.def_ 3 (d := fn_3) rfl)) fun _ _ _ _ _ _ us hl => match us, hl with | [_], _ => rfl,
  He.glo_ok X Gn (c.fact 23 (f := .glo "is_entry") rfl),
  funD_of (c.def_ 4 (d := fn_4) rfl),
  FunD.bindsN (ps := ["thing"]) (funD_of (c.def_ 4 (d := fn_4) rfl)) fun _ _ _ _ _ _ us hl => match us, hl with | [_], _ => rfl,
  He.glo_ok X Gn (c.fact 24 (f := .glo "lists_of") rfl),
  funD_of (c.def_ 5 (d := fn_5) rfl),
  FunD.bindsN (ps := ["book"]) (funD_of (c.def_ 5 (d := fn_5) rfl)) fun _ _ _ _ _ _ us hl => match us, hl with | [_], _ => rfl,
  He.glo_ok X Gn (c.fact 25 (f := .glo "book_of") rfl),
  funD_of (c.def_ 6 (d := fn_6) rfl),
  FunD.bindsN (ps := ["lists"]) (funD_of (c.def_ 6 (d := fn_6) rfl)) fun _ _ _ _ _ _ us hl => match us, hl with | [_], _ => rfl,
  He.glo_ok X Gn (c.fact 26 (f := .glo "check_name") rfl),
  funD_of (c.def_ 7 (d := fn_7) rfl),
  FunD.bindsN (ps := ["name"]) (funD_of (c.def_ 7 (d := fn_7) rfl)) fun _ _ _ _ _ _ us hl => match us, hl with | [_], _ => rfl,
  He.glo_ok X Gn (c.fact 27 (f := .glo "check_names") rfl),
  funD_of (c.def_ 8 (d := fn_8) rfl),
  FunD.bindsN (ps := ["names"]) (funD_of (c.def_ 8 (d := fn_8) rfl)) fun _ _ _ _ _ _ us hl => match us, hl with | [_], _ => rfl,
  He.glo_ok X Gn (c.fact 28 (f := .glo "check_letter") rfl),
  funD_of (c.def_ 9 (d := fn_9) rfl),
  FunD.bindsN (ps := ["sender", "names"]) (funD_of (c.def_ 9 (d := fn_9) rfl)) fun _ _ _ _ _ _ us hl => match us, hl with | [_, _], _ => rfl,
  He.glo_ok X Gn (c.fact 29 (f := .glo "come_to") rfl),
  funD_of (c.def_ 10 (d := fn_10) rfl),
  FunD.bindsN (ps := ["lists", "names", "goes"]) (funD_of (c.def_ 10 (d := fn_10) rfl)) fun _ _ _ _ _ _ us hl => match us, hl with | [_, _, _], _ => rfl,
  He.glo_ok X Gn (c.fact 30 (f := .glo "reached_by") rfl),
  funD_of (c.def_ 11 (d := fn_11) rfl),
  FunD.bindsN (ps := ["lists", "names", "passes"]) (funD_of (c.def_ 11 (d := fn_11) rfl)) fun _ _ _ _ _ _ us hl => match us, hl with | [_, _, _], _ => rfl,
  He.glo_ok X Gn (c.fact 31 (f := .glo "stands_for") rfl),
  funD_of (c.def_ 12 (d := fn_12) rfl),
  FunD.bindsN (ps := ["lists", "name"]) (funD_of (c.def_ 12 (d := fn_12) rfl)) fun _ _ _ _ _ _ us hl => match us, hl with | [_, _], _ => rfl,
  He.glo_ok X Gn (c.fact 32 (f := .glo "lets_in") rfl),
  funD_of (c.def_ 13 (d := fn_13) rfl),
  FunD.bindsN (ps := ["lists", "sender"]) (funD_of (c.def_ 13 (d := fn_13) rfl)) fun _ _ _ _ _ _ us hl => match us, hl with | [_, _], _ => rfl,
  He.glo_ok X Gn (c.fact 33 (f := .glo "holding") rfl),
  funD_of (c.def_ 14 (d := fn_14) rfl),
  FunD.bindsN (ps := ["lists", "names", "passes"]) (funD_of (c.def_ 14 (d := fn_14) rfl)) fun _ _ _ _ _ _ us hl => match us, hl with | [_, _, _], _ => rfl,
  He.glo_ok X Gn (c.fact 34 (f := .glo "_law_draw") rfl),
  funD_of (c.def_ 15 (d := fn_15) rfl),
  FunD.bindsN (ps := ["_law_cell", "_law_k", "_law_many"]) (funD_of (c.def_ 15 (d := fn_15) rfl)) fun _ _ _ _ _ _ us hl => match us, hl with | [_, _, _], _ => rfl,
  He.glo_ok X Gn (c.fact 35 (f := .glo "_law_cell_at") rfl),
  funD_of (c.def_ 16 (d := fn_16) rfl),
  FunD.bindsN (ps := ["_law_script", "_law_k"]) (funD_of (c.def_ 16 (d := fn_16) rfl)) fun _ _ _ _ _ _ us hl => match us, hl with | [_, _], _ => rfl,
  He.glo_ok X Gn (c.fact 36 (f := .glo "_law_digits") rfl),
  funD_of (c.def_ 17 (d := fn_17) rfl),
  FunD.bindsN (ps := ["_law_script", "_law_at", "_law_many", "_law_base"]) (funD_of (c.def_ 17 (d := fn_17) rfl)) fun _ _ _ _ _ _ us hl => match us, hl with | [_, _, _, _], _ => rfl,
  He.glo_ok X Gn (c.fact 37 (f := .glo "_law_letters") rfl),
  funD_of (c.def_ 18 (d := fn_18) rfl),
  FunD.bindsN (ps := []) (funD_of (c.def_ 18 (d := fn_18) rfl)) fun _ _ _ _ _ _ us hl => match us, hl with | [], _ => rfl,
  He.glo_ok X Gn (c.fact 38 (f := .glo "_law_names") rfl),
  funD_of (c.def_ 19 (d := fn_19) rfl),
  FunD.bindsN (ps := ["_law_script", "_law_at", "_law_many"]) (funD_of (c.def_ 19 (d := fn_19) rfl)) fun _ _ _ _ _ _ us hl => match us, hl with | [_, _, _], _ => rfl,
  He.glo_ok X Gn (c.fact 39 (f := .glo "_law_some") rfl),
  funD_of (c.def_ 20 (d := fn_20) rfl),
  FunD.bindsN (ps := ["_law_names_here", "_law_number"]) (funD_of (c.def_ 20 (d := fn_20) rfl)) fun _ _ _ _ _ _ us hl => match us, hl with | [_, _], _ => rfl,
  He.glo_ok X Gn (c.fact 40 (f := .glo "_law_entry") rfl),
  funD_of (c.def_ 21 (d := fn_21) rfl),
  FunD.bindsN (ps := ["_law_script", "_law_at", "_law_name", "_law_names_here"]) (funD_of (c.def_ 21 (d := fn_21) rfl)) fun _ _ _ _ _ _ us hl => match us, hl with | [_, _, _, _], _ => rfl,
  He.glo_ok X Gn (c.fact 41 (f := .glo "_law_book") rfl),
  funD_of (c.def_ 22 (d := fn_22) rfl),
  FunD.bindsN (ps := ["_law_script", "_law_at", "_law_names_here", "_law_many"]) (funD_of (c.def_ 22 (d := fn_22) rfl)) fun _ _ _ _ _ _ us hl => match us, hl with | [_, _, _, _], _ => rfl,
  He.glo_ok X Gn (c.fact 42 (f := .glo "_law_copy") rfl),
  funD_of (c.def_ 23 (d := fn_23) rfl),
  FunD.bindsN (ps := ["_law_book_here"]) (funD_of (c.def_ 23 (d := fn_23) rfl)) fun _ _ _ _ _ _ us hl => match us, hl with | [_], _ => rfl,
  He.glo_ok X Gn (c.fact 43 (f := .glo "_law_rank") rfl),
  funD_of (c.def_ 24 (d := fn_24) rfl),
  FunD.bindsN (ps := ["_law_name"]) (funD_of (c.def_ 24 (d := fn_24) rfl)) fun _ _ _ _ _ _ us hl => match us, hl with | [_], _ => rfl,
  He.glo_ok X Gn (c.fact 44 (f := .glo "_law_met") rfl),
  funD_of (c.def_ 25 (d := fn_25) rfl),
  FunD.bindsN (ps := ["_law_book_here", "_law_names_here", "_law_passed_here", "_law_person"]) (funD_of (c.def_ 25 (d := fn_25) rfl)) fun _ _ _ _ _ _ us hl => match us, hl with | [_, _, _, _], _ => rfl,
  He.glo_ok X Gn (c.fact 45 (f := .glo "_law_lists") rfl),
  funD_of (c.def_ 26 (d := fn_26) rfl),
  FunD.bindsN (ps := ["_law_book_here"]) (funD_of (c.def_ 26 (d := fn_26) rfl)) fun _ _ _ _ _ _ us hl => match us, hl with | [_], _ => rfl,
  He.glo_ok X Gn (c.fact 46 (f := .glo "_law_all") rfl),
  funD_of (c.def_ 27 (d := fn_27) rfl),
  FunD.bindsN (ps := ["_law_book_here", "_law_names_here"]) (funD_of (c.def_ 27 (d := fn_27) rfl)) fun _ _ _ _ _ _ us hl => match us, hl with | [_, _], _ => rfl,
  He.glo_ok X Gn (c.fact 47 (f := .glo "_law_reached") rfl),
  funD_of (c.def_ 28 (d := fn_28) rfl),
  FunD.bindsN (ps := ["_law_book_here", "_law_names_here", "_law_passed_here"]) (funD_of (c.def_ 28 (d := fn_28) rfl)) fun _ _ _ _ _ _ us hl => match us, hl with | [_, _, _], _ => rfl,
  He.glo_ok X Gn (c.fact 48 (f := .glo "_law_passed") rfl),
  funD_of (c.def_ 29 (d := fn_29) rfl),
  FunD.bindsN (ps := ["_law_book_here", "_law_sender"]) (funD_of (c.def_ 29 (d := fn_29) rfl)) fun _ _ _ _ _ _ us hl => match us, hl with | [_, _], _ => rfl,
  He.glo_ok X Gn (c.fact 49 (f := .glo "_law_posted") rfl),
  funD_of (c.def_ 30 (d := fn_30) rfl),
  FunD.bindsN (ps := ["_law_book_here", "_law_rows"]) (funD_of (c.def_ 30 (d := fn_30) rfl)) fun _ _ _ _ _ _ us hl => match us, hl with | [_, _], _ => rfl,
  He.glo_ok X Gn (c.fact 50 (f := .glo "_law_let_all") rfl),
  funD_of (c.def_ 31 (d := fn_31) rfl),
  FunD.bindsN (ps := ["_law_post", "_law_names_here", "_law_cell", "_law_dropped"]) (funD_of (c.def_ 31 (d := fn_31) rfl)) fun _ _ _ _ _ _ us hl => match us, hl with | [_, _, _, _], _ => rfl,
  He.glo_ok X Gn (c.fact 51 (f := .glo "_law_due") rfl),
  funD_of (c.def_ 32 (d := fn_32) rfl),
  FunD.bindsN (ps := ["_law_book_here", "_law_rows", "_law_name", "_law_dropped"]) (funD_of (c.def_ 32 (d := fn_32) rfl)) fun _ _ _ _ _ _ us hl => match us, hl with | [_, _, _, _], _ => rfl,
  He.glo_ok X Gn (c.fact 52 (f := .glo "_law_meant") rfl),
  funD_of (c.def_ 33 (d := fn_33) rfl),
  FunD.bindsN (ps := ["_law_post", "_law_rows", "_law_name"]) (funD_of (c.def_ 33 (d := fn_33) rfl)) fun _ _ _ _ _ _ us hl => match us, hl with | [_, _, _], _ => rfl,
  He.glo_ok X Gn (c.fact 53 (f := .glo "law") rfl),
  funD_of (c.def_ 34 (d := fn_34) rfl),
  FunD.bindsN (ps := ["_law_script"]) (funD_of (c.def_ 34 (d := fn_34) rfl)) fun _ _ _ _ _ _ us hl => match us, hl with | [_], _ => rfl,
  He.glo_ok X Gn (c.fact 54 (f := .glo "Entry") rfl),
  He.cls_ok (c.fact 55 (f := .cls "Entry") rfl),
  He.noat_ok (c.fact 56 (f := .noat "Entry" "members") rfl),
  He.noat_ok (c.fact 57 (f := .noat "Entry" "left") rfl),
  He.noat_ok (c.fact 58 (f := .noat "Entry" "gate") rfl),
  He.mkr_ok (c.fact 59 (f := .mkr "Entry") rfl),
  funD_of (c.def_ 35 (d := fn_35) rfl),
  FunD.bindsN (ps := ["self", "members", "left", "gate"]) (funD_of (c.def_ 35 (d := fn_35) rfl)) fun _ _ _ _ _ _ us hl => match us, hl with | [_, _, _, _], _ => rfl,
  He.meth_ok (c.fact 60 (f := .meth "Entry" "told") rfl),
  funD_of (c.def_ 36 (d := fn_36) rfl),
  FunD.bindsN (ps := ["self", "name"]) (funD_of (c.def_ 36 (d := fn_36) rfl)) fun _ _ _ _ _ _ us hl => match us, hl with | [_, _], _ => rfl,
  He.glo_ok X Gn (c.fact 61 (f := .glo "Letter") rfl),
  He.cls_ok (c.fact 62 (f := .cls "Letter") rfl),
  He.noat_ok (c.fact 63 (f := .noat "Letter" "sender") rfl),
  He.noat_ok (c.fact 64 (f := .noat "Letter" "names") rfl),
  He.noat_ok (c.fact 65 (f := .noat "Letter" "had") rfl),
  He.noat_ok (c.fact 66 (f := .noat "Letter" "stays") rfl),
  He.noat_ok (c.fact 67 (f := .noat "Letter" "passed") rfl),
  He.noat_ok (c.fact 68 (f := .noat "Letter" "dropped") rfl),
  He.mkr_ok (c.fact 69 (f := .mkr "Letter") rfl),
  funD_of (c.def_ 37 (d := fn_37) rfl),
  FunD.bindsN (ps := ["self", "sender", "names"]) (funD_of (c.def_ 37 (d := fn_37) rfl)) fun _ _ _ _ _ _ us hl => match us, hl with | [_, _, _], _ => rfl,
  He.meth_ok (c.fact 70 (f := .meth "Letter" "goes") rfl),
  funD_of (c.def_ 38 (d := fn_38) rfl),
  FunD.bindsN (ps := ["self", "lists"]) (funD_of (c.def_ 38 (d := fn_38) rfl)) fun _ _ _ _ _ _ us hl => match us, hl with | [_, _], _ => rfl,
  He.meth_ok (c.fact 71 (f := .meth "Letter" "copy_of") rfl),
  funD_of (c.def_ 39 (d := fn_39) rfl),
  FunD.bindsN (ps := ["self"]) (funD_of (c.def_ 39 (d := fn_39) rfl)) fun _ _ _ _ _ _ us hl => match us, hl with | [_], _ => rfl,
  He.glo_ok X Gn (c.fact 72 (f := .glo "Post") rfl),
  He.cls_ok (c.fact 73 (f := .cls "Post") rfl),
  He.noat_ok (c.fact 74 (f := .noat "Post" "lists") rfl),
  He.noat_ok (c.fact 75 (f := .noat "Post" "letters") rfl),
  He.mkr_ok (c.fact 76 (f := .mkr "Post") rfl),
  funD_of (c.def_ 40 (d := fn_40) rfl),
  FunD.bindsN (ps := ["self", "book"]) (funD_of (c.def_ 40 (d := fn_40) rfl)) fun _ _ _ _ _ _ us hl => match us, hl with | [_, _], _ => rfl,
  He.meth_ok (c.fact 77 (f := .meth "Post" "book") rfl),
  funD_of (c.def_ 41 (d := fn_41) rfl),
  FunD.bindsN (ps := ["self"]) (funD_of (c.def_ 41 (d := fn_41) rfl)) fun _ _ _ _ _ _ us hl => match us, hl with | [_], _ => rfl,
  He.meth_ok (c.fact 78 (f := .meth "Post" "people") rfl),
  funD_of (c.def_ 42 (d := fn_42) rfl),
  FunD.bindsN (ps := ["self", "name"]) (funD_of (c.def_ 42 (d := fn_42) rfl)) fun _ _ _ _ _ _ us hl => match us, hl with | [_, _], _ => rfl,
  He.meth_ok (c.fact 79 (f := .meth "Post" "found") rfl),
  funD_of (c.def_ 43 (d := fn_43) rfl),
  FunD.bindsN (ps := ["self", "name"]) (funD_of (c.def_ 43 (d := fn_43) rfl)) fun _ _ _ _ _ _ us hl => match us, hl with | [_, _], _ => rfl,
  He.meth_ok (c.fact 80 (f := .meth "Post" "looked_at") rfl),
  funD_of (c.def_ 44 (d := fn_44) rfl),
  FunD.bindsN (ps := ["self", "name", "other"]) (funD_of (c.def_ 44 (d := fn_44) rfl)) fun _ _ _ _ _ _ us hl => match us, hl with | [_, _, _], _ => rfl,
  He.meth_ok (c.fact 81 (f := .meth "Post" "put_in") rfl),
  funD_of (c.def_ 45 (d := fn_45) rfl),
  FunD.bindsN (ps := ["self", "names", "name"]) (funD_of (c.def_ 45 (d := fn_45) rfl)) fun _ _ _ _ _ _ us hl => match us, hl with | [_, _, _], _ => rfl,
  He.meth_ok (c.fact 82 (f := .meth "Post" "take_out") rfl),
  funD_of (c.def_ 46 (d := fn_46) rfl),
  FunD.bindsN (ps := ["self", "names", "name"]) (funD_of (c.def_ 46 (d := fn_46) rfl)) fun _ _ _ _ _ _ us hl => match us, hl with | [_, _, _], _ => rfl,
  He.meth_ok (c.fact 83 (f := .meth "Post" "enter") rfl),
  funD_of (c.def_ 47 (d := fn_47) rfl),
  FunD.bindsN (ps := ["self", "name", "member"]) (funD_of (c.def_ 47 (d := fn_47) rfl)) fun _ _ _ _ _ _ us hl => match us, hl with | [_, _, _], _ => rfl,
  He.meth_ok (c.fact 84 (f := .meth "Post" "strike") rfl),
  funD_of (c.def_ 48 (d := fn_48) rfl),
  FunD.bindsN (ps := ["self", "name", "member"]) (funD_of (c.def_ 48 (d := fn_48) rfl)) fun _ _ _ _ _ _ us hl => match us, hl with | [_, _, _], _ => rfl,
  He.meth_ok (c.fact 85 (f := .meth "Post" "leave") rfl),
  funD_of (c.def_ 49 (d := fn_49) rfl),
  FunD.bindsN (ps := ["self", "name", "person"]) (funD_of (c.def_ 49 (d := fn_49) rfl)) fun _ _ _ _ _ _ us hl => match us, hl with | [_, _, _], _ => rfl,
  He.meth_ok (c.fact 86 (f := .meth "Post" "come_back") rfl),
  funD_of (c.def_ 50 (d := fn_50) rfl),
  FunD.bindsN (ps := ["self", "name", "person"]) (funD_of (c.def_ 50 (d := fn_50) rfl)) fun _ _ _ _ _ _ us hl => match us, hl with | [_, _, _], _ => rfl,
  He.meth_ok (c.fact 87 (f := .meth "Post" "bar") rfl),
  He.meth_ok (c.fact 88 (f := .meth "Post" "send") rfl),
  funD_of (c.def_ 51 (d := fn_51) rfl),
  FunD.bindsN (ps := ["self", "sender", "names"]) (funD_of (c.def_ 51 (d := fn_51) rfl)) fun _ _ _ _ _ _ us hl => match us, hl with | [_, _, _], _ => rfl,
  He.meth_ok (c.fact 89 (f := .meth "Post" "letter_of") rfl),
  funD_of (c.def_ 52 (d := fn_52) rfl),
  FunD.bindsN (ps := ["self", "number"]) (funD_of (c.def_ 52 (d := fn_52) rfl)) fun _ _ _ _ _ _ us hl => match us, hl with | [_, _], _ => rfl,
  He.meth_ok (c.fact 90 (f := .meth "Post" "held_by") rfl),
  funD_of (c.def_ 53 (d := fn_53) rfl),
  FunD.bindsN (ps := ["self", "number", "name"]) (funD_of (c.def_ 53 (d := fn_53) rfl)) fun _ _ _ _ _ _ us hl => match us, hl with | [_, _, _], _ => rfl,
  He.meth_ok (c.fact 91 (f := .meth "Post" "held") rfl),
  funD_of (c.def_ 54 (d := fn_54) rfl),
  FunD.bindsN (ps := ["self"]) (funD_of (c.def_ 54 (d := fn_54) rfl)) fun _ _ _ _ _ _ us hl => match us, hl with | [_], _ => rfl,
  He.meth_ok (c.fact 92 (f := .meth "Post" "let") rfl),
  funD_of (c.def_ 55 (d := fn_55) rfl),
  FunD.bindsN (ps := ["self", "number", "name"]) (funD_of (c.def_ 55 (d := fn_55) rfl)) fun _ _ _ _ _ _ us hl => match us, hl with | [_, _, _], _ => rfl,
  He.meth_ok (c.fact 93 (f := .meth "Post" "drop") rfl),
  funD_of (c.def_ 56 (d := fn_56) rfl),
  FunD.bindsN (ps := ["self", "number", "name"]) (funD_of (c.def_ 56 (d := fn_56) rfl)) fun _ _ _ _ _ _ us hl => match us, hl with | [_, _, _], _ => rfl,
  He.meth_ok (c.fact 94 (f := .meth "Post" "got") rfl),
  funD_of (c.def_ 57 (d := fn_57) rfl),
  FunD.bindsN (ps := ["self", "person"]) (funD_of (c.def_ 57 (d := fn_57) rfl)) fun _ _ _ _ _ _ us hl => match us, hl with | [_, _], _ => rfl,
  He.meth_ok (c.fact 95 (f := .meth "Post" "letter") rfl),
  funD_of (c.def_ 58 (d := fn_58) rfl),
  FunD.bindsN (ps := ["self", "number"]) (funD_of (c.def_ 58 (d := fn_58) rfl)) fun _ _ _ _ _ _ us hl => match us, hl with | [_, _], _ => rfl,
  He.meth_ok (c.fact 96 (f := .meth "Post" "twin") rfl),
  funD_of (c.def_ 59 (d := fn_59) rfl),
  FunD.bindsN (ps := ["self"]) (funD_of (c.def_ 59 (d := fn_59) rfl)) fun _ _ _ _ _ _ us hl => match us, hl with | [_], _ => rfl,
  He.glo_ok X Gn (c.fact 97 (f := .glo "PostError") rfl),
  He.exc_ok (c.fact 98 (f := .exc "PostError") rfl),
  He.glo_ok X Gn (c.fact 99 (f := .glo "BadBook") rfl),
  He.glo_ok X Gn (c.fact 100 (f := .glo "BadName") rfl),
  He.exc_ok (c.fact 101 (f := .exc "BadName") rfl),
  He.glo_ok X Gn (c.fact 102 (f := .glo "BadNames") rfl),
  He.exc_ok (c.fact 103 (f := .exc "BadNames") rfl),
  He.glo_ok X Gn (c.fact 104 (f := .glo "Twice") rfl),
  He.exc_ok (c.fact 105 (f := .exc "Twice") rfl),
  He.glo_ok X Gn (c.fact 106 (f := .glo "NoLetter") rfl),
  He.exc_ok (c.fact 107 (f := .exc "NoLetter") rfl),
  He.glo_ok X Gn (c.fact 108 (f := .glo "NotHeld") rfl),
  He.exc_ok (c.fact 109 (f := .exc "NotHeld") rfl),
  tab_at tb nd 0 rfl (funD_of (c.def_ 11 (d := fn_11) rfl)) rfl,
  tab_at tb nd 1 rfl (funD_of (c.def_ 12 (d := fn_12) rfl)) rfl,
  tab_at tb nd 2 rfl (funD_of (c.def_ 38 (d := fn_38) rfl)) rfl⟩
def spF (K : PySem.W.Frag) : Sp := fun vs H Q _ => ∃ (a : Addr) (ns : List Int), vs = [.ref a] ∧ SqL K H a (ns.map V.int) ∧ ns.length ≤ 63 ∧ NdefX.TabsN (tabsOf K) H ∧ ∀ H', Q (.bl true) H'
theorem endF {w : World} {K : PySem.W.Frag} {h : Heap} {mg : Str → Option Value} {f : Addr} (X : K.In h) (Gn : h.Ns mainGlobals mg) (hfa : mg ("law" : Str) = some (.ref f)) (c : He.SaysX fa fn [] tf exB w h K) : LamX.LawAtS PySem.Challenge.rw_listpost_k12_whole_let_on w K CX0 11 63 "_law_script" mg f h := by
  have nd : (tf.map fun p => (He.cT K p).2).Nodup := of_decide_eq_true (Bool.and_eq_true_iff.mp c.more).1
  have xb : exI K = true := (Bool.and_eq_true_iff.mp c.more).2
  have e := hfa.symm.trans (He.glo_ok X Gn (c.t.d.fact 53 (f := .glo "law") rfl))
  cases e
  have FL : FnP K "law" S_law (He.ga K "law") (fdOf K (He.ga K "law")) := funD_of (c.t.d.def_ 34 (d := fn_34) rfl)
  have b := FunD.bindsA (ps := ["_law_script"]) FL fun _ _ _ _ _ _ us hl => match us, hl with | [_], _ => rfl
  refine ⟨_, tf.map (He.cT K), spF K, fun p hp => ?_, fun p hp => ?_, fun p hp => ?_, fun s v => b s [v] rfl, fun H a ns hl _ hH hS => ⟨a, ns, rfl, hS, hl, fun t ht => ?_, fun _ => rfl⟩, fun base h1 h2 tb => ok_law (G := ⟨_, w, K, mg, base, tabsOf K⟩) (facts_of X Gn c.t.d tb nd xb)⟩
  · obtain ⟨m, hm, rfl⟩ := List.mem_map.mp hp
    exact c.empty m hm
  · obtain ⟨m, hm, rfl⟩ := List.mem_map.mp hp
    exact c.out m hm
  · obtain ⟨m, hm, rfl⟩ := List.mem_map.mp hp
    exact PySem.W.codeHd_of_K X (c.hd m hm)
  · obtain ⟨m, hm, rfl⟩ := List.mem_map.mp ht
    exact NdefX.TabN.nil (hH (He.cT K m.1) (List.mem_map_of_mem (List.mem_map_of_mem hm)))
end K
open PySem PySem.W PySem.Calls PyProof.Rows
set_option maxRecDepth 100000 in
set_option maxHeartbeats 0 in
theorem PySem.Challenge.cw_listpost_k12_whole_let_on_holds : PySem.Challenge.rw_listpost_k12_whole_let_on.Holds := by
  w_on; o_law
  refine HandSHeadRun.head_any (r := OpenLaw.row PySem.Challenge.rw_listpost_k12_whole_let_on) (q := view (OpenLaw.row PySem.Challenge.rw_listpost_k12_whole_let_on).prog [51]) (H := K.hk) (ob := K.ob) (M := 8000) (loose := K.loose) (d := HandSHeadRun.topDef (OpenLaw.row PySem.Challenge.rw_listpost_k12_whole_let_on).prog 51) (kwd := []) K.ob_eq
    (by kernel_rfl) (fun s => by kernel_rfl) K.run (by kernel_rfl) (by kernel_rfl) (by kernel_rfl) (by rfl) (by first | assumption | decide +kernel) (by decide +kernel) ⟨rfl, rfl, rfl, rfl, rfl, by decide +kernel⟩ ?hw ?hc
  case hw => w_witness2
  case hc =>
    refine LamX.walk_ofTsE (l := PySem.Challenge.rw_listpost_k12_whole_let_on) (n := 63) (k := 11) (x := "_law_script") (CX := fun _ => L2.CX0) rfl (by decide) (by kernel_rfl) ⟨rfl, by decide, by decide⟩ ?F (fun _ _ _ _ _ z => z)
    intro w mg fa h Y G hmg0
    obtain ⟨KF, KX, c⟩ := Y
    have hmg : mg ("law" : PySem.Str) = some (.ref fa) := by
      have e : (HandSHeadRun.topDef (OpenLaw.row PySem.Challenge.rw_listpost_k12_whole_let_on).prog 51).name = ("law" : PySem.Str) := by kernel_rfl
      rw [← e]
      exact hmg0
    exact ⟨KF, KX, K.endF KX G hmg c⟩
