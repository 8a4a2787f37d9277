import PyProof.Rows.All
import Wide.All
import OpenK.AllK
import Wide.FinOn
import HandS.ForMost
import HandS.Zip
import HandS.Star
import HandS.TupAny
import HandS.TupMul
import HandS.NoneIn
import HandS.IsInst
import HandS.Walk
import KE.LtData
import KE.KTupSum
import HandS.Defaults
import HandS.Style
import HandS.Head0
import HandS.Head1
import HandS.Head2
import HandS.HeadEnd
import HandS.HeadHook1
import HandS.HeadHook2
import HandS.Conv
import PySem.Challenge.RW_evenbarter_k02_order_of_bundles
set_option Elab.async false
set_option linter.all false
set_option maxRecDepth 100000
set_option maxHeartbeats 4000000
/-! The layer of data: what a piece of a program does to plain data (D), with a store of the few things that change (Mu). -/
namespace DL
open PySem L2

/-! ### data and the store -/
inductive D where
  | non
  | bl (b : Bool)
  | int (i : Int)
  | str (s : Str)
  | ty (n : String)
  | cls (C : Addr)
  | tup (xs : List D)
  | lst (xs : List D)
  | cell (a : Addr)
  | obj (C : Addr) (ns : List Str) (ds : List D)
  | scr (ns : List Int)
inductive MO where
  | lst (xs : List D)
  | ins (C : Addr) (ns : List Str) (ds : List D)
abbrev Mu := List (Addr × MO)
abbrev dom (μ : Mu) : List Addr := μ.map (·.1)
def mget (a : Addr) : Mu → Option MO
  | [] => none
  | (b, m) :: r => if b = a then some m else mget a r
def mput (a : Addr) (m : MO) : Mu → Mu
  | [] => []
  | (b, n) :: r => if b = a then (b, m) :: r else (b, n) :: mput a m r
theorem dom_mput (a : Addr) (m : MO) : ∀ μ : Mu, dom (mput a m μ) = dom μ
  | [] => rfl
  | (b, n) :: r => by
    unfold mput
    by_cases h : b = a
    · rw [if_pos h]; rfl
    · rw [if_neg h]
      show b :: dom (mput a m r) = b :: dom r
      rw [dom_mput a m r]
theorem mget_mem {a : Addr} {m : MO} : ∀ {μ : Mu}, mget a μ = some m → (a, m) ∈ μ
  | [], h => by cases h
  | (b, n) :: r, h => by
    unfold mget at h
    by_cases e : b = a
    · rw [if_pos e] at h
      cases h
      subst e
      exact List.mem_cons_self
    · rw [if_neg e] at h
      exact List.mem_cons_of_mem _ (mget_mem h)
theorem mget_dom {a : Addr} {m : MO} {μ : Mu} (h : mget a μ = some m) : a ∈ dom μ := List.mem_map.mpr ⟨_, mget_mem h, rfl⟩

/-- a list of the script's: it stands as it is -/
def SqM (K : PySem.W.Frag) (M : List Addr) (H : Hp) (a : Addr) (xs : List V) : Prop :=
  (a ∉ M ∧ Rd H a (.lst xs)) ∨ ∃ (o : Obj) (its : Array Value) (n : Nat), K.lookup a = some o ∧ o.cls = .type "list" ∧ o.dict = none ∧ o.data = .seq its n ∧ its.size ≤ sizeLine ∧ Vals xs its.toList
theorem SqM.sq {K : PySem.W.Frag} {M : List Addr} {H : Hp} {a : Addr} {xs : List V} (h : SqM K M H a xs) : SqL K H a xs := by
  rcases h with ⟨_, h⟩ | h
  · exact .inl h
  · exact .inr h
theorem SqM.of {K : PySem.W.Frag} {H : Hp} {a : Addr} {xs : List V} (h : SqL K H a xs) : SqM K [] H a xs := by
  rcases h with h | h
  · exact .inl ⟨List.not_mem_nil, h⟩
  · exact .inr h
mutual
/-- the value v is the datum d in the heap H; M: the addresses of what may change, F: what is kept aside -/
inductive Dt (K : PySem.W.Frag) (F M : List Addr) (H : Hp) : V → D → Prop
  | non : Dt K F M H .non .non
  | bl (b : Bool) : Dt K F M H (.bl b) (.bl b)
  | int (i : Int) : Dt K F M H (.int i) (.int i)
  | str (x : Str) : Dt K F M H (.str x) (.str x)
  | ty (n : String) : Dt K F M H (.ty n) (.ty n)
  | cls (C : Addr) : Dt K F M H (.ref C) (.cls C)
  | tup {a : Addr} {vs : List V} {xs : List D} : a ∉ F ++ M → H a = some (.tup vs) → DtAll K F M H vs xs → Dt K F M H (.ref a) (.tup xs)
  | lst {a : Addr} {vs : List V} {xs : List D} : a ∉ F ++ M → H a = some (.lst vs) → DtAll K F M H vs xs → Dt K F M H (.ref a) (.lst xs)
  | cell {a : Addr} : a ∈ M → Dt K F M H (.ref a) (.cell a)
  | obj {a dx C : Addr} {ns : List Str} {vs : List V} {ds : List D} : a ∉ F ++ M → H a = some (.ins C dx (ns.zip vs)) → ns.length = vs.length → DtAll K F M H vs ds → Dt K F M H (.ref a) (.obj C ns ds)
  | scr {a : Addr} {ns : List Int} : SqM K (F ++ M) H a (ns.map V.int) → Dt K F M H (.ref a) (.scr ns)
inductive DtAll (K : PySem.W.Frag) (F M : List Addr) (H : Hp) : List V → List D → Prop
  | nil : DtAll K F M H [] []
  | cons {v : V} {vs : List V} {d : D} {ds : List D} : Dt K F M H v d → DtAll K F M H vs ds → DtAll K F M H (v :: vs) (d :: ds)
end

/-! ### growing -/
structure Grow (M M' : List Addr) (H H' : Hp) : Prop where
  keep : ∀ x o, x ∉ M → H x = some o → H' x = some o
  sub : ∀ x, x ∈ M → x ∈ M'
  new : ∀ x, x ∈ M' → x ∉ M → H x = none
theorem Grow.refl (M : List Addr) (H : Hp) : Grow M M H H := ⟨fun _ _ _ h => h, fun _ h => h, fun _ h n => absurd h n⟩
theorem Grow.stays {M M' : List Addr} {H H' : Hp} (g : Grow M M' H H') {x : Addr} {o : HO} (n : x ∉ M) (h : H x = some o) : x ∉ M' := fun z => by
  rw [g.new x z n] at h
  cases h
theorem Grow.trans {M M1 M2 : List Addr} {H H1 H2 : Hp} (g : Grow M M1 H H1) (k : Grow M1 M2 H1 H2) : Grow M M2 H H2 where
  keep := fun x o n h => k.keep x o (g.stays n h) (g.keep x o n h)
  sub := fun x h => k.sub x (g.sub x h)
  new := fun x h n => by
    cases e : H x with
    | none => rfl
    | some o =>
      have h1 := k.new x h (g.stays n e)
      rw [g.keep x o n e] at h1
      cases h1
theorem Grow.free {M M' : List Addr} {H H' : Hp} (g : Grow M M' H H') {p : Addr} (n : p ∉ M) (h : H' p = none) : H p = none := by
  cases e : H p with
  | none => rfl
  | some o =>
    rw [g.keep p o n e] at h
    cases h
theorem Grow.fresh {M : List Addr} {H : Hp} {p : Addr} {o : HO} (h : H p = none) : Grow M M H (upd H p o) :=
  ⟨fun x u _ e => by rw [upd_ne (ne_of_none e h)]; exact e, fun _ h => h, fun _ h n => absurd h n⟩
theorem Grow.sq {K : PySem.W.Frag} {M M' : List Addr} {H H' : Hp} (g : Grow M M' H H') {a : Addr} {xs : List V} (h : SqM K M H a xs) : SqM K M' H' a xs := by
  rcases h with ⟨n, h | ⟨o, h⟩⟩ | h
  · exact .inl ⟨g.stays n h, .inl (g.keep _ _ n h)⟩
  · exact .inl ⟨g.stays n h, .inr ⟨o, g.keep _ _ n h⟩⟩
  · exact .inr h

theorem not_app {a : Addr} {F M : List Addr} (h : a ∉ F ++ M) : a ∉ F ∧ a ∉ M := ⟨fun z => h (List.mem_append_left _ z), fun z => h (List.mem_append_right _ z)⟩
theorem app_not {a : Addr} {F M : List Addr} (h : a ∉ F) (k : a ∉ M) : a ∉ F ++ M := fun z => (List.mem_append.mp z).elim h k
theorem Dt.mono {K : PySem.W.Frag} {F M M' : List Addr} {H H' : Hp} (g : Grow M M' H H') : ∀ {v : V} {d : D}, Dt K F M H v d → Dt K F M' H' v d := by
  intro v d h
  refine Dt.rec (motive_1 := fun v d _ => Dt K F M' H' v d) (motive_2 := fun vs ds _ => DtAll K F M' H' vs ds) ?_ ?_ ?_ ?_ ?_ ?_ ?_ ?_ ?_ ?_ ?_ ?_ ?_ h
  · exact .non
  · exact .bl
  · exact .int
  · exact .str
  · exact .ty
  · exact .cls
  · intro a vs xs n e _ ih
    exact .tup (app_not (not_app n).1 (g.stays (not_app n).2 e)) (g.keep _ _ (not_app n).2 e) ih
  · intro a vs xs n e _ ih
    exact .lst (app_not (not_app n).1 (g.stays (not_app n).2 e)) (g.keep _ _ (not_app n).2 e) ih
  · intro a n
    exact .cell (g.sub _ n)
  · intro a dx C ns vs ds n e l _ ih
    exact .obj (app_not (not_app n).1 (g.stays (not_app n).2 e)) (g.keep _ _ (not_app n).2 e) l ih
  · intro a ns e
    refine .scr ?_
    rcases e with ⟨n, e | ⟨o, e⟩⟩ | e
    · exact .inl ⟨app_not (not_app n).1 (g.stays (not_app n).2 e), .inl (g.keep _ _ (not_app n).2 e)⟩
    · exact .inl ⟨app_not (not_app n).1 (g.stays (not_app n).2 e), .inr ⟨o, g.keep _ _ (not_app n).2 e⟩⟩
    · exact .inr e
  · exact .nil
  · intro v vs d ds _ _ h1 h2
    exact .cons h1 h2
/-- what is kept aside may be looked at, and the other way -/
theorem Dt.aside {K : PySem.W.Frag} {F F' M : List Addr} {H : Hp} (hf : ∀ a, a ∉ F → H a ≠ none → a ∉ F') : ∀ {v : V} {d : D}, Dt K F M H v d → Dt K F' M H v d := by
  intro v d h
  refine Dt.rec (motive_1 := fun v d _ => Dt K F' M H v d) (motive_2 := fun vs ds _ => DtAll K F' M H vs ds) ?_ ?_ ?_ ?_ ?_ ?_ ?_ ?_ ?_ ?_ ?_ ?_ ?_ h
  · exact .non
  · exact .bl
  · exact .int
  · exact .str
  · exact .ty
  · exact .cls
  · intro a vs xs n e _ ih
    exact .tup (app_not (hf _ (not_app n).1 (by rw [e]; simp)) (not_app n).2) e ih
  · intro a vs xs n e _ ih
    exact .lst (app_not (hf _ (not_app n).1 (by rw [e]; simp)) (not_app n).2) e ih
  · intro a n
    exact .cell n
  · intro a dx C ns vs ds n e l _ ih
    exact .obj (app_not (hf _ (not_app n).1 (by rw [e]; simp)) (not_app n).2) e l ih
  · intro a ns e
    refine .scr ?_
    rcases e with ⟨n, e | ⟨o, e⟩⟩ | e
    · exact .inl ⟨app_not (hf _ (not_app n).1 (by rw [e]; simp)) (not_app n).2, .inl e⟩
    · exact .inl ⟨app_not (hf _ (not_app n).1 (by rw [e]; simp)) (not_app n).2, .inr ⟨o, e⟩⟩
    · exact .inr e
  · exact .nil
  · intro v vs d ds _ _ h1 h2
    exact .cons h1 h2
end DL

namespace DL
open PySem L2

section
variable {K : PySem.W.Frag} {F M M' : List Addr} {H H' : Hp}
theorem DtAll.mono (g : Grow M M' H H') : ∀ {vs : List V} {ds : List D}, DtAll K F M H vs ds → DtAll K F M' H' vs ds
  | _, _, .nil => .nil
  | _, _, .cons h t => .cons (h.mono g) (DtAll.mono g t)
theorem DtAll.len : ∀ {vs : List V} {ds : List D}, DtAll K F M H vs ds → vs.length = ds.length
  | _, _, .nil => rfl
  | _, _, .cons _ t => congrArg (· + 1) (DtAll.len t)
theorem DtAll.get : ∀ {vs : List V} {ds : List D}, DtAll K F M H vs ds → ∀ {i : Nat} {v : V}, vs[i]? = some v → ∃ d, ds[i]? = some d ∧ Dt K F M H v d
  | _, _, .nil, i, v, h => by simp at h
  | _, _, .cons h t, 0, v, e => by
    cases e
    exact ⟨_, rfl, h⟩
  | _, _, .cons h t, i + 1, v, e => DtAll.get t (by simpa using e)
theorem DtAll.getD : ∀ {vs : List V} {ds : List D}, DtAll K F M H vs ds → ∀ {i : Nat} {d : D}, ds[i]? = some d → ∃ v, vs[i]? = some v ∧ Dt K F M H v d
  | _, _, .nil, i, v, h => by simp at h
  | _, _, .cons h t, 0, v, e => by
    cases e
    exact ⟨_, rfl, h⟩
  | _, _, .cons h t, i + 1, v, e => DtAll.getD t (by simpa using e)
theorem DtAll.app : ∀ {vs ws : List V} {ds es : List D}, DtAll K F M H vs ds → DtAll K F M H ws es → DtAll K F M H (vs ++ ws) (ds ++ es)
  | _, _, _, _, .nil, h => h
  | _, _, _, _, .cons a t, h => .cons a (DtAll.app t h)
theorem DtAll.take : ∀ {vs : List V} {ds : List D} (n : Nat), DtAll K F M H vs ds → DtAll K F M H (vs.take n) (ds.take n)
  | _, _, 0, _ => by rw [List.take_zero, List.take_zero]; exact .nil
  | _, _, n + 1, .nil => .nil
  | _, _, n + 1, .cons a t => .cons a (DtAll.take n t)
theorem DtAll.drop : ∀ {vs : List V} {ds : List D} (n : Nat), DtAll K F M H vs ds → DtAll K F M H (vs.drop n) (ds.drop n)
  | _, _, 0, h => h
  | _, _, n + 1, .nil => .nil
  | _, _, n + 1, .cons a t => DtAll.drop n t
theorem DtAll.set : ∀ {vs : List V} {ds : List D} (i : Nat) {v : V} {d : D}, DtAll K F M H vs ds → Dt K F M H v d → DtAll K F M H (vs.set i v) (ds.set i d)
  | _, _, _, _, _, .nil, _ => .nil
  | _, _, 0, _, _, .cons a t, h => .cons h t
  | _, _, i + 1, _, _, .cons a t, h => .cons a (DtAll.set i t h)
theorem DtAll.one {v : V} {d : D} (h : Dt K F M H v d) : DtAll K F M H [v] [d] := .cons h .nil
theorem DtAll.ints : ∀ {vs : List V} {ns : List Int}, DtAll K F M H vs (ns.map D.int) → vs = ns.map V.int
  | [], [], _ => rfl
  | [], n :: r, h => by cases h
  | v :: vs, [], h => by cases h
  | v :: vs, n :: r, h => by
    cases h with
    | cons a t =>
      cases a
      rw [DtAll.ints t]
      rfl
theorem DtAll.of_ints : ∀ (ns : List Int), DtAll K F M H (ns.map V.int) (ns.map D.int)
  | [] => .nil
  | n :: r => .cons (.int n) (DtAll.of_ints r)
theorem DtAll.bls : ∀ {vs : List V} {ns : List Bool}, DtAll K F M H vs (ns.map D.bl) → vs = ns.map V.bl
  | [], [], _ => rfl
  | [], n :: r, h => by cases h
  | v :: vs, [], h => by cases h
  | v :: vs, n :: r, h => by
    cases h with
    | cons a t =>
      cases a
      rw [DtAll.bls t]
      rfl
theorem DtAll.strs : ∀ {vs : List V} {ns : List Str}, DtAll K F M H vs (ns.map D.str) → vs = ns.map V.str
  | [], [], _ => rfl
  | [], n :: r, h => by cases h
  | v :: vs, [], h => by cases h
  | v :: vs, n :: r, h => by
    cases h with
    | cons a t =>
      cases a
      rw [DtAll.strs t]
      rfl
theorem DtAll.of_strs : ∀ (ns : List Str), DtAll K F M H (ns.map V.str) (ns.map D.str)
  | [] => .nil
  | n :: r => .cons (.str n) (DtAll.of_strs r)
end

/-! ### the store stands -/
def MOk (K : PySem.W.Frag) (F M : List Addr) (H : Hp) (a : Addr) : MO → Prop
  | .lst ds => ∃ vs, H a = some (.lst vs) ∧ DtAll K F M H vs ds
  | .ins C ns ds => ∃ dx vs, H a = some (.ins C dx (ns.zip vs)) ∧ ns.length = vs.length ∧ DtAll K F M H vs ds
structure Wd (K : PySem.W.Frag) (F : List Addr) (μ : Mu) (H : Hp) : Prop where
  fs : ∀ x, x ∈ F → ∃ o, H x = some o
  nd : (dom μ).Nodup
  apart : ∀ a, a ∈ dom μ → a ∉ F
  ok : ∀ a m, (a, m) ∈ μ → MOk K F (dom μ) H a m
section
variable {K : PySem.W.Frag} {F : List Addr} {μ μ' : Mu} {H H' : Hp}
theorem Wd.there {a : Addr} (w : Wd K F μ H) (h : a ∈ dom μ) : ∃ o, H a = some o := by
  obtain ⟨⟨b, m⟩, hb, e⟩ := List.mem_map.mp h
  cases e
  have q := w.ok b m hb
  cases m with
  | lst ds =>
    obtain ⟨vs, e, _⟩ := q
    exact ⟨_, e⟩
  | ins C ns ds =>
    obtain ⟨dx, vs, e, _⟩ := q
    exact ⟨_, e⟩
theorem Wd.freshF {p : Addr} (w : Wd K F μ H) (h : H p = none) : p ∉ F := fun z => by
  obtain ⟨o, e⟩ := w.fs p z
  rw [h] at e
  cases e
theorem Wd.fresh {p : Addr} (w : Wd K F μ H) (h : H p = none) : p ∉ dom μ := fun z => by
  obtain ⟨o, e⟩ := w.there z
  rw [h] at e
  cases e
theorem Wd.fresh2 {p : Addr} (w : Wd K F μ H) (h : H p = none) : p ∉ F ++ dom μ := app_not (w.freshF h) (w.fresh h)
theorem fs_upd {p : Addr} {o : HO} (h : ∀ x, x ∈ F → ∃ o, H x = some o) : ∀ x, x ∈ F → ∃ u, upd H p o x = some u := fun x hx => by
  by_cases e : x = p
  · subst e
    exact ⟨o, upd_same⟩
  · rw [upd_ne e]
    exact h x hx
theorem MOk.mono {F M M' : List Addr} {a : Addr} {m : MO} (g : Grow M M' H H') (ha : ∀ o, H a = some o → H' a = some o) (h : MOk K F M H a m) : MOk K F M' H' a m := by
  cases m with
  | lst ds =>
    obtain ⟨vs, e, q⟩ := h
    exact ⟨vs, ha _ e, q.mono g⟩
  | ins C ns ds =>
    obtain ⟨dx, vs, e, l, q⟩ := h
    exact ⟨dx, vs, ha _ e, l, q.mono g⟩
/-- a new thing is laid that nobody will change -/
theorem Wd.lay {p : Addr} {o : HO} (w : Wd K F μ H) (h : H p = none) : Wd K F μ (upd H p o) :=
  ⟨fs_upd w.fs, w.nd, w.apart, fun a m hm => (w.ok a m hm).mono (Grow.fresh h) fun u e => by rw [upd_ne (ne_of_none e h)]; exact e⟩
/-- a new list is laid that may change -/
theorem Grow.add {p : Addr} {o : HO} (h : H p = none) : Grow (dom μ) (p :: dom μ) H (upd H p o) where
  keep := fun x u _ e => by rw [upd_ne (ne_of_none e h)]; exact e
  sub := fun x h => List.mem_cons_of_mem _ h
  new := fun x hx n => by
    rcases List.mem_cons.mp hx with rfl | z
    · exact h
    · exact absurd z n
theorem Wd.layM {p : Addr} {vs : List V} {ds : List D} (w : Wd K F μ H) (h : H p = none) (q : DtAll K F (dom μ) H vs ds) : Wd K F ((p, .lst ds) :: μ) (upd H p (.lst vs)) where
  fs := fs_upd w.fs
  nd := List.nodup_cons.mpr ⟨w.fresh h, w.nd⟩
  apart := fun a ha => by
    rcases List.mem_cons.mp ha with rfl | z
    · exact w.freshF h
    · exact w.apart a z
  ok := fun a m hm => by
    rcases List.mem_cons.mp hm with z | z
    · cases z
      exact ⟨vs, upd_same, q.mono (Grow.add h)⟩
    · exact (w.ok a m z).mono (Grow.add h) fun u e => by rw [upd_ne (ne_of_none e h)]; exact e
theorem nodup_mem_eq {a : Addr} {m n : MO} : ∀ {μ : Mu}, (dom μ).Nodup → (a, m) ∈ μ → (a, n) ∈ μ → m = n
  | [], _, h, _ => by cases h
  | (b, k) :: r, nd, h1, h2 => by
    have nd' := List.nodup_cons.mp nd
    rcases List.mem_cons.mp h1 with e1 | e1
    · rcases List.mem_cons.mp h2 with e2 | e2
      · cases e1; cases e2; rfl
      · cases e1
        exact absurd (List.mem_map.mpr ⟨_, e2, rfl⟩) nd'.1
    · rcases List.mem_cons.mp h2 with e2 | e2
      · cases e2
        exact absurd (List.mem_map.mpr ⟨_, e1, rfl⟩) nd'.1
      · exact nodup_mem_eq nd'.2 e1 e2
theorem mem_mput {a b : Addr} {m n : MO} : ∀ {μ : Mu}, (b, n) ∈ mput a m μ → (b = a ∧ n = m) ∨ (b ≠ a ∧ (b, n) ∈ μ) ∨ ((b, n) ∈ μ ∧ ∃ k, (a, k) ∈ μ ∧ b = a ∧ False) ∨ (b = a ∧ (b, n) ∈ μ ∧ ¬ (dom μ).Nodup)
  | [], h => by cases h
  | (c, k) :: r, h => by
    unfold mput at h
    by_cases e : c = a
    · rw [if_pos e] at h
      subst e
      rcases List.mem_cons.mp h with z | z
      · cases z
        exact .inl ⟨rfl, rfl⟩
      · by_cases eb : b = c
        · subst eb
          refine .inr (.inr (.inr ⟨rfl, List.mem_cons_of_mem _ z, fun nd => ?_⟩))
          exact (List.nodup_cons.mp nd).1 (List.mem_map.mpr ⟨_, z, rfl⟩)
        · exact .inr (.inl ⟨eb, List.mem_cons_of_mem _ z⟩)
    · rw [if_neg e] at h
      rcases List.mem_cons.mp h with z | z
      · cases z
        exact .inr (.inl ⟨e, List.mem_cons_self⟩)
      · rcases mem_mput z with q | ⟨q1, q2⟩ | ⟨_, _, _, _, q⟩ | ⟨q1, q2, q3⟩
        · exact .inl q
        · exact .inr (.inl ⟨q1, List.mem_cons_of_mem _ q2⟩)
        · exact q.elim
        · exact .inr (.inr (.inr ⟨q1, List.mem_cons_of_mem _ q2, fun nd => q3 (List.nodup_cons.mp nd).2⟩))
theorem Grow.put {a : Addr} {o : HO} (h : a ∈ dom μ) : Grow (dom μ) (dom μ) H (upd H a o) where
  keep := fun x u n e => by rw [upd_ne (fun z => n (by rw [z]; exact h))]; exact e
  sub := fun x h => h
  new := fun x hx n => absurd hx n
/-- a list that may change is changed -/
theorem Wd.putL {a : Addr} {vs : List V} {ds : List D} (w : Wd K F μ H) (h : a ∈ dom μ) (q : DtAll K F (dom μ) H vs ds) : Wd K F (mput a (.lst ds) μ) (upd H a (.lst vs)) where
  fs := fs_upd w.fs
  nd := by rw [dom_mput]; exact w.nd
  apart := fun b hb => w.apart b (by rw [dom_mput] at hb; exact hb)
  ok := fun b m hm => by
    rw [dom_mput]
    rcases mem_mput hm with ⟨rfl, rfl⟩ | ⟨n, z⟩ | ⟨_, _, _, _, q⟩ | ⟨_, _, q⟩
    · exact ⟨vs, upd_same, q.mono (Grow.put h)⟩
    · exact (w.ok b m z).mono (Grow.put h) fun u e => by rw [upd_ne n]; exact e
    · exact q.elim
    · exact absurd w.nd q
theorem Wd.putI {a C dx : Addr} {ns : List Str} {vs : List V} {ds : List D} (w : Wd K F μ H) (h : a ∈ dom μ) (l : ns.length = vs.length) (q : DtAll K F (dom μ) H vs ds) : Wd K F (mput a (.ins C ns ds) μ) (upd H a (.ins C dx (ns.zip vs))) where
  fs := fs_upd w.fs
  nd := by rw [dom_mput]; exact w.nd
  apart := fun b hb => w.apart b (by rw [dom_mput] at hb; exact hb)
  ok := fun b m hm => by
    rw [dom_mput]
    rcases mem_mput hm with ⟨rfl, rfl⟩ | ⟨n, z⟩ | ⟨_, _, _, _, q⟩ | ⟨_, _, q⟩
    · exact ⟨dx, vs, upd_same, l, q.mono (Grow.put h)⟩
    · exact (w.ok b m z).mono (Grow.put h) fun u e => by rw [upd_ne n]; exact e
    · exact q.elim
    · exact absurd w.nd q
end

/-! ### the names -/
abbrev Env := List (Option D)
structure EnvOk (K : PySem.W.Frag) (F M : List Addr) (H : Hp) (σ : L2.St) (η : Env) : Prop where
  len : σ.length = η.length
  ok : ∀ (i : Nat) (d : D), η[i]? = some (some d) → ∃ v, σ[i]? = some (some v) ∧ Dt K F M H v d
theorem EnvOk.mono {K : PySem.W.Frag} {F M M' : List Addr} {H H' : Hp} {σ : L2.St} {η : Env} (g : Grow M M' H H') (h : EnvOk K F M H σ η) : EnvOk K F M' H' σ η :=
  ⟨h.len, fun i d e => let ⟨v, e', q⟩ := h.ok i d e; ⟨v, e', q.mono g⟩⟩
theorem EnvOk.set {K : PySem.W.Frag} {F M : List Addr} {H : Hp} {σ : L2.St} {η : Env} {i : Nat} {v : V} {d : D} (h : EnvOk K F M H σ η) (q : Dt K F M H v d) : EnvOk K F M H (σ.set i (some v)) (η.set i (some d)) where
  len := by rw [List.length_set, List.length_set]; exact h.len
  ok := fun j e hj => by
    by_cases c : j = i
    · subst c
      by_cases l : j < η.length
      · rw [List.getElem?_set_self l] at hj
        cases hj
        exact ⟨v, List.getElem?_set_self (by rw [h.len]; exact l), q⟩
      · rw [List.getElem?_eq_none (by rw [List.length_set]; omega)] at hj
        cases hj
    · rw [List.getElem?_set_ne (Ne.symm c)] at hj
      obtain ⟨u, e1, e2⟩ := h.ok j e hj
      exact ⟨u, by rw [List.getElem?_set_ne (Ne.symm c)]; exact e1, e2⟩
theorem EnvOk.setN {K : PySem.W.Frag} {F M : List Addr} {H : Hp} {σ : L2.St} {η : Env} {i : Nat} {x : Option V} (h : EnvOk K F M H σ η) : EnvOk K F M H (σ.set i x) (η.set i none) where
  len := by rw [List.length_set, List.length_set]; exact h.len
  ok := fun j e hj => by
    by_cases c : j = i
    · subst c
      by_cases l : j < η.length
      · rw [List.getElem?_set_self l] at hj
        cases hj
      · rw [List.getElem?_eq_none (by rw [List.length_set]; omega)] at hj
        cases hj
    · rw [List.getElem?_set_ne (Ne.symm c)] at hj
      obtain ⟨u, e1, e2⟩ := h.ok j e hj
      exact ⟨u, by rw [List.getElem?_set_ne (Ne.symm c)]; exact e1, e2⟩
def wipeD (η : Env) : List Nat → Env
  | [] => η
  | i :: r => (wipeD η r).set i none
theorem EnvOk.wipe {K : PySem.W.Frag} {F M : List Addr} {H : Hp} {σ : L2.St} {η : Env} (h : EnvOk K F M H σ η) : ∀ vs : List Nat, EnvOk K F M H (L2.wipe σ vs) (wipeD η vs)
  | [] => h
  | i :: r => by
    show EnvOk K F M H ((L2.wipe σ r).set i none) ((wipeD η r).set i none)
    exact (EnvOk.wipe h r).setN

/-! ### readings over data -/
abbrev PD := D → Mu → Prop
abbrev DE := Env → Mu → PD → Prop
abbrev DTs := Env → Mu → (Bool → Mu → Prop) → Prop
abbrev DA := Env → Mu → (List D → Mu → Prop) → Prop
abbrev DO := Env → Mu → (Option Int → Mu → Prop) → Prop
structure DEnds where
  nx : Env → Mu → Prop
  rt : PD
  bk : Env → Mu → Prop := fun _ _ => False
  ct : Env → Mu → Prop := fun _ _ => False
/-- what follows: another next; a loop's turn -/
def DEnds.sq (E : DEnds) (n : Env → Mu → Prop) : DEnds := { E with nx := n }
def DEnds.lp (E : DEnds) (n : Env → Mu → Prop) : DEnds := { E with nx := n, ct := n, bk := E.nx }
abbrev DS := DEnds → Env → Mu → Prop
abbrev DG := D → Env → Mu → (Env → Mu → Prop) → Prop
abbrev DGs := List D → Env → Mu → (Env → Mu → Prop) → Prop
/-- what follows, over values, from what follows over data -/
def Out (K : PySem.W.Frag) (F : List Addr) (μ : Mu) (H : Hp) (P : PD) (Q : VK) : Prop := ∀ v H' d μ', Wd K F μ' H' → Grow (dom μ) (dom μ') H H' → Dt K F (dom μ') H' v d → P d μ' → Q v H'
class SE (K : PySem.W.Frag) (t : TE) (T : outParam DE) : Prop where
  run : ∀ {F : List Addr} {σ : L2.St} {H : Hp} {η : Env} {μ : Mu} {P : PD} {Q : VK}, Wd K F μ H → EnvOk K F (dom μ) H σ η → T η μ P → Out K F μ H P Q → t σ H Q
class ST (K : PySem.W.Frag) (t : TT) (T : outParam DTs) : Prop where
  run : ∀ {F : List Addr} {σ : L2.St} {H : Hp} {η : Env} {μ : Mu} {P : Bool → Mu → Prop} {Q : Bool → Hp → Prop}, Wd K F μ H → EnvOk K F (dom μ) H σ η → T η μ P → (∀ b H' μ', Wd K F μ' H' → Grow (dom μ) (dom μ') H H' → P b μ' → Q b H') → t σ H Q
class SA (K : PySem.W.Frag) (t : TA) (T : outParam DA) : Prop where
  run : ∀ {F : List Addr} {σ : L2.St} {H : Hp} {η : Env} {μ : Mu} {P : List D → Mu → Prop} {Q : List V → Hp → Prop}, Wd K F μ H → EnvOk K F (dom μ) H σ η → T η μ P → (∀ vs H' ds μ', Wd K F μ' H' → Grow (dom μ) (dom μ') H H' → DtAll K F (dom μ') H' vs ds → P ds μ' → Q vs H') → t σ H Q
class SO (K : PySem.W.Frag) (t : TO) (T : outParam DO) : Prop where
  run : ∀ {F : List Addr} {σ : L2.St} {H : Hp} {η : Env} {μ : Mu} {P : Option Int → Mu → Prop} {Q : Option Int → Hp → Prop}, Wd K F μ H → EnvOk K F (dom μ) H σ η → T η μ P → (∀ o H' μ', Wd K F μ' H' → Grow (dom μ) (dom μ') H H' → P o μ' → Q o H') → t σ H Q
/-- operators, calls by values -/
class SR (K : PySem.W.Frag) (r : R2) (Fn : outParam (D → D → Mu → PD → Prop)) : Prop where
  run : ∀ {F : List Addr} {H : Hp} {μ : Mu} {x y : V} {dx dy : D} {P : PD} {Q : VK}, Wd K F μ H → Dt K F (dom μ) H x dx → Dt K F (dom μ) H y dy → Fn dx dy μ P → Out K F μ H P Q → r x y H Q
class SU (K : PySem.W.Frag) (r : V → Hp → VK → Prop) (Fn : outParam (D → Mu → PD → Prop)) : Prop where
  run : ∀ {F : List Addr} {H : Hp} {μ : Mu} {x : V} {dx : D} {P : PD} {Q : VK}, Wd K F μ H → Dt K F (dom μ) H x dx → Fn dx μ P → Out K F μ H P Q → r x H Q
class SC (K : PySem.W.Frag) (r : List V → Hp → VK → Prop) (Fn : outParam (List D → Mu → PD → Prop)) : Prop where
  run : ∀ {F : List Addr} {H : Hp} {μ : Mu} {vs : List V} {ds : List D} {P : PD} {Q : VK}, Wd K F μ H → DtAll K F (dom μ) H vs ds → Fn ds μ P → Out K F μ H P Q → r vs H Q
class SM (K : PySem.W.Frag) (r : V → List V → Hp → VK → Prop) (Fn : outParam (D → List D → Mu → PD → Prop)) : Prop where
  run : ∀ {F : List Addr} {H : Hp} {μ : Mu} {x : V} {dx : D} {vs : List V} {ds : List D} {P : PD} {Q : VK}, Wd K F μ H → Dt K F (dom μ) H x dx → DtAll K F (dom μ) H vs ds → Fn dx ds μ P → Out K F μ H P Q → r x vs H Q
class SL (K : PySem.W.Frag) (r : V → Option Int → Option Int → Hp → VK → Prop) (Fn : outParam (D → Option Int → Option Int → Mu → PD → Prop)) : Prop where
  run : ∀ {F : List Addr} {H : Hp} {μ : Mu} {x : V} {dx : D} {lo hi : Option Int} {P : PD} {Q : VK}, Wd K F μ H → Dt K F (dom μ) H x dx → Fn dx lo hi μ P → Out K F μ H P Q → r x lo hi H Q
/-- targets; ks: the slots that change -/
class SG (K : PySem.W.Frag) (g : TG) (G : outParam DG) (ks : outParam (List Nat)) : Prop where
  run : ∀ {F : List Addr} {σ : L2.St} {H : Hp} {η : Env} {μ : Mu} {v : V} {d : D} {P : Env → Mu → Prop} {Q : L2.St → Hp → Prop}, Wd K F μ H → EnvOk K F (dom μ) H σ η → Dt K F (dom μ) H v d → G d η μ P →
    (∀ σ' H' η' μ', Wd K F μ' H' → EnvOk K F (dom μ') H' σ' η' → Grow (dom μ) (dom μ') H H' → σ'.length = σ.length → (∀ i, i ∉ ks → σ'[i]? = σ[i]?) → P η' μ' → Q σ' H') → g v σ H Q
class SGs (K : PySem.W.Frag) (g : TGs) (G : outParam DGs) (ks : outParam (List Nat)) : Prop where
  run : ∀ {F : List Addr} {σ : L2.St} {H : Hp} {η : Env} {μ : Mu} {vs : List V} {ds : List D} {P : Env → Mu → Prop} {Q : L2.St → Hp → Prop}, Wd K F μ H → EnvOk K F (dom μ) H σ η → DtAll K F (dom μ) H vs ds → G ds η μ P →
    (∀ σ' H' η' μ', Wd K F μ' H' → EnvOk K F (dom μ') H' σ' η' → Grow (dom μ) (dom μ') H H' → σ'.length = σ.length → (∀ i, i ∉ ks → σ'[i]? = σ[i]?) → P η' μ' → Q σ' H') → g vs σ H Q
/-- statements -/
structure EndsOk (K : PySem.W.Frag) (F : List Addr) (μ : Mu) (H : Hp) (E : DEnds) (B : Ends) : Prop where
  nx : ∀ σ' H' η' μ', Wd K F μ' H' → EnvOk K F (dom μ') H' σ' η' → Grow (dom μ) (dom μ') H H' → E.nx η' μ' → B.nx σ' H'
  rt : ∀ v H' d μ', Wd K F μ' H' → Grow (dom μ) (dom μ') H H' → Dt K F (dom μ') H' v d → E.rt d μ' → B.rt v H'
  bk : ∀ σ' H' η' μ', Wd K F μ' H' → EnvOk K F (dom μ') H' σ' η' → Grow (dom μ) (dom μ') H H' → E.bk η' μ' → B.bk σ' H'
  ct : ∀ σ' H' η' μ', Wd K F μ' H' → EnvOk K F (dom μ') H' σ' η' → Grow (dom μ) (dom μ') H H' → E.ct η' μ' → B.ct σ' H'
theorem EndsOk.mono {K : PySem.W.Frag} {F : List Addr} {μ μ1 : Mu} {H H1 : Hp} {E : DEnds} {B : Ends} (h : EndsOk K F μ H E B) (g : Grow (dom μ) (dom μ1) H H1) : EndsOk K F μ1 H1 E B :=
  ⟨fun a b c d e f k => h.nx a b c d e f (g.trans k), fun a b c d e k => h.rt a b c d e (g.trans k), fun a b c d e f k => h.bk a b c d e f (g.trans k), fun a b c d e f k => h.ct a b c d e f (g.trans k)⟩
class SS (K : PySem.W.Frag) (t : TS) (T : outParam DS) : Prop where
  run : ∀ {F : List Addr} {B : Ends} {σ : L2.St} {H : Hp} {η : Env} {μ : Mu} {E : DEnds}, Wd K F μ H → EnvOk K F (dom μ) H σ η → T E η μ → EndsOk K F μ H E B → t B σ H
/-- iterables: the items, all of them, as data -/
def WalkD (K : PySem.W.Frag) (F : List Addr) (μ1 : Mu) (H1 : Hp) (J : It) (its : List D) : Prop :=
  ∀ F' μ H, (∀ a, a ∉ F → H1 a ≠ none → a ∉ F') → Grow (dom μ1) (dom μ) H1 H → Wd K F' μ H → (∀ i, i < its.length → J.go i H) ∧ J.stop its.length H ∧
    ∀ i x H', i < its.length → J.yld i H x H' → Wd K F' μ H' ∧ Grow (dom μ) (dom μ) H H' ∧ ∃ d, its[i]? = some d ∧ Dt K F' (dom μ) H' x d
class SI (K : PySem.W.Frag) (wi : TI) (W : outParam DA) : Prop where
  run : ∀ {F : List Addr} {σ : L2.St} {H : Hp} {η : Env} {μ : Mu} {P : List D → Mu → Prop} {R : It → Hp → Prop}, Wd K F μ H → EnvOk K F (dom μ) H σ η → W η μ P → (∀ J H' its μ', Wd K F μ' H' → Grow (dom μ) (dom μ') H H' → WalkD K F μ' H' J its → P its μ' → R J H') → wi σ H R
section
variable {K : PySem.W.Frag} {F : List Addr} {μ μ1 : Mu} {H H1 : Hp} {P : PD} {Q : VK}
theorem Out.mono (o : Out K F μ H P Q) (g : Grow (dom μ) (dom μ1) H H1) : Out K F μ1 H1 P Q := fun v H' d μ' w k e p => o v H' d μ' w (g.trans k) e p
theorem Out.here (o : Out K F μ H P Q) (w : Wd K F μ H) {v : V} {d : D} (h : Dt K F (dom μ) H v d) (p : P d μ) : Q v H := o v H d μ w (Grow.refl _ _) h p
theorem Out.newL (o : Out K F μ H P Q) (w : Wd K F μ H) {vs : List V} {xs : List D} (h : DtAll K F (dom μ) H vs xs) (p : P (.lst xs) μ) {a : Addr} (ha : H a = none) : Q (.ref a) (upd H a (.lst vs)) :=
  o _ _ _ μ (w.lay ha) (Grow.fresh ha) (.lst (w.fresh2 ha) upd_same (h.mono (Grow.fresh ha))) p
/-- a new list that may change -/
theorem Out.newM (o : Out K F μ H P Q) (w : Wd K F μ H) {vs : List V} {xs : List D} (h : DtAll K F (dom μ) H vs xs) (p : ∀ a, a ∉ dom μ → P (.cell a) ((a, .lst xs) :: μ)) {a : Addr} (ha : H a = none) : Q (.ref a) (upd H a (.lst vs)) :=
  o _ _ _ _ (w.layM ha h) (Grow.add ha) (.cell List.mem_cons_self) (p a (w.fresh ha))
theorem Out.newT (o : Out K F μ H P Q) (w : Wd K F μ H) {vs : List V} {xs : List D} (h : DtAll K F (dom μ) H vs xs) (p : P (.tup xs) μ) {a : Addr} (ha : H a = none) : Q (.ref a) (upd H a (.tup vs)) :=
  o _ _ _ μ (w.lay ha) (Grow.fresh ha) (.tup (w.fresh2 ha) upd_same (h.mono (Grow.fresh ha))) p
end
/-- a list, whether it may change or not -/
def asL (μ : Mu) : D → Option (List D)
  | .lst xs => some xs
  | .cell a => match mget a μ with
    | some (.lst xs) => some xs
    | _ => none
  | _ => none
theorem asL_at {K : PySem.W.Frag} {F : List Addr} {μ : Mu} {H : Hp} (w : Wd K F μ H) {v : V} {d : D} {xs : List D} (h : Dt K F (dom μ) H v d) (e : asL μ d = some xs) : ∃ a vs, v = .ref a ∧ H a = some (.lst vs) ∧ DtAll K F (dom μ) H vs xs := by
  cases h with
  | lst n e1 q =>
    cases e
    exact ⟨_, _, rfl, e1, q⟩
  | @cell a n =>
    unfold asL at e
    simp only at e
    cases c : mget a μ with
    | none => rw [c] at e; cases e
    | some m =>
      rw [c] at e
      cases m with
      | lst ys =>
        cases e
        obtain ⟨vs, e1, q⟩ := w.ok _ _ (mget_mem c)
        exact ⟨a, vs, rfl, e1, q⟩
      | ins C ns ds => cases e
  | _ => cases e

theorem DtAll.aside {K : PySem.W.Frag} {F F' M : List Addr} {H : Hp} (hf : ∀ a, a ∉ F → H a ≠ none → a ∉ F') : ∀ {vs : List V} {ds : List D}, DtAll K F M H vs ds → DtAll K F' M H vs ds
  | _, _, .nil => .nil
  | _, _, .cons h t => .cons (h.aside hf) (DtAll.aside hf t)
theorem EnvOk.aside {K : PySem.W.Frag} {F F' M : List Addr} {H : Hp} {σ : L2.St} {η : Env} (h : EnvOk K F M H σ η) (hf : ∀ a, a ∉ F → H a ≠ none → a ∉ F') : EnvOk K F' M H σ η :=
  ⟨h.len, fun i d e => let ⟨v, e', q⟩ := h.ok i d e; ⟨v, e', q.aside hf⟩⟩
theorem Wd.asideTo {K : PySem.W.Frag} {F F' : List Addr} {μ : Mu} {H : Hp} (w : Wd K F μ H) (hf : ∀ a, a ∉ F → H a ≠ none → a ∉ F') (hs : ∀ x, x ∈ F' → ∃ o, H x = some o) : Wd K F' μ H :=
  ⟨hs, w.nd, fun a ha => hf a (w.apart a ha) (by
    obtain ⟨o, e⟩ := w.there ha
    rw [e]
    simp), fun a m hm => by
    have q := w.ok a m hm
    cases m with
    | lst ds =>
      obtain ⟨vs, e1, q1⟩ := q
      exact ⟨vs, e1, q1.aside hf⟩
    | ins C ns ds =>
      obtain ⟨dx, vs, e1, l1, q1⟩ := q
      exact ⟨dx, vs, e1, l1, q1.aside hf⟩⟩
theorem Wd.drop {K : PySem.W.Frag} {F : List Addr} {D : Addr} {μ : Mu} {H : Hp} (w : Wd K (D :: F) μ H) : Wd K F μ H :=
  w.asideTo (fun x hx _ => fun z => hx (List.mem_cons_of_mem _ z)) fun x hx => w.fs x (List.mem_cons_of_mem _ hx)
/-- what is kept aside is changed: nobody sees it -/
theorem Dt.touch {K : PySem.W.Frag} {F M : List Addr} {H : Hp} {p : Addr} {o : HO} (hp : p ∈ F) (hm : p ∉ M) : ∀ {v : V} {d : D}, Dt K F M H v d → Dt K F M (upd H p o) v d := by
  intro v d h
  have ne : ∀ a, a ∉ F ++ M → a ≠ p := fun a n z => n (List.mem_append_left _ (by rw [z]; exact hp))
  refine Dt.rec (motive_1 := fun v d _ => Dt K F M (upd H p o) v d) (motive_2 := fun vs ds _ => DtAll K F M (upd H p o) vs ds) ?_ ?_ ?_ ?_ ?_ ?_ ?_ ?_ ?_ ?_ ?_ ?_ ?_ h
  · exact .non
  · exact .bl
  · exact .int
  · exact .str
  · exact .ty
  · exact .cls
  · intro a vs xs n e _ ih
    exact .tup n (by rw [upd_ne (ne a n)]; exact e) ih
  · intro a vs xs n e _ ih
    exact .lst n (by rw [upd_ne (ne a n)]; exact e) ih
  · intro a n
    exact .cell n
  · intro a dx C ns vs ds n e l _ ih
    exact .obj n (by rw [upd_ne (ne a n)]; exact e) l ih
  · intro a ns e
    refine .scr ?_
    rcases e with ⟨n, e⟩ | e
    · refine .inl ⟨n, ?_⟩
      have n' : a ≠ p := fun z => n (List.mem_append_left _ (by rw [z]; exact hp))
      rcases e with e | ⟨u, e⟩
      · exact .inl (by rw [upd_ne n']; exact e)
      · exact .inr ⟨u, by rw [upd_ne n']; exact e⟩
    · exact .inr e
  · exact .nil
  · intro v vs d ds _ _ h1 h2
    exact .cons h1 h2
theorem DtAll.touch {K : PySem.W.Frag} {F M : List Addr} {H : Hp} {p : Addr} {o : HO} (hp : p ∈ F) (hm : p ∉ M) : ∀ {vs : List V} {ds : List D}, DtAll K F M H vs ds → DtAll K F M (upd H p o) vs ds
  | _, _, .nil => .nil
  | _, _, .cons h t => .cons (h.touch hp hm) (DtAll.touch hp hm t)
theorem Wd.touch {K : PySem.W.Frag} {F : List Addr} {μ : Mu} {H : Hp} {p : Addr} {o : HO} (w : Wd K F μ H) (hp : p ∈ F) (hm : p ∉ dom μ) : Wd K F μ (upd H p o) :=
  ⟨fs_upd w.fs, w.nd, w.apart, fun a m hh => by
    have q := w.ok a m hh
    have n : a ≠ p := fun z => hm (by rw [← z]; exact List.mem_map.mpr ⟨_, hh, rfl⟩)
    cases m with
    | lst ds =>
      obtain ⟨vs, e1, q1⟩ := q
      exact ⟨vs, by rw [upd_ne n]; exact e1, q1.touch hp hm⟩
    | ins C ns ds =>
      obtain ⟨dx, vs, e1, l1, q1⟩ := q
      exact ⟨dx, vs, by rw [upd_ne n]; exact e1, l1, q1.touch hp hm⟩⟩
theorem Wd.layAside {K : PySem.W.Frag} {F : List Addr} {μ : Mu} {H : Hp} {p : Addr} {o : HO} (w : Wd K F μ H) (h : H p = none) : Wd K (p :: F) μ (upd H p o) := by
  have off : ∀ a, a ∉ F → H a ≠ none → a ∉ p :: F := fun x hx hn z => by
    rcases List.mem_cons.mp z with rfl | z
    · exact hn h
    · exact hx z
  have ga : Grow (dom μ) (dom μ) H (upd H p o) := Grow.fresh h
  refine ⟨fun x hx => ?_, w.nd, fun a ha => off a (w.apart a ha) ?_, fun b m hm => ?_⟩
  · rcases List.mem_cons.mp hx with rfl | hx
    · exact ⟨_, upd_same⟩
    · exact fs_upd w.fs x hx
  · obtain ⟨o, e⟩ := w.there ha
    rw [e]
    simp
  · have q := w.ok b m hm
    cases m with
    | lst ds =>
      obtain ⟨vs, e1, q1⟩ := q
      exact ⟨vs, by rw [upd_ne (ne_of_none e1 h)]; exact e1, (q1.aside off).mono ga⟩
    | ins C ns ds =>
      obtain ⟨dx, vs, e1, l1, q1⟩ := q
      exact ⟨dx, vs, by rw [upd_ne (ne_of_none e1 h)]; exact e1, l1, (q1.aside off).mono ga⟩
end DL

namespace DL
open PySem L2

/-! ### expressions -/
def look : Env → Nat → Option D
  | [], _ => none
  | x :: _, 0 => x
  | _ :: r, i + 1 => look r i
theorem look_get : ∀ {η : Env} {i : Nat} {d : D}, look η i = some d → η[i]? = some (some d)
  | [], _, _, h => by cases h
  | x :: r, 0, d, h => by
    have e : x = some d := h
    rw [e]
    rfl
  | x :: r, i + 1, d, h => by
    show r[i]? = some (some d)
    exact look_get (η := r) h
def dVar (i : Nat) : DE := fun η μ P => match look η i with
  | some d => P d μ
  | none => False
def dC (d : D) : DE := fun _ μ P => P d μ
section
variable {K : PySem.W.Frag}
instance {i : Nat} : SE K (tVar i) (dVar i) := ⟨fun {F σ H η μ P Q} w e h o => by
  unfold dVar at h
  cases c : look η i with
  | none => rw [c] at h; exact h.elim
  | some d =>
    rw [c] at h
    obtain ⟨v, hv, q⟩ := e.ok i d (look_get c)
    exact ⟨v, hv, o.here w q h⟩⟩
instance : SE K (tC .non) (dC .non) := ⟨fun w _ h o => o.here w .non h⟩
instance {b : Bool} : SE K (tC (.bl b)) (dC (.bl b)) := ⟨fun w _ h o => o.here w (.bl b) h⟩
instance {i : Int} : SE K (tC (.int i)) (dC (.int i)) := ⟨fun w _ h o => o.here w (.int i) h⟩
instance {x : Str} : SE K (tC (.str x)) (dC (.str x)) := ⟨fun w _ h o => o.here w (.str x) h⟩
instance {x : String} : SE K (tC (.ty x)) (dC (.ty x)) := ⟨fun w _ h o => o.here w (.ty x) h⟩
instance {C : Addr} : SE K (tC (.ref C)) (dC (.cls C)) := ⟨fun w _ h o => o.here w (.cls C) h⟩
def dOp (f : D → D → Mu → PD → Prop) (Ta Tb : DE) : DE := fun η μ P => Ta η μ fun x μ1 => Tb η μ1 fun y μ2 => f x y μ2 P
instance {r : R2} {ta tb : TE} {f : D → D → Mu → PD → Prop} {Ta Tb : DE} [a : SE K ta Ta] [b : SE K tb Tb] [c : SR K r f] : SE K (tOp r ta tb) (dOp f Ta Tb) := ⟨fun w e h o =>
  a.run w e h fun x H1 dx μ1 w1 g1 q1 h1 => b.run w1 (e.mono g1) h1 fun y H2 dy μ2 w2 g2 q2 h2 => c.run w2 (q1.mono g2) q2 h2 (o.mono (g1.trans g2))⟩
def dUn (f : D → Mu → PD → Prop) (Ta : DE) : DE := fun η μ P => Ta η μ fun x μ1 => f x μ1 P
instance {r : V → Hp → VK → Prop} {ta : TE} {f : D → Mu → PD → Prop} {Ta : DE} [a : SE K ta Ta] [c : SU K r f] : SE K (tUn r ta) (dUn f Ta) := ⟨fun w e h o =>
  a.run w e h fun x H1 dx μ1 w1 g1 q1 h1 => c.run w1 q1 h1 (o.mono g1)⟩
/-- the way of a boolean -/
def onB (d : D) (k : Bool → Prop) : Prop := match d with
  | .bl b => k b
  | _ => False
theorem onB_at {F M : List Addr} {H : Hp} {v : V} {d : D} {k : Bool → Prop} (h : Dt K F M H v d) (p : onB d k) : ∃ b, v = .bl b ∧ k b := by
  cases h <;> first | exact p.elim | exact ⟨_, rfl, p⟩
def dAndV (Ta Tb : DE) : DE := fun η μ P => Ta η μ fun x μ1 => onB x fun b => if b = true then Tb η μ1 P else P (.bl false) μ1
def dOrV (Ta Tb : DE) : DE := fun η μ P => Ta η μ fun x μ1 => onB x fun b => if b = true then P (.bl true) μ1 else Tb η μ1 P
def dNotV (Ta : DE) : DE := fun η μ P => Ta η μ fun x μ1 => onB x fun b => P (.bl (!b)) μ1
instance {ta tb : TE} {Ta Tb : DE} [a : SE K ta Ta] [b : SE K tb Tb] : SE K (tAndV ta tb) (dAndV Ta Tb) := ⟨fun w e h o =>
  a.run w e h fun x H1 dx μ1 w1 g1 q1 h1 => by
    obtain ⟨c, rfl, h2⟩ := onB_at q1 h1
    refine ⟨c, rfl, ?_⟩
    cases c with
    | true => exact b.run w1 (e.mono g1) h2 (o.mono g1)
    | false => exact (o.mono g1).here w1 (.bl false) h2⟩
instance {ta tb : TE} {Ta Tb : DE} [a : SE K ta Ta] [b : SE K tb Tb] : SE K (tOrV ta tb) (dOrV Ta Tb) := ⟨fun w e h o =>
  a.run w e h fun x H1 dx μ1 w1 g1 q1 h1 => by
    obtain ⟨c, rfl, h2⟩ := onB_at q1 h1
    refine ⟨c, rfl, ?_⟩
    cases c with
    | false => exact b.run w1 (e.mono g1) h2 (o.mono g1)
    | true => exact (o.mono g1).here w1 (.bl true) h2⟩
instance {ta : TE} {Ta : DE} [a : SE K ta Ta] : SE K (tNotV ta) (dNotV Ta) := ⟨fun w e h o =>
  a.run w e h fun x H1 dx μ1 w1 g1 q1 h1 => by
    obtain ⟨c, rfl, h2⟩ := onB_at q1 h1
    exact ⟨c, rfl, (o.mono g1).here w1 (.bl _) h2⟩⟩
def dIfE (C : DTs) (Ta Tb : DE) : DE := fun η μ P => C η μ fun b μ1 => if b = true then Ta η μ1 P else Tb η μ1 P
instance {t : TT} {ta tb : TE} {C : DTs} {Ta Tb : DE} [c : ST K t C] [a : SE K ta Ta] [b : SE K tb Tb] : SE K (tIf t ta tb) (dIfE C Ta Tb) := ⟨fun w e h o =>
  c.run w e h fun x H1 μ1 w1 g1 h1 => by
    cases x with
    | true => exact a.run w1 (e.mono g1) h1 (o.mono g1)
    | false => exact b.run w1 (e.mono g1) h1 (o.mono g1)⟩
/-! tests -/
def dB (Ta : DE) : DTs := fun η μ P => Ta η μ fun x μ1 => onB x fun b => P b μ1
instance {ta : TE} {Ta : DE} [a : SE K ta Ta] : ST K (tB ta) (dB Ta) := ⟨fun w e h o =>
  a.run w e h fun x H1 dx μ1 w1 g1 q1 h1 => by
    obtain ⟨c, rfl, h2⟩ := onB_at q1 h1
    exact ⟨c, rfl, o c H1 μ1 w1 g1 h2⟩⟩
instance {ta : TE} {Ta : DE} [a : SE K ta Ta] : ST K (tTest ta) (dB Ta) := ⟨fun w e h o =>
  a.run w e h fun x H1 dx μ1 w1 g1 q1 h1 => by
    obtain ⟨c, rfl, h2⟩ := onB_at q1 h1
    exact ⟨c, rfl, o c H1 μ1 w1 g1 h2⟩⟩
def dAnd (A B : DTs) : DTs := fun η μ P => A η μ fun b μ1 => if b = true then B η μ1 P else P false μ1
def dOr (A B : DTs) : DTs := fun η μ P => A η μ fun b μ1 => if b = true then P true μ1 else B η μ1 P
def dNot (A : DTs) : DTs := fun η μ P => A η μ fun b μ1 => P (!b) μ1
instance {t u : TT} {A B : DTs} [a : ST K t A] [b : ST K u B] : ST K (tAnd t u) (dAnd A B) := ⟨fun w e h o =>
  a.run w e h fun x H1 μ1 w1 g1 h1 => by
    cases x with
    | true => exact b.run w1 (e.mono g1) h1 fun y H2 μ2 w2 g2 h2 => o y H2 μ2 w2 (g1.trans g2) h2
    | false => exact o false H1 μ1 w1 g1 h1⟩
instance {t u : TT} {A B : DTs} [a : ST K t A] [b : ST K u B] : ST K (tOr t u) (dOr A B) := ⟨fun w e h o =>
  a.run w e h fun x H1 μ1 w1 g1 h1 => by
    cases x with
    | false => exact b.run w1 (e.mono g1) h1 fun y H2 μ2 w2 g2 h2 => o y H2 μ2 w2 (g1.trans g2) h2
    | true => exact o true H1 μ1 w1 g1 h1⟩
instance {t : TT} {A : DTs} [a : ST K t A] : ST K (tNot t) (dNot A) := ⟨fun w e h o =>
  a.run w e h fun x H1 μ1 w1 g1 h1 => o _ H1 μ1 w1 g1 h1⟩
def dYes : DTs := fun _ μ P => P true μ
instance : ST K tYes dYes := ⟨fun w e h o => o true _ _ w (Grow.refl _ _) h⟩
/-! arguments, displays -/
def dNil : DA := fun _ μ P => P [] μ
def dCons (Ta : DE) (Tr : DA) : DA := fun η μ P => Ta η μ fun x μ1 => Tr η μ1 fun xs μ2 => P (x :: xs) μ2
instance : SA K tNil dNil := ⟨fun w e h o => o [] _ [] _ w (Grow.refl _ _) .nil h⟩
instance {ta : TE} {tr : TA} {Ta : DE} {Tr : DA} [a : SE K ta Ta] [b : SA K tr Tr] : SA K (tCons ta tr) (dCons Ta Tr) := ⟨fun w e h o =>
  a.run w e h fun x H1 dx μ1 w1 g1 q1 h1 => b.run w1 (e.mono g1) h1 fun xs H2 ds μ2 w2 g2 q2 h2 => o _ H2 _ μ2 w2 (g1.trans g2) (.cons (q1.mono g2) q2) h2⟩
def dTup (Ta : DA) : DE := fun η μ P => Ta η μ fun xs μ1 => xs.length ≤ sizeLine ∧ P (.tup xs) μ1
def dLst (Ta : DA) : DE := fun η μ P => Ta η μ fun xs μ1 => xs.length ≤ sizeLine ∧ P (.lst xs) μ1
def dLstM (Ta : DA) : DE := fun η μ P => Ta η μ fun xs μ1 => xs.length ≤ sizeLine ∧ ∀ a, a ∉ dom μ1 → P (.cell a) ((a, .lst xs) :: μ1)
instance {t : TA} {T : DA} [a : SA K t T] : SE K (tTup t) (dTup T) := ⟨fun w e h o =>
  a.run w e h fun vs H1 ds μ1 w1 g1 q1 h1 => ⟨by rw [q1.len]; exact h1.1, fun p hp => (o.mono g1).newT w1 q1 h1.2 hp⟩⟩
instance {t : TA} {T : DA} [a : SA K t T] : SE K (tLst t) (dLst T) := ⟨fun w e h o =>
  a.run w e h fun vs H1 ds μ1 w1 g1 q1 h1 => ⟨by rw [q1.len]; exact h1.1, fun p hp => (o.mono g1).newL w1 q1 h1.2 hp⟩⟩
/-- a list that is made to be changed -/
def tLstM (t : TA) : TE := tLst t
theorem pe_lstM {X : Cx} {es : List Expr} {pos : Pos} {t : TA} (h : PA X es t) : PE X (.List es pos) (tLstM t) := pe_lst h
instance {t : TA} {T : DA} [a : SA K t T] : SE K (tLstM t) (dLstM T) := ⟨fun w e h o =>
  a.run w e h fun vs H1 ds μ1 w1 g1 q1 h1 => ⟨by rw [q1.len]; exact h1.1, fun p hp => (o.mono g1).newM w1 q1 h1.2 hp⟩⟩
/-! calls -/
def dCB (f : List D → Mu → PD → Prop) (T : DA) : DE := fun η μ P => T η μ fun xs μ1 => f xs μ1 P
instance {r : List V → Hp → VK → Prop} {t : TA} {f : List D → Mu → PD → Prop} {T : DA} [a : SA K t T] [c : SC K r f] : SE K (tCB r t) (dCB f T) := ⟨fun w e h o =>
  a.run w e h fun vs H1 ds μ1 w1 g1 q1 h1 => c.run w1 q1 h1 (o.mono g1)⟩
/-- what a def does to data: arguments, store, what follows -/
abbrev FS := List D → Mu → PD → Prop
/-- the promise of a def, from what it does to data -/
def spD (K : PySem.W.Frag) (f : FS) : Sp := fun vs H Q _ => ∃ F ds μ P, Wd K F μ H ∧ DtAll K F (dom μ) H vs ds ∧ f ds μ P ∧ Out K F μ H P Q
instance {f : FS} {t : TA} {T : DA} {E : XK} [a : SA K t T] : SE K (tCall (spD K f) [] E t) (dCB f T) := ⟨fun {F σ H η μ P Q} w e h o =>
  a.run w e h fun vs H1 ds μ1 w1 g1 q1 h1 => by
    show spD K f (vs ++ []) H1 _ E
    rw [List.append_nil]
    exact ⟨F, ds, μ1, _, w1, q1, h1, o.mono g1⟩⟩
/-! statements -/
def dSeq (t u : DS) : DS := fun E η μ => t (E.sq (u E)) η μ
def dNext : DS := fun E η μ => E.nx η μ
def dAsg (Te : DE) (G : DG) : DS := fun E η μ => Te η μ fun x μ1 => G x η μ1 E.nx
def dIf (C : DTs) (t u : DS) : DS := fun E η μ => C η μ fun b μ1 => if b = true then t E η μ1 else u E η μ1
def dRet (Te : DE) : DS := fun E η μ => Te η μ E.rt
def dRetN : DS := fun E _ μ => E.rt .non μ
def dDrop (Te : DE) : DS := fun E η μ => Te η μ fun _ μ1 => E.nx η μ1
def dBreak : DS := fun E η μ => E.bk η μ
def dCont : DS := fun E η μ => E.ct η μ
def dNever : DS := fun _ _ _ => False
instance {t u : TS} {T U : DS} [a : SS K t T] [b : SS K u U] : SS K (tSeq t u) (dSeq T U) := ⟨fun {F B σ H η μ E} w e h o =>
  a.run (E := E.sq (U E)) w e h ⟨fun σ' H' η' μ' w' e' g' h' => b.run w' e' h' (o.mono g'), o.rt, o.bk, o.ct⟩⟩
instance : SS K tNext dNext := ⟨fun w e h o => o.nx _ _ _ _ w e (Grow.refl _ _) h⟩
instance : SS K tBreak dBreak := ⟨fun w e h o => o.bk _ _ _ _ w e (Grow.refl _ _) h⟩
instance : SS K tCont dCont := ⟨fun w e h o => o.ct _ _ _ _ w e (Grow.refl _ _) h⟩
instance : SS K tNever dNever := ⟨fun w e h o => h⟩
instance {te : TE} {g : TG} {Te : DE} {G : DG} {ks : List Nat} [a : SE K te Te] [b : SG K g G ks] : SS K (tAsg te g) (dAsg Te G) := ⟨fun w e h o =>
  a.run w e h fun x H1 dx μ1 w1 g1 q1 h1 => b.run w1 (e.mono g1) q1 h1 fun σ' H' η' μ' w' e' g' _ _ h' => o.nx σ' H' η' μ' w' e' (g1.trans g') h'⟩
instance {c : TT} {t u : TS} {C : DTs} {T U : DS} [a : ST K c C] [b : SS K t T] [b' : SS K u U] : SS K (tIfS c t u) (dIf C T U) := ⟨fun w e h o =>
  a.run w e h fun x H1 μ1 w1 g1 h1 => by
    cases x with
    | true => exact b.run w1 (e.mono g1) h1 (o.mono g1)
    | false => exact b'.run w1 (e.mono g1) h1 (o.mono g1)⟩
instance {te : TE} {Te : DE} [a : SE K te Te] : SS K (tRet te) (dRet Te) := ⟨fun w e h o =>
  a.run w e h fun x H1 dx μ1 w1 g1 q1 h1 => o.rt x H1 dx μ1 w1 g1 q1 h1⟩
instance : SS K tRetN dRetN := ⟨fun w e h o => o.rt .non _ .non _ w (Grow.refl _ _) .non h⟩
instance {te : TE} {Te : DE} [a : SE K te Te] : SS K (tDrop te) (dDrop Te) := ⟨fun w e h o =>
  a.run w e h fun x H1 dx μ1 w1 g1 q1 h1 => o.nx _ H1 _ μ1 w1 (e.mono g1) g1 h1⟩
/-! targets -/
def dName (i : Nat) : DG := fun d η μ P => P (η.set i (some d)) μ
instance {i : Nat} : SG K (gName i) (dName i) [i] := ⟨fun {F σ H η μ v d P Q} w e q h o => o _ H _ μ w (e.set q) (Grow.refl _ _) (List.length_set) (fun j hj => List.getElem?_set_ne (fun z => hj (by rw [z]; exact List.mem_singleton.mpr rfl))) h⟩
def dGNil : DGs := fun ds η μ P => ds = [] ∧ P η μ
def dGCons (G : DG) (R : DGs) : DGs := fun ds η μ P => match ds with
  | d :: r => G d η μ fun η' μ' => R r η' μ' P
  | [] => False
instance : SGs K gNil dGNil [] := ⟨fun {F σ H η μ vs ds P Q} w e q h o => by
  obtain ⟨rfl, h⟩ := h
  cases q
  exact ⟨rfl, o σ H η μ w e (Grow.refl _ _) rfl (fun _ _ => rfl) h⟩⟩
instance {g : TG} {r : TGs} {G : DG} {R : DGs} {ks js : List Nat} [a : SG K g G ks] [b : SGs K r R js] : SGs K (gCons g r) (dGCons G R) (ks ++ js) := ⟨fun {F σ H η μ vs ds P Q} w e q h o => by
  cases q with
  | nil => exact h.elim
  | cons q1 q2 =>
    refine ⟨_, _, rfl, a.run w e q1 h fun σ' H' η' μ' w' e' g' l' k' h' => ?_⟩
    refine b.run w' e' (q2.mono g') h' fun σ2 H2 η2 μ2 w2 e2 g2 l2 k2 h2 => ?_
    exact o σ2 H2 η2 μ2 w2 e2 (g'.trans g2) (l2.trans l') (fun i hi => (k2 i (fun z => hi (List.mem_append_right _ z))).trans (k' i (fun z => hi (List.mem_append_left _ z)))) h2⟩
def dGTup (n : Nat) (R : DGs) : DG := fun d η μ P => match d with
  | .tup xs => xs.length = n ∧ R xs η μ P
  | _ => False
instance {n : Nat} {r : TGs} {R : DGs} {ks : List Nat} [b : SGs K r R ks] : SG K (gTup K n r) (dGTup n R) ks := ⟨fun {F σ H η μ v d P Q} w e q h o => by
  cases q with
  | tup na ea q' => exact ⟨_, _, rfl, SqT.of ea, q'.len.trans h.1, b.run w e q' h.2 o⟩
  | _ => exact h.elim⟩
def dGUnl (n : Nat) (R : DGs) : DG := fun d η μ P => match asL μ d with
  | some xs => xs.length = n ∧ R xs η μ P
  | none => False
instance {n : Nat} {r : TGs} {R : DGs} {ks : List Nat} [b : SGs K r R ks] : SG K (gUnl K n r) (dGUnl n R) ks := ⟨fun {F σ H η μ v d P Q} w e q h o => by
  unfold dGUnl at h
  cases c : asL μ d with
  | none => rw [c] at h; exact h.elim
  | some xs =>
    rw [c] at h
    obtain ⟨a, vs, rfl, ea, q'⟩ := asL_at w q c
    exact ⟨_, _, rfl, SqL.of ea, q'.len.trans h.1, b.run w e q' h.2 o⟩⟩
/-- xs[i] = v -/
def dSet (o i v : D) (μ : Mu) (P : Mu → Prop) : Prop := match o, i with
  | .cell a, .int k => match mget a μ with
    | some (.lst xs) => match ixN xs.length k with
      | some j => P (mput a (.lst (xs.set j v)) μ)
      | none => False
    | _ => False
  | _, _ => False
def dGSub (To Ti : DE) : DG := fun d η μ P => To η μ fun o μ1 => Ti η μ1 fun i μ2 => dSet o i d μ2 fun μ3 => P η μ3
theorem dSet_run {F : List Addr} {H : Hp} {μ : Mu} {o i v : V} {do' di dv : D} {P : Mu → Prop} {Q : Hp → Prop} (w : Wd K F μ H) (ho : Dt K F (dom μ) H o do') (hi : Dt K F (dom μ) H i di) (hv : Dt K F (dom μ) H v dv) (h : dSet do' di dv μ P)
    (q : ∀ H' μ', Wd K F μ' H' → Grow (dom μ) (dom μ') H H' → P μ' → Q H') : rSetL o i v H Q := by
  unfold dSet at h
  split at h
  · rename_i a k
    cases ho with
    | cell hm =>
      cases hi with
      | int k =>
        cases c : mget a μ with
        | none => rw [c] at h; exact h.elim
        | some m =>
          rw [c] at h
          cases m with
          | ins C ns ds => exact h.elim
          | lst xs =>
            simp only at h
            obtain ⟨vs, e1, q1⟩ := w.ok _ _ (mget_mem c)
            cases cj : ixN xs.length k with
            | none => rw [cj] at h; exact h.elim
            | some j =>
              rw [cj] at h
              have g := Grow.put (μ := μ) (H := H) (a := a) (o := .lst (vs.set j v)) hm
              refine ⟨a, vs, k, j, rfl, rfl, e1, by rw [q1.len]; exact cj, q _ _ (w.putL hm (q1.set j hv)) ?_ h⟩
              rw [dom_mput]
              exact g
  · exact h.elim
instance {to ti : TE} {To Ti : DE} [a : SE K to To] [b : SE K ti Ti] : SG K (gSub to ti rSetL) (dGSub To Ti) [] := ⟨fun {F σ H η μ v d P Q} w e q h o =>
  a.run w e h fun x H1 dx μ1 w1 g1 q1 h1 => b.run w1 (e.mono g1) h1 fun y H2 dy μ2 w2 g2 q2 h2 =>
    dSet_run w2 (q1.mono g2) q2 ((q.mono g1).mono g2) h2 fun H' μ' w' g' h' => o σ H' η μ' w' (((e.mono g1).mono g2).mono g') ((g1.trans g2).trans g') rfl (fun _ _ => rfl) h'⟩
end
end DL

namespace DL
open PySem L2
section
variable {K : PySem.W.Frag}
/-! ### for -/
def forD (G : DG) (T : DS) (E : DEnds) : List D → Env → Mu → Prop
  | [], η, μ => E.nx η μ
  | x :: r, η, μ => G x η μ fun η' μ' => T (E.lp (forD G T E r)) η' μ'
def dFor (W : DA) (G : DG) (T : DS) : DS := fun E η μ => W η μ fun its μ1 => forD G T E its η μ1
instance {wi : TI} {g : TG} {tb : TS} {W : DA} {G : DG} {ks : List Nat} {T : DS} [a : SI K wi W] [b : SG K g G ks] [c : SS K tb T] : SS K (tFor wi g tb) (dFor W G T) := ⟨fun {F B σ H η μ E} w e h o =>
  a.run w e h fun J H1 its μ1 w1 g1 wk h1 => by
    refine ⟨fun i m σ H => m = its.length - i ∧ i ≤ its.length ∧ ∃ η μ, Wd K F μ H ∧ EnvOk K F (dom μ) H σ η ∧ Grow (dom μ1) (dom μ) H1 H ∧ forD G T E (its.drop i) η μ,
      ⟨_, rfl, Nat.zero_le _, η, μ1, w1, e.mono g1, Grow.refl _ _, h1⟩, ?_⟩
    rintro i m σ2 H2 ⟨rfl, hi, η2, μ2, w2, e2, g2, h2⟩
    obtain ⟨go, stop, yld⟩ := wk F μ2 H2 (fun _ h _ => h) g2 w2
    by_cases hlt : i < its.length
    · refine .inr ⟨go i hlt, fun σ' H' => i + 1 ≤ its.length ∧ ∃ η μ, Wd K F μ H' ∧ EnvOk K F (dom μ) H' σ' η ∧ Grow (dom μ1) (dom μ) H1 H' ∧ forD G T E (its.drop (i + 1)) η μ, fun σ' H' n => ⟨_, (by omega), rfl, n⟩, fun x H' y => ?_⟩
      obtain ⟨w3, g3, d, hd, q3⟩ := yld i x H' hlt y
      rw [List.drop_eq_getElem_cons hlt] at h2
      have ed : its[i] = d := by
        rw [List.getElem?_eq_getElem hlt] at hd
        exact Option.some.inj hd
      rw [ed] at h2
      refine b.run w3 (e2.mono g3) q3 h2 fun σ4 H4 η4 μ4 w4 e4 g4 _ _ h4 => ?_
      have g5 := (g2.trans g3).trans g4
      refine c.run w4 e4 h4 ⟨?_, ?_, ?_, ?_⟩
      · exact fun σ' H' η' μ' w' e' g' h' => ⟨hlt, η', μ', w', e', g5.trans g', h'⟩
      · exact fun v H' d μ' w' g' q' h' => o.rt v H' d μ' w' ((g1.trans g5).trans g') q' h'
      · exact fun σ' H' η' μ' w' e' g' h' => o.nx σ' H' η' μ' w' e' ((g1.trans g5).trans g') h'
      · exact fun σ' H' η' μ' w' e' g' h' => ⟨hlt, η', μ', w', e', g5.trans g', h'⟩
    · have ei : i = its.length := by omega
      subst ei
      rw [List.drop_length] at h2
      exact .inl ⟨stop, o.nx σ2 H2 η2 μ2 w2 e2 (g1.trans g2) h2⟩⟩
/-- a for by what holds between its turns -/
theorem forD_inv {G : DG} {T : DS} {E : DEnds} (I : List D → Env → Mu → Prop) (hd : ∀ η μ, I [] η μ → E.nx η μ)
    (hs : ∀ x r η μ (N : Env → Mu → Prop), I (x :: r) η μ → (∀ η μ, I r η μ → N η μ) → G x η μ fun η' μ' => T (E.lp N) η' μ') :
    ∀ its η μ, I its η μ → forD G T E its η μ
  | [], η, μ, h => hd η μ h
  | x :: r, η, μ, h => hs x r η μ (forD G T E r) h (forD_inv I hd hs r)
/-! ### comprehensions -/
def lcD (G : DG) (C : DTs) (Te : DE) (η : Env) : List D → List D → Mu → (List D → Mu → Prop) → Prop
  | [], acc, μ, P => P acc μ
  | x :: r, acc, μ, P => G x η μ fun η' μ' => C η' μ' fun b μ2 => if b = true then Te η' μ2 fun z μ3 => lcD G C Te η r (acc ++ [z]) μ3 P else lcD G C Te η r acc μ2 P
def lcW (W : DA) (G : DG) (ks : List Nat) (C : DTs) (Te : DE) (vs : List Nat) (η : Env) (μ : Mu) (P : List D → Mu → Prop) : Prop := (∀ k ∈ ks, k ∈ vs) ∧ W η μ fun its μ1 => its.length ≤ sizeLine ∧ lcD G C Te (wipeD η vs) its [] μ1 P
def dLc (W : DA) (G : DG) (ks : List Nat) (C : DTs) (Te : DE) (vs : List Nat) : DE := fun η μ P => lcW W G ks C Te vs η μ fun zs μ1 => P (.lst zs) μ1
def dLcM (W : DA) (G : DG) (ks : List Nat) (C : DTs) (Te : DE) (vs : List Nat) : DE := fun η μ P => lcW W G ks C Te vs η μ fun zs μ1 => ∀ a, a ∉ dom μ1 → P (.cell a) ((a, .lst zs) :: μ1)
theorem lcD_inv {G : DG} {C : DTs} {Te : DE} {η : Env} {P : List D → Mu → Prop} (I : List D → List D → Mu → Prop) (hd : ∀ acc μ, I [] acc μ → P acc μ)
    (hs : ∀ x r acc μ (N : List D → Mu → Prop), I (x :: r) acc μ → (∀ acc μ, I r acc μ → N acc μ) → G x η μ fun η' μ' => C η' μ' fun b μ2 => if b = true then Te η' μ2 fun z μ3 => N (acc ++ [z]) μ3 else N acc μ2) :
    ∀ its acc μ, I its acc μ → lcD G C Te η its acc μ P
  | [], acc, μ, h => hd acc μ h
  | x :: r, acc, μ, h => hs x r acc μ (fun acc μ => lcD G C Te η r acc μ P) h (lcD_inv I hd hs r)
theorem wipe_ext : ∀ (vs : List Nat) {σ σ2 : L2.St}, σ2.length = σ.length → (∀ i, i ∉ vs → σ2[i]? = σ[i]?) → wipe σ2 vs = wipe σ vs := by
  intro vs σ σ2 hl hk
  refine List.ext_getElem? fun i => ?_
  by_cases c : i ∈ vs
  · have wn : ∀ (vs : List Nat) (σ : L2.St), i ∈ vs → (wipe σ vs)[i]? = if i < σ.length then some none else none := by
      intro vs
      induction vs with
      | nil => intro σ h; cases h
      | cons j r ih =>
        intro σ h
        show ((wipe σ r).set j none)[i]? = _
        by_cases ej : i = j
        · subst ej
          by_cases l : i < σ.length
          · rw [if_pos l, List.getElem?_set_self (by rw [wipe_length]; exact l)]
          · rw [if_neg l]
            exact List.getElem?_eq_none (by rw [List.length_set, wipe_length]; omega)
        · rw [List.getElem?_set_ne (Ne.symm ej)]
          exact ih σ ((List.mem_cons.mp h).resolve_left ej)
    rw [wn vs σ2 c, wn vs σ c, hl]
  · rw [wipe_out c, wipe_out c]
    exact hk i c
theorem lc_run {wi : TI} {g : TG} {tt : TT} {te : TE} {vs : List Nat} {W : DA} {G : DG} {ks : List Nat} {C : DTs} {Te : DE} [a : SI K wi W] [b : SG K g G ks] [c : ST K tt C] [e : SE K te Te]
    {F : List Addr} {σ : L2.St} {H : Hp} {η : Env} {μ : Mu} {P : List D → Mu → Prop} {Q : VK} (w : Wd K F μ H) (en : EnvOk K F (dom μ) H σ η) (h : lcW W G ks C Te vs η μ P)
    (o : ∀ D H' zs vz μ', Wd K F μ' H' → Grow (dom μ) (dom μ') H H' → H D = none → D ∉ F ++ dom μ' → H' D = some (.lst vz) → DtAll K F (dom μ') H' vz zs → P zs μ' → Q (.ref D) H') : tLc wi g tt te vs σ H Q := by
  obtain ⟨hk, h⟩ := h
  refine a.run w en h fun J H1 its μ1 w1 g1 wk h1 => ?_
  obtain ⟨hz, h1⟩ := h1
  intro D hD
  have fD := w1.fresh hD
  have fF := w1.freshF hD
  have w1' : Wd K (D :: F) μ1 (upd H1 D (.lst [])) := w1.layAside hD
  have en1 : EnvOk K (D :: F) (dom μ1) H1 σ η := (en.mono g1).aside fun x hx hn => by
    intro z
    rcases List.mem_cons.mp z with rfl | z
    · exact hn hD
    · exact hx z
  refine ⟨fun i m H2 => m = its.length - i ∧ i ≤ its.length ∧ ∃ μ2 acc vacc, Wd K (D :: F) μ2 H2 ∧ Grow (dom μ1) (dom μ2) H1 H2 ∧ D ∉ dom μ2 ∧ H2 D = some (.lst vacc) ∧ DtAll K (D :: F) (dom μ2) H2 vacc acc ∧ acc.length ≤ i ∧ lcD G C Te (wipeD η vs) (its.drop i) acc μ2 P,
    ⟨_, rfl, Nat.zero_le _, μ1, [], [], w1', Grow.fresh hD, fD, upd_same, .nil, Nat.le_refl _, h1⟩, ?_⟩
  rintro i m H2 ⟨rfl, hi, μ2, acc, vacc, w2, g2, nD, hD2, qa, hl, h2⟩
  have w2F : Wd K F μ2 H2 := w2.drop
  have offD : ∀ a, a ∉ F → H1 a ≠ none → a ∉ D :: F := fun x hx hn z => by
    rcases List.mem_cons.mp z with rfl | z
    · exact hn hD
    · exact hx z
  obtain ⟨go, stop, yld⟩ := wk (D :: F) μ2 H2 offD g2 w2
  by_cases hlt : i < its.length
  · refine .inr ⟨go i hlt, fun H' => i + 1 ≤ its.length ∧ ∃ μ2 acc vacc, Wd K (D :: F) μ2 H' ∧ Grow (dom μ1) (dom μ2) H1 H' ∧ D ∉ dom μ2 ∧ H' D = some (.lst vacc) ∧ DtAll K (D :: F) (dom μ2) H' vacc acc ∧ acc.length ≤ i + 1 ∧ lcD G C Te (wipeD η vs) (its.drop (i + 1)) acc μ2 P, fun H' n => ⟨_, (by omega), rfl, n⟩, fun x H' y => ?_⟩
    obtain ⟨w3, g3, d, hd, q3⟩ := yld i x H' hlt y
    rw [List.drop_eq_getElem_cons hlt] at h2
    have ed : its[i] = d := by
      rw [List.getElem?_eq_getElem hlt] at hd
      exact Option.some.inj hd
    rw [ed] at h2
    have e3 : EnvOk K (D :: F) (dom μ2) H' (wipe σ vs) (wipeD η vs) := ((en1.mono g2).mono g3).wipe vs
    refine b.run w3 e3 q3 h2 fun σ4 H4 η4 μ4 w4 e4 g4 l4 k4 h4 => ⟨?_, ?_⟩
    · have kk : ∀ i, i ∉ vs → σ4[i]? = (wipe σ vs)[i]? := fun j hj => k4 j fun z => hj (hk j z)
      have ww : wipe (wipe σ vs) vs = wipe σ vs := wipe_ext vs (wipe_length σ vs) fun j hj => wipe_out hj
      exact (wipe_ext vs l4 kk).trans ww
    refine c.run w4 e4 h4 fun bb H5 μ5 w5 g5 h5 => ?_
    have g35 := (g3.trans g4).trans g5
    have keepD : H5 D = some (.lst vacc) := g35.keep D _ nD hD2
    have nD5 : D ∉ dom μ5 := g35.stays nD hD2
    cases bb with
    | false =>
      rw [if_neg Bool.false_ne_true] at h5 ⊢
      exact ⟨hlt, μ5, acc, vacc, w5, g2.trans g35, nD5, keepD, qa.mono g35, by omega, h5⟩
    | true =>
      rw [if_pos rfl] at h5 ⊢
      refine e.run w5 (e4.mono g5) h5 fun y5 H6 d6 μ6 w6 g6 q6 h6 => ?_
      have g36 := g35.trans g6
      have keep6 : H6 D = some (.lst vacc) := g36.keep D _ nD hD2
      have nD6 : D ∉ dom μ6 := g36.stays nD hD2
      have qa6 := qa.mono g36
      refine ⟨vacc, keep6, by rw [qa.len]; omega, hlt, μ6, acc ++ [d6], vacc ++ [y5], ?_, ?_, nD6, upd_same, ?_, by rw [List.length_append, List.length_singleton]; omega, h6⟩
      · exact w6.touch List.mem_cons_self nD6
      · refine ⟨fun x u hx hu => ?_, (g2.trans g36).sub, (g2.trans g36).new⟩
        rw [upd_ne (ne_of_none hu hD)]
        exact (g2.trans g36).keep x u hx hu
      · exact (qa6.app (.one q6)).touch List.mem_cons_self nD6
  · have ei : i = its.length := by omega
    subst ei
    rw [List.drop_length] at h2
    refine .inl ⟨stop, ?_⟩
    have gg := g1.trans g2
    refine o D H2 acc vacc μ2 w2F gg ?_ (app_not fF nD) hD2 (qa.aside fun x hx _ => fun z => hx (List.mem_cons_of_mem _ z)) h2
    exact g1.free (fun z => fD (g1.sub _ z)) hD
instance {wi : TI} {g : TG} {tt : TT} {te : TE} {vs : List Nat} {W : DA} {G : DG} {ks : List Nat} {C : DTs} {Te : DE} [a : SI K wi W] [b : SG K g G ks] [c : ST K tt C] [e : SE K te Te] : SE K (tLc wi g tt te vs) (dLc W G ks C Te vs) := ⟨fun w en h o =>
  lc_run w en h fun D H' zs vz μ' w' g' _ nD e' q' h' => o _ H' _ μ' w' g' (.lst nD e' q') h'⟩
end
end DL

namespace DL
open PySem L2
/-! ### t * 1 is t itself -/
theorem tuple_mul1 (l : Addr) (items : Array Value) (n : Nat) (dd : Option Addr) (sl : Array (Option Value)) (u : Tok) :
    Meets (Builtin.«tuple.__mul__» ⟨[.ref l, .int 1 u], []⟩) (fun _ R s => s.heap.get? l = some { cls := .type "tuple", dict := dd, data := .seq items n, slots := sl } ∧ R (.ok (.ret (Value.ref l))) s) :=
  .of_wp fun prog w A R s h => by
    obtain ⟨hp, g, d, tk, os⟩ := s
    obtain ⟨hl, h⟩ := h
    have f1 := AutoSeq1.idx_int
    have c0 : (decide ((1 : Int) < -(2 ^ 63)) || decide ((1 : Int) ≥ 2 ^ 63)) = false := by decide
    have c1 : (items.isEmpty || (1 : Int) == 1) = true := by simp
    wp_walk using wpAny_loadPart' hl
    repeat (first
      | (refine wpAny_ite_false (decide_eq_false (by rw [c0]; exact Bool.false_ne_true)) ?_; wp_walk using wpAny_loadPart' hl)
      | (refine wpAny_ite_true (decide_eq_true c1) ?_; wp_walk using wpAny_loadPart' hl))
    exact ⟨_, rfl, h⟩
def rRep1 (K : PySem.W.Frag) : R2 := fun x y H Q => ∃ l xs, x = .ref l ∧ y = .int 1 ∧ SqT K H l xs ∧ Q (.ref l) H
theorem op_rep1 {X : Cx} : OpR X (binaryOp .Mult) (rRep1 X.K) := by
  intro pins s σ H x y v u Q I rx ry h
  obtain ⟨l, xs, rfl, rfl, hT, q⟩ := h
  cases rx
  obtain ⟨t, rfl⟩ := ry
  obtain ⟨its, r, ⟨⟨cls, dd, data, sl⟩, ho, hc, n, hd⟩, hs⟩ := I.tuple hT
  simp only at hc hd
  subst hc hd
  refine wpAny_binaryOp_repeat_ref (T := "tuple") (U := "int") (by decide) ⟨_, ho, rfl⟩ (fun s' => typeIs_int s' 1 t) noFill_tuple_mul F.fills_int_mul F.slot_int_rmul repeat_tuple F.slot_int_index.lookup
    (call_meets F.slot_int_rmul (typeIs_int s 1 t) F.entry_int_rmul (F.args_int_rmul_2 _ _) (int_rmul_tuple 1 t l its.toArray n dd sl)
      ⟨ho, rfl, ⟨_, ho, rfl⟩, call_meets F.slot_tuple_mul ⟨_, ho, rfl⟩ F.entry_tuple_mul (F.args_tuple_mul_2 _ _) (tuple_mul1 l its.toArray n dd sl t) ⟨ho, ?_⟩⟩)
  exact ⟨.ref l, H, I, rfl, q⟩
end DL

namespace DL
open PySem L2
/-! ### data as the library's data -/
mutual
def toP : D → PyData
  | .non => .none
  | .bl b => .bool b
  | .int i => .int i
  | .str s => .str s
  | .tup xs => .tuple (toPs xs)
  | .lst xs => .list (toPs xs)
  | .ty _ => .none
  | .cls _ => .none
  | .cell _ => .none
  | .obj _ _ _ => .none
  | .scr _ => .none
def toPs : List D → List PyData
  | [] => []
  | x :: r => toP x :: toPs r
end
mutual
/-- plain data of a depth below n -/
def plain : Nat → D → Bool
  | _, .non => true
  | _, .bl _ => true
  | _, .int _ => true
  | _, .str s => PyData.strOk s
  | 0, .tup _ => false
  | n + 1, .tup xs => decide (xs.length ≤ 100000) && plains n xs
  | 0, .lst _ => false
  | n + 1, .lst xs => decide (xs.length ≤ 100000) && plains n xs
  | _, .ty _ => false
  | _, .cls _ => false
  | _, .cell _ => false
  | _, .obj _ _ _ => false
  | _, .scr _ => false
def plains : Nat → List D → Bool
  | _, [] => true
  | n, x :: r => plain n x && plains n r
end
def der (μ : Mu) : D → D
  | .cell a => match mget a μ with
    | some (.lst xs) => .lst xs
    | _ => .cell a
  | d => d
theorem plain_tup {n : Nat} {xs : List D} (h : plain (n + 1) (.tup xs) = true) : xs.length ≤ 100000 ∧ plains n xs = true := by
  simpa [plain] using h
theorem plain_lst {n : Nat} {xs : List D} (h : plain (n + 1) (.lst xs) = true) : xs.length ≤ 100000 ∧ plains n xs = true := by
  simpa [plain] using h
theorem plain_tup_of {n : Nat} {xs : List D} (h1 : xs.length ≤ 100000) (h2 : plains n xs = true) : plain (n + 1) (.tup xs) = true := by
  simp [plain, h1, h2]
theorem plain_lst_of {n : Nat} {xs : List D} (h1 : xs.length ≤ 100000) (h2 : plains n xs = true) : plain (n + 1) (.lst xs) = true := by
  simp [plain, h1, h2]
theorem plain_tup0 {xs : List D} : ¬ plain 0 (.tup xs) = true := by simp [plain]
theorem plain_lst0 {xs : List D} : ¬ plain 0 (.lst xs) = true := by simp [plain]
theorem plains_cons {n : Nat} {x : D} {xs : List D} : plains n (x :: xs) = (plain n x && plains n xs) := by simp [plains]
theorem plains_nil {n : Nat} : plains n [] = true := by simp [plains]
theorem plains_of {n : Nat} : ∀ {xs : List D}, (∀ x ∈ xs, plain n x = true) → plains n xs = true
  | [], _ => plains_nil
  | x :: r, h => by rw [plains_cons, h x List.mem_cons_self, plains_of (fun y hy => h y (List.mem_cons_of_mem _ hy))]; rfl
theorem plains_mem {n : Nat} : ∀ {xs : List D}, plains n xs = true → ∀ x ∈ xs, plain n x = true
  | [], _, x, h => nomatch h
  | y :: r, h, x, hx => by
    rw [plains_cons, Bool.and_eq_true] at h
    rcases List.mem_cons.mp hx with rfl | z
    · exact h.1
    · exact plains_mem h.2 x z
theorem plain_int {n : Nat} {i : Int} : plain n (.int i) = true := by cases n <;> simp [plain]
theorem plain_bl {n : Nat} {i : Bool} : plain n (.bl i) = true := by cases n <;> simp [plain]
theorem plain_non {n : Nat} : plain n .non = true := by cases n <;> simp [plain]
theorem plain_str {n : Nat} {s : Str} : plain n (.str s) = PyData.strOk s := by cases n <;> simp [plain]
theorem plains_ints {n : Nat} (ns : List Int) : plains n (ns.map D.int) = true := plains_of fun x hx => by
  obtain ⟨i, _, rfl⟩ := List.mem_map.mp hx
  exact plain_int
/-- a tuple of ints -/
theorem plain_ints {n : Nat} {ns : List Int} (h : ns.length ≤ 100000) : plain (n + 1) (.tup (ns.map D.int)) = true := plain_tup_of (by rw [List.length_map]; exact h) (plains_ints ns)
section
variable {K : PySem.W.Frag}
mutual
theorem plain_shape : ∀ (n : Nat) (d : D), plain n d = true → (toP d).canLay0 = true ∧ (toP d).depth ≤ n
  | n, .non, _ => by simp [toP, PyData.canLay0, PyData.depth]
  | n, .bl _, _ => by simp [toP, PyData.canLay0, PyData.depth]
  | n, .int _, _ => by simp [toP, PyData.canLay0, PyData.depth]
  | n, .str s, h => by
    have h' : PyData.strOk s = true := by simpa [plain] using h
    simp [toP, PyData.canLay0, PyData.depth, h']
  | 0, .tup _, h => by simp [plain] at h
  | n + 1, .tup xs, h => by
    have q := plains_shape n xs (plain_tup h).2
    refine ⟨by simpa [toP, PyData.canLay0] using q.1, ?_⟩
    simp only [toP, PyData.depth]
    have := q.2
    omega
  | 0, .lst _, h => by simp [plain] at h
  | n + 1, .lst xs, h => by
    have q := plains_shape n xs (plain_lst h).2
    refine ⟨by simpa [toP, PyData.canLay0] using q.1, ?_⟩
    simp only [toP, PyData.depth]
    have := q.2
    omega
  | n, .ty _, h => by simp [plain] at h
  | n, .cls _, h => by simp [plain] at h
  | n, .cell _, h => by simp [plain] at h
  | n, .obj _ _ _, h => by simp [plain] at h
  | n, .scr _, h => by simp [plain] at h
theorem plains_shape : ∀ (n : Nat) (ds : List D), plains n ds = true → PyData.canLayAll0 (toPs ds) = true ∧ PyData.depthAll (toPs ds) ≤ n
  | n, [], _ => by simp [toPs, PyData.canLayAll0, PyData.depthAll]
  | n, x :: r, h => by
    have h' : plain n x = true ∧ plains n r = true := by simpa [plains] using h
    have a := plain_shape n x h'.1
    have b := plains_shape n r h'.2
    refine ⟨by simp [toPs, PyData.canLayAll0, a.1, b.1], ?_⟩
    simp only [toPs, PyData.depthAll]
    have := a.2
    have := b.2
    omega
end
mutual
theorem plain_dp {F M : List Addr} {H : Hp} : ∀ (n : Nat) (d : D) {v : V}, plain n d = true → Dt K F M H v d → Dp K H v (toP d)
  | n, .non, v, _, q => by cases q; exact .non
  | n, .bl b, v, _, q => by cases q; exact .bl b
  | n, .int b, v, _, q => by cases q; exact .int b
  | n, .str b, v, _, q => by cases q; exact .str b
  | 0, .tup _, v, h, q => by simp [plain] at h
  | n + 1, .tup xs, v, h, q => by
    cases q with
    | tup na e qs => exact .tup (SqT.of e) (plains_dp n xs (plain_tup h).2 qs)
  | 0, .lst _, v, h, q => by simp [plain] at h
  | n + 1, .lst xs, v, h, q => by
    cases q with
    | lst na e qs => exact .lst (SqL.of e) (plains_dp n xs (plain_lst h).2 qs)
  | n, .ty _, v, h, q => by simp [plain] at h
  | n, .cls _, v, h, q => by simp [plain] at h
  | n, .cell _, v, h, q => by simp [plain] at h
  | n, .obj _ _ _, v, h, q => by simp [plain] at h
  | n, .scr _, v, h, q => by simp [plain] at h
theorem plains_dp {F M : List Addr} {H : Hp} : ∀ (n : Nat) (ds : List D) {vs : List V}, plains n ds = true → DtAll K F M H vs ds → DpAll K H vs (toPs ds)
  | n, [], vs, _, q => by cases q; exact .nil
  | n, x :: r, vs, h, q => by
    have h' : plain n x = true ∧ plains n r = true := by simpa [plains] using h
    cases q with
    | cons a b => exact .cons (plain_dp n x h'.1 a) (plains_dp n r h'.2 b)
end
theorem der_dp {F : List Addr} {μ : Mu} {H : Hp} (w : Wd K F μ H) {d : D} {v : V} (h : plain 60 (der μ d) = true) (q : Dt K F (dom μ) H v d) : Dp K H v (toP (der μ d)) := by
  cases d with
  | cell a =>
    unfold der at h ⊢
    simp only at h ⊢
    cases c : mget a μ with
    | none => rw [c] at h; simp [plain] at h
    | some m =>
      rw [c] at h
      cases m with
      | ins C ns ds => simp [plain] at h
      | lst xs =>
        simp only at h ⊢
        cases q
        obtain ⟨vs, e1, q1⟩ := w.ok _ _ (mget_mem c)
        exact .lst (SqL.of e1) (plains_dp 59 xs (plain_lst h).2 q1)
  | _ => exact plain_dp 60 _ h q
theorem der_shaped {μ : Mu} {d : D} (h : plain 60 (der μ d) = true) : SeqAt.shaped (toP (der μ d)) = true := by
  have q := plain_shape 60 _ h
  unfold SeqAt.shaped
  rw [q.1, decide_eq_true (by have := q.2; omega)]
  rfl
/-! ### operators -/
def rAddU (K : PySem.W.Frag) : R2 := fun x y H Q => rI0 (fun i j => .int (i + j)) x y H Q ∨ (∃ i j, x = .str i ∧ y = .str j ∧ i.length + j.length ≤ sizeLine ∧ Q (.str (i ++ j)) H) ∨ rCatA K x y H Q ∨ rCat x y H Q
theorem op_addU {X : Cx} : OpR X (binaryOp .Add) (rAddU X.K) := op_add.or (op_add_str.or (op_catA.or op_cat))
def addD (x y : D) (μ : Mu) (P : PD) : Prop := match x, y with
  | .int i, .int j => P (.int (i + j)) μ
  | .str i, .str j => i.length + j.length ≤ sizeLine ∧ P (.str (i ++ j)) μ
  | .tup xs, .tup ys => xs.length + ys.length ≤ sizeLine ∧ P (.tup (xs ++ ys)) μ
  | x, y => ∃ xs ys, asL μ x = some xs ∧ asL μ y = some ys ∧ xs.length + ys.length ≤ sizeLine ∧ P (.lst (xs ++ ys)) μ
instance : SR K (rAddU K) addD := ⟨fun {F H μ x y dx dy P Q} w hx hy h o => by
  unfold addD at h
  split at h
  · cases hx; cases hy
    exact .inl ⟨_, _, rfl, rfl, o.here w (.int _) h⟩
  · cases hx; cases hy
    exact .inr (.inl ⟨_, _, rfl, rfl, h.1, o.here w (.str _) h.2⟩)
  · cases hx with
    | @tup a vs xs na ea qa =>
      cases hy with
      | @tup b ws ys nb eb qb =>
        refine .inr (.inr (.inl ⟨_, _, _, _, rfl, rfl, SqT.of ea, SqT.of eb, by rw [qa.len, qb.len]; exact h.1, fun z => ?_, fun _ z => ?_, fun _ _ p hp => ?_⟩))
        · subst z
          cases qa
          exact o.here w (.tup nb eb qb) h.2
        · subst z
          cases qb
          have h2 := h.2
          rw [List.append_nil] at h2
          exact o.here w (.tup na ea qa) h2
        · exact o.newT w (qa.app qb) h.2 hp
  · obtain ⟨xs, ys, e1, e2, hl, h⟩ := h
    obtain ⟨a, vs, rfl, ea, qa⟩ := asL_at w hx e1
    obtain ⟨b, ws, rfl, eb, qb⟩ := asL_at w hy e2
    exact .inr (.inr (.inr ⟨a, b, vs, ws, rfl, rfl, ea, eb, by rw [qa.len, qb.len]; exact hl, fun p hp => o.newL w (qa.app qb) h hp⟩))⟩
def rSubU : R2 := rI0 fun i j => .int (i - j)
theorem op_subU {X : Cx} : OpR X (binaryOp .Sub) rSubU := op_sub
def subD (x y : D) (μ : Mu) (P : PD) : Prop := match x, y with
  | .int i, .int j => P (.int (i - j)) μ
  | _, _ => False
instance : SR K rSubU subD := ⟨fun {F H μ x y dx dy P Q} w hx hy h o => by
  unfold subD at h
  split at h
  · cases hx; cases hy
    exact ⟨_, _, rfl, rfl, o.here w (.int _) h⟩
  · exact h.elim⟩
def rMulU (K : PySem.W.Frag) : R2 := fun x y H Q => rI CMul (fun i j => .int (i * j)) x y H Q ∨ rRepT K x y H Q ∨ rRep1 K x y H Q
theorem op_mulU {X : Cx} : OpR X (binaryOp .Mult) (rMulU X.K) := op_mul.or (op_repT.or op_rep1)
def mulD (x y : D) (μ : Mu) (P : PD) : Prop := match x, y with
  | .int i, .int j => CMul i j ∧ P (.int (i * j)) μ
  | .tup xs, .int k => xs ≠ [] ∧ 1 ≤ k ∧ k ≤ 1000 ∧ xs.length ≤ 1000 ∧ P (.tup (List.replicate k.toNat xs).flatten) μ
  | _, _ => False
theorem DtAll.rep {F M : List Addr} {H : Hp} {vs : List V} {ds : List D} (h : DtAll K F M H vs ds) : ∀ k : Nat, DtAll K F M H (List.replicate k vs).flatten (List.replicate k ds).flatten
  | 0 => .nil
  | k + 1 => by
    rw [List.replicate_succ, List.replicate_succ]
    exact h.app (DtAll.rep h k)
instance : SR K (rMulU K) mulD := ⟨fun {F H μ x y dx dy P Q} w hx hy h o => by
  unfold mulD at h
  split at h
  · cases hx; cases hy
    exact .inl ⟨_, _, rfl, rfl, h.1, o.here w (.int _) h.2⟩
  · rename_i xs k
    obtain ⟨h1, h2, h3, h4, h5⟩ := h
    cases hx with
    | @tup a vs xs na ea qa =>
      cases hy
      by_cases c : k = 1
      · subst c
        refine .inr (.inr ⟨a, vs, rfl, rfl, SqT.of ea, o.here w (.tup na ea qa) ?_⟩)
        have e : (List.replicate (1 : Int).toNat xs).flatten = xs := by simp
        rw [e] at h5
        exact h5
      · refine .inr (.inl ⟨a, k, vs, rfl, rfl, SqT.of ea, fun z => ?_, by omega, h3, by rw [qa.len]; exact h4, fun p hp => o.newT w (qa.rep _) h5 hp⟩)
        subst z
        cases qa
        exact h1 rfl
  · exact h.elim⟩
def rModU : R2 := rI (fun _ j => 0 < j) fun i j => .int (i % j)
theorem op_modU {X : Cx} : OpR X (binaryOp .Mod) rModU := op_mod
def modD (x y : D) (μ : Mu) (P : PD) : Prop := match x, y with
  | .int i, .int j => 0 < j ∧ P (.int (i % j)) μ
  | _, _ => False
instance : SR K rModU modD := ⟨fun {F H μ x y dx dy P Q} w hx hy h o => by
  unfold modD at h
  split at h
  · cases hx; cases hy
    exact ⟨_, _, rfl, rfl, h.1, o.here w (.int _) h.2⟩
  · exact h.elim⟩
def rDivU : R2 := rI CDiv fun i j => .int (i / j)
theorem op_divU {X : Cx} : OpR X (binaryOp .FloorDiv) rDivU := op_fdiv
def divD (x y : D) (μ : Mu) (P : PD) : Prop := match x, y with
  | .int i, .int j => CDiv i j ∧ P (.int (i / j)) μ
  | _, _ => False
instance : SR K rDivU divD := ⟨fun {F H μ x y dx dy P Q} w hx hy h o => by
  unfold divD at h
  split at h
  · cases hx; cases hy
    exact ⟨_, _, rfl, rfl, h.1, o.here w (.int _) h.2⟩
  · exact h.elim⟩
def rPowU : R2 := rI CPow fun i j => .int (i ^ j.toNat)
theorem op_powU {X : Cx} : OpR X (binaryOp .Pow) rPowU := op_pow
def powD (x y : D) (μ : Mu) (P : PD) : Prop := match x, y with
  | .int i, .int j => CPow i j ∧ P (.int (i ^ j.toNat)) μ
  | _, _ => False
instance : SR K rPowU powD := ⟨fun {F H μ x y dx dy P Q} w hx hy h o => by
  unfold powD at h
  split at h
  · cases hx; cases hy
    exact ⟨_, _, rfl, rfl, h.1, o.here w (.int _) h.2⟩
  · exact h.elim⟩
/-! ### comparisons -/
def rCmpU (f : Int → Int → Bool) : R2 := rI0 fun i j => .bl (f i j)
abbrev fLt (i j : Int) : Bool := decide (i < j)
abbrev fLe (i j : Int) : Bool := decide (i ≤ j)
abbrev fGt (i j : Int) : Bool := decide (j < i)
abbrev fGe (i j : Int) : Bool := decide (j ≤ i)
theorem op_leU {X : Cx} : OpR X (compareOp .LtE) (rCmpU fLe) := op_le
theorem op_gtU {X : Cx} : OpR X (compareOp .Gt) (rCmpU fGt) := op_gt
theorem op_geU {X : Cx} : OpR X (compareOp .GtE) (rCmpU fGe) := op_ge
def cmpD (f : Int → Int → Bool) (x y : D) (μ : Mu) (P : PD) : Prop := match x, y with
  | .int i, .int j => P (.bl (f i j)) μ
  | _, _ => False
instance {f : Int → Int → Bool} : SR K (rCmpU f) (cmpD f) := ⟨fun {F H μ x y dx dy P Q} w hx hy h o => by
  unfold cmpD at h
  split at h
  · cases hx; cases hy
    exact ⟨_, _, rfl, rfl, o.here w (.bl _) h⟩
  · exact h.elim⟩
/-- a < b: ints, or alike data -/
def rLtA (K : PySem.W.Frag) : R2 := fun x y H Q => ∃ d e, Dp K H x d ∧ Dp K H y e ∧ PySem.W.alike d e = true ∧ d ≠ .none ∧ d.depth ≤ 64 ∧ Q (.bl (PySem.W.dataLt d e)) H
theorem op_ltA {X : Cx} (hu : X.A.units + 64 < cLine) : OpR X (compareOp .Lt) (rLtA X.K) := by
  intro pins s σ H x y v u Q I rx ry h
  obtain ⟨d, e, hd, he, ha, hn, hz, q⟩ := h
  obtain ⟨as, r1⟩ := Dp.reads I d x v hd rx
  obtain ⟨bs, r2⟩ := Dp.reads I e y u he ry
  exact PySem.W.rcLt_alike d e X.A s v u as bs r1 r2 ha hn (by omega) _ _ _ _ ⟨.bl _, H, I, rfl, q⟩
def rLtU (K : PySem.W.Frag) : R2 := fun x y H Q => rCmpU fLt x y H Q ∨ rLtA K x y H Q
theorem op_ltU {X : Cx} (hu : X.A.units + 64 < cLine) : OpR X (compareOp .Lt) (rLtU X.K) := op_lt.or (op_ltA hu)
def ltD (x y : D) (μ : Mu) (P : PD) : Prop := match x, y with
  | .int i, .int j => P (.bl (decide (i < j))) μ
  | x, y => plain 60 (der μ x) = true ∧ plain 60 (der μ y) = true ∧ PySem.W.alike (toP (der μ x)) (toP (der μ y)) = true ∧ toP (der μ x) ≠ .none ∧ P (.bl (PySem.W.dataLt (toP (der μ x)) (toP (der μ y)))) μ
instance : SR K (rLtU K) ltD := ⟨fun {F H μ x y dx dy P Q} w hx hy h o => by
  unfold ltD at h
  split at h
  · cases hx; cases hy
    exact .inl ⟨_, _, rfl, rfl, o.here w (.bl _) h⟩
  · obtain ⟨h1, h2, h3, h4, h5⟩ := h
    refine .inr ⟨_, _, der_dp w h1 hx, der_dp w h2 hy, h3, h4, ?_, o.here w (.bl _) h5⟩
    have := (plain_shape 60 _ h1).2
    omega⟩
def rEqU (K : PySem.W.Frag) : R2 := rEqD K
theorem op_eqU {X : Cx} (hu : X.A.units + 64 < cLine) : OpR X (compareOp .Eq) (rEqU X.K) := op_eqD hu
def rNeU (K : PySem.W.Frag) : R2 := rNeD K
theorem op_neU {X : Cx} (hu : X.A.units + 64 < cLine) : OpR X (compareOp .NotEq) (rNeU X.K) := op_neD hu
def eqB (μ : Mu) (x y : D) : Bool := PyData.eqv (toP (der μ x)) (toP (der μ y))
def eqD (x y : D) (μ : Mu) (P : PD) : Prop := plain 60 (der μ x) = true ∧ plain 60 (der μ y) = true ∧ P (.bl (eqB μ x y)) μ
def neD (x y : D) (μ : Mu) (P : PD) : Prop := plain 60 (der μ x) = true ∧ plain 60 (der μ y) = true ∧ P (.bl (!eqB μ x y)) μ
instance : SR K (rEqU K) eqD := ⟨fun w hx hy h o => ⟨_, _, der_dp w h.1 hx, der_dp w h.2.1 hy, der_shaped h.1, der_shaped h.2.1, o.here w (.bl _) h.2.2⟩⟩
instance : SR K (rNeU K) neD := ⟨fun w hx hy h o => ⟨_, _, der_dp w h.1 hx, der_dp w h.2.1 hy, der_shaped h.1, der_shaped h.2.1, o.here w (.bl _) h.2.2⟩⟩
def isN : D → Bool
  | .non => true
  | _ => false
theorem isN_at {F M : List Addr} {H : Hp} {v : V} {d : D} (h : Dt K F M H v d) : decide (v = .non) = isN d := by
  cases h <;> first | exact decide_eq_true rfl | exact decide_eq_false (fun z => nomatch z)
def dIsN (Ta : DE) : DE := fun η μ P => Ta η μ fun x μ1 => P (.bl (isN x)) μ1
def dNotN (Ta : DE) : DE := fun η μ P => Ta η μ fun x μ1 => P (.bl (!isN x)) μ1
instance {ta : TE} {Ta : DE} [a : SE K ta Ta] : SE K (tIsN ta) (dIsN Ta) := ⟨fun w e h o =>
  a.run w e h fun x H1 dx μ1 w1 g1 q1 h1 => by
    rw [isN_at q1]
    exact (o.mono g1).here w1 (.bl _) h1⟩
instance {ta : TE} {Ta : DE} [a : SE K ta Ta] : SE K (tNotN ta) (dNotN Ta) := ⟨fun w e h o =>
  a.run w e h fun x H1 dx μ1 w1 g1 q1 h1 => by
    rw [isN_at q1]
    exact (o.mono g1).here w1 (.bl _) h1⟩
def dChain (f f' : D → D → Mu → PD → Prop) (Ta Tb Tc : DE) : DE := fun η μ P => Ta η μ fun x μ1 => Tb η μ1 fun y μ2 => f x y μ2 fun z μ3 => onB z fun k => if k = true then Tc η μ3 fun c μ4 => f' y c μ4 P else P (.bl false) μ3
instance {r r' : R2} {ta tb tc : TE} {f f' : D → D → Mu → PD → Prop} {Ta Tb Tc : DE} [a : SE K ta Ta] [b : SE K tb Tb] [c : SE K tc Tc] [s : SR K r f] [s' : SR K r' f'] : SE K (tChain r r' ta tb tc) (dChain f f' Ta Tb Tc) := ⟨fun w e h o =>
  a.run w e h fun x H1 dx μ1 w1 g1 q1 h1 => b.run w1 (e.mono g1) h1 fun y H2 dy μ2 w2 g2 q2 h2 => s.run w2 (q1.mono g2) q2 h2 fun z H3 dz μ3 w3 g3 q3 h3 => by
    obtain ⟨k, rfl, h4⟩ := onB_at q3 h3
    refine ⟨k, rfl, ?_⟩
    have g123 := (g1.trans g2).trans g3
    cases k with
    | true => exact c.run w3 (e.mono g123) h4 fun u H4 du μ4 w4 g4 q4 h5 => s'.run w4 ((q2.mono g3).mono g4) q4 h5 (o.mono (g123.trans g4))
    | false => exact (o.mono g123).here w3 (.bl _) h4⟩
/-! ### subscripts -/
def seqOf (μ : Mu) : D → Option (List D)
  | .tup xs => some xs
  | d => asL μ d
def ixD (x y : D) (μ : Mu) (P : PD) : Prop := match y with
  | .int i => match x with
    | .str z => z.length ≤ sizeLine ∧ (match atI z.cps.toList i with
      | some c => P (.str ⟨#[c]⟩) μ
      | none => False)
    | x => match seqOf μ x with
      | some xs => match atI xs i with
        | some d => P d μ
        | none => False
      | none => False
  | _ => False
theorem DtAll.atI {F M : List Addr} {H : Hp} {vs : List V} {ds : List D} {i : Int} {d : D} (q : DtAll K F M H vs ds) (h : L2.atI ds i = some d) : ∃ v, L2.atI vs i = some v ∧ Dt K F M H v d := by
  unfold L2.atI at h ⊢
  rw [q.len]
  cases c : ixN ds.length i with
  | none => rw [c] at h; cases h
  | some j =>
    rw [c] at h
    exact q.getD h
instance : SR K (rIx K) ixD := ⟨fun {F H μ x y dx dy P Q} w hx hy h o => by
  unfold ixD at h
  split at h
  · cases hy
    rename_i i
    split at h
    · rename_i z
      cases hx
      obtain ⟨h1, h⟩ := h
      cases c : atI z.cps.toList i with
      | none => rw [c] at h; exact h.elim
      | some u =>
        rw [c] at h
        exact .inr (.inr ⟨_, _, u, rfl, rfl, h1, c, o.here w (.str _) h⟩)
    · rename_i d0 hd
      clear hd d0
      cases c : seqOf μ dx with
      | none => rw [c] at h; exact h.elim
      | some xs =>
        rw [c] at h
        simp only at h
        cases c2 : atI xs i with
        | none => rw [c2] at h; exact h.elim
        | some u =>
          rw [c2] at h
          simp only at h
          by_cases ct : ∃ ys, dx = .tup ys
          · obtain ⟨ys, rfl⟩ := ct
            have e : ys = xs := Option.some.inj c
            subst e
            cases hx with
            | tup na ea qa =>
              obtain ⟨v, hv, q⟩ := qa.atI c2
              exact .inr (.inl ⟨_, _, _, v, rfl, rfl, SqT.of ea, hv, o.here w q h⟩)
          · have c' : asL μ dx = some xs := by
              cases dx <;> first | exact c | exact absurd ⟨_, rfl⟩ ct
            obtain ⟨a, vs, rfl, ea, qa⟩ := asL_at w hx c'
            obtain ⟨v, hv, q⟩ := qa.atI c2
            exact .inl ⟨_, _, _, v, rfl, rfl, SqL.of ea, hv, o.here w q h⟩
  · exact h.elim⟩
end
end DL

namespace DL
open PySem PySem.Spec PyProof.Rows L2
section
variable {K : PySem.W.Frag}
/-! ### slices -/
def cut {α : Type} (xs : List α) (lo hi : Option Int) : List α := (xs.drop (HT.sIx xs.length 0 lo)).take (HT.sIx xs.length xs.length hi - HT.sIx xs.length 0 lo)
theorem DtAll.cut {F M : List Addr} {H : Hp} {vs : List V} {ds : List D} (q : DtAll K F M H vs ds) (lo hi : Option Int) : DtAll K F M H (cutV vs lo hi) (DL.cut ds lo hi) := by
  unfold cutV DL.cut
  rw [q.len]
  exact (q.drop _).take _
theorem cut_map {α β : Type} (f : α → β) (xs : List α) (lo hi : Option Int) : cut (xs.map f) lo hi = (cut xs lo hi).map f := by
  unfold cut
  rw [List.length_map, ← List.map_drop, ← List.map_take]
def rSlU (K : PySem.W.Frag) : V → Option Int → Option Int → Hp → VK → Prop := fun x lo hi H Q => rSlL K x lo hi H Q ∨ rSlA K x lo hi H Q ∨ rSlS x lo hi H Q
theorem sl_U {X : Cx} : SlR X (rSlU X.K) := sl_list.or (sl_tupA.or sl_str)
def slD (x : D) (lo hi : Option Int) (μ : Mu) (P : PD) : Prop := match x with
  | .str z => z.length ≤ sizeLine ∧ P (.str (cutS z lo hi)) μ
  | .tup xs => P (.tup (cut xs lo hi)) μ
  | .scr ns => P (.lst ((cut ns lo hi).map D.int)) μ
  | x => match asL μ x with
    | some xs => P (.lst (cut xs lo hi)) μ
    | none => False
theorem cut_whole {α : Type} {xs : List α} {lo hi : Option Int} (h : HT.sIx xs.length 0 lo = 0 ∧ HT.sIx xs.length xs.length hi = xs.length) : cut xs lo hi = xs := by
  unfold cut
  rw [h.1, h.2, List.drop_zero, Nat.sub_zero, List.take_length]
instance : SL K (rSlU K) slD := ⟨fun {F H μ x dx lo hi P Q} w hx h o => by
  unfold slD at h
  split at h
  · cases hx
    exact .inr (.inr ⟨_, rfl, h.1, o.here w (.str _) h.2⟩)
  · cases hx with
    | tup na ea qa =>
      refine .inr (.inl ⟨_, _, rfl, SqT.of ea, fun z => ?_, fun z p hp => ?_⟩)
      · rw [qa.len] at z
        rw [cut_whole z] at h
        exact o.here w (.tup na ea qa) h
      · exact o.newT w (qa.cut lo hi) h hp
  · rename_i ns
    cases hx with
    | scr e =>
      refine .inl ⟨_, _, rfl, e.sq, fun p hp => ?_⟩
      have q : DtAll K F (dom μ) H (cutV (ns.map V.int) lo hi) ((cut ns lo hi).map D.int) := by
        have z : cutV (ns.map V.int) lo hi = (cut ns lo hi).map V.int := cut_map V.int ns lo hi
        rw [z]
        exact DtAll.of_ints _
      exact o.newL w q h hp
  · rename_i d0 _ _ _
    clear d0
    cases c : asL μ dx with
    | none => rw [c] at h; exact h.elim
    | some xs =>
      rw [c] at h
      obtain ⟨a, vs, rfl, ea, qa⟩ := asL_at w hx c
      exact .inl ⟨_, _, rfl, SqL.of ea, fun p hp => o.newL w (qa.cut lo hi) h hp⟩⟩
def dNoPart : DO := fun _ μ P => P none μ
def dPart (T : DE) : DO := fun η μ P => T η μ fun x μ1 => match x with
  | .int i => P (some i) μ1
  | _ => False
instance : SO K tNoPart dNoPart := ⟨fun w e h o => o none _ _ w (Grow.refl _ _) h⟩
instance {t : TE} {T : DE} [a : SE K t T] : SO K (tPart t) (dPart T) := ⟨fun w e h o =>
  a.run w e h fun x H1 dx μ1 w1 g1 q1 h1 => by
    cases q1 <;> first | exact h1.elim | exact ⟨_, rfl, o _ H1 μ1 w1 g1 h1⟩⟩
def dSl (f : D → Option Int → Option Int → Mu → PD → Prop) (T : DE) (Tl Th : DO) : DE := fun η μ P => T η μ fun x μ1 => Tl η μ1 fun l μ2 => Th η μ2 fun u μ3 => f x l u μ3 P
instance {r : V → Option Int → Option Int → Hp → VK → Prop} {t : TE} {tl th : TO} {f : D → Option Int → Option Int → Mu → PD → Prop} {T : DE} {Tl Th : DO} [a : SE K t T] [b : SO K tl Tl] [c : SO K th Th] [s : SL K r f] : SE K (tSl r t tl th) (dSl f T Tl Th) := ⟨fun w e h o =>
  a.run w e h fun x H1 dx μ1 w1 g1 q1 h1 => b.run w1 (e.mono g1) h1 fun l H2 μ2 w2 g2 h2 => c.run w2 ((e.mono g1).mono g2) h2 fun u H3 μ3 w3 g3 h3 =>
    s.run w3 ((q1.mono g2).mono g3) h3 (o.mono ((g1.trans g2).trans g3))⟩
/-! ### what is walked -/
/-- things of which nothing changes -/
theorem walkD_of {F : List Addr} {μ1 : Mu} {H1 : Hp} {J : It} {its : List D} {n : Nat} {G : Hp → Prop} {Y : Nat → Hp → V → Hp → Prop} (wk : Walk J n G Y) (hn : n = its.length)
    (hG : ∀ H, (∀ x o, H1 x = some o → x ∉ F ++ dom μ1 → H x = some o) → G H)
    (hY : ∀ F' μ H, (∀ a, a ∉ F → H1 a ≠ none → a ∉ F') → Grow (dom μ1) (dom μ) H1 H → Wd K F' μ H → ∀ i x H', i < its.length → Y i H x H' → Wd K F' μ H' ∧ Grow (dom μ) (dom μ) H H' ∧ ∃ d, its[i]? = some d ∧ Dt K F' (dom μ) H' x d) :
    WalkD K F μ1 H1 J its := by
  intro F' μ H hf g w
  have q : G H := hG H fun x o e n => g.keep x o (not_app n).2 e
  subst hn
  exact ⟨fun i hi => wk.goes i H hi q, wk.stops H q, fun i x H' hi y => hY F' μ H hf g w i x H' hi (wk.yields i H x H' hi q y)⟩
/-- any sequence: a list, a tuple, a text -/
def iSeq (K : PySem.W.Frag) (t : TE) : TI := fun σ H R => t σ H fun x H1 => (∃ a, x = .ref a ∧ (∃ xs, SqL K H1 a xs) ∧ R (Itl K a) H1) ∨ (∃ a, x = .ref a ∧ (∃ xs, SqT K H1 a xs) ∧ R (Itt K a) H1) ∨ (∃ z, x = .str z ∧ R (Its z) H1)
theorem pi_seq {X : Cx} {tg l : Expr} {tl : TE} (hl : PE X l tl) : PI X tg l (iSeq X.K tl) := by
  refine ⟨fun pins s σ H R I h => ?_⟩
  refine thn (hl.run pins s σ H _ I h) fun v s1 ⟨x, H1, I1, r1, q1⟩ => ?_
  rcases q1 with ⟨a, e, ⟨xs, hq⟩, q⟩ | ⟨a, e, ⟨xs, hq⟩, q⟩ | ⟨z, e, q⟩
  · subst e
    cases r1
    obtain ⟨its, rv, p, hz⟩ := I1.list hq
    refine wpAny_pyIter_list p.isList ?_
    refine ⟨s1.heap.objs.size, [s1.heap.objs.size], _, _, H1, rfl, I1.kept (t' := s1.toks) fun b o e => Heap.get?_push_of_some _ e, turn_list a _, ⟨_, Heap.get?_push_size _ rfl, rfl, rfl⟩, fun b hb => ?_, q⟩
    have e : b = s1.heap.objs.size := by simpa using hb
    subst e
    exact I1.fpOk (Nat.le_refl _) (I1.hok.fresh (Nat.le_refl _))
  · subst e
    cases r1
    obtain ⟨its, rv, p, hz⟩ := I1.tuple hq
    refine wpAny_pyIter_tuple (show s1.heap.IsTuple a its.toArray from p) ?_
    refine ⟨s1.heap.objs.size, [s1.heap.objs.size], _, _, H1, rfl, I1.kept (t' := s1.toks) fun b o e => Heap.get?_push_of_some _ e, turn_tuple a _, ⟨_, Heap.get?_push_size _ rfl, rfl, rfl⟩, fun b hb => ?_, q⟩
    have e : b = s1.heap.objs.size := by simpa using hb
    subst e
    exact I1.fpOk (Nat.le_refl _) (I1.hok.fresh (Nat.le_refl _))
  · subst e
    obtain ⟨t, rfl⟩ := r1
    cases ha : z.cps.all (· < 128)
    · exact wpAny_pyIter_wide ha (pi_one (tk := s1.toks) I1 _ (turn_str _ z t "str_iterator" (.inr rfl)) ⟨_, Heap.get?_push_size _ rfl, rfl, rfl⟩ q)
    · exact wpAny_pyIter_ascii ha (pi_one (tk := s1.toks) I1 _ (turn_str _ z t "str_ascii_iterator" (.inl rfl)) ⟨_, Heap.get?_push_size _ rfl, rfl, rfl⟩ q)
/-- the items of data that stands still -/
def itemsOf : D → Option (List D)
  | .lst xs => some xs
  | .tup xs => some xs
  | .str z => some (z.cps.toList.map fun c => .str ⟨#[c]⟩)
  | _ => none
def dSeqI (T : DE) : DA := fun η μ P => T η μ fun x μ1 => match itemsOf x with
  | some its => P its μ1
  | none => False
theorem DtAll.off {F F' M M' : List Addr} {H H' : Hp} {vs : List V} {ds : List D} (q : DtAll K F M H vs ds) (hf : ∀ a, a ∉ F → H a ≠ none → a ∉ F') (g : Grow M M' H H') : DtAll K F' M' H' vs ds := (q.aside hf).mono g
theorem walk_vals {F : List Addr} {μ1 : Mu} {H1 : Hp} {J : It} {vs : List V} {its : List D} {G : Hp → Prop} (wk : Walk J vs.length G (YAt vs)) (q : DtAll K F (dom μ1) H1 vs its)
    (hG : ∀ H, (∀ x o, H1 x = some o → x ∉ F ++ dom μ1 → H x = some o) → G H) : WalkD K F μ1 H1 J its :=
  walkD_of wk q.len hG fun F' μ H hf g w i x H' hi y => by
    obtain ⟨rfl, hx⟩ := y
    obtain ⟨d, hd, qd⟩ := (q.off hf g).get hx
    exact ⟨w, Grow.refl _ _, d, hd, qd⟩
instance {t : TE} {T : DE} [a : SE K t T] : SI K (iSeq K t) (dSeqI T) := ⟨fun {F σ H η μ P R} w e h o =>
  a.run w e h fun x H1 dx μ1 w1 g1 q1 h1 => by
    cases c : itemsOf dx with
    | none => rw [c] at h1; exact h1.elim
    | some its =>
      rw [c] at h1
      cases q1 with
      | @lst a vs xs na ea qa =>
        cases c
        exact .inl ⟨a, rfl, ⟨_, SqL.of ea⟩, o _ H1 _ μ1 w1 g1 (walk_vals walk_list qa fun H k => SqL.of (k a _ ea na)) h1⟩
      | @tup a vs xs na ea qa =>
        cases c
        exact .inr (.inl ⟨a, rfl, ⟨_, SqT.of ea⟩, o _ H1 _ μ1 w1 g1 (walk_vals walk_tup qa fun H k => SqT.of (k a _ ea na)) h1⟩)
      | str z =>
        cases c
        refine .inr (.inr ⟨z, rfl, o _ H1 _ μ1 w1 g1 (walkD_of walk_str (by simp) (fun _ _ => trivial) fun F' μ H hf g w i x H' hi y => ?_) h1⟩)
        obtain ⟨rfl, ch, hc, rfl⟩ := y
        refine ⟨w, Grow.refl _ _, .str ⟨#[ch]⟩, ?_, .str _⟩
        rw [List.getElem?_map, Array.getElem?_toList, hc]
        rfl
      | _ => cases c⟩
/-! range -/
def dRng1 (T : DA) : DA := fun η μ P => T η μ fun ds μ1 => match ds with
  | [.int j] => (-(2 ^ 62) ≤ j ∧ j < 2 ^ 62) ∧ P ((List.range j.toNat).map fun k => .int (k : Nat)) μ1
  | _ => False
instance {t : TA} {T : DA} [a : SA K t T] : SI K (iRng1 t) (dRng1 T) := ⟨fun {F σ H η μ P R} w e h o =>
  a.run w e h fun vs H1 ds μ1 w1 g1 q1 h1 => by
    split at h1
    · rename_i j
      cases q1 with
      | cons qa qb =>
        cases qb
        cases qa
        refine ⟨j, rfl, h1.1.1, h1.1.2, o _ H1 _ μ1 w1 g1 (walkD_of walk_range (by simp) (fun _ _ => trivial) fun F' μ H hf g w i x H' hi y => ?_) h1.2⟩
        obtain ⟨rfl, rfl⟩ := y
        have hi' : i < j.toNat := by simpa using hi
        refine ⟨w, Grow.refl _ _, .int (i : Nat), by simp [hi'], ?_⟩
        show Dt K F' (dom μ) _ (V.int (0 + (i : Int))) (D.int (i : Int))
        rw [Int.zero_add]
        exact .int _
    · exact h1.elim⟩
def dRng2 (T : DA) : DA := fun η μ P => T η μ fun ds μ1 => match ds with
  | [.int i, .int j] => (-(2 ^ 62) ≤ i ∧ i < 2 ^ 62 ∧ -(2 ^ 62) ≤ j ∧ j < 2 ^ 62) ∧ P ((List.range (j - i).toNat).map fun k => .int (i + (k : Nat))) μ1
  | _ => False
instance {t : TA} {T : DA} [a : SA K t T] : SI K (iRng2 t) (dRng2 T) := ⟨fun {F σ H η μ P R} w e h o =>
  a.run w e h fun vs H1 ds μ1 w1 g1 q1 h1 => by
    split at h1
    · rename_i i j
      cases q1 with
      | cons qa qb =>
        cases qb with
        | cons qb qc =>
          cases qc
          cases qa
          cases qb
          refine ⟨i, j, rfl, h1.1, o _ H1 _ μ1 w1 g1 (walkD_of walk_range (by simp) (fun _ _ => trivial) fun F' μ H hf g w k x H' hi y => ?_) h1.2⟩
          obtain ⟨rfl, rfl⟩ := y
          have hi' : k < (j - i).toNat := by simpa using hi
          exact ⟨w, Grow.refl _ _, .int (i + (k : Nat)), by simp [hi'], .int _⟩
    · exact h1.elim⟩
/-! pairs made on the way -/
theorem walk_pairs {F : List Addr} {μ1 : Mu} {H1 : Hp} {J : It} {n : Nat} {fx fy : Nat → Option V} {its : List D} {G : Hp → Prop} (wk : Walk J n G (YPair fx fy)) (hn : n = its.length)
    (hG : ∀ H, (∀ x o, H1 x = some o → x ∉ F ++ dom μ1 → H x = some o) → G H)
    (hd : ∀ F' μ H, (∀ a, a ∉ F → H1 a ≠ none → a ∉ F') → Grow (dom μ1) (dom μ) H1 H → ∀ i x y, i < its.length → fx i = some x → fy i = some y → ∃ dx dy, its[i]? = some (.tup [dx, dy]) ∧ Dt K F' (dom μ) H x dx ∧ Dt K F' (dom μ) H y dy) : WalkD K F μ1 H1 J its :=
  walkD_of wk hn hG fun F' μ H hf g w i v H' hi y => by
    obtain ⟨T, x, y, rfl, hT, rfl, ex, ey⟩ := y
    obtain ⟨dx, dy, e, q1, q2⟩ := hd F' μ H hf g i x y hi ex ey
    have gT : Grow (dom μ) (dom μ) H (upd H T (.tup [x, y])) := Grow.fresh hT
    exact ⟨w.lay hT, gT, _, e, .tup (w.fresh2 hT) upd_same (.cons (q1.mono gT) (.one (q2.mono gT)))⟩
def zipD (xs ys : List D) : List D := List.zipWith (fun x y => .tup [x, y]) xs ys
def dZip (T : DA) : DA := fun η μ P => T η μ fun ds μ1 => match ds with
  | [.tup xs, .tup ys] => P (zipD xs ys) μ1
  | [.lst xs, .lst ys] => P (zipD xs ys) μ1
  | _ => False
theorem zip_get {xs ys : List D} {i : Nat} {x y : D} (hx : xs[i]? = some x) (hy : ys[i]? = some y) : (zipD xs ys)[i]? = some (.tup [x, y]) := by
  unfold zipD
  rw [List.getElem?_zipWith, hx, hy]
theorem walk_zipT {a b : Addr} {xs ys : List V} {n : Nat} (hn : n = min xs.length ys.length) : Walk (RZ.ItzT K a b) n (fun H => SqT K H a xs ∧ SqT K H b ys) (YPair (fun i => xs[i]?) (fun i => ys[i]?)) := by
  subst hn
  refine ⟨fun i _ hi q => ?_, fun _ q => ⟨xs, ys, q.1, q.2, by omega⟩, fun i H v H' _ q y => ?_⟩
  · have h1 : i < xs.length := by omega
    have h2 : i < ys.length := by omega
    exact ⟨xs, ys, xs[i], ys[i], q.1, q.2, by simp [h1], by simp [h2]⟩
  · obtain ⟨T, x, z, h1, h2, h3, h4, h5⟩ := y
    exact ⟨T, x, z, h1, h2, h3, h4 xs q.1, h5 ys q.2⟩
instance {t : TA} {T : DA} [a : SA K t T] : SI K (RZ.iZipA K t) (dZip T) := ⟨fun {F σ H η μ P R} w e h o =>
  a.run w e h fun vs H1 ds μ1 w1 g1 q1 h1 => by
    split at h1
    · rename_i xs ys
      cases q1 with
      | cons qa qb =>
        cases qb with
        | cons qb qc =>
          cases qc
          cases qa with
          | @tup a va xs na ea qa =>
            cases qb with
            | @tup b vb ys nb eb qb =>
              refine ⟨a, b, va, vb, rfl, .inr ⟨SqT.of ea, SqT.of eb, o _ H1 _ μ1 w1 g1 (walk_pairs (n := min va.length vb.length) (walk_zipT rfl) ?_ (fun H k => ⟨SqT.of (k a _ ea na), SqT.of (k b _ eb nb)⟩) fun F' μ H hf g i x y hi ex ey => ?_) h1⟩⟩
              · rw [qa.len, qb.len]; simp [zipD]
              · obtain ⟨dx, e1, k1⟩ := (qa.off hf g).get ex
                obtain ⟨dy, e2, k2⟩ := (qb.off hf g).get ey
                exact ⟨dx, dy, zip_get e1 e2, k1, k2⟩
    · rename_i xs ys
      cases q1 with
      | cons qa qb =>
        cases qb with
        | cons qb qc =>
          cases qc
          cases qa with
          | @lst a va xs na ea qa =>
            cases qb with
            | @lst b vb ys nb eb qb =>
              refine ⟨a, b, va, vb, rfl, .inl ⟨SqL.of ea, SqL.of eb, o _ H1 _ μ1 w1 g1 (walk_pairs (n := min va.length vb.length) (walk_zip rfl) ?_ (fun H k => ⟨SqL.of (k a _ ea na), SqL.of (k b _ eb nb)⟩) fun F' μ H hf g i x y hi ex ey => ?_) h1⟩⟩
              · rw [qa.len, qb.len]; simp [zipD]
              · obtain ⟨dx, e1, k1⟩ := (qa.off hf g).get ex
                obtain ⟨dy, e2, k2⟩ := (qb.off hf g).get ey
                exact ⟨dx, dy, zip_get e1 e2, k1, k2⟩
    · exact h1.elim⟩
/-! ### built-in calls -/
def rLenU (K : PySem.W.Frag) : List V → Hp → VK → Prop := fun xs H Q => (∃ p ys, xs = [.ref p] ∧ (SqL K H p ys ∨ SqT K H p ys) ∧ Q (.int ys.length) H) ∨ ∃ z, xs = [.str z] ∧ z.length ≤ sizeLine ∧ Q (.int z.length) H
theorem call_lenU {X : Cx} : CallR X (.builtin "len") (rLenU X.K) := call_len_seq.or call_len_str
def lenD (ds : List D) (μ : Mu) (P : PD) : Prop := match ds with
  | [.str z] => z.length ≤ sizeLine ∧ P (.int z.length) μ
  | [d] => match seqOf μ d with
    | some xs => P (.int xs.length) μ
    | none => False
  | _ => False
theorem seqOf_at {F : List Addr} {μ : Mu} {H : Hp} (w : Wd K F μ H) {v : V} {d : D} {xs : List D} (h : Dt K F (dom μ) H v d) (e : seqOf μ d = some xs) : ∃ a vs, v = .ref a ∧ (SqL K H a vs ∨ SqT K H a vs) ∧ DtAll K F (dom μ) H vs xs := by
  by_cases ct : ∃ ys, d = .tup ys
  · obtain ⟨ys, rfl⟩ := ct
    cases e
    cases h with
    | tup na ea qa => exact ⟨_, _, rfl, .inr (SqT.of ea), qa⟩
  · have c' : asL μ d = some xs := by
      cases d <;> first | exact e | exact absurd ⟨_, rfl⟩ ct
    obtain ⟨a, vs, rfl, ea, qa⟩ := asL_at w h c'
    exact ⟨a, vs, rfl, .inl (SqL.of ea), qa⟩
instance : SC K (rLenU K) lenD := ⟨fun {F H μ vs ds P Q} w q h o => by
  unfold lenD at h
  split at h
  · cases q with
    | cons qa qb =>
      cases qb
      cases qa
      exact .inr ⟨_, rfl, h.1, o.here w (.int _) h.2⟩
  · rename_i d _
    cases q with
    | cons qa qb =>
      cases qb
      cases c : seqOf μ d with
      | none => rw [c] at h; exact h.elim
      | some xs =>
        rw [c] at h
        obtain ⟨a, vs, rfl, ea, qs⟩ := seqOf_at w qa c
        refine .inl ⟨a, vs, rfl, ea, ?_⟩
        rw [qs.len]
        exact o.here w (.int _) h
  · exact h.elim⟩
/-- sum of ints -/
def rSumT (K : PySem.W.Frag) : List V → Hp → VK → Prop := fun vs H Q => ∃ (a : Addr) (ns : List Int), vs = [V.ref a] ∧ SqT K H a (ns.map V.int) ∧ Q (.int ns.sum) H
theorem cr_sumT {X : Cx} (hc : X.calm = true) : CallR X (.builtin "sum") (rSumT X.K) := by
  intro pins s σ H vs us Q I r h
  obtain ⟨a, ns, rfl, hs, q⟩ := h
  obtain ⟨its, rv, hl, _⟩ := I.tuple hs
  rw [Vals.ref1 r]
  obtain ⟨xs, hx⟩ := rv.ints.allInts.items
  have hn : numsOf its.toArray.toList = ns := by rw [show its.toArray.toList = its from rfl, rv.ints.numsOf]
  have hl' : s.heap.IsTuple a its.toArray := hl
  rw [hx] at hl' hn
  rw [nums_intItems] at hn
  refine PySem.W.ktm_sumG (I.ok.hd hc) hl' fun h' tk t' hk => ?_
  rw [preSum_eq, List.take_of_length_le (by simp), hn]
  exact ⟨.int _, H, I.kept hk, ⟨_, rfl⟩, q⟩
def rSumU (K : PySem.W.Frag) : List V → Hp → VK → Prop := fun xs H Q => rSum K xs H Q ∨ rSumT K xs H Q
theorem call_sumU {X : Cx} (hc : X.calm = true) : CallR X (.builtin "sum") (rSumU X.K) := (cr_sum hc).or (cr_sumT hc)
def sumD (ds : List D) (μ : Mu) (P : PD) : Prop := ∃ (d : D) (ns : List Int), ds = [d] ∧ seqOf μ d = some (ns.map D.int) ∧ P (.int ns.sum) μ
instance : SC K (rSumU K) sumD := ⟨fun {F H μ vs ds P Q} w q h o => by
  obtain ⟨d, ns, rfl, e, h⟩ := h
  cases q with
  | cons qa qb =>
    cases qb
    obtain ⟨a, vs, rfl, ea, qs⟩ := seqOf_at w qa e
    have z := qs.ints
    subst z
    rcases ea with ea | ea
    · exact .inl ⟨a, ns, rfl, ea, o.here w (.int _) h⟩
    · exact .inr ⟨a, ns, rfl, ea, o.here w (.int _) h⟩⟩
def allD (ds : List D) (μ : Mu) (P : PD) : Prop := ∃ (d : D) (bs : List Bool), ds = [d] ∧ asL μ d = some (bs.map D.bl) ∧ P (.bl (bs.all id)) μ
instance : SC K (rAll K) allD := ⟨fun {F H μ vs ds P Q} w q h o => by
  obtain ⟨d, bs, rfl, e, h⟩ := h
  cases q with
  | cons qa qb =>
    cases qb
    obtain ⟨a, vs, rfl, ea, qs⟩ := asL_at w qa e
    have z := qs.bls
    subst z
    exact ⟨a, bs, rfl, SqL.of ea, o.here w (.bl _) h⟩⟩
def anyD (ds : List D) (μ : Mu) (P : PD) : Prop := ∃ (d : D) (bs : List Bool), ds = [d] ∧ asL μ d = some (bs.map D.bl) ∧ P (.bl (bs.any id)) μ
instance : SC K (rAny K) anyD := ⟨fun {F H μ vs ds P Q} w q h o => by
  obtain ⟨d, bs, rfl, e, h⟩ := h
  cases q with
  | cons qa qb =>
    cases qb
    obtain ⟨a, vs, rfl, ea, qs⟩ := asL_at w qa e
    have z := qs.bls
    subst z
    exact ⟨a, bs, rfl, SqL.of ea, o.here w (.bl _) h⟩⟩
def rIntU : List V → Hp → VK → Prop := fun xs H Q => (∃ i, xs = [.int i] ∧ Q (.int i) H) ∨ ∃ k, xs = [.bl k] ∧ Q (.int (if k then 1 else 0)) H
theorem call_intU {X : Cx} : CallR X (.type "int") rIntU := call_int1
def intD (ds : List D) (μ : Mu) (P : PD) : Prop := match ds with
  | [.int i] => P (.int i) μ
  | _ => False
instance : SC K rIntU intD := ⟨fun {F H μ vs ds P Q} w q h o => by
  unfold intD at h
  split at h
  · cases q with
    | cons qa qb =>
      cases qb
      cases qa
      exact .inl ⟨_, rfl, o.here w (.int _) h⟩
  · exact h.elim⟩
def rTupU (K : PySem.W.Frag) : List V → Hp → VK → Prop := fun xs H Q => ∃ p ys, xs = [.ref p] ∧ ((SqL K H p ys ∧ ∀ l, H l = none → Q (.ref l) (upd H l (.tup ys))) ∨ (SqT K H p ys ∧ Q (.ref p) H))
theorem call_tupU {X : Cx} : CallR X (.type "tuple") (rTupU X.K) := call_tuple_of
def tupD (ds : List D) (μ : Mu) (P : PD) : Prop := match ds with
  | [.tup xs] => P (.tup xs) μ
  | [d] => match asL μ d with
    | some xs => P (.tup xs) μ
    | none => False
  | _ => False
instance : SC K (rTupU K) tupD := ⟨fun {F H μ vs ds P Q} w q h o => by
  unfold tupD at h
  split at h
  · cases q with
    | cons qa qb =>
      cases qb
      cases qa with
      | tup na ea qs => exact ⟨_, _, rfl, .inr ⟨SqT.of ea, o.here w (.tup na ea qs) h⟩⟩
  · rename_i d _
    cases q with
    | cons qa qb =>
      cases qb
      cases c : asL μ d with
      | none => rw [c] at h; exact h.elim
      | some xs =>
        rw [c] at h
        obtain ⟨a, vs, rfl, ea, qs⟩ := asL_at w qa c
        exact ⟨a, vs, rfl, .inl ⟨SqL.of ea, fun l hl => o.newT w qs h hl⟩⟩
  · exact h.elim⟩
def rListU (K : PySem.W.Frag) : List V → Hp → VK → Prop := fun xs H Q => ∃ p ys, xs = [.ref p] ∧ (SqL K H p ys ∨ SqT K H p ys) ∧ ∀ l, H l = none → Q (.ref l) (upd H l (.lst ys))
theorem call_listU {X : Cx} : CallR X (.type "list") (rListU X.K) := call_list_of
def listD (ds : List D) (μ : Mu) (P : PD) : Prop := ∃ d xs, ds = [d] ∧ seqOf μ d = some xs ∧ P (.lst xs) μ
instance : SC K (rListU K) listD := ⟨fun {F H μ vs ds P Q} w q h o => by
  obtain ⟨d, xs, rfl, e, h⟩ := h
  cases q with
  | cons qa qb =>
    cases qb
    obtain ⟨a, vs, rfl, ea, qs⟩ := seqOf_at w qa e
    exact ⟨a, vs, rfl, ea, fun l hl => o.newL w qs h hl⟩⟩
def rListM (K : PySem.W.Frag) : List V → Hp → VK → Prop := rListU K
theorem call_listM {X : Cx} : CallR X (.type "list") (rListM X.K) := call_list_of
def listMD (ds : List D) (μ : Mu) (P : PD) : Prop := ∃ d xs, ds = [d] ∧ seqOf μ d = some xs ∧ ∀ a, a ∉ dom μ → P (.cell a) ((a, .lst xs) :: μ)
instance : SC K (rListM K) listMD := ⟨fun {F H μ vs ds P Q} w q h o => by
  obtain ⟨d, xs, rfl, e, h⟩ := h
  cases q with
  | cons qa qb =>
    cases qb
    obtain ⟨a, vs, rfl, ea, qs⟩ := seqOf_at w qa e
    exact ⟨a, vs, rfl, ea, fun l hl => o.newM w qs h hl⟩⟩
/-! isinstance -/
def tyName (μ : Mu) : D → Option String
  | .non => some "NoneType"
  | .bl _ => some "bool"
  | .int _ => some "int"
  | .str _ => some "str"
  | .tup _ => some "tuple"
  | .lst _ => some "list"
  | .cell a => match mget a μ with
    | some (.lst _) => some "list"
    | _ => none
  | _ => none
theorem tyName_at {F : List Addr} {μ : Mu} {H : Hp} (w : Wd K F μ H) {v : V} {d : D} {n : String} (h : Dt K F (dom μ) H v d) (e : tyName μ d = some n) : TyX K H v (.type n) := by
  cases h with
  | non => cases e; exact .base .non
  | bl b => cases e; exact .base (.bl b)
  | int b => cases e; exact .base (.int b)
  | str b => cases e; exact .base (.str b)
  | tup na ea qs => cases e; exact .base (.tup ea)
  | lst na ea qs => cases e; exact .base (.lst ea)
  | @cell a hm =>
    unfold tyName at e
    simp only at e
    cases c : mget a μ with
    | none => rw [c] at e; cases e
    | some m =>
      rw [c] at e
      cases m with
      | ins C ns ds => cases e
      | lst xs =>
        cases e
        obtain ⟨vs, e1, q1⟩ := w.ok _ _ (mget_mem c)
        exact .base (.lst e1)
  | _ => cases e
def isiD (ds : List D) (μ : Mu) (P : PD) : Prop := match ds with
  | [d, .ty n] => match tyName μ d with
    | some m => match kitB m n with
      | some b => P (.bl b) μ
      | none => False
    | none => False
  | _ => False
instance : SC K (rIsi K) isiD := ⟨fun {F H μ vs ds P Q} w q h o => by
  unfold isiD at h
  split at h
  · rename_i d n
    cases q with
    | cons qa qb =>
      cases qb with
      | cons qb qc =>
        cases qc
        cases qb
        cases c : tyName μ d with
        | none => rw [c] at h; exact h.elim
        | some m =>
          rw [c] at h
          simp only at h
          cases c2 : kitB m n with
          | none => rw [c2] at h; exact h.elim
          | some b =>
            rw [c2] at h
            exact ⟨_, _, _, _, b, rfl, .ty n, tyName_at w qa c, kit_ty c2, o.here w (.bl b) h⟩
  · exact h.elim⟩
/-! methods of lists -/
def dBM (f : D → List D → Mu → PD → Prop) (To : DE) (T : DA) : DE := fun η μ P => To η μ fun x μ1 => T η μ1 fun ds μ2 => f x ds μ2 P
end
end DL

namespace DL
open PySem PySem.Spec PyProof.Rows L2
/-! ### things that a def made and lets go -/
mutual
/-- the cell a is not in it -/
def nc (a : Addr) : D → Bool
  | .tup xs => ncs a xs
  | .lst xs => ncs a xs
  | .cell b => decide (b ≠ a)
  | .obj _ _ ds => ncs a ds
  | .non => true
  | .bl _ => true
  | .int _ => true
  | .str _ => true
  | .ty _ => true
  | .cls _ => true
  | .scr _ => true
def ncs (a : Addr) : List D → Bool
  | [] => true
  | x :: r => nc a x && ncs a r
end
def ncM (a : Addr) : Mu → Bool
  | [] => true
  | (_, .lst xs) :: r => ncs a xs && ncM a r
  | (_, .ins _ _ ds) :: r => ncs a ds && ncM a r
section
variable {K : PySem.W.Frag}
mutual
theorem nc_drop {F M : List Addr} {H : Hp} {a : Addr} : ∀ (d : D) {v : V}, nc a d = true → Dt K F (a :: M) H v d → Dt K F M H v d
  | .non, v, _, q => by cases q; exact .non
  | .bl b, v, _, q => by cases q; exact .bl b
  | .int b, v, _, q => by cases q; exact .int b
  | .str b, v, _, q => by cases q; exact .str b
  | .ty b, v, _, q => by cases q; exact .ty b
  | .cls b, v, _, q => by cases q; exact .cls b
  | .tup xs, v, h, q => by
    cases q with
    | tup na ea qs => exact .tup (app_not (not_app na).1 (fun z => (not_app na).2 (List.mem_cons_of_mem _ z))) ea (ncs_drop xs (by simpa [nc] using h) qs)
  | .lst xs, v, h, q => by
    cases q with
    | lst na ea qs => exact .lst (app_not (not_app na).1 (fun z => (not_app na).2 (List.mem_cons_of_mem _ z))) ea (ncs_drop xs (by simpa [nc] using h) qs)
  | .cell b, v, h, q => by
    have h' : b ≠ a := by simpa [nc] using h
    cases q with
    | cell hm => exact .cell ((List.mem_cons.mp hm).resolve_left h')
  | .obj C ns ds, v, h, q => by
    cases q with
    | obj na ea l qs => exact .obj (app_not (not_app na).1 (fun z => (not_app na).2 (List.mem_cons_of_mem _ z))) ea l (ncs_drop ds (by simpa [nc] using h) qs)
  | .scr ns, v, h, q => by
    cases q with
    | scr e =>
      refine .scr ?_
      rcases e with ⟨n, e⟩ | e
      · exact .inl ⟨app_not (not_app n).1 (fun z => (not_app n).2 (List.mem_cons_of_mem _ z)), e⟩
      · exact .inr e
theorem ncs_drop {F M : List Addr} {H : Hp} {a : Addr} : ∀ (ds : List D) {vs : List V}, ncs a ds = true → DtAll K F (a :: M) H vs ds → DtAll K F M H vs ds
  | [], vs, _, q => by cases q; exact .nil
  | x :: r, vs, h, q => by
    have h' : nc a x = true ∧ ncs a r = true := by simpa [ncs] using h
    cases q with
    | cons qa qb => exact .cons (nc_drop x h'.1 qa) (ncs_drop r h'.2 qb)
end
theorem ncM_mem {a b : Addr} {m : MO} : ∀ {μ : Mu}, ncM a μ = true → (b, m) ∈ μ → ncM a [(b, m)] = true
  | [], _, h => by cases h
  | (c, .lst xs) :: r, h, hm => by
    have h' : ncs a xs = true ∧ ncM a r = true := by simpa [ncM] using h
    rcases List.mem_cons.mp hm with z | z
    · cases z
      simp [ncM, h'.1]
    · exact ncM_mem h'.2 z
  | (c, .ins C ns ds) :: r, h, hm => by
    have h' : ncs a ds = true ∧ ncM a r = true := by simpa [ncM] using h
    rcases List.mem_cons.mp hm with z | z
    · cases z
      simp [ncM, h'.1]
    · exact ncM_mem h'.2 z
theorem Wd.forget {F : List Addr} {μ : Mu} {H : Hp} {a : Addr} {m : MO} (w : Wd K F ((a, m) :: μ) H) (h : ncM a μ = true) : Wd K F μ H :=
  ⟨w.fs, (List.nodup_cons.mp w.nd).2, fun b hb => w.apart b (List.mem_cons_of_mem _ hb), fun b n hm => by
    have q := w.ok b n (List.mem_cons_of_mem _ hm)
    have z := ncM_mem h hm
    cases n with
    | lst ds =>
      obtain ⟨vs, e, q⟩ := q
      exact ⟨vs, e, ncs_drop ds (by simpa [ncM] using z) q⟩
    | ins C ns ds =>
      obtain ⟨dx, vs, e, l, q⟩ := q
      exact ⟨dx, vs, e, l, ncs_drop ds (by simpa [ncM] using z) q⟩⟩
/-- what a def returns: things that it made itself may be let go (a list of its own is data from then on) -/
inductive Fz (M0 : List Addr) (P : PD) : D → Mu → Prop
  | here {d : D} {μ : Mu} : P d μ → Fz M0 P d μ
  | froze {a : Addr} {xs : List D} {μ : Mu} : a ∉ M0 → ncs a xs = true → ncM a μ = true → Fz M0 P (.lst xs) μ → Fz M0 P (.cell a) ((a, .lst xs) :: μ)
  | forget {a : Addr} {m : MO} {d : D} {μ : Mu} : a ∉ M0 → nc a d = true → ncM a μ = true → Fz M0 P d μ → Fz M0 P d ((a, m) :: μ)
theorem Grow.forget {M M' : List Addr} {H H' : Hp} {a : Addr} (g : Grow M (a :: M') H H') (h : a ∉ M) : Grow M M' H H' :=
  ⟨g.keep, fun x hx => (List.mem_cons.mp (g.sub x hx)).resolve_left fun z => h (by rw [← z]; exact hx), fun x hx n => g.new x (List.mem_cons_of_mem _ hx) n⟩
theorem Fz.run {F : List Addr} {μ : Mu} {H : Hp} {P : PD} {Q : VK} (o : Out K F μ H P Q) {d : D} {μ' : Mu} (h : Fz (dom μ) P d μ') : ∀ {v : V} {H' : Hp}, Wd K F μ' H' → Grow (dom μ) (dom μ') H H' → Dt K F (dom μ') H' v d → Q v H' := by
  induction h with
  | here p => exact fun w g q => o _ _ _ _ w g q p
  | @froze a xs μ2 na n1 n2 _ ih =>
    intro v H' w g q
    cases q with
    | cell hm =>
      obtain ⟨vs, e, qs⟩ := w.ok a (.lst xs) List.mem_cons_self
      have nF : a ∉ F := fun z => by
        have := (List.nodup_cons.mp w.nd).1
        exact absurd z (w.apart a List.mem_cons_self)
      exact ih (w.forget n2) (g.forget na) (.lst (app_not nF (List.nodup_cons.mp w.nd).1) e (ncs_drop xs n1 qs))
  | forget na n1 n2 _ ih =>
    intro v H' w g q
    exact ih (w.forget n2) (g.forget na) (nc_drop _ n1 q)
end
end DL

namespace DL
open PySem PySem.Spec PyProof.Rows L2
/-! ### a def of the module, called by places -/
structure Gd (K : PySem.W.Frag) (mg : Str → Option Value) (x : Str) (f : Addr) : Prop where
  mg : mg x = some (.ref f)
  kp : PySem.W.keepIn K (.ref f) = true
def tCallR (sp : Sp) (E : XK) (t : TA) : TE := fun σ H Q => t σ H fun vs H1 => sp vs H1 Q E
section
variable {X : Cx} {CX : CXT} {k j : Nat} {f : Addr} {sp : Sp} {E : XK} {x : Str} {p pos : Pos} {e : Expr} {es : List Expr} {t : TA}
theorem run_R {pins : List (Addr × Obj)} {σ : L2.St} {H : Hp} {s : Shared} {Q : VK} {us : List Value} {vs : List V} (F : FnR X.prog X.w X.K X.mg X.base CX k f sp) (hr : Room k X.A) (hx : Passes CX X E)
    (I : Inv X pins σ H s) (r : Vals vs us) (h : sp vs H Q E) : wpAny (model X.prog X.w) X.A (call (.ref f) us) (EP X pins σ Q) X.xe s := by
  refine wpAny_call (codeAny_mono (run_fnR F hr hx I r h) fun r s' hq => ?_)
  cases r with
  | error e => exact hq
  | ok fl =>
    cases fl with
    | ret u => exact hq
    | next => exact False.elim hq
    | brk => exact False.elim hq
    | cont => exact False.elim hq
theorem pe_callR (F : FnR X.prog X.w X.K X.mg X.base CX k f sp) (hg : Gd X.K X.mg x f) (hr : Room k X.A) (hx : Passes CX X E) (ha : PA X (e :: es) t) (hgl : Gl X x := by rfl)
    (hdb : (x == ("__debug__" : Str)) = false := by decide) (he : starEach (e :: es) X.env = (false, eval e X.env) :: starEach es X.env := by rfl) (hpl : (backTo pos (starEach es X.env)).any (·.1) = false := by rfl) :
    PE X (.Call (.Name x p) (e :: es) [] pos) (tCallR sp E t) := by
  refine ⟨fun pins s σ H Q I h => ?_⟩
  refine wpAny_Call_Name_kw (ld_glob I hgl hg.mg ?_ hdb)
  refine PySem.W.callWith_K (h₀ := X.base) I.ok.mod.kin hg.kp (thn (ha.run pos pins s σ H _ I h) fun us s1 ⟨vs, H1, I1, r, q⟩ => ⟨I1.kIn, ?_⟩) he hpl
  exact run_R F hr hx I1 r q
theorem pe_callR0 (F : FnR X.prog X.w X.K X.mg X.base CX k f sp) (hg : Gd X.K X.mg x f) (hr : Room k X.A) (hx : Passes CX X E) (hgl : Gl X x := by rfl)
    (hdb : (x == ("__debug__" : Str)) = false := by decide) : PE X (.Call (.Name x p) [] [] pos) (tCallR sp E tNil) := by
  refine ⟨fun pins s σ H Q I h => ?_⟩
  refine wpAny_Call_Name_kw (ld_glob I hgl hg.mg ?_ hdb)
  exact PySem.W.callWith_K0 I.kIn hg.kp (run_R (us := []) F hr hx I .nil h)
end
section
variable {K : PySem.W.Frag}
instance {f : FS} {t : TA} {T : DA} {E : XK} [a : SA K t T] : SE K (tCallR (spD K f) E t) (dCB f T) := ⟨fun {F σ H η μ P Q} w e h o =>
  a.run w e h fun vs H1 ds μ1 w1 g1 q1 h1 => ⟨F, ds, μ1, _, w1, q1, h1, o.mono g1⟩⟩
/-- the names as data at the start of a def -/
def env0 (n : Nat) (ds : List D) : Env := ds.map some ++ List.replicate (n - ds.length) none
theorem env0_ok {F M : List Addr} {H : Hp} {N : List Str} {vs : List V} {ds : List D} (q : DtAll K F M H vs ds) : EnvOk K F M H (start N vs) (env0 N.length ds) where
  len := by
    unfold L2.start env0
    rw [List.length_append, List.length_append, List.length_map, List.length_map, List.length_replicate, List.length_replicate, q.len]
  ok := fun i d h => by
    unfold env0 at h
    unfold L2.start
    by_cases c : i < ds.length
    · rw [List.getElem?_append_left (by rw [List.length_map]; exact c), List.getElem?_map] at h
      cases e : ds[i]? with
      | none => rw [e] at h; cases h
      | some d' =>
        rw [e] at h
        cases h
        obtain ⟨v, hv, qd⟩ := q.getD e
        refine ⟨v, ?_, qd⟩
        rw [List.getElem?_append_left (by rw [List.length_map, q.len]; exact c), List.getElem?_map, hv]
        rfl
    · rw [List.getElem?_append_right (by rw [List.length_map]; omega), List.getElem?_replicate] at h
      split at h
      · cases h
      · cases h
variable {P : Program} {w : World} {mg : Str → Option Value} {base : Heap} {x qual : Str} {params : Arguments} {body : List Stmt} {scope : Scope} {dvs : List V} {kws : List (Str × V)} {f : Addr} {fd : FuncData}
/-- a def by its body over data -/
theorem fnOkD {N ps : List Str} {k : Nat} {fs : FS} {T : DS} (Fu : FunD K x qual params body scope dvs kws f fd) (S : FnScope N ps scope)
    (hbody : ∀ (cdv : Value) (A : Around) (outer : List PySem.Env) (s : Shared) (H : Hp) (E : XK), Room k (A.deeper (envOfC qual scope s.heap.objs.size f cdv)) →
      ∃ t, PSs (cxOf CX0 P w K mg base N qual scope f cdv A outer s H E).nox body t ∧ SS K t T)
    (len : ∀ ds μ Q, fs ds μ Q → ds.length = ps.length)
    (hD : ∀ ds μ Q, fs ds μ Q → T { nx := fun _ μ' => Fz (dom μ) Q .non μ', rt := Fz (dom μ) Q } (env0 N.length ds) μ) : FnOk P w K mg base CX0 (k + 1) f fd ps (spD K fs) := by
  refine Fu.ok S (fun vs H Q E h => ?_) (fun cdv A outer s H vs Q E hr h => ?_)
  · obtain ⟨F, ds, μ, Q', _, q, hf, _⟩ := h
    exact q.len.trans (len ds μ Q' hf)
  · obtain ⟨t, ht, hS⟩ := hbody cdv A outer s H E hr
    obtain ⟨F, ds, μ, Q', wd, q, hf, o⟩ := h
    refine ⟨t, ht.nox, hS.run wd (env0_ok q) (hD ds μ Q' hf) ⟨?_, ?_, ?_, ?_⟩⟩
    · exact fun σ' H' η' μ' w' e' g' h' => Fz.run o h' w' g' .non
    · exact fun v H' d μ' w' g' q' h' => Fz.run o h' w' g' q'
    · exact fun σ' H' η' μ' w' e' g' h' => h'.elim
    · exact fun σ' H' η' μ' w' e' g' h' => h'.elim
theorem fnD {N ps : List Str} {k : Nat} {fs : FS} {T : DS} (Fu : FunD K x qual params body scope dvs kws f fd) (S : FnScope N ps scope) (b : Binds K fd ps [])
    (hbody : ∀ (cdv : Value) (A : Around) (outer : List PySem.Env) (s : Shared) (H : Hp) (E : XK), Room k (A.deeper (envOfC qual scope s.heap.objs.size f cdv)) →
      ∃ t, PSs (cxOf CX0 P w K mg base N qual scope f cdv A outer s H E).nox body t ∧ SS K t T)
    (len : ∀ ds μ Q, fs ds μ Q → ds.length = ps.length)
    (hD : ∀ ds μ Q, fs ds μ Q → T { nx := fun _ μ' => Fz (dom μ) Q .non μ', rt := Fz (dom μ) Q } (env0 N.length ds) μ) : FnR P w K mg base CX0 (k + 1) f (spD K fs) :=
  (FnOk.raw (fnOkD (P := P) (w := w) (mg := mg) (base := base) Fu S hbody len hD) b .nil).imp fun vs H Q E h => by rw [List.append_nil]; exact h
/-- a def with a star parameter -/
def starFS (n : Nat) (fs : FS) : FS := fun ds μ Q => n ≤ ds.length ∧ ds.length ≤ sizeLine ∧ fs (ds.take n ++ [.tup (ds.drop n)]) μ Q
theorem fnStar {N ps : List Str} {pv : Str} {k : Nat} {fs : FS} {T : DS} (Fu : FunD K x qual params body scope [] [] f fd) (S : FnScope N (ps ++ [pv]) scope)
    (hb : ∀ (kV doc pm : Value) (an : Option Addr) (cdv ct : Value) (us rest : List Value), us.length = ps.length → bindArgs (PySem.W.fnOf x qual params body scope .none kV doc pm an cdv ct) ⟨us ++ rest, []⟩ = (newTuple rest >>= fun t => pure (ps.zip us ++ [(pv, t)])))
    (hbody : ∀ (cdv : Value) (A : Around) (outer : List PySem.Env) (s : Shared) (H : Hp) (E : XK), Room k (A.deeper (envOfC qual scope s.heap.objs.size f cdv)) →
      ∃ t, PSs (cxOf CX0 P w K mg base N qual scope f cdv A outer s H E).nox body t ∧ SS K t T)
    (hD : ∀ ds μ Q, fs ds μ Q → T { nx := fun _ μ' => Fz (dom μ) Q .non μ', rt := Fz (dom μ) Q } (env0 N.length ds) μ) : FnR P w K mg base CX0 (k + 1) f (spD K (starFS ps.length fs)) := by
  obtain ⟨oc, od, dV, kV, doc, pm, an, cdv, ct, osl, rfl, lk, hcd, hdf, hkw⟩ := Fu.ex
  have ed : dV = .none := by
    rcases hdf with ⟨_, e⟩ | ⟨e, _⟩
    · exact e
    · exact absurd rfl e
  subst ed
  have raw := StX.fn_star (P := P) (w := w) (mg := mg) (base := base) (k := k) (sp := spD K fs) lk hcd S StX.cxUp_none (hb kV doc pm an cdv ct) fun A outer s H vs Q E hr h => by
    obtain ⟨t, ht, hS⟩ := hbody cdv A outer s H E hr
    obtain ⟨F, ds, μ, Q', wd, q, hf, o⟩ := h
    refine ⟨t, ht.nox, hS.run wd (env0_ok q) (hD ds μ Q' hf) ⟨?_, ?_, ?_, ?_⟩⟩
    · exact fun σ' H' η' μ' w' e' g' h' => Fz.run o h' w' g' .non
    · exact fun v H' d μ' w' g' q' h' => Fz.run o h' w' g' q'
    · exact fun σ' H' η' μ' w' e' g' h' => h'.elim
    · exact fun σ' H' η' μ' w' e' g' h' => h'.elim
  refine raw.imp fun vs H Q E h => ?_
  obtain ⟨F, ds, μ, Q', wd, q, ⟨h1, h2, hf⟩, o⟩ := h
  refine ⟨vs.take ps.length, vs.drop ps.length, (List.take_append_drop _ _).symm, ?_, ?_, fun p hp => ?_⟩
  · rw [List.length_take, q.len]; omega
  · rw [List.length_drop, q.len]; omega
  · have g : Grow (dom μ) (dom μ) H (upd H p (.tup (vs.drop ps.length))) := Grow.fresh hp
    refine ⟨F, _, μ, Q', wd.lay hp, ?_, hf, o.mono g⟩
    exact ((q.take _).mono g).app (.one (.tup (wd.fresh2 hp) upd_same ((q.drop _).mono g)))
/-- a call that leaves the last parameters to their defaults -/
theorem fnR_dfl {k : Nat} {ps : List Str} {fs : FS} {dv : List V} {ds : List Value} {es : List D} (O : FnOk P w K mg base CX0 k f fd ps (spD K fs)) (hv : Vals dv ds) (b : Binds K fd ps ds) (hd : ∀ F M H, DtAll K F M H dv es) :
    FnR P w K mg base CX0 k f (spD K (fun xs μ Q => fs (xs ++ es) μ Q)) :=
  (FnOk.raw O b hv).imp fun vs H Q E h => by
    obtain ⟨F, xs, μ, Q', wd, q, hf, o⟩ := h
    exact ⟨F, xs ++ es, μ, Q', wd, q.app (hd _ _ _), hf, o⟩
theorem fnR_all {k : Nat} {ps : List Str} {fs : FS} (O : FnOk P w K mg base CX0 k f fd ps (spD K fs)) (b : Binds K fd ps []) : FnR P w K mg base CX0 k f (spD K fs) :=
  (FnOk.raw O b .nil).imp fun vs H Q E h => by rw [List.append_nil]; exact h
/-! calls by keywords that stand behind the others, in the parameters' order -/
theorem kbn_app {ps ks : List Str} {n : Nat} (Fu : FunD K x qual params body scope [] kws f fd)
    (h : ∀ (kV doc pm : Value) (an : Option Addr) (cdv ct : Value) (us ws : List Value), us.length = n → ws.length = ks.length → bindArgs (PySem.W.fnOf x qual params body scope .none kV doc pm an cdv ct) ⟨us, ks.zip ws⟩ = pure (ps.zip (us ++ ws))) :
    KBn K fd ps n ks (fun us ws => us ++ ws) (fun vs zs => vs ++ zs) := by
  obtain ⟨oc, od, dV, kV, doc, pm, an, cdv, ct, osl, rfl, lk, hcd, hdf, hkw⟩ := Fu.ex
  have ed : dV = .none := by
    rcases hdf with ⟨_, e⟩ | ⟨e, _⟩
    · exact e
    · exact absurd rfl e
  subst ed
  exact ⟨fun s us ws _ l1 l2 => .of_eq (h kV doc pm an cdv ct us ws l1 l2), fun a b => a.append b⟩
abbrev tCallA (n m : Nat) (sp : Sp) (E : XK) (t tk : TA) : TE := tCallN n m sp (fun vs zs => vs ++ zs) E t tk
def dCallA (n m : Nat) (f : FS) (T Tk : DA) : DE := fun η μ P => T η μ fun ds μ1 => Tk η μ1 fun es μ2 => ds.length = n ∧ es.length = m ∧ f (ds ++ es) μ2 P
instance {n m : Nat} {f : FS} {t tk : TA} {T Tk : DA} {E : XK} [a : SA K t T] [b : SA K tk Tk] : SE K (tCallN n m (spD K f) (fun vs zs => vs ++ zs) E t tk) (dCallA n m f T Tk) := ⟨fun {F σ H η μ P Q} w e h o =>
  a.run w e h fun vs H1 ds μ1 w1 g1 q1 h1 => b.run w1 (e.mono g1) h1 fun zs H2 es μ2 w2 g2 q2 h2 =>
    ⟨q1.len.trans h2.1, q2.len.trans h2.2.1, F, ds ++ es, μ2, _, w2, (q1.mono g2).app q2, h2.2.2, o.mono (g1.trans g2)⟩⟩
/-! methods of lists -/
def dAppend (To : DE) (T : DA) : DE := fun η μ P => To η μ fun x μ1 => match x with
  | .cell a => (∃ ys, mget a μ1 = some (.lst ys)) ∧ T η μ1 fun ds μ2 => ∃ d xs, ds = [d] ∧ mget a μ2 = some (.lst xs) ∧ xs.length < sizeLine ∧ P .non (mput a (.lst (xs ++ [d])) μ2)
  | _ => False
instance {to : TE} {t : TA} {To : DE} {T : DA} [a : SE K to To] [b : SA K t T] : SE K (tBM K "list" rAppend to t) (dAppend To T) := ⟨fun {F σ H η μ P Q} w e h o =>
  a.run w e h fun x H1 dx μ1 w1 g1 q1 h1 => by
    cases q1 with
    | @cell p hm =>
      obtain ⟨⟨ys, hy⟩, h1⟩ := h1
      obtain ⟨vs, e1, _⟩ := w1.ok _ _ (mget_mem hy)
      refine ⟨.inl ⟨rfl, _, SqL.of e1⟩, b.run w1 (e.mono g1) h1 fun ws H2 ds μ2 w2 g2 q2 h2 => ?_⟩
      obtain ⟨d, xs, rfl, hx, hl, h2⟩ := h2
      obtain ⟨us, e2, qs⟩ := w2.ok _ _ (mget_mem hx)
      cases q2 with
      | @cons y _ _ _ qa qb =>
        cases qb
        have hm2 := mget_dom hx
        refine ⟨p, us, y, rfl, rfl, e2, by rw [qs.len]; exact hl, ?_⟩
        have gp := Grow.put (μ := μ2) (H := H2) (a := p) (o := .lst (us ++ [y])) hm2
        refine o _ _ _ _ (w2.putL hm2 (qs.app (.one qa))) ?_ .non h2
        rw [dom_mput]
        exact (g1.trans g2).trans gp
    | _ => exact h1.elim⟩
end
end DL

namespace DL
open PySem PySem.Spec PyProof.Rows L2
section
variable {K : PySem.W.Frag}
/-! ### a, b = x, y -/
def dPar (i j : Nat) (T : DA) : DS := fun E η μ => T η μ fun ds μ1 => match ds with
  | [u, v] => E.nx ((η.set i (some u)).set j (some v)) μ1
  | _ => False
instance {i j : Nat} {t : TA} {T : DA} [a : SA K t T] : SS K (tPar i j t) (dPar i j T) := ⟨fun w e h o =>
  a.run w e h fun vs H1 ds μ1 w1 g1 q1 h1 => by
    split at h1
    · cases q1 with
      | cons qa qb =>
        cases qb with
        | cons qb qc =>
          cases qc
          exact ⟨_, _, rfl, o.nx _ _ _ _ w1 (((e.mono g1).set qa).set qb) g1 h1⟩
    · exact h1.elim⟩
def dPar3 (i j l : Nat) (T : DA) : DS := fun E η μ => T η μ fun ds μ1 => match ds with
  | [u, v, x] => E.nx (((η.set i (some u)).set j (some v)).set l (some x)) μ1
  | _ => False
instance {i j l : Nat} {t : TA} {T : DA} [a : SA K t T] : SS K (tPar3 i j l t) (dPar3 i j l T) := ⟨fun w e h o =>
  a.run w e h fun vs H1 ds μ1 w1 g1 q1 h1 => by
    split at h1
    · cases q1 with
      | cons qa qb =>
        cases qb with
        | cons qb qc =>
          cases qc with
          | cons qc qd =>
            cases qd
            exact ⟨_, _, _, rfl, o.nx _ _ _ _ w1 ((((e.mono g1).set qa).set qb).set qc) g1 h1⟩
    · exact h1.elim⟩
/-! ### a for over a list that the law calls a cell: as it stands at the start -/
def un_negF : D → Mu → PD → Prop := fun x μ P => match x with
  | .int i => P (.int (-i)) μ
  | _ => False
def rNegU : V → Hp → VK → Prop := rU fun i => .int (-i)
theorem un_negU {X : Cx} : UnR X (unaryOp .USub) rNegU := un_neg
instance : SU K rNegU un_negF := ⟨fun {F H μ x dx P Q} w hx h o => by
  unfold un_negF at h
  split at h
  · cases hx
    exact ⟨_, rfl, o.here w (.int _) h⟩
  · exact h.elim⟩
end
/-! ### lemmas about the store -/
theorem mget_mput {a : Addr} {m n : MO} : ∀ {μ : Mu}, mget a μ = some n → mget a (mput a m μ) = some m
  | [], h => by cases h
  | (b, k) :: r, h => by
    unfold mput
    by_cases e : b = a
    · rw [if_pos e]
      unfold mget
      rw [if_pos e]
    · rw [if_neg e]
      unfold mget at h ⊢
      rw [if_neg e] at h ⊢
      exact mget_mput h
theorem mget_mput_ne {a b : Addr} {m : MO} (ne : a ≠ b) : ∀ {μ : Mu}, mget a (mput b m μ) = mget a μ
  | [] => rfl
  | (c, k) :: r => by
    unfold mput
    by_cases e : c = b
    · rw [if_pos e]
      unfold mget
      rw [if_neg (fun z => ne (z.symm.trans e)), if_neg (fun z => ne (z.symm.trans e))]
    · rw [if_neg e]
      unfold mget
      rw [mget_mput_ne ne (μ := r)]
theorem mput_mput {a : Addr} {m n : MO} : ∀ {μ : Mu}, mput a m (mput a n μ) = mput a m μ
  | [] => rfl
  | (b, k) :: r => by
    by_cases e : b = a
    · simp only [mput, if_pos e]
    · simp only [mput, if_neg e]
      rw [mput_mput]
theorem mput_self {a : Addr} {m : MO} : ∀ {μ : Mu}, mget a μ = some m → mput a m μ = μ
  | [], h => by cases h
  | (b, k) :: r, h => by
    unfold mput
    unfold mget at h
    by_cases e : b = a
    · rw [if_pos e] at h ⊢
      cases h
      rfl
    · rw [if_neg e] at h ⊢
      rw [mput_self h]
theorem dom_put {a : Addr} {m : MO} {μ : Mu} : dom (mput a m μ) = dom μ := dom_mput a m μ
/-! ### what the kinds are -/
theorem kb_nn : kitB "NoneType" "bool" = some false := by decide +kernel
theorem kit_bb : kitB "bool" "bool" = some true := by decide +kernel
theorem kit_ib : kitB "int" "bool" = some false := by decide +kernel
theorem kit_sb : kitB "str" "bool" = some false := by decide +kernel
theorem kit_tb : kitB "tuple" "bool" = some false := by decide +kernel
theorem kit_lb : kitB "list" "bool" = some false := by decide +kernel
theorem kit_bi : kitB "bool" "int" = some true := by decide +kernel
theorem kit_ii : kitB "int" "int" = some true := by decide +kernel
theorem kit_si : kitB "str" "int" = some false := by decide +kernel
theorem kit_ti : kitB "tuple" "int" = some false := by decide +kernel
theorem kit_li : kitB "list" "int" = some false := by decide +kernel
theorem kit_is : kitB "int" "str" = some false := by decide +kernel
theorem kit_ss : kitB "str" "str" = some true := by decide +kernel
theorem kit_ts : kitB "tuple" "str" = some false := by decide +kernel
theorem kit_ls : kitB "list" "str" = some false := by decide +kernel
theorem kit_tl : kitB "tuple" "list" = some false := by decide +kernel
theorem kit_ll : kitB "list" "list" = some true := by decide +kernel
theorem kit_tt : kitB "tuple" "tuple" = some true := by decide +kernel
theorem kit_lt : kitB "list" "tuple" = some false := by decide +kernel
theorem kit_ni : kitB "NoneType" "int" = some false := by decide +kernel
theorem kit_it : kitB "int" "tuple" = some false := by decide +kernel
theorem kit_st : kitB "str" "tuple" = some false := by decide +kernel
theorem kit_bt : kitB "bool" "tuple" = some false := by decide +kernel
theorem kit_nt : kitB "NoneType" "tuple" = some false := by decide +kernel
theorem kit_bs : kitB "bool" "str" = some false := by decide +kernel
theorem kit_ns : kitB "NoneType" "str" = some false := by decide +kernel
theorem kit_il : kitB "int" "list" = some false := by decide +kernel
theorem kit_sl : kitB "str" "list" = some false := by decide +kernel
theorem eqB_refl : ∀ (n : Nat) (d : D), plain n d = true → PyData.eqv (toP d) (toP d) = true := fun n d h => SeqAt.eqv_refl _ (plain_shape n d h).1
theorem size3 {n : Nat} (h : n ≤ 1000) : n ≤ sizeLine := Nat.le_trans h (by decide)
theorem size3' {n : Nat} (h : n < 1000) : n < sizeLine := Nat.lt_of_lt_of_le h (by decide)
end DL

namespace DL
open PySem PySem.Spec PyProof.Rows L2
/-! ### comprehensions by what they make -/
theorem lcD_map {G : DG} {Te : DE} {η : Env} {μ : Mu} {P : List D → Mu → Prop} (f : D → D) : ∀ (its acc : List D), (∀ x ∈ its, ∀ R : PD, R (f x) μ → G x η μ fun η' μ' => Te η' μ' R) → P (acc ++ its.map f) μ → lcD G dYes Te η its acc μ P
  | [], acc, _, p => by
    rw [List.map_nil, List.append_nil] at p
    exact p
  | x :: r, acc, h, p => by
    refine h x List.mem_cons_self (fun z μ3 => lcD G dYes Te η r (acc ++ [z]) μ3 P) ?_
    refine lcD_map f r (acc ++ [f x]) (fun y hy => h y (List.mem_cons_of_mem _ hy)) ?_
    rw [List.append_assoc]
    exact p
theorem lcD_zip {G : DG} {Te : DE} {η : Env} {μ : Mu} {P : List D → Mu → Prop} (g : Int → Int → D) : ∀ (xs ys : List Int) (acc : List D), (∀ a b, ∀ R : PD, R (g a b) μ → G (.tup [.int a, .int b]) η μ fun η' μ' => Te η' μ' R) →
    P (acc ++ List.zipWith g xs ys) μ → lcD G dYes Te η (zipD (xs.map D.int) (ys.map D.int)) acc μ P
  | [], ys, acc, _, p => by
    rw [List.zipWith_nil_left, List.append_nil] at p
    exact p
  | x :: r, [], acc, _, p => by
    rw [List.zipWith_nil_right, List.append_nil] at p
    exact p
  | x :: r, y :: t, acc, h, p => by
    refine h x y (fun z μ3 => lcD G dYes Te η (zipD (r.map D.int) (t.map D.int)) (acc ++ [z]) μ3 P) ?_
    refine lcD_zip g r t (acc ++ [g x y]) h ?_
    rw [List.append_assoc]
    exact p
/-- with tests: what is kept -/
theorem lcD_filter {G : DG} {C : DTs} {Te : DE} {η : Env} {μ : Mu} {P : List D → Mu → Prop} (k : D → Bool) (f : D → D) : ∀ (its acc : List D),
    (∀ x ∈ its, ∀ R : PD, ∀ S : Mu → Prop, (k x = true → R (f x) μ) → (k x = false → S μ) → G x η μ fun η' μ' => C η' μ' fun b μ2 => if b = true then Te η' μ2 R else S μ2) →
    P (acc ++ (its.filter k).map f) μ → lcD G C Te η its acc μ P
  | [], acc, _, p => by
    rw [List.filter_nil, List.map_nil, List.append_nil] at p
    exact p
  | x :: r, acc, h, p => by
    refine h x List.mem_cons_self (fun z μ3 => lcD G C Te η r (acc ++ [z]) μ3 P) (fun μ2 => lcD G C Te η r acc μ2 P) (fun e => ?_) (fun e => ?_)
    · refine lcD_filter k f r (acc ++ [f x]) (fun y hy => h y (List.mem_cons_of_mem _ hy)) ?_
      rw [List.filter_cons_of_pos e, List.map_cons] at p
      rw [List.append_assoc]
      exact p
    · refine lcD_filter k f r acc (fun y hy => h y (List.mem_cons_of_mem _ hy)) ?_
      rw [List.filter_cons_of_neg (by rw [e]; exact Bool.false_ne_true)] at p
      exact p
/-- a fold -/
theorem forD_fold {α : Type} {G : DG} {T : DS} {E : DEnds} (st : α → Env × Mu) (f : α → D → α) : ∀ (its : List D) (a : α),
    (∀ x ∈ its, ∀ (a : α) (N : Env → Mu → Prop), N (st (f a x)).1 (st (f a x)).2 → G x (st a).1 (st a).2 fun η' μ' => T (E.lp N) η' μ') →
    E.nx (st (its.foldl f a)).1 (st (its.foldl f a)).2 → forD G T E its (st a).1 (st a).2
  | [], a, _, p => p
  | x :: r, a, h, p => h x List.mem_cons_self a _ (forD_fold st f r (f a x) (fun y hy => h y (List.mem_cons_of_mem _ hy)) p)
/-! ### the box of a law: cells, a place, a great cell, a mark -/
def BoxS (xs : List D) : Prop := ∃ (cells : List Int) (i j m : Int), xs = [.lst (cells.map D.int), .int i, .int j, .int m] ∧ cells.length ≤ 63 ∧ 0 ≤ i ∧ 0 ≤ j ∧ 0 ≤ m ∧ m < 2147483647
/-- a def that draws: what it may give, and the box behind it -/
def Drawn (b : Addr) (μ : Mu) (R : D → Prop) (P : PD) : Prop := ∀ d ys, R d → BoxS ys → P d (mput b (.lst ys) μ)
def HasBox (b : Addr) (μ : Mu) : Prop := ∃ xs, mget b μ = some (.lst xs) ∧ BoxS xs
theorem HasBox.put {b : Addr} {μ : Mu} {ys : List D} (h : HasBox b μ) (k : BoxS ys) : HasBox b (mput b (.lst ys) μ) := by
  obtain ⟨xs, e, _⟩ := h
  exact ⟨ys, mget_mput e, k⟩
theorem HasBox.one {b : Addr} {xs : List D} (h : BoxS xs) : HasBox b [(b, .lst xs)] := ⟨xs, by unfold mget; rw [if_pos rfl], h⟩
theorem mput_one {b : Addr} {m n : MO} {r : Mu} : mput b m ((b, n) :: r) = (b, m) :: r := by unfold mput; rw [if_pos rfl]
def FS_begin : FS := fun ds μ P => ∃ ns, ds = [.scr ns] ∧ ∀ a xs, a ∉ dom μ → BoxS xs → P (.cell a) ((a, .lst xs) :: μ)
def FS_draw : FS := fun ds μ P => ∃ b many, ds = [.cell b, .int many] ∧ 1 ≤ many ∧ many < 1073741824 ∧ HasBox b μ ∧ Drawn b μ (fun d => ∃ n, d = .int n ∧ 0 ≤ n ∧ n < many) P
def FS_any : FS := fun ds μ P => ∃ b r xs, ds = [.cell b, r] ∧ seqOf μ r = some xs ∧ (∀ m, seqOf (mput b m μ) r = some xs) ∧ xs ≠ [] ∧ xs.length < 1073741824 ∧ HasBox b μ ∧ Drawn b μ (fun d => d ∈ xs) P
def FS_same : Nat → FS
  | 0 => fun _ _ _ => False
  | n + 1 => fun ds μ P => ∃ d, ds = [d, d] ∧ plain n d = true ∧ P (.bl true) μ
def FS_bundle : FS := fun ds μ P => ∃ b width cap, ds = [.cell b, .int width, .int cap] ∧ 0 ≤ width ∧ width ≤ 1000 ∧ 0 ≤ cap ∧ cap < 1073741823 ∧ HasBox b μ ∧ Drawn b μ (fun d => ∃ ns : List Int, d = .tup (ns.map D.int) ∧ (ns.length : Int) = width ∧ ∀ n ∈ ns, 0 ≤ n ∧ n ≤ cap) P
def FS_law : FS := fun ds μ P => ∃ ns, ds = [.scr ns] ∧ ∀ d μ', d = .bl true → P d μ'
theorem law_sp {K : PySem.W.Frag} {H : Hp} {a : Addr} {ns : List Int} {E : XK} (h : SqL K H a (ns.map V.int)) : spD K FS_law [.ref a] H (fun v _ => v = .bl true) E :=
  ⟨[], [.scr ns], [], fun d _ => d = .bl true, ⟨(fun _ h => nomatch h), List.nodup_nil, (fun _ h => nomatch h), (fun _ _ h => nomatch h)⟩, .one (.scr (SqM.of h)), ⟨ns, rfl, fun _ _ h => h⟩, fun v H' d μ' _ _ q p => by
    subst p
    cases q
    rfl⟩
end DL

namespace DL
open PySem PySem.Spec PyProof.Rows L2
/-! ### the rules with the written part named -/
section
variable (K : PySem.W.Frag) {X : Cx}
theorem op_addK (hK : X.K = K) : OpR X (binaryOp .Add) (rAddU K) := by subst hK; exact op_addU
theorem op_mulK (hK : X.K = K) : OpR X (binaryOp .Mult) (rMulU K) := by subst hK; exact op_mulU
theorem op_ltK (hK : X.K = K) (hu : X.A.units + 64 < cLine) : OpR X (compareOp .Lt) (rLtU K) := by subst hK; exact op_ltU hu
theorem op_eqK (hK : X.K = K) (hu : X.A.units + 64 < cLine) : OpR X (compareOp .Eq) (rEqU K) := by subst hK; exact op_eqU hu
theorem op_neK (hK : X.K = K) (hu : X.A.units + 64 < cLine) : OpR X (compareOp .NotEq) (rNeU K) := by subst hK; exact op_neU hu
theorem ix_seqK (hK : X.K = K) : IxR X (rIx K) := by subst hK; exact ix_seq
theorem sl_K (hK : X.K = K) : SlR X (rSlU K) := by subst hK; exact sl_U
theorem call_lenK (hK : X.K = K) : CallR X (.builtin "len") (rLenU K) := by subst hK; exact call_lenU
theorem call_sumK (hK : X.K = K) (hc : X.calm = true) : CallR X (.builtin "sum") (rSumU K) := by subst hK; exact call_sumU hc
theorem call_allK (hK : X.K = K) (hc : X.calm = true) : CallR X (.builtin "all") (rAll K) := by subst hK; exact cr_all hc
theorem call_anyK (hK : X.K = K) (hc : X.calm = true) : CallR X (.builtin "any") (rAny K) := by subst hK; exact cr_any hc
theorem call_tupK (hK : X.K = K) : CallR X (.type "tuple") (rTupU K) := by subst hK; exact call_tupU
theorem call_listK (hK : X.K = K) : CallR X (.type "list") (rListU K) := by subst hK; exact call_listU
theorem call_listMK (hK : X.K = K) : CallR X (.type "list") (rListM K) := by subst hK; exact call_listM
theorem call_isiK' (hK : X.K = K) : CallR X (.builtin "isinstance") (rIsi K) := by subst hK; exact call_isi
theorem pi_seqK (hK : X.K = K) {tg l : Expr} {tl : TE} (hl : PE X l tl) : PI X tg l (iSeq K tl) := by subst hK; exact pi_seq hl
theorem pi_zipK (hK : X.K = K) {e e2 : Expr} {ta : TA} {p pos tpos : Pos} {elts : List Expr} {kk : Nat} (hg : Gl X "zip") (hm : X.mg "zip" = none) (ha : PA X [e, e2] ta)
    (hs : starEach [e, e2] X.env = (false, eval e X.env) :: starEach [e2] X.env := by rfl) (hpl : (backTo pos (starEach [e2] X.env)).any (·.1) = false := by rfl) :
    PI X (.Tuple elts kk tpos) (.Call (.Name "zip" p) [e, e2] [] pos) (RZ.iZipA K ta) := by subst hK; exact RZ.pi_zipA hg hm ha hs hpl
theorem pg_tupK (hK : X.K = K) {pos : Pos} {es : List Expr} {k : Nat} {t : TGs} {n : Nat} (hc : X.calm = true) (h : PGs X es t)
    (hn : (assignEach es X.env).length = n := by rfl) (hst : (assignEach es X.env).findIdx? (·.1) = none := by rfl) : PG X (.Tuple es k pos) (gTup K n t) := by subst hK; exact pg_tup hc h hn hst
theorem pg_unlK (hK : X.K = K) {pos : Pos} {es : List Expr} {k : Nat} {t : TGs} {n : Nat} (hc : X.calm = true) (h : PGs X es t)
    (hn : (assignEach es X.env).length = n := by rfl) (hst : (assignEach es X.env).findIdx? (·.1) = none := by rfl) : PG X (.Tuple es k pos) (gUnl K n t) := by subst hK; exact pg_unl hc h hn hst
theorem pe_appendK (hK : X.K = K) {o e : Expr} {apos cpos : Pos} {to : TE} {t : TA} (ho : PE X o to) (ha : PA X [e] t)
    (hbase : attributeBase o "append" X.env (eval o X.env) = eval o X.env := by rfl)
    (hfew : ((backTo cpos (starEach [e] X.env)).all (fun x => !x.1) && (backToKw cpos (keywordEach [] X.env)).all (fun x => x.1.isSome)
      && decide ([e].length + ([] : List Keyword).length + (if ([] : List Keyword).isEmpty then 0 else 1) < 30)) = true := by rfl)
    (hline : (apos.endLine == cpos.line) = true := by rfl) (hs : starEach [e] X.env = (false, eval e X.env) :: starEach [] X.env := by rfl) (hplain : (backTo cpos (starEach [] X.env)).any (·.1) = false := by rfl) :
    PE X (.Call (.Attribute o "append" apos) [e] [] cpos) (tBM K "list" rAppend to t) := by
  subst hK
  exact pe_bm PySem.F.plainAttrs_list PySem.F.slot_list_append PySem.F.type_list_append mt_append ho ha hbase hfew hline hs hplain
end
section
variable {a b c d : D}
theorem at4_0 : atI [a, b, c, d] 0 = some a := rfl
theorem at4_1 : atI [a, b, c, d] 1 = some b := rfl
theorem at4_2 : atI [a, b, c, d] 2 = some c := rfl
theorem at4_3 : atI [a, b, c, d] 3 = some d := rfl
theorem ix4_1 : ixN (0 + 1 + 1 + 1 + 1) 1 = some 1 := rfl
theorem ix4_2 : ixN (0 + 1 + 1 + 1 + 1) 2 = some 2 := rfl
theorem ix4_3 : ixN (0 + 1 + 1 + 1 + 1) 3 = some 3 := rfl
end
theorem atI_pos {α : Type} {xs : List α} {i : Int} (h0 : 0 ≤ i) (h1 : i < (xs.length : Int)) : ∃ x, atI xs i = some x ∧ x ∈ xs ∧ xs[i.toNat]? = some x := by
  have hk : i.toNat < xs.length := by omega
  have e : xs[i.toNat]? = some xs[i.toNat] := List.getElem?_eq_getElem hk
  refine ⟨xs[i.toNat], ?_, List.getElem_mem hk, e⟩
  have q := atI_nat e
  have z : ((i.toNat : Nat) : Int) = i := by omega
  rw [z] at q
  exact q
theorem lenD_seq {μ : Mu} {d : D} {xs : List D} {P : PD} (h : seqOf μ d = some xs) (p : P (.int xs.length) μ) : lenD [d] μ P := by
  cases d with
  | str z => cases h
  | _ => simp only [lenD, h, p]
theorem ixD_seq {μ : Mu} {x d : D} {i : Int} {xs : List D} {P : PD} (h : seqOf μ x = some xs) (ha : atI xs i = some d) (p : P d μ) : ixD x (.int i) μ P := by
  unfold ixD
  simp only
  split
  · cases h
  · rw [h]
    simp only
    rw [ha]
    exact p
theorem env0_cons {n : Nat} {d : D} {ds : List D} : env0 (n + 1) (d :: ds) = some d :: env0 n ds := by
  unfold env0
  rw [List.map_cons, List.length_cons, Nat.add_sub_add_right]
  rfl
theorem env0_nil {n : Nat} : env0 n [] = List.replicate n none := rfl
mutual
theorem plain_mono : ∀ (n m : Nat) (d : D), n ≤ m → plain n d = true → plain m d = true
  | n, m, .non, _, _ => plain_non
  | n, m, .bl _, _, _ => plain_bl
  | n, m, .int _, _, _ => plain_int
  | n, m, .str s, _, h => by rw [plain_str] at h ⊢; exact h
  | 0, m, .tup xs, _, h => absurd h plain_tup0
  | 0, m, .lst xs, _, h => absurd h plain_lst0
  | n + 1, 0, .tup xs, l, h => absurd l (by omega)
  | n + 1, 0, .lst xs, l, h => absurd l (by omega)
  | n + 1, m + 1, .tup xs, l, h => plain_tup_of (plain_tup h).1 (plains_mono n m xs (by omega) (plain_tup h).2)
  | n + 1, m + 1, .lst xs, l, h => plain_lst_of (plain_lst h).1 (plains_mono n m xs (by omega) (plain_lst h).2)
  | n, m, .ty _, _, h => by cases n <;> simp [plain] at h
  | n, m, .cls _, _, h => by cases n <;> simp [plain] at h
  | n, m, .cell _, _, h => by cases n <;> simp [plain] at h
  | n, m, .obj _ _ _, _, h => by cases n <;> simp [plain] at h
  | n, m, .scr _, _, h => by cases n <;> simp [plain] at h
theorem plains_mono : ∀ (n m : Nat) (ds : List D), n ≤ m → plains n ds = true → plains m ds = true
  | n, m, [], _, _ => plains_nil
  | n, m, x :: r, l, h => by
    rw [plains_cons, Bool.and_eq_true] at h ⊢
    exact ⟨plain_mono n m x l h.1, plains_mono n m r l h.2⟩
end
theorem der_plain {n : Nat} {μ : Mu} {d : D} (h : plain n d = true) : der μ d = d := by
  cases d with
  | cell a => cases n <;> simp [plain] at h
  | _ => rfl
theorem eqD_refl {n : Nat} {μ : Mu} {d : D} {P : PD} (h : plain n d = true) (p : P (.bl true) μ) (hn : n ≤ 60 := by decide) : eqD d d μ P := by
  have h' := plain_mono n 60 d hn h
  refine ⟨by rw [der_plain h]; exact h', by rw [der_plain h]; exact h', ?_⟩
  have e : eqB μ d d = true := by
    unfold eqB
    rw [der_plain h]
    exact eqB_refl n d h
  rw [e]
  exact p
theorem eqD_bl {a b : Bool} {μ : Mu} {P : PD} : eqD (.bl a) (.bl b) μ P = P (.bl (a == b)) μ := by
  refine propext ⟨fun h => ?_, fun h => ⟨rfl, rfl, ?_⟩⟩
  · have := h.2.2
    simpa [eqB, der, toP, PyData.eqv] using this
  · simpa [eqB, der, toP, PyData.eqv] using h
theorem neD_bl {a b : Bool} {μ : Mu} {P : PD} : neD (.bl a) (.bl b) μ P = P (.bl (!(a == b))) μ := by
  refine propext ⟨fun h => ?_, fun h => ⟨rfl, rfl, ?_⟩⟩
  · have := h.2.2
    simpa [eqB, der, toP, PyData.eqv] using this
  · simpa [eqB, der, toP, PyData.eqv] using h
theorem eqD_int {a b : Int} {μ : Mu} {P : PD} : eqD (.int a) (.int b) μ P = P (.bl (a == b)) μ := by
  refine propext ⟨fun h => ?_, fun h => ⟨rfl, rfl, ?_⟩⟩
  · have := h.2.2
    simpa [eqB, der, toP, PyData.eqv] using this
  · simpa [eqB, der, toP, PyData.eqv] using h
theorem neD_int {a b : Int} {μ : Mu} {P : PD} : neD (.int a) (.int b) μ P = P (.bl (!(a == b))) μ := by
  refine propext ⟨fun h => ?_, fun h => ⟨rfl, rfl, ?_⟩⟩
  · have := h.2.2
    simpa [eqB, der, toP, PyData.eqv] using this
  · simpa [eqB, der, toP, PyData.eqv] using h
theorem zip_self : ∀ {xs : List D} {e : D}, e ∈ zipD xs xs → ∃ x ∈ xs, e = .tup [x, x]
  | [], e, h => by cases h
  | x :: r, e, h => by
    rcases List.mem_cons.mp h with rfl | h
    · exact ⟨x, List.mem_cons_self, rfl⟩
    · obtain ⟨y, hy, q⟩ := zip_self h
      exact ⟨y, List.mem_cons_of_mem _ hy, q⟩
theorem eqvAll_ints : ∀ (s a : List Int), PyData.eqvAll (toPs (s.map D.int)) (toPs (a.map D.int)) = decide (s = a)
  | [], [] => by simp [toPs, PyData.eqvAll]
  | [], b :: r => by simp [toPs, PyData.eqvAll]
  | x :: r, [] => by simp [toPs, PyData.eqvAll]
  | x :: r, y :: t => by
    simp only [List.map_cons, toPs, PyData.eqvAll, toP, PyData.eqv, eqvAll_ints r t]
    by_cases c : x = y
    · subst c
      simp
    · simp [c]
theorem eqB_ints {μ : Mu} (s a : List Int) : eqB μ (.tup (s.map D.int)) (.tup (a.map D.int)) = decide (s = a) := by
  unfold eqB
  simp only [der, toP, PyData.eqv]
  exact eqvAll_ints s a
theorem eqD_ints {μ : Mu} {s a : List Int} {P : PD} (h1 : s.length ≤ 1000) (h2 : a.length ≤ 1000) (p : P (.bl (decide (s = a))) μ) : eqD (.tup (s.map D.int)) (.tup (a.map D.int)) μ P := by
  refine ⟨plain_ints (n := 59) (by omega), plain_ints (n := 59) (by omega), ?_⟩
  rw [eqB_ints]
  exact p
theorem neD_ints {μ : Mu} {s a : List Int} {P : PD} (h1 : s.length ≤ 1000) (h2 : a.length ≤ 1000) (p : P (.bl (!decide (s = a))) μ) : neD (.tup (s.map D.int)) (.tup (a.map D.int)) μ P := by
  refine ⟨plain_ints (n := 59) (by omega), plain_ints (n := 59) (by omega), ?_⟩
  rw [eqB_ints]
  exact p
theorem flat_one (x : D) : ∀ n : Nat, (List.replicate n [x]).flatten = List.replicate n x
  | 0 => rfl
  | n + 1 => by rw [List.replicate_succ, List.replicate_succ, List.flatten_cons, flat_one x n]; rfl
end DL

namespace DL
open PySem PySem.Spec PyProof.Rows L2
/-! ### plain data in a world without cells -/
section
variable {K : PySem.W.Frag}
mutual
theorem plain_in {F M : List Addr} {H : Hp} : ∀ (n : Nat) (d : D) {v : V}, plain n d = true → Dt K F M H v d → Dt K F [] H v d
  | n, .non, v, _, q => by cases q; exact .non
  | n, .bl b, v, _, q => by cases q; exact .bl b
  | n, .int b, v, _, q => by cases q; exact .int b
  | n, .str b, v, _, q => by cases q; exact .str b
  | 0, .tup _, v, h, q => absurd h plain_tup0
  | n + 1, .tup xs, v, h, q => by
    cases q with
    | tup na e qs => exact .tup (app_not (not_app na).1 (List.not_mem_nil)) e (plains_in n xs (plain_tup h).2 qs)
  | 0, .lst _, v, h, q => absurd h plain_lst0
  | n + 1, .lst xs, v, h, q => by
    cases q with
    | lst na e qs => exact .lst (app_not (not_app na).1 (List.not_mem_nil)) e (plains_in n xs (plain_lst h).2 qs)
  | n, .ty _, v, h, q => by cases n <;> simp [plain] at h
  | n, .cls _, v, h, q => by cases n <;> simp [plain] at h
  | n, .cell _, v, h, q => by cases n <;> simp [plain] at h
  | n, .obj _ _ _, v, h, q => by cases n <;> simp [plain] at h
  | n, .scr _, v, h, q => by cases n <;> simp [plain] at h
theorem plains_in {F M : List Addr} {H : Hp} : ∀ (n : Nat) (ds : List D) {vs : List V}, plains n ds = true → DtAll K F M H vs ds → DtAll K F [] H vs ds
  | n, [], vs, _, q => by cases q; exact .nil
  | n, x :: r, vs, h, q => by
    rw [plains_cons, Bool.and_eq_true] at h
    cases q with
    | cons a b => exact .cons (plain_in n x h.1 a) (plains_in n r h.2 b)
end
theorem der_in {F : List Addr} {μ : Mu} {H : Hp} {n : Nat} {v : V} {x : D} (w : Wd K F μ H) (q : Dt K F (dom μ) H v x) (h : plain n (der μ x) = true) : Dt K F [] H v (der μ x) := by
  cases x with
  | cell a =>
    unfold der at h ⊢
    simp only at h ⊢
    cases c : mget a μ with
    | none => rw [c] at h; cases n <;> simp [plain] at h
    | some m =>
      rw [c] at h
      cases m with
      | ins C ns ds => cases n <;> simp [plain] at h
      | lst xs =>
        simp only at h ⊢
        cases q with
        | cell hm =>
          obtain ⟨vs, e1, q1⟩ := w.ok _ _ (mget_mem c)
          cases n with
          | zero => exact absurd h plain_lst0
          | succ n => exact .lst (app_not (w.apart a hm) List.not_mem_nil) e1 (plains_in n xs (plain_lst h).2 q1)
  | _ => exact plain_in n _ h q
/-- a def that only looks: it may be handed lists that change elsewhere; it hands back a scalar -/
def scalD : D → Bool
  | .non => true
  | .bl _ => true
  | .int _ => true
  | .str _ => true
  | _ => false
def froz (f : FS) : FS := fun ds μ P => (∀ x ∈ ds, plain 60 (der μ x) = true) ∧ f (ds.map (der μ)) [] fun d _ => scalD d = true ∧ P d μ
theorem scal_in {F F' M M' : List Addr} {H H' : Hp} {v : V} {d : D} (h : scalD d = true) (q : Dt K F M H v d) : Dt K F' M' H' v d := by
  cases q <;> first | exact .non | exact .bl _ | exact .int _ | exact .str _ | cases h
theorem ders_in {F : List Addr} {μ : Mu} {H : Hp} (w : Wd K F μ H) : ∀ {vs : List V} {ds : List D}, DtAll K F (dom μ) H vs ds → (∀ x ∈ ds, plain 60 (der μ x) = true) → DtAll K F [] H vs (ds.map (der μ))
  | _, _, .nil, _ => .nil
  | _, _, .cons a b, h => .cons (der_in w a (h _ List.mem_cons_self)) (ders_in w b fun x hx => h x (List.mem_cons_of_mem _ hx))
theorem Wd.keptAll {F : List Addr} {μ : Mu} {H H' : Hp} (w : Wd K F μ H) (g : Grow [] [] H H') : Wd K F μ H' ∧ Grow (dom μ) (dom μ) H H' := by
  have gg : Grow (dom μ) (dom μ) H H' := ⟨fun x o _ e => g.keep x o List.not_mem_nil e, fun _ h => h, fun _ h n => absurd h n⟩
  refine ⟨⟨fun x hx => ?_, w.nd, w.apart, fun a m hm => (w.ok a m hm).mono gg fun o e => g.keep a o List.not_mem_nil e⟩, gg⟩
  obtain ⟨o, e⟩ := w.fs x hx
  exact ⟨o, g.keep x o List.not_mem_nil e⟩
theorem spD_froz {f : FS} {vs : List V} {H : Hp} {Q : VK} {E : XK} (h : spD K (froz f) vs H Q E) : spD K f vs H Q E := by
  obtain ⟨F, ds, μ, P, w, q, ⟨hp, hf⟩, o⟩ := h
  refine ⟨F, _, [], _, ⟨w.fs, List.nodup_nil, (fun _ h => nomatch h), (fun _ _ h => nomatch h)⟩, ders_in w q hp, hf, fun v H' d μ' w' g' q' p' => ?_⟩
  have g0 : Grow [] [] H H' := ⟨g'.keep, (fun _ h => nomatch h), (fun _ h _ => nomatch h)⟩
  obtain ⟨w2, g2⟩ := w.keptAll g0
  exact o v H' d μ w2 g2 (scal_in p'.1 q') p'.2
variable {P : Program} {w : World} {mg : Str → Option Value} {base : Heap} {f : Addr} {k : Nat}
theorem fn_froz {fs : FS} (G : FnR P w K mg base CX0 k f (spD K fs)) : FnR P w K mg base CX0 k f (spD K (froz fs)) := G.imp fun _ _ _ _ h => spD_froz h
def FS_sameF : FS := fun ds μ P => ∃ x y d, ds = [x, y] ∧ der μ x = d ∧ der μ y = d ∧ plain 19 d = true ∧ P (.bl true) μ
theorem fn_same (G : FnR P w K mg base CX0 k f (spD K (FS_same 20))) : FnR P w K mg base CX0 k f (spD K FS_sameF) := (fn_froz G).imp fun _ _ _ _ h => by
  obtain ⟨F, ds, μ, P, w, q, ⟨x, y, d, rfl, ex, ey, hp, p⟩, o⟩ := h
  refine ⟨F, _, μ, P, w, q, ⟨fun z hz => ?_, d, ?_, hp, rfl, p⟩, o⟩
  · have h60 := plain_mono 19 60 d (by decide) hp
    rcases List.mem_cons.mp hz with rfl | hz
    · rw [ex]; exact h60
    · rw [List.mem_singleton.mp hz, ey]; exact h60
  · show [der μ x, der μ y] = [d, d]
    rw [ex, ey]
end
/-! ### the order of tuples of ints -/
def lexL : List Int → List Int → Bool
  | [], [] => false
  | [], _ :: _ => true
  | _ :: _, [] => false
  | x :: a, y :: b => if x = y then lexL a b else decide (x < y)
theorem alike_ints : ∀ a b : List Int, PySem.W.alikeAll (toPs (a.map D.int)) (toPs (b.map D.int)) = true
  | [], _ => by simp [toPs, PySem.W.alikeAll]
  | x :: a, [] => by simp [toPs, PySem.W.alikeAll]
  | x :: a, y :: b => by
    simp only [List.map_cons, toPs, toP, PySem.W.alikeAll, PySem.W.alike, alike_ints a b, Bool.and_self]
theorem lex_ints : ∀ a b : List Int, PyProof.Rows.lexLt PyProof.Rows.itemOrd (PySem.W.keyToksAll (toPs (a.map D.int))) (PySem.W.keyToksAll (toPs (b.map D.int))) = lexL a b
  | [], [] => by simp only [List.map_nil, toPs, PySem.W.keyToksAll]; rfl
  | [], y :: b => by simp only [List.map_nil, List.map_cons, toPs, PySem.W.keyToksAll]; rfl
  | x :: a, [] => by simp only [List.map_nil, List.map_cons, toPs, PySem.W.keyToksAll]; rfl
  | x :: a, y :: b => by
    have h : PySem.W.alike (.int x) (.int y) = true := rfl
    simp only [List.map_cons, toPs, toP]
    by_cases c : x = y
    · subst c
      rw [PySem.W.dataLt_all_yes h (by simp [PyData.eqv]), lex_ints a b]
      simp [lexL]
    · rw [PySem.W.dataLt_all_no h (by simp [PyData.eqv, c]), PySem.W.dataLt_int]
      simp [lexL, c]
theorem ltD_ints {μ : Mu} {a b : List Int} {P : PD} (h1 : a.length ≤ 1000) (h2 : b.length ≤ 1000) (p : P (.bl (lexL a b)) μ) : ltD (.tup (a.map D.int)) (.tup (b.map D.int)) μ P := by
  refine ⟨plain_ints (n := 59) (by omega), plain_ints (n := 59) (by omega), ?_, ?_, ?_⟩
  · simp only [der, toP, PySem.W.alike]
    exact alike_ints a b
  · simp only [der, toP]
    exact fun z => nomatch z
  · simp only [der, toP]
    rw [PySem.W.dataLt_tuple, lex_ints]
    exact p
theorem lexL_self : ∀ a : List Int, lexL a a = false
  | [] => rfl
  | x :: a => by simp [lexL, lexL_self a]
theorem lexL_snoc : ∀ (a b : List Int) (x y : Int), a.length = b.length → lexL (a ++ [x]) (b ++ [y]) = (lexL a b || (decide (a = b) && decide (x < y)))
  | [], [], x, y, _ => by
    by_cases c : x = y
    · subst c; simp [lexL]
    · simp [lexL, c]
  | u :: a, v :: b, x, y, h => by
    have ih := lexL_snoc a b x y (by simpa using h)
    by_cases c : u = v
    · subst c
      simp [lexL, ih]
    · simp [lexL, c]
/-! ### slices at places -/
theorem sIx_pos {n d : Nat} {k : Int} (h : 0 ≤ k) : HT.sIx n d (some k) = min k.toNat n := by
  have e : k = ((k.toNat : Nat) : Int) := by omega
  rw [e, HT.sIx_nat]
  congr 1
theorem cut_take {α : Type} (xs : List α) {k : Int} (h : 0 ≤ k) : cut xs none (some k) = xs.take k.toNat := by
  unfold cut
  rw [HT.sIx_none, sIx_pos h, List.drop_zero, Nat.sub_zero]
  by_cases c : k.toNat ≤ xs.length
  · rw [Nat.min_eq_left c]
  · rw [Nat.min_eq_right (by omega), List.take_length, List.take_of_length_le (by omega)]
theorem cut_drop {α : Type} (xs : List α) {k : Int} (h : 0 ≤ k) : cut xs (some k) none = xs.drop k.toNat := by
  unfold cut
  rw [sIx_pos h, HT.sIx_none]
  by_cases c : k.toNat ≤ xs.length
  · rw [Nat.min_eq_left c, List.take_of_length_le (by rw [List.length_drop]; exact Nat.le_refl _)]
  · rw [Nat.min_eq_right (by omega), List.drop_length, List.drop_eq_nil_of_le (by omega), List.take_nil]
theorem slD_take {μ : Mu} {ns : List Int} {k : Int} {P : PD} (h : 0 ≤ k) (p : P (.tup ((ns.take k.toNat).map D.int)) μ) : slD (.tup (ns.map D.int)) none (some k) μ P := by
  show P (.tup (cut (ns.map D.int) none (some k))) μ
  rw [cut_take _ h, ← List.map_take]
  exact p
theorem slD_drop {μ : Mu} {ns : List Int} {k : Int} {P : PD} (h : 0 ≤ k) (p : P (.tup ((ns.drop k.toNat).map D.int)) μ) : slD (.tup (ns.map D.int)) (some k) none μ P := by
  show P (.tup (cut (ns.map D.int) (some k) none)) μ
  rw [cut_drop _ h, ← List.map_drop]
  exact p
theorem addD_ints {μ : Mu} {a b : List Int} {P : PD} (h : a.length + b.length ≤ 100000) (p : P (.tup ((a ++ b).map D.int)) μ) : addD (.tup (a.map D.int)) (.tup (b.map D.int)) μ P := by
  refine ⟨?_, ?_⟩
  · rw [List.length_map, List.length_map]
    exact Nat.le_trans h (by decide)
  · rw [← List.map_append]
    exact p
theorem ixD_ints {μ : Mu} {a : List Int} {k x : Int} {P : PD} (h : 0 ≤ k) (e : a[k.toNat]? = some x) (p : P (.int x) μ) : ixD (.tup (a.map D.int)) (.int k) μ P := by
  have q : atI (a.map D.int) k = some (.int x) := by
    have e2 : (a.map D.int)[k.toNat]? = some (.int x) := by rw [List.getElem?_map, e]; rfl
    have z := atI_nat e2
    have ek : ((k.toNat : Nat) : Int) = k := by omega
    rw [ek] at z
    exact z
  exact ixD_seq rfl q p
theorem HasBox.cons {a b : Addr} {m : MO} {μ : Mu} (h : HasBox b μ) (n : a ∉ dom μ) : HasBox b ((a, m) :: μ) := by
  obtain ⟨xs, e, k⟩ := h
  refine ⟨xs, ?_, k⟩
  unfold mget
  rw [if_neg (fun z => n (by rw [z]; exact mget_dom e))]
  exact e
theorem mget_head {a : Addr} {m : MO} {μ : Mu} : mget a ((a, m) :: μ) = some m := by unfold mget; rw [if_pos rfl]
theorem der_head {a : Addr} {xs : List D} {μ : Mu} : der ((a, .lst xs) :: μ) (.cell a) = .lst xs := by
  unfold der
  simp only [mget_head]
/-! ### list(range(n)) -/
section
variable {K : PySem.W.Frag}
def dLstRg1 (Ta : DE) : DE := fun η μ P => Ta η μ fun x μ1 => match x with
  | .int n => RgOk 0 n ∧ P (.lst ((List.range n.toNat).map fun k => .int (k : Nat))) μ1
  | _ => False
theorem dt_range {F M : List Addr} {H : Hp} : ∀ (l : List Nat), DtAll K F M H (l.map fun i => V.int ((0 : Int) + (i : Nat))) (l.map fun k => D.int (k : Nat))
  | [] => .nil
  | x :: r => .cons (by show Dt K F M H (V.int ((0 : Int) + (x : Nat))) _; rw [Int.zero_add]; exact .int _) (dt_range r)
instance {ta : TE} {Ta : DE} [a : SE K ta Ta] : SE K (tLstRg (tRg1 ta)) (dLstRg1 Ta) := ⟨fun w e h o =>
  a.run w e h fun x H1 dx μ1 w1 g1 q1 h1 => by
    cases q1 with
    | int n =>
      refine ⟨n, rfl, h1.1, fun q hq => ?_⟩
      refine (o.mono g1).newL (vs := rgV 0 n) w1 ?_ h1.2 hq
      unfold rgV
      rw [Int.sub_zero]
      exact dt_range _
    | _ => exact h1.elim⟩
end
section
variable {i j : Int} {μ : Mu} {P : PD}
theorem addD_int : addD (.int i) (.int j) μ P = P (.int (i + j)) μ := rfl
theorem subD_int : subD (.int i) (.int j) μ P = P (.int (i - j)) μ := rfl
theorem ltD_int : ltD (.int i) (.int j) μ P = P (.bl (decide (i < j))) μ := rfl
theorem cmpD_int {f : Int → Int → Bool} : cmpD f (.int i) (.int j) μ P = P (.bl (f i j)) μ := rfl
end
/-- two statements with a word between them -/
theorem dSeq_by {t u : DS} {E : DEnds} {η : Env} {μ : Mu} (I : Env → Mu → Prop) (h1 : ∀ N : Env → Mu → Prop, (∀ η μ, I η μ → N η μ) → t (E.sq N) η μ) (h2 : ∀ η μ, I η μ → u E η μ) : dSeq t u E η μ := h1 (u E) h2
end DL

set_option Elab.async false
set_option linter.all false
set_option maxRecDepth 100000
set_option maxHeartbeats 4000000
set_option synthInstance.maxHeartbeats 4000000
set_option synthInstance.maxSize 100000
namespace Lw
open PySem L2 DL
def top (i : Nat) : Stmt := PySem.Challenge.pw_evenbarter_k02_order_of_bundles.main.body.getD i (.Pass ⟨0, 0, 0, 0⟩)
abbrev s_rank : Stmt := top 1
abbrev s_precedes : Stmt := top 2
abbrev s_law_begin : Stmt := top 4
abbrev s_law_draw : Stmt := top 5
abbrev s_law_any : Stmt := top 6
abbrev s_law_same : Stmt := top 7
abbrev s_law_some_bundle : Stmt := top 8
abbrev s_law_before : Stmt := top 9
abbrev s_law : Stmt := top 10
structure Bn (mg : Str → Option Value) : Prop where
  all_ : mg "all" = none
  bool_ : mg "bool" = none
  int_ : mg "int" = none
  isinstance_ : mg "isinstance" = none
  len_ : mg "len" = none
  list_ : mg "list" = none
  range_ : mg "range" = none
  str_ : mg "str" = none
  sum_ : mg "sum" = none
  tuple_ : mg "tuple" = none
  zip_ : mg "zip" = none

def optD : Option Nat → D
  | none => .non
  | some k => .int (k : Nat)
def turn (ns : List Int) (k : Nat) : List Int := ns.take k ++ ns.drop (k + 1)
def rankD (ns : List Int) : Option Nat → D
  | none => .tup [.int ns.sum, .tup (ns.map D.int)]
  | some k => .tup [.int 0, .tup ((turn ns k ++ [ns.getD k 0]).map D.int)]
def before (a b : List Int) : Option Nat → Bool
  | none => decide (a.sum < b.sum) || (decide (a.sum = b.sum) && lexL a b)
  | some k => lexL (turn a k) (turn b k) || (decide (turn a k = turn b k) && decide (a.getD k 0 < b.getD k 0))
def FS_rank : FS := fun ds μ P => ∃ (ns : List Int) (o : Option Nat), ds = [.tup (ns.map D.int), optD o] ∧ ns.length ≤ 1000 ∧ (∀ k, o = some k → k < ns.length) ∧ P (rankD ns o) μ
def Two (a b : List Int) (o : Option Nat) : Prop := a.length = b.length ∧ a.length ≤ 1000 ∧ ∀ k, o = some k → k < a.length
def FS_prec : FS := fun ds μ P => ∃ (a b : List Int) (o : Option Nat), ds = [.tup (a.map D.int), .tup (b.map D.int), optD o] ∧ Two a b o ∧ P (.bl (before a b o)) μ
theorem turn_len {a : List Int} {k : Nat} (h : k < a.length) : (turn a k).length + 1 = a.length := by
  unfold turn
  rw [List.length_append, List.length_take, List.length_drop]
  omega
theorem getD_some {a : List Int} {k : Nat} (h : k < a.length) : a[k]? = some (a.getD k 0) := by
  rw [List.getD_eq_getElem?_getD, List.getElem?_eq_getElem h]
  rfl
theorem pair_lt {x y : Int} {a b : List Int} : PySem.W.dataLt (toP (.tup [.int x, .tup (a.map D.int)])) (toP (.tup [.int y, .tup (b.map D.int)])) = (decide (x < y) || (decide (x = y) && lexL a b)) := by
  simp only [toP, toPs]
  rw [PySem.W.dataLt_tuple]
  have h : PySem.W.alike (.int x) (.int y) = true := rfl
  have h2 : PySem.W.alike (.tuple (toPs (a.map D.int))) (.tuple (toPs (b.map D.int))) = true := by
    simp only [PySem.W.alike]
    exact alike_ints a b
  by_cases c : x = y
  · subst c
    rw [PySem.W.dataLt_all_yes h (by simp [PyData.eqv])]
    cases e : PyData.eqv (.tuple (toPs (a.map D.int))) (.tuple (toPs (b.map D.int))) with
    | true =>
      rw [PySem.W.dataLt_all_yes h2 e]
      have e2 : a = b := by
        simp only [PyData.eqv, eqvAll_ints, decide_eq_true_eq] at e
        exact e
      subst e2
      rw [lexL_self]
      simp
      rfl
    | false =>
      rw [PySem.W.dataLt_all_no h2 e, PySem.W.dataLt_tuple, lex_ints]
      simp
  · rw [PySem.W.dataLt_all_no h (by simp [PyData.eqv, c]), PySem.W.dataLt_int]
    simp [c]
theorem rank_lt {a b : List Int} {o : Option Nat} (t : Two a b o) : PySem.W.dataLt (toP (rankD a o)) (toP (rankD b o)) = before a b o := by
  obtain ⟨h1, h2, h3⟩ := t
  cases o with
  | none => exact pair_lt
  | some k =>
    have hk := h3 k rfl
    have hk2 : k < b.length := by omega
    show PySem.W.dataLt (toP (.tup [.int 0, _])) (toP (.tup [.int 0, _])) = _
    rw [pair_lt]
    simp only [Int.lt_irrefl, decide_false, Bool.false_or, decide_true, Bool.true_and]
    rw [lexL_snoc _ _ _ _ (by have := turn_len hk; have := turn_len hk2; omega)]
    rfl
theorem rank_plain {a : List Int} {o : Option Nat} (h : a.length ≤ 1000) (hk : ∀ k, o = some k → k < a.length) : plain 60 (rankD a o) = true := by
  cases o with
  | none =>
    refine plain_tup_of (n := 59) (by simp) ?_
    rw [plains_cons, plains_cons, plains_nil, plain_int, plain_ints (n := 58) (by omega)]
    rfl
  | some k =>
    refine plain_tup_of (n := 59) (by simp) ?_
    have := turn_len (hk k rfl)
    rw [plains_cons, plains_cons, plains_nil, plain_int, plain_ints (n := 58) (by rw [List.length_append, List.length_singleton]; omega)]
    rfl
theorem rank_alike {a b : List Int} {o : Option Nat} : PySem.W.alike (toP (rankD a o)) (toP (rankD b o)) = true := by
  cases o with
  | none => simp only [rankD, toP, toPs, PySem.W.alike, PySem.W.alikeAll, alike_ints, Bool.and_self]
  | some k => simp only [rankD, toP, toPs, PySem.W.alike, PySem.W.alikeAll, alike_ints, Bool.and_self]
theorem ltD_rank {μ : Mu} {a b : List Int} {o : Option Nat} {P : PD} (t : Two a b o) (p : P (.bl (before a b o)) μ) : ltD (rankD a o) (rankD b o) μ P := by
  have h1 := rank_plain (o := o) t.2.1 t.2.2
  have h2 := rank_plain (a := b) (o := o) (by have := t.1; have := t.2.1; omega) (fun j hj => by have := t.2.2 j hj; have := t.1; omega)
  have h3 := rank_alike (a := a) (b := b) (o := o)
  rw [← rank_lt t] at p
  cases o with
  | none => exact ⟨h1, h2, h3, (fun z => nomatch z), p⟩
  | some k => exact ⟨h1, h2, h3, (fun z => nomatch z), p⟩
theorem before_self {a : List Int} {o : Option Nat} : before a a o = false := by
  cases o with
  | none => simp [before, lexL_self]
  | some k => simp [before, lexL_self]

section
variable {P : Program} {w : World} {K : PySem.W.Frag} {mg : Str → Option Value} {base : Heap}
theorem sc_rank : FnScope ["bundle", "last"] ["bundle", "last"] (defScope s_rank) := ⟨rfl, rfl, rfl, by decide +kernel, rfl, by decide +kernel, by decide +kernel⟩
theorem ok_rank {f : Addr} {fd : FuncData} (F : FunD K "rank" "rank" (defArgs s_rank) (defBody s_rank) (defScope s_rank) [.non] [] f fd) (B : Bn mg)  : FnOk P w K mg base CX0 1 f fd ["bundle", "last"] (spD K (FS_rank)) := by
  refine fnOkD F sc_rank (fun cdv A outer st H E hr => ⟨_, (pss_cons (ps_if (pt_cmp (pc_isN (pv 1)) rfl) (pss_one (ps_ret (pe_tup (pa_cons (pe_callB (call_sumK K rfl rfl) (by rfl) B.sum_ PyProof.Rows.boot_sum (pa_cons (pv 0) pa_nil)) (pa_cons (pv 0) pa_nil))))) pss_nil)
  (pss_one (ps_ret (pe_tup (pa_cons pe_int (pa_cons (pe_op (op_addK K rfl) (pe_op (op_addK K rfl) (pe_slice (sl_K K rfl) (pv 0) po_none (po_some (pv 1))) (pe_slice (sl_K K rfl) (pv 0) (po_some (pe_op (op_addK K rfl) (pv 1) pe_int)) po_none)) (pe_tup (pa_cons (pe_ix (ix_seqK K rfl) (pv 0) (pv 1) (fun _ _ => rfl)) pa_nil))) pa_nil)))))), by exact inferInstance⟩) ?_ ?_
  · intro ds μ Q h
    obtain ⟨_, _, rfl, _⟩ := h
    rfl
  · intro ds μ Q h
    obtain ⟨ns, o, rfl, hl, hk, k⟩ := h
    cases o with
    | none => exact ⟨_, ns, rfl, rfl, (by first | decide | (simp only [List.length_cons, List.length_nil]; decide)), .here k⟩
    | some j =>
      have hj := hk j rfl
      simp only [dSeq, dIf, dAsg, dRet, dRetN, dDrop, dNext, dVar, dC, dOp, dUn, dCB, dCons, dNil, dTup, dLst, dLstM, dName, dB, dAnd, dOr, dNot, dAndV, dOrV, dNotV, dIfE, onB, look, env0_cons, env0_nil, dIsN, dNotN, isN, DEnds.sq, DEnds.lp, List.map_cons, List.map_nil, List.cons_append, List.nil_append, List.set_cons_zero, List.set_cons_succ, List.replicate_succ, List.replicate_zero, List.length_cons, List.length_nil, optD, dSl, dNoPart, dPart, Bool.false_eq_true, if_false]
      refine slD_take (by omega) ?_
      simp only [addD_int]
      refine slD_drop (by omega) ?_
      refine addD_ints ?_ ?_
      · rw [List.length_take, List.length_drop]
        omega
      refine ixD_ints (by omega) (x := ns.getD j 0) ?_ ⟨(by first | decide | (simp only [List.length_cons, List.length_nil]; decide)), ?_⟩
      · rw [Int.toNat_natCast]
        exact getD_some hj
      refine addD_ints (b := [ns.getD j 0]) ?_ ⟨(by first | decide | (simp only [List.length_cons, List.length_nil]; decide)), .here ?_⟩
      · rw [List.length_append, List.length_take, List.length_drop, List.length_singleton]
        omega
      · have e1 : ((j : Int)).toNat = j := by omega
        have e2 : ((j : Int) + 1).toNat = j + 1 := by omega
        rw [e1, e2]
        exact k
theorem sc_precedes : FnScope ["one", "other", "last"] ["one", "other", "last"] (defScope s_precedes) := ⟨rfl, rfl, rfl, by decide +kernel, rfl, by decide +kernel, by decide +kernel⟩
theorem ok_precedes {f : Addr} {fd : FuncData} (F : FunD K "precedes" "precedes" (defArgs s_precedes) (defBody s_precedes) (defScope s_precedes) [] [("last", .non)] f fd) (B : Bn mg) {a_rank : Addr} (G_rank : FnR P w K mg base CX0 1 a_rank (spD K (FS_rank))) (g_rank : Gd K mg "rank" a_rank) : FnOk P w K mg base CX0 2 f fd ["one", "other", "last"] (spD K (FS_prec)) := by
  refine fnOkD F sc_precedes (fun cdv A outer st H E hr => ⟨_, (pss_one (ps_ret (pe_cmpR (op_ltK K rfl hr.units) (pe_callR G_rank g_rank (hr.mono (by decide)) pass0 (pa_cons (pv 0) (pa_cons (pv 2) pa_nil))) (pe_callR G_rank g_rank (hr.mono (by decide)) pass0 (pa_cons (pv 1) (pa_cons (pv 2) pa_nil))) (nomark _)))), by exact inferInstance⟩) ?_ ?_
  · intro ds μ Q h
    obtain ⟨_, _, _, rfl, _⟩ := h
    rfl
  · intro ds μ Q h
    obtain ⟨a, b, o, rfl, t, k⟩ := h
    refine ⟨a, o, rfl, t.2.1, t.2.2, b, o, rfl, by have := t.1; have := t.2.1; omega, fun j hj => by have := t.2.2 j hj; have := t.1; omega, ?_⟩
    exact ltD_rank t (.here k)
theorem sc_law_begin : FnScope ["_law_script", "_law_cell", "_law_cells", "_law_mark"] ["_law_script"] (defScope s_law_begin) := ⟨rfl, rfl, rfl, by decide +kernel, rfl, by decide +kernel, by decide +kernel⟩
theorem ok_law_begin {f : Addr} {fd : FuncData} (F : FunD K "_law_begin" "_law_begin" (defArgs s_law_begin) (defBody s_law_begin) (defScope s_law_begin) [] [] f fd) (B : Bn mg)  : FnR P w K mg base CX0 1 f (spD K (FS_begin)) := by
  refine fnD F sc_law_begin (F.bindsN (ps := ["_law_script"]) fun _ _ _ _ _ _ us hl => match us, hl with | [_], _ => rfl) (fun cdv A outer st H E hr => ⟨_, (pss_cons (ps_setLc (i := 2) (own := [("_law_cell", 1)]) (by rfl) sc_law_begin.nd rfl rfl (sw_true rfl rfl rfl (by decide +kernel)) (pi_seqK K rfl (pe_slice (sl_K K rfl) (pv 0) po_none (po_some pe_int))) (blkOk_by (own := [("_law_cell", 1)]) (N := ["_law_script", "_law_cell", "_law_cells", "_law_mark"]) (sc := defScope s_law_begin) (by decide +kernel)) (fun _ _ _ _ _ => (pg_name (i := 1) sc_law_begin.nd rfl (by first | exact Or.inl rfl | exact Or.inr rfl))) (fun _ _ _ _ _ => pts_nil) (fun _ _ _ _ _ => (pe_callTy call_intU (by rfl) B.int_ PyProof.Rows.boot_int (pa_cons (pv 1) pa_nil))))
  (pss_cons (ps_set (i := 3) sc_law_begin.nd rfl (by first | exact Or.inl rfl | exact Or.inr rfl) (pe_op (op_addK K rfl) pe_int (pe_op (op_mulK K rfl) pe_int (pe_callB (call_lenK K rfl) (by rfl) B.len_ PySem.boot_len (pa_cons (pv 2) pa_nil)))))
  (pss_cons (ps_for PassesOwn.never rfl (pi_seqK K rfl (pv 2)) (pg_name (i := 1) sc_law_begin.nd rfl (by first | exact Or.inl rfl | exact Or.inr rfl))
    (pss_one (ps_set (i := 3) sc_law_begin.nd rfl (by first | exact Or.inl rfl | exact Or.inr rfl) (pe_op op_modU (pe_callTy call_intU (by rfl) B.int_ PyProof.Rows.boot_int (pa_cons (pe_op (op_addK K rfl) (pe_op (op_mulK K rfl) (pv 3) pe_int) (pv 1)) pa_nil)) pe_int))))
  (pss_one (ps_ret (pe_lstM (pa_cons (pv 2) (pa_cons pe_int (pa_cons pe_int (pa_cons (pv 3) pa_nil)))))))))), by exact inferInstance⟩) ?_ ?_
  · intro ds μ Q h
    obtain ⟨_, rfl, _⟩ := h
    rfl
  · intro ds μ Q h
    obtain ⟨ns, rfl, k⟩ := h
    have hl : (cut ns none (some 63)).length ≤ 63 := by
      unfold cut
      rw [List.length_take, HT.sIx_none]
      have := HT.sIx_nat ns.length ns.length 63
      have e : HT.sIx ns.length ns.length (some 63) = min 63 ns.length := this
      rw [e]
      omega
    refine ⟨by decide, ?_, ?_⟩
    · show ((cut ns none (some 63)).map D.int).length ≤ sizeLine
      rw [List.length_map]
      exact size3 (by omega)
    generalize cut ns none (some 63) = cells at hl
    refine lcD_map (fun x => x) _ _ (fun x hx R r => ?_) ?_
    · obtain ⟨n, _, rfl⟩ := List.mem_map.mp hx
      exact r
    rw [List.nil_append, List.map_id']
    refine ⟨.inl ⟨by decide, by decide⟩, ?_⟩
    show forD _ _ _ _ _ _
    refine forD_inv (fun r η μ' => μ' = μ ∧ (∀ x ∈ r, ∃ n, x = D.int n) ∧ ∃ x0 m, η = [some (.scr ns), x0, some (.lst (cells.map D.int)), some (.int m)] ∧ 0 ≤ m ∧ m < 2147483647) ?_ ?_ _ _ _ ⟨rfl, ?_, none, _, rfl, ?_, ?_⟩
    · rintro η μ' ⟨rfl, _, x0, m, rfl, h0, h1⟩
      refine ⟨by show 4 ≤ sizeLine; decide, fun a na => .here ?_⟩
      exact k a _ na ⟨cells, 0, 0, m, rfl, hl, Int.le_refl _, Int.le_refl _, h0, h1⟩
    · rintro x r η μ' N ⟨rfl, hx, x0, m, rfl, h0, h1⟩ hN
      obtain ⟨n, rfl⟩ := hx x List.mem_cons_self
      refine ⟨.inr ⟨by decide, by decide⟩, by decide, ?_⟩
      refine hN _ _ ⟨rfl, fun y hy => hx y (List.mem_cons_of_mem _ hy), _, _, rfl, Int.emod_nonneg _ (by decide), ?_⟩
      have := Int.emod_lt_of_pos (m * 69621 + n) (show (0 : Int) < 2147483629 by decide)
      omega
    · intro x hx
      obtain ⟨n, _, rfl⟩ := List.mem_map.mp hx
      exact ⟨n, rfl⟩
    · omega
    · rw [List.length_map]
      omega
theorem sc_law_draw : FnScope ["_law_box", "_law_many", "_law_cell", "_law_found"] ["_law_box", "_law_many"] (defScope s_law_draw) := ⟨rfl, rfl, rfl, by decide +kernel, rfl, by decide +kernel, by decide +kernel⟩
theorem ok_law_draw {f : Addr} {fd : FuncData} (F : FunD K "_law_draw" "_law_draw" (defArgs s_law_draw) (defBody s_law_draw) (defScope s_law_draw) [] [] f fd) (B : Bn mg)  : FnR P w K mg base CX0 1 f (spD K (FS_draw)) := by
  refine fnD F sc_law_draw (F.bindsN (ps := ["_law_box", "_law_many"]) fun _ _ _ _ _ _ us hl => match us, hl with | [_, _], _ => rfl) (fun cdv A outer st H E hr => ⟨_, (pss_cons (ps_if (PW.pt (pw_and (pt_cmpR (op_ltK K rfl hr.units) (pe_ix (ix_seqK K rfl) (pv 0) pe_int (fun _ _ => rfl)) pe_int (nomark _)) (pw_and1 (pt_cmpR (op_ltK K rfl hr.units) (pe_ix (ix_seqK K rfl) (pv 0) pe_int (fun _ _ => rfl)) (pe_callB (call_lenK K rfl) (by rfl) B.len_ PySem.boot_len (pa_cons (pe_ix (ix_seqK K rfl) (pv 0) pe_int (fun _ _ => rfl)) pa_nil)) (nomark _))))) (pss_cons (ps_set (i := 2) sc_law_draw.nd rfl (by first | exact Or.inl rfl | exact Or.inr rfl) (pe_ix (ix_seqK K rfl) (pe_ix (ix_seqK K rfl) (pv 0) pe_int (fun _ _ => rfl)) (pe_ix (ix_seqK K rfl) (pv 0) pe_int (fun _ _ => rfl)) (fun _ _ => rfl)))
  (pss_cons (ps_asg (pe_op (op_addK K rfl) (pe_ix (ix_seqK K rfl) (pv 0) pe_int (fun _ _ => rfl)) pe_int) (pg_sub (pv 0) pe_int set_list))
  (pss_one (ps_if (pt_cmpR op_geU (pv 2) (pe_op op_powU pe_int pe_int) (nomark _)) (pss_one (ps_asg (pv 2) (pg_sub (pv 0) pe_int set_list))) (pss_one (ps_asg (pe_op op_modU (pe_callTy call_intU (by rfl) B.int_ PyProof.Rows.boot_int (pa_cons (pe_op (op_addK K rfl) (pe_op (op_addK K rfl) (pe_op (op_mulK K rfl) (pe_ix (ix_seqK K rfl) (pv 0) pe_int (fun _ _ => rfl)) pe_int) (pe_op (op_mulK K rfl) (pv 2) pe_int)) pe_int) pa_nil)) pe_int) (pg_sub (pv 0) pe_int set_list))))))) pss_nil)
  (pss_cons (ps_if (pt_cmpR op_gtU (pe_ix (ix_seqK K rfl) (pv 0) pe_int (fun _ _ => rfl)) pe_int (nomark _)) (pss_cons (ps_set (i := 3) sc_law_draw.nd rfl (by first | exact Or.inl rfl | exact Or.inr rfl) (pe_op op_modU (pe_callTy call_intU (by rfl) B.int_ PyProof.Rows.boot_int (pa_cons (pe_ix (ix_seqK K rfl) (pv 0) pe_int (fun _ _ => rfl)) pa_nil)) (pv 1)))
  (pss_cons (ps_asg (pe_op op_divU (pe_ix (ix_seqK K rfl) (pv 0) pe_int (fun _ _ => rfl)) (pv 1)) (pg_sub (pv 0) pe_int set_list))
  (pss_one (ps_ret (pv 3))))) pss_nil)
  (pss_cons (ps_asg (pe_op op_modU (pe_callTy call_intU (by rfl) B.int_ PyProof.Rows.boot_int (pa_cons (pe_op (op_addK K rfl) (pe_op (op_mulK K rfl) (pe_ix (ix_seqK K rfl) (pv 0) pe_int (fun _ _ => rfl)) pe_int) pe_int) pa_nil)) pe_int) (pg_sub (pv 0) pe_int set_list))
  (pss_one (ps_ret (pe_op op_modU (pe_callTy call_intU (by rfl) B.int_ PyProof.Rows.boot_int (pa_cons (pe_op op_divU (pe_op op_modU (pe_callTy call_intU (by rfl) B.int_ PyProof.Rows.boot_int (pa_cons (pe_op (op_mulK K rfl) (pe_ix (ix_seqK K rfl) (pv 0) pe_int (fun _ _ => rfl)) (pe_ix (ix_seqK K rfl) (pv 0) pe_int (fun _ _ => rfl))) pa_nil)) pe_int) pe_int) pa_nil)) (pv 1))))))), by exact inferInstance⟩) ?_ ?_
  · intro ds μ Q h
    obtain ⟨_, _, rfl, _⟩ := h
    rfl
  · intro ds μ Q h
    obtain ⟨b, many, rfl, h1, h2, ⟨xs, hb, cells, i, j, m, rfl, hl, hi, hj, hm, hm2⟩, k⟩ := h
    -- the last part, from any box
    have last : ∀ (i j m : Int) (x2 : Option D) (μ2 : Mu), mget b μ2 = some (.lst [.lst (cells.map D.int), .int i, .int j, .int m]) → 0 ≤ i → 0 ≤ j → 0 ≤ m → m < 2147483647 → (∀ ys, mput b (.lst ys) μ2 = mput b (.lst ys) μ) →
        (dSeq (dAsg (dOp modD (dCB intD (dCons (dOp addD (dOp mulD (dOp ixD (dVar 0) (dC (D.int 3))) (dC (D.int 16807))) (dC (D.int 11))) dNil)) (dC (D.int 2147483647))) (dGSub (dVar 0) (dC (D.int 3))))
          (dRet (dOp modD (dCB intD (dCons (dOp divD (dOp modD (dCB intD (dCons (dOp mulD (dOp ixD (dVar 0) (dC (D.int 3))) (dOp ixD (dVar 0) (dC (D.int 3)))) dNil)) (dC (D.int 998244353))) (dC (D.int 7))) dNil)) (dVar 1))))
          { nx := fun _ μ' => Fz (dom μ) Q .non μ', rt := Fz (dom μ) Q } [some (.cell b), some (.int many), x2, none] μ2 := by
      intro i j m x2 μ2 hb2 hi hj hm hm2 hp
      simp only [dSeq, dIf, dAsg, dRet, dRetN, dDrop, dNext, dVar, dC, dOp, dUn, dCB, dCons, dNil, dTup, dLst, dLstM, dName, dB, dAnd, dOr, dNot, dAndV, dOrV, dNotV, dIfE, onB, look, env0_cons, env0_nil, dIsN, dNotN, isN, DEnds.sq, DEnds.lp, List.map_cons, List.map_nil, List.cons_append, List.nil_append, List.set_cons_zero, List.set_cons_succ, List.replicate_succ, List.replicate_zero, List.length_cons, List.length_nil, ixD, seqOf, asL, modD, intD, addD, mulD, divD, dGSub, dSet, hb2, at4_3, ix4_3, mget_mput hb2]
      have q1 := Int.emod_nonneg (m * 16807 + 11) (show (2147483647 : Int) ≠ 0 by decide)
      have q2 := Int.emod_lt_of_pos (m * 16807 + 11) (show (0 : Int) < 2147483647 by decide)
      refine ⟨.inr ⟨by decide, by decide⟩, by decide, .inl ⟨by omega, by omega⟩, by decide, ⟨by decide, by decide⟩, by omega, ?_⟩
      refine .here ?_
      rw [hp]
      exact k _ _ ⟨_, rfl, Int.emod_nonneg _ (by omega), Int.emod_lt_of_pos _ (by omega)⟩ ⟨cells, i, j, _, rfl, hl, hi, hj, q1, q2⟩
    have second : ∀ (i j m : Int) (x2 : Option D) (μ2 : Mu), mget b μ2 = some (.lst [.lst (cells.map D.int), .int i, .int j, .int m]) → 0 ≤ i → 0 ≤ j → 0 ≤ m → m < 2147483647 → (∀ ys, mput b (.lst ys) μ2 = mput b (.lst ys) μ) →
        (dSeq (dIf (dB (dOp (cmpD fGt) (dOp ixD (dVar 0) (dC (D.int 2))) (dC (D.int 0))))
            (dSeq (dAsg (dOp modD (dCB intD (dCons (dOp ixD (dVar 0) (dC (D.int 2))) dNil)) (dVar 1)) (dName 3))
              (dSeq (dAsg (dOp divD (dOp ixD (dVar 0) (dC (D.int 2))) (dVar 1)) (dGSub (dVar 0) (dC (D.int 2)))) (dRet (dVar 3)))) dNext)
          (dSeq (dAsg (dOp modD (dCB intD (dCons (dOp addD (dOp mulD (dOp ixD (dVar 0) (dC (D.int 3))) (dC (D.int 16807))) (dC (D.int 11))) dNil)) (dC (D.int 2147483647))) (dGSub (dVar 0) (dC (D.int 3))))
          (dRet (dOp modD (dCB intD (dCons (dOp divD (dOp modD (dCB intD (dCons (dOp mulD (dOp ixD (dVar 0) (dC (D.int 3))) (dOp ixD (dVar 0) (dC (D.int 3)))) dNil)) (dC (D.int 998244353))) (dC (D.int 7))) dNil)) (dVar 1)))))
          { nx := fun _ μ' => Fz (dom μ) Q .non μ', rt := Fz (dom μ) Q } [some (.cell b), some (.int many), x2, none] μ2 := by
      intro i j m x2 μ2 hb2 hi hj hm hm2 hp
      by_cases c : 0 < j
      · simp only [dSeq, dIf, dAsg, dRet, dRetN, dDrop, dNext, dVar, dC, dOp, dUn, dCB, dCons, dNil, dTup, dLst, dLstM, dName, dB, dAnd, dOr, dNot, dAndV, dOrV, dNotV, dIfE, onB, look, env0_cons, env0_nil, dIsN, dNotN, isN, DEnds.sq, DEnds.lp, List.map_cons, List.map_nil, List.cons_append, List.nil_append, List.set_cons_zero, List.set_cons_succ, List.replicate_succ, List.replicate_zero, List.length_cons, List.length_nil, ixD, seqOf, asL, modD, intD, divD, dGSub, dSet, cmpD, fGt, hb2, at4_2, ix4_2, decide_eq_true c, if_true]
        refine ⟨by omega, ⟨by omega, by omega⟩, ?_⟩
        refine .here ?_
        rw [hp]
        exact k _ _ ⟨_, rfl, Int.emod_nonneg _ (by omega), Int.emod_lt_of_pos _ (by omega)⟩ ⟨cells, i, _, m, rfl, hl, hi, Int.ediv_nonneg hj (by omega), hm, hm2⟩
      · have e := last i j m x2 μ2 hb2 hi hj hm hm2 hp
        simp only [dSeq, dIf, dB, dOp, dVar, dC, look, ixD, seqOf, asL, cmpD, fGt, hb2, at4_2, decide_eq_false c, onB, Bool.false_eq_true, if_false, dNext] at e ⊢
        exact e
    revert second
    generalize (dSeq (dIf (dB (dOp (cmpD fGt) (dOp ixD (dVar 0) (dC (D.int 2))) (dC (D.int 0))))
            (dSeq (dAsg (dOp modD (dCB intD (dCons (dOp ixD (dVar 0) (dC (D.int 2))) dNil)) (dVar 1)) (dName 3))
              (dSeq (dAsg (dOp divD (dOp ixD (dVar 0) (dC (D.int 2))) (dVar 1)) (dGSub (dVar 0) (dC (D.int 2)))) (dRet (dVar 3)))) dNext)
          (dSeq (dAsg (dOp modD (dCB intD (dCons (dOp addD (dOp mulD (dOp ixD (dVar 0) (dC (D.int 3))) (dC (D.int 16807))) (dC (D.int 11))) dNil)) (dC (D.int 2147483647))) (dGSub (dVar 0) (dC (D.int 3))))
          (dRet (dOp modD (dCB intD (dCons (dOp divD (dOp modD (dCB intD (dCons (dOp mulD (dOp ixD (dVar 0) (dC (D.int 3))) (dOp ixD (dVar 0) (dC (D.int 3)))) dNil)) (dC (D.int 998244353))) (dC (D.int 7))) dNil)) (dVar 1)))) : DS) = U
    intro second
    show dSeq _ _ _ [some (.cell b), some (.int many), none, none] μ
    by_cases c1 : j < 1
    · by_cases c2 : i < (cells.length : Int)
      · obtain ⟨cell, hc⟩ : ∃ cell, atI (cells.map D.int) i = some (.int cell) := by
          obtain ⟨x, e1, e2, _⟩ := atI_pos (xs := cells.map D.int) hi (by rw [List.length_map]; exact c2)
          obtain ⟨n, _, rfl⟩ := List.mem_map.mp e2
          exact ⟨n, e1⟩
        by_cases c3 : (10 : Int) ^ (18 : Int).toNat ≤ cell
        · simp only [dSeq, dIf, dAsg, dRet, dRetN, dDrop, dNext, dVar, dC, dOp, dUn, dCB, dCons, dNil, dTup, dLst, dLstM, dName, dB, dAnd, dOr, dNot, dAndV, dOrV, dNotV, dIfE, onB, look, env0_cons, env0_nil, dIsN, dNotN, isN, DEnds.sq, DEnds.lp, List.map_cons, List.map_nil, List.cons_append, List.nil_append, List.set_cons_zero, List.set_cons_succ, List.replicate_succ, List.replicate_zero, List.length_cons, List.length_nil, ixD, seqOf, asL, dGSub, dSet, ltD, lenD, addD, powD, cmpD, fGe, hb, mget_mput hb, at4_0, at4_1, at4_2, ix4_1, ix4_2, decide_eq_true c1, decide_eq_true c2, if_true, hc, List.length_map, decide_eq_true c3, mput_mput]
          exact ⟨⟨by decide, by decide, by decide⟩, second (i + 1) cell m _ _ (mget_mput hb) (by omega) (Int.le_trans (by decide) c3) hm hm2 (fun ys => mput_mput)⟩
        · simp only [dSeq, dIf, dAsg, dRet, dRetN, dDrop, dNext, dVar, dC, dOp, dUn, dCB, dCons, dNil, dTup, dLst, dLstM, dName, dB, dAnd, dOr, dNot, dAndV, dOrV, dNotV, dIfE, onB, look, env0_cons, env0_nil, dIsN, dNotN, isN, DEnds.sq, DEnds.lp, List.map_cons, List.map_nil, List.cons_append, List.nil_append, List.set_cons_zero, List.set_cons_succ, List.replicate_succ, List.replicate_zero, List.length_cons, List.length_nil, ixD, seqOf, asL, dGSub, dSet, ltD, lenD, addD, powD, mulD, modD, intD, cmpD, fGe, hb, mget_mput hb, at4_0, at4_1, at4_2, at4_3, ix4_1, ix4_2, ix4_3, decide_eq_true c1, decide_eq_true c2, if_true, hc, List.length_map, decide_eq_false c3, Bool.false_eq_true, if_false, mput_mput]
          exact ⟨⟨by decide, by decide, by decide⟩, .inr ⟨by decide, by decide⟩, .inr ⟨by decide, by decide⟩, by decide, second (i + 1) j _ _ _ (mget_mput hb) (by omega) hj (Int.emod_nonneg _ (by decide)) (Int.emod_lt_of_pos _ (by decide)) (fun ys => mput_mput)⟩
      · simp only [dSeq, dIf, dAsg, dRet, dRetN, dDrop, dNext, dVar, dC, dOp, dUn, dCB, dCons, dNil, dTup, dLst, dLstM, dName, dB, dAnd, dOr, dNot, dAndV, dOrV, dNotV, dIfE, onB, look, env0_cons, env0_nil, dIsN, dNotN, isN, DEnds.sq, DEnds.lp, List.map_cons, List.map_nil, List.cons_append, List.nil_append, List.set_cons_zero, List.set_cons_succ, List.replicate_succ, List.replicate_zero, List.length_cons, List.length_nil, ixD, seqOf, asL, ltD, lenD, hb, at4_0, at4_1, at4_2, decide_eq_true c1, decide_eq_false c2, if_true, List.length_map, Bool.false_eq_true, if_false]
        exact second i j m none μ hb hi hj hm hm2 (fun _ => rfl)
    · simp only [dSeq, dIf, dAsg, dRet, dRetN, dDrop, dNext, dVar, dC, dOp, dUn, dCB, dCons, dNil, dTup, dLst, dLstM, dName, dB, dAnd, dOr, dNot, dAndV, dOrV, dNotV, dIfE, onB, look, env0_cons, env0_nil, dIsN, dNotN, isN, DEnds.sq, DEnds.lp, List.map_cons, List.map_nil, List.cons_append, List.nil_append, List.set_cons_zero, List.set_cons_succ, List.replicate_succ, List.replicate_zero, List.length_cons, List.length_nil, ixD, seqOf, asL, ltD, hb, at4_2, decide_eq_false c1, Bool.false_eq_true, if_false]
      exact second i j m none μ hb hi hj hm hm2 (fun _ => rfl)
theorem sc_law_any : FnScope ["_law_box", "_law_row"] ["_law_box", "_law_row"] (defScope s_law_any) := ⟨rfl, rfl, rfl, by decide +kernel, rfl, by decide +kernel, by decide +kernel⟩
theorem ok_law_any {f : Addr} {fd : FuncData} (F : FunD K "_law_any" "_law_any" (defArgs s_law_any) (defBody s_law_any) (defScope s_law_any) [] [] f fd) (B : Bn mg) {a_law_draw : Addr} (G_law_draw : FnR P w K mg base CX0 1 a_law_draw (spD K (FS_draw))) (g_law_draw : Gd K mg "_law_draw" a_law_draw) : FnR P w K mg base CX0 2 f (spD K (FS_any)) := by
  refine fnD F sc_law_any (F.bindsN (ps := ["_law_box", "_law_row"]) fun _ _ _ _ _ _ us hl => match us, hl with | [_, _], _ => rfl) (fun cdv A outer st H E hr => ⟨_, (pss_one (ps_ret (pe_ix (ix_seqK K rfl) (pv 1) (pe_callR G_law_draw g_law_draw (hr.mono (by decide)) pass0 (pa_cons (pv 0) (pa_cons (pe_callB (call_lenK K rfl) (by rfl) B.len_ PySem.boot_len (pa_cons (pv 1) pa_nil)) pa_nil))) (fun _ _ => rfl)))), by exact inferInstance⟩) ?_ ?_
  · intro ds μ Q h
    obtain ⟨_, _, _, rfl, _⟩ := h
    rfl
  · intro ds μ Q h
    obtain ⟨b, r, xs, rfl, hs, hs2, hne, hlen, hb, k⟩ := h
    simp only [dSeq, dIf, dAsg, dRet, dRetN, dDrop, dNext, dVar, dC, dOp, dUn, dCB, dCons, dNil, dTup, dLst, dLstM, dName, dB, dAnd, dOr, dNot, dAndV, dOrV, dNotV, dIfE, onB, look, env0_cons, env0_nil, dIsN, dNotN, isN, DEnds.sq, DEnds.lp, List.map_cons, List.map_nil, List.cons_append, List.nil_append, List.set_cons_zero, List.set_cons_succ, List.replicate_succ, List.replicate_zero, List.length_cons, List.length_nil]
    have h1 : 0 < xs.length := List.length_pos_iff.mpr hne
    refine lenD_seq hs ⟨b, _, rfl, by omega, by omega, hb, ?_⟩
    rintro d ys ⟨n, rfl, h0, h1⟩ hy
    obtain ⟨x, e1, e2, _⟩ := atI_pos (xs := xs) h0 h1
    exact ixD_seq (hs2 _) e1 (.here (k _ _ e2 hy))
theorem sc_law_same : FnScope ["_law_found", "_law_due", "_law_kind", "_law_one", "_law_other"] ["_law_found", "_law_due"] (defScope s_law_same) := ⟨rfl, rfl, rfl, by decide +kernel, rfl, by decide +kernel, by decide +kernel⟩
theorem ok_law_same {f : Addr} {fd : FuncData} (F : FunD K "_law_same" "_law_same" (defArgs s_law_same) (defBody s_law_same) (defScope s_law_same) [] [] f fd) (B : Bn mg) (g_law_same : Gd K mg "_law_same" f)  : ∀ n : Nat, FnR P w K mg base CX0 n f (spD K (FS_same n))
  | 0 => fun A outer st H us vs Q E hr e0 r h => by
    obtain ⟨_, _, _, _, _, _, h, _⟩ := h
    exact h.elim
  | n + 1 => by
    have G_law_same := ok_law_same F B g_law_same  n
    refine fnD F sc_law_same (F.bindsN (ps := ["_law_found", "_law_due"]) fun _ _ _ _ _ _ us hl => match us, hl with | [_, _], _ => rfl) (fun cdv A outer st H E hr => ⟨_, (pss_cons (ps_if (PW.pt (pw_or (pt_cmp (pc_isN (pv 1)) rfl) (pw_or1 (pt_cmp (pc_isN (pv 0)) rfl)))) (pss_one (ps_ret (pe_and (pe_cmp (pc_isN (pv 0)) rfl) (pe_one (pe_cmp (pc_isN (pv 1)) rfl))))) pss_nil)
  (pss_cons (ps_if (PW.pt (pw_or (pt_val (pe_callB (call_isiK' K rfl) (by rfl) B.isinstance_ PyProof.Rows.boot_isinstance (pa_cons (pv 1) (pa_cons (pe_bltn (v := .ty "bool") rfl B.bool_ (by decide +kernel) rfl) pa_nil)))) (pw_or1 (pt_val (pe_callB (call_isiK' K rfl) (by rfl) B.isinstance_ PyProof.Rows.boot_isinstance (pa_cons (pv 0) (pa_cons (pe_bltn (v := .ty "bool") rfl B.bool_ (by decide +kernel) rfl) pa_nil))))))) (pss_one (ps_ret (pe_and (pe_callB (call_isiK' K rfl) (by rfl) B.isinstance_ PyProof.Rows.boot_isinstance (pa_cons (pv 1) (pa_cons (pe_bltn (v := .ty "bool") rfl B.bool_ (by decide +kernel) rfl) pa_nil))) (pe_and (pe_callB (call_isiK' K rfl) (by rfl) B.isinstance_ PyProof.Rows.boot_isinstance (pa_cons (pv 0) (pa_cons (pe_bltn (v := .ty "bool") rfl B.bool_ (by decide +kernel) rfl) pa_nil))) (pe_one (pe_cmpR (op_eqK K rfl hr.units) (pv 0) (pv 1) (nomark _))))))) pss_nil)
  (pss_cons (ps_if (PW.pt (pw_or (pt_val (pe_callB (call_isiK' K rfl) (by rfl) B.isinstance_ PyProof.Rows.boot_isinstance (pa_cons (pv 1) (pa_cons (pe_bltn (v := .ty "int") rfl B.int_ (by decide +kernel) rfl) pa_nil)))) (pw_or1 (pt_val (pe_callB (call_isiK' K rfl) (by rfl) B.isinstance_ PyProof.Rows.boot_isinstance (pa_cons (pv 1) (pa_cons (pe_bltn (v := .ty "str") rfl B.str_ (by decide +kernel) rfl) pa_nil))))))) (pss_cons (ps_set (i := 2) sc_law_same.nd rfl (by first | exact Or.inl rfl | exact Or.inr rfl) (pe_and (pe_cmpR (op_eqK K rfl hr.units) (pe_callB (call_isiK' K rfl) (by rfl) B.isinstance_ PyProof.Rows.boot_isinstance (pa_cons (pv 0) (pa_cons (pe_bltn (v := .ty "int") rfl B.int_ (by decide +kernel) rfl) pa_nil))) (pe_callB (call_isiK' K rfl) (by rfl) B.isinstance_ PyProof.Rows.boot_isinstance (pa_cons (pv 1) (pa_cons (pe_bltn (v := .ty "int") rfl B.int_ (by decide +kernel) rfl) pa_nil))) (nomark _)) (pe_one (pe_cmpR (op_eqK K rfl hr.units) (pe_callB (call_isiK' K rfl) (by rfl) B.isinstance_ PyProof.Rows.boot_isinstance (pa_cons (pv 0) (pa_cons (pe_bltn (v := .ty "str") rfl B.str_ (by decide +kernel) rfl) pa_nil))) (pe_callB (call_isiK' K rfl) (by rfl) B.isinstance_ PyProof.Rows.boot_isinstance (pa_cons (pv 1) (pa_cons (pe_bltn (v := .ty "str") rfl B.str_ (by decide +kernel) rfl) pa_nil))) (nomark _)))))
  (pss_one (ps_ret (pe_and (pv 2) (pe_one (pe_cmpR (op_eqK K rfl hr.units) (pv 0) (pv 1) (nomark _))))))) pss_nil)
  (pss_cons (ps_if (PW.pt (pw_or (pt_cmpR (op_neK K rfl hr.units) (pe_callB (call_isiK' K rfl) (by rfl) B.isinstance_ PyProof.Rows.boot_isinstance (pa_cons (pv 1) (pa_cons (pe_bltn (v := .ty "list") rfl B.list_ (by decide +kernel) rfl) pa_nil))) (pe_callB (call_isiK' K rfl) (by rfl) B.isinstance_ PyProof.Rows.boot_isinstance (pa_cons (pv 0) (pa_cons (pe_bltn (v := .ty "list") rfl B.list_ (by decide +kernel) rfl) pa_nil))) (nomark _)) (pw_or1 (pt_cmpR (op_neK K rfl hr.units) (pe_callB (call_isiK' K rfl) (by rfl) B.isinstance_ PyProof.Rows.boot_isinstance (pa_cons (pv 1) (pa_cons (pe_bltn (v := .ty "tuple") rfl B.tuple_ (by decide +kernel) rfl) pa_nil))) (pe_callB (call_isiK' K rfl) (by rfl) B.isinstance_ PyProof.Rows.boot_isinstance (pa_cons (pv 0) (pa_cons (pe_bltn (v := .ty "tuple") rfl B.tuple_ (by decide +kernel) rfl) pa_nil))) (nomark _))))) (pss_one (ps_ret pe_bl)) pss_nil)
  (pss_one (ps_ret (pe_and (pe_cmpR (op_eqK K rfl hr.units) (pe_callB (call_lenK K rfl) (by rfl) B.len_ PySem.boot_len (pa_cons (pv 0) pa_nil)) (pe_callB (call_lenK K rfl) (by rfl) B.len_ PySem.boot_len (pa_cons (pv 1) pa_nil)) (nomark _)) (pe_one (pe_callB (call_allK K rfl rfl) (by rfl) B.all_ PyProof.Rows.boot_all (pa_cons (pe_lc (own := [("_law_one", 3), ("_law_other", 4)]) (by rfl) sc_law_same.nd (pi_zipK K rfl (by rfl) B.zip_ (pa_cons (pv 0) (pa_cons (pv 1) pa_nil))) (blkOk_by (own := [("_law_one", 3), ("_law_other", 4)]) (N := ["_law_found", "_law_due", "_law_kind", "_law_one", "_law_other"]) (sc := defScope s_law_same) (by decide +kernel)) (fun _ _ _ _ _ => (pg_tupK (n := 2) K rfl rfl (pgs_cons (pg_name (i := 3) sc_law_same.nd rfl (by first | exact Or.inl rfl | exact Or.inr rfl)) (pgs_cons (pg_name (i := 4) sc_law_same.nd rfl (by first | exact Or.inl rfl | exact Or.inr rfl)) pgs_nil)))) (fun _ _ _ _ _ => pts_nil) (fun _ _ _ _ _ => (pe_callR G_law_same g_law_same (hr.mono (Nat.le_refl _)) pass0 (pa_cons (pv 3) (pa_cons (pv 4) pa_nil))))) pa_nil)))))))))), by exact inferInstance⟩) ?_ ?_
    · intro ds μ Q h
      obtain ⟨_, rfl, _⟩ := h
      rfl
    · intro ds μ Q h
      obtain ⟨d, rfl, hp, k⟩ := h
      cases d with
      | non =>
        simp only [dSeq, dIf, dAsg, dRet, dRetN, dDrop, dNext, dVar, dC, dOp, dUn, dCB, dCons, dNil, dTup, dLst, dLstM, dName, dB, dAnd, dOr, dNot, dAndV, dOrV, dNotV, dIfE, onB, look, env0_cons, env0_nil, dIsN, dNotN, isN, DEnds.sq, DEnds.lp, List.map_cons, List.map_nil, List.cons_append, List.nil_append, List.set_cons_zero, List.set_cons_succ, List.replicate_succ, List.replicate_zero, List.length_cons, List.length_nil, if_true]
        exact .here k
      | bl b =>
        simp only [dSeq, dIf, dAsg, dRet, dRetN, dDrop, dNext, dVar, dC, dOp, dUn, dCB, dCons, dNil, dTup, dLst, dLstM, dName, dB, dAnd, dOr, dNot, dAndV, dOrV, dNotV, dIfE, onB, look, env0_cons, env0_nil, dIsN, dNotN, isN, DEnds.sq, DEnds.lp, List.map_cons, List.map_nil, List.cons_append, List.nil_append, List.set_cons_zero, List.set_cons_succ, List.replicate_succ, List.replicate_zero, List.length_cons, List.length_nil, isiD, tyName, kit_bb, kit_ib, kit_sb, kit_tb, kit_lb, kit_bi, kit_ii, kit_si, kit_ti, kit_li, kit_is, kit_ss, kit_ts, kit_ls, kit_tl, kit_ll, kit_tt, kit_lt, kb_nn, kit_ni, kit_it, kit_st, kit_bt, kit_nt, kit_bs, kit_ns, kit_il, kit_sl, if_true, Bool.false_eq_true, if_false, eqD_bl, beq_self_eq_true]
        exact .here k
      | int i =>
        simp only [dSeq, dIf, dAsg, dRet, dRetN, dDrop, dNext, dVar, dC, dOp, dUn, dCB, dCons, dNil, dTup, dLst, dLstM, dName, dB, dAnd, dOr, dNot, dAndV, dOrV, dNotV, dIfE, onB, look, env0_cons, env0_nil, dIsN, dNotN, isN, DEnds.sq, DEnds.lp, List.map_cons, List.map_nil, List.cons_append, List.nil_append, List.set_cons_zero, List.set_cons_succ, List.replicate_succ, List.replicate_zero, List.length_cons, List.length_nil, isiD, tyName, kit_bb, kit_ib, kit_sb, kit_tb, kit_lb, kit_bi, kit_ii, kit_si, kit_ti, kit_li, kit_is, kit_ss, kit_ts, kit_ls, kit_tl, kit_ll, kit_tt, kit_lt, kb_nn, kit_ni, kit_it, kit_st, kit_bt, kit_nt, kit_bs, kit_ns, kit_il, kit_sl, if_true, Bool.false_eq_true, if_false, eqD_bl, eqD_int, beq_self_eq_true]
        exact .here k
      | str z =>
        simp only [dSeq, dIf, dAsg, dRet, dRetN, dDrop, dNext, dVar, dC, dOp, dUn, dCB, dCons, dNil, dTup, dLst, dLstM, dName, dB, dAnd, dOr, dNot, dAndV, dOrV, dNotV, dIfE, onB, look, env0_cons, env0_nil, dIsN, dNotN, isN, DEnds.sq, DEnds.lp, List.map_cons, List.map_nil, List.cons_append, List.nil_append, List.set_cons_zero, List.set_cons_succ, List.replicate_succ, List.replicate_zero, List.length_cons, List.length_nil, isiD, tyName, kit_bb, kit_ib, kit_sb, kit_tb, kit_lb, kit_bi, kit_ii, kit_si, kit_ti, kit_li, kit_is, kit_ss, kit_ts, kit_ls, kit_tl, kit_ll, kit_tt, kit_lt, kb_nn, kit_ni, kit_it, kit_st, kit_bt, kit_nt, kit_bs, kit_ns, kit_il, kit_sl, if_true, Bool.false_eq_true, if_false, eqD_bl, beq_self_eq_true]
        exact eqD_refl (n := 0) (by rw [plain_str] at hp ⊢; exact hp) (.here k)
      | tup xs =>
        cases n with
        | zero => exact absurd hp plain_tup0
        | succ m =>
          obtain ⟨hl, hs⟩ := plain_tup hp
          simp only [dSeq, dIf, dAsg, dRet, dRetN, dDrop, dNext, dVar, dC, dOp, dUn, dCB, dCons, dNil, dTup, dLst, dLstM, dName, dB, dAnd, dOr, dNot, dAndV, dOrV, dNotV, dIfE, onB, look, env0_cons, env0_nil, dIsN, dNotN, isN, DEnds.sq, DEnds.lp, List.map_cons, List.map_nil, List.cons_append, List.nil_append, List.set_cons_zero, List.set_cons_succ, List.replicate_succ, List.replicate_zero, List.length_cons, List.length_nil, isiD, tyName, kit_bb, kit_ib, kit_sb, kit_tb, kit_lb, kit_bi, kit_ii, kit_si, kit_ti, kit_li, kit_is, kit_ss, kit_ts, kit_ls, kit_tl, kit_ll, kit_tt, kit_lt, kb_nn, kit_ni, kit_it, kit_st, kit_bt, kit_nt, kit_bs, kit_ns, kit_il, kit_sl, if_true, Bool.false_eq_true, if_false, eqD_bl, neD_bl, beq_self_eq_true, Bool.not_true, Bool.not_false]
          refine lenD_seq rfl (lenD_seq rfl ?_)
          simp only [eqD_int, beq_self_eq_true, if_true]
          refine ⟨by decide, ?_, ?_⟩
          · show (zipD xs xs).length ≤ sizeLine
            unfold zipD
            rw [List.length_zipWith]
            exact Nat.le_trans (by omega) (show 100000 ≤ sizeLine by decide)
          refine lcD_map (fun _ => .bl true) _ _ (fun e he R r => ?_) ?_
          · obtain ⟨x, hx, rfl⟩ := zip_self he
            exact ⟨rfl, rfl, x, rfl, plains_mem hs x hx, r⟩
          · have e : ([] : List D) ++ (zipD xs xs).map (fun _ => D.bl true) = (List.replicate (zipD xs xs).length true).map D.bl := by
              rw [List.nil_append, List.map_const', List.map_replicate]
            rw [e]
            refine ⟨_, _, rfl, rfl, ?_⟩
            have e2 : (List.replicate (zipD xs xs).length true).all id = true := by
              rw [List.all_replicate]
              simp
            rw [e2]
            exact .here k
      
      | lst xs =>
        cases n with
        | zero => exact absurd hp plain_lst0
        | succ m =>
          obtain ⟨hl, hs⟩ := plain_lst hp
          simp only [dSeq, dIf, dAsg, dRet, dRetN, dDrop, dNext, dVar, dC, dOp, dUn, dCB, dCons, dNil, dTup, dLst, dLstM, dName, dB, dAnd, dOr, dNot, dAndV, dOrV, dNotV, dIfE, onB, look, env0_cons, env0_nil, dIsN, dNotN, isN, DEnds.sq, DEnds.lp, List.map_cons, List.map_nil, List.cons_append, List.nil_append, List.set_cons_zero, List.set_cons_succ, List.replicate_succ, List.replicate_zero, List.length_cons, List.length_nil, isiD, tyName, kit_bb, kit_ib, kit_sb, kit_tb, kit_lb, kit_bi, kit_ii, kit_si, kit_ti, kit_li, kit_is, kit_ss, kit_ts, kit_ls, kit_tl, kit_ll, kit_tt, kit_lt, kb_nn, kit_ni, kit_it, kit_st, kit_bt, kit_nt, kit_bs, kit_ns, kit_il, kit_sl, if_true, Bool.false_eq_true, if_false, eqD_bl, neD_bl, beq_self_eq_true, Bool.not_true, Bool.not_false]
          refine lenD_seq rfl (lenD_seq rfl ?_)
          simp only [eqD_int, beq_self_eq_true, if_true]
          refine ⟨by decide, ?_, ?_⟩
          · show (zipD xs xs).length ≤ sizeLine
            unfold zipD
            rw [List.length_zipWith]
            exact Nat.le_trans (by omega) (show 100000 ≤ sizeLine by decide)
          refine lcD_map (fun _ => .bl true) _ _ (fun e he R r => ?_) ?_
          · obtain ⟨x, hx, rfl⟩ := zip_self he
            exact ⟨rfl, rfl, x, rfl, plains_mem hs x hx, r⟩
          · have e : ([] : List D) ++ (zipD xs xs).map (fun _ => D.bl true) = (List.replicate (zipD xs xs).length true).map D.bl := by
              rw [List.nil_append, List.map_const', List.map_replicate]
            rw [e]
            refine ⟨_, _, rfl, rfl, ?_⟩
            have e2 : (List.replicate (zipD xs xs).length true).all id = true := by
              rw [List.all_replicate]
              simp
            rw [e2]
            exact .here k
      
      | ty _ => cases n <;> simp [DL.plain] at hp
      | cls _ => cases n <;> simp [DL.plain] at hp
      | cell _ => cases n <;> simp [DL.plain] at hp
      | obj _ _ _ => cases n <;> simp [DL.plain] at hp
      | scr _ => cases n <;> simp [DL.plain] at hp
theorem sc_law_some_bundle : FnScope ["_law_box", "_law_width", "_law_cap", "_law_k"] ["_law_box", "_law_width", "_law_cap"] (defScope s_law_some_bundle) := ⟨rfl, rfl, rfl, by decide +kernel, rfl, by decide +kernel, by decide +kernel⟩
theorem ok_law_some_bundle {f : Addr} {fd : FuncData} (F : FunD K "_law_some_bundle" "_law_some_bundle" (defArgs s_law_some_bundle) (defBody s_law_some_bundle) (defScope s_law_some_bundle) [] [] f fd) (B : Bn mg) {a_law_draw : Addr} (G_law_draw : FnR P w K mg base CX0 1 a_law_draw (spD K (FS_draw))) (g_law_draw : Gd K mg "_law_draw" a_law_draw) : FnR P w K mg base CX0 2 f (spD K (FS_bundle)) := by
  refine fnD F sc_law_some_bundle (F.bindsN (ps := ["_law_box", "_law_width", "_law_cap"]) fun _ _ _ _ _ _ us hl => match us, hl with | [_, _, _], _ => rfl) (fun cdv A outer st H E hr => ⟨_, (pss_one (ps_ret (pe_callTy (call_tupK K rfl) (by rfl) B.tuple_ PyProof.Rows.boot_tuple (pa_cons (pe_lc (own := [("_law_k", 3)]) (by rfl) sc_law_some_bundle.nd (pi_range1 (by rfl) B.range_ (pa_cons (pv 1) pa_nil)) (blkOk_by (own := [("_law_k", 3)]) (N := ["_law_box", "_law_width", "_law_cap", "_law_k"]) (sc := defScope s_law_some_bundle) (by decide +kernel)) (fun _ _ _ _ _ => (pg_name (i := 3) sc_law_some_bundle.nd rfl (by first | exact Or.inl rfl | exact Or.inr rfl))) (fun _ _ _ _ _ => pts_nil) (fun _ _ _ _ _ => (pe_callR G_law_draw g_law_draw (hr.mono (by decide)) pass0 (pa_cons (pv 0) (pa_cons (pe_op (op_addK K rfl) (pv 2) pe_int) pa_nil))))) pa_nil)))), by exact inferInstance⟩) ?_ ?_
  · intro ds μ Q h
    obtain ⟨_, _, _, rfl, _⟩ := h
    rfl
  · intro ds μ Q h
    obtain ⟨b, width, cap, rfl, h0, h1, c0, c1, hb, k⟩ := h
    obtain ⟨xs, hx, bx⟩ := id hb
    refine ⟨by decide, ⟨by omega, by omega⟩, ?_, ?_⟩
    · rw [List.length_map, List.length_range]
      exact size3 (by omega)
    refine lcD_inv (fun r acc μ' => ∃ (ns : List Int) (ys : List D), acc = ns.map D.int ∧ BoxS ys ∧ μ' = mput b (.lst ys) μ ∧ ns.length + r.length = width.toNat ∧ ∀ n ∈ ns, 0 ≤ n ∧ n ≤ cap) ?_ ?_ _ _ _ ⟨[], xs, rfl, bx, (mput_self hx).symm, by rw [List.length_map, List.length_range]; simp, fun _ h => nomatch h⟩
    · rintro acc μ' ⟨ns, ys, rfl, by', rfl, hl, hr⟩
      refine .here (k _ _ ⟨ns, rfl, ?_, hr⟩ by')
      rw [List.length_nil] at hl
      omega
    · rintro x r acc μ' N ⟨ns, ys, rfl, by', rfl, hl, hr⟩ hN
      refine ⟨b, cap + 1, rfl, by omega, by omega, hb.put by', ?_⟩
      rintro d zs ⟨n, rfl, n0, n1⟩ bz
      refine hN _ _ ⟨ns ++ [n], zs, ?_, bz, mput_mput, ?_, ?_⟩
      · rw [List.map_append]
        rfl
      · rw [List.length_append, List.length_singleton]
        rw [List.length_cons] at hl
        omega
      · intro z hz
        rcases List.mem_append.mp hz with h | h
        · exact hr z h
        · rw [List.mem_singleton.mp h]
          omega
theorem sc_law_before : FnScope ["_law_a", "_law_b", "_law_place", "_law_mine", "_law_theirs"] ["_law_a", "_law_b", "_law_place"] (defScope s_law_before) := ⟨rfl, rfl, rfl, by decide +kernel, rfl, by decide +kernel, by decide +kernel⟩
theorem ok_law_before {f : Addr} {fd : FuncData} (F : FunD K "_law_before" "_law_before" (defArgs s_law_before) (defBody s_law_before) (defScope s_law_before) [] [] f fd) (B : Bn mg)  : FnR P w K mg base CX0 1 f (spD K (FS_prec)) := by
  refine fnD F sc_law_before (F.bindsN (ps := ["_law_a", "_law_b", "_law_place"]) fun _ _ _ _ _ _ us hl => match us, hl with | [_, _, _], _ => rfl) (fun cdv A outer st H E hr => ⟨_, (pss_cons (ps_if (pt_cmp (pc_isN (pv 2)) rfl) (pss_one (ps_ret (pe_or (pe_cmpR (op_ltK K rfl hr.units) (pe_callB (call_sumK K rfl rfl) (by rfl) B.sum_ PyProof.Rows.boot_sum (pa_cons (pv 0) pa_nil)) (pe_callB (call_sumK K rfl rfl) (by rfl) B.sum_ PyProof.Rows.boot_sum (pa_cons (pv 1) pa_nil)) (nomark _)) (pe_one (pe_and (pe_cmpR (op_eqK K rfl hr.units) (pe_callB (call_sumK K rfl rfl) (by rfl) B.sum_ PyProof.Rows.boot_sum (pa_cons (pv 0) pa_nil)) (pe_callB (call_sumK K rfl rfl) (by rfl) B.sum_ PyProof.Rows.boot_sum (pa_cons (pv 1) pa_nil)) (nomark _)) (pe_one (pe_cmpR (op_ltK K rfl hr.units) (pv 0) (pv 1) (nomark _)))))))) pss_nil)
  (pss_cons (ps_set (i := 3) sc_law_before.nd rfl (by first | exact Or.inl rfl | exact Or.inr rfl) (pe_op (op_addK K rfl) (pe_slice (sl_K K rfl) (pv 0) po_none (po_some (pv 2))) (pe_slice (sl_K K rfl) (pv 0) (po_some (pe_op (op_addK K rfl) (pv 2) pe_int)) po_none)))
  (pss_cons (ps_set (i := 4) sc_law_before.nd rfl (by first | exact Or.inl rfl | exact Or.inr rfl) (pe_op (op_addK K rfl) (pe_slice (sl_K K rfl) (pv 1) po_none (po_some (pv 2))) (pe_slice (sl_K K rfl) (pv 1) (po_some (pe_op (op_addK K rfl) (pv 2) pe_int)) po_none)))
  (pss_one (ps_ret (pe_or (pe_cmpR (op_ltK K rfl hr.units) (pv 3) (pv 4) (nomark _)) (pe_one (pe_and (pe_cmpR (op_eqK K rfl hr.units) (pv 3) (pv 4) (nomark _)) (pe_one (pe_cmpR (op_ltK K rfl hr.units) (pe_ix (ix_seqK K rfl) (pv 0) (pv 2) (fun _ _ => rfl)) (pe_ix (ix_seqK K rfl) (pv 1) (pv 2) (fun _ _ => rfl)) (nomark _))))))))))), by exact inferInstance⟩) ?_ ?_
  · intro ds μ Q h
    obtain ⟨_, _, _, rfl, _⟩ := h
    rfl
  · intro ds μ Q h
    obtain ⟨a, b, o, rfl, t, k⟩ := h
    have la := t.2.1
    have lb : b.length ≤ 1000 := by have := t.1; omega
    cases o with
    | none =>
      refine ⟨_, a, rfl, rfl, _, b, rfl, rfl, ?_⟩
      simp only [ltD_int, onB]
      by_cases c : a.sum < b.sum
      · simp only [decide_eq_true c, if_true]
        exact .here (by simpa [before, c] using k)
      · simp only [decide_eq_false c, Bool.false_eq_true, if_false]
        refine ⟨_, a, rfl, rfl, _, b, rfl, rfl, ?_⟩
        simp only [eqD_int, onB]
        by_cases c2 : a.sum = b.sum
        · rw [c2, beq_self_eq_true]
          refine ltD_ints la lb (.here ?_)
          simpa [before, c2] using k
        · rw [beq_eq_false_iff_ne.mpr c2]
          exact .here (by simpa [before, c, c2] using k)
    | some j =>
      have hj := t.2.2 j rfl
      have hjb : j < b.length := by have := t.1; omega
      have e1 : ((j : Int)).toNat = j := by omega
      have e2 : ((j : Int) + 1).toNat = j + 1 := by omega
      have ta := turn_len hj
      have tb := turn_len hjb
      simp only [dSeq, dIf, dAsg, dRet, dRetN, dDrop, dNext, dVar, dC, dOp, dUn, dCB, dCons, dNil, dTup, dLst, dLstM, dName, dB, dAnd, dOr, dNot, dAndV, dOrV, dNotV, dIfE, onB, look, env0_cons, env0_nil, dIsN, dNotN, isN, DEnds.sq, DEnds.lp, List.map_cons, List.map_nil, List.cons_append, List.nil_append, List.set_cons_zero, List.set_cons_succ, List.replicate_succ, List.replicate_zero, List.length_cons, List.length_nil, optD, dSl, dNoPart, dPart, Bool.false_eq_true, if_false]
      refine slD_take (by omega) ?_
      simp only [addD_int]
      refine slD_drop (by omega) (addD_ints ?_ ?_)
      · rw [List.length_take, List.length_drop]
        omega
      refine slD_take (by omega) (slD_drop (by omega) (addD_ints ?_ ?_))
      · rw [List.length_take, List.length_drop]
        omega
      rw [e1, e2]
      refine ltD_ints (a := turn a j) (b := turn b j) (by omega) (by omega) ?_
      cases c : lexL (turn a j) (turn b j) with
      | true =>
        exact .here (by simpa [before, c] using k)
      | false =>
        simp only [Bool.false_eq_true, if_false]
        refine eqD_ints (s := turn a j) (a := turn b j) (by omega) (by omega) ?_
        by_cases c2 : turn a j = turn b j
        · rw [decide_eq_true c2]
          simp only [if_true]
          refine ixD_ints (k := (j : Int)) (by omega) (by rw [e1]; exact getD_some hj) ?_
          refine ixD_ints (k := (j : Int)) (by omega) (by rw [e1]; exact getD_some hjb) ?_
          rw [ltD_int]
          have e : before a b (some j) = decide (a.getD j 0 < b.getD j 0) := by
            show (lexL (turn a j) (turn b j) || (decide (turn a j = turn b j) && decide (a.getD j 0 < b.getD j 0))) = _
            rw [c, decide_eq_true c2, Bool.false_or, Bool.true_and]
          rw [e] at k
          exact .here k
        · rw [decide_eq_false c2]
          exact .here (by simpa [before, c, c2] using k)
theorem sc_law : FnScope ["_law_script", "_law_box", "_law_turn", "_law_width", "_law_a", "_law_b", "_law_k", "_law_place", "_law_found", "_law_due"] ["_law_script"] (defScope s_law) := ⟨rfl, rfl, rfl, by decide +kernel, rfl, by decide +kernel, by decide +kernel⟩
theorem ok_law {f : Addr} {fd : FuncData} (F : FunD K "law" "law" (defArgs s_law) (defBody s_law) (defScope s_law) [] [] f fd) (B : Bn mg) {a_precedes : Addr} {fd_precedes : FuncData} (G_precedes_d2 : FnR P w K mg base CX0 2 a_precedes (spD K (fun xs μ Q => (FS_prec) (xs ++ [.non]) μ Q))) (O_precedes : FnOk P w K mg base CX0 2 a_precedes fd_precedes ["one", "other", "last"] (spD K (FS_prec))) (kb_precedes_last : KBn K fd_precedes ["one", "other", "last"] 2 ["last"] (fun us ws => us ++ ws) (fun vs zs => vs ++ zs)) (g_precedes : Gd K mg "precedes" a_precedes) {a_law_begin : Addr} (G_law_begin : FnR P w K mg base CX0 1 a_law_begin (spD K (FS_begin))) (g_law_begin : Gd K mg "_law_begin" a_law_begin) {a_law_draw : Addr} (G_law_draw : FnR P w K mg base CX0 1 a_law_draw (spD K (FS_draw))) (g_law_draw : Gd K mg "_law_draw" a_law_draw) {a_law_any : Addr} (G_law_any : FnR P w K mg base CX0 2 a_law_any (spD K (FS_any))) (g_law_any : Gd K mg "_law_any" a_law_any) {a_law_same : Addr} (G_law_same : FnR P w K mg base CX0 20 a_law_same (spD K (FS_sameF))) (g_law_same : Gd K mg "_law_same" a_law_same) {a_law_some_bundle : Addr} (G_law_some_bundle : FnR P w K mg base CX0 2 a_law_some_bundle (spD K (FS_bundle))) (g_law_some_bundle : Gd K mg "_law_some_bundle" a_law_some_bundle) {a_law_before : Addr} (G_law_before : FnR P w K mg base CX0 1 a_law_before (spD K (FS_prec))) (g_law_before : Gd K mg "_law_before" a_law_before) : FnOk P w K mg base CX0 21 f fd ["_law_script"] (spD K (FS_law)) := by
  refine fnOkD F sc_law (fun cdv A outer st H E hr => ⟨_, (pss_cons (ps_set (i := 1) sc_law.nd rfl (by first | exact Or.inl rfl | exact Or.inr rfl) (pe_callR G_law_begin g_law_begin (hr.mono (by decide)) pass0 (pa_cons (pv 0) pa_nil)))
  (pss_cons (ps_for PassesOwn.never rfl (pi_range1 (by rfl) B.range_ (pa_cons pe_int pa_nil)) (pg_name (i := 2) sc_law.nd rfl (by first | exact Or.inl rfl | exact Or.inr rfl))
    (pss_cons (ps_set (i := 3) sc_law.nd rfl (by first | exact Or.inl rfl | exact Or.inr rfl) (pe_op (op_addK K rfl) pe_int (pe_callR G_law_draw g_law_draw (hr.mono (by decide)) pass0 (pa_cons (pv 1) (pa_cons pe_int pa_nil)))))
  (pss_cons (ps_par (i := 4) (j := 5) (by rfl) sc_law.nd rfl rfl (by decide) rfl rfl (pa_cons (pe_callR G_law_some_bundle g_law_some_bundle (hr.mono (by decide)) pass0 (pa_cons (pv 1) (pa_cons (pv 3) (pa_cons pe_int pa_nil)))) (pa_cons (pe_callR G_law_some_bundle g_law_some_bundle (hr.mono (by decide)) pass0 (pa_cons (pv 1) (pa_cons (pv 3) (pa_cons (pe_callR G_law_any g_law_any (hr.mono (by decide)) pass0 (pa_cons (pv 1) (pa_cons (pe_lst (pa_cons pe_int (pa_cons pe_int pa_nil))) pa_nil))) pa_nil)))) pa_nil)) (by rfl))
  (pss_cons (ps_if (pt_cmpR (op_eqK K rfl hr.units) (pe_callR G_law_draw g_law_draw (hr.mono (by decide)) pass0 (pa_cons (pv 1) (pa_cons pe_int pa_nil))) pe_int (nomark _)) (pss_cons (ps_set (i := 6) sc_law.nd rfl (by first | exact Or.inl rfl | exact Or.inr rfl) (pe_callR G_law_draw g_law_draw (hr.mono (by decide)) pass0 (pa_cons (pv 1) (pa_cons (pv 3) pa_nil))))
  (pss_one (ps_set (i := 5) sc_law.nd rfl (by first | exact Or.inl rfl | exact Or.inr rfl) (pe_op (op_addK K rfl) (pe_op (op_addK K rfl) (pe_slice (sl_K K rfl) (pv 4) po_none (po_some (pv 6))) (pe_tup (pa_cons (pe_op (op_addK K rfl) (pe_ix (ix_seqK K rfl) (pv 4) (pv 6) (fun _ _ => rfl)) (pe_callR G_law_draw g_law_draw (hr.mono (by decide)) pass0 (pa_cons (pv 1) (pa_cons pe_int pa_nil)))) pa_nil))) (pe_slice (sl_K K rfl) (pv 4) (po_some (pe_op (op_addK K rfl) (pv 6) pe_int)) po_none))))) pss_nil)
  (pss_cons (ps_for PassesOwn.never rfl (pi_seqK K rfl (pe_op (op_addK K rfl) (pe_lst (pa_cons pe_non pa_nil)) (pe_listRg (by rfl) (by rfl) B.list_ (prg_1 (by rfl) B.range_ (pv 3))))) (pg_name (i := 7) sc_law.nd rfl (by first | exact Or.inl rfl | exact Or.inr rfl))
    (pss_cons (ps_set (i := 8) sc_law.nd rfl (by first | exact Or.inl rfl | exact Or.inr rfl) (pe_lstM (pa_cons (pe_callN (ks := ["last"]) O_precedes (hr.mono (by decide)) rfl g_precedes.mg g_precedes.kp kb_precedes_last pass0 (pa_cons (pv 4) (pa_cons (pv 5) pa_nil)) (pk_cons (pv 7) pk_nil)) (pa_cons (pe_callN (ks := ["last"]) O_precedes (hr.mono (by decide)) rfl g_precedes.mg g_precedes.kp kb_precedes_last pass0 (pa_cons (pv 5) (pa_cons (pv 4) pa_nil)) (pk_cons (pv 7) pk_nil)) pa_nil))))
  (pss_cons (ps_expr (pe_appendK K rfl (pv 8) (pa_cons (pe_callN (ks := ["last"]) O_precedes (hr.mono (by decide)) rfl g_precedes.mg g_precedes.kp kb_precedes_last pass0 (pa_cons (pv 4) (pa_cons (pv 4) pa_nil)) (pk_cons (pv 7) pk_nil)) pa_nil)))
  (pss_cons (ps_set (i := 9) sc_law.nd rfl (by first | exact Or.inl rfl | exact Or.inr rfl) (pe_lst (pa_cons (pe_callR G_law_before g_law_before (hr.mono (by decide)) pass0 (pa_cons (pv 4) (pa_cons (pv 5) (pa_cons (pv 7) pa_nil)))) (pa_cons (pe_callR G_law_before g_law_before (hr.mono (by decide)) pass0 (pa_cons (pv 5) (pa_cons (pv 4) (pa_cons (pv 7) pa_nil)))) (pa_cons pe_bl pa_nil)))))
  (pss_one (ps_if (pt_not (pt_val (pe_callR G_law_same g_law_same (hr.mono (by decide)) pass0 (pa_cons (pv 8) (pa_cons (pv 9) pa_nil))))) (pss_one (ps_ret pe_bl)) pss_nil))))))
  (pss_one (ps_if (pt_not (pt_val (pe_callR G_law_same g_law_same (hr.mono (by decide)) pass0 (pa_cons (pe_callR G_precedes_d2 g_precedes (hr.mono (by decide)) pass0 (pa_cons (pv 4) (pa_cons (pv 5) pa_nil))) (pa_cons (pe_callR G_law_before g_law_before (hr.mono (by decide)) pass0 (pa_cons (pv 4) (pa_cons (pv 5) (pa_cons pe_non pa_nil)))) pa_nil))))) (pss_one (ps_ret pe_bl)) pss_nil)))))))
  (pss_one (ps_ret (pe_and (pe_callR G_precedes_d2 g_precedes (hr.mono (by decide)) pass0 (pa_cons (pe_tup (pa_cons pe_int (pa_cons pe_int pa_nil))) (pa_cons (pe_tup (pa_cons pe_int (pa_cons pe_int pa_nil))) pa_nil))) (pe_one (pe_callN (ks := ["last"]) O_precedes (hr.mono (by decide)) rfl g_precedes.mg g_precedes.kp kb_precedes_last pass0 (pa_cons (pe_tup (pa_cons pe_int (pa_cons pe_int pa_nil))) (pa_cons (pe_tup (pa_cons pe_int (pa_cons pe_int pa_nil))) pa_nil)) (pk_cons pe_int pk_nil)))))))), by exact inferInstance⟩) ?_ ?_
  · intro ds μ Q h
    obtain ⟨_, rfl, _⟩ := h
    rfl
  · intro ds μ Q h
    obtain ⟨ns, rfl, k⟩ := h
    simp only [dSeq, dIf, dAsg, dRet, dRetN, dDrop, dNext, dVar, dC, dOp, dUn, dCB, dCons, dNil, dTup, dLst, dLstM, dName, dB, dAnd, dOr, dNot, dAndV, dOrV, dNotV, dIfE, onB, look, env0_cons, env0_nil, dIsN, dNotN, isN, DEnds.sq, DEnds.lp, List.map_cons, List.map_nil, List.cons_append, List.nil_append, List.set_cons_zero, List.set_cons_succ, List.replicate_succ, List.replicate_zero, List.length_cons, List.length_nil]
    refine ⟨ns, rfl, fun b xs nb hx => ⟨⟨by decide, by decide⟩, ?_⟩⟩
    refine forD_inv (fun r η μ' => ∃ x2 x3 x4 x5 x6 x7 x8 x9, η = [some (.scr ns), some (.cell b), x2, x3, x4, x5, x6, x7, x8, x9] ∧ HasBox b μ') ?_ ?_ _ _ _ ⟨none, none, none, none, none, none, none, none, rfl, xs, mget_head, hx⟩
    · rintro η μ' ⟨x2, x3, x4, x5, x6, x7, x8, x9, rfl, hy⟩
      refine ⟨(by first | decide | (simp only [List.length_cons, List.length_nil]; decide)), (by first | decide | (simp only [List.length_cons, List.length_nil]; decide)), [0, 5], [1, 4], none, rfl, ⟨rfl, by decide, fun _ h => nomatch h⟩, ?_⟩
      refine ⟨(by first | decide | (simp only [List.length_cons, List.length_nil]; decide)), (by first | decide | (simp only [List.length_cons, List.length_nil]; decide)), rfl, rfl, [9, 0], [0, 1], some 0, rfl, ⟨rfl, by decide, fun k h => by cases h; decide⟩, ?_⟩
      exact .here (k _ _ rfl)
    · rintro x r η μ' N ⟨x2, x3, x4, x5, x6, x7, x8, x9, rfl, hy⟩ hN
      refine ⟨b, 4, rfl, by decide, by decide, hy, ?_⟩
      rintro d ys ⟨n, rfl, n0, n1⟩ bx
      have hy1 := hy.put bx
      generalize mput b (.lst ys) μ' = μ1 at hy1 ⊢
      refine ⟨b, 1 + n, 4, rfl, by omega, by omega, by decide, by decide, hy1, ?_⟩
      rintro d ys ⟨a, rfl, al, am⟩ bx
      have hy2 := hy1.put bx
      generalize mput b (.lst ys) μ1 = μ2 at hy2 ⊢
      refine ⟨(by first | decide | (simp only [List.length_cons, List.length_nil]; decide)), b, .lst [.int 4, .int 60], [.int 4, .int 60], rfl, rfl, fun _ => rfl, by simp, by decide, hy2, ?_⟩
      rintro d ys hd bx
      have hy3 := hy2.put bx
      generalize mput b (.lst ys) μ2 = μ3 at hy3 ⊢
      obtain ⟨cap, rfl, c0, c1⟩ : ∃ cap, d = D.int cap ∧ 0 ≤ cap ∧ cap ≤ 60 := by
        rcases List.mem_cons.mp hd with rfl | hd
        · exact ⟨4, rfl, by decide, by decide⟩
        · rw [List.mem_singleton.mp hd]
          exact ⟨60, rfl, by decide, by decide⟩
      refine ⟨b, 1 + n, cap, rfl, by omega, by omega, c0, by omega, hy3, ?_⟩
      rintro d ys ⟨c, rfl, cl, cm⟩ bx
      have hy4 := hy3.put bx
      generalize mput b (.lst ys) μ3 = μ4 at hy4 ⊢
      dsimp only [dNil, DEnds.sq]
      refine dSeq_by (fun η μ => ∃ (c : List Int) (x6 : Option D), η = [some (.scr ns), some (.cell b), some x, some (.int (1 + n)), some (.tup (a.map D.int)), some (.tup (c.map D.int)), x6, x7, x8, x9] ∧ c.length = a.length ∧ HasBox b μ) (fun N2 hN2 => ?_) ?_
      · refine ⟨b, 2, rfl, by decide, by decide, hy4, ?_⟩
        rintro d ys ⟨q, rfl, q0, q1⟩ bx
        have hy5 := hy4.put bx
        generalize mput b (.lst ys) μ4 = μ5 at hy5 ⊢
        by_cases cq : q = 0
        · subst cq
          refine ⟨rfl, rfl, ?_⟩
          refine ⟨b, 1 + n, rfl, by omega, by omega, hy5, ?_⟩
          rintro d ys ⟨p, rfl, p0, p1⟩ bx
          have hy6 := hy5.put bx
          generalize mput b (.lst ys) μ5 = μ6 at hy6 ⊢
          have hp : p.toNat < a.length := by omega
          simp only [dSeq, dIf, dAsg, dRet, dRetN, dDrop, dNext, dVar, dC, dOp, dUn, dCB, dCons, dNil, dTup, dLst, dLstM, dName, dB, dAnd, dOr, dNot, dAndV, dOrV, dNotV, dIfE, onB, look, env0_cons, env0_nil, dIsN, dNotN, isN, DEnds.sq, DEnds.lp, List.map_cons, List.map_nil, List.cons_append, List.nil_append, List.set_cons_zero, List.set_cons_succ, List.replicate_succ, List.replicate_zero, List.length_cons, List.length_nil, dSl, dNoPart, dPart]
          refine slD_take p0 ?_
          refine ixD_ints p0 (getD_some hp) ?_
          refine ⟨b, 2, rfl, by decide, by decide, hy6, ?_⟩
          rintro d ys ⟨u, rfl, u0, u1⟩ bx
          have hy7 := hy6.put bx
          generalize mput b (.lst ys) μ6 = μ7 at hy7 ⊢
          rw [addD_int]
          refine ⟨(by first | decide | (simp only [List.length_cons, List.length_nil]; decide)), ?_⟩
          refine addD_ints (b := [_]) ?_ ?_
          · rw [List.length_take, List.length_singleton]
            omega
          rw [addD_int]
          refine slD_drop (by omega) (addD_ints ?_ ?_)
          · rw [List.length_append, List.length_take, List.length_singleton, List.length_drop]
            omega
          refine hN2 _ _ ⟨_, _, rfl, ?_, hy7⟩
          rw [List.length_append, List.length_append, List.length_take, List.length_singleton, List.length_drop]
          omega
        · refine ⟨rfl, rfl, ?_⟩
          have e : eqB μ5 (.int q) (.int 0) = false := by
            simp [eqB, der, toP, PyData.eqv, cq]
          rw [e]
          exact hN2 _ _ ⟨c, _, rfl, by omega, hy5⟩
      rintro η μ' ⟨c, x6, rfl, cl, hy⟩
      have two : ∀ o, (∀ k, o = some k → k < a.length) → Two a c o := fun o h => ⟨cl.symm, by omega, h⟩
      have two' : ∀ o, (∀ k, o = some k → k < a.length) → Two c a o := fun o h => ⟨cl, by omega, fun k hk => by have := h k hk; omega⟩
      have two2 : ∀ o, (∀ k, o = some k → k < a.length) → Two a a o := fun o h => ⟨rfl, by omega, h⟩
      have no : ∀ k : Nat, (none : Option Nat) = some k → k < a.length := fun _ h => nomatch h
      refine ⟨(by first | decide | (simp only [List.length_cons, List.length_nil]; decide)), RgOk.of_le (by decide) (by omega) (by decide) (by omega), [.non], _, rfl, rfl, ?_, ?_⟩
      · rw [List.length_map, List.length_range]
        exact size3 (by simp; omega)
      refine forD_inv (fun r η μ' => (∀ x ∈ r, ∃ o, x = optD o ∧ ∀ k, o = some k → k < a.length) ∧ ∃ x7 x8 x9, η = [some (.scr ns), some (.cell b), some x, some (.int (1 + n)), some (.tup (a.map D.int)), some (.tup (c.map D.int)), x6, x7, x8, x9] ∧ HasBox b μ') ?_ ?_ _ _ _ ⟨?_, _, _, _, rfl, hy⟩
      · rintro η μ' ⟨_, x7, x8, x9, rfl, hy⟩
        exact ⟨a, c, none, rfl, two _ no, a, c, none, rfl, two _ no, _, _, .bl _, rfl, rfl, rfl, plain_bl, hN _ _ ⟨_, _, _, _, _, _, _, _, rfl, hy⟩⟩
      · rintro x r η μ' N3 ⟨hr, x7, x8, x9, rfl, hy⟩ hN3
        obtain ⟨o, rfl, ho⟩ := hr x List.mem_cons_self
        refine ⟨rfl, rfl, a, c, o, rfl, two o ho, rfl, rfl, c, a, o, rfl, two' o ho, (by first | decide | (simp only [List.length_cons, List.length_nil]; decide)), fun f nf => ?_⟩
        refine ⟨⟨_, mget_head⟩, rfl, rfl, a, a, o, rfl, two2 o ho, _, _, rfl, mget_head, (by first | decide | (simp only [List.length_cons, List.length_nil]; decide)), ?_⟩
        rw [mput_one]
        refine ⟨a, c, o, rfl, two o ho, c, a, o, rfl, two' o ho, (by first | decide | (simp only [List.length_cons, List.length_nil]; decide)), ?_⟩
        refine ⟨_, _, .lst [.bl (before a c o), .bl (before c a o), .bl false], rfl, ?_, rfl, plain_lst_of (by first | decide | (simp only [List.length_cons, List.length_nil]; decide)) ?_, ?_⟩
        · rw [der_head, before_self]
          rfl
        · rw [plains_cons, plains_cons, plains_cons, plains_nil, plain_bl, plain_bl, plain_bl]
          rfl
        exact hN3 _ _ ⟨fun y hy => hr y (List.mem_cons_of_mem _ hy), _, _, _, rfl, hy.cons nf⟩
      · intro y hy
        rcases List.mem_append.mp hy with h | h
        · rw [List.mem_singleton.mp h]
          exact ⟨none, rfl, no⟩
        · obtain ⟨i, hi, rfl⟩ := List.mem_map.mp h
          refine ⟨some i, rfl, fun k hk => ?_⟩
          cases hk
          have := List.mem_range.mp hi
          omega
end
def dd_rank : He.DefD := ⟨("rank", none), "rank", "rank", defArgs s_rank, defBody s_rank, defScope s_rank, [.non], []⟩
def dd_precedes : He.DefD := ⟨("precedes", none), "precedes", "precedes", defArgs s_precedes, defBody s_precedes, defScope s_precedes, [], [("last", .non)]⟩
def dd_law_begin : He.DefD := ⟨("_law_begin", none), "_law_begin", "_law_begin", defArgs s_law_begin, defBody s_law_begin, defScope s_law_begin, [], []⟩
def dd_law_draw : He.DefD := ⟨("_law_draw", none), "_law_draw", "_law_draw", defArgs s_law_draw, defBody s_law_draw, defScope s_law_draw, [], []⟩
def dd_law_any : He.DefD := ⟨("_law_any", none), "_law_any", "_law_any", defArgs s_law_any, defBody s_law_any, defScope s_law_any, [], []⟩
def dd_law_same : He.DefD := ⟨("_law_same", none), "_law_same", "_law_same", defArgs s_law_same, defBody s_law_same, defScope s_law_same, [], []⟩
def dd_law_some_bundle : He.DefD := ⟨("_law_some_bundle", none), "_law_some_bundle", "_law_some_bundle", defArgs s_law_some_bundle, defBody s_law_some_bundle, defScope s_law_some_bundle, [], []⟩
def dd_law_before : He.DefD := ⟨("_law_before", none), "_law_before", "_law_before", defArgs s_law_before, defBody s_law_before, defScope s_law_before, [], []⟩
def dd_law : He.DefD := ⟨("law", none), "law", "law", defArgs s_law, defBody s_law, defScope s_law, [], []⟩
def fn : List He.DefD := [dd_rank, dd_precedes, dd_law_begin, dd_law_draw, dd_law_any, dd_law_same, dd_law_some_bundle, dd_law_before, dd_law]
def fa : List He.Fa := [.glo "rank", .glo "precedes", .glo "_law_begin", .glo "_law_draw", .glo "_law_any", .glo "_law_same", .glo "_law_some_bundle", .glo "_law_before", .glo "law", .free "all", .free "bool", .free "int", .free "isinstance", .free "len", .free "list", .free "range", .free "str", .free "sum", .free "tuple", .free "zip"]
abbrev R : PySem.W.OpenRow := PySem.W.OpenLaw.row PySem.Challenge.rw_evenbarter_k02_order_of_bundles
abbrev hk : PySem.W.Hook := He.hookD 4 fa fn
def ob (s : PySem.W.SharedT) : He.AlD := He.obsDG 4 fa fn (HandSHeadRun.getT s)
theorem ob_eq (s : PySem.W.SharedT) : ob s = hk.obs s.abs := He.obsDG_eq (HandSHeadRun.getT_eq s)
def loose : List Str := (["rank", "precedes", "_law_begin", "_law_draw", "_law_any", "_law_same", "_law_some_bundle", "_law_before"] : List Str)
theorem run (w : World) : HandSHeadRun.RunEq R (PySem.W.view R.prog [10]) hk ob 4000 loose w := by
  intro os
  kernel_rfl
theorem facts {P : Program} {w : World} {K : PySem.W.Frag} {h : Heap} {mg : Str → Option Value} {f : Addr} (X : K.In h) (G : h.Ns mainGlobals mg) (hfa : mg ("law" : Str) = some (.ref f)) (c : He.SaysD fa fn K) :
    ∃ fd : FuncData, (∀ (s : Shared) (v : Value), BindsTo s fd ⟨[v], []⟩ [("_law_script", v)]) ∧ ∀ base : Heap, K.In base → base.Ns mainGlobals mg → FnOk P w K mg base CX0 21 f fd ["_law_script"] (spD K FS_law) := by
  obtain ⟨fd_rank, F_rank⟩ := c.def_ 0 (d := dd_rank) rfl
  have g_rank : Gd K mg "rank" (He.ga K "rank") := ⟨He.glo_ok X G (c.fact 0 (f := .glo "rank") rfl), F_rank.kp⟩
  obtain ⟨fd_precedes, F_precedes⟩ := c.def_ 1 (d := dd_precedes) rfl
  have g_precedes : Gd K mg "precedes" (He.ga K "precedes") := ⟨He.glo_ok X G (c.fact 1 (f := .glo "precedes") rfl), F_precedes.kp⟩
  obtain ⟨fd_law_begin, F_law_begin⟩ := c.def_ 2 (d := dd_law_begin) rfl
  have g_law_begin : Gd K mg "_law_begin" (He.ga K "_law_begin") := ⟨He.glo_ok X G (c.fact 2 (f := .glo "_law_begin") rfl), F_law_begin.kp⟩
  obtain ⟨fd_law_draw, F_law_draw⟩ := c.def_ 3 (d := dd_law_draw) rfl
  have g_law_draw : Gd K mg "_law_draw" (He.ga K "_law_draw") := ⟨He.glo_ok X G (c.fact 3 (f := .glo "_law_draw") rfl), F_law_draw.kp⟩
  obtain ⟨fd_law_any, F_law_any⟩ := c.def_ 4 (d := dd_law_any) rfl
  have g_law_any : Gd K mg "_law_any" (He.ga K "_law_any") := ⟨He.glo_ok X G (c.fact 4 (f := .glo "_law_any") rfl), F_law_any.kp⟩
  obtain ⟨fd_law_same, F_law_same⟩ := c.def_ 5 (d := dd_law_same) rfl
  have g_law_same : Gd K mg "_law_same" (He.ga K "_law_same") := ⟨He.glo_ok X G (c.fact 5 (f := .glo "_law_same") rfl), F_law_same.kp⟩
  obtain ⟨fd_law_some_bundle, F_law_some_bundle⟩ := c.def_ 6 (d := dd_law_some_bundle) rfl
  have g_law_some_bundle : Gd K mg "_law_some_bundle" (He.ga K "_law_some_bundle") := ⟨He.glo_ok X G (c.fact 6 (f := .glo "_law_some_bundle") rfl), F_law_some_bundle.kp⟩
  obtain ⟨fd_law_before, F_law_before⟩ := c.def_ 7 (d := dd_law_before) rfl
  have g_law_before : Gd K mg "_law_before" (He.ga K "_law_before") := ⟨He.glo_ok X G (c.fact 7 (f := .glo "_law_before") rfl), F_law_before.kp⟩
  obtain ⟨fd_law, F_law⟩ := c.def_ 8 (d := dd_law) rfl
  have e := hfa.symm.trans (He.glo_ok X G (c.fact 8 (f := .glo "law") rfl))
  cases e
  have B : Bn mg := ⟨He.free_ok X G (c.fact 9 (f := .free "all") rfl), He.free_ok X G (c.fact 10 (f := .free "bool") rfl), He.free_ok X G (c.fact 11 (f := .free "int") rfl), He.free_ok X G (c.fact 12 (f := .free "isinstance") rfl), He.free_ok X G (c.fact 13 (f := .free "len") rfl), He.free_ok X G (c.fact 14 (f := .free "list") rfl), He.free_ok X G (c.fact 15 (f := .free "range") rfl), He.free_ok X G (c.fact 16 (f := .free "str") rfl), He.free_ok X G (c.fact 17 (f := .free "sum") rfl), He.free_ok X G (c.fact 18 (f := .free "tuple") rfl), He.free_ok X G (c.fact 19 (f := .free "zip") rfl)⟩
  have bl := FunD.bindsA (ps := ["_law_script"]) F_law fun _ _ _ _ _ _ us hl => match us, hl with | [_], _ => rfl
  refine ⟨fd_law, fun s v => bl s [v] rfl, fun base _ _ => ?_⟩
  have O_rank := ok_rank (P := P) (w := w) (base := base) F_rank B 
  obtain ⟨ds_rank, hv_rank, b_rank⟩ := F_rank.binds1 (ps := ["bundle", "last"]) 2 1 (by simp [He.DefD.dvs, dd_rank]) rfl (fun T kV doc pm an cdv ct us its h1 h2 => match us, its, h1, h2 with | [_, _], [_], _, _ => ⟨_, rfl, rfl⟩)
  have hz_rank : Vals [] ds_rank := hv_rank
  cases hz_rank
  have G_rank := fnR_all O_rank b_rank
  have O_precedes := ok_precedes (P := P) (w := w) (base := base) F_precedes B G_rank g_rank
  obtain ⟨ds_precedes_d2, hv_precedes_d2, b_precedes_d2⟩ := FunD.binds0 (ps := ["one", "other", "last"]) F_precedes 2 (by simp [He.DefD.kws, dd_precedes]) rfl (fun D doc pm an cdv ct us ks h1 h2 => match us, ks, h1, h2 with | [_, _], [_], _, _ => ⟨_, _, _, _, _, _, rfl, rfl, rfl⟩)
  have G_precedes_d2 := fnR_dfl (es := [.non]) O_precedes hv_precedes_d2 b_precedes_d2 (fun _ _ _ => .cons (.non) (.nil))
  have kb_precedes_last := kbn_app (ps := ["one", "other", "last"]) (ks := ["last"]) (n := 2) F_precedes (fun kV doc pm an cdv ct us ws h1 h2 => match us, ws, h1, h2 with | [_, _], [_], _, _ => rfl)
  have G_law_begin := ok_law_begin (P := P) (w := w) (base := base) F_law_begin B 
  have G_law_draw := ok_law_draw (P := P) (w := w) (base := base) F_law_draw B 
  have G_law_any := ok_law_any (P := P) (w := w) (base := base) F_law_any B G_law_draw g_law_draw
  have G_law_same := ok_law_same (P := P) (w := w) (base := base) F_law_same B g_law_same  20
  have G_law_same := fn_same G_law_same
  have G_law_some_bundle := ok_law_some_bundle (P := P) (w := w) (base := base) F_law_some_bundle B G_law_draw g_law_draw
  have G_law_before := ok_law_before (P := P) (w := w) (base := base) F_law_before B 
  have G_law := ok_law (P := P) (w := w) (base := base) F_law B G_precedes_d2 O_precedes kb_precedes_last g_precedes G_law_begin g_law_begin G_law_draw g_law_draw G_law_any g_law_any G_law_same g_law_same G_law_some_bundle g_law_some_bundle G_law_before g_law_before
  exact G_law
end Lw
open PySem PySem.W PySem.Calls PyProof.Rows in
theorem PySem.Challenge.cw_evenbarter_k02_order_of_bundles_holds : PySem.Challenge.rw_evenbarter_k02_order_of_bundles.Holds := by
  w_on; o_law
  refine HandSHeadRun.head_any (r := OpenLaw.row PySem.Challenge.rw_evenbarter_k02_order_of_bundles) (q := view (OpenLaw.row PySem.Challenge.rw_evenbarter_k02_order_of_bundles).prog [10]) (H := Lw.hk) (ob := Lw.ob) (M := 4000) (loose := Lw.loose) (d := HandSHeadRun.topDef (OpenLaw.row PySem.Challenge.rw_evenbarter_k02_order_of_bundles).prog 10) (kwd := []) Lw.ob_eq
    (by kernel_rfl) (fun s => by kernel_rfl) Lw.run (by kernel_rfl) (by kernel_rfl) (by kernel_rfl) (by rfl) (by first | assumption | decide +kernel) (by decide +kernel) ⟨rfl, rfl, rfl, rfl, rfl, by decide +kernel⟩ ?hw ?hc
  case hw => w_witness2
  case hc =>
    refine L2.walk_ofE (l := PySem.Challenge.rw_evenbarter_k02_order_of_bundles) (n := 63) (k := 21) (x := "_law_script") (CX := L2.CX0) rfl (by decide) (by kernel_rfl) ⟨rfl, by decide, by decide⟩ ?F (fun _ _ _ _ z => z)
    intro w mg fa h Y G hmg0
    obtain ⟨K, KX, c⟩ := Y
    have hmg : mg ("law" : PySem.Str) = some (.ref fa) := by
      have e : (HandSHeadRun.topDef (OpenLaw.row PySem.Challenge.rw_evenbarter_k02_order_of_bundles).prog 10).name = ("law" : PySem.Str) := by kernel_rfl
      rw [← e]
      exact hmg0
    obtain ⟨fd, hb, hF⟩ := Lw.facts (P := (PySem.Challenge.rw_evenbarter_k02_order_of_bundles).prog) (w := w) KX G hmg c
    exact ⟨K, fd, DL.spD K DL.FS_law, KX, hb, fun H a ns hl _ hS => DL.law_sp hS, hF⟩
#print axioms PySem.Challenge.cw_evenbarter_k02_order_of_bundles_holds

