import PyProof.Rows.All
import Wide.All
import OpenK.AllK
import Wide.FinOn
import HandS.ForMost
import HandS.Zip
import HandS.Star
import HandS.TupAny
import HandS.TupMul
import HandS.NoneIn
import HandS.IsInst
import HandS.Walk
import HandS.Exc
import HandS.WordsExc
import HandS.HeadHook1
import KE.LtData
import KE.KTupSum
import PyProof.StrOps2
import PyProof.PureStr
import HandS.Wide
import HandS.Defaults
import HandS.More
import HandS.Style
import HandS.Conv
import HandS.Property
import HandS.Flow
import HandS.ClsMeth
import HandS.Head0
import HandS.Head1
import HandS.Head2
import HandS.HeadEnd
import HandS.HeadHook2
import HandS.HeadHook3
import HandS.HeadNt
import PyProof.ZipIter
import PyProof.EnumMake
import HandS.Deep
import HandS.Text
import HandS.RaiseMore
import HandS.NamedTupGet
import HandS.FStr
import HandS.Codes
import PySem.Challenge.RW_evenbarter_k09_texts_of_bundles
set_option Elab.async false
set_option linter.all false
set_option maxRecDepth 100000
set_option maxHeartbeats 4000000
set_option synthInstance.maxHeartbeats 4000000
set_option synthInstance.maxSize 100000
/-! Data and a store: what a program does, as functions that can be run. -/
namespace DX
open PySem L2

/-! ### data -/
inductive D where
  | non
  | bl (b : Bool)
  | int (i : Int)
  | str (s : Str)
  | ty (n : String)
  | cls (c : Str)
  | fn (c : Str)
  | tup (xs : List D)
  | lst (xs : List D)
  | cell (i : Nat)
  | obj (c : Str) (ns : List Str) (ds : List D)
  | scr (ns : List Int)
  | dK (ks : List Key) (ds : List D)
  | dT (ks : List (List Key)) (ds : List D)
instance : Inhabited D := ⟨.non⟩
/-- things that may change -/
inductive MO where
  | lst (xs : List D)
  | ins (c : Str) (ns : List Str) (ds : List D)
  | dK (ks : List Key) (ds : List D)
  | dT (ks : List (List Key)) (ds : List D)
instance : Inhabited MO := ⟨.lst []⟩
abbrev Mu := List MO

/-- a list of the script's: it stands as it is -/
def SqM (K : PySem.W.Frag) (M : List Addr) (H : Hp) (a : Addr) (xs : List V) : Prop :=
  (a ∉ M ∧ Rd H a (.lst xs)) ∨ ∃ (o : Obj) (its : Array Value) (n : Nat), K.lookup a = some o ∧ o.cls = .type "list" ∧ o.dict = none ∧ o.data = .seq its n ∧ its.size ≤ sizeLine ∧ Vals xs its.toList
theorem SqM.sq {K : PySem.W.Frag} {M : List Addr} {H : Hp} {a : Addr} {xs : List V} (h : SqM K M H a xs) : SqL K H a xs := by
  rcases h with ⟨_, h⟩ | h
  · exact .inl h
  · exact .inr h
theorem SqM.of {K : PySem.W.Frag} {H : Hp} {a : Addr} {xs : List V} (h : SqL K H a xs) : SqM K [] H a xs := by
  rcases h with h | h
  · exact .inl ⟨List.not_mem_nil, h⟩
  · exact .inr h
mutual
/-- the value v is the datum d in the heap H; ρ: the addresses of what may change, F: what is kept aside -/
inductive Dt (K : PySem.W.Frag) (F ρ : List Addr) (H : Hp) : V → D → Prop
  | non : Dt K F ρ H .non .non
  | bl (b : Bool) : Dt K F ρ H (.bl b) (.bl b)
  | int (i : Int) : Dt K F ρ H (.int i) (.int i)
  | str (x : Str) : Dt K F ρ H (.str x) (.str x)
  | ty (n : String) : Dt K F ρ H (.ty n) (.ty n)
  | cls (c : Str) : Dt K F ρ H (.ref (He.ga K c)) (.cls c)
  | fn (c : Str) : Dt K F ρ H (.ref (He.ga K c)) (.fn c)
  | tup {a : Addr} {vs : List V} {xs : List D} : a ∉ F ++ ρ → H a = some (.tup vs) → DtAll K F ρ H vs xs → Dt K F ρ H (.ref a) (.tup xs)
  | lst {a : Addr} {vs : List V} {xs : List D} : a ∉ F ++ ρ → H a = some (.lst vs) → DtAll K F ρ H vs xs → Dt K F ρ H (.ref a) (.lst xs)
  | cell {i : Nat} {a : Addr} : ρ[i]? = some a → Dt K F ρ H (.ref a) (.cell i)
  | obj {a dx : Addr} {c : Str} {ns : List Str} {vs : List V} {ds : List D} : a ∉ F ++ ρ → H a = some (.ins (He.ga K c) dx (ns.zip vs)) → ns.length = vs.length → DtAll K F ρ H vs ds → Dt K F ρ H (.ref a) (.obj c ns ds)
  | scr {a : Addr} {ns : List Int} : SqM K (F ++ ρ) H a (ns.map V.int) → Dt K F ρ H (.ref a) (.scr ns)
  | dK {a : Addr} {ks : List Key} {vs : List V} {ds : List D} : a ∉ F ++ ρ → H a = some (.dK (ks.zip vs)) → ks.length = vs.length → DtAll K F ρ H vs ds → Dt K F ρ H (.ref a) (.dK ks ds)
  | dT {a : Addr} {ks : List (List Key)} {vs : List V} {ds : List D} : a ∉ F ++ ρ → H a = some (.dT (ks.zip vs)) → ks.length = vs.length → DtAll K F ρ H vs ds → Dt K F ρ H (.ref a) (.dT ks ds)
inductive DtAll (K : PySem.W.Frag) (F ρ : List Addr) (H : Hp) : List V → List D → Prop
  | nil : DtAll K F ρ H [] []
  | cons {v : V} {vs : List V} {d : D} {ds : List D} : Dt K F ρ H v d → DtAll K F ρ H vs ds → DtAll K F ρ H (v :: vs) (d :: ds)
end

/-! ### growing -/
structure Grow (ρ ρ' : List Addr) (H H' : Hp) : Prop where
  keep : ∀ x o, x ∉ ρ → H x = some o → H' x = some o
  ext : ∃ t, ρ' = ρ ++ t
  new : ∀ x, x ∈ ρ' → x ∉ ρ → H x = none
theorem Grow.refl (ρ : List Addr) (H : Hp) : Grow ρ ρ H H := ⟨fun _ _ _ h => h, ⟨[], by simp⟩, fun _ h n => absurd h n⟩
theorem Grow.sub {ρ ρ' : List Addr} {H H' : Hp} (g : Grow ρ ρ' H H') : ∀ x, x ∈ ρ → x ∈ ρ' := fun x h => by
  obtain ⟨t, e⟩ := g.ext
  rw [e]
  exact List.mem_append_left _ h
theorem Grow.at_ {ρ ρ' : List Addr} {H H' : Hp} (g : Grow ρ ρ' H H') {i : Nat} {a : Addr} (h : ρ[i]? = some a) : ρ'[i]? = some a := by
  obtain ⟨t, e⟩ := g.ext
  rw [e, List.getElem?_append_left]
  · exact h
  · exact (List.getElem?_eq_some_iff.mp h).1
theorem Grow.stays {ρ ρ' : List Addr} {H H' : Hp} (g : Grow ρ ρ' H H') {x : Addr} {o : HO} (n : x ∉ ρ) (h : H x = some o) : x ∉ ρ' := fun z => by
  rw [g.new x z n] at h
  cases h
theorem Grow.trans {ρ ρ1 ρ2 : List Addr} {H H1 H2 : Hp} (g : Grow ρ ρ1 H H1) (k : Grow ρ1 ρ2 H1 H2) : Grow ρ ρ2 H H2 where
  keep := fun x o n h => k.keep x o (g.stays n h) (g.keep x o n h)
  ext := by
    obtain ⟨t, e⟩ := g.ext
    obtain ⟨u, e'⟩ := k.ext
    exact ⟨t ++ u, by rw [e', e, List.append_assoc]⟩
  new := fun x h n => by
    cases e : H x with
    | none => rfl
    | some o =>
      have h1 := k.new x h (g.stays n e)
      rw [g.keep x o n e] at h1
      cases h1
theorem Grow.free {ρ ρ' : List Addr} {H H' : Hp} (g : Grow ρ ρ' H H') {p : Addr} (n : p ∉ ρ) (h : H' p = none) : H p = none := by
  cases e : H p with
  | none => rfl
  | some o =>
    rw [g.keep p o n e] at h
    cases h
theorem Grow.fresh {ρ : List Addr} {H : Hp} {p : Addr} {o : HO} (h : H p = none) : Grow ρ ρ H (upd H p o) :=
  ⟨fun x u _ e => by rw [upd_ne (ne_of_none e h)]; exact e, ⟨[], by simp⟩, fun _ h n => absurd h n⟩
theorem Grow.add {ρ : List Addr} {H : Hp} {p : Addr} {o : HO} (h : H p = none) : Grow ρ (ρ ++ [p]) H (upd H p o) where
  keep := fun x u _ e => by rw [upd_ne (ne_of_none e h)]; exact e
  ext := ⟨[p], rfl⟩
  new := fun x hx n => by
    rcases List.mem_append.mp hx with z | z
    · exact absurd z n
    · rw [List.mem_singleton.mp z]; exact h
theorem Grow.put {ρ : List Addr} {H : Hp} {a : Addr} {o : HO} (h : a ∈ ρ) : Grow ρ ρ H (upd H a o) where
  keep := fun x u n e => by rw [upd_ne (fun z => n (by rw [z]; exact h))]; exact e
  ext := ⟨[], by simp⟩
  new := fun x hx n => absurd hx n
theorem Grow.sq {K : PySem.W.Frag} {ρ ρ' : List Addr} {H H' : Hp} (g : Grow ρ ρ' H H') {a : Addr} {xs : List V} (h : SqM K ρ H a xs) : SqM K ρ' H' a xs := by
  rcases h with ⟨n, h | ⟨o, h⟩⟩ | h
  · exact .inl ⟨g.stays n h, .inl (g.keep _ _ n h)⟩
  · exact .inl ⟨g.stays n h, .inr ⟨o, g.keep _ _ n h⟩⟩
  · exact .inr h
theorem not_app {a : Addr} {F M : List Addr} (h : a ∉ F ++ M) : a ∉ F ∧ a ∉ M := ⟨fun z => h (List.mem_append_left _ z), fun z => h (List.mem_append_right _ z)⟩
theorem app_not {a : Addr} {F M : List Addr} (h : a ∉ F) (k : a ∉ M) : a ∉ F ++ M := fun z => (List.mem_append.mp z).elim h k
/-- from one heap to another: what stands off F and ρ stands there too -/
structure Move (F ρ F' ρ' : List Addr) (H H' : Hp) : Prop where
  keep : ∀ a o, a ∉ F ++ ρ → H a = some o → a ∉ F' ++ ρ' ∧ H' a = some o
  at_ : ∀ (i : Nat) (a : Addr), ρ[i]? = some a → ρ'[i]? = some a
theorem Dt.move {K : PySem.W.Frag} {F ρ F' ρ' : List Addr} {H H' : Hp} (g : Move F ρ F' ρ' H H') : ∀ {v : V} {d : D}, Dt K F ρ H v d → Dt K F' ρ' H' v d := by
  intro v d h
  refine Dt.rec (motive_1 := fun v d _ => Dt K F' ρ' H' v d) (motive_2 := fun vs ds _ => DtAll K F' ρ' H' vs ds) ?_ ?_ ?_ ?_ ?_ ?_ ?_ ?_ ?_ ?_ ?_ ?_ ?_ ?_ ?_ ?_ h
  · exact .non
  · exact .bl
  · exact .int
  · exact .str
  · exact .ty
  · exact .cls
  · exact .fn
  · intro a vs xs n e _ ih
    exact .tup (g.keep _ _ n e).1 (g.keep _ _ n e).2 ih
  · intro a vs xs n e _ ih
    exact .lst (g.keep _ _ n e).1 (g.keep _ _ n e).2 ih
  · intro i a e
    exact .cell (g.at_ _ _ e)
  · intro a dx c ns vs ds n e l _ ih
    exact .obj (g.keep _ _ n e).1 (g.keep _ _ n e).2 l ih
  · intro a ns e
    refine .scr ?_
    rcases e with ⟨n, e | ⟨o, e⟩⟩ | e
    · exact .inl ⟨(g.keep _ _ n e).1, .inl (g.keep _ _ n e).2⟩
    · exact .inl ⟨(g.keep _ _ n e).1, .inr ⟨o, (g.keep _ _ n e).2⟩⟩
    · exact .inr e
  · intro a ks vs ds n e l _ ih
    exact .dK (g.keep _ _ n e).1 (g.keep _ _ n e).2 l ih
  · intro a ks vs ds n e l _ ih
    exact .dT (g.keep _ _ n e).1 (g.keep _ _ n e).2 l ih
  · exact .nil
  · intro v vs d ds _ _ h1 h2
    exact .cons h1 h2
theorem DtAll.move {K : PySem.W.Frag} {F ρ F' ρ' : List Addr} {H H' : Hp} (g : Move F ρ F' ρ' H H') : ∀ {vs : List V} {ds : List D}, DtAll K F ρ H vs ds → DtAll K F' ρ' H' vs ds
  | _, _, .nil => .nil
  | _, _, .cons h t => .cons (h.move g) (DtAll.move g t)
theorem Grow.move {F ρ ρ' : List Addr} {H H' : Hp} (g : Grow ρ ρ' H H') : Move F ρ F ρ' H H' :=
  ⟨fun a o n e => ⟨app_not (not_app n).1 (g.stays (not_app n).2 e), g.keep _ _ (not_app n).2 e⟩, fun i a h => g.at_ h⟩
theorem move_aside {F F' ρ : List Addr} {H : Hp} (hf : ∀ a, a ∉ F → H a ≠ none → a ∉ F') : Move F ρ F' ρ H H :=
  ⟨fun a o n e => ⟨app_not (hf _ (not_app n).1 (by rw [e]; simp)) (not_app n).2, e⟩, fun _ _ h => h⟩
theorem move_touch {F ρ : List Addr} {H : Hp} {p : Addr} {o : HO} (hp : p ∈ F) : Move F ρ F ρ H (upd H p o) :=
  ⟨fun a u n e => ⟨n, by rw [upd_ne (fun z => n (List.mem_append_left _ (by rw [z]; exact hp)))]; exact e⟩, fun _ _ h => h⟩
section
variable {K : PySem.W.Frag} {F F' ρ ρ' : List Addr} {H H' : Hp}
theorem Dt.mono (g : Grow ρ ρ' H H') {v : V} {d : D} (h : Dt K F ρ H v d) : Dt K F ρ' H' v d := h.move g.move
theorem DtAll.mono (g : Grow ρ ρ' H H') {vs : List V} {ds : List D} (h : DtAll K F ρ H vs ds) : DtAll K F ρ' H' vs ds := h.move g.move
theorem Dt.aside (hf : ∀ a, a ∉ F → H a ≠ none → a ∉ F') {v : V} {d : D} (h : Dt K F ρ H v d) : Dt K F' ρ H v d := h.move (move_aside hf)
theorem DtAll.aside (hf : ∀ a, a ∉ F → H a ≠ none → a ∉ F') {vs : List V} {ds : List D} (h : DtAll K F ρ H vs ds) : DtAll K F' ρ H vs ds := h.move (move_aside hf)
theorem Dt.touch {p : Addr} {o : HO} (hp : p ∈ F) {v : V} {d : D} (h : Dt K F ρ H v d) : Dt K F ρ (upd H p o) v d := h.move (move_touch hp)
theorem DtAll.touch {p : Addr} {o : HO} (hp : p ∈ F) {vs : List V} {ds : List D} (h : DtAll K F ρ H vs ds) : DtAll K F ρ (upd H p o) vs ds := h.move (move_touch hp)
theorem DtAll.len : ∀ {vs : List V} {ds : List D}, DtAll K F ρ H vs ds → vs.length = ds.length
  | _, _, .nil => rfl
  | _, _, .cons _ t => congrArg (· + 1) (DtAll.len t)
theorem DtAll.get : ∀ {vs : List V} {ds : List D}, DtAll K F ρ H vs ds → ∀ {i : Nat} {v : V}, vs[i]? = some v → ∃ d, ds[i]? = some d ∧ Dt K F ρ H v d
  | _, _, .nil, i, v, h => by simp at h
  | _, _, .cons h t, 0, v, e => by
    cases e
    exact ⟨_, rfl, h⟩
  | _, _, .cons h t, i + 1, v, e => DtAll.get t (by simpa using e)
theorem DtAll.getD : ∀ {vs : List V} {ds : List D}, DtAll K F ρ H vs ds → ∀ {i : Nat} {d : D}, ds[i]? = some d → ∃ v, vs[i]? = some v ∧ Dt K F ρ H v d
  | _, _, .nil, i, v, h => by simp at h
  | _, _, .cons h t, 0, v, e => by
    cases e
    exact ⟨_, rfl, h⟩
  | _, _, .cons h t, i + 1, v, e => DtAll.getD t (by simpa using e)
theorem DtAll.app : ∀ {vs ws : List V} {ds es : List D}, DtAll K F ρ H vs ds → DtAll K F ρ H ws es → DtAll K F ρ H (vs ++ ws) (ds ++ es)
  | _, _, _, _, .nil, h => h
  | _, _, _, _, .cons a t, h => .cons a (DtAll.app t h)
theorem DtAll.take : ∀ {vs : List V} {ds : List D} (n : Nat), DtAll K F ρ H vs ds → DtAll K F ρ H (vs.take n) (ds.take n)
  | _, _, 0, _ => by rw [List.take_zero, List.take_zero]; exact .nil
  | _, _, n + 1, .nil => .nil
  | _, _, n + 1, .cons a t => .cons a (DtAll.take n t)
theorem DtAll.drop : ∀ {vs : List V} {ds : List D} (n : Nat), DtAll K F ρ H vs ds → DtAll K F ρ H (vs.drop n) (ds.drop n)
  | _, _, 0, h => h
  | _, _, n + 1, .nil => .nil
  | _, _, n + 1, .cons a t => DtAll.drop n t
theorem DtAll.set : ∀ {vs : List V} {ds : List D} (i : Nat) {v : V} {d : D}, DtAll K F ρ H vs ds → Dt K F ρ H v d → DtAll K F ρ H (vs.set i v) (ds.set i d)
  | _, _, _, _, _, .nil, _ => .nil
  | _, _, 0, _, _, .cons a t, h => .cons h t
  | _, _, i + 1, _, _, .cons a t, h => .cons a (DtAll.set i t h)
theorem DtAll.one {v : V} {d : D} (h : Dt K F ρ H v d) : DtAll K F ρ H [v] [d] := .cons h .nil
theorem DtAll.rev : ∀ {vs : List V} {ds : List D}, DtAll K F ρ H vs ds → DtAll K F ρ H vs.reverse ds.reverse
  | _, _, .nil => .nil
  | _, _, .cons a t => by
    rw [List.reverse_cons, List.reverse_cons]
    exact (DtAll.rev t).app (.one a)
theorem DtAll.ints : ∀ {vs : List V} {ns : List Int}, DtAll K F ρ H vs (ns.map D.int) → vs = ns.map V.int
  | [], [], _ => rfl
  | [], n :: r, h => by cases h
  | v :: vs, [], h => by cases h
  | v :: vs, n :: r, h => by
    cases h with
    | cons a t =>
      cases a
      rw [DtAll.ints t]
      rfl
theorem DtAll.of_ints : ∀ (ns : List Int), DtAll K F ρ H (ns.map V.int) (ns.map D.int)
  | [] => .nil
  | n :: r => .cons (.int n) (DtAll.of_ints r)
theorem DtAll.bls : ∀ {vs : List V} {ns : List Bool}, DtAll K F ρ H vs (ns.map D.bl) → vs = ns.map V.bl
  | [], [], _ => rfl
  | [], n :: r, h => by cases h
  | v :: vs, [], h => by cases h
  | v :: vs, n :: r, h => by
    cases h with
    | cons a t =>
      cases a
      rw [DtAll.bls t]
      rfl
theorem DtAll.strs : ∀ {vs : List V} {ns : List Str}, DtAll K F ρ H vs (ns.map D.str) → vs = ns.map V.str
  | [], [], _ => rfl
  | [], n :: r, h => by cases h
  | v :: vs, [], h => by cases h
  | v :: vs, n :: r, h => by
    cases h with
    | cons a t =>
      cases a
      rw [DtAll.strs t]
      rfl
theorem DtAll.of_strs : ∀ (ns : List Str), DtAll K F ρ H (ns.map V.str) (ns.map D.str)
  | [] => .nil
  | n :: r => .cons (.str n) (DtAll.of_strs r)
end
end DX

namespace DX
open PySem L2
/-! ### the store stands -/
def MOk (K : PySem.W.Frag) (F ρ : List Addr) (H : Hp) (a : Addr) : MO → Prop
  | .lst ds => ∃ vs, H a = some (.lst vs) ∧ DtAll K F ρ H vs ds
  | .ins c ns ds => ∃ dx vs, H a = some (.ins (He.ga K c) dx (ns.zip vs)) ∧ ns.length = vs.length ∧ DtAll K F ρ H vs ds
  | .dK ks ds => ∃ vs, H a = some (.dK (ks.zip vs)) ∧ ks.length = vs.length ∧ DtAll K F ρ H vs ds
  | .dT ks ds => ∃ vs, H a = some (.dT (ks.zip vs)) ∧ ks.length = vs.length ∧ DtAll K F ρ H vs ds
theorem MOk.by_ {K : PySem.W.Frag} {F ρ F' ρ' : List Addr} {H H' : Hp} {a : Addr} {m : MO} (q : ∀ {vs ds}, DtAll K F ρ H vs ds → DtAll K F' ρ' H' vs ds) (ha : ∀ o, H a = some o → H' a = some o) (h : MOk K F ρ H a m) : MOk K F' ρ' H' a m := by
  cases m with
  | lst ds =>
    obtain ⟨vs, e, r⟩ := h
    exact ⟨vs, ha _ e, q r⟩
  | ins C ns ds =>
    obtain ⟨dx, vs, e, l, r⟩ := h
    exact ⟨dx, vs, ha _ e, l, q r⟩
  | dK ks ds =>
    obtain ⟨vs, e, l, r⟩ := h
    exact ⟨vs, ha _ e, l, q r⟩
  | dT ks ds =>
    obtain ⟨vs, e, l, r⟩ := h
    exact ⟨vs, ha _ e, l, q r⟩
theorem MOk.there {K : PySem.W.Frag} {F ρ : List Addr} {H : Hp} {a : Addr} {m : MO} (h : MOk K F ρ H a m) : ∃ o, H a = some o := by
  cases m with
  | lst ds => obtain ⟨vs, e, r⟩ := h; exact ⟨_, e⟩
  | ins C ns ds => obtain ⟨dx, vs, e, l, r⟩ := h; exact ⟨_, e⟩
  | dK ks ds => obtain ⟨vs, e, l, r⟩ := h; exact ⟨_, e⟩
  | dT ks ds => obtain ⟨vs, e, l, r⟩ := h; exact ⟨_, e⟩
structure Wd (K : PySem.W.Frag) (F ρ : List Addr) (μ : Mu) (H : Hp) : Prop where
  fs : ∀ x, x ∈ F → ∃ o, H x = some o
  len : ρ.length = μ.length
  nd : ρ.Nodup
  apart : ∀ a, a ∈ ρ → a ∉ F
  ok : ∀ (i : Nat) (a : Addr) (m : MO), ρ[i]? = some a → μ[i]? = some m → MOk K F ρ H a m
section
variable {K : PySem.W.Frag} {F F' ρ ρ' : List Addr} {μ μ' : Mu} {H H' : Hp}
theorem Wd.there {a : Addr} (w : Wd K F ρ μ H) (h : a ∈ ρ) : ∃ o, H a = some o := by
  obtain ⟨i, hi, e⟩ := List.mem_iff_getElem.mp h
  have hm : i < μ.length := by rw [← w.len]; exact hi
  exact (w.ok i a _ (by rw [List.getElem?_eq_getElem hi, e]) (List.getElem?_eq_getElem hm)).there
theorem Wd.freshF {p : Addr} (w : Wd K F ρ μ H) (h : H p = none) : p ∉ F := fun z => by
  obtain ⟨o, e⟩ := w.fs p z
  rw [h] at e
  cases e
theorem Wd.fresh {p : Addr} (w : Wd K F ρ μ H) (h : H p = none) : p ∉ ρ := fun z => by
  obtain ⟨o, e⟩ := w.there z
  rw [h] at e
  cases e
theorem Wd.fresh2 {p : Addr} (w : Wd K F ρ μ H) (h : H p = none) : p ∉ F ++ ρ := app_not (w.freshF h) (w.fresh h)
theorem fs_upd {p : Addr} {o : HO} (h : ∀ x, x ∈ F → ∃ o, H x = some o) : ∀ x, x ∈ F → ∃ u, upd H p o x = some u := fun x hx => by
  by_cases e : x = p
  · subst e
    exact ⟨o, upd_same⟩
  · rw [upd_ne e]
    exact h x hx
/-- a new thing is laid that nobody will change -/
theorem Wd.lay {p : Addr} {o : HO} (w : Wd K F ρ μ H) (h : H p = none) : Wd K F ρ μ (upd H p o) :=
  ⟨fs_upd w.fs, w.len, w.nd, w.apart, fun i a m hi hm => (w.ok i a m hi hm).by_ (fun q => q.mono (Grow.fresh h)) fun u e => by rw [upd_ne (ne_of_none e h)]; exact e⟩
/-- a new thing is laid that may change -/
theorem Wd.layM {p : Addr} {o : HO} {m : MO} (w : Wd K F ρ μ H) (h : H p = none) (q : MOk K F (ρ ++ [p]) (upd H p o) p m) : Wd K F (ρ ++ [p]) (μ ++ [m]) (upd H p o) where
  fs := fs_upd w.fs
  len := by rw [List.length_append, List.length_append, w.len]; rfl
  nd := by
    rw [List.nodup_append]
    refine ⟨w.nd, by simp, fun a ha b hb e => ?_⟩
    rw [List.mem_singleton.mp hb] at e
    exact w.fresh h (e ▸ ha)
  apart := fun a ha => by
    rcases List.mem_append.mp ha with z | z
    · exact w.apart a z
    · rw [List.mem_singleton.mp z]; exact w.freshF h
  ok := fun i a n hi hn => by
    by_cases c : i < ρ.length
    · rw [List.getElem?_append_left c] at hi
      rw [List.getElem?_append_left (by rw [← w.len]; exact c)] at hn
      exact (w.ok i a n hi hn).by_ (fun q => q.mono (Grow.add h)) fun u e => by rw [upd_ne (ne_of_none e h)]; exact e
    · have ci : i = ρ.length := by
        have := (List.getElem?_eq_some_iff.mp hi).1
        rw [List.length_append, List.length_singleton] at this
        omega
      subst ci
      rw [List.getElem?_append_right (Nat.le_refl _), Nat.sub_self] at hi
      rw [w.len, List.getElem?_append_right (Nat.le_refl _), Nat.sub_self] at hn
      cases hi
      cases hn
      exact q
theorem nodup_at {a : Addr} {i j : Nat} (nd : ρ.Nodup) (hi : ρ[i]? = some a) (hj : ρ[j]? = some a) : i = j := by
  have li := (List.getElem?_eq_some_iff.mp hi)
  have lj := (List.getElem?_eq_some_iff.mp hj)
  obtain ⟨li, ei⟩ := li
  obtain ⟨lj, ej⟩ := lj
  have pw := List.pairwise_iff_getElem.mp nd
  rcases Nat.lt_trichotomy i j with c | c | c
  · exact absurd (ei.trans ej.symm) (pw i j li lj c)
  · exact c
  · exact absurd (ej.trans ei.symm) (pw j i lj li c)
/-- a thing that may change is changed -/
theorem Wd.put {i : Nat} {a : Addr} {o : HO} {m : MO} (w : Wd K F ρ μ H) (h : ρ[i]? = some a) (q : MOk K F ρ (upd H a o) a m) : Wd K F ρ (μ.set i m) (upd H a o) where
  fs := fs_upd w.fs
  len := by rw [List.length_set]; exact w.len
  nd := w.nd
  apart := w.apart
  ok := fun j b n hj hn => by
    have ha : a ∈ ρ := List.mem_of_getElem? h
    by_cases c : i = j
    · subst c
      rw [h] at hj
      cases hj
      rw [List.getElem?_set_self (by rw [← w.len]; exact (List.getElem?_eq_some_iff.mp h).1)] at hn
      cases hn
      exact q
    · rw [List.getElem?_set_ne c] at hn
      refine (w.ok j b n hj hn).by_ (fun q => q.mono (Grow.put ha)) fun u e => ?_
      rw [upd_ne (fun z => c (nodup_at w.nd (by rw [← z] at h; exact h) hj))]
      exact e
theorem Wd.move {K : PySem.W.Frag} (w : Wd K F ρ μ H) (hs : ∀ x, x ∈ F' → ∃ o, H' x = some o) (ha : ∀ a, a ∈ ρ → a ∉ F') (hk : ∀ a o, a ∈ ρ → H a = some o → H' a = some o) (q : ∀ {vs ds}, DtAll K F ρ H vs ds → DtAll K F' ρ H' vs ds) : Wd K F' ρ μ H' :=
  ⟨hs, w.len, w.nd, ha, fun i a m hi hm => (w.ok i a m hi hm).by_ q fun o e => hk a o (List.mem_of_getElem? hi) e⟩
theorem Wd.asideTo (w : Wd K F ρ μ H) (hf : ∀ a, a ∉ F → H a ≠ none → a ∉ F') (hs : ∀ x, x ∈ F' → ∃ o, H x = some o) : Wd K F' ρ μ H :=
  w.move hs (fun a ha => hf a (w.apart a ha) (by
    obtain ⟨o, e⟩ := w.there ha
    rw [e]
    simp)) (fun _ _ _ e => e) fun q => q.aside hf
theorem Wd.drop {D : Addr} (w : Wd K (D :: F) ρ μ H) : Wd K F ρ μ H :=
  w.asideTo (fun x hx _ => fun z => hx (List.mem_cons_of_mem _ z)) fun x hx => w.fs x (List.mem_cons_of_mem _ hx)
theorem Wd.touch {p : Addr} {o : HO} (w : Wd K F ρ μ H) (hp : p ∈ F) (hm : p ∉ ρ) : Wd K F ρ μ (upd H p o) :=
  w.move (fs_upd w.fs) w.apart (fun a u ha e => by rw [upd_ne (fun z => hm (by rw [← z]; exact ha))]; exact e) fun q => q.touch hp
theorem Wd.layAside {p : Addr} {o : HO} (w : Wd K F ρ μ H) (h : H p = none) : Wd K (p :: F) ρ μ (upd H p o) := by
  have off : ∀ a, a ∉ F → H a ≠ none → a ∉ p :: F := fun x hx hn z => by
    rcases List.mem_cons.mp z with rfl | z
    · exact hn h
    · exact hx z
  refine w.move (fun x hx => ?_) (fun a ha => off a (w.apart a ha) ?_) (fun a u _ e => by rw [upd_ne (ne_of_none e h)]; exact e) fun q => (q.aside off).mono (Grow.fresh h)
  · rcases List.mem_cons.mp hx with rfl | hx
    · exact ⟨_, upd_same⟩
    · exact fs_upd w.fs x hx
  · obtain ⟨o, e⟩ := w.there ha
    rw [e]
    simp
end
/-! ### what a piece of a program gives -/
/-- an exception: its class, its fields -/
structure Exn where
  cls : Str
  ns : List Str
  ds : List D
inductive Res (α : Type) where
  | ok (a : α) (μ : Mu)
  | exc (e : Exn) (μ : Mu)
  | bad
def Res.bind {α β : Type} (r : Res α) (f : α → Mu → Res β) : Res β := match r with
  | .ok a μ => f a μ
  | .exc e μ => .exc e μ
  | .bad => .bad
def wp {α : Type} (r : Res α) (P : α → Mu → Prop) (X : Exn → Mu → Prop) : Prop := match r with
  | .ok a μ => P a μ
  | .exc e μ => X e μ
  | .bad => False
theorem wp_bind {α β : Type} {r : Res α} {f : α → Mu → Res β} {P : β → Mu → Prop} {X : Exn → Mu → Prop} (h : wp (r.bind f) P X) : wp r (fun a μ => wp (f a μ) P X) X := by
  cases r <;> exact h
theorem wp_mono {α : Type} {r : Res α} {P P' : α → Mu → Prop} {X X' : Exn → Mu → Prop} (h : wp r P X) (hp : ∀ a μ, P a μ → P' a μ) (hx : ∀ e μ, X e μ → X' e μ) : wp r P' X' := by
  cases r with
  | ok a μ => exact hp _ _ h
  | exc e μ => exact hx _ _ h
  | bad => exact h
abbrev Env := List (Option D)
inductive SR where
  | nx (η : Env) (μ : Mu)
  | rt (d : D) (μ : Mu)
  | bk (η : Env) (μ : Mu)
  | ct (η : Env) (μ : Mu)
  | exc (e : Exn) (η : Env) (μ : Mu)
  | bad
structure DEnds where
  nx : Env → Mu → Prop
  rt : D → Mu → Prop
  bk : Env → Mu → Prop := fun _ _ => False
  ct : Env → Mu → Prop := fun _ _ => False
abbrev PX := Exn → Env → Mu → Prop
def wpS (r : SR) (B : DEnds) (X : PX) : Prop := match r with
  | .nx η μ => B.nx η μ
  | .rt d μ => B.rt d μ
  | .bk η μ => B.bk η μ
  | .ct η μ => B.ct η μ
  | .exc e η μ => X e η μ
  | .bad => False
/-- a result, and a statement behind it -/
def Res.to {α : Type} (r : Res α) (η : Env) (f : α → Mu → SR) : SR := match r with
  | .ok a μ => f a μ
  | .exc e μ => .exc e η μ
  | .bad => .bad
def SR.then (r : SR) (f : Env → Mu → SR) : SR := match r with
  | .nx η μ => f η μ
  | .rt d μ => .rt d μ
  | .bk η μ => .bk η μ
  | .ct η μ => .ct η μ
  | .exc e η μ => .exc e η μ
  | .bad => .bad
/-- a loop's turn, and what follows it -/
def SR.turn (r : SR) (f : Env → Mu → SR) : SR := match r with
  | .nx η μ => f η μ
  | .rt d μ => .rt d μ
  | .bk η μ => .nx η μ
  | .ct η μ => f η μ
  | .exc e η μ => .exc e η μ
  | .bad => .bad
theorem wp_to {α : Type} {r : Res α} {η : Env} {f : α → Mu → SR} {B : DEnds} {X : PX} (h : wpS (r.to η f) B X) : wp r (fun a μ => wpS (f a μ) B X) (fun e μ => X e η μ) := by
  cases r <;> exact h
theorem wp_then {r : SR} {f : Env → Mu → SR} {B : DEnds} {X : PX} (h : wpS (r.then f) B X) : wpS r { B with nx := fun η μ => wpS (f η μ) B X } X := by
  cases r <;> exact h
theorem wp_turn {r : SR} {f : Env → Mu → SR} {B : DEnds} {X : PX} (h : wpS (r.turn f) B X) : wpS r { B with nx := fun η μ => wpS (f η μ) B X, ct := fun η μ => wpS (f η μ) B X, bk := B.nx } X := by
  cases r <;> exact h
abbrev DE := Env → Mu → Res D
abbrev DTs := Env → Mu → Res Bool
abbrev DA := Env → Mu → Res (List D)
abbrev DO := Env → Mu → Res (Option Int)
abbrev DS := Env → Mu → SR
abbrev DG := D → Env → Mu → Res Env
abbrev DGs := List D → Env → Mu → Res Env
abbrev FS := List D → Mu → Res D
/-! ### the names -/
structure EnvOk0 (K : PySem.W.Frag) (F ρ : List Addr) (H : Hp) (σ : L2.St) (η : Env) : Prop where
  len : σ.length = η.length
  ok : ∀ (i : Nat) (d : D), η[i]? = some (some d) → ∃ v, σ[i]? = some (some v) ∧ Dt K F ρ H v d
/-- what is wished of exceptions -/
def XOut (K : PySem.W.Frag) (E : L2.St → XK) (X : PX) (F ρ : List Addr) (H : Hp) : Prop := ∀ σ' η' e d H' ρ' μ' vs, Wd K F ρ' μ' H' → EnvOk0 K F ρ' H' σ' η' → Grow ρ ρ' H H' →
  H' d = some (.xd (e.ns.zip vs)) → d ∉ F ++ ρ' → e.ns.length = vs.length → DtAll K F ρ' H' vs e.ds → X e η' μ' → E σ' (.ref (He.ga K e.cls)) (some d) H'
structure EnvOk (K : PySem.W.Frag) (E : L2.St → XK) (X : PX) (F ρ : List Addr) (H : Hp) (σ : L2.St) (η : Env) : Prop extends EnvOk0 K F ρ H σ η where
  xo : XOut K E X F ρ H
section
variable {K : PySem.W.Frag} {E : L2.St → XK} {X : PX} {F F' ρ ρ' : List Addr} {H H' : Hp} {σ : L2.St} {η : Env}
theorem XOut.mono (g : Grow ρ ρ' H H') (h : XOut K E X F ρ H) : XOut K E X F ρ' H' := fun σ' η' e d H2 ρ2 μ2 vs a b c => h σ' η' e d H2 ρ2 μ2 vs a b (g.trans c)
theorem EnvOk0.mono (g : Grow ρ ρ' H H') (h : EnvOk0 K F ρ H σ η) : EnvOk0 K F ρ' H' σ η :=
  ⟨h.len, fun i d e => let ⟨v, e', q⟩ := h.ok i d e; ⟨v, e', q.mono g⟩⟩
theorem EnvOk.mono (g : Grow ρ ρ' H H') (h : EnvOk K E X F ρ H σ η) : EnvOk K E X F ρ' H' σ η := ⟨h.toEnvOk0.mono g, h.xo.mono g⟩
theorem EnvOk0.set {i : Nat} {v : V} {d : D} (h : EnvOk0 K F ρ H σ η) (q : Dt K F ρ H v d) : EnvOk0 K F ρ H (σ.set i (some v)) (η.set i (some d)) where
  len := by rw [List.length_set, List.length_set]; exact h.len
  ok := fun j e hj => by
    by_cases c : j = i
    · subst c
      by_cases l : j < η.length
      · rw [List.getElem?_set_self l] at hj
        cases hj
        exact ⟨v, List.getElem?_set_self (by rw [h.len]; exact l), q⟩
      · rw [List.getElem?_eq_none (by rw [List.length_set]; omega)] at hj
        cases hj
    · rw [List.getElem?_set_ne (Ne.symm c)] at hj
      obtain ⟨u, e1, e2⟩ := h.ok j e hj
      exact ⟨u, by rw [List.getElem?_set_ne (Ne.symm c)]; exact e1, e2⟩
theorem EnvOk.set {i : Nat} {v : V} {d : D} (h : EnvOk K E X F ρ H σ η) (q : Dt K F ρ H v d) : EnvOk K E X F ρ H (σ.set i (some v)) (η.set i (some d)) := ⟨h.toEnvOk0.set q, h.xo⟩
theorem EnvOk0.setN {i : Nat} {x : Option V} (h : EnvOk0 K F ρ H σ η) : EnvOk0 K F ρ H (σ.set i x) (η.set i none) where
  len := by rw [List.length_set, List.length_set]; exact h.len
  ok := fun j e hj => by
    by_cases c : j = i
    · subst c
      by_cases l : j < η.length
      · rw [List.getElem?_set_self l] at hj
        cases hj
      · rw [List.getElem?_eq_none (by rw [List.length_set]; omega)] at hj
        cases hj
    · rw [List.getElem?_set_ne (Ne.symm c)] at hj
      obtain ⟨u, e1, e2⟩ := h.ok j e hj
      exact ⟨u, by rw [List.getElem?_set_ne (Ne.symm c)]; exact e1, e2⟩
def wipeD (η : Env) : List Nat → Env
  | [] => η
  | i :: r => (wipeD η r).set i none
theorem EnvOk0.wipe (h : EnvOk0 K F ρ H σ η) : ∀ vs : List Nat, EnvOk0 K F ρ H (L2.wipe σ vs) (wipeD η vs)
  | [] => h
  | i :: r => by
    show EnvOk0 K F ρ H ((L2.wipe σ r).set i none) ((wipeD η r).set i none)
    exact (EnvOk0.wipe h r).setN
theorem EnvOk0.aside (h : EnvOk0 K F ρ H σ η) (hf : ∀ a, a ∉ F → H a ≠ none → a ∉ F') : EnvOk0 K F' ρ H σ η :=
  ⟨h.len, fun i d e => let ⟨v, e', q⟩ := h.ok i d e; ⟨v, e', q.aside hf⟩⟩
/-- no exception at all -/
abbrev EN : L2.St → XK := fun _ => L2.E0
def X0 : PX := fun _ _ _ => False
theorem xout0 : XOut K E X0 F ρ H := fun _ _ _ _ _ _ _ _ _ _ _ _ _ _ _ z => z.elim
end
/-- what follows, over values, from what follows over data -/
def Out (K : PySem.W.Frag) (F ρ : List Addr) (H : Hp) (P : D → Mu → Prop) (Q : VK) : Prop := ∀ v H' ρ' d μ', Wd K F ρ' μ' H' → Grow ρ ρ' H H' → Dt K F ρ' H' v d → P d μ' → Q v H'
/-! ### readings and what they are over data -/
class SE (K : PySem.W.Frag) (E : L2.St → XK) (t : TE) (T : outParam DE) : Prop where
  run : ∀ {X : PX} {F : List Addr} {σ : L2.St} {H : Hp} {η : Env} {ρ : List Addr} {μ : Mu} {P : D → Mu → Prop} {Q : VK}, Wd K F ρ μ H → EnvOk K E X F ρ H σ η → wp (T η μ) P (fun e μ' => X e η μ') → Out K F ρ H P Q → t σ H Q
class ST (K : PySem.W.Frag) (E : L2.St → XK) (t : TT) (T : outParam DTs) : Prop where
  run : ∀ {X : PX} {F : List Addr} {σ : L2.St} {H : Hp} {η : Env} {ρ : List Addr} {μ : Mu} {P : Bool → Mu → Prop} {Q : Bool → Hp → Prop}, Wd K F ρ μ H → EnvOk K E X F ρ H σ η → wp (T η μ) P (fun e μ' => X e η μ') → (∀ b H' ρ' μ', Wd K F ρ' μ' H' → Grow ρ ρ' H H' → P b μ' → Q b H') → t σ H Q
class SA (K : PySem.W.Frag) (E : L2.St → XK) (t : TA) (T : outParam DA) : Prop where
  run : ∀ {X : PX} {F : List Addr} {σ : L2.St} {H : Hp} {η : Env} {ρ : List Addr} {μ : Mu} {P : List D → Mu → Prop} {Q : List V → Hp → Prop}, Wd K F ρ μ H → EnvOk K E X F ρ H σ η → wp (T η μ) P (fun e μ' => X e η μ') → (∀ vs H' ρ' ds μ', Wd K F ρ' μ' H' → Grow ρ ρ' H H' → DtAll K F ρ' H' vs ds → P ds μ' → Q vs H') → t σ H Q
class SO (K : PySem.W.Frag) (E : L2.St → XK) (t : TO) (T : outParam DO) : Prop where
  run : ∀ {X : PX} {F : List Addr} {σ : L2.St} {H : Hp} {η : Env} {ρ : List Addr} {μ : Mu} {P : Option Int → Mu → Prop} {Q : Option Int → Hp → Prop}, Wd K F ρ μ H → EnvOk K E X F ρ H σ η → wp (T η μ) P (fun e μ' => X e η μ') → (∀ o H' ρ' μ', Wd K F ρ' μ' H' → Grow ρ ρ' H H' → P o μ' → Q o H') → t σ H Q
/-- operators, calls by values: they don't raise -/
class SR2 (K : PySem.W.Frag) (r : R2) (Fn : outParam (D → D → Mu → Res D)) : Prop where
  run : ∀ {X : Exn → Mu → Prop} {F : List Addr} {H : Hp} {ρ : List Addr} {μ : Mu} {x y : V} {dx dy : D} {P : D → Mu → Prop} {Q : VK}, Wd K F ρ μ H → Dt K F ρ H x dx → Dt K F ρ H y dy → wp (Fn dx dy μ) P X → Out K F ρ H P Q → r x y H Q
class SU (K : PySem.W.Frag) (r : V → Hp → VK → Prop) (Fn : outParam (D → Mu → Res D)) : Prop where
  run : ∀ {X : Exn → Mu → Prop} {F : List Addr} {H : Hp} {ρ : List Addr} {μ : Mu} {x : V} {dx : D} {P : D → Mu → Prop} {Q : VK}, Wd K F ρ μ H → Dt K F ρ H x dx → wp (Fn dx μ) P X → Out K F ρ H P Q → r x H Q
class SC (K : PySem.W.Frag) (r : List V → Hp → VK → Prop) (Fn : outParam (List D → Mu → Res D)) : Prop where
  run : ∀ {X : Exn → Mu → Prop} {F : List Addr} {H : Hp} {ρ : List Addr} {μ : Mu} {vs : List V} {ds : List D} {P : D → Mu → Prop} {Q : VK}, Wd K F ρ μ H → DtAll K F ρ H vs ds → wp (Fn ds μ) P X → Out K F ρ H P Q → r vs H Q
class SM (K : PySem.W.Frag) (r : V → List V → Hp → VK → Prop) (Fn : outParam (D → List D → Mu → Res D)) : Prop where
  run : ∀ {X : Exn → Mu → Prop} {F : List Addr} {H : Hp} {ρ : List Addr} {μ : Mu} {x : V} {dx : D} {vs : List V} {ds : List D} {P : D → Mu → Prop} {Q : VK}, Wd K F ρ μ H → Dt K F ρ H x dx → DtAll K F ρ H vs ds → wp (Fn dx ds μ) P X → Out K F ρ H P Q → r x vs H Q
class SL (K : PySem.W.Frag) (r : V → Option Int → Option Int → Hp → VK → Prop) (Fn : outParam (D → Option Int → Option Int → Mu → Res D)) : Prop where
  run : ∀ {X : Exn → Mu → Prop} {F : List Addr} {H : Hp} {ρ : List Addr} {μ : Mu} {x : V} {dx : D} {lo hi : Option Int} {P : D → Mu → Prop} {Q : VK}, Wd K F ρ μ H → Dt K F ρ H x dx → wp (Fn dx lo hi μ) P X → Out K F ρ H P Q → r x lo hi H Q
/-- targets; ks: the slots that change -/
class SG (K : PySem.W.Frag) (E : L2.St → XK) (g : TG) (G : outParam DG) (ks : outParam (List Nat)) : Prop where
  run : ∀ {X : PX} {F : List Addr} {σ : L2.St} {H : Hp} {η : Env} {ρ : List Addr} {μ : Mu} {v : V} {d : D} {P : Env → Mu → Prop} {Q : L2.St → Hp → Prop}, Wd K F ρ μ H → EnvOk K E X F ρ H σ η → Dt K F ρ H v d → wp (G d η μ) P (fun e μ' => X e η μ') →
    (∀ σ' H' η' ρ' μ', Wd K F ρ' μ' H' → EnvOk K E X F ρ' H' σ' η' → Grow ρ ρ' H H' → σ'.length = σ.length → (∀ i, i ∉ ks → σ'[i]? = σ[i]?) → P η' μ' → Q σ' H') → g v σ H Q
class SGs (K : PySem.W.Frag) (E : L2.St → XK) (g : TGs) (G : outParam DGs) (ks : outParam (List Nat)) : Prop where
  run : ∀ {X : PX} {F : List Addr} {σ : L2.St} {H : Hp} {η : Env} {ρ : List Addr} {μ : Mu} {vs : List V} {ds : List D} {P : Env → Mu → Prop} {Q : L2.St → Hp → Prop}, Wd K F ρ μ H → EnvOk K E X F ρ H σ η → DtAll K F ρ H vs ds → wp (G ds η μ) P (fun e μ' => X e η μ') →
    (∀ σ' H' η' ρ' μ', Wd K F ρ' μ' H' → EnvOk K E X F ρ' H' σ' η' → Grow ρ ρ' H H' → σ'.length = σ.length → (∀ i, i ∉ ks → σ'[i]? = σ[i]?) → P η' μ' → Q σ' H') → g vs σ H Q
/-- statements -/
structure EndsOk (K : PySem.W.Frag) (E : L2.St → XK) (X : PX) (F ρ : List Addr) (H : Hp) (C : DEnds) (B : Ends) : Prop where
  nx : ∀ σ' H' η' ρ' μ', Wd K F ρ' μ' H' → EnvOk K E X F ρ' H' σ' η' → Grow ρ ρ' H H' → C.nx η' μ' → B.nx σ' H'
  rt : ∀ v H' ρ' d μ', Wd K F ρ' μ' H' → Grow ρ ρ' H H' → Dt K F ρ' H' v d → C.rt d μ' → B.rt v H'
  bk : ∀ σ' H' η' ρ' μ', Wd K F ρ' μ' H' → EnvOk K E X F ρ' H' σ' η' → Grow ρ ρ' H H' → C.bk η' μ' → B.bk σ' H'
  ct : ∀ σ' H' η' ρ' μ', Wd K F ρ' μ' H' → EnvOk K E X F ρ' H' σ' η' → Grow ρ ρ' H H' → C.ct η' μ' → B.ct σ' H'
theorem EndsOk.mono {K : PySem.W.Frag} {E : L2.St → XK} {X : PX} {F ρ ρ1 : List Addr} {H H1 : Hp} {C : DEnds} {B : Ends} (h : EndsOk K E X F ρ H C B) (g : Grow ρ ρ1 H H1) : EndsOk K E X F ρ1 H1 C B :=
  ⟨fun a b c d m e f k => h.nx a b c d m e f (g.trans k), fun a b c d m e k => h.rt a b c d m e (g.trans k), fun a b c d m e f k => h.bk a b c d m e f (g.trans k), fun a b c d m e f k => h.ct a b c d m e f (g.trans k)⟩
class SS (K : PySem.W.Frag) (E : L2.St → XK) (t : TS) (T : outParam DS) : Prop where
  run : ∀ {X : PX} {F : List Addr} {B : Ends} {σ : L2.St} {H : Hp} {η : Env} {ρ : List Addr} {μ : Mu} {C : DEnds}, Wd K F ρ μ H → EnvOk K E X F ρ H σ η → wpS (T η μ) C X → EndsOk K E X F ρ H C B → t B σ H
/-- iterables: the items, all of them, as data -/
def WalkD (K : PySem.W.Frag) (F ρ1 : List Addr) (H1 : Hp) (J : It) (its : List D) : Prop :=
  ∀ F' ρ μ H, (∀ a, a ∉ F → H1 a ≠ none → a ∉ F') → Grow ρ1 ρ H1 H → Wd K F' ρ μ H → (∀ i, i < its.length → J.go i H) ∧ J.stop its.length H ∧
    ∀ i x H', i < its.length → J.yld i H x H' → Wd K F' ρ μ H' ∧ Grow ρ ρ H H' ∧ ∃ d, its[i]? = some d ∧ Dt K F' ρ H' x d
class SI (K : PySem.W.Frag) (E : L2.St → XK) (wi : TI) (W : outParam DA) : Prop where
  run : ∀ {X : PX} {F : List Addr} {σ : L2.St} {H : Hp} {η : Env} {ρ : List Addr} {μ : Mu} {P : List D → Mu → Prop} {R : It → Hp → Prop}, Wd K F ρ μ H → EnvOk K E X F ρ H σ η → wp (W η μ) P (fun e μ' => X e η μ') → (∀ J H' ρ' its μ', Wd K F ρ' μ' H' → Grow ρ ρ' H H' → WalkD K F ρ' H' J its → P its μ' → R J H') → wi σ H R
section
variable {K : PySem.W.Frag} {F ρ ρ1 : List Addr} {μ : Mu} {H H1 : Hp} {P : D → Mu → Prop} {Q : VK}
theorem Out.mono (o : Out K F ρ H P Q) (g : Grow ρ ρ1 H H1) : Out K F ρ1 H1 P Q := fun v H' ρ' d μ' w k e p => o v H' ρ' d μ' w (g.trans k) e p
theorem Out.here (o : Out K F ρ H P Q) (w : Wd K F ρ μ H) {v : V} {d : D} (h : Dt K F ρ H v d) (p : P d μ) : Q v H := o v H ρ d μ w (Grow.refl _ _) h p
theorem Out.newL (o : Out K F ρ H P Q) (w : Wd K F ρ μ H) {vs : List V} {xs : List D} (h : DtAll K F ρ H vs xs) (p : P (.lst xs) μ) {a : Addr} (ha : H a = none) : Q (.ref a) (upd H a (.lst vs)) :=
  o _ _ ρ _ μ (w.lay ha) (Grow.fresh ha) (.lst (w.fresh2 ha) upd_same (h.mono (Grow.fresh ha))) p
theorem layM_lst (w : Wd K F ρ μ H) {vs : List V} {xs : List D} (h : DtAll K F ρ H vs xs) {a : Addr} (ha : H a = none) : Wd K F (ρ ++ [a]) (μ ++ [.lst xs]) (upd H a (.lst vs)) :=
  w.layM ha ⟨vs, upd_same, h.mono (Grow.add ha)⟩
theorem at_new (w : Wd K F ρ μ H) {a : Addr} : (ρ ++ [a])[μ.length]? = some a := by
  rw [← w.len, List.getElem?_append_right (Nat.le_refl _), Nat.sub_self]
  rfl
/-- a new list that may change -/
theorem Out.newM (o : Out K F ρ H P Q) (w : Wd K F ρ μ H) {vs : List V} {xs : List D} (h : DtAll K F ρ H vs xs) (p : P (.cell μ.length) (μ ++ [.lst xs])) {a : Addr} (ha : H a = none) : Q (.ref a) (upd H a (.lst vs)) :=
  o _ _ _ _ _ (layM_lst w h ha) (Grow.add ha) (.cell (at_new w)) p
theorem Out.newT (o : Out K F ρ H P Q) (w : Wd K F ρ μ H) {vs : List V} {xs : List D} (h : DtAll K F ρ H vs xs) (p : P (.tup xs) μ) {a : Addr} (ha : H a = none) : Q (.ref a) (upd H a (.tup vs)) :=
  o _ _ ρ _ μ (w.lay ha) (Grow.fresh ha) (.tup (w.fresh2 ha) upd_same (h.mono (Grow.fresh ha))) p
end
/-- a list, whether it may change or not -/
def asL (μ : Mu) : D → Option (List D)
  | .lst xs => some xs
  | .cell i => match μ[i]? with
    | some (.lst xs) => some xs
    | _ => none
  | _ => none
theorem asL_at {K : PySem.W.Frag} {F ρ : List Addr} {μ : Mu} {H : Hp} (w : Wd K F ρ μ H) {v : V} {d : D} {xs : List D} (h : Dt K F ρ H v d) (e : asL μ d = some xs) : ∃ a vs, v = .ref a ∧ H a = some (.lst vs) ∧ DtAll K F ρ H vs xs := by
  cases h with
  | lst n e1 q =>
    cases e
    exact ⟨_, _, rfl, e1, q⟩
  | @cell i a n =>
    unfold asL at e
    simp only at e
    cases c : μ[i]? with
    | none => rw [c] at e; cases e
    | some m =>
      rw [c] at e
      cases m with
      | lst ys =>
        cases e
        obtain ⟨vs, e1, q⟩ := w.ok _ _ _ n c
        exact ⟨a, vs, rfl, e1, q⟩
      | _ => cases e
  | _ => cases e
end DX

namespace DX
open PySem L2
noncomputable section
/-! ### expressions -/
def look : Env → Nat → Option D
  | [], _ => none
  | x :: _, 0 => x
  | _ :: r, i + 1 => look r i
theorem look_get : ∀ {η : Env} {i : Nat} {d : D}, look η i = some d → η[i]? = some (some d)
  | [], _, _, h => by cases h
  | x :: r, 0, d, h => by
    have e : x = some d := h
    rw [e]
    rfl
  | x :: r, i + 1, d, h => by
    show r[i]? = some (some d)
    exact look_get (η := r) h
def dVar (i : Nat) : DE := fun η μ => match look η i with
  | some d => .ok d μ
  | none => .bad
def dC (d : D) : DE := fun _ μ => .ok d μ
section
variable {K : PySem.W.Frag} {E : L2.St → XK}
instance {i : Nat} : SE K E (tVar i) (dVar i) := ⟨fun {X F σ H η ρ μ P Q} w e h o => by
  unfold dVar at h
  cases c : look η i with
  | none => rw [c] at h; exact h.elim
  | some d =>
    rw [c] at h
    obtain ⟨v, hv, q⟩ := e.ok i d (look_get c)
    exact ⟨v, hv, o.here w q h⟩⟩
instance : SE K E (tC .non) (dC .non) := ⟨fun w _ h o => o.here w .non h⟩
instance {b : Bool} : SE K E (tC (.bl b)) (dC (.bl b)) := ⟨fun w _ h o => o.here w (.bl b) h⟩
instance {i : Int} : SE K E (tC (.int i)) (dC (.int i)) := ⟨fun w _ h o => o.here w (.int i) h⟩
instance {x : Str} : SE K E (tC (.str x)) (dC (.str x)) := ⟨fun w _ h o => o.here w (.str x) h⟩
instance {x : String} : SE K E (tC (.ty x)) (dC (.ty x)) := ⟨fun w _ h o => o.here w (.ty x) h⟩
instance {c : Str} : SE K E (tC (.ref (He.ga K c))) (dC (.cls c)) := ⟨fun w _ h o => o.here w (.cls c) h⟩
def dOp (f : D → D → Mu → Res D) (Ta Tb : DE) : DE := fun η μ => (Ta η μ).bind fun x μ1 => (Tb η μ1).bind fun y μ2 => f x y μ2
instance {r : R2} {ta tb : TE} {f : D → D → Mu → Res D} {Ta Tb : DE} [a : SE K E ta Ta] [b : SE K E tb Tb] [c : SR2 K r f] : SE K E (tOp r ta tb) (dOp f Ta Tb) := ⟨fun w e h o =>
  a.run w e (wp_bind h) fun x H1 ρ1 dx μ1 w1 g1 q1 h1 => b.run w1 (e.mono g1) (wp_bind h1) fun y H2 ρ2 dy μ2 w2 g2 q2 h2 => c.run w2 (q1.mono g2) q2 h2 (o.mono (g1.trans g2))⟩
def dUn (f : D → Mu → Res D) (Ta : DE) : DE := fun η μ => (Ta η μ).bind f
instance {r : V → Hp → VK → Prop} {ta : TE} {f : D → Mu → Res D} {Ta : DE} [a : SE K E ta Ta] [c : SU K r f] : SE K E (tUn r ta) (dUn f Ta) := ⟨fun w e h o =>
  a.run w e (wp_bind h) fun x H1 ρ1 dx μ1 w1 g1 q1 h1 => c.run w1 q1 h1 (o.mono g1)⟩
/-- the way of a boolean -/
def onB {α : Type} (d : D) (k : Bool → Res α) : Res α := match d with
  | .bl b => k b
  | _ => .bad
theorem onB_at {α : Type} {F ρ : List Addr} {H : Hp} {v : V} {d : D} {k : Bool → Res α} {P : α → Mu → Prop} {X : Exn → Mu → Prop} (h : Dt K F ρ H v d) (p : wp (onB d k) P X) : ∃ b, v = .bl b ∧ wp (k b) P X := by
  cases h <;> first | exact p.elim | exact ⟨_, rfl, p⟩
def dAndV (Ta Tb : DE) : DE := fun η μ => (Ta η μ).bind fun x μ1 => onB x fun b => if b = true then Tb η μ1 else .ok (.bl false) μ1
def dOrV (Ta Tb : DE) : DE := fun η μ => (Ta η μ).bind fun x μ1 => onB x fun b => if b = true then .ok (.bl true) μ1 else Tb η μ1
def dNotV (Ta : DE) : DE := fun η μ => (Ta η μ).bind fun x μ1 => onB x fun b => .ok (.bl (!b)) μ1
instance {ta tb : TE} {Ta Tb : DE} [a : SE K E ta Ta] [b : SE K E tb Tb] : SE K E (tAndV ta tb) (dAndV Ta Tb) := ⟨fun w e h o =>
  a.run w e (wp_bind h) fun x H1 ρ1 dx μ1 w1 g1 q1 h1 => by
    obtain ⟨c, rfl, h2⟩ := onB_at q1 h1
    refine ⟨c, rfl, ?_⟩
    cases c with
    | true => exact b.run w1 (e.mono g1) h2 (o.mono g1)
    | false => exact (o.mono g1).here w1 (.bl false) h2⟩
instance {ta tb : TE} {Ta Tb : DE} [a : SE K E ta Ta] [b : SE K E tb Tb] : SE K E (tOrV ta tb) (dOrV Ta Tb) := ⟨fun w e h o =>
  a.run w e (wp_bind h) fun x H1 ρ1 dx μ1 w1 g1 q1 h1 => by
    obtain ⟨c, rfl, h2⟩ := onB_at q1 h1
    refine ⟨c, rfl, ?_⟩
    cases c with
    | false => exact b.run w1 (e.mono g1) h2 (o.mono g1)
    | true => exact (o.mono g1).here w1 (.bl true) h2⟩
instance {ta : TE} {Ta : DE} [a : SE K E ta Ta] : SE K E (tNotV ta) (dNotV Ta) := ⟨fun w e h o =>
  a.run w e (wp_bind h) fun x H1 ρ1 dx μ1 w1 g1 q1 h1 => by
    obtain ⟨c, rfl, h2⟩ := onB_at q1 h1
    exact ⟨c, rfl, (o.mono g1).here w1 (.bl _) h2⟩⟩
def dIfE (C : DTs) (Ta Tb : DE) : DE := fun η μ => (C η μ).bind fun b μ1 => if b = true then Ta η μ1 else Tb η μ1
instance {t : TT} {ta tb : TE} {C : DTs} {Ta Tb : DE} [c : ST K E t C] [a : SE K E ta Ta] [b : SE K E tb Tb] : SE K E (tIf t ta tb) (dIfE C Ta Tb) := ⟨fun w e h o =>
  c.run w e (wp_bind h) fun x H1 ρ1 μ1 w1 g1 h1 => by
    cases x with
    | true => exact a.run w1 (e.mono g1) h1 (o.mono g1)
    | false => exact b.run w1 (e.mono g1) h1 (o.mono g1)⟩
/-! tests -/
def dB (Ta : DE) : DTs := fun η μ => (Ta η μ).bind fun x μ1 => onB x fun b => .ok b μ1
instance {ta : TE} {Ta : DE} [a : SE K E ta Ta] : ST K E (tB ta) (dB Ta) := ⟨fun w e h o =>
  a.run w e (wp_bind h) fun x H1 ρ1 dx μ1 w1 g1 q1 h1 => by
    obtain ⟨c, rfl, h2⟩ := onB_at q1 h1
    exact ⟨c, rfl, o c H1 ρ1 μ1 w1 g1 h2⟩⟩
instance {ta : TE} {Ta : DE} [a : SE K E ta Ta] : ST K E (tTest ta) (dB Ta) := ⟨fun w e h o =>
  a.run w e (wp_bind h) fun x H1 ρ1 dx μ1 w1 g1 q1 h1 => by
    obtain ⟨c, rfl, h2⟩ := onB_at q1 h1
    exact ⟨c, rfl, o c H1 ρ1 μ1 w1 g1 h2⟩⟩
def dAnd (A B : DTs) : DTs := fun η μ => (A η μ).bind fun b μ1 => if b = true then B η μ1 else .ok false μ1
def dOr (A B : DTs) : DTs := fun η μ => (A η μ).bind fun b μ1 => if b = true then .ok true μ1 else B η μ1
def dNot (A : DTs) : DTs := fun η μ => (A η μ).bind fun b μ1 => .ok (!b) μ1
instance {t u : TT} {A B : DTs} [a : ST K E t A] [b : ST K E u B] : ST K E (tAnd t u) (dAnd A B) := ⟨fun w e h o =>
  a.run w e (wp_bind h) fun x H1 ρ1 μ1 w1 g1 h1 => by
    cases x with
    | true => exact b.run w1 (e.mono g1) h1 fun y H2 ρ2 μ2 w2 g2 h2 => o y H2 ρ2 μ2 w2 (g1.trans g2) h2
    | false => exact o false H1 ρ1 μ1 w1 g1 h1⟩
instance {t u : TT} {A B : DTs} [a : ST K E t A] [b : ST K E u B] : ST K E (tOr t u) (dOr A B) := ⟨fun w e h o =>
  a.run w e (wp_bind h) fun x H1 ρ1 μ1 w1 g1 h1 => by
    cases x with
    | false => exact b.run w1 (e.mono g1) h1 fun y H2 ρ2 μ2 w2 g2 h2 => o y H2 ρ2 μ2 w2 (g1.trans g2) h2
    | true => exact o true H1 ρ1 μ1 w1 g1 h1⟩
instance {t : TT} {A : DTs} [a : ST K E t A] : ST K E (tNot t) (dNot A) := ⟨fun w e h o =>
  a.run w e (wp_bind h) fun x H1 ρ1 μ1 w1 g1 h1 => o _ H1 ρ1 μ1 w1 g1 h1⟩
def dYes : DTs := fun _ μ => .ok true μ
instance : ST K E tYes dYes := ⟨fun w e h o => o true _ _ _ w (Grow.refl _ _) h⟩
/-! arguments, displays -/
/-- a length within the line -/
def chk {α : Type} (n : Nat) (r : Res α) : Res α := @ite _ (n ≤ 16777216) (Classical.propDecidable _) r .bad
theorem wp_chk {α : Type} {n : Nat} {r : Res α} {P : α → Mu → Prop} {X : Exn → Mu → Prop} (h : wp (chk n r) P X) : n ≤ sizeLine ∧ wp r P X := by
  unfold chk at h
  split at h
  · rename_i c
    exact ⟨c, h⟩
  · exact h.elim
def dNil : DA := fun _ μ => .ok [] μ
def dCons (Ta : DE) (Tr : DA) : DA := fun η μ => (Ta η μ).bind fun x μ1 => (Tr η μ1).bind fun xs μ2 => .ok (x :: xs) μ2
instance : SA K E tNil dNil := ⟨fun w e h o => o [] _ _ [] _ w (Grow.refl _ _) .nil h⟩
instance {ta : TE} {tr : TA} {Ta : DE} {Tr : DA} [a : SE K E ta Ta] [b : SA K E tr Tr] : SA K E (tCons ta tr) (dCons Ta Tr) := ⟨fun w e h o =>
  a.run w e (wp_bind h) fun x H1 ρ1 dx μ1 w1 g1 q1 h1 => b.run w1 (e.mono g1) (wp_bind h1) fun xs H2 ρ2 ds μ2 w2 g2 q2 h2 => o _ H2 ρ2 _ μ2 w2 (g1.trans g2) (.cons (q1.mono g2) q2) h2⟩
def dTup (Ta : DA) : DE := fun η μ => (Ta η μ).bind fun xs μ1 => chk xs.length (.ok (.tup xs) μ1)
def dLst (Ta : DA) : DE := fun η μ => (Ta η μ).bind fun xs μ1 => chk xs.length (.ok (.lst xs) μ1)
def dLstM (Ta : DA) : DE := fun η μ => (Ta η μ).bind fun xs μ1 => chk xs.length (.ok (.cell μ1.length) (μ1 ++ [.lst xs]))
instance {t : TA} {T : DA} [a : SA K E t T] : SE K E (tTup t) (dTup T) := ⟨fun w e h o =>
  a.run w e (wp_bind h) fun vs H1 ρ1 ds μ1 w1 g1 q1 h1 => ⟨by rw [q1.len]; exact (wp_chk h1).1, fun p hp => (o.mono g1).newT w1 q1 (wp_chk h1).2 hp⟩⟩
instance {t : TA} {T : DA} [a : SA K E t T] : SE K E (tLst t) (dLst T) := ⟨fun w e h o =>
  a.run w e (wp_bind h) fun vs H1 ρ1 ds μ1 w1 g1 q1 h1 => ⟨by rw [q1.len]; exact (wp_chk h1).1, fun p hp => (o.mono g1).newL w1 q1 (wp_chk h1).2 hp⟩⟩
/-- a list that is made to be changed -/
def tLstM (t : TA) : TE := tLst t
theorem pe_lstM {X : Cx} {es : List Expr} {pos : Pos} {t : TA} (h : PA X es t) : PE X (.List es pos) (tLstM t) := pe_lst h
instance {t : TA} {T : DA} [a : SA K E t T] : SE K E (tLstM t) (dLstM T) := ⟨fun w e h o =>
  a.run w e (wp_bind h) fun vs H1 ρ1 ds μ1 w1 g1 q1 h1 => ⟨by rw [q1.len]; exact (wp_chk h1).1, fun p hp => (o.mono g1).newM w1 q1 (wp_chk h1).2 hp⟩⟩
/-! calls -/
def dCB (f : List D → Mu → Res D) (T : DA) : DE := fun η μ => (T η μ).bind f
instance {r : List V → Hp → VK → Prop} {t : TA} {f : List D → Mu → Res D} {T : DA} [a : SA K E t T] [c : SC K r f] : SE K E (tCB r t) (dCB f T) := ⟨fun w e h o =>
  a.run w e (wp_bind h) fun vs H1 ρ1 ds μ1 w1 g1 q1 h1 => c.run w1 q1 h1 (o.mono g1)⟩
/-- exceptions of a def, over values, from those over data -/
def XOut0 (K : PySem.W.Frag) (E : XK) (X : Exn → Mu → Prop) (F ρ : List Addr) (H : Hp) : Prop := ∀ e d H' ρ' μ' vs, Wd K F ρ' μ' H' → Grow ρ ρ' H H' →
  H' d = some (.xd (e.ns.zip vs)) → d ∉ F ++ ρ' → e.ns.length = vs.length → DtAll K F ρ' H' vs e.ds → X e μ' → E (.ref (He.ga K e.cls)) (some d) H'
theorem EnvOk.xo0 {X : PX} {F ρ : List Addr} {H : Hp} {σ : L2.St} {η : Env} (e : EnvOk K E X F ρ H σ η) : XOut0 K (E σ) (fun x μ => X x η μ) F ρ H :=
  fun x d H' ρ' μ' vs w g h1 h2 h3 h4 h5 => e.xo σ η x d H' ρ' μ' vs w (e.toEnvOk0.mono g) g h1 h2 h3 h4 h5
/-- the promise of a def, from what it does to data -/
def spD (K : PySem.W.Frag) (f : FS) : Sp := fun vs H Q E => ∃ F ρ ds μ P X, Wd K F ρ μ H ∧ DtAll K F ρ H vs ds ∧ wp (f ds μ) P X ∧ Out K F ρ H P Q ∧ XOut0 K E X F ρ H
/-! statements -/
def dSeq (t u : DS) : DS := fun η μ => (t η μ).then u
def dNext : DS := fun η μ => .nx η μ
def dAsg (Te : DE) (G : DG) : DS := fun η μ => (Te η μ).to η fun x μ1 => (G x η μ1).to η fun η2 μ2 => .nx η2 μ2
def dIf (C : DTs) (t u : DS) : DS := fun η μ => (C η μ).to η fun b μ1 => if b = true then t η μ1 else u η μ1
def dRet (Te : DE) : DS := fun η μ => (Te η μ).to η fun d μ1 => .rt d μ1
def dRetN : DS := fun _ μ => .rt .non μ
def dDrop (Te : DE) : DS := fun η μ => (Te η μ).to η fun _ μ1 => .nx η μ1
def dBreak : DS := fun η μ => .bk η μ
def dCont : DS := fun η μ => .ct η μ
def dNever : DS := fun _ _ => .bad
instance {t u : TS} {T U : DS} [a : SS K E t T] [b : SS K E u U] : SS K E (tSeq t u) (dSeq T U) := ⟨fun {X F B σ H η ρ μ C} w e h o =>
  a.run w e (wp_then h) ⟨fun σ' H' η' ρ' μ' w' e' g' h' => b.run w' e' h' (o.mono g'), o.rt, o.bk, o.ct⟩⟩
instance : SS K E tNext dNext := ⟨fun w e h o => o.nx _ _ _ _ _ w e (Grow.refl _ _) h⟩
instance : SS K E tBreak dBreak := ⟨fun w e h o => o.bk _ _ _ _ _ w e (Grow.refl _ _) h⟩
instance : SS K E tCont dCont := ⟨fun w e h o => o.ct _ _ _ _ _ w e (Grow.refl _ _) h⟩
instance : SS K E tNever dNever := ⟨fun w e h o => h⟩
instance {te : TE} {g : TG} {Te : DE} {G : DG} {ks : List Nat} [a : SE K E te Te] [b : SG K E g G ks] : SS K E (tAsg te g) (dAsg Te G) := ⟨fun w e h o =>
  a.run w e (wp_to h) fun x H1 ρ1 dx μ1 w1 g1 q1 h1 => b.run w1 (e.mono g1) q1 (wp_to h1) fun σ' H' η' ρ' μ' w' e' g' _ _ h' => o.nx σ' H' η' ρ' μ' w' e' (g1.trans g') h'⟩
instance {c : TT} {t u : TS} {C : DTs} {T U : DS} [a : ST K E c C] [b : SS K E t T] [b' : SS K E u U] : SS K E (tIfS c t u) (dIf C T U) := ⟨fun w e h o =>
  a.run w e (wp_to h) fun x H1 ρ1 μ1 w1 g1 h1 => by
    cases x with
    | true => exact b.run w1 (e.mono g1) h1 (o.mono g1)
    | false => exact b'.run w1 (e.mono g1) h1 (o.mono g1)⟩
instance {te : TE} {Te : DE} [a : SE K E te Te] : SS K E (tRet te) (dRet Te) := ⟨fun w e h o =>
  a.run w e (wp_to h) fun x H1 ρ1 dx μ1 w1 g1 q1 h1 => o.rt x H1 ρ1 dx μ1 w1 g1 q1 h1⟩
instance : SS K E tRetN dRetN := ⟨fun w e h o => o.rt .non _ _ .non _ w (Grow.refl _ _) .non h⟩
instance {te : TE} {Te : DE} [a : SE K E te Te] : SS K E (tDrop te) (dDrop Te) := ⟨fun w e h o =>
  a.run w e (wp_to h) fun x H1 ρ1 dx μ1 w1 g1 q1 h1 => o.nx _ H1 _ ρ1 μ1 w1 (e.mono g1) g1 h1⟩
/-! targets -/
def dName (i : Nat) : DG := fun d η μ => .ok (η.set i (some d)) μ
instance {i : Nat} : SG K E (gName i) (dName i) [i] := ⟨fun {X F σ H η ρ μ v d P Q} w e q h o => o _ H _ ρ μ w (e.set q) (Grow.refl _ _) (List.length_set) (fun j hj => List.getElem?_set_ne (fun z => hj (by rw [z]; exact List.mem_singleton.mpr rfl))) h⟩
def dGNil : DGs := fun ds η μ => match ds with
  | [] => .ok η μ
  | _ => .bad
def dGCons (G : DG) (R : DGs) : DGs := fun ds η μ => match ds with
  | d :: r => (G d η μ).bind fun η' μ' => R r η' μ'
  | [] => .bad
/-- an exception of a target's part is wished for at the slots that stand then: only targets that change names alone -/
class Calm (G : DG) : Prop where
  no : ∀ d η μ e μ', G d η μ ≠ .exc e μ'
class Calms (G : DGs) : Prop where
  no : ∀ d η μ e μ', G d η μ ≠ .exc e μ'
instance {i : Nat} : Calm (dName i) := ⟨fun _ _ _ _ _ h => by cases h⟩
instance : Calms dGNil := ⟨fun d _ _ _ _ h => by cases d <;> cases h⟩
instance {G : DG} {R : DGs} [a : Calm G] [b : Calms R] : Calms (dGCons G R) := ⟨fun d η μ e μ' h => by
  cases d with
  | nil => cases h
  | cons x r =>
    unfold dGCons at h
    simp only at h
    cases c : G x η μ with
    | ok η1 μ1 => rw [c] at h; exact b.no _ _ _ _ _ h
    | exc e1 μ1 => exact a.no _ _ _ _ _ c
    | bad => rw [c] at h; cases h⟩
theorem wp_any {α : Type} {r : Res α} {P : α → Mu → Prop} {X X' : Exn → Mu → Prop} (n : ∀ e μ, r ≠ .exc e μ) (h : wp r P X) : wp r P X' := by
  cases r with
  | ok a μ => exact h
  | exc e μ => exact absurd rfl (n e μ)
  | bad => exact h
instance : SGs K E gNil dGNil [] := ⟨fun {X F σ H η ρ μ vs ds P Q} w e q h o => by
  cases q with
  | nil => exact ⟨rfl, o σ H η ρ μ w e (Grow.refl _ _) rfl (fun _ _ => rfl) h⟩
  | cons _ _ => exact h.elim⟩
instance {g : TG} {r : TGs} {G : DG} {R : DGs} {ks js : List Nat} [a : SG K E g G ks] [b : SGs K E r R js] [n : Calms R] : SGs K E (gCons g r) (dGCons G R) (ks ++ js) := ⟨fun {X F σ H η ρ μ vs ds P Q} w e q h o => by
  cases q with
  | nil => exact h.elim
  | cons q1 q2 =>
    refine ⟨_, _, rfl, a.run w e q1 (wp_bind h) fun σ' H' η' ρ' μ' w' e' g' l' k' h' => ?_⟩
    refine b.run w' e' (q2.mono g') (wp_any (n.no _ _ _) h') fun σ2 H2 η2 ρ2 μ2 w2 e2 g2 l2 k2 h2 => ?_
    exact o σ2 H2 η2 ρ2 μ2 w2 e2 (g'.trans g2) (l2.trans l') (fun i hi => (k2 i (fun z => hi (List.mem_append_right _ z))).trans (k' i (fun z => hi (List.mem_append_left _ z)))) h2⟩
def dGTup (n : Nat) (R : DGs) : DG := fun d η μ => match d with
  | .tup xs => if xs.length = n then R xs η μ else .bad
  | _ => .bad
instance {n : Nat} {R : DGs} [a : Calms R] : Calm (dGTup n R) := ⟨fun d η μ e μ' h => by
  unfold dGTup at h
  split at h
  · split at h
    · exact a.no _ _ _ _ _ h
    · cases h
  · cases h⟩
instance {n : Nat} {r : TGs} {R : DGs} {ks : List Nat} [b : SGs K E r R ks] : SG K E (gTup K n r) (dGTup n R) ks := ⟨fun {X F σ H η ρ μ v d P Q} w e q h o => by
  cases q with
  | tup na ea q' =>
    unfold dGTup at h
    simp only at h
    split at h
    · rename_i c
      exact ⟨_, _, rfl, SqT.of ea, q'.len.trans c, b.run w e q' h o⟩
    · exact h.elim
  | _ => exact h.elim⟩
def dGUnl (n : Nat) (R : DGs) : DG := fun d η μ => match asL μ d with
  | some xs => if xs.length = n then R xs η μ else .bad
  | none => .bad
instance {n : Nat} {R : DGs} [a : Calms R] : Calm (dGUnl n R) := ⟨fun d η μ e μ' h => by
  unfold dGUnl at h
  split at h
  · split at h
    · exact a.no _ _ _ _ _ h
    · cases h
  · cases h⟩
instance {n : Nat} {r : TGs} {R : DGs} {ks : List Nat} [b : SGs K E r R ks] : SG K E (gUnl K n r) (dGUnl n R) ks := ⟨fun {X F σ H η ρ μ v d P Q} w e q h o => by
  unfold dGUnl at h
  cases c : asL μ d with
  | none => rw [c] at h; exact h.elim
  | some xs =>
    rw [c] at h
    obtain ⟨a, vs, rfl, ea, q'⟩ := asL_at w q c
    simp only at h
    split at h
    · rename_i c2
      exact ⟨_, _, rfl, SqL.of ea, q'.len.trans c2, b.run w e q' h o⟩
    · exact h.elim⟩
/-- xs[i] = v -/
def dSet (o i v : D) (μ : Mu) : Res Unit := match o, i with
  | .cell a, .int k => match μ[a]? with
    | some (.lst xs) => match ixN xs.length k with
      | some j => .ok () (μ.set a (.lst (xs.set j v)))
      | none => .bad
    | _ => .bad
  | _, _ => .bad
def dGSub (To Ti : DE) : DG := fun d η μ => (To η μ).bind fun o μ1 => (Ti η μ1).bind fun i μ2 => (dSet o i d μ2).bind fun _ μ3 => .ok η μ3
theorem dSet_run {F ρ : List Addr} {H : Hp} {μ : Mu} {o i v : V} {do' di dv : D} {P : Unit → Mu → Prop} {X : Exn → Mu → Prop} {Q : Hp → Prop} (w : Wd K F ρ μ H) (ho : Dt K F ρ H o do') (hi : Dt K F ρ H i di) (hv : Dt K F ρ H v dv) (h : wp (dSet do' di dv μ) P X)
    (q : ∀ H' μ', Wd K F ρ μ' H' → Grow ρ ρ H H' → P () μ' → Q H') : rSetL o i v H Q := by
  unfold dSet at h
  split at h
  · rename_i a k
    cases ho with
    | @cell _ b hm =>
      cases hi with
      | int k =>
        cases c : μ[a]? with
        | none => rw [c] at h; exact h.elim
        | some m =>
          rw [c] at h
          cases m with
          | lst xs =>
            simp only at h
            obtain ⟨vs, e1, q1⟩ := w.ok _ _ _ hm c
            cases cj : ixN xs.length k with
            | none => rw [cj] at h; exact h.elim
            | some j =>
              rw [cj] at h
              have g := Grow.put (ρ := ρ) (H := H) (a := b) (o := .lst (vs.set j v)) (List.mem_of_getElem? hm)
              exact ⟨b, vs, k, j, rfl, rfl, e1, by rw [q1.len]; exact cj, q _ _ (w.put (m := .lst (xs.set j dv)) hm ⟨_, upd_same, (q1.set j hv).mono g⟩) g h⟩
          | _ => exact h.elim
  · exact h.elim
instance {to ti : TE} {To Ti : DE} [a : SE K E to To] [b : SE K E ti Ti] : SG K E (gSub to ti rSetL) (dGSub To Ti) [] := ⟨fun {X F σ H η ρ μ v d P Q} w e q h o =>
  a.run w e (wp_bind h) fun x H1 ρ1 dx μ1 w1 g1 q1 h1 => b.run w1 (e.mono g1) (wp_bind h1) fun y H2 ρ2 dy μ2 w2 g2 q2 h2 =>
    dSet_run w2 (q1.mono g2) q2 ((q.mono g1).mono g2) (wp_bind h2) fun H' μ' w' g' h' => o σ H' η ρ2 μ' w' (((e.mono g1).mono g2).mono g') ((g1.trans g2).trans g') rfl (fun _ _ => rfl) h'⟩
end
end
end DX

namespace DX
open PySem L2
noncomputable section
section
variable {K : PySem.W.Frag} {E : L2.St → XK}
/-! ### for -/
def forR (G : DG) (T : DS) : List D → Env → Mu → SR
  | [], η, μ => .nx η μ
  | x :: r, η, μ => (G x η μ).to η fun η' μ' => (T η' μ').turn (forR G T r)
def dFor (W : DA) (G : DG) (T : DS) : DS := fun η μ => (W η μ).to η fun its μ1 => forR G T its η μ1
instance {wi : TI} {g : TG} {tb : TS} {W : DA} {G : DG} {ks : List Nat} {T : DS} [a : SI K E wi W] [b : SG K E g G ks] [c : SS K E tb T] : SS K E (tFor wi g tb) (dFor W G T) := ⟨fun {X F B σ H η ρ μ C} w e h o =>
  a.run w e (wp_to h) fun J H1 ρ1 its μ1 w1 g1 wk h1 => by
    refine ⟨fun i m σ H => m = its.length - i ∧ i ≤ its.length ∧ ∃ η ρ μ, Wd K F ρ μ H ∧ EnvOk K E X F ρ H σ η ∧ Grow ρ1 ρ H1 H ∧ wpS (forR G T (its.drop i) η μ) C X,
      ⟨_, rfl, Nat.zero_le _, η, ρ1, μ1, w1, e.mono g1, Grow.refl _ _, h1⟩, ?_⟩
    rintro i m σ2 H2 ⟨rfl, hi, η2, ρ2, μ2, w2, e2, g2, h2⟩
    obtain ⟨go, stop, yld⟩ := wk F ρ2 μ2 H2 (fun _ h _ => h) g2 w2
    by_cases hlt : i < its.length
    · refine .inr ⟨go i hlt, fun σ' H' => i + 1 ≤ its.length ∧ ∃ η ρ μ, Wd K F ρ μ H' ∧ EnvOk K E X F ρ H' σ' η ∧ Grow ρ1 ρ H1 H' ∧ wpS (forR G T (its.drop (i + 1)) η μ) C X, fun σ' H' n => ⟨_, (by omega), rfl, n⟩, fun x H' y => ?_⟩
      obtain ⟨w3, g3, d, hd, q3⟩ := yld i x H' hlt y
      rw [List.drop_eq_getElem_cons hlt] at h2
      have ed : its[i] = d := by
        rw [List.getElem?_eq_getElem hlt] at hd
        exact Option.some.inj hd
      rw [ed] at h2
      refine b.run w3 (e2.mono g3) q3 (wp_to h2) fun σ4 H4 η4 ρ4 μ4 w4 e4 g4 _ _ h4 => ?_
      have g5 := (g2.trans g3).trans g4
      refine c.run w4 e4 (wp_turn h4) ⟨?_, ?_, ?_, ?_⟩
      · exact fun σ' H' η' ρ' μ' w' e' g' h' => ⟨hlt, η', ρ', μ', w', e', g5.trans g', h'⟩
      · exact fun v H' ρ' d μ' w' g' q' h' => o.rt v H' ρ' d μ' w' ((g1.trans g5).trans g') q' h'
      · exact fun σ' H' η' ρ' μ' w' e' g' h' => o.nx σ' H' η' ρ' μ' w' e' ((g1.trans g5).trans g') h'
      · exact fun σ' H' η' ρ' μ' w' e' g' h' => ⟨hlt, η', ρ', μ', w', e', g5.trans g', h'⟩
    · have ei : i = its.length := by omega
      subst ei
      rw [List.drop_length] at h2
      exact .inl ⟨stop, o.nx σ2 H2 η2 ρ2 μ2 w2 e2 (g1.trans g2) h2⟩⟩
/-! ### while: at most n turns -/
def whileR (C : DTs) (T : DS) : Nat → Env → Mu → SR
  | 0, _, _ => .bad
  | n + 1, η, μ => (C η μ).to η fun b μ1 => if b = true then (T η μ1).turn (whileR C T n) else .nx η μ1
def dWhile (n : Nat) (C : DTs) (T : DS) : DS := whileR C T n
def tWhileN (n : Nat) (c : TT) (tb : TS) : TS := tWhile c tb
instance {n : Nat} {c : TT} {tb : TS} {C : DTs} {T : DS} [a : ST K E c C] [b : SS K E tb T] : SS K E (tWhileN n c tb) (dWhile n C T) := ⟨fun {X F B σ H η ρ μ De} w e h o => by
  refine ⟨fun m σ1 H1 => ∃ η1 ρ1 μ1, Wd K F ρ1 μ1 H1 ∧ EnvOk K E X F ρ1 H1 σ1 η1 ∧ Grow ρ ρ1 H H1 ∧ wpS (whileR C T m η1 μ1) De X, ⟨n, η, ρ, μ, w, e, Grow.refl _ _, h⟩, ?_⟩
  rintro m σ1 H1 ⟨η1, ρ1, μ1, w1, e1, g1, h1⟩
  cases m with
  | zero => exact h1.elim
  | succ m =>
    refine a.run w1 e1 (wp_to h1) fun bb H2 ρ2 μ2 w2 g2 h2 => ?_
    cases bb with
    | false => exact o.nx σ1 H2 η1 ρ2 μ2 w2 (e1.mono g2) (g1.trans g2) h2
    | true =>
      have g12 := g1.trans g2
      rw [if_pos rfl]
      refine ⟨fun σ' H' => ∃ η1 ρ1 μ1, Wd K F ρ1 μ1 H' ∧ EnvOk K E X F ρ1 H' σ' η1 ∧ Grow ρ ρ1 H H' ∧ wpS (whileR C T m η1 μ1) De X, fun σ' H' hN => ⟨m, Nat.lt_succ_self m, hN⟩, ?_⟩
      refine b.run w2 (e1.mono g2) (wp_turn h2) ⟨?_, ?_, ?_, ?_⟩
      · exact fun σ' H' η' ρ' μ' w' e' g' h' => ⟨η', ρ', μ', w', e', g12.trans g', h'⟩
      · exact fun v H' ρ' d μ' w' g' q' h' => o.rt v H' ρ' d μ' w' (g12.trans g') q' h'
      · exact fun σ' H' η' ρ' μ' w' e' g' h' => o.nx σ' H' η' ρ' μ' w' e' (g12.trans g') h'
      · exact fun σ' H' η' ρ' μ' w' e' g' h' => ⟨η', ρ', μ', w', e', g12.trans g', h'⟩⟩
/-! ### comprehensions -/
class Mem1 (k : Nat) (vs : List Nat) : Prop where
  h : k ∈ vs
class Sub (ks vs : List Nat) : Prop where
  h : ∀ k ∈ ks, k ∈ vs
instance {k : Nat} {vs : List Nat} : Mem1 k (k :: vs) := ⟨List.mem_cons_self⟩
instance (priority := low) {k j : Nat} {vs : List Nat} [a : Mem1 k vs] : Mem1 k (j :: vs) := ⟨List.mem_cons_of_mem _ a.h⟩
instance {vs : List Nat} : Sub [] vs := ⟨fun _ h => nomatch h⟩
instance {k : Nat} {ks vs : List Nat} [a : Mem1 k vs] [b : Sub ks vs] : Sub (k :: ks) vs := ⟨fun j hj => by
  rcases List.mem_cons.mp hj with rfl | h
  · exact a.h
  · exact b.h j h⟩
instance {ks js vs : List Nat} [a : Sub ks vs] [b : Sub js vs] : Sub (ks ++ js) vs := ⟨fun j hj => by
  rcases List.mem_append.mp hj with h | h
  · exact a.h j h
  · exact b.h j h⟩
def lcR (G : DG) (C : DTs) (Te : DE) (η : Env) : List D → List D → Mu → Res (List D)
  | [], acc, μ => .ok acc μ
  | x :: r, acc, μ => (G x η μ).bind fun η' μ' => (C η' μ').bind fun b μ2 => if b = true then (Te η' μ2).bind fun z μ3 => lcR G C Te η r (acc ++ [z]) μ3 else lcR G C Te η r acc μ2
/-- within a comprehension no exception may rise -/
def noX {α : Type} (r : Res α) : Res α := match r with
  | .exc _ _ => .bad
  | r => r
def lcW (W : DA) (G : DG) (C : DTs) (Te : DE) (vs : List Nat) (η : Env) (μ : Mu) : Res (List D) := (W η μ).bind fun its μ1 => chk its.length (noX (lcR G C Te (wipeD η vs) its [] μ1))
def dLc (W : DA) (G : DG) (C : DTs) (Te : DE) (vs : List Nat) : DE := fun η μ => (lcW W G C Te vs η μ).bind fun zs μ1 => .ok (.lst zs) μ1
def dLcM (W : DA) (G : DG) (C : DTs) (Te : DE) (vs : List Nat) : DE := fun η μ => (lcW W G C Te vs η μ).bind fun zs μ1 => .ok (.cell μ1.length) (μ1 ++ [.lst zs])
theorem wipe_ext : ∀ (vs : List Nat) {σ σ2 : L2.St}, σ2.length = σ.length → (∀ i, i ∉ vs → σ2[i]? = σ[i]?) → wipe σ2 vs = wipe σ vs := by
  intro vs σ σ2 hl hk
  refine List.ext_getElem? fun i => ?_
  by_cases c : i ∈ vs
  · have wn : ∀ (vs : List Nat) (σ : L2.St), i ∈ vs → (wipe σ vs)[i]? = if i < σ.length then some none else none := by
      intro vs
      induction vs with
      | nil => intro σ h; cases h
      | cons j r ih =>
        intro σ h
        show ((wipe σ r).set j none)[i]? = _
        by_cases ej : i = j
        · subst ej
          by_cases l : i < σ.length
          · rw [if_pos l, List.getElem?_set_self (by rw [wipe_length]; exact l)]
          · rw [if_neg l]
            exact List.getElem?_eq_none (by rw [List.length_set, wipe_length]; omega)
        · rw [List.getElem?_set_ne (Ne.symm ej)]
          exact ih σ ((List.mem_cons.mp h).resolve_left ej)
    rw [wn vs σ2 c, wn vs σ c, hl]
  · rw [wipe_out c, wipe_out c]
    exact hk i c
theorem lc_run {wi : TI} {g : TG} {tt : TT} {te : TE} {vs : List Nat} {W : DA} {G : DG} {ks : List Nat} {C : DTs} {Te : DE} [a : SI K E wi W] [b : SG K EN g G ks] [c : ST K EN tt C] [e : SE K EN te Te] [sb : Sub ks vs]
    {X : PX} {F ρ : List Addr} {σ : L2.St} {H : Hp} {η : Env} {μ : Mu} {P : List D → Mu → Prop} {Q : VK} (w : Wd K F ρ μ H) (en : EnvOk K E X F ρ H σ η)
    (h : wp (lcW W G C Te vs η μ) P (fun e μ' => X e η μ'))
    (o : ∀ D H' ρ' zs vz μ', Wd K F ρ' μ' H' → Grow ρ ρ' H H' → H D = none → D ∉ F ++ ρ' → H' D = some (.lst vz) → DtAll K F ρ' H' vz zs → P zs μ' → Q (.ref D) H') : tLc wi g tt te vs σ H Q := by
  have hk := sb.h
  refine a.run w en (wp_bind h) fun J H1 ρ1 its μ1 w1 g1 wk h1 => ?_
  obtain ⟨hz, h1⟩ := wp_chk h1
  have h1 : wp (lcR G C Te (wipeD η vs) its [] μ1) P (fun e μ' => X0 e η μ') := by
    revert h1
    cases lcR G C Te (wipeD η vs) its [] μ1 <;> exact id
  intro D hD
  have fD := w1.fresh hD
  have fF := w1.freshF hD
  have w1' : Wd K (D :: F) ρ1 μ1 (upd H1 D (.lst [])) := w1.layAside hD
  have en1 : EnvOk0 K (D :: F) ρ1 H1 σ η := (en.toEnvOk0.mono g1).aside fun x hx hn => by
    intro z
    rcases List.mem_cons.mp z with rfl | z
    · exact hn hD
    · exact hx z
  refine ⟨fun i m H2 => m = its.length - i ∧ i ≤ its.length ∧ ∃ ρ2 μ2 acc vacc, Wd K (D :: F) ρ2 μ2 H2 ∧ Grow ρ1 ρ2 H1 H2 ∧ D ∉ ρ2 ∧ H2 D = some (.lst vacc) ∧ DtAll K (D :: F) ρ2 H2 vacc acc ∧ acc.length ≤ i ∧ wp (lcR G C Te (wipeD η vs) (its.drop i) acc μ2) P (fun e μ' => X0 e η μ'),
    ⟨_, rfl, Nat.zero_le _, ρ1, μ1, [], [], w1', Grow.fresh hD, fD, upd_same, .nil, Nat.le_refl _, h1⟩, ?_⟩
  rintro i m H2 ⟨rfl, hi, ρ2, μ2, acc, vacc, w2, g2, nD, hD2, qa, hl, h2⟩
  have w2F : Wd K F ρ2 μ2 H2 := w2.drop
  have offD : ∀ a, a ∉ F → H1 a ≠ none → a ∉ D :: F := fun x hx hn z => by
    rcases List.mem_cons.mp z with rfl | z
    · exact hn hD
    · exact hx z
  obtain ⟨go, stop, yld⟩ := wk (D :: F) ρ2 μ2 H2 offD g2 w2
  by_cases hlt : i < its.length
  · refine .inr ⟨go i hlt, fun H' => i + 1 ≤ its.length ∧ ∃ ρ2 μ2 acc vacc, Wd K (D :: F) ρ2 μ2 H' ∧ Grow ρ1 ρ2 H1 H' ∧ D ∉ ρ2 ∧ H' D = some (.lst vacc) ∧ DtAll K (D :: F) ρ2 H' vacc acc ∧ acc.length ≤ i + 1 ∧ wp (lcR G C Te (wipeD η vs) (its.drop (i + 1)) acc μ2) P (fun e μ' => X0 e η μ'), fun H' n => ⟨_, (by omega), rfl, n⟩, fun x H' y => ?_⟩
    obtain ⟨w3, g3, d, hd, q3⟩ := yld i x H' hlt y
    rw [List.drop_eq_getElem_cons hlt] at h2
    have ed : its[i] = d := by
      rw [List.getElem?_eq_getElem hlt] at hd
      exact Option.some.inj hd
    rw [ed] at h2
    have e3 : EnvOk K EN X0 (D :: F) ρ2 H' (wipe σ vs) (wipeD η vs) := ⟨((en1.mono g2).mono g3).wipe vs, xout0⟩
    refine b.run w3 e3 q3 (wp_bind h2) fun σ4 H4 η4 ρ4 μ4 w4 e4 g4 l4 k4 h4 => ⟨?_, ?_⟩
    · have kk : ∀ i, i ∉ vs → σ4[i]? = (wipe σ vs)[i]? := fun j hj => k4 j fun z => hj (hk j z)
      have ww : wipe (wipe σ vs) vs = wipe σ vs := wipe_ext vs (wipe_length σ vs) fun j hj => wipe_out hj
      exact (wipe_ext vs l4 kk).trans ww
    refine c.run w4 e4 (wp_bind h4) fun bb H5 ρ5 μ5 w5 g5 h5 => ?_
    have g35 := (g3.trans g4).trans g5
    have keepD : H5 D = some (.lst vacc) := g35.keep D _ nD hD2
    have nD5 : D ∉ ρ5 := g35.stays nD hD2
    cases bb with
    | false =>
      rw [if_neg Bool.false_ne_true] at h5 ⊢
      exact ⟨hlt, ρ5, μ5, acc, vacc, w5, g2.trans g35, nD5, keepD, qa.mono g35, by omega, h5⟩
    | true =>
      rw [if_pos rfl] at h5 ⊢
      refine e.run w5 (e4.mono g5) (wp_bind h5) fun y5 H6 ρ6 d6 μ6 w6 g6 q6 h6 => ?_
      have g36 := g35.trans g6
      have keep6 : H6 D = some (.lst vacc) := g36.keep D _ nD hD2
      have nD6 : D ∉ ρ6 := g36.stays nD hD2
      have qa6 := qa.mono g36
      refine ⟨vacc, keep6, by rw [qa.len]; omega, hlt, ρ6, μ6, acc ++ [d6], vacc ++ [y5], ?_, ?_, nD6, upd_same, ?_, by rw [List.length_append, List.length_singleton]; omega, h6⟩
      · exact w6.touch List.mem_cons_self nD6
      · refine ⟨fun x u hx hu => ?_, (g2.trans g36).ext, (g2.trans g36).new⟩
        rw [upd_ne (ne_of_none hu hD)]
        exact (g2.trans g36).keep x u hx hu
      · exact (qa6.app (.one q6)).touch List.mem_cons_self
  · have ei : i = its.length := by omega
    subst ei
    rw [List.drop_length] at h2
    refine .inl ⟨stop, ?_⟩
    have gg := g1.trans g2
    refine o D H2 ρ2 acc vacc μ2 w2F gg ?_ (app_not fF nD) hD2 (qa.aside fun x hx _ => fun z => hx (List.mem_cons_of_mem _ z)) h2
    exact g1.free (fun z => fD (g1.sub _ z)) hD
instance {wi : TI} {g : TG} {tt : TT} {te : TE} {vs : List Nat} {W : DA} {G : DG} {ks : List Nat} {C : DTs} {Te : DE} [a : SI K E wi W] [b : SG K EN g G ks] [c : ST K EN tt C] [e : SE K EN te Te] [sb : Sub ks vs] : SE K E (tLc wi g tt te vs) (dLc W G C Te vs) := ⟨fun w en h o =>
  lc_run w en (wp_bind h) fun D H' ρ' zs vz μ' w' g' _ nD e' q' h' => o _ H' ρ' _ μ' w' g' (.lst nD e' q') h'⟩
theorem ps_whileN (n : Nat) {X : Cx} {test : Expr} {body : List Stmt} {pos : Pos} {t : TT} {tb : TS} (h : PS X (.While test body [] pos) (tWhile t tb)) : PS X (.While test body [] pos) (tWhileN n t tb) := h
end
end
end DX

namespace DX
open PySem PySem.Spec PyProof.Rows L2
noncomputable section
/-! ### t * 1 is t itself -/
theorem tuple_mul1 (l : Addr) (items : Array Value) (n : Nat) (dd : Option Addr) (sl : Array (Option Value)) (u : Tok) :
    Meets (Builtin.«tuple.__mul__» ⟨[.ref l, .int 1 u], []⟩) (fun _ R s => s.heap.get? l = some { cls := .type "tuple", dict := dd, data := .seq items n, slots := sl } ∧ R (.ok (.ret (Value.ref l))) s) :=
  .of_wp fun prog w A R s h => by
    obtain ⟨hp, g, d, tk, os⟩ := s
    obtain ⟨hl, h⟩ := h
    have f1 := AutoSeq1.idx_int
    have c0 : (decide ((1 : Int) < -(2 ^ 63)) || decide ((1 : Int) ≥ 2 ^ 63)) = false := by decide
    have c1 : (items.isEmpty || (1 : Int) == 1) = true := by simp
    wp_walk using wpAny_loadPart' hl
    repeat (first
      | (refine wpAny_ite_false (decide_eq_false (by rw [c0]; exact Bool.false_ne_true)) ?_; wp_walk using wpAny_loadPart' hl)
      | (refine wpAny_ite_true (decide_eq_true c1) ?_; wp_walk using wpAny_loadPart' hl))
    exact ⟨_, rfl, h⟩
def rRep1 (K : PySem.W.Frag) : R2 := fun x y H Q => ∃ l xs, x = .ref l ∧ y = .int 1 ∧ SqT K H l xs ∧ Q (.ref l) H
theorem op_rep1 {X : Cx} : OpR X (binaryOp .Mult) (rRep1 X.K) := by
  intro pins s σ H x y v u Q I rx ry h
  obtain ⟨l, xs, rfl, rfl, hT, q⟩ := h
  cases rx
  obtain ⟨t, rfl⟩ := ry
  obtain ⟨its, r, ⟨⟨cls, dd, data, sl⟩, ho, hc, n, hd⟩, hs⟩ := I.tuple hT
  simp only at hc hd
  subst hc hd
  refine wpAny_binaryOp_repeat_ref (T := "tuple") (U := "int") (by decide) ⟨_, ho, rfl⟩ (fun s' => typeIs_int s' 1 t) noFill_tuple_mul F.fills_int_mul F.slot_int_rmul repeat_tuple F.slot_int_index.lookup
    (call_meets F.slot_int_rmul (typeIs_int s 1 t) F.entry_int_rmul (F.args_int_rmul_2 _ _) (int_rmul_tuple 1 t l its.toArray n dd sl)
      ⟨ho, rfl, ⟨_, ho, rfl⟩, call_meets F.slot_tuple_mul ⟨_, ho, rfl⟩ F.entry_tuple_mul (F.args_tuple_mul_2 _ _) (tuple_mul1 l its.toArray n dd sl t) ⟨ho, ?_⟩⟩)
  exact ⟨.ref l, H, I, rfl, q⟩
/-! ### t * 0 is () -/
theorem tuple_mul0 (l : Addr) (items : Array Value) (n : Nat) (dd : Option Addr) (sl : Array (Option Value)) (x : Int) (u : Tok) (c0 : (decide (x < -(2 ^ 63)) || decide (x ≥ 2 ^ 63)) = false) (c1 : (items.isEmpty || x == 1) = false) (c2 : (decide (x ≤ 0) || items.isEmpty) = true) :
    Meets (Builtin.«tuple.__mul__» ⟨[.ref l, .int x u], []⟩) (fun _ R s => s.heap.get? l = some { cls := .type "tuple", dict := dd, data := .seq items n, slots := sl } ∧
      R (.ok (.ret (Value.ref s.heap.objs.size))) { s with heap := s.heap.push { cls := Value.type "tuple", data := Data.seq #[] }, toks := s.toks }) :=
  .of_wp fun prog w A R s h => by
    obtain ⟨hp, g, d, tk, os⟩ := s
    obtain ⟨hl, h⟩ := h
    have f1 := AutoSeq1.idx_int
    wp_walk using wpAny_loadPart' hl
    repeat (first
      | (refine wpAny_ite_false (decide_eq_false (by rw [c0]; exact Bool.false_ne_true)) ?_; wp_walk using wpAny_loadPart' hl)
      | (refine wpAny_ite_false (decide_eq_false (by rw [c1]; exact Bool.false_ne_true)) ?_; wp_walk using wpAny_loadPart' hl)
      | (refine wpAny_ite_true (decide_eq_true c2) ?_; wp_walk using wpAny_loadPart' hl))
    exact ⟨_, rfl, h⟩
def rRep0 (K : PySem.W.Frag) : R2 := fun x y H Q => ∃ l k xs, x = .ref l ∧ y = .int k ∧ SqT K H l xs ∧ xs ≠ [] ∧ -1000 ≤ k ∧ k ≤ 0 ∧ ∀ p, H p = none → Q (.ref p) (upd H p (.tup []))
theorem op_rep0 {X : Cx} : OpR X (binaryOp .Mult) (rRep0 X.K) := by
  intro pins s σ H x y v u Q I rx ry h
  obtain ⟨l, k, xs, rfl, rfl, hT, hne, h1, h2, q⟩ := h
  cases rx
  obtain ⟨t, rfl⟩ := ry
  obtain ⟨its, r, ⟨⟨cls, dd, data, sl⟩, ho, hc, n, hd⟩, hs⟩ := I.tuple hT
  simp only at hc hd
  subst hc hd
  have hle : its.length = xs.length := r.length.symm
  have hn : its ≠ [] := fun e => hne (by
    rw [e] at hle
    exact List.eq_nil_of_length_eq_zero hle.symm)
  have hi : its.toArray.isEmpty = false := by
    cases its with
    | nil => exact absurd rfl hn
    | cons a b => rfl
  have c0 : (decide (k < -(2 ^ 63)) || decide (k ≥ 2 ^ 63)) = false := by
    rw [decide_eq_false (by omega), decide_eq_false (by omega)] <;> rfl
  have c1 : (its.toArray.isEmpty || k == 1) = false := by
    rw [hi, Bool.false_or]
    exact beq_eq_false_iff_ne.mpr (by omega)
  have c2 : (decide (k ≤ 0) || its.toArray.isEmpty) = true := by
    rw [hi, Bool.or_false]
    exact decide_eq_true (by omega)
  refine wpAny_binaryOp_repeat_ref (T := "tuple") (U := "int") (by decide) ⟨_, ho, rfl⟩ (fun s' => typeIs_int s' k t) noFill_tuple_mul F.fills_int_mul F.slot_int_rmul repeat_tuple F.slot_int_index.lookup
    (call_meets F.slot_int_rmul (typeIs_int s k t) F.entry_int_rmul (F.args_int_rmul_2 _ _) (int_rmul_tuple k t l its.toArray n dd sl)
      ⟨ho, rfl, ⟨_, ho, rfl⟩, call_meets F.slot_tuple_mul ⟨_, ho, rfl⟩ F.entry_tuple_mul (F.args_tuple_mul_2 _ _) (tuple_mul0 l its.toArray n dd sl k t c0 c1 c2) ⟨ho, ?_⟩⟩)
  refine ⟨.ref s.heap.objs.size, _, I.laid (t' := s.toks) (o := .tup []) (fun b ob q => Heap.get?_push_of_some _ q) (Nat.le_refl _) ?_, rfl, q _ (I.hok.fresh (Nat.le_refl _))⟩
  exact ⟨by decide, _, .nil, IsTup.new _ _⟩
/-! ### a text so many times -/
def strRep (n : Nat) (x : Str) : Str := ⟨(List.replicate n x.cps).foldl (· ++ ·) #[]⟩
def rMulS : R2 := fun x y H Q => ∃ z k, x = .str z ∧ y = .int k ∧ -1000 ≤ k ∧ k ≤ 1000 ∧ z.length ≤ 1000 ∧ Q (.str (strRep k.toNat z)) H
theorem fold_nil (n : Nat) : (List.replicate n (#[] : Array Nat)).foldl (· ++ ·) #[] = #[] := by
  induction n with
  | zero => rfl
  | succ n ih => rw [List.replicate_succ, List.foldl_cons]; exact ih
theorem fold_size (c : Array Nat) : ∀ (n : Nat) (acc : Array Nat), ((List.replicate n c).foldl (· ++ ·) acc).size = acc.size + n * c.size
  | 0, acc => by simp
  | n + 1, acc => by
    rw [List.replicate_succ, List.foldl_cons, fold_size c n, Array.size_append, Nat.succ_mul]
    omega
theorem op_mulS {X : Cx} : OpR X (binaryOp .Mult) rMulS := by
  intro pins s σ H x y v u Q I rx ry h
  obtain ⟨z, k, rfl, rfl, h1, h2, hz, q⟩ := h
  obtain ⟨t, rfl⟩ := rx
  obtain ⟨t', rfl⟩ := ry
  refine P.mul_str ?_ ?_ ?_ ?_
  · rw [decide_eq_false (by omega), decide_eq_false (by omega)]; rfl
  · intro c _
    have : (2 : Int) ^ 63 - 1 ≥ k * 1000000 := by omega
    have e : (z.length : Int) ≤ (2 ^ 63 - 1) / k := by
      refine (Int.le_ediv_iff_mul_le (by omega)).mpr ?_
      have a1 : (z.length : Int) * k ≤ 1000 * k := Int.mul_le_mul_of_nonneg_right (by omega) (by omega)
      omega
    omega
  · intro _ _
    unfold Builtin.Str.tooLong
    have a1 : z.length * k.toNat ≤ 1000 * 1000 := Nat.mul_le_mul hz (by omega)
    rw [sizeLine_eq]
    exact decide_eq_false (by omega)
  · by_cases c : k < 1
    · rw [if_pos c]
      have e : strRep k.toNat z = Str.empty := by
        have e : k.toNat = 0 := by omega
        rw [e]
        rfl
      rw [e] at q
      exact ⟨by decide, .str Str.empty, H, I.tok _, ⟨_, rfl⟩, q⟩
    · rw [if_neg c]
      by_cases c2 : (k == 1 || z.length == 0) = true
      · rw [if_pos c2]
        have e : strRep k.toNat z = z := by
          obtain ⟨cps⟩ := z
          unfold strRep
          rcases Bool.or_eq_true_iff.mp c2 with e | e
          · have e1 : k = 1 := by simpa using e
            subst e1
            show Str.mk (#[] ++ cps) = Str.mk cps
            rw [Array.empty_append]
          · have e0 : cps.size = 0 := by
              have : (Str.mk cps).length = 0 := by simpa using e
              exact this
            have e1 : cps = #[] := Array.eq_empty_of_size_eq_zero e0
            subst e1
            rw [fold_nil]
        rw [e] at q
        exact ⟨.str z, H, I, ⟨_, rfl⟩, q⟩
      · rw [if_neg c2]
        refine ⟨?_, .str (strRep k.toNat z), H, I.tok _, ⟨_, rfl⟩, q⟩
        have a1 : k.toNat * z.cps.size ≤ 1000 * 1000 := Nat.mul_le_mul (by omega) hz
        have e := fold_size z.cps k.toNat #[]
        show ((List.replicate k.toNat z.cps).foldl (· ++ ·) #[]).size ≤ sizeLine
        rw [e, sizeLine_eq]
        have e0 : (#[] : Array Nat).size = 0 := rfl
        omega
end
end DX

namespace DX
open PySem L2
noncomputable section
/-! ### data as the library's data -/
mutual
def toP : D → PyData
  | .non => .none
  | .bl b => .bool b
  | .int i => .int i
  | .str s => .str s
  | .tup xs => .tuple (toPs xs)
  | .lst xs => .list (toPs xs)
  | .ty _ => .none
  | .cls _ => .none
  | .cell _ => .none
  | .obj _ _ _ => .none
  | .scr _ => .none
  | .fn _ => .none
  | .dK _ _ => .none
  | .dT _ _ => .none
def toPs : List D → List PyData
  | [] => []
  | x :: r => toP x :: toPs r
end
mutual
/-- plain data of a depth below n -/
def plain : Nat → D → Bool
  | _, .non => true
  | _, .bl _ => true
  | _, .int _ => true
  | _, .str s => PyData.strOk s
  | 0, .tup _ => false
  | n + 1, .tup xs => decide (xs.length ≤ 100000) && plains n xs
  | 0, .lst _ => false
  | n + 1, .lst xs => decide (xs.length ≤ 100000) && plains n xs
  | _, .ty _ => false
  | _, .cls _ => false
  | _, .cell _ => false
  | _, .obj _ _ _ => false
  | _, .scr _ => false
  | _, .fn _ => false
  | _, .dK _ _ => false
  | _, .dT _ _ => false
def plains : Nat → List D → Bool
  | _, [] => true
  | n, x :: r => plain n x && plains n r
end
theorem plain_tup {n : Nat} {xs : List D} (h : plain (n + 1) (.tup xs) = true) : xs.length ≤ 100000 ∧ plains n xs = true := by
  simpa [plain] using h
theorem plain_lst {n : Nat} {xs : List D} (h : plain (n + 1) (.lst xs) = true) : xs.length ≤ 100000 ∧ plains n xs = true := by
  simpa [plain] using h
theorem plain_tup_of {n : Nat} {xs : List D} (h1 : xs.length ≤ 100000) (h2 : plains n xs = true) : plain (n + 1) (.tup xs) = true := by
  simp [plain, h1, h2]
theorem plain_lst_of {n : Nat} {xs : List D} (h1 : xs.length ≤ 100000) (h2 : plains n xs = true) : plain (n + 1) (.lst xs) = true := by
  simp [plain, h1, h2]
theorem plain_tup0 {xs : List D} : ¬ plain 0 (.tup xs) = true := by simp [plain]
theorem plain_lst0 {xs : List D} : ¬ plain 0 (.lst xs) = true := by simp [plain]
theorem plains_cons {n : Nat} {x : D} {xs : List D} : plains n (x :: xs) = (plain n x && plains n xs) := by simp [plains]
theorem plains_nil {n : Nat} : plains n [] = true := by simp [plains]
theorem plains_of {n : Nat} : ∀ {xs : List D}, (∀ x ∈ xs, plain n x = true) → plains n xs = true
  | [], _ => plains_nil
  | x :: r, h => by rw [plains_cons, h x List.mem_cons_self, plains_of (fun y hy => h y (List.mem_cons_of_mem _ hy))]; rfl
theorem plains_mem {n : Nat} : ∀ {xs : List D}, plains n xs = true → ∀ x ∈ xs, plain n x = true
  | [], _, x, h => nomatch h
  | y :: r, h, x, hx => by
    rw [plains_cons, Bool.and_eq_true] at h
    rcases List.mem_cons.mp hx with rfl | z
    · exact h.1
    · exact plains_mem h.2 x z
theorem plain_int {n : Nat} {i : Int} : plain n (.int i) = true := by cases n <;> simp [plain]
theorem plain_bl {n : Nat} {i : Bool} : plain n (.bl i) = true := by cases n <;> simp [plain]
theorem plain_non {n : Nat} : plain n .non = true := by cases n <;> simp [plain]
theorem plain_str {n : Nat} {s : Str} : plain n (.str s) = PyData.strOk s := by cases n <;> simp [plain]
theorem plains_ints {n : Nat} (ns : List Int) : plains n (ns.map D.int) = true := plains_of fun x hx => by
  obtain ⟨i, _, rfl⟩ := List.mem_map.mp hx
  exact plain_int
/-- a tuple of ints -/
theorem plain_ints {n : Nat} {ns : List Int} (h : ns.length ≤ 100000) : plain (n + 1) (.tup (ns.map D.int)) = true := plain_tup_of (by rw [List.length_map]; exact h) (plains_ints ns)
section
variable {K : PySem.W.Frag}
mutual
theorem plain_shape : ∀ (n : Nat) (d : D), plain n d = true → (toP d).canLay0 = true ∧ (toP d).depth ≤ n
  | n, .non, _ => by simp [toP, PyData.canLay0, PyData.depth]
  | n, .bl _, _ => by simp [toP, PyData.canLay0, PyData.depth]
  | n, .int _, _ => by simp [toP, PyData.canLay0, PyData.depth]
  | n, .str s, h => by
    have h' : PyData.strOk s = true := by simpa [plain] using h
    simp [toP, PyData.canLay0, PyData.depth, h']
  | 0, .tup _, h => by simp [plain] at h
  | n + 1, .tup xs, h => by
    have q := plains_shape n xs (plain_tup h).2
    refine ⟨by simpa [toP, PyData.canLay0] using q.1, ?_⟩
    simp only [toP, PyData.depth]
    have := q.2
    omega
  | 0, .lst _, h => by simp [plain] at h
  | n + 1, .lst xs, h => by
    have q := plains_shape n xs (plain_lst h).2
    refine ⟨by simpa [toP, PyData.canLay0] using q.1, ?_⟩
    simp only [toP, PyData.depth]
    have := q.2
    omega
  | n, .ty _, h => by simp [plain] at h
  | n, .cls _, h => by simp [plain] at h
  | n, .cell _, h => by simp [plain] at h
  | n, .obj _ _ _, h => by simp [plain] at h
  | n, .scr _, h => by simp [plain] at h
  | n, .fn _, h => by simp [plain] at h
  | n, .dK _ _, h => by simp [plain] at h
  | n, .dT _ _, h => by simp [plain] at h
theorem plains_shape : ∀ (n : Nat) (ds : List D), plains n ds = true → PyData.canLayAll0 (toPs ds) = true ∧ PyData.depthAll (toPs ds) ≤ n
  | n, [], _ => by simp [toPs, PyData.canLayAll0, PyData.depthAll]
  | n, x :: r, h => by
    have h' : plain n x = true ∧ plains n r = true := by simpa [plains] using h
    have a := plain_shape n x h'.1
    have b := plains_shape n r h'.2
    refine ⟨by simp [toPs, PyData.canLayAll0, a.1, b.1], ?_⟩
    simp only [toPs, PyData.depthAll]
    have := a.2
    have := b.2
    omega
end
mutual
theorem plain_dp {F ρ : List Addr} {H : Hp} : ∀ (n : Nat) (d : D) {v : V}, plain n d = true → Dt K F ρ H v d → Dp K H v (toP d)
  | n, .non, v, _, q => by cases q; exact .non
  | n, .bl b, v, _, q => by cases q; exact .bl b
  | n, .int b, v, _, q => by cases q; exact .int b
  | n, .str b, v, _, q => by cases q; exact .str b
  | 0, .tup _, v, h, q => by simp [plain] at h
  | n + 1, .tup xs, v, h, q => by
    cases q with
    | tup na e qs => exact .tup (SqT.of e) (plains_dp n xs (plain_tup h).2 qs)
  | 0, .lst _, v, h, q => by simp [plain] at h
  | n + 1, .lst xs, v, h, q => by
    cases q with
    | lst na e qs => exact .lst (SqL.of e) (plains_dp n xs (plain_lst h).2 qs)
  | n, .ty _, v, h, q => by simp [plain] at h
  | n, .cls _, v, h, q => by simp [plain] at h
  | n, .cell _, v, h, q => by simp [plain] at h
  | n, .obj _ _ _, v, h, q => by simp [plain] at h
  | n, .scr _, v, h, q => by simp [plain] at h
  | n, .fn _, v, h, q => by simp [plain] at h
  | n, .dK _ _, v, h, q => by simp [plain] at h
  | n, .dT _ _, v, h, q => by simp [plain] at h
theorem plains_dp {F ρ : List Addr} {H : Hp} : ∀ (n : Nat) (ds : List D) {vs : List V}, plains n ds = true → DtAll K F ρ H vs ds → DpAll K H vs (toPs ds)
  | n, [], vs, _, q => by cases q; exact .nil
  | n, x :: r, vs, h, q => by
    have h' : plain n x = true ∧ plains n r = true := by simpa [plains] using h
    cases q with
    | cons a b => exact .cons (plain_dp n x h'.1 a) (plains_dp n r h'.2 b)
end
/-- lists that may change, as they stand -/
def dr (μ : Mu) : Nat → D → D
  | n + 1, .tup xs => .tup (xs.map (dr μ n))
  | n + 1, .lst xs => .lst (xs.map (dr μ n))
  | n + 1, .cell i => match μ[i]? with
    | some (.lst xs) => .lst (xs.map (dr μ n))
    | _ => .cell i
  | _, d => d
def der (μ : Mu) (d : D) : D := if plain 60 d = true then d else dr μ 8 d
theorem der_plain {μ : Mu} {d : D} (h : plain 60 d = true) : der μ d = d := if_pos h
theorem dr_all {F ρ : List Addr} {H : Hp} {μ : Mu} {n m : Nat} (ih : ∀ (d : D) (v : V), plain m (dr μ n d) = true → Dt K F ρ H v d → Dp K H v (toP (dr μ n d))) : ∀ (ds : List D) (vs : List V), plains m (ds.map (dr μ n)) = true → DtAll K F ρ H vs ds → DpAll K H vs (toPs (ds.map (dr μ n)))
  | [], vs, _, q => by cases q; exact .nil
  | x :: r, vs, h, q => by
    have h' : plain m (dr μ n x) = true ∧ plains m (r.map (dr μ n)) = true := by simpa [plains] using h
    cases q with
    | cons a b => exact .cons (ih x _ h'.1 a) (dr_all ih r _ h'.2 b)
theorem dr_dp {F ρ : List Addr} {μ : Mu} {H : Hp} (w : Wd K F ρ μ H) : ∀ (n m : Nat) (d : D) (v : V), plain m (dr μ n d) = true → Dt K F ρ H v d → Dp K H v (toP (dr μ n d))
  | 0, m, d, v, h, q => by
    have e : dr μ 0 d = d := by cases d <;> rfl
    rw [e] at h ⊢
    exact plain_dp m d h q
  | n + 1, m, d, v, h, q => by
    cases d with
    | tup xs =>
      cases m with
      | zero => simp [dr, plain] at h
      | succ m =>
        cases q with
        | tup na e qs => exact .tup (SqT.of e) (dr_all (fun d v h q => dr_dp w n m d v h q) xs _ (plain_tup h).2 qs)
    | lst xs =>
      cases m with
      | zero => simp [dr, plain] at h
      | succ m =>
        cases q with
        | lst na e qs => exact .lst (SqL.of e) (dr_all (fun d v h q => dr_dp w n m d v h q) xs _ (plain_lst h).2 qs)
    | cell i =>
      cases c : μ[i]? with
      | none =>
        simp only [dr, c] at h
        simp [plain] at h
      | some mo =>
        cases mo with
        | lst xs =>
          have e : dr μ (n + 1) (.cell i) = .lst (xs.map (dr μ n)) := by simp only [dr, c]
          rw [e] at h ⊢
          cases m with
          | zero => simp [plain] at h
          | succ m =>
            cases q with
            | cell hi =>
              obtain ⟨vs, e1, q1⟩ := w.ok _ _ _ hi c
              exact .lst (SqL.of e1) (dr_all (fun d v h q => dr_dp w n m d v h q) xs _ (plain_lst h).2 q1)
        | _ =>
          simp only [dr, c] at h
          simp [plain] at h
    | _ => exact plain_dp m _ h q
theorem der_dp {F ρ : List Addr} {μ : Mu} {H : Hp} (w : Wd K F ρ μ H) {d : D} {v : V} (h : plain 60 (der μ d) = true) (q : Dt K F ρ H v d) : Dp K H v (toP (der μ d)) := by
  unfold der at h ⊢
  split at h
  · rename_i c
    rw [if_pos c]
    exact plain_dp 60 _ c q
  · rename_i c
    rw [if_neg c]
    exact dr_dp w 8 60 d v h q
theorem der_shaped {μ : Mu} {d : D} (h : plain 60 (der μ d) = true) : SeqAt.shaped (toP (der μ d)) = true := by
  have q := plain_shape 60 _ h
  unfold SeqAt.shaped
  rw [q.1, decide_eq_true (by have := q.2; omega)]
  rfl
/-- on a condition -/
def grd {α : Type} (c : Prop) (r : Res α) : Res α := @ite _ c (Classical.propDecidable c) r .bad
theorem wp_grd {α : Type} {c : Prop} {r : Res α} {P : α → Mu → Prop} {X : Exn → Mu → Prop} (h : wp (grd c r) P X) : c ∧ wp r P X := by
  unfold grd at h
  split at h
  · rename_i c
    exact ⟨c, h⟩
  · exact h.elim
theorem grd_pos {α : Type} {c : Prop} {r : Res α} (h : c) : grd c r = r := if_pos h
theorem chk_pos {α : Type} {n : Nat} {r : Res α} (h : n ≤ 16777216) : chk n r = r := if_pos h
/-! ### operators -/
def rAddU (K : PySem.W.Frag) : R2 := fun x y H Q => rI0 (fun i j => .int (i + j)) x y H Q ∨ (∃ i j, x = .str i ∧ y = .str j ∧ i.length + j.length ≤ sizeLine ∧ Q (.str (i ++ j)) H) ∨ rCatA K x y H Q ∨ rCat x y H Q
theorem op_addU {X : Cx} : OpR X (binaryOp .Add) (rAddU X.K) := op_add.or (op_add_str.or (op_catA.or op_cat))
def addL (μ : Mu) (x y : D) : Res D := match asL μ x, asL μ y with
  | some xs, some ys => chk (xs.length + ys.length) (.ok (.lst (xs ++ ys)) μ)
  | _, _ => .bad
def addD (x y : D) (μ : Mu) : Res D := match x, y with
  | .int i, .int j => .ok (.int (i + j)) μ
  | .str i, .str j => chk (i.length + j.length) (.ok (.str (i ++ j)) μ)
  | .tup xs, .tup ys => chk (xs.length + ys.length) (.ok (.tup (xs ++ ys)) μ)
  | x, y => addL μ x y
instance : SR2 K (rAddU K) addD := ⟨fun {X F H ρ μ x y dx dy P Q} w hx hy h o => by
  unfold addD at h
  split at h
  · cases hx; cases hy
    exact .inl ⟨_, _, rfl, rfl, o.here w (.int _) h⟩
  · cases hx; cases hy
    exact .inr (.inl ⟨_, _, rfl, rfl, (wp_chk h).1, o.here w (.str _) (wp_chk h).2⟩)
  · cases hx with
    | @tup a vs xs na ea qa =>
      cases hy with
      | @tup b ws ys nb eb qb =>
        obtain ⟨hl, h⟩ := wp_chk h
        refine .inr (.inr (.inl ⟨_, _, _, _, rfl, rfl, SqT.of ea, SqT.of eb, by rw [qa.len, qb.len]; exact hl, fun z => ?_, fun _ z => ?_, fun _ _ p hp => ?_⟩))
        · subst z
          cases qa
          exact o.here w (.tup nb eb qb) h
        · subst z
          cases qb
          have h2 : P (.tup (_ ++ [])) μ := h
          rw [List.append_nil] at h2
          exact o.here w (.tup na ea qa) h2
        · exact o.newT w (qa.app qb) h hp
  · unfold addL at h
    split at h
    · rename_i xs ys e1 e2
      obtain ⟨hl, h⟩ := wp_chk h
      obtain ⟨a, vs, rfl, ea, qa⟩ := asL_at w hx e1
      obtain ⟨b, ws, rfl, eb, qb⟩ := asL_at w hy e2
      exact .inr (.inr (.inr ⟨a, b, vs, ws, rfl, rfl, ea, eb, by rw [qa.len, qb.len]; exact hl, fun p hp => o.newL w (qa.app qb) h hp⟩))
    · exact h.elim⟩
def rSubU : R2 := rI0 fun i j => .int (i - j)
theorem op_subU {X : Cx} : OpR X (binaryOp .Sub) rSubU := op_sub
def subD (x y : D) (μ : Mu) : Res D := match x, y with
  | .int i, .int j => .ok (.int (i - j)) μ
  | _, _ => .bad
instance : SR2 K rSubU subD := ⟨fun {X F H ρ μ x y dx dy P Q} w hx hy h o => by
  unfold subD at h
  split at h
  · cases hx; cases hy
    exact ⟨_, _, rfl, rfl, o.here w (.int _) h⟩
  · exact h.elim⟩
instance {i j : Int} : Decidable (CMul i j) := by unfold CMul; exact inferInstance
instance {i j : Int} : Decidable (CMulW i j) := by unfold CMulW; exact inferInstance
instance {i j : Int} : Decidable (CPow i j) := by unfold CPow; exact inferInstance
instance {i j : Int} : Decidable (CDivW i j) := by unfold CDivW; exact inferInstance
instance {i j : Int} : Decidable (CDivN i j) := by unfold CDivN; exact inferInstance
def rMulU (K : PySem.W.Frag) : R2 := fun x y H Q => rI CMul (fun i j => .int (i * j)) x y H Q ∨ rRepT K x y H Q ∨ rRep1 K x y H Q ∨ rI CMulW (fun i j => .int (i * j)) x y H Q ∨ rRep x y H Q ∨ rMulS x y H Q ∨ rRep0 K x y H Q
theorem op_mulU {X : Cx} : OpR X (binaryOp .Mult) (rMulU X.K) := op_mul.or (op_repT.or (op_rep1.or (op_mulW.or (op_rep.or (op_mulS.or op_rep0)))))
def mulL (μ : Mu) (x : D) (k : Int) : Res D := match asL μ x with
  | some xs => grd (-1000 ≤ k ∧ k ≤ 1000 ∧ xs.length ≤ 1000) (.ok (.lst (List.replicate k.toNat xs).flatten) μ)
  | none => .bad
def mulD (x y : D) (μ : Mu) : Res D := match x, y with
  | .int i, .int j => grd (CMul i j ∨ CMulW i j) (.ok (.int (i * j)) μ)
  | .str z, .int k => grd (-1000 ≤ k ∧ k ≤ 1000 ∧ z.length ≤ 1000) (.ok (.str (strRep k.toNat z)) μ)
  | .tup xs, .int k => grd (xs ≠ [] ∧ -1000 ≤ k ∧ k ≤ 1000 ∧ xs.length ≤ 1000) (.ok (.tup (List.replicate k.toNat xs).flatten) μ)
  | x, .int k => mulL μ x k
  | _, _ => .bad
theorem DtAll.rep {F ρ : List Addr} {H : Hp} {vs : List V} {ds : List D} (h : DtAll K F ρ H vs ds) : ∀ k : Nat, DtAll K F ρ H (List.replicate k vs).flatten (List.replicate k ds).flatten
  | 0 => .nil
  | k + 1 => by
    rw [List.replicate_succ, List.replicate_succ]
    exact h.app (DtAll.rep h k)
instance : SR2 K (rMulU K) mulD := ⟨fun {X F H ρ μ x y dx dy P Q} w hx hy h o => by
  unfold mulD at h
  split at h
  · cases hx; cases hy
    obtain ⟨c, h⟩ := wp_grd h
    rcases c with c | c
    · exact .inl ⟨_, _, rfl, rfl, c, o.here w (.int _) h⟩
    · exact .inr (.inr (.inr (.inl ⟨_, _, rfl, rfl, c, o.here w (.int _) h⟩)))
  · cases hx; cases hy
    obtain ⟨⟨h1, h2, h3⟩, h⟩ := wp_grd h
    exact .inr (.inr (.inr (.inr (.inr (.inl ⟨_, _, rfl, rfl, h1, h2, h3, o.here w (.str _) h⟩)))))
  · rename_i xs k
    obtain ⟨⟨h1, h2, h3, h4⟩, h5⟩ := wp_grd h
    cases hx with
    | @tup a vs xs na ea qa =>
      cases hy
      have hv : vs ≠ [] := fun z => by
        subst z
        cases qa
        exact h1 rfl
      by_cases c : k = 1
      · subst c
        refine .inr (.inr (.inl ⟨a, vs, rfl, rfl, SqT.of ea, o.here w (.tup na ea qa) ?_⟩))
        have e : (List.replicate (1 : Int).toNat xs).flatten = xs := by simp
        have h5 : P (.tup (List.replicate (1 : Int).toNat xs).flatten) μ := h5
        rw [e] at h5
        exact h5
      · by_cases c0 : k ≤ 0
        · refine .inr (.inr (.inr (.inr (.inr (.inr ⟨a, k, vs, rfl, rfl, SqT.of ea, hv, h2, c0, fun p hp => o.newT w .nil ?_ hp⟩)))))
          have e : k.toNat = 0 := by omega
          have h5 : P (.tup (List.replicate k.toNat xs).flatten) μ := h5
          rw [e] at h5
          exact h5
        · exact .inr (.inl ⟨a, k, vs, rfl, rfl, SqT.of ea, hv, by omega, h3, by rw [qa.len]; exact h4, fun p hp => o.newT w (qa.rep _) h5 hp⟩)
  · cases hy
    rename_i k _ _ _
    unfold mulL at h
    split at h
    · rename_i xs e1
      obtain ⟨⟨h1, h2, h3⟩, h⟩ := wp_grd h
      obtain ⟨a, vs, rfl, ea, qa⟩ := asL_at w hx e1
      refine .inr (.inr (.inr (.inr (.inl ⟨a, k, vs, rfl, rfl, ea, by omega, by omega, ?_, fun p hp => o.newL w (qa.rep _) h hp⟩))))
      have a1 : vs.length * k.toNat ≤ 1000 * 1000 := Nat.mul_le_mul (by rw [qa.len]; exact h3) (by omega)
      rw [sizeLine_eq]
      omega
    · exact h.elim
  · exact h.elim⟩
def rModU : R2 := fun x y H Q => rI (fun _ j => 0 < j) (fun i j => .int (i % j)) x y H Q ∨ rI (fun _ j => j ≠ 0) (fun i j => .int (i.fmod j)) x y H Q
theorem op_modU {X : Cx} : OpR X (binaryOp .Mod) rModU := op_mod.or op_modN
def modD (x y : D) (μ : Mu) : Res D := match x, y with
  | .int i, .int j => if 0 < j then .ok (.int (i % j)) μ else grd (j ≠ 0) (.ok (.int (i.fmod j)) μ)
  | _, _ => .bad
instance : SR2 K rModU modD := ⟨fun {X F H ρ μ x y dx dy P Q} w hx hy h o => by
  unfold modD at h
  split at h
  · cases hx; cases hy
    split at h
    · rename_i c
      exact .inl ⟨_, _, rfl, rfl, c, o.here w (.int _) h⟩
    · exact .inr ⟨_, _, rfl, rfl, (wp_grd h).1, o.here w (.int _) (wp_grd h).2⟩
  · exact h.elim⟩
def rDivU : R2 := fun x y H Q => rI CDivW (fun i j => .int (i / j)) x y H Q ∨ rI CDivN (fun i j => .int (i.fdiv j)) x y H Q
theorem op_divU {X : Cx} : OpR X (binaryOp .FloorDiv) rDivU := op_fdivW.or op_fdivN
def divD (x y : D) (μ : Mu) : Res D := match x, y with
  | .int i, .int j => if 0 < j then grd (j.natAbs.log2 < 9000) (.ok (.int (i / j)) μ) else grd (j ≠ 0 ∧ j.natAbs < 1073741824) (.ok (.int (i.fdiv j)) μ)
  | _, _ => .bad
instance : SR2 K rDivU divD := ⟨fun {X F H ρ μ x y dx dy P Q} w hx hy h o => by
  unfold divD at h
  split at h
  · cases hx; cases hy
    split at h
    · rename_i c
      exact .inl ⟨_, _, rfl, rfl, ⟨c, (wp_grd h).1⟩, o.here w (.int _) (wp_grd h).2⟩
    · exact .inr ⟨_, _, rfl, rfl, (wp_grd h).1, o.here w (.int _) (wp_grd h).2⟩
  · exact h.elim⟩
def rPowU : R2 := rI CPow fun i j => .int (i ^ j.toNat)
theorem op_powU {X : Cx} : OpR X (binaryOp .Pow) rPowU := op_pow
def powD (x y : D) (μ : Mu) : Res D := match x, y with
  | .int i, .int j => grd (CPow i j) (.ok (.int (i ^ j.toNat)) μ)
  | _, _ => .bad
instance : SR2 K rPowU powD := ⟨fun {X F H ρ μ x y dx dy P Q} w hx hy h o => by
  unfold powD at h
  split at h
  · cases hx; cases hy
    exact ⟨_, _, rfl, rfl, (wp_grd h).1, o.here w (.int _) (wp_grd h).2⟩
  · exact h.elim⟩
def negD : D → Mu → Res D := fun x μ => match x with
  | .int i => .ok (.int (-i)) μ
  | _ => .bad
def rNegU : V → Hp → VK → Prop := rU fun i => .int (-i)
theorem un_negU {X : Cx} : UnR X (unaryOp .USub) rNegU := un_neg
instance : SU K rNegU negD := ⟨fun {X F H ρ μ x dx P Q} w hx h o => by
  unfold negD at h
  split at h
  · cases hx
    exact ⟨_, rfl, o.here w (.int _) h⟩
  · exact h.elim⟩
/-! ### comparisons -/
def rCmpU (f : Int → Int → Bool) : R2 := rI0 fun i j => .bl (f i j)
abbrev fLt (i j : Int) : Bool := decide (i < j)
abbrev fLe (i j : Int) : Bool := decide (i ≤ j)
abbrev fGt (i j : Int) : Bool := decide (j < i)
abbrev fGe (i j : Int) : Bool := decide (j ≤ i)
theorem op_leU {X : Cx} : OpR X (compareOp .LtE) (rCmpU fLe) := op_le
theorem op_gtU {X : Cx} : OpR X (compareOp .Gt) (rCmpU fGt) := op_gt
theorem op_geU {X : Cx} : OpR X (compareOp .GtE) (rCmpU fGe) := op_ge
def cmpD (f : Int → Int → Bool) (x y : D) (μ : Mu) : Res D := match x, y with
  | .int i, .int j => .ok (.bl (f i j)) μ
  | _, _ => .bad
instance {f : Int → Int → Bool} : SR2 K (rCmpU f) (cmpD f) := ⟨fun {X F H ρ μ x y dx dy P Q} w hx hy h o => by
  unfold cmpD at h
  split at h
  · cases hx; cases hy
    exact ⟨_, _, rfl, rfl, o.here w (.bl _) h⟩
  · exact h.elim⟩
/-- a < b: ints, or alike data -/
def rLtA (K : PySem.W.Frag) : R2 := fun x y H Q => ∃ d e, Dp K H x d ∧ Dp K H y e ∧ PySem.W.alike d e = true ∧ d ≠ .none ∧ d.depth ≤ 64 ∧ Q (.bl (PySem.W.dataLt d e)) H
theorem op_ltA {X : Cx} (hu : X.A.units + 64 < cLine) : OpR X (compareOp .Lt) (rLtA X.K) := by
  intro pins s σ H x y v u Q I rx ry h
  obtain ⟨d, e, hd, he, ha, hn, hz, q⟩ := h
  obtain ⟨as, r1⟩ := Dp.reads I d x v hd rx
  obtain ⟨bs, r2⟩ := Dp.reads I e y u he ry
  exact PySem.W.rcLt_alike d e X.A s v u as bs r1 r2 ha hn (by omega) _ _ _ _ ⟨.bl _, H, I, rfl, q⟩
def rLtU (K : PySem.W.Frag) : R2 := fun x y H Q => rCmpU fLt x y H Q ∨ rLtA K x y H Q
theorem op_ltU {X : Cx} (hu : X.A.units + 64 < cLine) : OpR X (compareOp .Lt) (rLtU X.K) := op_lt.or (op_ltA hu)
def isNone : PyData → Bool
  | .none => true
  | _ => false
def ltP (x y : D) (μ : Mu) : Res D := grd (plain 60 x = true ∧ plain 60 y = true ∧ PySem.W.alike (toP x) (toP y) = true ∧ isNone (toP x) = false) (.ok (.bl (PySem.W.dataLt (toP x) (toP y))) μ)
def ltD (x y : D) (μ : Mu) : Res D := match x, y with
  | .int i, .int j => .ok (.bl (decide (i < j))) μ
  | x, y => ltP (der μ x) (der μ y) μ
instance : SR2 K (rLtU K) ltD := ⟨fun {X F H ρ μ x y dx dy P Q} w hx hy h o => by
  unfold ltD at h
  split at h
  · cases hx; cases hy
    exact .inl ⟨_, _, rfl, rfl, o.here w (.bl _) h⟩
  · obtain ⟨⟨h1, h2, h3, h4⟩, h5⟩ := wp_grd h
    refine .inr ⟨_, _, der_dp w h1 hx, der_dp w h2 hy, h3, fun z => ?_, ?_, o.here w (.bl _) h5⟩
    · rw [z] at h4
      cases h4
    · have := (plain_shape 60 _ h1).2
      omega⟩
def rEqU (K : PySem.W.Frag) : R2 := rEqD K
theorem op_eqU {X : Cx} (hu : X.A.units + 64 < cLine) : OpR X (compareOp .Eq) (rEqU X.K) := op_eqD hu
def rNeU (K : PySem.W.Frag) : R2 := rNeD K
theorem op_neU {X : Cx} (hu : X.A.units + 64 < cLine) : OpR X (compareOp .NotEq) (rNeU X.K) := op_neD hu
def eqP (x y : D) : Bool := PyData.eqv (toP x) (toP y)
def eqC (x y : D) (f : Bool → D) (μ : Mu) : Res D := grd (plain 60 x = true ∧ plain 60 y = true) (.ok (f (eqP x y)) μ)
def eqD (x y : D) (μ : Mu) : Res D := eqC (der μ x) (der μ y) .bl μ
def neD (x y : D) (μ : Mu) : Res D := eqC (der μ x) (der μ y) (fun b => .bl (!b)) μ
instance : SR2 K (rEqU K) eqD := ⟨fun w hx hy h o => by
  obtain ⟨⟨h1, h2⟩, h3⟩ := wp_grd h
  exact ⟨_, _, der_dp w h1 hx, der_dp w h2 hy, der_shaped h1, der_shaped h2, o.here w (.bl _) h3⟩⟩
instance : SR2 K (rNeU K) neD := ⟨fun w hx hy h o => by
  obtain ⟨⟨h1, h2⟩, h3⟩ := wp_grd h
  exact ⟨_, _, der_dp w h1 hx, der_dp w h2 hy, der_shaped h1, der_shaped h2, o.here w (.bl _) h3⟩⟩
def isN : D → Bool
  | .non => true
  | _ => false
theorem isN_at {F ρ : List Addr} {H : Hp} {v : V} {d : D} (h : Dt K F ρ H v d) : decide (v = .non) = isN d := by
  cases h <;> first | exact decide_eq_true rfl | exact decide_eq_false (fun z => nomatch z)
variable {E : L2.St → XK}
def dIsN (Ta : DE) : DE := fun η μ => (Ta η μ).bind fun x μ1 => .ok (.bl (isN x)) μ1
def dNotN (Ta : DE) : DE := fun η μ => (Ta η μ).bind fun x μ1 => .ok (.bl (!isN x)) μ1
instance {ta : TE} {Ta : DE} [a : SE K E ta Ta] : SE K E (tIsN ta) (dIsN Ta) := ⟨fun w e h o =>
  a.run w e (wp_bind h) fun x H1 ρ1 dx μ1 w1 g1 q1 h1 => by
    rw [isN_at q1]
    exact (o.mono g1).here w1 (.bl _) h1⟩
instance {ta : TE} {Ta : DE} [a : SE K E ta Ta] : SE K E (tNotN ta) (dNotN Ta) := ⟨fun w e h o =>
  a.run w e (wp_bind h) fun x H1 ρ1 dx μ1 w1 g1 q1 h1 => by
    rw [isN_at q1]
    exact (o.mono g1).here w1 (.bl _) h1⟩
def dChain (f f' : D → D → Mu → Res D) (Ta Tb Tc : DE) : DE := fun η μ => (Ta η μ).bind fun x μ1 => (Tb η μ1).bind fun y μ2 => (f x y μ2).bind fun z μ3 => onB z fun k => if k = true then (Tc η μ3).bind fun c μ4 => f' y c μ4 else .ok (.bl false) μ3
instance {r r' : R2} {ta tb tc : TE} {f f' : D → D → Mu → Res D} {Ta Tb Tc : DE} [a : SE K E ta Ta] [b : SE K E tb Tb] [c : SE K E tc Tc] [s : SR2 K r f] [s' : SR2 K r' f'] : SE K E (tChain r r' ta tb tc) (dChain f f' Ta Tb Tc) := ⟨fun w e h o =>
  a.run w e (wp_bind h) fun x H1 ρ1 dx μ1 w1 g1 q1 h1 => b.run w1 (e.mono g1) (wp_bind h1) fun y H2 ρ2 dy μ2 w2 g2 q2 h2 => s.run w2 (q1.mono g2) q2 (wp_bind h2) fun z H3 ρ3 dz μ3 w3 g3 q3 h3 => by
    obtain ⟨k, rfl, h4⟩ := onB_at q3 h3
    refine ⟨k, rfl, ?_⟩
    have g123 := (g1.trans g2).trans g3
    cases k with
    | true => exact c.run w3 (e.mono g123) (wp_bind h4) fun u H4 ρ4 du μ4 w4 g4 q4 h5 => s'.run w4 ((q2.mono g3).mono g4) q4 h5 (o.mono (g123.trans g4))
    | false => exact (o.mono g123).here w3 (.bl _) h4⟩
/-! ### subscripts -/
def seqOf (μ : Mu) : D → Option (List D)
  | .tup xs => some xs
  | d => asL μ d
def okO {α β : Type} (o : Option α) (f : α → Res β) : Res β := match o with
  | some a => f a
  | none => .bad
theorem wp_okO {α β : Type} {o : Option α} {f : α → Res β} {P : β → Mu → Prop} {X : Exn → Mu → Prop} (h : wp (okO o f) P X) : ∃ a, o = some a ∧ wp (f a) P X := by
  cases o with
  | none => exact h.elim
  | some a => exact ⟨a, rfl, h⟩
def ixD (x y : D) (μ : Mu) : Res D := match x, y with
  | .str z, .int i => chk z.length (okO (atI z.cps.toList i) fun c => .ok (.str ⟨#[c]⟩) μ)
  | x, .int i => okO (seqOf μ x) fun xs => okO (atI xs i) fun d => .ok d μ
  | _, _ => .bad
theorem DtAll.atI {F ρ : List Addr} {H : Hp} {vs : List V} {ds : List D} {i : Int} {d : D} (q : DtAll K F ρ H vs ds) (h : L2.atI ds i = some d) : ∃ v, L2.atI vs i = some v ∧ Dt K F ρ H v d := by
  unfold L2.atI at h ⊢
  rw [q.len]
  cases c : ixN ds.length i with
  | none => rw [c] at h; cases h
  | some j =>
    rw [c] at h
    exact q.getD h
instance : SR2 K (rIx K) ixD := ⟨fun {X F H ρ μ x y dx dy P Q} w hx hy h o => by
  unfold ixD at h
  split at h
  · cases hx; cases hy
    obtain ⟨h1, h⟩ := wp_chk h
    obtain ⟨u, c, h⟩ := wp_okO h
    exact .inr (.inr ⟨_, _, u, rfl, rfl, h1, c, o.here w (.str _) h⟩)
  · cases hy
    obtain ⟨xs, c, h3⟩ := wp_okO h
    obtain ⟨u, c2, h4⟩ := wp_okO h3
    clear h h3
    by_cases ct : ∃ ys, dx = .tup ys
    · obtain ⟨ys, rfl⟩ := ct
      have e : ys = xs := Option.some.inj c
      subst e
      cases hx with
      | tup na ea qa =>
        obtain ⟨v, hv, q⟩ := qa.atI c2
        exact .inr (.inl ⟨_, _, _, v, rfl, rfl, SqT.of ea, hv, o.here w q h4⟩)
    · have c' : asL μ dx = some xs := by
        cases dx <;> first | exact c | exact absurd ⟨_, rfl⟩ ct
      obtain ⟨a, vs, rfl, ea, qa⟩ := asL_at w hx c'
      obtain ⟨v, hv, q⟩ := qa.atI c2
      exact .inl ⟨_, _, _, v, rfl, rfl, SqL.of ea, hv, o.here w q h4⟩
  · exact h.elim⟩
end
end
end DX

namespace DX
open PySem PySem.Spec PyProof.Rows L2
noncomputable section
section
variable {K : PySem.W.Frag} {E : L2.St → XK}
/-! ### slices -/
def cut {α : Type} (xs : List α) (lo hi : Option Int) : List α := (xs.drop (HT.sIx xs.length 0 lo)).take (HT.sIx xs.length xs.length hi - HT.sIx xs.length 0 lo)
theorem DtAll.cut {F ρ : List Addr} {H : Hp} {vs : List V} {ds : List D} (q : DtAll K F ρ H vs ds) (lo hi : Option Int) : DtAll K F ρ H (cutV vs lo hi) (DX.cut ds lo hi) := by
  unfold cutV DX.cut
  rw [q.len]
  exact (q.drop _).take _
theorem cut_map {α β : Type} (f : α → β) (xs : List α) (lo hi : Option Int) : cut (xs.map f) lo hi = (cut xs lo hi).map f := by
  unfold cut
  rw [List.length_map, ← List.map_drop, ← List.map_take]
def rSlU (K : PySem.W.Frag) : V → Option Int → Option Int → Hp → VK → Prop := fun x lo hi H Q => rSlL K x lo hi H Q ∨ rSlA K x lo hi H Q ∨ rSlS x lo hi H Q
theorem sl_U {X : Cx} : SlR X (rSlU X.K) := sl_list.or (sl_tupA.or sl_str)
def slD (x : D) (lo hi : Option Int) (μ : Mu) : Res D := match x with
  | .str z => chk z.length (.ok (.str (cutS z lo hi)) μ)
  | .tup xs => .ok (.tup (cut xs lo hi)) μ
  | .scr ns => .ok (.lst ((cut ns lo hi).map D.int)) μ
  | x => okO (asL μ x) fun xs => .ok (.lst (cut xs lo hi)) μ
theorem cut_whole {α : Type} {xs : List α} {lo hi : Option Int} (h : HT.sIx xs.length 0 lo = 0 ∧ HT.sIx xs.length xs.length hi = xs.length) : cut xs lo hi = xs := by
  unfold cut
  rw [h.1, h.2, List.drop_zero, Nat.sub_zero, List.take_length]
instance : SL K (rSlU K) slD := ⟨fun {X F H ρ μ x dx lo hi P Q} w hx h o => by
  unfold slD at h
  split at h
  · cases hx
    exact .inr (.inr ⟨_, rfl, (wp_chk h).1, o.here w (.str _) (wp_chk h).2⟩)
  · rename_i xs
    have h : P (.tup (cut xs lo hi)) μ := h
    cases hx with
    | tup na ea qa =>
      refine .inr (.inl ⟨_, _, rfl, SqT.of ea, fun z => ?_, fun z p hp => ?_⟩)
      · rw [qa.len] at z
        rw [cut_whole z] at h
        exact o.here w (.tup na ea qa) h
      · exact o.newT w (qa.cut lo hi) h hp
  · rename_i ns
    cases hx with
    | scr e =>
      refine .inl ⟨_, _, rfl, e.sq, fun p hp => ?_⟩
      have q : DtAll K F ρ H (cutV (ns.map V.int) lo hi) ((cut ns lo hi).map D.int) := by
        have z : cutV (ns.map V.int) lo hi = (cut ns lo hi).map V.int := cut_map V.int ns lo hi
        rw [z]
        exact DtAll.of_ints _
      exact o.newL w q h hp
  · obtain ⟨xs, c, h⟩ := wp_okO h
    obtain ⟨a, vs, rfl, ea, qa⟩ := asL_at w hx c
    exact .inl ⟨_, _, rfl, SqL.of ea, fun p hp => o.newL w (qa.cut lo hi) h hp⟩⟩
def dNoPart : DO := fun _ μ => .ok none μ
def dPart (T : DE) : DO := fun η μ => (T η μ).bind fun x μ1 => match x with
  | .int i => .ok (some i) μ1
  | _ => .bad
instance : SO K E tNoPart dNoPart := ⟨fun w e h o => o none _ _ _ w (Grow.refl _ _) h⟩
instance {t : TE} {T : DE} [a : SE K E t T] : SO K E (tPart t) (dPart T) := ⟨fun w e h o =>
  a.run w e (wp_bind h) fun x H1 ρ1 dx μ1 w1 g1 q1 h1 => by
    cases q1 <;> first | exact h1.elim | exact ⟨_, rfl, o _ H1 ρ1 μ1 w1 g1 h1⟩⟩
def dSl (f : D → Option Int → Option Int → Mu → Res D) (T : DE) (Tl Th : DO) : DE := fun η μ => (T η μ).bind fun x μ1 => (Tl η μ1).bind fun l μ2 => (Th η μ2).bind fun u μ3 => f x l u μ3
instance {r : V → Option Int → Option Int → Hp → VK → Prop} {t : TE} {tl th : TO} {f : D → Option Int → Option Int → Mu → Res D} {T : DE} {Tl Th : DO} [a : SE K E t T] [b : SO K E tl Tl] [c : SO K E th Th] [s : SL K r f] : SE K E (tSl r t tl th) (dSl f T Tl Th) := ⟨fun w e h o =>
  a.run w e (wp_bind h) fun x H1 ρ1 dx μ1 w1 g1 q1 h1 => b.run w1 (e.mono g1) (wp_bind h1) fun l H2 ρ2 μ2 w2 g2 h2 => c.run w2 ((e.mono g1).mono g2) (wp_bind h2) fun u H3 ρ3 μ3 w3 g3 h3 =>
    s.run w3 ((q1.mono g2).mono g3) h3 (o.mono ((g1.trans g2).trans g3))⟩
/-! ### what is walked -/
/-- things of which nothing changes -/
theorem walkD_of {F ρ1 : List Addr} {H1 : Hp} {J : It} {its : List D} {n : Nat} {G : Hp → Prop} {Y : Nat → Hp → V → Hp → Prop} (wk : Walk J n G Y) (hn : n = its.length)
    (hG : ∀ H, (∀ x o, H1 x = some o → x ∉ F ++ ρ1 → H x = some o) → G H)
    (hY : ∀ F' ρ μ H, (∀ a, a ∉ F → H1 a ≠ none → a ∉ F') → Grow ρ1 ρ H1 H → Wd K F' ρ μ H → ∀ i x H', i < its.length → Y i H x H' → Wd K F' ρ μ H' ∧ Grow ρ ρ H H' ∧ ∃ d, its[i]? = some d ∧ Dt K F' ρ H' x d) :
    WalkD K F ρ1 H1 J its := by
  intro F' ρ μ H hf g w
  have q : G H := hG H fun x o e n => g.keep x o (not_app n).2 e
  subst hn
  exact ⟨fun i hi => wk.goes i H hi q, wk.stops H q, fun i x H' hi y => hY F' ρ μ H hf g w i x H' hi (wk.yields i H x H' hi q y)⟩
/-- any sequence: a list, a tuple, a text -/
def iSeq (K : PySem.W.Frag) (t : TE) : TI := fun σ H R => t σ H fun x H1 => (∃ a, x = .ref a ∧ (∃ xs, SqL K H1 a xs) ∧ R (Itl K a) H1) ∨ (∃ a, x = .ref a ∧ (∃ xs, SqT K H1 a xs) ∧ R (Itt K a) H1) ∨ (∃ z, x = .str z ∧ R (Its z) H1)
theorem pi_seq {X : Cx} {tg l : Expr} {tl : TE} (hl : PE X l tl) : PI X tg l (iSeq X.K tl) := by
  refine ⟨fun pins s σ H R I h => ?_⟩
  refine thn (hl.run pins s σ H _ I h) fun v s1 ⟨x, H1, I1, r1, q1⟩ => ?_
  rcases q1 with ⟨a, e, ⟨xs, hq⟩, q⟩ | ⟨a, e, ⟨xs, hq⟩, q⟩ | ⟨z, e, q⟩
  · subst e
    cases r1
    obtain ⟨its, rv, p, hz⟩ := I1.list hq
    refine wpAny_pyIter_list p.isList ?_
    refine ⟨s1.heap.objs.size, [s1.heap.objs.size], _, _, H1, rfl, I1.kept (t' := s1.toks) fun b o e => Heap.get?_push_of_some _ e, turn_list a _, ⟨_, Heap.get?_push_size _ rfl, rfl, rfl⟩, fun b hb => ?_, q⟩
    have e : b = s1.heap.objs.size := by simpa using hb
    subst e
    exact I1.fpOk (Nat.le_refl _) (I1.hok.fresh (Nat.le_refl _))
  · subst e
    cases r1
    obtain ⟨its, rv, p, hz⟩ := I1.tuple hq
    refine wpAny_pyIter_tuple (show s1.heap.IsTuple a its.toArray from p) ?_
    refine ⟨s1.heap.objs.size, [s1.heap.objs.size], _, _, H1, rfl, I1.kept (t' := s1.toks) fun b o e => Heap.get?_push_of_some _ e, turn_tuple a _, ⟨_, Heap.get?_push_size _ rfl, rfl, rfl⟩, fun b hb => ?_, q⟩
    have e : b = s1.heap.objs.size := by simpa using hb
    subst e
    exact I1.fpOk (Nat.le_refl _) (I1.hok.fresh (Nat.le_refl _))
  · subst e
    obtain ⟨t, rfl⟩ := r1
    cases ha : z.cps.all (· < 128)
    · exact wpAny_pyIter_wide ha (pi_one (tk := s1.toks) I1 _ (turn_str _ z t "str_iterator" (.inr rfl)) ⟨_, Heap.get?_push_size _ rfl, rfl, rfl⟩ q)
    · exact wpAny_pyIter_ascii ha (pi_one (tk := s1.toks) I1 _ (turn_str _ z t "str_ascii_iterator" (.inl rfl)) ⟨_, Heap.get?_push_size _ rfl, rfl, rfl⟩ q)
/-- the items of data that stands still -/
def itemsOf : D → Option (List D)
  | .lst xs => some xs
  | .tup xs => some xs
  | .str z => some (z.cps.toList.map fun c => .str ⟨#[c]⟩)
  | _ => none
def dSeqI (T : DE) : DA := fun η μ => (T η μ).bind fun x μ1 => okO (itemsOf x) fun its => .ok its μ1
theorem DtAll.off {F F' ρ ρ' : List Addr} {H H' : Hp} {vs : List V} {ds : List D} (q : DtAll K F ρ H vs ds) (hf : ∀ a, a ∉ F → H a ≠ none → a ∉ F') (g : Grow ρ ρ' H H') : DtAll K F' ρ' H' vs ds := (q.aside hf).mono g
theorem walk_vals {F ρ1 : List Addr} {H1 : Hp} {J : It} {vs : List V} {its : List D} {G : Hp → Prop} (wk : Walk J vs.length G (YAt vs)) (q : DtAll K F ρ1 H1 vs its)
    (hG : ∀ H, (∀ x o, H1 x = some o → x ∉ F ++ ρ1 → H x = some o) → G H) : WalkD K F ρ1 H1 J its :=
  walkD_of wk q.len hG fun F' ρ μ H hf g w i x H' hi y => by
    obtain ⟨rfl, hx⟩ := y
    obtain ⟨d, hd, qd⟩ := (q.off hf g).get hx
    exact ⟨w, Grow.refl _ _, d, hd, qd⟩
instance {t : TE} {T : DE} [a : SE K E t T] : SI K E (iSeq K t) (dSeqI T) := ⟨fun {X F σ H η ρ μ P R} w e h o =>
  a.run w e (wp_bind h) fun x H1 ρ1 dx μ1 w1 g1 q1 h1 => by
    obtain ⟨its, c, h1⟩ := wp_okO h1
    cases q1 with
    | @lst a vs xs na ea qa =>
      cases c
      exact .inl ⟨a, rfl, ⟨_, SqL.of ea⟩, o _ H1 ρ1 _ μ1 w1 g1 (walk_vals walk_list qa fun H k => SqL.of (k a _ ea na)) h1⟩
    | @tup a vs xs na ea qa =>
      cases c
      exact .inr (.inl ⟨a, rfl, ⟨_, SqT.of ea⟩, o _ H1 ρ1 _ μ1 w1 g1 (walk_vals walk_tup qa fun H k => SqT.of (k a _ ea na)) h1⟩)
    | str z =>
      cases c
      refine .inr (.inr ⟨z, rfl, o _ H1 ρ1 _ μ1 w1 g1 (walkD_of walk_str (by simp) (fun _ _ => trivial) fun F' ρ μ H hf g w i x H' hi y => ?_) h1⟩)
      obtain ⟨rfl, ch, hc, rfl⟩ := y
      refine ⟨w, Grow.refl _ _, .str ⟨#[ch]⟩, ?_, .str _⟩
      rw [List.getElem?_map, Array.getElem?_toList, hc]
      rfl
    | _ => cases c⟩
/-! range -/
def rangeD (i : Int) (n : Nat) : List D := (List.range n).map fun k => .int (i + (k : Nat))
def dRng1 (T : DA) : DA := fun η μ => (T η μ).bind fun ds μ1 => match ds with
  | [.int j] => grd (-(2 ^ 62) ≤ j ∧ j < 2 ^ 62) (.ok (rangeD 0 j.toNat) μ1)
  | _ => .bad
theorem range_get {i : Int} {n k : Nat} (h : k < n) : (rangeD i n)[k]? = some (.int (i + (k : Nat))) := by simp [rangeD, h]
theorem range_len {i : Int} {n : Nat} : (rangeD i n).length = n := by simp [rangeD]
instance {t : TA} {T : DA} [a : SA K E t T] : SI K E (iRng1 t) (dRng1 T) := ⟨fun {X F σ H η ρ μ P R} w e h o =>
  a.run w e (wp_bind h) fun vs H1 ρ1 ds μ1 w1 g1 q1 h1 => by
    split at h1
    · rename_i j
      obtain ⟨c, h1⟩ := wp_grd h1
      cases q1 with
      | cons qa qb =>
        cases qb
        cases qa
        refine ⟨j, rfl, c.1, c.2, o _ H1 ρ1 _ μ1 w1 g1 (walkD_of walk_range range_len.symm (fun _ _ => trivial) fun F' ρ μ H hf g w i x H' hi y => ?_) h1⟩
        obtain ⟨rfl, rfl⟩ := y
        rw [range_len] at hi
        exact ⟨w, Grow.refl _ _, _, range_get hi, .int _⟩
    · exact h1.elim⟩
def dRng2 (T : DA) : DA := fun η μ => (T η μ).bind fun ds μ1 => match ds with
  | [.int i, .int j] => grd (-(2 ^ 62) ≤ i ∧ i < 2 ^ 62 ∧ -(2 ^ 62) ≤ j ∧ j < 2 ^ 62) (.ok (rangeD i (j - i).toNat) μ1)
  | _ => .bad
instance {t : TA} {T : DA} [a : SA K E t T] : SI K E (iRng2 t) (dRng2 T) := ⟨fun {X F σ H η ρ μ P R} w e h o =>
  a.run w e (wp_bind h) fun vs H1 ρ1 ds μ1 w1 g1 q1 h1 => by
    split at h1
    · rename_i i j
      obtain ⟨c, h1⟩ := wp_grd h1
      cases q1 with
      | cons qa qb =>
        cases qb with
        | cons qb qc =>
          cases qc
          cases qa
          cases qb
          refine ⟨i, j, rfl, c, o _ H1 ρ1 _ μ1 w1 g1 (walkD_of walk_range range_len.symm (fun _ _ => trivial) fun F' ρ μ H hf g w k x H' hi y => ?_) h1⟩
          obtain ⟨rfl, rfl⟩ := y
          rw [range_len] at hi
          exact ⟨w, Grow.refl _ _, _, range_get hi, .int _⟩
    · exact h1.elim⟩
/-! pairs made on the way -/
theorem walk_pairs {F ρ1 : List Addr} {H1 : Hp} {J : It} {n : Nat} {fx fy : Nat → Option V} {its : List D} {G : Hp → Prop} (wk : Walk J n G (YPair fx fy)) (hn : n = its.length)
    (hG : ∀ H, (∀ x o, H1 x = some o → x ∉ F ++ ρ1 → H x = some o) → G H)
    (hd : ∀ F' ρ H, (∀ a, a ∉ F → H1 a ≠ none → a ∉ F') → Grow ρ1 ρ H1 H → ∀ i x y, i < its.length → fx i = some x → fy i = some y → ∃ dx dy, its[i]? = some (.tup [dx, dy]) ∧ Dt K F' ρ H x dx ∧ Dt K F' ρ H y dy) : WalkD K F ρ1 H1 J its :=
  walkD_of wk hn hG fun F' ρ μ H hf g w i v H' hi y => by
    obtain ⟨T, x, y, rfl, hT, rfl, ex, ey⟩ := y
    obtain ⟨dx, dy, e, q1, q2⟩ := hd F' ρ H hf g i x y hi ex ey
    have gT : Grow ρ ρ H (upd H T (.tup [x, y])) := Grow.fresh hT
    exact ⟨w.lay hT, gT, _, e, .tup (w.fresh2 hT) upd_same (.cons (q1.mono gT) (.one (q2.mono gT)))⟩
def zipD (xs ys : List D) : List D := List.zipWith (fun x y => .tup [x, y]) xs ys
theorem zip_get {xs ys : List D} {i : Nat} {x y : D} (hx : xs[i]? = some x) (hy : ys[i]? = some y) : (zipD xs ys)[i]? = some (.tup [x, y]) := by
  unfold zipD
  rw [List.getElem?_zipWith, hx, hy]
end
end
end DX

namespace DX
open PySem PySem.Spec PyProof.Rows L2
noncomputable section
section
variable {K : PySem.W.Frag} {E : L2.St → XK}
theorem walk_zipT {a b : Addr} {xs ys : List V} {n : Nat} (hn : n = min xs.length ys.length) : Walk (RZ.ItzT K a b) n (fun H => SqT K H a xs ∧ SqT K H b ys) (YPair (fun i => xs[i]?) (fun i => ys[i]?)) := by
  subst hn
  refine ⟨fun i _ hi q => ?_, fun _ q => ⟨xs, ys, q.1, q.2, by omega⟩, fun i H v H' _ q y => ?_⟩
  · have h1 : i < xs.length := by omega
    have h2 : i < ys.length := by omega
    exact ⟨xs, ys, xs[i], ys[i], q.1, q.2, by simp [h1], by simp [h2]⟩
  · obtain ⟨T, x, z, h1, h2, h3, h4, h5⟩ := y
    exact ⟨T, x, z, h1, h2, h3, h4 xs q.1, h5 ys q.2⟩
def dZip (T : DA) : DA := fun η μ => (T η μ).bind fun ds μ1 => match ds with
  | [.tup xs, .tup ys] => .ok (zipD xs ys) μ1
  | [.lst xs, .lst ys] => .ok (zipD xs ys) μ1
  | _ => .bad
instance {t : TA} {T : DA} [a : SA K E t T] : SI K E (RZ.iZipA K t) (dZip T) := ⟨fun {X F σ H η ρ μ P R} w e h o =>
  a.run w e (wp_bind h) fun vs H1 ρ1 ds μ1 w1 g1 q1 h1 => by
    split at h1
    · cases q1 with
      | cons qa qb =>
        cases qb with
        | cons qb qc =>
          cases qc
          cases qa with
          | @tup a va xs na ea qa =>
            cases qb with
            | @tup b vb ys nb eb qb =>
              refine ⟨a, b, va, vb, rfl, .inr ⟨SqT.of ea, SqT.of eb, o _ H1 ρ1 _ μ1 w1 g1 (walk_pairs (n := min va.length vb.length) (walk_zipT rfl) ?_ (fun H k => ⟨SqT.of (k a _ ea na), SqT.of (k b _ eb nb)⟩) fun F' μ H hf g i x y hi ex ey => ?_) h1⟩⟩
              · rw [qa.len, qb.len]; simp [zipD]
              · obtain ⟨dx, e1, k1⟩ := (qa.off hf g).get ex
                obtain ⟨dy, e2, k2⟩ := (qb.off hf g).get ey
                exact ⟨dx, dy, zip_get e1 e2, k1, k2⟩
    · cases q1 with
      | cons qa qb =>
        cases qb with
        | cons qb qc =>
          cases qc
          cases qa with
          | @lst a va xs na ea qa =>
            cases qb with
            | @lst b vb ys nb eb qb =>
              refine ⟨a, b, va, vb, rfl, .inl ⟨SqL.of ea, SqL.of eb, o _ H1 ρ1 _ μ1 w1 g1 (walk_pairs (n := min va.length vb.length) (walk_zip rfl) ?_ (fun H k => ⟨SqL.of (k a _ ea na), SqL.of (k b _ eb nb)⟩) fun F' μ H hf g i x y hi ex ey => ?_) h1⟩⟩
              · rw [qa.len, qb.len]; simp [zipD]
              · obtain ⟨dx, e1, k1⟩ := (qa.off hf g).get ex
                obtain ⟨dy, e2, k2⟩ := (qb.off hf g).get ey
                exact ⟨dx, dy, zip_get e1 e2, k1, k2⟩
    · exact h1.elim⟩
/-! ### built-in calls -/
def rLenU (K : PySem.W.Frag) : List V → Hp → VK → Prop := fun xs H Q => (∃ p ys, xs = [.ref p] ∧ (SqL K H p ys ∨ SqT K H p ys) ∧ Q (.int ys.length) H) ∨ ∃ z, xs = [.str z] ∧ z.length ≤ sizeLine ∧ Q (.int z.length) H
theorem call_lenU {X : Cx} : CallR X (.builtin "len") (rLenU X.K) := call_len_seq.or call_len_str
def lenD (ds : List D) (μ : Mu) : Res D := match ds with
  | [.str z] => chk z.length (.ok (.int z.length) μ)
  | [d] => okO (seqOf μ d) fun xs => .ok (.int xs.length) μ
  | _ => .bad
theorem seqOf_at {F ρ : List Addr} {μ : Mu} {H : Hp} (w : Wd K F ρ μ H) {v : V} {d : D} {xs : List D} (h : Dt K F ρ H v d) (e : seqOf μ d = some xs) : ∃ a vs, v = .ref a ∧ (SqL K H a vs ∨ SqT K H a vs) ∧ DtAll K F ρ H vs xs := by
  by_cases ct : ∃ ys, d = .tup ys
  · obtain ⟨ys, rfl⟩ := ct
    cases e
    cases h with
    | tup na ea qa => exact ⟨_, _, rfl, .inr (SqT.of ea), qa⟩
  · have c' : asL μ d = some xs := by
      cases d <;> first | exact e | exact absurd ⟨_, rfl⟩ ct
    obtain ⟨a, vs, rfl, ea, qa⟩ := asL_at w h c'
    exact ⟨a, vs, rfl, .inl (SqL.of ea), qa⟩
instance : SC K (rLenU K) lenD := ⟨fun {X F H ρ μ vs ds P Q} w q h o => by
  unfold lenD at h
  split at h
  · cases q with
    | cons qa qb =>
      cases qb
      cases qa
      exact .inr ⟨_, rfl, (wp_chk h).1, o.here w (.int _) (wp_chk h).2⟩
  · cases q with
    | cons qa qb =>
      cases qb
      obtain ⟨xs, c, h⟩ := wp_okO h
      obtain ⟨a, vs, rfl, ea, qs⟩ := seqOf_at w qa c
      refine .inl ⟨a, vs, rfl, ea, ?_⟩
      rw [qs.len]
      exact o.here w (.int _) h
  · exact h.elim⟩
/-- a list of ints, of bools -/
def intsOf : List D → Option (List Int)
  | [] => some []
  | .int i :: r => (intsOf r).map (i :: ·)
  | _ => none
theorem intsOf_eq : ∀ {ds : List D} {ns : List Int}, intsOf ds = some ns → ds = ns.map D.int
  | [], ns, h => by cases h; rfl
  | d :: r, ns, h => by
    cases d with
    | int i =>
      unfold intsOf at h
      cases c : intsOf r with
      | none => rw [c] at h; cases h
      | some ms =>
        rw [c] at h
        cases h
        rw [intsOf_eq c]
        rfl
    | _ => cases h
@[simp] theorem intsOf_map : ∀ ns : List Int, intsOf (ns.map D.int) = some ns
  | [] => rfl
  | n :: r => by
    show (intsOf (r.map D.int)).map (n :: ·) = _
    rw [intsOf_map r]
    rfl
def blsOf : List D → Option (List Bool)
  | [] => some []
  | .bl i :: r => (blsOf r).map (i :: ·)
  | _ => none
theorem blsOf_eq : ∀ {ds : List D} {ns : List Bool}, blsOf ds = some ns → ds = ns.map D.bl
  | [], ns, h => by cases h; rfl
  | d :: r, ns, h => by
    cases d with
    | bl i =>
      unfold blsOf at h
      cases c : blsOf r with
      | none => rw [c] at h; cases h
      | some ms =>
        rw [c] at h
        cases h
        rw [blsOf_eq c]
        rfl
    | _ => cases h
@[simp] theorem blsOf_map : ∀ ns : List Bool, blsOf (ns.map D.bl) = some ns
  | [] => rfl
  | n :: r => by
    show (blsOf (r.map D.bl)).map (n :: ·) = _
    rw [blsOf_map r]
    rfl
def strsOf : List D → Option (List Str)
  | [] => some []
  | .str i :: r => (strsOf r).map (i :: ·)
  | _ => none
theorem strsOf_eq : ∀ {ds : List D} {ns : List Str}, strsOf ds = some ns → ds = ns.map D.str
  | [], ns, h => by cases h; rfl
  | d :: r, ns, h => by
    cases d with
    | str i =>
      unfold strsOf at h
      cases c : strsOf r with
      | none => rw [c] at h; cases h
      | some ms =>
        rw [c] at h
        cases h
        rw [strsOf_eq c]
        rfl
    | _ => cases h
@[simp] theorem strsOf_map : ∀ ns : List Str, strsOf (ns.map D.str) = some ns
  | [] => rfl
  | n :: r => by
    show (strsOf (r.map D.str)).map (n :: ·) = _
    rw [strsOf_map r]
    rfl
/-- sum of ints -/
def rSumT (K : PySem.W.Frag) : List V → Hp → VK → Prop := fun vs H Q => ∃ (a : Addr) (ns : List Int), vs = [V.ref a] ∧ SqT K H a (ns.map V.int) ∧ Q (.int ns.sum) H
theorem cr_sumT {X : Cx} (hc : X.calm = true) : CallR X (.builtin "sum") (rSumT X.K) := by
  intro pins s σ H vs us Q I r h
  obtain ⟨a, ns, rfl, hs, q⟩ := h
  obtain ⟨its, rv, hl, _⟩ := I.tuple hs
  rw [Vals.ref1 r]
  obtain ⟨xs, hx⟩ := rv.ints.allInts.items
  have hn : numsOf its.toArray.toList = ns := by rw [show its.toArray.toList = its from rfl, rv.ints.numsOf]
  have hl' : s.heap.IsTuple a its.toArray := hl
  rw [hx] at hl' hn
  rw [nums_intItems] at hn
  refine PySem.W.ktm_sumG (I.ok.hd hc) hl' fun h' tk t' hk => ?_
  rw [preSum_eq, List.take_of_length_le (by simp), hn]
  exact ⟨.int _, H, I.kept hk, ⟨_, rfl⟩, q⟩
def rSumU (K : PySem.W.Frag) : List V → Hp → VK → Prop := fun xs H Q => rSum K xs H Q ∨ rSumT K xs H Q
theorem call_sumU {X : Cx} (hc : X.calm = true) : CallR X (.builtin "sum") (rSumU X.K) := (cr_sum hc).or (cr_sumT hc)
def sumD (ds : List D) (μ : Mu) : Res D := match ds with
  | [d] => okO (seqOf μ d) fun xs => okO (intsOf xs) fun ns => .ok (.int ns.sum) μ
  | _ => .bad
instance : SC K (rSumU K) sumD := ⟨fun {X F H ρ μ vs ds P Q} w q h o => by
  unfold sumD at h
  split at h
  · cases q with
    | cons qa qb =>
      cases qb
      obtain ⟨xs, c, h1⟩ := wp_okO h
      obtain ⟨ns, c2, h2⟩ := wp_okO h1
      clear h h1
      have e := intsOf_eq c2
      subst e
      obtain ⟨a, vs, rfl, ea, qs⟩ := seqOf_at w qa c
      have z := qs.ints
      subst z
      rcases ea with ea | ea
      · exact .inl ⟨a, ns, rfl, ea, o.here w (.int _) h2⟩
      · exact .inr ⟨a, ns, rfl, ea, o.here w (.int _) h2⟩
  · exact h.elim⟩
def allD (ds : List D) (μ : Mu) : Res D := match ds with
  | [d] => okO (asL μ d) fun xs => okO (blsOf xs) fun bs => .ok (.bl (bs.all id)) μ
  | _ => .bad
instance : SC K (rAll K) allD := ⟨fun {X F H ρ μ vs ds P Q} w q h o => by
  unfold allD at h
  split at h
  · cases q with
    | cons qa qb =>
      cases qb
      obtain ⟨xs, c, h1⟩ := wp_okO h
      obtain ⟨ns, c2, h2⟩ := wp_okO h1
      clear h h1
      have e := blsOf_eq c2
      subst e
      obtain ⟨a, vs, rfl, ea, qs⟩ := asL_at w qa c
      have z := qs.bls
      subst z
      exact ⟨a, ns, rfl, SqL.of ea, o.here w (.bl _) h2⟩
  · exact h.elim⟩
def anyD (ds : List D) (μ : Mu) : Res D := match ds with
  | [d] => okO (asL μ d) fun xs => okO (blsOf xs) fun bs => .ok (.bl (bs.any id)) μ
  | _ => .bad
instance : SC K (rAny K) anyD := ⟨fun {X F H ρ μ vs ds P Q} w q h o => by
  unfold anyD at h
  split at h
  · cases q with
    | cons qa qb =>
      cases qb
      obtain ⟨xs, c, h1⟩ := wp_okO h
      obtain ⟨ns, c2, h2⟩ := wp_okO h1
      clear h h1
      have e := blsOf_eq c2
      subst e
      obtain ⟨a, vs, rfl, ea, qs⟩ := asL_at w qa c
      have z := qs.bls
      subst z
      exact ⟨a, ns, rfl, SqL.of ea, o.here w (.bl _) h2⟩
  · exact h.elim⟩
def rIntU : List V → Hp → VK → Prop := fun xs H Q => (∃ i, xs = [.int i] ∧ Q (.int i) H) ∨ ∃ k, xs = [.bl k] ∧ Q (.int (if k then 1 else 0)) H
theorem call_intU {X : Cx} : CallR X (.type "int") rIntU := call_int1
def intD (ds : List D) (μ : Mu) : Res D := match ds with
  | [.int i] => .ok (.int i) μ
  | [.bl k] => .ok (.int (if k then 1 else 0)) μ
  | _ => .bad
instance : SC K rIntU intD := ⟨fun {X F H ρ μ vs ds P Q} w q h o => by
  unfold intD at h
  split at h
  · cases q with
    | cons qa qb =>
      cases qb
      cases qa
      exact .inl ⟨_, rfl, o.here w (.int _) h⟩
  · cases q with
    | cons qa qb =>
      cases qb
      cases qa
      exact .inr ⟨_, rfl, o.here w (.int _) h⟩
  · exact h.elim⟩
def rTupU (K : PySem.W.Frag) : List V → Hp → VK → Prop := fun xs H Q => ∃ p ys, xs = [.ref p] ∧ ((SqL K H p ys ∧ ∀ l, H l = none → Q (.ref l) (upd H l (.tup ys))) ∨ (SqT K H p ys ∧ Q (.ref p) H))
theorem call_tupU {X : Cx} : CallR X (.type "tuple") (rTupU X.K) := call_tuple_of
def tupD (ds : List D) (μ : Mu) : Res D := match ds with
  | [.tup xs] => .ok (.tup xs) μ
  | [d] => okO (asL μ d) fun xs => .ok (.tup xs) μ
  | _ => .bad
instance : SC K (rTupU K) tupD := ⟨fun {X F H ρ μ vs ds P Q} w q h o => by
  unfold tupD at h
  split at h
  · cases q with
    | cons qa qb =>
      cases qb
      cases qa with
      | tup na ea qs => exact ⟨_, _, rfl, .inr ⟨SqT.of ea, o.here w (.tup na ea qs) h⟩⟩
  · cases q with
    | cons qa qb =>
      cases qb
      obtain ⟨xs, c, h⟩ := wp_okO h
      obtain ⟨a, vs, rfl, ea, qs⟩ := asL_at w qa c
      exact ⟨a, vs, rfl, .inl ⟨SqL.of ea, fun l hl => o.newT w qs h hl⟩⟩
  · exact h.elim⟩
def rListU (K : PySem.W.Frag) : List V → Hp → VK → Prop := fun xs H Q => ∃ p ys, xs = [.ref p] ∧ (SqL K H p ys ∨ SqT K H p ys) ∧ ∀ l, H l = none → Q (.ref l) (upd H l (.lst ys))
theorem call_listU {X : Cx} : CallR X (.type "list") (rListU X.K) := call_list_of
def listD (ds : List D) (μ : Mu) : Res D := match ds with
  | [d] => okO (seqOf μ d) fun xs => .ok (.lst xs) μ
  | _ => .bad
instance : SC K (rListU K) listD := ⟨fun {X F H ρ μ vs ds P Q} w q h o => by
  unfold listD at h
  split at h
  · cases q with
    | cons qa qb =>
      cases qb
      obtain ⟨xs, c, h⟩ := wp_okO h
      obtain ⟨a, vs, rfl, ea, qs⟩ := seqOf_at w qa c
      exact ⟨a, vs, rfl, ea, fun l hl => o.newL w qs h hl⟩
  · exact h.elim⟩
def rListM (K : PySem.W.Frag) : List V → Hp → VK → Prop := rListU K
theorem call_listM {X : Cx} : CallR X (.type "list") (rListM X.K) := call_list_of
def listMD (ds : List D) (μ : Mu) : Res D := match ds with
  | [d] => okO (seqOf μ d) fun xs => .ok (.cell μ.length) (μ ++ [.lst xs])
  | _ => .bad
instance : SC K (rListM K) listMD := ⟨fun {X F H ρ μ vs ds P Q} w q h o => by
  unfold listMD at h
  split at h
  · cases q with
    | cons qa qb =>
      cases qb
      obtain ⟨xs, c, h⟩ := wp_okO h
      obtain ⟨a, vs, rfl, ea, qs⟩ := seqOf_at w qa c
      exact ⟨a, vs, rfl, ea, fun l hl => o.newM w qs h hl⟩
  · exact h.elim⟩
/-! isinstance -/
def tyName (μ : Mu) : D → Option String
  | .non => some "NoneType"
  | .bl _ => some "bool"
  | .int _ => some "int"
  | .str _ => some "str"
  | .tup _ => some "tuple"
  | .lst _ => some "list"
  | .cell a => match μ[a]? with
    | some (.lst _) => some "list"
    | _ => none
  | _ => none
theorem tyName_at {F ρ : List Addr} {μ : Mu} {H : Hp} (w : Wd K F ρ μ H) {v : V} {d : D} {n : String} (h : Dt K F ρ H v d) (e : tyName μ d = some n) : TyX K H v (.type n) := by
  cases h with
  | non => cases e; exact .base .non
  | bl b => cases e; exact .base (.bl b)
  | int b => cases e; exact .base (.int b)
  | str b => cases e; exact .base (.str b)
  | tup na ea qs => cases e; exact .base (.tup ea)
  | lst na ea qs => cases e; exact .base (.lst ea)
  | @cell i a hm =>
    unfold tyName at e
    simp only at e
    cases c : μ[i]? with
    | none => rw [c] at e; cases e
    | some m =>
      rw [c] at e
      cases m with
      | lst xs =>
        cases e
        obtain ⟨vs, e1, q1⟩ := w.ok _ _ _ hm c
        exact .base (.lst e1)
      | _ => cases e
  | _ => cases e
/-- kinds of built-in classes: (of, asked) -/
def kindB : String → String → Option Bool
  | "bool", "bool" => some true
  | "bool", "int" => some true
  | "int", "int" => some true
  | "str", "str" => some true
  | "tuple", "tuple" => some true
  | "list", "list" => some true
  | m, n => if m ∈ ["NoneType", "bool", "int", "str", "tuple", "list"] ∧ n ∈ ["bool", "int", "str", "tuple", "list"] then some false else none
theorem kindB_ok {m n : String} {b : Bool} (h : kindB m n = some b) : kitB m n = some b := by
  unfold kindB at h
  split at h
  · cases h; decide +kernel
  · cases h; decide +kernel
  · cases h; decide +kernel
  · cases h; decide +kernel
  · cases h; decide +kernel
  · cases h; decide +kernel
  · rename_i n1 n2 n3 n4 n5 n6
    split at h
    · rename_i c
      cases h
      obtain ⟨c1, c2⟩ := c
      simp only [List.mem_cons, List.not_mem_nil, or_false] at c1 c2
      rcases c1 with rfl | rfl | rfl | rfl | rfl | rfl <;> rcases c2 with rfl | rfl | rfl | rfl | rfl <;> first | decide +kernel | exact absurd rfl (n1 rfl) | exact absurd rfl (n2 rfl) | exact absurd rfl (n3 rfl) | exact absurd rfl (n4 rfl) | exact absurd rfl (n5 rfl) | exact absurd rfl (n6 rfl)
    · cases h
def isiD (ds : List D) (μ : Mu) : Res D := match ds with
  | [d, .ty n] => okO (tyName μ d) fun m => okO (kindB m n) fun b => .ok (.bl b) μ
  | _ => .bad
instance : SC K (rIsi K) isiD := ⟨fun {X F H ρ μ vs ds P Q} w q h o => by
  unfold isiD at h
  split at h
  · rename_i d n
    cases q with
    | cons qa qb =>
      cases qb with
      | cons qb qc =>
        cases qc
        cases qb
        obtain ⟨m, c, h⟩ := wp_okO h
        obtain ⟨b, c2, h⟩ := wp_okO h
        exact ⟨_, _, _, _, b, rfl, .ty n, tyName_at w qa c, kit_ty (kindB_ok c2), o.here w (.bl b) h⟩
  · exact h.elim⟩
end
end
end DX

namespace DX
open PySem PySem.Spec PyProof.Rows L2
noncomputable section
/-! ### equality of data, as a test -/
mutual
def eqb : D → D → Bool
  | .non, .non => true
  | .bl a, .bl b => a == b
  | .int a, .int b => a == b
  | .str a, .str b => a == b
  | .ty a, .ty b => a == b
  | .cls a, .cls b => a == b
  | .fn a, .fn b => a == b
  | .tup xs, .tup ys => eqbs xs ys
  | .lst xs, .lst ys => eqbs xs ys
  | .cell i, .cell j => i == j
  | .obj c ns xs, .obj e ms ys => c == e && ns == ms && eqbs xs ys
  | .scr a, .scr b => a == b
  | .dK a xs, .dK b ys => decide (a = b) && eqbs xs ys
  | .dT a xs, .dT b ys => decide (a = b) && eqbs xs ys
  | _, _ => false
def eqbs : List D → List D → Bool
  | [], [] => true
  | x :: r, y :: t => eqb x y && eqbs r t
  | _, _ => false
end
mutual
theorem eqb_eq : ∀ (a b : D), eqb a b = true → a = b
  | .non, b, h => by cases b <;> first | rfl | (simp [eqb] at h)
  | .bl a, b, h => by cases b <;> simp_all [eqb]
  | .int a, b, h => by cases b <;> simp_all [eqb]
  | .str a, b, h => by cases b <;> simp_all [eqb]
  | .ty a, b, h => by cases b <;> simp_all [eqb]
  | .cls a, b, h => by cases b <;> simp_all [eqb]
  | .fn a, b, h => by cases b <;> simp_all [eqb]
  | .tup xs, b, h => by
    cases b with
    | tup ys => rw [eqbs_eq xs ys (by simpa [eqb] using h)]
    | _ => simp [eqb] at h
  | .lst xs, b, h => by
    cases b with
    | lst ys => rw [eqbs_eq xs ys (by simpa [eqb] using h)]
    | _ => simp [eqb] at h
  | .cell a, b, h => by cases b <;> simp_all [eqb]
  | .obj c ns xs, b, h => by
    cases b with
    | obj e ms ys =>
      have h' : (c = e ∧ ns = ms) ∧ eqbs xs ys = true := by simpa [eqb] using h
      rw [eqbs_eq xs ys h'.2, h'.1.1, h'.1.2]
    | _ => simp [eqb] at h
  | .scr a, b, h => by cases b <;> simp_all [eqb]
  | .dK a xs, b, h => by
    cases b with
    | dK e ys =>
      have h' : a = e ∧ eqbs xs ys = true := by simpa [eqb] using h
      rw [eqbs_eq xs ys h'.2, h'.1]
    | _ => simp [eqb] at h
  | .dT a xs, b, h => by
    cases b with
    | dT e ys =>
      have h' : a = e ∧ eqbs xs ys = true := by simpa [eqb] using h
      rw [eqbs_eq xs ys h'.2, h'.1]
    | _ => simp [eqb] at h
theorem eqbs_eq : ∀ (a b : List D), eqbs a b = true → a = b
  | [], b, h => by cases b <;> first | rfl | (simp [eqbs] at h)
  | x :: r, b, h => by
    cases b with
    | nil => simp [eqbs] at h
    | cons y t =>
      have h' : eqb x y = true ∧ eqbs r t = true := by simpa [eqbs] using h
      rw [eqb_eq x y h'.1, eqbs_eq r t h'.2]
end
mutual
theorem eqb_refl : ∀ a : D, eqb a a = true
  | .non => by simp [eqb]
  | .bl a => by simp [eqb]
  | .int a => by simp [eqb]
  | .str a => by simp [eqb]
  | .ty a => by simp [eqb]
  | .cls a => by simp [eqb]
  | .fn a => by simp [eqb]
  | .tup xs => by simp [eqb, eqbs_refl xs]
  | .lst xs => by simp [eqb, eqbs_refl xs]
  | .cell a => by simp [eqb]
  | .obj c ns xs => by simp [eqb, eqbs_refl xs]
  | .scr a => by simp [eqb]
  | .dK a xs => by simp [eqb, eqbs_refl xs]
  | .dT a xs => by simp [eqb, eqbs_refl xs]
theorem eqbs_refl : ∀ a : List D, eqbs a a = true
  | [] => by simp [eqbs]
  | x :: r => by simp [eqbs, eqb_refl x, eqbs_refl r]
end
def eqbM : MO → MO → Bool
  | .lst xs, .lst ys => eqbs xs ys
  | .ins c ns xs, .ins e ms ys => c == e && ns == ms && eqbs xs ys
  | .dK a xs, .dK b ys => decide (a = b) && eqbs xs ys
  | .dT a xs, .dT b ys => decide (a = b) && eqbs xs ys
  | _, _ => false
theorem eqbM_eq : ∀ (a b : MO), eqbM a b = true → a = b
  | .lst xs, b, h => by
    cases b with
    | lst ys => rw [eqbs_eq xs ys (by simpa [eqbM] using h)]
    | _ => simp [eqbM] at h
  | .ins c ns xs, b, h => by
    cases b with
    | ins e ms ys =>
      have h' : (c = e ∧ ns = ms) ∧ eqbs xs ys = true := by simpa [eqbM] using h
      rw [eqbs_eq xs ys h'.2, h'.1.1, h'.1.2]
    | _ => simp [eqbM] at h
  | .dK a xs, b, h => by
    cases b with
    | dK e ys =>
      have h' : a = e ∧ eqbs xs ys = true := by simpa [eqbM] using h
      rw [eqbs_eq xs ys h'.2, h'.1]
    | _ => simp [eqbM] at h
  | .dT a xs, b, h => by
    cases b with
    | dT e ys =>
      have h' : a = e ∧ eqbs xs ys = true := by simpa [eqbM] using h
      rw [eqbs_eq xs ys h'.2, h'.1]
    | _ => simp [eqbM] at h
theorem eqbM_refl : ∀ a : MO, eqbM a a = true
  | .lst xs => by simp [eqbM, eqbs_refl]
  | .ins c ns xs => by simp [eqbM, eqbs_refl]
  | .dK a xs => by simp [eqbM, eqbs_refl]
  | .dT a xs => by simp [eqbM, eqbs_refl]
/-! ### what is made in a def and let go -/
mutual
/-- no cell from n on is in it -/
def nn (n : Nat) : D → Bool
  | .tup xs => nns n xs
  | .lst xs => nns n xs
  | .cell b => decide (b < n)
  | .obj _ _ ds => nns n ds
  | .dK _ ds => nns n ds
  | .dT _ ds => nns n ds
  | .non => true
  | .bl _ => true
  | .int _ => true
  | .str _ => true
  | .ty _ => true
  | .cls _ => true
  | .fn _ => true
  | .scr _ => true
def nns (n : Nat) : List D → Bool
  | [] => true
  | x :: r => nn n x && nns n r
end
def nnM (n : Nat) : MO → Bool
  | .lst xs => nns n xs
  | .ins _ _ xs => nns n xs
  | .dK _ xs => nns n xs
  | .dT _ xs => nns n xs
section
variable {K : PySem.W.Frag}
mutual
theorem nn_drop {F ρ : List Addr} {H : Hp} {n : Nat} : ∀ (d : D) {v : V}, nn n d = true → Dt K F ρ H v d → Dt K F (ρ.take n) H v d
  | .non, v, _, q => by cases q; exact .non
  | .bl b, v, _, q => by cases q; exact .bl b
  | .int b, v, _, q => by cases q; exact .int b
  | .str b, v, _, q => by cases q; exact .str b
  | .ty b, v, _, q => by cases q; exact .ty b
  | .cls b, v, _, q => by cases q; exact .cls b
  | .fn b, v, _, q => by cases q; exact .fn b
  | .tup xs, v, h, q => by
    cases q with
    | tup na e qs => exact .tup (app_not (not_app na).1 fun z => (not_app na).2 (List.mem_of_mem_take z)) e (nns_drop xs (by simpa [nn] using h) qs)
  | .lst xs, v, h, q => by
    cases q with
    | lst na e qs => exact .lst (app_not (not_app na).1 fun z => (not_app na).2 (List.mem_of_mem_take z)) e (nns_drop xs (by simpa [nn] using h) qs)
  | .cell b, v, h, q => by
    cases q with
    | cell e =>
      have hb : b < n := by simpa [nn] using h
      exact .cell (by rw [List.getElem?_take, if_pos hb]; exact e)
  | .obj c ns ds, v, h, q => by
    cases q with
    | obj na e l qs => exact .obj (app_not (not_app na).1 fun z => (not_app na).2 (List.mem_of_mem_take z)) e l (nns_drop ds (by simpa [nn] using h) qs)
  | .scr ns, v, h, q => by
    cases q with
    | scr e =>
      refine .scr ?_
      rcases e with ⟨na, e⟩ | e
      · exact .inl ⟨app_not (not_app na).1 fun z => (not_app na).2 (List.mem_of_mem_take z), e⟩
      · exact .inr e
  | .dK ks ds, v, h, q => by
    cases q with
    | dK na e l qs => exact .dK (app_not (not_app na).1 fun z => (not_app na).2 (List.mem_of_mem_take z)) e l (nns_drop ds (by simpa [nn] using h) qs)
  | .dT ks ds, v, h, q => by
    cases q with
    | dT na e l qs => exact .dT (app_not (not_app na).1 fun z => (not_app na).2 (List.mem_of_mem_take z)) e l (nns_drop ds (by simpa [nn] using h) qs)
theorem nns_drop {F ρ : List Addr} {H : Hp} {n : Nat} : ∀ (ds : List D) {vs : List V}, nns n ds = true → DtAll K F ρ H vs ds → DtAll K F (ρ.take n) H vs ds
  | [], vs, _, q => by cases q; exact .nil
  | x :: r, vs, h, q => by
    have h' : nn n x = true ∧ nns n r = true := by simpa [nns] using h
    cases q with
    | cons a b => exact .cons (nn_drop x h'.1 a) (nns_drop r h'.2 b)
end
mutual
theorem nn_of {F ρ : List Addr} {H : Hp} : ∀ (d : D) {v : V}, Dt K F ρ H v d → nn ρ.length d = true
  | .non, v, q => by simp [nn]
  | .bl b, v, q => by simp [nn]
  | .int b, v, q => by simp [nn]
  | .str b, v, q => by simp [nn]
  | .ty b, v, q => by simp [nn]
  | .cls b, v, q => by simp [nn]
  | .fn b, v, q => by simp [nn]
  | .tup xs, v, q => by
    cases q with
    | tup na e qs => simp [nn, nns_of xs qs]
  | .lst xs, v, q => by
    cases q with
    | lst na e qs => simp [nn, nns_of xs qs]
  | .cell b, v, q => by
    cases q with
    | cell e => simp [nn, (List.getElem?_eq_some_iff.mp e).1]
  | .obj c ns ds, v, q => by
    cases q with
    | obj na e l qs => simp [nn, nns_of ds qs]
  | .scr ns, v, q => by simp [nn]
  | .dK ks ds, v, q => by
    cases q with
    | dK na e l qs => simp [nn, nns_of ds qs]
  | .dT ks ds, v, q => by
    cases q with
    | dT na e l qs => simp [nn, nns_of ds qs]
theorem nns_of {F ρ : List Addr} {H : Hp} : ∀ (ds : List D) {vs : List V}, DtAll K F ρ H vs ds → nns ρ.length ds = true
  | [], vs, q => by simp [nns]
  | x :: r, vs, q => by
    cases q with
    | cons a b => simp [nns, nn_of x a, nns_of r b]
end
theorem nnM_of {F ρ : List Addr} {H : Hp} {a : Addr} {m : MO} (h : MOk K F ρ H a m) : nnM ρ.length m = true := by
  cases m with
  | lst ds => obtain ⟨vs, e, r⟩ := h; exact nns_of ds r
  | ins C ns ds => obtain ⟨dx, vs, e, l, r⟩ := h; exact nns_of ds r
  | dK ks ds => obtain ⟨vs, e, l, r⟩ := h; exact nns_of ds r
  | dT ks ds => obtain ⟨vs, e, l, r⟩ := h; exact nns_of ds r
theorem nnM_drop {F ρ : List Addr} {H : Hp} {a : Addr} {n : Nat} {m : MO} (hn : nnM n m = true) (h : MOk K F ρ H a m) : MOk K F (ρ.take n) H a m := by
  cases m with
  | lst ds => obtain ⟨vs, e, r⟩ := h; exact ⟨vs, e, nns_drop ds hn r⟩
  | ins C ns ds => obtain ⟨dx, vs, e, l, r⟩ := h; exact ⟨dx, vs, e, l, nns_drop ds hn r⟩
  | dK ks ds => obtain ⟨vs, e, l, r⟩ := h; exact ⟨vs, e, l, nns_drop ds hn r⟩
  | dT ks ds => obtain ⟨vs, e, l, r⟩ := h; exact ⟨vs, e, l, nns_drop ds hn r⟩
/-- things of a def's own become data that stands still -/
def frz (n : Nat) (μ : Mu) : Nat → D → Option D
  | 0, d => if nn n d = true then some d else none
  | k + 1, d => if nn n d = true then some d else match d with
    | .tup xs => (xs.mapM (frz n μ k)).map .tup
    | .lst xs => (xs.mapM (frz n μ k)).map .lst
    | .obj c ns xs => (xs.mapM (frz n μ k)).map (.obj c ns)
    | .cell i => match μ[i]? with
      | some (.lst xs) => (xs.mapM (frz n μ k)).map .lst
      | some (.ins c ns xs) => (xs.mapM (frz n μ k)).map (.obj c ns)
      | some (.dK ks xs) => (xs.mapM (frz n μ k)).map (.dK ks)
      | some (.dT ks xs) => (xs.mapM (frz n μ k)).map (.dT ks)
      | none => none
    | _ => none
theorem mapM_ok {F ρ ρ' : List Addr} {H : Hp} {f : D → Option D} (hf : ∀ d d' v, f d = some d' → Dt K F ρ H v d → Dt K F ρ' H v d') : ∀ (ds ds' : List D) {vs : List V}, ds.mapM f = some ds' → DtAll K F ρ H vs ds → DtAll K F ρ' H vs ds'
  | [], ds', vs, h, q => by
    cases q
    have e : ds' = [] := by simpa using h.symm
    subst e
    exact .nil
  | x :: r, ds', vs, h, q => by
    rw [List.mapM_cons] at h
    cases c : f x with
    | none => rw [c] at h; cases h
    | some y =>
      rw [c] at h
      cases c2 : r.mapM f with
      | none => rw [c2] at h; cases h
      | some ys =>
        rw [c2] at h
        cases h
        cases q with
        | cons a b => exact .cons (hf _ _ _ c a) (mapM_ok hf r ys c2 b)
theorem take_off {ρ : List Addr} {n i : Nat} {a : Addr} (nd : ρ.Nodup) (h : ρ[i]? = some a) (hi : n ≤ i) : a ∉ ρ.take n := fun z => by
  obtain ⟨j, hj, e⟩ := List.mem_iff_getElem.mp z
  have hj' : (ρ.take n)[j]? = some a := by rw [List.getElem?_eq_getElem hj, e]
  rw [List.length_take] at hj
  rw [List.getElem?_take, if_pos (by omega)] at hj'
  have := nodup_at nd h hj'
  omega
theorem frz_ok {F ρ : List Addr} {μ : Mu} {H : Hp} {n : Nat} (w : Wd K F ρ μ H) : ∀ (k : Nat) (d d' : D) (v : V), frz n μ k d = some d' → Dt K F ρ H v d → Dt K F (ρ.take n) H v d'
  | 0, d, d', v, h, q => by
    unfold frz at h
    split at h
    · rename_i c
      cases h
      exact nn_drop d c q
    · cases h
  | k + 1, d, d', v, h, q => by
    unfold frz at h
    split at h
    · rename_i c
      cases h
      exact nn_drop d c q
    · rename_i cn
      have sub : ∀ {a : Addr}, a ∉ F ++ ρ → a ∉ F ++ ρ.take n := fun na => app_not (not_app na).1 fun z => (not_app na).2 (List.mem_of_mem_take z)
      have go : ∀ {xs : List D} {f : List D → D}, (xs.mapM (frz n μ k)).map f = some d' → ∃ ys, xs.mapM (frz n μ k) = some ys ∧ f ys = d' := fun {xs f} e => by
        cases c : xs.mapM (frz n μ k) with
        | none => rw [c] at e; cases e
        | some ys => rw [c] at e; exact ⟨ys, rfl, Option.some.inj e⟩
      cases d with
      | tup xs =>
        obtain ⟨ys, e, rfl⟩ := go h
        cases q with
        | tup na ea qs => exact .tup (sub na) ea (mapM_ok (fun d d' v => frz_ok w k d d' v) xs ys e qs)
      | lst xs =>
        obtain ⟨ys, e, rfl⟩ := go h
        cases q with
        | lst na ea qs => exact .lst (sub na) ea (mapM_ok (fun d d' v => frz_ok w k d d' v) xs ys e qs)
      | obj c ns xs =>
        obtain ⟨ys, e, rfl⟩ := go h
        cases q with
        | obj na ea l qs => exact .obj (sub na) ea l (mapM_ok (fun d d' v => frz_ok w k d d' v) xs ys e qs)
      | cell i =>
        cases q with
        | @cell _ a ha =>
          have hi : n ≤ i := by
            have : ¬ i < n := fun z => cn (by simp [nn, z])
            omega
          have off : a ∉ F ++ ρ.take n := app_not (w.apart a (List.mem_of_getElem? ha)) (take_off w.nd ha hi)
          cases c : μ[i]? with
          | none => simp only [c] at h; cases h
          | some m =>
            have ok := w.ok i a m ha c
            cases m with
            | lst xs =>
              simp only [c] at h
              obtain ⟨ys, e, rfl⟩ := go h
              obtain ⟨vs, e1, r⟩ := ok
              exact .lst off e1 (mapM_ok (fun d d' v => frz_ok w k d d' v) xs ys e r)
            | ins cc ns xs =>
              simp only [c] at h
              obtain ⟨ys, e, rfl⟩ := go h
              obtain ⟨dx, vs, e1, l, r⟩ := ok
              exact .obj off e1 l (mapM_ok (fun d d' v => frz_ok w k d d' v) xs ys e r)
            | dK ks xs =>
              simp only [c] at h
              obtain ⟨ys, e, rfl⟩ := go h
              obtain ⟨vs, e1, l, r⟩ := ok
              exact .dK off e1 l (mapM_ok (fun d d' v => frz_ok w k d d' v) xs ys e r)
            | dT ks xs =>
              simp only [c] at h
              obtain ⟨ys, e, rfl⟩ := go h
              obtain ⟨vs, e1, l, r⟩ := ok
              exact .dT off e1 l (mapM_ok (fun d d' v => frz_ok w k d d' v) xs ys e r)
      | _ => cases h
/-- the store as far as it was there before: as it was, or without anything new in it -/
def sameMu : Mu → Mu → Bool
  | [], [] => true
  | x :: r, y :: t => eqbM x y && sameMu r t
  | _, _ => false
theorem sameMu_eq : ∀ (a b : Mu), sameMu a b = true → a = b
  | [], [], _ => rfl
  | [], _ :: _, h => by simp [sameMu] at h
  | _ :: _, [], h => by simp [sameMu] at h
  | x :: r, y :: t, h => by
    have h' : eqbM x y = true ∧ sameMu r t = true := by simpa [sameMu] using h
    rw [eqbM_eq x y h'.1, sameMu_eq r t h'.2]
theorem sameMu_refl : ∀ a : Mu, sameMu a a = true
  | [] => rfl
  | x :: r => by simp [sameMu, eqbM_refl, sameMu_refl r]
def keepMu (μ0 μ : Mu) : Bool := sameMu (μ.take μ0.length) μ0 || (μ.take μ0.length).all (nnM μ0.length)
def fz (μ0 : Mu) (r : Res D) : Res D := match r with
  | .ok d μ => if μ.length ≤ μ0.length then .ok d μ else if keepMu μ0 μ = true then okO (frz μ0.length μ 8 d) fun d' => .ok d' (μ.take μ0.length) else .bad
  | .exc e μ => if μ.length ≤ μ0.length then .exc e μ else if keepMu μ0 μ = true then okO (e.ds.mapM (frz μ0.length μ 8)) fun ds => .exc ⟨e.cls, e.ns, ds⟩ (μ.take μ0.length) else .bad
  | .bad => .bad
section
variable {F ρ0 ρ : List Addr} {μ0 μ : Mu} {H0 H : Hp} {P : D → Mu → Prop} {X : Exn → Mu → Prop} {Q : VK} {E : XK}
theorem take_base (w0 : Wd K F ρ0 μ0 H0) (g : Grow ρ0 ρ H0 H) : ρ.take μ0.length = ρ0 := by
  obtain ⟨t, e⟩ := g.ext
  rw [e, ← w0.len, List.take_left]
theorem keep_wd (w0 : Wd K F ρ0 μ0 H0) (w : Wd K F ρ μ H) (g : Grow ρ0 ρ H0 H) (h : keepMu μ0 μ = true) : Wd K F ρ0 (μ.take μ0.length) H := by
  have e := take_base w0 g
  have hl : ρ0.length ≤ ρ.length := by
    obtain ⟨t, e⟩ := g.ext
    rw [e, List.length_append]
    omega
  refine ⟨w.fs, ?_, w0.nd, fun a ha => w.apart a (g.sub a ha), fun i a m hi hm => ?_⟩
  · rw [List.length_take, ← w.len, ← w0.len]
    omega
  · have il := (List.getElem?_eq_some_iff.mp hi).1
    have hm' : μ[i]? = some m := by
      rw [List.getElem?_take, if_pos (by rw [← w0.len]; exact il)] at hm
      exact hm
    have ok := w.ok i a m (g.at_ hi) hm'
    rw [← e]
    refine nnM_drop ?_ ok
    rcases Bool.or_eq_true_iff.mp h with h | h
    · have ee := sameMu_eq _ _ h
      rw [ee] at hm
      rw [← w0.len]
      exact nnM_of (w0.ok i a m hi hm)
    · exact List.all_eq_true.mp h m (List.mem_of_getElem? hm)
theorem grow_base (w0 : Wd K F ρ0 μ0 H0) (g : Grow ρ0 ρ H0 H) : Grow ρ0 ρ0 H0 H := ⟨g.keep, ⟨[], by simp⟩, fun _ h n => absurd h n⟩
theorem fz_ok {d : D} {v : V} (w0 : Wd K F ρ0 μ0 H0) (o : Out K F ρ0 H0 P Q) (h : wp (fz μ0 (.ok d μ)) P X) (w : Wd K F ρ μ H) (g : Grow ρ0 ρ H0 H) (q : Dt K F ρ H v d) : Q v H := by
  unfold fz at h
  simp only at h
  split at h
  · exact o v H ρ d μ w g q h
  · split at h
    · rename_i c
      obtain ⟨d', e, h⟩ := wp_okO h
      have q' := frz_ok w 8 d d' v e q
      rw [take_base w0 g] at q'
      exact o v H ρ0 d' _ (keep_wd w0 w g c) (grow_base w0 g) q' h
    · exact h.elim
theorem fz_exc {e : Exn} {dd : Addr} {vs : List V} (w0 : Wd K F ρ0 μ0 H0) (x : XOut0 K E X F ρ0 H0) (h : wp (fz μ0 (.exc e μ)) P X) (w : Wd K F ρ μ H) (g : Grow ρ0 ρ H0 H) (hd : H dd = some (.xd (e.ns.zip vs))) (nd : dd ∉ F ++ ρ) (l : e.ns.length = vs.length) (q : DtAll K F ρ H vs e.ds) :
    E (.ref (He.ga K e.cls)) (some dd) H := by
  unfold fz at h
  simp only at h
  split at h
  · exact x e dd H ρ μ vs w g hd nd l q h
  · split at h
    · rename_i c
      obtain ⟨ds, ee, h⟩ := wp_okO h
      have q' := mapM_ok (fun d d' v => frz_ok w 8 d d' v) e.ds ds ee q
      rw [take_base w0 g] at q'
      exact x ⟨e.cls, e.ns, ds⟩ dd H ρ0 _ vs (keep_wd w0 w g c) (grow_base w0 g) hd (app_not (not_app nd).1 fun z => (not_app nd).2 (g.sub _ z)) l q' h
    · exact h.elim
end
/-! ### defs -/
/-- the end of a def -/
def SR.run : SR → Res D
  | .nx _ μ => .ok .non μ
  | .rt d μ => .ok d μ
  | .exc e _ μ => .exc e μ
  | _ => .bad
/-- fin: what becomes of the store at the end -/
structure Fnl (fin : Mu → Res D → Res D) : Prop where
  bad : ∀ μ, fin μ .bad = .bad
  ok : ∀ {K : PySem.W.Frag} {F ρ0 ρ : List Addr} {μ0 μ : Mu} {H0 H : Hp} {P : D → Mu → Prop} {X : Exn → Mu → Prop} {Q : VK} {d : D} {v : V}, Wd K F ρ0 μ0 H0 → Out K F ρ0 H0 P Q → wp (fin μ0 (.ok d μ)) P X → Wd K F ρ μ H → Grow ρ0 ρ H0 H → Dt K F ρ H v d → Q v H
  exc : ∀ {K : PySem.W.Frag} {F ρ0 ρ : List Addr} {μ0 μ : Mu} {H0 H : Hp} {P : D → Mu → Prop} {X : Exn → Mu → Prop} {E : XK} {e : Exn} {dd : Addr} {vs : List V}, Wd K F ρ0 μ0 H0 → XOut0 K E X F ρ0 H0 → wp (fin μ0 (.exc e μ)) P X → Wd K F ρ μ H → Grow ρ0 ρ H0 H → H dd = some (.xd (e.ns.zip vs)) → dd ∉ F ++ ρ → e.ns.length = vs.length → DtAll K F ρ H vs e.ds → E (.ref (He.ga K e.cls)) (some dd) H
theorem fin_fz : Fnl fz := ⟨fun _ => rfl, fz_ok, fz_exc⟩
def kp (_ : Mu) (r : Res D) : Res D := r
theorem fin_kp : Fnl kp := ⟨fun _ => rfl, fun w0 o h w g q => o _ _ _ _ _ w g q h, fun w0 x h w g a b c d => x _ _ _ _ _ _ w g a b c d h⟩
def env0 (n : Nat) (ds : List D) : Env := ds.map some ++ List.replicate (n - ds.length) none
def defR (fin : Mu → Res D → Res D) (np n : Nat) (T : DS) : FS := fun ds μ => if ds.length = np then fin μ (T (env0 n ds) μ).run else .bad
theorem env0_ok {F ρ : List Addr} {H : Hp} {N : List Str} {vs : List V} {ds : List D} (q : DtAll K F ρ H vs ds) : EnvOk0 K F ρ H (start N vs) (env0 N.length ds) where
  len := by
    unfold L2.start env0
    rw [List.length_append, List.length_append, List.length_map, List.length_map, List.length_replicate, List.length_replicate, q.len]
  ok := fun i d h => by
    unfold env0 at h
    unfold L2.start
    by_cases c : i < ds.length
    · rw [List.getElem?_append_left (by rw [List.length_map]; exact c), List.getElem?_map] at h
      cases e : ds[i]? with
      | none => rw [e] at h; cases h
      | some d' =>
        rw [e] at h
        cases h
        obtain ⟨v, hv, qd⟩ := q.getD e
        refine ⟨v, ?_, qd⟩
        rw [List.getElem?_append_left (by rw [List.length_map, q.len]; exact c), List.getElem?_map, hv]
        rfl
    · rw [List.getElem?_append_right (by rw [List.length_map]; omega), List.getElem?_replicate] at h
      split at h
      · cases h
      · cases h
/-- a body, from its run over data -/
theorem body_ok {fin : Mu → Res D → Res D} (hf : Fnl fin) {t : TS} {T : DS} {E : XK} [S : SS K (fun _ => E) t T] {F ρ : List Addr} {μ : Mu} {H : Hp} {N : List Str} {vs : List V} {ds : List D} {P : D → Mu → Prop} {X : Exn → Mu → Prop} {Q : VK}
    (w : Wd K F ρ μ H) (q : DtAll K F ρ H vs ds) (h : wp (fin μ (T (env0 N.length ds) μ).run) P X) (o : Out K F ρ H P Q) (x : XOut0 K E X F ρ H) : t { nx := fun _ H' => Q .non H', rt := Q } (start N vs) H := by
  have h' : wpS (T (env0 N.length ds) μ) { nx := fun _ μ' => wp (fin μ (.ok .non μ')) P X, rt := fun d μ' => wp (fin μ (.ok d μ')) P X } (fun e _ μ' => wp (fin μ (.exc e μ')) P X) := by
    revert h
    cases T (env0 N.length ds) μ <;> first | exact id | (intro h; have z : wp (fin μ .bad) P X := h; rw [hf.bad] at z; exact z.elim)
  refine S.run w ⟨env0_ok q, fun σ' η' e d H' ρ' μ' vs' w' _ g' a b c dd hx => hf.exc w x hx w' g' a b c dd⟩ h' ⟨?_, ?_, ?_, ?_⟩
  · exact fun σ' H' η' ρ' μ' w' e' g' h' => hf.ok w o h' w' g' .non
  · exact fun v H' ρ' d μ' w' g' q' h' => hf.ok w o h' w' g' q'
  · exact fun σ' H' η' ρ' μ' w' e' g' h' => h'.elim
  · exact fun σ' H' η' ρ' μ' w' e' g' h' => h'.elim
variable {P : Program} {w : World} {mg : Str → Option Value} {base : Heap} {x qual : Str} {params : Arguments} {body : List Stmt} {scope : Scope} {dvs : List V} {kws : List (Str × V)} {f : Addr} {fd : FuncData}
/-- a body's derivation, whatever runs around it -/
abbrev BodyD (P : Program) (w : World) (K : PySem.W.Frag) (mg : Str → Option Value) (base : Heap) (N : List Str) (qual : Str) (scope : Scope) (f : Addr) (k : Nat) (body : List Stmt) (T : DS) : Prop :=
  ∀ (cdv : Value) (A : Around) (outer : List PySem.Env) (s : Shared) (H : Hp) (E : XK), Room k (A.deeper (envOfC qual scope s.heap.objs.size f cdv)) → ∃ t, PSs (cxOf (L2.CX P w) P w K mg base N qual scope f cdv A outer s H E) body t ∧ SS K (fun _ => E) t T
theorem fnOkD {fin : Mu → Res D → Res D} (hf : Fnl fin) {N ps : List Str} {k : Nat} {T : DS} (Fu : FunD K x qual params body scope dvs kws f fd) (S : FnScope N ps scope)
    (hbody : BodyD P w K mg base N qual scope f k body T) : FnOk P w K mg base (L2.CX P w) (k + 1) f fd ps (spD K (defR fin ps.length N.length T)) := by
  refine Fu.ok S (fun vs H Q E h => ?_) (fun cdv A outer s H vs Q E hr h => ?_)
  · obtain ⟨F, ρ, ds, μ, Q', X, _, q, hd, _⟩ := h
    unfold defR at hd
    split at hd
    · rename_i c
      exact q.len.trans c
    · exact hd.elim
  · obtain ⟨t, ht, hS⟩ := hbody cdv A outer s H E hr
    obtain ⟨F, ρ, ds, μ, Q', X, wd, q, hd, o, xo⟩ := h
    unfold defR at hd
    split at hd
    · exact ⟨t, ht, body_ok hf wd q hd o xo⟩
    · exact hd.elim
theorem fnD {fin : Mu → Res D → Res D} (hf : Fnl fin) {N ps : List Str} {k : Nat} {T : DS} (Fu : FunD K x qual params body scope dvs kws f fd) (S : FnScope N ps scope) (b : Binds K fd ps [])
    (hbody : BodyD P w K mg base N qual scope f k body T) : FnR P w K mg base (L2.CX P w) (k + 1) f (spD K (defR fin ps.length N.length T)) :=
  (FnOk.raw (fnOkD (P := P) (w := w) (mg := mg) (base := base) hf Fu S hbody) b .nil).imp fun vs H Q E h => by rw [List.append_nil]; exact h
/-- a def with a star parameter -/
def starR (n : Nat) (fs : FS) : FS := fun ds μ => if n ≤ ds.length ∧ ds.length ≤ 1000 then fs (ds.take n ++ [.tup (ds.drop n)]) μ else .bad
theorem fnStar {fin : Mu → Res D → Res D} (hf : Fnl fin) {N ps : List Str} {pv : Str} {k : Nat} {T : DS} (Fu : FunD K x qual params body scope [] [] f fd) (S : FnScope N (ps ++ [pv]) scope)
    (hb : ∀ (kV doc pm : Value) (an : Option Addr) (cdv ct : Value) (us rest : List Value), us.length = ps.length → bindArgs (PySem.W.fnOf x qual params body scope .none kV doc pm an cdv ct) ⟨us ++ rest, []⟩ = (newTuple rest >>= fun t => pure (ps.zip us ++ [(pv, t)])))
    (hbody : BodyD P w K mg base N qual scope f k body T) : FnR P w K mg base (L2.CX P w) (k + 1) f (spD K (starR ps.length (defR fin (ps.length + 1) N.length T))) := by
  obtain ⟨oc, od, dV, kV, doc, pm, an, cdv, ct, osl, rfl, lk, hcd, hdf, hkw⟩ := Fu.ex
  have ed : dV = .none := by
    rcases hdf with ⟨_, e⟩ | ⟨e, _⟩
    · exact e
    · exact absurd rfl e
  subst ed
  have raw := StX.fn_star (P := P) (w := w) (mg := mg) (base := base) (k := k) (sp := spD K (defR fin (ps.length + 1) N.length T)) lk hcd S StX.cxUp (hb kV doc pm an cdv ct) fun A outer s H vs Q E hr h => by
    obtain ⟨t, ht, hS⟩ := hbody cdv A outer s H E hr
    obtain ⟨F, ρ, ds, μ, Q', X, wd, q, hd, o, xo⟩ := h
    unfold defR at hd
    split at hd
    · exact ⟨t, ht, body_ok hf wd q hd o xo⟩
    · exact hd.elim
  refine raw.imp fun vs H Q E h => ?_
  obtain ⟨F, ρ, ds, μ, Q', X, wd, q, hd, o, xo⟩ := h
  unfold starR at hd
  split at hd
  · rename_i c
    refine ⟨vs.take ps.length, vs.drop ps.length, (List.take_append_drop _ _).symm, by rw [List.length_take, q.len]; omega, by rw [List.length_drop, q.len, sizeLine_eq]; omega, fun p hp => ?_⟩
    have g := Grow.fresh (ρ := ρ) (o := .tup (vs.drop ps.length)) hp
    refine ⟨F, ρ, _, μ, Q', X, wd.lay hp, ?_, hd, o.mono g, fun e d H' ρ' μ' vs' a b => xo e d H' ρ' μ' vs' a (g.trans b)⟩
    exact ((q.take _).mono g).app (.one (.tup (wd.fresh2 hp) upd_same ((q.drop _).mono g)))
  · exact hd.elim
/-! ### calls -/
structure Gd (K : PySem.W.Frag) (mg : Str → Option Value) (x : Str) (f : Addr) : Prop where
  mg : mg x = some (.ref f)
  kp : PySem.W.keepIn K (.ref f) = true
/-- a call by places; E: what is wished of exceptions, at the slots -/
def tCallX (sp : Sp) (E : L2.St → XK) (t : TA) : TE := fun σ H Q => t σ H fun vs H1 => sp vs H1 Q (E σ)
abbrev TkE (X : Cx) (E : L2.St → XK) : Prop := Takes X fun c d σ H => E σ c d H
end
section
variable {X : Cx} {k j : Nat} {f : Addr} {sp : Sp} {E : L2.St → XK} {x : Str} {p pos : Pos} {e : Expr} {es : List Expr} {t : TA}
theorem run_X {pins : List (Addr × Obj)} {σ : L2.St} {H : Hp} {s : Shared} {Q : VK} {us : List Value} {vs : List V} (F : FnR X.prog X.w X.K X.mg X.base (L2.CX X.prog X.w) k f sp) (hr : Room k X.A) (hx : TkE X E)
    (I : Inv X pins σ H s) (r : Vals vs us) (h : sp vs H Q (E σ)) : wpAny (model X.prog X.w) X.A (call (.ref f) us) (EP X pins σ Q) X.xe s := by
  refine wpAny_call (codeAny_mono (F X.A X.stack s H us vs Q (E σ) hr I.env0 r h) fun r s' hq => ?_)
  cases r with
  | error e => exact hx e s' (XE.of_call I (fun _ _ _ h => h) hq)
  | ok fl =>
    cases fl with
    | ret u => exact I.after hq
    | next => exact False.elim hq
    | brk => exact False.elim hq
    | cont => exact False.elim hq
theorem pe_callX (F : FnR X.prog X.w X.K X.mg X.base (L2.CX X.prog X.w) k f sp) (hg : Gd X.K X.mg x f) (hr : Room k X.A) (hx : TkE X E) (ha : PA X (e :: es) t) (hgl : Gl X x := by rfl)
    (hdb : (x == ("__debug__" : Str)) = false := by decide) (he : starEach (e :: es) X.env = (false, eval e X.env) :: starEach es X.env := by rfl) (hpl : (backTo pos (starEach es X.env)).any (·.1) = false := by rfl) :
    PE X (.Call (.Name x p) (e :: es) [] pos) (tCallX sp E t) := by
  refine ⟨fun pins s σ H Q I h => ?_⟩
  refine wpAny_Call_Name_kw (ld_glob I hgl hg.mg ?_ hdb)
  refine PySem.W.callWith_K (h₀ := X.base) I.ok.mod.kin hg.kp (thn (ha.run pos pins s σ H _ I h) fun us s1 ⟨vs, H1, I1, r, q⟩ => ⟨I1.kIn, ?_⟩) he hpl
  exact run_X F hr hx I1 r q
theorem pe_callX0 (F : FnR X.prog X.w X.K X.mg X.base (L2.CX X.prog X.w) k f sp) (hg : Gd X.K X.mg x f) (hr : Room k X.A) (hx : TkE X E) (hgl : Gl X x := by rfl)
    (hdb : (x == ("__debug__" : Str)) = false := by decide) : PE X (.Call (.Name x p) [] [] pos) (tCallX sp E tNil) := by
  refine ⟨fun pins s σ H Q I h => ?_⟩
  refine wpAny_Call_Name_kw (ld_glob I hgl hg.mg ?_ hdb)
  exact PySem.W.callWith_K0 I.kIn hg.kp (run_X (us := []) F hr hx I .nil h)
end
section
variable {K : PySem.W.Frag} {E : L2.St → XK}
instance {f : FS} {t : TA} {T : DA} [a : SA K E t T] : SE K E (tCallX (spD K f) E t) (dCB f T) := ⟨fun {X F σ H η ρ μ P Q} w e h o =>
  a.run w e (wp_bind h) fun vs H1 ρ1 ds μ1 w1 g1 q1 h1 => ⟨F, ρ1, ds, μ1, _, _, w1, q1, h1, o.mono g1, (e.mono g1).xo0⟩⟩
/-! methods of lists -/
def dAppend (To : DE) (T : DA) : DE := fun η μ => (To η μ).bind fun x μ1 => match x with
  | .cell a => match μ1[a]? with
    | some (.lst _) => (T η μ1).bind fun ds μ2 => match ds, μ2[a]? with
      | [d], some (.lst xs) => grd (xs.length < 16777216) (.ok .non (μ2.set a (.lst (xs ++ [d]))))
      | _, _ => .bad
    | _ => .bad
  | _ => .bad
instance {to : TE} {t : TA} {To : DE} {T : DA} [a : SE K E to To] [b : SA K E t T] : SE K E (tBM K "list" rAppend to t) (dAppend To T) := ⟨fun {X F σ H η ρ μ P Q} w e h o =>
  a.run w e (wp_bind h) fun x H1 ρ1 dx μ1 w1 g1 q1 h1 => by
    split at h1
    · rename_i i
      cases q1 with
      | @cell _ ad hi =>
        split at h1
        · rename_i ys c
          obtain ⟨vs0, e0, q0⟩ := w1.ok _ _ _ hi c
          refine ⟨.inl ⟨rfl, _, SqL.of e0⟩, ?_⟩
          refine b.run w1 (e.mono g1) (wp_bind h1) fun vs H2 ρ2 ds μ2 w2 g2 q2 h2 => ?_
          split at h2
          · rename_i d xs c2
            obtain ⟨hl, h3⟩ := wp_grd h2
            obtain ⟨vs1, e1, q3⟩ := w2.ok _ _ _ (g2.at_ hi) c2
            cases q2 with
            | @cons v1 _ _ _ qa qb =>
              cases qb
              have hm := g2.at_ hi
              have gp := Grow.put (ρ := ρ2) (H := H2) (a := ad) (o := .lst (vs1 ++ [v1])) (List.mem_of_getElem? hm)
              exact ⟨ad, vs1, v1, rfl, rfl, e1, by rw [q3.len, sizeLine_eq]; exact hl, (o.mono ((g1.trans g2).trans gp)).here (w2.put (m := .lst (xs ++ [d])) hm ⟨_, upd_same, (q3.app (.one qa)).mono gp⟩) .non h3⟩
          · exact h2.elim
        · exact h1.elim
    · exact h1.elim⟩
end
end
end DX

namespace DX
open PySem PySem.Spec PyProof.Rows L2
noncomputable section
/-! ### a, b = x, y -/
section
variable {K : PySem.W.Frag} {E : L2.St → XK}
def dPar (i j : Nat) (T : DA) : DS := fun η μ => (T η μ).to η fun ds μ1 => match ds with
  | [u, v] => .nx ((η.set i (some u)).set j (some v)) μ1
  | _ => .bad
instance {i j : Nat} {t : TA} {T : DA} [a : SA K E t T] : SS K E (tPar i j t) (dPar i j T) := ⟨fun w e h o =>
  a.run w e (wp_to h) fun vs H1 ρ1 ds μ1 w1 g1 q1 h1 => by
    split at h1
    · cases q1 with
      | cons qa qb =>
        cases qb with
        | cons qb qc =>
          cases qc
          exact ⟨_, _, rfl, o.nx _ _ _ _ _ w1 (((e.mono g1).set qa).set qb) g1 h1⟩
    · exact h1.elim⟩
def dPar3 (i j l : Nat) (T : DA) : DS := fun η μ => (T η μ).to η fun ds μ1 => match ds with
  | [u, v, x] => .nx (((η.set i (some u)).set j (some v)).set l (some x)) μ1
  | _ => .bad
instance {i j l : Nat} {t : TA} {T : DA} [a : SA K E t T] : SS K E (tPar3 i j l t) (dPar3 i j l T) := ⟨fun w e h o =>
  a.run w e (wp_to h) fun vs H1 ρ1 ds μ1 w1 g1 q1 h1 => by
    split at h1
    · cases q1 with
      | cons qa qb =>
        cases qb with
        | cons qb qc =>
          cases qc with
          | cons qc qd =>
            cases qd
            exact ⟨_, _, _, rfl, o.nx _ _ _ _ _ w1 ((((e.mono g1).set qa).set qb).set qc) g1 h1⟩
    · exact h1.elim⟩
end
/-! ### the rules with the written part named -/
section
variable (K : PySem.W.Frag) {X : Cx}
theorem op_addK (hK : X.K = K) : OpR X (binaryOp .Add) (rAddU K) := by subst hK; exact op_addU
theorem op_mulK (hK : X.K = K) : OpR X (binaryOp .Mult) (rMulU K) := by subst hK; exact op_mulU
theorem op_ltK (hK : X.K = K) (hu : X.A.units + 64 < cLine) : OpR X (compareOp .Lt) (rLtU K) := by subst hK; exact op_ltU hu
theorem op_eqK (hK : X.K = K) (hu : X.A.units + 64 < cLine) : OpR X (compareOp .Eq) (rEqU K) := by subst hK; exact op_eqU hu
theorem op_neK (hK : X.K = K) (hu : X.A.units + 64 < cLine) : OpR X (compareOp .NotEq) (rNeU K) := by subst hK; exact op_neU hu
theorem ix_seqK (hK : X.K = K) : IxR X (rIx K) := by subst hK; exact ix_seq
theorem sl_K (hK : X.K = K) : SlR X (rSlU K) := by subst hK; exact sl_U
theorem call_lenK (hK : X.K = K) : CallR X (.builtin "len") (rLenU K) := by subst hK; exact call_lenU
theorem call_sumK (hK : X.K = K) (hc : X.calm = true) : CallR X (.builtin "sum") (rSumU K) := by subst hK; exact call_sumU hc
theorem call_allK (hK : X.K = K) (hc : X.calm = true) : CallR X (.builtin "all") (rAll K) := by subst hK; exact cr_all hc
theorem call_anyK (hK : X.K = K) (hc : X.calm = true) : CallR X (.builtin "any") (rAny K) := by subst hK; exact cr_any hc
theorem call_tupK (hK : X.K = K) : CallR X (.type "tuple") (rTupU K) := by subst hK; exact call_tupU
theorem call_listK (hK : X.K = K) : CallR X (.type "list") (rListU K) := by subst hK; exact call_listU
theorem call_listMK (hK : X.K = K) : CallR X (.type "list") (rListM K) := by subst hK; exact call_listM
theorem call_isiK' (hK : X.K = K) : CallR X (.builtin "isinstance") (rIsi K) := by subst hK; exact call_isi
theorem pi_seqK (hK : X.K = K) {tg l : Expr} {tl : TE} (hl : PE X l tl) : PI X tg l (iSeq K tl) := by subst hK; exact pi_seq hl
theorem pi_zipK (hK : X.K = K) {e e2 : Expr} {ta : TA} {p pos tpos : Pos} {elts : List Expr} {kk : Nat} (hg : Gl X "zip") (hm : X.mg "zip" = none) (ha : PA X [e, e2] ta)
    (hs : starEach [e, e2] X.env = (false, eval e X.env) :: starEach [e2] X.env := by rfl) (hpl : (backTo pos (starEach [e2] X.env)).any (·.1) = false := by rfl) :
    PI X (.Tuple elts kk tpos) (.Call (.Name "zip" p) [e, e2] [] pos) (RZ.iZipA K ta) := by subst hK; exact RZ.pi_zipA hg hm ha hs hpl
theorem pg_tupK (hK : X.K = K) {pos : Pos} {es : List Expr} {k : Nat} {t : TGs} {n : Nat} (hc : X.calm = true) (h : PGs X es t)
    (hn : (assignEach es X.env).length = n := by rfl) (hst : (assignEach es X.env).findIdx? (·.1) = none := by rfl) : PG X (.Tuple es k pos) (gTup K n t) := by subst hK; exact pg_tup hc h hn hst
theorem pg_unlK (hK : X.K = K) {pos : Pos} {es : List Expr} {k : Nat} {t : TGs} {n : Nat} (hc : X.calm = true) (h : PGs X es t)
    (hn : (assignEach es X.env).length = n := by rfl) (hst : (assignEach es X.env).findIdx? (·.1) = none := by rfl) : PG X (.Tuple es k pos) (gUnl K n t) := by subst hK; exact pg_unl hc h hn hst
theorem pe_appendK (hK : X.K = K) {o e : Expr} {apos cpos : Pos} {to : TE} {t : TA} (ho : PE X o to) (ha : PA X [e] t)
    (hbase : attributeBase o "append" X.env (eval o X.env) = eval o X.env := by rfl)
    (hfew : ((backTo cpos (starEach [e] X.env)).all (fun x => !x.1) && (backToKw cpos (keywordEach [] X.env)).all (fun x => x.1.isSome)
      && decide ([e].length + ([] : List Keyword).length + (if ([] : List Keyword).isEmpty then 0 else 1) < 30)) = true := by rfl)
    (hline : (apos.endLine == cpos.line) = true := by rfl) (hs : starEach [e] X.env = (false, eval e X.env) :: starEach [] X.env := by rfl) (hplain : (backTo cpos (starEach [] X.env)).any (·.1) = false := by rfl) :
    PE X (.Call (.Attribute o "append" apos) [e] [] cpos) (tBM K "list" rAppend to t) := by
  subst hK
  exact pe_bm PySem.F.plainAttrs_list PySem.F.slot_list_append PySem.F.type_list_append mt_append ho ha hbase hfew hline hs hplain
end
/-! ### instances: their attributes -/
def asI (μ : Mu) : D → Option (Str × List Str × List D)
  | .obj C ns ds => some (C, ns, ds)
  | .cell a => match μ[a]? with
    | some (.ins C ns ds) => some (C, ns, ds)
    | _ => none
  | _ => none
def getF (f : Str) : List Str → List D → Option D
  | n :: ns, d :: ds => if f = n then some d else getF f ns ds
  | _, _ => none
def putN (f : Str) : List Str → List Str
  | [] => [f]
  | n :: ns => if n = f then n :: ns else n :: putN f ns
def putD (f : Str) (x : D) : List Str → List D → List D
  | n :: ns, d :: ds => if n = f then x :: ds else d :: putD f x ns ds
  | _, _ => [x]
def putV (f : Str) (x : V) : List Str → List V → List V
  | n :: ns, d :: ds => if n = f then x :: ds else d :: putV f x ns ds
  | _, _ => [x]
section
variable {K : PySem.W.Frag} {F ρ : List Addr} {H : Hp}
theorem asI_at {μ : Mu} (w : Wd K F ρ μ H) {v : V} {d : D} {c : Str} {ns : List Str} {ds : List D} (h : Dt K F ρ H v d) (e : asI μ d = some (c, ns, ds)) : ∃ a dx vs, v = .ref a ∧ H a = some (.ins (He.ga K c) dx (ns.zip vs)) ∧ ns.length = vs.length ∧ DtAll K F ρ H vs ds := by
  cases h with
  | obj n e1 l q =>
    cases e
    exact ⟨_, _, _, rfl, e1, l, q⟩
  | @cell a n hi =>
    unfold asI at e
    simp only at e
    cases c : μ[a]? with
    | none => rw [c] at e; cases e
    | some m =>
      rw [c] at e
      cases m with
      | ins C ns ds =>
        cases e
        obtain ⟨dx, vs, e1, l, q⟩ := w.ok _ _ _ hi c
        exact ⟨_, dx, vs, rfl, e1, l, q⟩
      | _ => cases e
  | _ => cases e
theorem getF_at {f : Str} {d : D} : ∀ {ns : List Str} {vs : List V} {ds : List D}, DtAll K F ρ H vs ds → getF f ns ds = some d → ∃ v, (ns.zip vs).lookup f = some v ∧ Dt K F ρ H v d
  | [], _, _, _, e => by cases e
  | n :: ns, _, _, .nil, e => by cases e
  | n :: ns, _, _, .cons (v := v) (vs := vs) q r, e => by
    unfold getF at e
    by_cases c : f = n
    · rw [if_pos c] at e
      cases e
      refine ⟨v, ?_, q⟩
      have hb : (f == n) = true := beq_iff_eq.mpr c
      simp only [List.zip_cons_cons, List.lookup, hb]
    · rw [if_neg c] at e
      obtain ⟨v', e1, q1⟩ := getF_at r e
      refine ⟨v', ?_, q1⟩
      have hb : (f == n) = false := beq_eq_false_iff_ne.mpr c
      simp only [List.zip_cons_cons, List.lookup, hb]
      exact e1
theorem look_no {m : Str} : ∀ {ns : List Str} {vs : List V}, m ∉ ns → (ns.zip vs).lookup m = none
  | [], _, _ => rfl
  | n :: ns, [], _ => rfl
  | n :: ns, v :: vs, h => by
    have hb : (m == n) = false := beq_eq_false_iff_ne.mpr fun z => h (by rw [z]; exact List.mem_cons_self)
    simp only [List.zip_cons_cons, List.lookup, hb]
    exact look_no fun z => h (List.mem_cons_of_mem _ z)
theorem putF_zip {f : Str} {x : V} : ∀ {ns : List Str} {vs : List V}, ns.length = vs.length → putF f x (ns.zip vs) = (putN f ns).zip (putV f x ns vs) ∧ (putN f ns).length = (putV f x ns vs).length
  | [], [], _ => ⟨rfl, rfl⟩
  | [], _ :: _, h => by cases h
  | _ :: _, [], h => by cases h
  | n :: ns, v :: vs, h => by
    have h' : ns.length = vs.length := Nat.succ.inj h
    simp only [List.zip_cons_cons, putF, putN, putV]
    by_cases c : n = f
    · rw [if_pos c, if_pos c, if_pos c]
      exact ⟨rfl, h⟩
    · rw [if_neg c, if_neg c, if_neg c]
      obtain ⟨e1, e2⟩ := putF_zip (f := f) (x := x) h'
      exact ⟨by rw [List.zip_cons_cons, e1], by rw [List.length_cons, List.length_cons, e2]⟩
theorem putV_all {f : Str} {x : V} {d : D} (q : Dt K F ρ H x d) : ∀ {ns : List Str} {vs : List V} {ds : List D}, DtAll K F ρ H vs ds → DtAll K F ρ H (putV f x ns vs) (putD f d ns ds)
  | [], _, _, h => by unfold putV putD; exact .one q
  | n :: ns, _, _, .nil => by unfold putV putD; exact .one q
  | n :: ns, _, _, .cons a t => by
    unfold putV putD
    by_cases c : n = f
    · rw [if_pos c, if_pos c]
      exact .cons q t
    · rw [if_neg c, if_neg c]
      exact .cons a (putV_all q t)
end
/-! ### attributes -/
section
variable {X : Cx} {C : Addr} {o e value : Expr} {f : Str} {pos pos' tpos : Pos} {ta tv : TE}
/-- e.f, e an instance of C -/
def tFldC (C : Addr) (ta : TE) (f : Str) : TE := fun σ H Q => ta σ H fun x H1 => ∃ a dx fs v, x = .ref a ∧ H1 a = some (.ins C dx fs) ∧ fs.lookup f = some v ∧ Q v H1
theorem pe_fldC (c : Cls X.K C) (n : NoAttr X.K C f) (he : PE X e ta) (hb : attributeBase e f X.env (eval e X.env) = eval e X.env := by rfl) : PE X (.Attribute e f pos) (tFldC C ta f) := by
  refine ⟨fun pins s σ H Q I h => ?_⟩
  refine attr_of hb (thn (he.run pins s σ H _ I h) fun u s1 ⟨x, H1, I1, rx, a, dx, fs, v, ex, ea, l, q⟩ => ?_)
  subst ex
  obtain rfl : u = Value.ref a := rx
  exact getattr_ok I1 ea c n l fun u' s2 I2 ru => ⟨v, H1, I2, ru, q⟩
def sFldC (C : Addr) (ta tv : TE) (f : Str) : TS := fun D σ H => tv σ H fun y H1 => ta σ H1 fun x H2 => ∃ a dx fs, x = .ref a ∧ H2 a = some (.ins C dx fs) ∧ fs.length < 1000 ∧ D.nx σ (upd H2 a (.ins C dx (putF f y fs)))
theorem ps_fldC (c : Cls X.K C) (n : NoAttr X.K C f) (ha : PE X o ta) (hv : PE X value tv) (hs : swapsWith value (some (.Attribute o f pos')) pos.line X.env = pure false := by rfl) : PS X (.Assign [.Attribute o f pos'] value pos) (sFldC C ta tv f) := by
  refine ⟨fun pins s σ H D I h => ?_⟩
  refine plainObj_wpAny_Assign_Attribute (thn (hv.run pins s σ H _ I h) fun u s1 ⟨y, H1, I1, ry, q⟩ => thn (ha.run pins s1 σ H1 _ I1 q) fun ov s2 ⟨x, H2, I2, rx, a, dx, fs, ex, ea, l, q2⟩ => ?_) hs
  subst ex
  obtain rfl : ov = Value.ref a := rx
  exact setattr_ok I2 ea c n l ry fun s3 I3 => ⟨σ, _, I3, q2⟩
def sFldAugC (C : Addr) (ta tv : TE) (rd : V → V → Hp → VK → Prop) (f : Str) : TS := fun D σ H => ta σ H fun x H1 => ∃ a dx fs v, x = .ref a ∧ H1 a = some (.ins C dx fs) ∧ fs.lookup f = some v ∧
  tv σ H1 fun y H2 => rd v y H2 fun z H3 => ∃ dx' fs', H3 a = some (.ins C dx' fs') ∧ fs'.length < 1000 ∧ D.nx σ (upd H3 a (.ins C dx' (putF f z fs')))
theorem ps_fldaugC {op : Operator} {rd : V → V → Hp → VK → Prop} (c : Cls X.K C) (n : NoAttr X.K C f) (hop : InOp X op rd) (ha : PE X o ta) (hv : PE X value tv) : PS X (.AugAssign (.Attribute o f tpos) op value pos) (sFldAugC C ta tv rd f) := by
  refine ⟨fun pins s σ H D I h => ?_⟩
  refine wpAny_AugAssign_AttributeAny (thn (ha.run pins s σ H _ I h) fun ov s1 ⟨x, H1, I1, rx, a, dx, fs, v, ex, ea, l, q⟩ => ?_)
  subst ex
  obtain rfl : ov = Value.ref a := rx
  refine getattr_ok I1 ea c n l fun u s2 I2 ru => thn (hv.run pins s2 σ H1 _ I2 q) fun w3 s3 ⟨y, H2, I3, ry, q3⟩ => thn (hop pins s3 σ H2 v y u w3 _ I3 ru ry q3) fun w4 s4 ⟨z, H3, I4, rz, dx', fs', ea', l', q4⟩ => ?_
  exact setattr_ok I4 ea' c n l' rz fun s5 I5 => ⟨σ, _, I5, q4⟩
end
section
variable {K : PySem.W.Frag} {E : L2.St → XK}
/-- an instance of a class: its attributes -/
def ofC (c : Str) (μ : Mu) (x : D) : Option (List Str × List D) := match asI μ x with
  | some (c', ns, ds) => if c' = c then some (ns, ds) else none
  | none => none
theorem ofC_at {c : Str} {μ : Mu} {x : D} {p : List Str × List D} (h : ofC c μ x = some p) : asI μ x = some (c, p.1, p.2) := by
  unfold ofC at h
  split at h
  · rename_i c' ns ds e
    split at h
    · rename_i ec
      subst ec
      cases h
      exact e
    · cases h
  · cases h
def dFld (c : Str) (Ta : DE) (f : Str) : DE := fun η μ => (Ta η μ).bind fun x μ1 => okO (ofC c μ1 x) fun p => okO (getF f p.1 p.2) fun d => .ok d μ1
instance {c : Str} {ta : TE} {Ta : DE} {f : Str} [a : SE K E ta Ta] : SE K E (tFldC (He.ga K c) ta f) (dFld c Ta f) := ⟨fun w e h o =>
  a.run w e (wp_bind h) fun x H1 ρ1 dx μ1 w1 g1 q1 h1 => by
    obtain ⟨p, e1, h2⟩ := wp_okO h1
    obtain ⟨d, e2, h3⟩ := wp_okO h2
    obtain ⟨p, dx, vs, rfl, ea, l, qs⟩ := asI_at w1 q1 (ofC_at e1)
    obtain ⟨v, hv, qv⟩ := getF_at qs e2
    exact ⟨p, dx, _, v, rfl, ea, hv, (o.mono g1).here w1 qv h3⟩⟩
/-- x.f = y over data -/
def setF (c : Str) (f : Str) (x y : D) (μ : Mu) : Res Unit := match x with
  | .cell a => match μ[a]? with
    | some (.ins c' ns ds) => grd (c' = c ∧ ns.length < 1000) (.ok () (μ.set a (.ins c' (putN f ns) (putD f y ns ds))))
    | _ => .bad
  | _ => .bad
theorem setF_run {F ρ : List Addr} {H : Hp} {μ : Mu} {c : Str} {f : Str} {x y : V} {dx' dy : D} {P : Unit → Mu → Prop} {X : Exn → Mu → Prop} {Q : Hp → Prop} (w : Wd K F ρ μ H) (hx : Dt K F ρ H x dx') (hy : Dt K F ρ H y dy) (h : wp (setF c f dx' dy μ) P X)
    (q : ∀ H' μ', Wd K F ρ μ' H' → Grow ρ ρ H H' → P () μ' → Q H') : ∃ a dx fs, x = .ref a ∧ H a = some (.ins (He.ga K c) dx fs) ∧ fs.length < 1000 ∧ Q (upd H a (.ins (He.ga K c) dx (putF f y fs))) := by
  unfold setF at h
  split at h
  · rename_i i
    cases hx with
    | @cell _ a hm =>
      split at h
      · rename_i c' ns ds e1
        obtain ⟨⟨ec, hl⟩, h9⟩ := wp_grd h
        clear h
        subst ec
        obtain ⟨dx, vs, ea, l, qs⟩ := w.ok _ _ _ hm e1
        refine ⟨a, dx, _, rfl, ea, ?_, ?_⟩
        · rw [List.length_zip, ← l, Nat.min_self]
          exact hl
        · obtain ⟨e2, l2⟩ := putF_zip (f := f) (x := y) l
          rw [e2]
          have g := Grow.put (ρ := ρ) (H := H) (a := a) (o := .ins (He.ga K c') dx ((putN f ns).zip (putV f y ns vs))) (List.mem_of_getElem? hm)
          exact q _ _ (w.put (m := .ins c' (putN f ns) (putD f dy ns ds)) hm ⟨dx, _, upd_same, l2, (putV_all hy qs).mono g⟩) g h9
      · exact h.elim
  · exact h.elim
def dFldS (c : Str) (Ta Tv : DE) (f : Str) : DS := fun η μ => (Tv η μ).to η fun y μ1 => (Ta η μ1).to η fun x μ2 => (setF c f x y μ2).to η fun _ μ3 => .nx η μ3
instance {c : Str} {ta tv : TE} {Ta Tv : DE} {f : Str} [a : SE K E ta Ta] [b : SE K E tv Tv] : SS K E (sFldC (He.ga K c) ta tv f) (dFldS c Ta Tv f) := ⟨fun {X F B σ H η ρ μ C} w e h o =>
  b.run w e (wp_to h) fun y H1 ρ1 dy μ1 w1 g1 q1 h1 => a.run w1 (e.mono g1) (wp_to h1) fun x H2 ρ2 dx μ2 w2 g2 q2 h2 =>
    setF_run w2 q2 (q1.mono g2) (wp_to h2) fun H3 μ3 w3 g3 h3 => o.nx σ H3 η ρ2 μ3 w3 (((e.mono g1).mono g2).mono g3) ((g1.trans g2).trans g3) h3⟩
def dFldA (c : Str) (Ta Tv : DE) (r : D → D → Mu → Res D) (f : Str) : DS := fun η μ => (Ta η μ).to η fun x μ1 => (okO (ofC c μ1 x) fun p => okO (getF f p.1 p.2) fun d => Res.ok d μ1).to η fun d _ => (Tv η μ1).to η fun y μ2 => (r d y μ2).to η fun z μ3 => (setF c f x z μ3).to η fun _ μ4 => .nx η μ4
instance {c : Str} {ta tv : TE} {Ta Tv : DE} {f : Str} {rd : R2} {r : D → D → Mu → Res D} [a : SE K E ta Ta] [b : SE K E tv Tv] [s : SR2 K rd r] : SS K E (sFldAugC (He.ga K c) ta tv rd f) (dFldA c Ta Tv r f) := ⟨fun {X F B σ H η ρ μ C} w e h o =>
  a.run w e (wp_to h) fun x H1 ρ1 dx μ1 w1 g1 q1 h1 => by
    obtain ⟨p, e1, h2⟩ := wp_okO (wp_to h1)
    obtain ⟨d, e2, h3⟩ := wp_okO h2
    have h3 : wpS ((Tv η μ1).to η fun y μ2 => (r d y μ2).to η fun z μ3 => (setF c f dx z μ3).to η fun _ μ4 => .nx η μ4) C X := h3
    obtain ⟨p, dx', vs, rfl, ea, l, qs⟩ := asI_at w1 q1 (ofC_at e1)
    obtain ⟨v, hv, qv⟩ := getF_at qs e2
    refine ⟨p, dx', _, v, rfl, ea, hv, b.run w1 (e.mono g1) (wp_to h3) fun y H2 ρ2 dy μ2 w2 g2 q2 h4 => s.run w2 (qv.mono g2) q2 (wp_to h4) fun z H3 ρ3 dz μ3 w3 g3 q3 h5 => ?_⟩
    obtain ⟨p', dx', fs', ep, ea', hl, hq⟩ := setF_run (Q := fun H' => B.nx σ H') w3 ((q1.mono g2).mono g3) q3 (wp_to h5) fun H4 μ4 w4 g4 h4 => o.nx σ H4 η ρ3 μ4 w4 ((((e.mono g1).mono g2).mono g3).mono g4) (((g1.trans g2).trans g3).trans g4) h4
    cases ep
    exact ⟨dx', fs', ea', hl, hq⟩⟩
end
/-! ### making an instance -/
theorem passes_tk {X : Cx} {E : XK} (tk : TkE X fun _ => E) : Passes (L2.CX X.prog X.w) X E := fun _ σ _ _ e s' I c => tk e s' (XE.of_call I (fun _ _ _ h => h) c)
theorem pass_no {X : Cx} : Passes (L2.CX X.prog X.w) X L2.E0 := passL
theorem take_no {X : Cx} : TkE X EN := takes0
def isNon (d : D) (r : Res D) : Res D := match d with
  | .non => r
  | _ => .bad
/-- fin: how the new instance is handed on -/
def dMake (fin : Mu → Res D → Res D) (c : Str) (f : FS) (T : DA) : DE := fun η μ => (T η μ).bind fun ds μ1 => (f (.cell μ1.length :: ds) (μ1 ++ [.ins c [] []])).bind fun d μ2 => isNon d (fin μ1 (.ok (.cell μ1.length) μ2))
def tMakeF (fin : Mu → Res D → Res D) (C : Addr) (sp : Sp) (E : XK) (t : TA) : TE := StX.tMakeR C sp E t
section
variable {K : PySem.W.Frag} {E : XK}
theorem make_run {fin : Mu → Res D → Res D} (hf : Fnl fin) {c : Str} {f : FS} {t : TA} {T : DA} [a : SA K (fun _ => E) t T] : SE K (fun _ => E) (StX.tMakeR (He.ga K c) (spD K f) E t) (dMake fin c f T) := ⟨fun {X F σ H η ρ μ P Q} w e h o =>
  a.run w e (wp_bind h) fun vs H1 ρ1 ds μ1 w1 g1 q1 h1 => by
    intro x dx hx hdx hne
    have w2 : Wd K F ρ1 μ1 (upd H1 dx (.own x)) := w1.lay hdx
    have hx2 : upd H1 dx (.own x) x = none := by rw [upd_ne (Ne.symm hne)]; exact hx
    have g2 : Grow ρ1 ρ1 H1 (upd H1 dx (.own x)) := Grow.fresh hdx
    have w3 : Wd K F (ρ1 ++ [x]) (μ1 ++ [.ins c [] []]) (upd (upd H1 dx (.own x)) x (.ins (He.ga K c) dx [])) := w2.layM hx2 ⟨dx, [], upd_same, rfl, .nil⟩
    have g3 : Grow ρ1 (ρ1 ++ [x]) (upd H1 dx (.own x)) (upd (upd H1 dx (.own x)) x (.ins (He.ga K c) dx [])) := Grow.add hx2
    have g23 := g2.trans g3
    refine ⟨F, ρ1 ++ [x], .cell μ1.length :: ds, _, _, _, w3, .cons (.cell (at_new w1)) ((q1.mono g2).mono g3), wp_bind h1, ?_, ((e.mono g1).mono g23).xo0⟩
    intro v H' ρ' d μ' w' g' q' h'
    cases d with
    | non =>
      cases q'
      exact ⟨rfl, hf.ok w1 (o.mono g1) h' w' (g23.trans g') (.cell (g'.at_ (at_new w1)))⟩
    | _ => exact h'.elim⟩
instance {c : Str} {f : FS} {t : TA} {T : DA} [a : SA K (fun _ => E) t T] : SE K (fun _ => E) (tMakeF fz (He.ga K c) (spD K f) E t) (dMake fz c f T) := make_run fin_fz
instance {c : Str} {f : FS} {t : TA} {T : DA} [a : SA K (fun _ => E) t T] : SE K (fun _ => E) (tMakeF kp (He.ga K c) (spD K f) E t) (dMake kp c f T) := make_run fin_kp
end
theorem pe_makeF (fin : Mu → Res D → Res D) {X : Cx} {C : Addr} {sp : Sp} {E : XK} {t : TA} {e : Expr} (h : PE X e (StX.tMakeR C sp E t)) : PE X e (tMakeF fin C sp E t) := h
/-! ### methods -/
section
variable {X : Cx} {CX : CXT} {k : Nat} {C f g p : Addr} {m : Str} {sp : Sp} {E : XK} {o e : Expr} {ta : TE} {apos pos : Pos}
theorem run_P {pins : List (Addr × Obj)} {σ : L2.St} {H : Hp} {s : Shared} {Q : VK} {us : List Value} {vs : List V} (F : FnR X.prog X.w X.K X.mg X.base CX k f sp) (hr : Room k X.A) (hx : Passes CX X E)
    (I : Inv X pins σ H s) (r : Vals vs us) (h : sp vs H Q E) : wpAny (model X.prog X.w) X.A (call (.ref f) us) (EP X pins σ Q) X.xe s := by
  refine wpAny_call (codeAny_mono (run_fnR F hr hx I r h) fun r s' hq => ?_)
  cases r with
  | error e => exact hq
  | ok fl =>
    cases fl with
    | ret u => exact hq
    | next => exact False.elim hq
    | brk => exact False.elim hq
    | cont => exact False.elim hq
theorem pe_methR0 {pl : Sem Bool} (c : Cls X.K C) (hm : Meth X.K C m f) (F : FnR X.prog X.w X.K X.mg X.base CX k f sp) (hr : Room k X.A) (hx : Passes CX X E) (he : PE X o ta)
    (ht : eval (.Call (.Attribute o m apos) [] [] pos) X.env = (do
      let ov ← eval o X.env
      standAt apos.atName
      let (f, first) ← holding [ov] (getMethod ov m pl)
      callWith pos f first (backTo pos (starEach [] X.env)) (backToKw pos (keywordEach [] X.env))) := by rfl) :
    PE X (.Call (.Attribute o m apos) [] [] pos) (tMethR C m sp E ta tNil) := by
  refine ⟨fun pins s σ H Q I h => ?_⟩
  refine PySem.W.methodCall_KW (pl := pl) (thn (he.run pins s σ H _ I h) fun u s1 ⟨x, H1, I1, rx, a, dx, fs, ex, ea, l, q⟩ => ?_) ht
  subst ex
  obtain rfl : u = Value.ref a := rx
  refine getmeth_ok I1 ea c hm l ?_
  exact PySem.W.callWith_K0 (first := [.ref a]) I1.kIn hm.kp (run_P (us := [.ref a]) (vs := [.ref a]) F hr hx I1 (.cons rfl .nil) q)
/-- a property by a positional promise -/
def tPropR (C : Addr) (sp : Sp) (E : XK) (ta : TE) : TE := fun σ H Q => ta σ H fun x H1 => ∃ a dx fs, x = .ref a ∧ H1 a = some (.ins C dx fs) ∧ sp [.ref a] H1 Q E
theorem pe_propR {fn : Str} (c : Cls X.K C) (hp : PropOf X.K C fn p g) (F : FnR X.prog X.w X.K X.mg X.base CX k g sp) (hr : Room (k + 1) X.A) (hx : Passes CX X.nox E) (he : PE X e ta)
    (hab : attributeBase e fn X.env (eval e X.env) = eval e X.env := by rfl) : PE X (.Attribute e fn pos) (tPropR C sp E ta) := by
  refine ⟨fun pins s σ H Q I h => ?_⟩
  refine attr_of hab (thn (he.run pins s σ H _ I h) fun u s1 ⟨x, H1, I1, rx, a, dx, fs, ex, ea, q⟩ => ?_)
  subst ex
  obtain rfl : u = Value.ref a := rx
  obtain ⟨mA, O, _, _, _, _⟩ := ins_get I1.hok ea
  obtain ⟨od, J, _⟩ := O.look
  obtain ⟨rest, hrec⟩ := hp.rec_
  have I2 := I1.tok (s1.toks + 1)
  have hc : (PySem.W.clsIn X.K C).isSome = true := by
    obtain ⟨cd, hc, _⟩ := PySem.W.any_some c.hd
    rw [hc]
    rfl
  refine PySem.W.get_bind I1.kIn J (PySem.W.plainGet_of (c.get fn)).1 (PySem.W.findObj_data hc hp.at_ hp.get hp.tak) (PySem.W.plainGet_of (c.get fn)).2 (wpAny_call (PySem.W.prop_get (s := { s1 with toks := s1.toks + 1 }) I1.kIn hrec ?_))
  refine codeAny_mono (F X.A.in1 X.stack { s1 with toks := s1.toks + 1 } H1 [.ref a] [.ref a] Q E hr.in1 I2.env0.in1 (.cons rfl .nil) q) fun r s' hq => ?_
  cases r with
  | error er => exact False.elim (hx pins σ H1 { s1 with toks := s1.toks + 1 } er s' (I2.wish _) hq)
  | ok fl =>
    cases fl with
    | ret u =>
      obtain ⟨v, H', I3, rv, q3⟩ := I2.after hq
      show wpAny _ _ (handedOut u) _ _ _
      rw [PySem.W.handedOut_of (handed_of rv)]
      exact wpAny_pure ⟨v, H', I3, rv, q3⟩
    | next => exact False.elim hq
    | brk => exact False.elim hq
    | cont => exact False.elim hq
end
/-- C.m(..), m a staticmethod: its record at p, its def at g -/
structure SMet (K : PySem.W.Frag) (C : Addr) (m : Str) (p g : Addr) : Prop where
  rd : ClX.CRead K C (.type "type")
  at_ : PySem.W.findCls K (.ref C) (.type "type") m = some (.get (.builtin "staticmethod.__get__") (.ref p) .none (.ref C))
  rc : ∃ rest, PySem.W.recIn K p "staticmethod" = some (.ref g :: rest)
  kp : PySem.W.keepIn K (.ref g) = true
section
variable {X : Cx} {k : Nat} {C p g : Addr} {sp : Sp} {E : L2.St → XK} {o e : Expr} {es : List Expr} {m : Str} {pos apos : Pos} {t : TA} {pl : Sem Bool}
theorem getmethsm_ok {pins : List (Addr × Obj)} {σ : L2.St} {H : Hp} {s : Shared} {A : Around} {E : Value → Shared → Prop} {Q : Value × List Value → Shared → Prop} (I : Inv X pins σ H s) (c : SMet X.K C m p g)
    (h : ∀ s', Inv X pins σ H s' → Q (.ref g, []) s') : wpAny (model X.prog X.w) A (getMethod (.ref C) m pl) Q E s := by
  obtain ⟨rest, hp⟩ := c.rc
  refine PySem.W.method_cls I.kIn c.rd.ga ?_
  refine PySem.W.cls_bind I.kIn c.rd.rd c.at_ ?_
  refine wpAny_call (PySem.W.sm_get (s := { s with toks := s.toks + 1 }) I.kIn hp (PySem.W.handed_on rfl ?_))
  exact h _ (I.tok _)
/-- the class's name, then the staticmethod's -/
theorem pe_smeth {x : Str} {np : Pos} (hm : X.mg x = some (.ref C)) (c : SMet X.K C m p g) (F : FnR X.prog X.w X.K X.mg X.base (L2.CX X.prog X.w) k g sp) (hr : Room k X.A) (hx : TkE X E) (ha : PA X (e :: es) t) (hgl : Gl X x := by rfl)
    (hdb : (x == ("__debug__" : Str)) = false := by decide)
    (hst : starEach (e :: es) X.env = (false, eval e X.env) :: starEach es X.env := by rfl) (hpl : (backTo pos (starEach es X.env)).any (·.1) = false := by rfl)
    (ht : eval (.Call (.Attribute (.Name x np) m apos) (e :: es) [] pos) X.env = (do
      let ov ← eval (.Name x np) X.env
      standAt apos.atName
      let (f, first) ← holding [ov] (getMethod ov m pl)
      callWith pos f first (backTo pos (starEach (e :: es) X.env)) (backToKw pos (keywordEach [] X.env))) := by rfl) :
    PE X (.Call (.Attribute (.Name x np) m apos) (e :: es) [] pos) (tCallX sp E t) := by
  refine ⟨fun pins s σ H Q I h => ?_⟩
  refine PySem.W.methodCall_KW (pl := pl) (ld_glob I hgl hm ?_ hdb) ht
  refine getmethsm_ok I c fun s2 I2 => ?_
  refine PySem.W.callWith_K (first := []) (h₀ := X.base) I2.ok.mod.kin c.kp (thn (ha.run pos pins s2 σ H _ I2 h) fun us s3 ⟨vs, H1, I3, r, q⟩ => ⟨I3.kIn, ?_⟩) hst hpl
  exact run_X F hr hx I3 r q
end
section
variable {K : PySem.W.Frag} {E : XK}
def dMeth (c : Str) (m : Str) (f : FS) (Ta : DE) (T : DA) : DE := fun η μ => (Ta η μ).bind fun x μ1 => okO (ofC c μ1 x) fun p => grd (m ∉ p.1) ((T η μ1).bind fun ds μ2 => f (x :: ds) μ2)
instance {c : Str} {m : Str} {f : FS} {ta : TE} {Ta : DE} {t : TA} {T : DA} [a : SE K (fun _ => E) ta Ta] [b : SA K (fun _ => E) t T] : SE K (fun _ => E) (tMethR (He.ga K c) m (spD K f) E ta t) (dMeth c m f Ta T) := ⟨fun {X F σ H η ρ μ P Q} w e h o =>
  a.run w e (wp_bind h) fun x H1 ρ1 dx μ1 w1 g1 q1 h1 => by
    obtain ⟨p, e1, h2⟩ := wp_okO h1
    obtain ⟨hm, h3⟩ := wp_grd h2
    obtain ⟨ad, dx', vs, rfl, ea, l, qs⟩ := asI_at w1 q1 (ofC_at e1)
    refine ⟨ad, dx', _, rfl, ea, look_no hm, b.run w1 (e.mono g1) (wp_bind h3) fun ws H2 ρ2 ds μ2 w2 g2 q2 h4 => ?_⟩
    exact ⟨F, ρ2, _, μ2, _, _, w2, .cons (q1.mono g2) q2, h4, o.mono (g1.trans g2), ((e.mono g1).mono g2).xo0⟩⟩
def dProp (c : Str) (f : FS) (Ta : DE) : DE := fun η μ => (Ta η μ).bind fun x μ1 => okO (ofC c μ1 x) fun _ => noX (f [x] μ1)
variable {E' : L2.St → XK}
instance {c : Str} {f : FS} {ta : TE} {Ta : DE} [a : SE K E' ta Ta] : SE K E' (tPropR (He.ga K c) (spD K f) L2.E0 ta) (dProp c f Ta) := ⟨fun {X F σ H η ρ μ P Q} w e h o =>
  a.run w e (wp_bind h) fun x H1 ρ1 dx μ1 w1 g1 q1 h1 => by
    obtain ⟨p, e1, h2⟩ := wp_okO h1
    obtain ⟨ad, dx', vs, rfl, ea, l, qs⟩ := asI_at w1 q1 (ofC_at e1)
    refine ⟨ad, dx', _, rfl, ea, F, ρ1, _, μ1, P, fun _ _ => False, w1, .one q1, ?_, o.mono g1, fun _ _ _ _ _ _ _ _ _ _ _ _ z => z.elim⟩
    revert h2
    cases f [dx] μ1 <;> exact id⟩
/-- a constant of a class -/
def tConC (C : Addr) (v : V) : TE := tC v
theorem pe_conC {X : Cx} {C : Addr} {mc : Value} {f x : Str} {v : V} {u : Value} {np pos : Pos} (hm : X.mg x = some (.ref C)) (r : ClX.CRead X.K C mc) (k : ClX.CVal X.K C mc f v u) (hgl : Gl X x := by rfl) (hdb : (x == ("__debug__" : Str)) = false := by decide)
    (hb : attributeBase (.Name x np) f X.env (eval (.Name x np) X.env) = eval (.Name x np) X.env := by rfl) : PE X (.Attribute (.Name x np) f pos) (tC v) := by
  refine ⟨fun pins s σ H Q I h => ?_⟩
  refine attr_of hb (ld_glob I hgl hm ?_ hdb)
  exact ClX.getcval_ok I r k fun s2 I2 => ⟨v, H, I2, k.rel, h⟩
end
/-! ### defaults, keywords -/
section
variable {P : Program} {w : World} {K : PySem.W.Frag} {mg : Str → Option Value} {base : Heap} {x qual : Str} {params : Arguments} {body : List Stmt} {scope : Scope} {dvs : List V} {kws : List (Str × V)} {f : Addr} {fd : FuncData}
/-- a call that leaves the last parameters to their defaults -/
def dflR (es : List D) (fs : FS) : FS := fun xs μ => fs (xs ++ es) μ
theorem fnR_dfl {k : Nat} {ps : List Str} {fs : FS} {dv : List V} {ds : List Value} {es : List D} (O : FnOk P w K mg base (L2.CX P w) k f fd ps (spD K fs)) (hv : Vals dv ds) (b : Binds K fd ps ds) (hd : ∀ F ρ H, DtAll K F ρ H dv es) :
    FnR P w K mg base (L2.CX P w) k f (spD K (dflR es fs)) :=
  (FnOk.raw O b hv).imp fun vs H Q E h => by
    obtain ⟨F, ρ, xs, μ, Q', X, wd, q, hf, o, xo⟩ := h
    exact ⟨F, ρ, xs ++ es, μ, Q', X, wd, q.app (hd _ _ _), hf, o, xo⟩
theorem fnR_all {k : Nat} {ps : List Str} {fs : FS} (O : FnOk P w K mg base (L2.CX P w) k f fd ps (spD K fs)) (b : Binds K fd ps []) : FnR P w K mg base (L2.CX P w) k f (spD K fs) :=
  (FnOk.raw O b .nil).imp fun vs H Q E h => by rw [List.append_nil]; exact h
/-! calls by keywords that stand behind the others, in the parameters' order -/
theorem kbn_app {ps ks : List Str} {n : Nat} (Fu : FunD K x qual params body scope [] kws f fd)
    (h : ∀ (kV doc pm : Value) (an : Option Addr) (cdv ct : Value) (us ws : List Value), us.length = n → ws.length = ks.length → bindArgs (PySem.W.fnOf x qual params body scope .none kV doc pm an cdv ct) ⟨us, ks.zip ws⟩ = pure (ps.zip (us ++ ws))) :
    KBn K fd ps n ks (fun us ws => us ++ ws) (fun vs zs => vs ++ zs) := by
  obtain ⟨oc, od, dV, kV, doc, pm, an, cdv, ct, osl, rfl, lk, hcd, hdf, hkw⟩ := Fu.ex
  have ed : dV = .none := by
    rcases hdf with ⟨_, e⟩ | ⟨e, _⟩
    · exact e
    · exact absurd rfl e
  subst ed
  exact ⟨fun s us ws _ l1 l2 => .of_eq (h kV doc pm an cdv ct us ws l1 l2), fun a b => a.append b⟩
def dCallA (n m : Nat) (f : FS) (T Tk : DA) : DE := fun η μ => (T η μ).bind fun ds μ1 => (Tk η μ1).bind fun es μ2 => grd (ds.length = n ∧ es.length = m) (f (ds ++ es) μ2)
instance {n m : Nat} {f : FS} {t tk : TA} {T Tk : DA} {E : XK} [a : SA K (fun _ => E) t T] [b : SA K (fun _ => E) tk Tk] : SE K (fun _ => E) (tCallN n m (spD K f) (fun vs zs => vs ++ zs) E t tk) (dCallA n m f T Tk) := ⟨fun {X F σ H η ρ μ P Q} w e h o =>
  a.run w e (wp_bind h) fun vs H1 ρ1 ds μ1 w1 g1 q1 h1 => b.run w1 (e.mono g1) (wp_bind h1) fun zs H2 ρ2 es μ2 w2 g2 q2 h2 =>
    ⟨q1.len.trans (wp_grd h2).1.1, q2.len.trans (wp_grd h2).1.2, F, ρ2, ds ++ es, μ2, _, _, w2, (q1.mono g2).app q2, (wp_grd h2).2, o.mono (g1.trans g2), ((e.mono g1).mono g2).xo0⟩⟩
end
end
end DX

namespace DX
open PySem PySem.Spec PyProof.Rows L2
/-! ### what the top leaves: facts, each a test of the written part -/
abbrev FB := PySem.W.Frag → Bool
def obsX (fa : List FB) (fn : List He5.DefA) (K : PySem.W.Frag) : He.AlD := ((fa.all fun f => f K) && fn.all fun d => d.ok K, fn.map fun d => He5.fnA K (d.at_ K))
def valX (fn : List He5.DefA) : He.AlD := (true, fn.map He5.DefA.val)
def SaysX (fa : List FB) (fn : List He5.DefA) (K : PySem.W.Frag) : Prop := obsX fa fn K = valX fn
def obsXG (n : Nat) (fa : List FB) (fn : List He5.DefA) (g : Addr → Option Obj) : He.AlD := obsX fa fn (He.frG g (He5.asA g n))
def hookX (n : Nat) (fa : List FB) (fn : List He5.DefA) : PySem.W.Hook where
  α := He.AlD
  obs := fun s => obsXG n fa fn s.heap.get?
  val := fun _ => valX fn
  says := fun _ h => ∃ K : PySem.W.Frag, K.In h ∧ SaysX fa fn K
  of := fun _ _ e => ⟨_, He.frG_in, e⟩
  keeps := fun _ _ _ ⟨K, hK, c⟩ k => ⟨K, PySem.W.Frag.In.keeps hK k, c⟩
theorem obsXG_eq {n : Nat} {fa : List FB} {fn : List He5.DefA} {g : Addr → Option Obj} {s : Shared} (h : ∀ a, g a = s.heap.get? a) : obsXG n fa fn g = (hookX n fa fn).obs s := by
  have e : g = s.heap.get? := funext h
  rw [e] <;> rfl
section
variable {fa : List FB} {fn : List He5.DefA} {K : PySem.W.Frag}
theorem SaysX.fact (c : SaysX fa fn K) (i : Nat) {f : FB} (h : fa[i]? = some f := by rfl) : f K = true := by
  have c1 := (He.ba (show ((fa.all fun f => f K) && fn.all fun d => d.ok K) = true from congrArg (fun z : He.AlD => z.1) c)).1
  exact List.all_eq_true.mp c1 f (List.mem_of_getElem? h)
theorem SaysX.def_ (c : SaysX fa fn K) (i : Nat) {d : He5.DefA} (h : fn[i]? = some d := by rfl) : ∃ fd, L2.FunD K d.name d.qual d.params d.body d.scope (d.dvs K) (d.kws K) (d.at_ K) fd := by
  have c2 := (He.ba (show ((fa.all fun f => f K) && fn.all fun d => d.ok K) = true from congrArg (fun z : He.AlD => z.1) c)).2
  have e : fn.map (fun d => He5.fnA K (d.at_ K)) = fn.map He5.DefA.val := congrArg (fun z : He.AlD => z.2) c
  have e2 : (fn.map fun d => He5.fnA K (d.at_ K))[i]? = (fn.map He5.DefA.val)[i]? := by rw [e]
  rw [List.getElem?_map, List.getElem?_map, h] at e2
  exact He5.DefA.funD (Option.some.inj e2) (List.all_eq_true.mp c2 d (List.mem_of_getElem? h))
end
/-! kinds of facts -/
def fFree (x : Str) : FB := fun K => (He.Fa.free x).ok K
def fGlo (x : Str) : FB := fun K => (He.Fa.glo x).ok K
def fInt (x : Str) (i : Int) : FB := fun K => (He.Fa.int x i).ok K
def fStr (x z : Str) : FB := fun K => (He.Fa.str x z).ok K
def fCls (x : Str) : FB := fun K => (He.Fa.cls x).ok K
def fNoat (x f : Str) : FB := fun K => (He.Fa.noat x f).ok K
def fMeth (x m : Str) : FB := fun K => (He.Fa.meth x m).ok K
def fMkr (x : Str) : FB := fun K => (He.Fa.mkr x).ok K
def fProp (x f : Str) : FB := fun K => He.eqO (PySem.W.findIn K (.ref (He.ga K x)) f) (some (some (.ref (He.ma K (He.ga K x) f)))) && (He.eqO (PySem.W.specialIn K (.ref (He.ma K (He.ga K x) f)) "__get__") (some (some (.builtin "property.__get__"))) &&
  (decide (PySem.W.takesIn K (.ref (He.ma K (He.ga K x) f)) = some true) && (match PySem.W.recIn K (He.ma K (He.ga K x) f) "property" with
    | some (.ref _ :: _) => true
    | _ => false)))
theorem prop_ok {K : PySem.W.Frag} {x f : Str} (h : fProp x f K = true) : PropOf K (He.ga K x) f (He.ma K (He.ga K x) f) (He5.wf K (He.ga K x) "property" f) := by
  obtain ⟨h1, h⟩ := He.ba h
  obtain ⟨h2, h⟩ := He.ba h
  obtain ⟨h3, h4⟩ := He.ba h
  refine ⟨He.eqO_ok h1, He.eqO_ok h2, of_decide_eq_true h3, ?_⟩
  unfold He5.wf
  split at h4
  · rename_i g r e
    exact ⟨r, by rw [e]⟩
  · cases h4
def fReads (x : Str) : FB := fun K => PySem.W.readsIn K (He.ga K x) (.type "type")
theorem reads_ok {K : PySem.W.Frag} {x : Str} (N : fReads x K = true) : ClX.CRead K (He.ga K x) (.type "type") := by
  refine ⟨N, ?_⟩
  have h : PySem.W.readsIn K (He.ga K x) (.type "type") = true := N
  unfold PySem.W.readsIn at h
  obtain ⟨h, _⟩ := He.ba h
  obtain ⟨h, _⟩ := He.ba h
  obtain ⟨h, h3⟩ := He.ba h
  obtain ⟨_, h2⟩ := He.ba h
  unfold PySem.W.specialIn
  rw [beq_iff_eq.mp h2, Option.bind_some]
  exact beq_iff_eq.mp h3
def fStat (x m : Str) : FB := fun K => He5.wrapB K (He.ga K x) "staticmethod" "staticmethod.__get__" m && PySem.W.keepIn K (.ref (He5.wf K (He.ga K x) "staticmethod" m))
theorem stat_ok {K : PySem.W.Frag} {x m : Str} (r : fReads x K = true) (h : fStat x m K = true) : SMet K (He.ga K x) m (He.ma K (He.ga K x) m) (He5.wf K (He.ga K x) "staticmethod" m) := by
  obtain ⟨h1, h2⟩ := He.ba h
  obtain ⟨h3, h4⟩ := He5.wrapB_ok h1
  exact ⟨reads_ok r, h3, h4, h2⟩
def fConI (x f : Str) (i : Int) : FB := fun K => match PySem.W.findCls K (.ref (He.ga K x)) (.type "type") f with
  | some (.val (.int j _)) => decide (j = i)
  | _ => false
theorem conI_ok {K : PySem.W.Frag} {x f : Str} {i : Int} (h : fConI x f i K = true) : ∃ u, ClX.CVal K (He.ga K x) (.type "type") f (.int i) u := by
  unfold fConI at h
  split at h
  · rename_i j t e
    exact ⟨_, e, ⟨t, by rw [of_decide_eq_true h]⟩⟩
  · cases h
/-! ### the end of a law -/
theorem fnOk_no {P : Program} {w : World} {K : PySem.W.Frag} {mg : Str → Option Value} {base : Heap} {k : Nat} {f : Addr} {fd : FuncData} {ps : List Str} {sp : Sp} (F : FnOk P w K mg base (L2.CX P w) k f fd ps sp) :
    FnOk P w K mg base CX0 k f fd ps (fun vs H Q _ => sp vs H Q L2.E0) := by
  refine ⟨fun vs H Q E h => F.len vs H Q _ h, fun A outer s H args us vs Q E hr e0 hb hv hs => ?_⟩
  refine codeAny_mono (F.run A outer s H args us vs Q L2.E0 hr e0 hb hv hs) fun r s' hq => ?_
  cases r with
  | error e =>
    obtain ⟨_, _, _, _, _, _, _, _, _, _, _, _, z⟩ := hq
    exact z.elim
  | ok fl => cases fl <;> exact hq
theorem law_sp {K : PySem.W.Frag} {H : Hp} {a : Addr} {ns : List Int} {f : FS} (hl : ∃ μ, f [.scr ns] [] = .ok (.bl true) μ) (h : SqL K H a (ns.map V.int)) : spD K f [.ref a] H (fun v _ => v = .bl true) L2.E0 := by
  obtain ⟨μ, e⟩ := hl
  refine ⟨[], [], [.scr ns], [], fun d _ => d = .bl true, fun _ _ => False, ⟨fun _ h => (nomatch h), rfl, List.Pairwise.nil, fun _ h => (nomatch h), fun i a m h => by simp at h⟩, .one (.scr ?_), ?_, ?_, fun _ _ _ _ _ _ _ _ _ _ _ _ z => z.elim⟩
  · exact SqM.of h
  · rw [e]
    rfl
  · intro v H' ρ' d μ' _ _ q e
    subst e
    cases q
    rfl
end DX

namespace DX
open PySem PySem.Spec PyProof.Rows L2
/-! ### zip of lists and tuples, mixed -/
def ItAt : Bool → Heap → Addr → Addr → Nat → Prop
  | true, h, it, l, k => h.IsListIter it l k
  | false, h, it, l, k => h.IsTupleIter it l k
def SqAt : Bool → Heap → Addr → Array Value → Prop
  | true, h, l, xs => h.IsList l xs
  | false, h, l, xs => h.IsTuple l xs
theorem ItAt.to {b : Bool} {h h' : Heap} {it l : Addr} {k : Nat} (x : ItAt b h it l k) (e : ∀ o, h.get? it = some o → h'.get? it = some o) : ItAt b h' it l k := by
  cases b with
  | true => exact Heap.IsListIter.at x e
  | false => exact Heap.IsTupleIter.at x e
theorem ItAt.ob {b : Bool} {h : Heap} {it l : Addr} {k : Nat} (x : ItAt b h it l k) : ∃ o, h.get? it = some o ∧ ∀ v, o.data ≠ .cell v := by
  cases b with
  | true =>
    obtain ⟨o, e, _, d⟩ := x
    exact ⟨o, e, fun v q => by rw [d] at q; cases q⟩
  | false =>
    obtain ⟨o, e, _, d⟩ := x
    exact ⟨o, e, fun v q => by rw [d] at q; cases q⟩
theorem SqAt.to {b : Bool} {h h' : Heap} {l : Addr} {xs : Array Value} (x : SqAt b h l xs) (e : ∀ o, h.get? l = some o → h'.get? l = some o) : SqAt b h' l xs := by
  cases b with
  | true =>
    obtain ⟨o, e1, r⟩ := x
    exact ⟨o, e o e1, r⟩
  | false =>
    obtain ⟨o, e1, r⟩ := x
    exact ⟨o, e o e1, r⟩
abbrev itN : Bool → String
  | true => "list_iterator"
  | false => "tuple_iterator"
abbrev itO (b : Bool) (l : Addr) : Obj := { cls := .type (itN b), data := .fields #[.ref l, .int 0 0] }
theorem ItAt.new {b : Bool} {h : Heap} {it l : Addr} (e : h.get? it = some (itO b l)) : ItAt b h it l 0 := by
  cases b with
  | true => exact ⟨_, e, rfl, rfl⟩
  | false => exact ⟨_, e, rfl, rfl⟩
abbrev TupO (h : Heap) (T : Addr) (vs : Array Value) : Prop := h.get? T = some { cls := .type "tuple", data := .seq vs }
section
variable {prog : Program} {w : World} {A : Around} {E : Value → Shared → Prop} {s : Shared}
theorem next_item {b : Bool} {it l : Addr} {i : Nat} {items : Array Value} {x : Value} {Q : Value → Shared → Prop} (hit : ItAt b s.heap it l i) (hl : SqAt b s.heap l items) (hx : items[i]? = some x)
    (hQ : ∀ h', ItAt b h' it l (i + 1) → Heap.SameBut it s.heap h' → Q x { s with heap := h' }) : wpAny (model prog w) A (Builtin.SmallTypes.nextOf (.ref it)) Q E s := by
  cases b with
  | true => exact wpAny_nextOf_list_item hit hl hx hQ
  | false => exact RZ.nextOf_tuple_item hit hl hx hQ
theorem next_end {b : Bool} {it l : Addr} {i : Nat} {items : Array Value} {Q : Value → Shared → Prop} (hh : A.handled = none) (hit : ItAt b s.heap it l i) (hl : SqAt b s.heap l items) (hx : items[i]? = none)
    (hE : ∀ h' e, Heap.ExtBut it s.heap h' → (∃ o, h'.get? e = some o ∧ o.cls = .type "StopIteration") → E (.ref e) { s with heap := h' }) : wpAny (model prog w) A (Builtin.SmallTypes.nextOf (.ref it)) Q E s := by
  cases b with
  | true => exact wpAny_nextOf_list_end hh hit hl hx hE
  | false => exact RZ.nextOf_tuple_end hh hit hl hx hE
theorem iter_any {b : Bool} {l : Addr} {items : Array Value} {Q : Value → Shared → Prop} (hl : SqAt b s.heap l items) (hQ : Q (.ref s.heap.objs.size) { s with heap := s.heap.push (itO b l) }) : wpAny (model prog w) A (pyIter (.ref l)) Q E s := by
  cases b with
  | true => exact wpAny_pyIter_list hl hQ
  | false => exact wpAny_pyIter_tuple hl hQ
theorem upd_arr {T : Addr} {vs : Array Value} {x : Value} {k : Nat} {Q : Unit → Shared → Prop} (hT : TupO s.heap T vs)
    (h : ∀ h', TupO h' T (vs.setIfInBounds k x) → Heap.SameBut T s.heap h' → Q () { s with heap := h' }) (hz : vs.size ≤ 8) : wpAny (model prog w) A (updateSeq T (·.setIfInBounds k x)) Q E s := by
  refine wpAny_updateSeq hT rfl (h _ ?_ (Heap.SameBut.update ..)) (hz := by first | (simp only [Array.size_setIfInBounds]; exact Nat.le_trans hz (by decide)) | exact Nat.le_trans hz (by decide))
  show Heap.get? _ _ = _
  rw [Heap.get?_update_self _ hT rfl]
  simp [Obj.mapSeq]
end
structure ZA2 (z TI TO i1 i2 l1 l2 : Addr) : Prop where
  TI_z : TI ≠ z
  TO_z : TO ≠ z
  i1_z : i1 ≠ z
  i2_z : i2 ≠ z
  TI_TO : TI ≠ TO
  TI_i1 : TI ≠ i1
  TO_i1 : TO ≠ i1
  TI_i2 : TI ≠ i2
  TO_i2 : TO ≠ i2
  i1_i2 : i1 ≠ i2
  l1_z : l1 ≠ z
  l1_TO : l1 ≠ TO
  l1_i1 : l1 ≠ i1
  l1_i2 : l1 ≠ i2
  l2_z : l2 ≠ z
  l2_TO : l2 ≠ TO
  l2_i1 : l2 ≠ i1
  l2_i2 : l2 ≠ i2
section
variable {prog : Program} {w : World} {A : Around} {E : Value → Shared → Prop} {s : Shared}
theorem zip2_item {b1 b2 : Bool} {z TI TO i1 i2 l1 l2 : Addr} {k : Nat} {xs1 xs2 : Array Value} {x1 x2 a1 a2 : Value} {Q : Value → Shared → Prop} (D : ZA2 z TI TO i1 i2 l1 l2)
    (hz : IsZip s.heap z TI TO .none) (hTI : TupO s.heap TI #[.ref i1, .ref i2]) (hTO : TupO s.heap TO #[a1, a2]) (h1 : ItAt b1 s.heap i1 l1 k) (q1 : SqAt b1 s.heap l1 xs1) (h2 : ItAt b2 s.heap i2 l2 k) (q2 : SqAt b2 s.heap l2 xs2) (e1 : xs1[k]? = some x1) (e2 : xs2[k]? = some x2)
    (hQ : ∀ h', IsZip h' z TI TO (rawInt s.heap.objs.size) → TupO h' TO #[x1, x2] → ItAt b1 h' i1 l1 (k + 1) → ItAt b2 h' i2 l2 (k + 1) → TupO h' s.heap.objs.size #[x1, x2] → h'.objs.size = s.heap.objs.size + 1 →
      (∀ c o, c ≠ z → c ≠ TO → c ≠ i1 → c ≠ i2 → s.heap.get? c = some o → h'.get? c = some o) → Q (.ref s.heap.objs.size) { s with heap := h' }) :
    wpAny (model prog w) A (Builtin.«zip.__next__» ⟨[.ref z], []⟩) (fun fin s' => ∃ v, fin = .done (.ret v) ∧ Q v s') E s := by
  show wpAny _ _ (field (.ref z) 2 >>= _) _ _ _
  refine wpAny_bind (wpAny_field hz rfl (x := .bool false) rfl ?_)
  show wpAny _ _ (field (.ref z) 3 >>= _) _ _ _
  refine wpAny_bind (wpAny_field hz rfl (x := .ref TI) rfl ?_)
  refine wpAny_bind (wpAny_seqItems hTI rfl ?_)
  show wpAny _ _ (Builtin.SmallTypes.ownedTupleIsFree (.ref z) >>= _) _ _ _
  refine wpAny_bind ?_
  unfold Builtin.SmallTypes.ownedTupleIsFree
  refine wpAny_bind (wpAny_field hz rfl (x := .none) rfl (wpAny_pure ?_))
  simp only [if_true]
  refine wpAny_bind (wpAny_rule ?_)
  refine wpAny_bind (wpAny_field hz rfl (x := .ref TO) rfl ?_)
  refine wpAny_bind (wpAny_setField_rec hz (by simp) fun g1 hz1 s1 => ?_)
  replace hz1 : IsZip g1 z TI TO .ellipsis := hz1
  refine wpAny_bind ?_
  simp only [List.zipIdx_cons, List.zipIdx_nil, List.forIn_cons, List.forIn_nil]
  refine wpAny_bind (wpAny_bind (wpAny_onRaise ?_))
  show wpAny _ _ (Builtin.SmallTypes.nextOf (.ref i1) >>= _) _ _ _
  refine wpAny_bind (next_item (h1.to (fun o e => (s1.extBut _ _ D.i1_z e))) (q1.to (fun o e => (s1.extBut _ _ D.l1_z e))) e1 fun g2 hn1 s2 => wpAny_pure ?_)
  have t2 : TupO g2 TO #[a1, a2] := (s2.extBut _ _ D.TO_i1 (s1.extBut _ _ D.TO_z hTO))
  refine wpAny_bind (wpAny_seqItems t2 rfl ?_)
  refine wpAny_bind (upd_arr t2 (fun g3 t3 s3 => ?_) (by simp))
  replace t3 : TupO g3 TO #[x1, a2] := t3
  refine wpAny_bind (wpAny_letGo (wpAny_pure ?_))
  refine wpAny_bind (wpAny_bind (wpAny_onRaise ?_))
  show wpAny _ _ (Builtin.SmallTypes.nextOf (.ref i2) >>= _) _ _ _
  refine wpAny_bind (next_item (h2.to (fun o e => (s3.extBut _ _ D.TO_i2.symm (s2.extBut _ _ D.i1_i2.symm (s1.extBut _ _ D.i2_z e))))) (q2.to (fun o e => (s3.extBut _ _ D.l2_TO (s2.extBut _ _ D.l2_i1 (s1.extBut _ _ D.l2_z e))))) e2 fun g4 hn2 s4 => wpAny_pure ?_)
  have t4 : TupO g4 TO #[x1, a2] := (s4.extBut _ _ D.TO_i2 t3)
  refine wpAny_bind (wpAny_seqItems t4 rfl ?_)
  refine wpAny_bind (upd_arr t4 (fun g5 t5 s5 => ?_) (by simp))
  replace t5 : TupO g5 TO #[x1, x2] := t5
  refine wpAny_bind (wpAny_letGo (wpAny_pure (wpAny_pure ?_)))
  refine wpAny_bind (wpAny_seqItems t5 rfl ?_)
  refine wpAny_bind (wpAny_newTuple ?_)
  have hsz : g5.objs.size = s.heap.objs.size := by rw [s5.1, s4.1, s3.1, s2.1, s1.1]
  have zz : IsZip g5 z TI TO .ellipsis := (s5.extBut _ _ D.TO_z.symm (s4.extBut _ _ D.i2_z.symm (s3.extBut _ _ D.TO_z.symm (s2.extBut _ _ D.i1_z.symm hz1))))
  have kk : ∀ c o, c ≠ z → c ≠ TO → c ≠ i1 → c ≠ i2 → s.heap.get? c = some o → g5.get? c = some o := fun c o cz ct c1 c2 e => (s5.extBut _ _ ct (s4.extBut _ _ c2 (s3.extBut _ _ ct (s2.extBut _ _ c1 (s1.extBut _ _ cz e)))))
  have y1 : ItAt b1 g5 i1 l1 (k + 1) := hn1.to (fun o e => (s5.extBut _ _ D.TO_i1.symm (s4.extBut _ _ D.i1_i2 (s3.extBut _ _ D.TO_i1.symm e))))
  have y2 : ItAt b2 g5 i2 l2 (k + 1) := hn2.to (fun o e => (s5.extBut _ _ D.TO_i2.symm e))
  have zlt : z < g5.objs.size := Heap.lt_size zz
  show wpAny _ _ (Builtin.SmallTypes.ownedTupleHandOut (.ref z) (.ref g5.objs.size) >>= _) _ _ _
  refine wpAny_bind ?_
  unfold Builtin.SmallTypes.ownedTupleHandOut
  have z6 : IsZip (g5.push { cls := .type "tuple", data := .seq #[x1, x2] }) z TI TO .ellipsis := Heap.get?_push_of_some _ zz
  refine wpAny_bind (wpAny_setField_rec z6 (by simp) fun f7 z7 u7 => ?_)
  replace z7 : IsZip f7 z TI TO (rawInt g5.objs.size) := z7
  refine wpAny_setField_rec z7 (by simp) fun f8 z8 u8 => ?_
  replace z8 : IsZip f8 z TI TO (rawInt g5.objs.size) := z8
  have up : ∀ c o, c ≠ z → g5.get? c = some o → f8.get? c = some o := fun c o cz e => u8.extBut _ _ cz (u7.extBut _ _ cz (Heap.get?_push_of_some _ e))
  have T8 : TupO f8 g5.objs.size #[x1, x2] := u8.extBut _ _ (Nat.ne_of_gt zlt) (u7.extBut _ _ (Nat.ne_of_gt zlt) (Heap.get?_push_size _ rfl))
  have w8 : f8.objs.size = g5.objs.size + 1 := by rw [u8.1, u7.1, Heap.size_push]
  rw [hsz] at z8 T8 w8
  refine wpAny_pure ⟨_, rfl, ?_⟩
  show Q (.ref g5.objs.size) _
  rw [hsz]
  exact hQ f8 z8 (up _ _ D.TO_z t5) (y1.to fun o e => up _ o D.i1_z e) (y2.to fun o e => up _ o D.i2_z e) T8 w8 fun c o cz ct c1 c2 e => up c o cz (kk c o cz ct c1 c2 e)
theorem zip2_end {b1 b2 : Bool} {z TI TO i1 i2 l1 l2 : Addr} {k : Nat} {xs1 xs2 : Array Value} {a1 a2 : Value} {Q : Fin → Shared → Prop} (hh : A.handled = none) (D : ZA2 z TI TO i1 i2 l1 l2)
    (hz : IsZip s.heap z TI TO .none) (hTI : TupO s.heap TI #[.ref i1, .ref i2]) (hTO : TupO s.heap TO #[a1, a2]) (h1 : ItAt b1 s.heap i1 l1 k) (q1 : SqAt b1 s.heap l1 xs1) (h2 : ItAt b2 s.heap i2 l2 k) (q2 : SqAt b2 s.heap l2 xs2) (hend : xs1[k]? = none ∨ xs2[k]? = none)
    (hE : ∀ h' e, (∀ c o, c ≠ z → c ≠ TO → c ≠ i1 → c ≠ i2 → s.heap.get? c = some o → h'.get? c = some o) → (∃ o, h'.get? e = some o ∧ o.cls = .type "StopIteration") → E (.ref e) { s with heap := h' }) :
    wpAny (model prog w) A (Builtin.«zip.__next__» ⟨[.ref z], []⟩) Q E s := by
  show wpAny _ _ (field (.ref z) 2 >>= _) _ _ _
  refine wpAny_bind (wpAny_field hz rfl (x := .bool false) rfl ?_)
  show wpAny _ _ (field (.ref z) 3 >>= _) _ _ _
  refine wpAny_bind (wpAny_field hz rfl (x := .ref TI) rfl ?_)
  refine wpAny_bind (wpAny_seqItems hTI rfl ?_)
  show wpAny _ _ (Builtin.SmallTypes.ownedTupleIsFree (.ref z) >>= _) _ _ _
  refine wpAny_bind ?_
  unfold Builtin.SmallTypes.ownedTupleIsFree
  refine wpAny_bind (wpAny_field hz rfl (x := .none) rfl (wpAny_pure ?_))
  simp only [if_true]
  refine wpAny_bind (wpAny_rule ?_)
  refine wpAny_bind (wpAny_field hz rfl (x := .ref TO) rfl ?_)
  refine wpAny_bind (wpAny_setField_rec hz (by simp) fun g1 hz1 s1 => ?_)
  replace hz1 : IsZip g1 z TI TO .ellipsis := hz1
  refine wpAny_bind ?_
  simp only [List.zipIdx_cons, List.zipIdx_nil, List.forIn_cons, List.forIn_nil]
  refine wpAny_bind (wpAny_bind (wpAny_onRaise ?_))
  show wpAny _ _ (Builtin.SmallTypes.nextOf (.ref i1) >>= _) _ _ _
  cases e1 : xs1[k]? with
  | none =>
    refine wpAny_bind (next_end hh (h1.to (fun o e => (s1.extBut _ _ D.i1_z e))) (q1.to (fun o e => (s1.extBut _ _ D.l1_z e))) e1 fun ge e se he => ?_)
    obtain ⟨oe, hoe, hce⟩ := he
    have ze : IsZip ge z TI TO .ellipsis := (se _ _ D.i1_z.symm hz1)
    have hez : e ≠ z := fun x => by subst x; rw [ze] at hoe; cases hoe; simp at hce
    exact wpAny_setField_rec ze (by simp) fun gf _ sf => hE gf e (fun c o cz ct c1 c2 e => sf.extBut _ _ cz (se _ _ c1 (s1.extBut _ _ cz e))) ⟨oe, sf.extBut _ _ hez hoe, hce⟩
  | some x1 =>
    refine wpAny_bind (next_item (h1.to (fun o e => (s1.extBut _ _ D.i1_z e))) (q1.to (fun o e => (s1.extBut _ _ D.l1_z e))) e1 fun g2 hn1 s2 => wpAny_pure ?_)
    have t2 : TupO g2 TO #[a1, a2] := (s2.extBut _ _ D.TO_i1 (s1.extBut _ _ D.TO_z hTO))
    refine wpAny_bind (wpAny_seqItems t2 rfl ?_)
    refine wpAny_bind (upd_arr t2 (fun g3 t3 s3 => ?_) (by simp))
    replace t3 : TupO g3 TO #[x1, a2] := t3
    refine wpAny_bind (wpAny_letGo (wpAny_pure ?_))
    refine wpAny_bind (wpAny_bind (wpAny_onRaise ?_))
    show wpAny _ _ (Builtin.SmallTypes.nextOf (.ref i2) >>= _) _ _ _
    cases e2 : xs2[k]? with
    | none =>
      refine wpAny_bind (next_end hh (h2.to (fun o e => (s3.extBut _ _ D.TO_i2.symm (s2.extBut _ _ D.i1_i2.symm (s1.extBut _ _ D.i2_z e))))) (q2.to (fun o e => (s3.extBut _ _ D.l2_TO (s2.extBut _ _ D.l2_i1 (s1.extBut _ _ D.l2_z e))))) e2 fun ge e se he => ?_)
      obtain ⟨oe, hoe, hce⟩ := he
      have ze : IsZip ge z TI TO .ellipsis := (se _ _ D.i2_z.symm (s3.extBut _ _ D.TO_z.symm (s2.extBut _ _ D.i1_z.symm hz1)))
      have hez : e ≠ z := fun x => by subst x; rw [ze] at hoe; cases hoe; simp at hce
      exact wpAny_setField_rec ze (by simp) fun gf _ sf => hE gf e (fun c o cz ct c1 c2 e => sf.extBut _ _ cz (se _ _ c2 (s3.extBut _ _ ct (s2.extBut _ _ c1 (s1.extBut _ _ cz e))))) ⟨oe, sf.extBut _ _ hez hoe, hce⟩
    | some x2 =>
      exfalso
      rcases hend with q | q
      · rw [e1] at q; cases q
      · rw [e2] at q; cases q
theorem pyNext2_item {b1 b2 : Bool} {z TI TO i1 i2 l1 l2 : Addr} {k : Nat} {xs1 xs2 : Array Value} {x1 x2 a1 a2 : Value} {Q : Option Value → Shared → Prop} (D : ZA2 z TI TO i1 i2 l1 l2)
    (hz : IsZip s.heap z TI TO .none) (hTI : TupO s.heap TI #[.ref i1, .ref i2]) (hTO : TupO s.heap TO #[a1, a2]) (h1 : ItAt b1 s.heap i1 l1 k) (q1 : SqAt b1 s.heap l1 xs1) (h2 : ItAt b2 s.heap i2 l2 k) (q2 : SqAt b2 s.heap l2 xs2) (e1 : xs1[k]? = some x1) (e2 : xs2[k]? = some x2)
    (hQ : ∀ h', IsZip h' z TI TO (rawInt s.heap.objs.size) → TupO h' TO #[x1, x2] → ItAt b1 h' i1 l1 (k + 1) → ItAt b2 h' i2 l2 (k + 1) → TupO h' s.heap.objs.size #[x1, x2] → h'.objs.size = s.heap.objs.size + 1 →
      (∀ c o, c ≠ z → c ≠ TO → c ≠ i1 → c ≠ i2 → s.heap.get? c = some o → h'.get? c = some o) → Q (some (.ref s.heap.objs.size)) { s with heap := h' }) :
    wpAny (model prog w) A (pyNext (.ref z)) Q E s := by
  have hT : s.TypeIs (.ref z) "zip" := ⟨_, hz, rfl⟩
  unfold pyNext
  exact wpAny_bind (wpAny_attempt (wpAny_callSpecial?_slot (name := Str.ofString "__next__") hT F.slot_zip_next
    (wpAny_call_entry F.slot_zip_next hT F.entry_zip_next (zip2_item D hz hTI hTO h1 q1 h2 q2 e1 e2 fun h' p0 p1 p2 p3 p4 p5 p6 => wpAny_pure (hQ h' p0 p1 p2 p3 p4 p5 p6)) (F.args_zip_next_1 _))))
theorem pyNext2_end {b1 b2 : Bool} {z TI TO i1 i2 l1 l2 : Addr} {k : Nat} {xs1 xs2 : Array Value} {a1 a2 : Value} {Q : Option Value → Shared → Prop} (hh : A.handled = none) (D : ZA2 z TI TO i1 i2 l1 l2)
    (hz : IsZip s.heap z TI TO .none) (hTI : TupO s.heap TI #[.ref i1, .ref i2]) (hTO : TupO s.heap TO #[a1, a2]) (h1 : ItAt b1 s.heap i1 l1 k) (q1 : SqAt b1 s.heap l1 xs1) (h2 : ItAt b2 s.heap i2 l2 k) (q2 : SqAt b2 s.heap l2 xs2) (hend : xs1[k]? = none ∨ xs2[k]? = none)
    (hQ : ∀ h', (∀ c o, c ≠ z → c ≠ TO → c ≠ i1 → c ≠ i2 → s.heap.get? c = some o → h'.get? c = some o) → Q none { s with heap := h' }) : wpAny (model prog w) A (pyNext (.ref z)) Q E s := by
  have hT : s.TypeIs (.ref z) "zip" := ⟨_, hz, rfl⟩
  unfold pyNext
  refine wpAny_bind (wpAny_attempt (wpAny_callSpecial?_slot (name := Str.ofString "__next__") hT F.slot_zip_next
    (wpAny_call_entry F.slot_zip_next hT F.entry_zip_next (zip2_end hh D hz hTI hTO h1 q1 h2 q2 hend fun h' e hk he => ?_) (F.args_zip_next_1 _))))
  obtain ⟨o, ho, hc⟩ := he
  refine wpAny_bind (wpAny_isInstance (T := "StopIteration") (b := true) ⟨o, ho, hc⟩ isSubtype_stop ?_)
  exact wpAny_pure (hQ _ hk)
end
structure ZA3 (z TI TO i1 i2 i3 l1 l2 l3 : Addr) : Prop where
  TI_z : TI ≠ z
  TO_z : TO ≠ z
  i1_z : i1 ≠ z
  i2_z : i2 ≠ z
  i3_z : i3 ≠ z
  TI_TO : TI ≠ TO
  TI_i1 : TI ≠ i1
  TO_i1 : TO ≠ i1
  TI_i2 : TI ≠ i2
  TO_i2 : TO ≠ i2
  TI_i3 : TI ≠ i3
  TO_i3 : TO ≠ i3
  i1_i2 : i1 ≠ i2
  i1_i3 : i1 ≠ i3
  i2_i3 : i2 ≠ i3
  l1_z : l1 ≠ z
  l1_TO : l1 ≠ TO
  l1_i1 : l1 ≠ i1
  l1_i2 : l1 ≠ i2
  l1_i3 : l1 ≠ i3
  l2_z : l2 ≠ z
  l2_TO : l2 ≠ TO
  l2_i1 : l2 ≠ i1
  l2_i2 : l2 ≠ i2
  l2_i3 : l2 ≠ i3
  l3_z : l3 ≠ z
  l3_TO : l3 ≠ TO
  l3_i1 : l3 ≠ i1
  l3_i2 : l3 ≠ i2
  l3_i3 : l3 ≠ i3
section
variable {prog : Program} {w : World} {A : Around} {E : Value → Shared → Prop} {s : Shared}
theorem zip3_item {b1 b2 b3 : Bool} {z TI TO i1 i2 i3 l1 l2 l3 : Addr} {k : Nat} {xs1 xs2 xs3 : Array Value} {x1 x2 x3 a1 a2 a3 : Value} {Q : Value → Shared → Prop} (D : ZA3 z TI TO i1 i2 i3 l1 l2 l3)
    (hz : IsZip s.heap z TI TO .none) (hTI : TupO s.heap TI #[.ref i1, .ref i2, .ref i3]) (hTO : TupO s.heap TO #[a1, a2, a3]) (h1 : ItAt b1 s.heap i1 l1 k) (q1 : SqAt b1 s.heap l1 xs1) (h2 : ItAt b2 s.heap i2 l2 k) (q2 : SqAt b2 s.heap l2 xs2) (h3 : ItAt b3 s.heap i3 l3 k) (q3 : SqAt b3 s.heap l3 xs3) (e1 : xs1[k]? = some x1) (e2 : xs2[k]? = some x2) (e3 : xs3[k]? = some x3)
    (hQ : ∀ h', IsZip h' z TI TO (rawInt s.heap.objs.size) → TupO h' TO #[x1, x2, x3] → ItAt b1 h' i1 l1 (k + 1) → ItAt b2 h' i2 l2 (k + 1) → ItAt b3 h' i3 l3 (k + 1) → TupO h' s.heap.objs.size #[x1, x2, x3] → h'.objs.size = s.heap.objs.size + 1 →
      (∀ c o, c ≠ z → c ≠ TO → c ≠ i1 → c ≠ i2 → c ≠ i3 → s.heap.get? c = some o → h'.get? c = some o) → Q (.ref s.heap.objs.size) { s with heap := h' }) :
    wpAny (model prog w) A (Builtin.«zip.__next__» ⟨[.ref z], []⟩) (fun fin s' => ∃ v, fin = .done (.ret v) ∧ Q v s') E s := by
  show wpAny _ _ (field (.ref z) 2 >>= _) _ _ _
  refine wpAny_bind (wpAny_field hz rfl (x := .bool false) rfl ?_)
  show wpAny _ _ (field (.ref z) 3 >>= _) _ _ _
  refine wpAny_bind (wpAny_field hz rfl (x := .ref TI) rfl ?_)
  refine wpAny_bind (wpAny_seqItems hTI rfl ?_)
  show wpAny _ _ (Builtin.SmallTypes.ownedTupleIsFree (.ref z) >>= _) _ _ _
  refine wpAny_bind ?_
  unfold Builtin.SmallTypes.ownedTupleIsFree
  refine wpAny_bind (wpAny_field hz rfl (x := .none) rfl (wpAny_pure ?_))
  simp only [if_true]
  refine wpAny_bind (wpAny_rule ?_)
  refine wpAny_bind (wpAny_field hz rfl (x := .ref TO) rfl ?_)
  refine wpAny_bind (wpAny_setField_rec hz (by simp) fun g1 hz1 s1 => ?_)
  replace hz1 : IsZip g1 z TI TO .ellipsis := hz1
  refine wpAny_bind ?_
  simp only [List.zipIdx_cons, List.zipIdx_nil, List.forIn_cons, List.forIn_nil]
  refine wpAny_bind (wpAny_bind (wpAny_onRaise ?_))
  show wpAny _ _ (Builtin.SmallTypes.nextOf (.ref i1) >>= _) _ _ _
  refine wpAny_bind (next_item (h1.to (fun o e => (s1.extBut _ _ D.i1_z e))) (q1.to (fun o e => (s1.extBut _ _ D.l1_z e))) e1 fun g2 hn1 s2 => wpAny_pure ?_)
  have t2 : TupO g2 TO #[a1, a2, a3] := (s2.extBut _ _ D.TO_i1 (s1.extBut _ _ D.TO_z hTO))
  refine wpAny_bind (wpAny_seqItems t2 rfl ?_)
  refine wpAny_bind (upd_arr t2 (fun g3 t3 s3 => ?_) (by simp))
  replace t3 : TupO g3 TO #[x1, a2, a3] := t3
  refine wpAny_bind (wpAny_letGo (wpAny_pure ?_))
  refine wpAny_bind (wpAny_bind (wpAny_onRaise ?_))
  show wpAny _ _ (Builtin.SmallTypes.nextOf (.ref i2) >>= _) _ _ _
  refine wpAny_bind (next_item (h2.to (fun o e => (s3.extBut _ _ D.TO_i2.symm (s2.extBut _ _ D.i1_i2.symm (s1.extBut _ _ D.i2_z e))))) (q2.to (fun o e => (s3.extBut _ _ D.l2_TO (s2.extBut _ _ D.l2_i1 (s1.extBut _ _ D.l2_z e))))) e2 fun g4 hn2 s4 => wpAny_pure ?_)
  have t4 : TupO g4 TO #[x1, a2, a3] := (s4.extBut _ _ D.TO_i2 t3)
  refine wpAny_bind (wpAny_seqItems t4 rfl ?_)
  refine wpAny_bind (upd_arr t4 (fun g5 t5 s5 => ?_) (by simp))
  replace t5 : TupO g5 TO #[x1, x2, a3] := t5
  refine wpAny_bind (wpAny_letGo (wpAny_pure ?_))
  refine wpAny_bind (wpAny_bind (wpAny_onRaise ?_))
  show wpAny _ _ (Builtin.SmallTypes.nextOf (.ref i3) >>= _) _ _ _
  refine wpAny_bind (next_item (h3.to (fun o e => (s5.extBut _ _ D.TO_i3.symm (s4.extBut _ _ D.i2_i3.symm (s3.extBut _ _ D.TO_i3.symm (s2.extBut _ _ D.i1_i3.symm (s1.extBut _ _ D.i3_z e))))))) (q3.to (fun o e => (s5.extBut _ _ D.l3_TO (s4.extBut _ _ D.l3_i2 (s3.extBut _ _ D.l3_TO (s2.extBut _ _ D.l3_i1 (s1.extBut _ _ D.l3_z e))))))) e3 fun g6 hn3 s6 => wpAny_pure ?_)
  have t6 : TupO g6 TO #[x1, x2, a3] := (s6.extBut _ _ D.TO_i3 t5)
  refine wpAny_bind (wpAny_seqItems t6 rfl ?_)
  refine wpAny_bind (upd_arr t6 (fun g7 t7 s7 => ?_) (by simp))
  replace t7 : TupO g7 TO #[x1, x2, x3] := t7
  refine wpAny_bind (wpAny_letGo (wpAny_pure (wpAny_pure ?_)))
  refine wpAny_bind (wpAny_seqItems t7 rfl ?_)
  refine wpAny_bind (wpAny_newTuple ?_)
  have hsz : g7.objs.size = s.heap.objs.size := by rw [s7.1, s6.1, s5.1, s4.1, s3.1, s2.1, s1.1]
  have zz : IsZip g7 z TI TO .ellipsis := (s7.extBut _ _ D.TO_z.symm (s6.extBut _ _ D.i3_z.symm (s5.extBut _ _ D.TO_z.symm (s4.extBut _ _ D.i2_z.symm (s3.extBut _ _ D.TO_z.symm (s2.extBut _ _ D.i1_z.symm hz1))))))
  have kk : ∀ c o, c ≠ z → c ≠ TO → c ≠ i1 → c ≠ i2 → c ≠ i3 → s.heap.get? c = some o → g7.get? c = some o := fun c o cz ct c1 c2 c3 e => (s7.extBut _ _ ct (s6.extBut _ _ c3 (s5.extBut _ _ ct (s4.extBut _ _ c2 (s3.extBut _ _ ct (s2.extBut _ _ c1 (s1.extBut _ _ cz e)))))))
  have y1 : ItAt b1 g7 i1 l1 (k + 1) := hn1.to (fun o e => (s7.extBut _ _ D.TO_i1.symm (s6.extBut _ _ D.i1_i3 (s5.extBut _ _ D.TO_i1.symm (s4.extBut _ _ D.i1_i2 (s3.extBut _ _ D.TO_i1.symm e))))))
  have y2 : ItAt b2 g7 i2 l2 (k + 1) := hn2.to (fun o e => (s7.extBut _ _ D.TO_i2.symm (s6.extBut _ _ D.i2_i3 (s5.extBut _ _ D.TO_i2.symm e))))
  have y3 : ItAt b3 g7 i3 l3 (k + 1) := hn3.to (fun o e => (s7.extBut _ _ D.TO_i3.symm e))
  have zlt : z < g7.objs.size := Heap.lt_size zz
  show wpAny _ _ (Builtin.SmallTypes.ownedTupleHandOut (.ref z) (.ref g7.objs.size) >>= _) _ _ _
  refine wpAny_bind ?_
  unfold Builtin.SmallTypes.ownedTupleHandOut
  have z6 : IsZip (g7.push { cls := .type "tuple", data := .seq #[x1, x2, x3] }) z TI TO .ellipsis := Heap.get?_push_of_some _ zz
  refine wpAny_bind (wpAny_setField_rec z6 (by simp) fun f7 z7 u7 => ?_)
  replace z7 : IsZip f7 z TI TO (rawInt g7.objs.size) := z7
  refine wpAny_setField_rec z7 (by simp) fun f8 z8 u8 => ?_
  replace z8 : IsZip f8 z TI TO (rawInt g7.objs.size) := z8
  have up : ∀ c o, c ≠ z → g7.get? c = some o → f8.get? c = some o := fun c o cz e => u8.extBut _ _ cz (u7.extBut _ _ cz (Heap.get?_push_of_some _ e))
  have T8 : TupO f8 g7.objs.size #[x1, x2, x3] := u8.extBut _ _ (Nat.ne_of_gt zlt) (u7.extBut _ _ (Nat.ne_of_gt zlt) (Heap.get?_push_size _ rfl))
  have w8 : f8.objs.size = g7.objs.size + 1 := by rw [u8.1, u7.1, Heap.size_push]
  rw [hsz] at z8 T8 w8
  refine wpAny_pure ⟨_, rfl, ?_⟩
  show Q (.ref g7.objs.size) _
  rw [hsz]
  exact hQ f8 z8 (up _ _ D.TO_z t7) (y1.to fun o e => up _ o D.i1_z e) (y2.to fun o e => up _ o D.i2_z e) (y3.to fun o e => up _ o D.i3_z e) T8 w8 fun c o cz ct c1 c2 c3 e => up c o cz (kk c o cz ct c1 c2 c3 e)
theorem zip3_end {b1 b2 b3 : Bool} {z TI TO i1 i2 i3 l1 l2 l3 : Addr} {k : Nat} {xs1 xs2 xs3 : Array Value} {a1 a2 a3 : Value} {Q : Fin → Shared → Prop} (hh : A.handled = none) (D : ZA3 z TI TO i1 i2 i3 l1 l2 l3)
    (hz : IsZip s.heap z TI TO .none) (hTI : TupO s.heap TI #[.ref i1, .ref i2, .ref i3]) (hTO : TupO s.heap TO #[a1, a2, a3]) (h1 : ItAt b1 s.heap i1 l1 k) (q1 : SqAt b1 s.heap l1 xs1) (h2 : ItAt b2 s.heap i2 l2 k) (q2 : SqAt b2 s.heap l2 xs2) (h3 : ItAt b3 s.heap i3 l3 k) (q3 : SqAt b3 s.heap l3 xs3) (hend : xs1[k]? = none ∨ xs2[k]? = none ∨ xs3[k]? = none)
    (hE : ∀ h' e, (∀ c o, c ≠ z → c ≠ TO → c ≠ i1 → c ≠ i2 → c ≠ i3 → s.heap.get? c = some o → h'.get? c = some o) → (∃ o, h'.get? e = some o ∧ o.cls = .type "StopIteration") → E (.ref e) { s with heap := h' }) :
    wpAny (model prog w) A (Builtin.«zip.__next__» ⟨[.ref z], []⟩) Q E s := by
  show wpAny _ _ (field (.ref z) 2 >>= _) _ _ _
  refine wpAny_bind (wpAny_field hz rfl (x := .bool false) rfl ?_)
  show wpAny _ _ (field (.ref z) 3 >>= _) _ _ _
  refine wpAny_bind (wpAny_field hz rfl (x := .ref TI) rfl ?_)
  refine wpAny_bind (wpAny_seqItems hTI rfl ?_)
  show wpAny _ _ (Builtin.SmallTypes.ownedTupleIsFree (.ref z) >>= _) _ _ _
  refine wpAny_bind ?_
  unfold Builtin.SmallTypes.ownedTupleIsFree
  refine wpAny_bind (wpAny_field hz rfl (x := .none) rfl (wpAny_pure ?_))
  simp only [if_true]
  refine wpAny_bind (wpAny_rule ?_)
  refine wpAny_bind (wpAny_field hz rfl (x := .ref TO) rfl ?_)
  refine wpAny_bind (wpAny_setField_rec hz (by simp) fun g1 hz1 s1 => ?_)
  replace hz1 : IsZip g1 z TI TO .ellipsis := hz1
  refine wpAny_bind ?_
  simp only [List.zipIdx_cons, List.zipIdx_nil, List.forIn_cons, List.forIn_nil]
  refine wpAny_bind (wpAny_bind (wpAny_onRaise ?_))
  show wpAny _ _ (Builtin.SmallTypes.nextOf (.ref i1) >>= _) _ _ _
  cases e1 : xs1[k]? with
  | none =>
    refine wpAny_bind (next_end hh (h1.to (fun o e => (s1.extBut _ _ D.i1_z e))) (q1.to (fun o e => (s1.extBut _ _ D.l1_z e))) e1 fun ge e se he => ?_)
    obtain ⟨oe, hoe, hce⟩ := he
    have ze : IsZip ge z TI TO .ellipsis := (se _ _ D.i1_z.symm hz1)
    have hez : e ≠ z := fun x => by subst x; rw [ze] at hoe; cases hoe; simp at hce
    exact wpAny_setField_rec ze (by simp) fun gf _ sf => hE gf e (fun c o cz ct c1 c2 c3 e => sf.extBut _ _ cz (se _ _ c1 (s1.extBut _ _ cz e))) ⟨oe, sf.extBut _ _ hez hoe, hce⟩
  | some x1 =>
    refine wpAny_bind (next_item (h1.to (fun o e => (s1.extBut _ _ D.i1_z e))) (q1.to (fun o e => (s1.extBut _ _ D.l1_z e))) e1 fun g2 hn1 s2 => wpAny_pure ?_)
    have t2 : TupO g2 TO #[a1, a2, a3] := (s2.extBut _ _ D.TO_i1 (s1.extBut _ _ D.TO_z hTO))
    refine wpAny_bind (wpAny_seqItems t2 rfl ?_)
    refine wpAny_bind (upd_arr t2 (fun g3 t3 s3 => ?_) (by simp))
    replace t3 : TupO g3 TO #[x1, a2, a3] := t3
    refine wpAny_bind (wpAny_letGo (wpAny_pure ?_))
    refine wpAny_bind (wpAny_bind (wpAny_onRaise ?_))
    show wpAny _ _ (Builtin.SmallTypes.nextOf (.ref i2) >>= _) _ _ _
    cases e2 : xs2[k]? with
    | none =>
      refine wpAny_bind (next_end hh (h2.to (fun o e => (s3.extBut _ _ D.TO_i2.symm (s2.extBut _ _ D.i1_i2.symm (s1.extBut _ _ D.i2_z e))))) (q2.to (fun o e => (s3.extBut _ _ D.l2_TO (s2.extBut _ _ D.l2_i1 (s1.extBut _ _ D.l2_z e))))) e2 fun ge e se he => ?_)
      obtain ⟨oe, hoe, hce⟩ := he
      have ze : IsZip ge z TI TO .ellipsis := (se _ _ D.i2_z.symm (s3.extBut _ _ D.TO_z.symm (s2.extBut _ _ D.i1_z.symm hz1)))
      have hez : e ≠ z := fun x => by subst x; rw [ze] at hoe; cases hoe; simp at hce
      exact wpAny_setField_rec ze (by simp) fun gf _ sf => hE gf e (fun c o cz ct c1 c2 c3 e => sf.extBut _ _ cz (se _ _ c2 (s3.extBut _ _ ct (s2.extBut _ _ c1 (s1.extBut _ _ cz e))))) ⟨oe, sf.extBut _ _ hez hoe, hce⟩
    | some x2 =>
      refine wpAny_bind (next_item (h2.to (fun o e => (s3.extBut _ _ D.TO_i2.symm (s2.extBut _ _ D.i1_i2.symm (s1.extBut _ _ D.i2_z e))))) (q2.to (fun o e => (s3.extBut _ _ D.l2_TO (s2.extBut _ _ D.l2_i1 (s1.extBut _ _ D.l2_z e))))) e2 fun g4 hn2 s4 => wpAny_pure ?_)
      have t4 : TupO g4 TO #[x1, a2, a3] := (s4.extBut _ _ D.TO_i2 t3)
      refine wpAny_bind (wpAny_seqItems t4 rfl ?_)
      refine wpAny_bind (upd_arr t4 (fun g5 t5 s5 => ?_) (by simp))
      replace t5 : TupO g5 TO #[x1, x2, a3] := t5
      refine wpAny_bind (wpAny_letGo (wpAny_pure ?_))
      refine wpAny_bind (wpAny_bind (wpAny_onRaise ?_))
      show wpAny _ _ (Builtin.SmallTypes.nextOf (.ref i3) >>= _) _ _ _
      cases e3 : xs3[k]? with
      | none =>
        refine wpAny_bind (next_end hh (h3.to (fun o e => (s5.extBut _ _ D.TO_i3.symm (s4.extBut _ _ D.i2_i3.symm (s3.extBut _ _ D.TO_i3.symm (s2.extBut _ _ D.i1_i3.symm (s1.extBut _ _ D.i3_z e))))))) (q3.to (fun o e => (s5.extBut _ _ D.l3_TO (s4.extBut _ _ D.l3_i2 (s3.extBut _ _ D.l3_TO (s2.extBut _ _ D.l3_i1 (s1.extBut _ _ D.l3_z e))))))) e3 fun ge e se he => ?_)
        obtain ⟨oe, hoe, hce⟩ := he
        have ze : IsZip ge z TI TO .ellipsis := (se _ _ D.i3_z.symm (s5.extBut _ _ D.TO_z.symm (s4.extBut _ _ D.i2_z.symm (s3.extBut _ _ D.TO_z.symm (s2.extBut _ _ D.i1_z.symm hz1)))))
        have hez : e ≠ z := fun x => by subst x; rw [ze] at hoe; cases hoe; simp at hce
        exact wpAny_setField_rec ze (by simp) fun gf _ sf => hE gf e (fun c o cz ct c1 c2 c3 e => sf.extBut _ _ cz (se _ _ c3 (s5.extBut _ _ ct (s4.extBut _ _ c2 (s3.extBut _ _ ct (s2.extBut _ _ c1 (s1.extBut _ _ cz e))))))) ⟨oe, sf.extBut _ _ hez hoe, hce⟩
      | some x3 =>
        exfalso
        rcases hend with q | q | q
        · rw [e1] at q; cases q
        · rw [e2] at q; cases q
        · rw [e3] at q; cases q
theorem pyNext3_item {b1 b2 b3 : Bool} {z TI TO i1 i2 i3 l1 l2 l3 : Addr} {k : Nat} {xs1 xs2 xs3 : Array Value} {x1 x2 x3 a1 a2 a3 : Value} {Q : Option Value → Shared → Prop} (D : ZA3 z TI TO i1 i2 i3 l1 l2 l3)
    (hz : IsZip s.heap z TI TO .none) (hTI : TupO s.heap TI #[.ref i1, .ref i2, .ref i3]) (hTO : TupO s.heap TO #[a1, a2, a3]) (h1 : ItAt b1 s.heap i1 l1 k) (q1 : SqAt b1 s.heap l1 xs1) (h2 : ItAt b2 s.heap i2 l2 k) (q2 : SqAt b2 s.heap l2 xs2) (h3 : ItAt b3 s.heap i3 l3 k) (q3 : SqAt b3 s.heap l3 xs3) (e1 : xs1[k]? = some x1) (e2 : xs2[k]? = some x2) (e3 : xs3[k]? = some x3)
    (hQ : ∀ h', IsZip h' z TI TO (rawInt s.heap.objs.size) → TupO h' TO #[x1, x2, x3] → ItAt b1 h' i1 l1 (k + 1) → ItAt b2 h' i2 l2 (k + 1) → ItAt b3 h' i3 l3 (k + 1) → TupO h' s.heap.objs.size #[x1, x2, x3] → h'.objs.size = s.heap.objs.size + 1 →
      (∀ c o, c ≠ z → c ≠ TO → c ≠ i1 → c ≠ i2 → c ≠ i3 → s.heap.get? c = some o → h'.get? c = some o) → Q (some (.ref s.heap.objs.size)) { s with heap := h' }) :
    wpAny (model prog w) A (pyNext (.ref z)) Q E s := by
  have hT : s.TypeIs (.ref z) "zip" := ⟨_, hz, rfl⟩
  unfold pyNext
  exact wpAny_bind (wpAny_attempt (wpAny_callSpecial?_slot (name := Str.ofString "__next__") hT F.slot_zip_next
    (wpAny_call_entry F.slot_zip_next hT F.entry_zip_next (zip3_item D hz hTI hTO h1 q1 h2 q2 h3 q3 e1 e2 e3 fun h' p0 p1 p2 p3 p4 p5 p6 p7 => wpAny_pure (hQ h' p0 p1 p2 p3 p4 p5 p6 p7)) (F.args_zip_next_1 _))))
theorem pyNext3_end {b1 b2 b3 : Bool} {z TI TO i1 i2 i3 l1 l2 l3 : Addr} {k : Nat} {xs1 xs2 xs3 : Array Value} {a1 a2 a3 : Value} {Q : Option Value → Shared → Prop} (hh : A.handled = none) (D : ZA3 z TI TO i1 i2 i3 l1 l2 l3)
    (hz : IsZip s.heap z TI TO .none) (hTI : TupO s.heap TI #[.ref i1, .ref i2, .ref i3]) (hTO : TupO s.heap TO #[a1, a2, a3]) (h1 : ItAt b1 s.heap i1 l1 k) (q1 : SqAt b1 s.heap l1 xs1) (h2 : ItAt b2 s.heap i2 l2 k) (q2 : SqAt b2 s.heap l2 xs2) (h3 : ItAt b3 s.heap i3 l3 k) (q3 : SqAt b3 s.heap l3 xs3) (hend : xs1[k]? = none ∨ xs2[k]? = none ∨ xs3[k]? = none)
    (hQ : ∀ h', (∀ c o, c ≠ z → c ≠ TO → c ≠ i1 → c ≠ i2 → c ≠ i3 → s.heap.get? c = some o → h'.get? c = some o) → Q none { s with heap := h' }) : wpAny (model prog w) A (pyNext (.ref z)) Q E s := by
  have hT : s.TypeIs (.ref z) "zip" := ⟨_, hz, rfl⟩
  unfold pyNext
  refine wpAny_bind (wpAny_attempt (wpAny_callSpecial?_slot (name := Str.ofString "__next__") hT F.slot_zip_next
    (wpAny_call_entry F.slot_zip_next hT F.entry_zip_next (zip3_end hh D hz hTI hTO h1 q1 h2 q2 h3 q3 hend fun h' e hk he => ?_) (F.args_zip_next_1 _))))
  obtain ⟨o, ho, hc⟩ := he
  refine wpAny_bind (wpAny_isInstance (T := "StopIteration") (b := true) ⟨o, ho, hc⟩ isSubtype_stop ?_)
  exact wpAny_pure (hQ _ hk)
end


def SqB (K : PySem.W.Frag) (b : Bool) (H : Hp) (a : Addr) (xs : List V) : Prop := match b with
  | true => SqL K H a xs
  | false => SqT K H a xs
section
variable {X : Cx} {pins : List (Addr × Obj)} {σ : L2.St} {H : Hp} {s : Shared}
theorem sqb_at {b : Bool} {a : Addr} {xs : List V} (I : Inv X pins σ H s) (h : SqB X.K b H a xs) : ∃ its : List Value, Vals xs its ∧ SqAt b s.heap a its.toArray := by
  cases b with
  | true =>
    obtain ⟨its, rv, p, _⟩ := I.list h
    exact ⟨its, rv, p.isList⟩
  | false =>
    obtain ⟨its, rv, p, _⟩ := I.tuple h
    exact ⟨its, rv, p⟩
theorem sqb_inj {b : Bool} {a : Addr} {xs ys : List V} (I : Inv X pins σ H s) (h : SqB X.K b H a xs) (h' : SqB X.K b H a ys) : xs = ys := by
  cases b with
  | true => exact I.list_inj h h'
  | false => exact I.tuple_inj h h'
theorem SqAt.lt {b : Bool} {h : Heap} {l : Addr} {xs : Array Value} (x : SqAt b h l xs) : l < h.objs.size := by
  cases b with
  | true =>
    obtain ⟨o, e, r⟩ := x
    exact Heap.lt_size e
  | false =>
    obtain ⟨o, e, r⟩ := x
    exact Heap.lt_size e
theorem SqAt.push {b : Bool} {h : Heap} {l : Addr} {xs : Array Value} (x : SqAt b h l xs) (o : Obj) : SqAt b (h.push o) l xs := x.to fun u e => Heap.get?_push_of_some _ e
end
abbrev z2H1 (h : Heap) (b1 b2 : Bool) (l1 l2 : Addr) : Heap := h.push (itO b1 l1)
abbrev z2H2 (h : Heap) (b1 b2 : Bool) (l1 l2 : Addr) : Heap := (z2H1 h b1 b2 l1 l2).push (itO b2 l2)
abbrev z2H3 (h : Heap) (b1 b2 : Bool) (l1 l2 : Addr) : Heap := (z2H2 h b1 b2 l1 l2).push { cls := .type "tuple", data := .seq #[.ref h.objs.size, .ref (z2H1 h b1 b2 l1 l2).objs.size] }
abbrev z2H4 (h : Heap) (b1 b2 : Bool) (l1 l2 : Addr) : Heap := (z2H3 h b1 b2 l1 l2).push { cls := .type "tuple", data := .seq #[.none, .none] }
abbrev z2H5 (h : Heap) (b1 b2 : Bool) (l1 l2 : Addr) : Heap := (z2H4 h b1 b2 l1 l2).push { cls := .type "zip", data := .fields #[.none, .bool false, .bool false, .ref (z2H2 h b1 b2 l1 l2).objs.size, .ref (z2H3 h b1 b2 l1 l2).objs.size] }
theorem meets_zip2_new (b1 b2 : Bool) (l1 l2 : Addr) (xs1 xs2 : Array Value) :
    Meets (Builtin.«zip.__new__» ⟨[.type "zip", .ref l1, .ref l2], []⟩) (fun _ R s => SqAt b1 s.heap l1 xs1 ∧ SqAt b2 s.heap l2 xs2 ∧
      R (.ok (.ret (.ref (z2H4 s.heap b1 b2 l1 l2).objs.size))) { s with heap := (z2H5 s.heap b1 b2 l1 l2) }) :=
  .of_wp fun prog w A R s h => by
    obtain ⟨hp, g, d, tk, os⟩ := s; obtain ⟨hl1, hl2, h⟩ := h
    have hsub := sub_zip
    have hL1 : SqAt b1 (Shared.heap ⟨hp, g, d, tk, os⟩) l1 xs1 := hl1
    have hL2 : SqAt b2 (Shared.heap ⟨(hp.push (itO b1 l1)), g, d, tk, os⟩) l2 xs2 := (hl2.push _)
    wp_walk using iter_any hL1, iter_any hL2
    exact ⟨_, rfl, h⟩
section
variable {prog : Program} {w : World} {A : Around} {E : Value → Shared → Prop} {s : Shared}
theorem call_zip2M {b1 b2 : Bool} {l1 l2 : Addr} {xs1 xs2 : Array Value} {Q : Value → Shared → Prop} (hl1 : SqAt b1 s.heap l1 xs1) (hl2 : SqAt b2 s.heap l2 xs2)
    (h : ∀ h', IsZip h' (s.heap.objs.size + 4) (s.heap.objs.size + 2) (s.heap.objs.size + 3) .none → TupO h' (s.heap.objs.size + 2) #[.ref s.heap.objs.size, .ref (s.heap.objs.size + 1)] → TupO h' (s.heap.objs.size + 3) #[.none, .none] → ItAt b1 h' s.heap.objs.size l1 0 → ItAt b2 h' (s.heap.objs.size + 1) l2 0 → (∀ c o, s.heap.get? c = some o → h'.get? c = some o) → Q (.ref (s.heap.objs.size + 4)) { s with heap := h' }) :
    wpAny (model prog w) A (call (.type "zip") [.ref l1, .ref l2]) Q E s := by
  refine callType_new F.called_zip (by decide) (F.typeCall_zip_2 _ _) (F.newCall_zip_2 _ _) (fun obj => F.args_object_init_3 obj _ _) F.entry_zip_new
    (meets_zip2_new b1 b2 l1 l2 xs1 xs2) ⟨hl1, hl2, ?_⟩
  have z1 : (z2H1 s.heap b1 b2 l1 l2).objs.size = s.heap.objs.size + 1 := Heap.size_push ..
  have z2 : (z2H2 s.heap b1 b2 l1 l2).objs.size = s.heap.objs.size + 2 := by rw [Heap.size_push, z1]
  have z3 : (z2H3 s.heap b1 b2 l1 l2).objs.size = s.heap.objs.size + 3 := by rw [Heap.size_push, z2]
  have z4 : (z2H4 s.heap b1 b2 l1 l2).objs.size = s.heap.objs.size + 4 := by rw [Heap.size_push, z3]
  have z5 : (z2H5 s.heap b1 b2 l1 l2).objs.size = s.heap.objs.size + 5 := by rw [Heap.size_push, z4]
  have g5 : (z2H5 s.heap b1 b2 l1 l2).get? (z2H4 s.heap b1 b2 l1 l2).objs.size = some _ := (Heap.get?_push_size _ rfl)
  have g4 : (z2H5 s.heap b1 b2 l1 l2).get? (z2H3 s.heap b1 b2 l1 l2).objs.size = some _ := (Heap.get?_push_of_some _ (Heap.get?_push_size _ rfl))
  have g3 : (z2H5 s.heap b1 b2 l1 l2).get? (z2H2 s.heap b1 b2 l1 l2).objs.size = some _ := (Heap.get?_push_of_some _ (Heap.get?_push_of_some _ (Heap.get?_push_size _ rfl)))
  have g2 : (z2H5 s.heap b1 b2 l1 l2).get? (z2H1 s.heap b1 b2 l1 l2).objs.size = some _ := (Heap.get?_push_of_some _ (Heap.get?_push_of_some _ (Heap.get?_push_of_some _ (Heap.get?_push_size _ rfl))))
  have g1 : (z2H5 s.heap b1 b2 l1 l2).get? s.heap.objs.size = some _ := (Heap.get?_push_of_some _ (Heap.get?_push_of_some _ (Heap.get?_push_of_some _ (Heap.get?_push_of_some _ (Heap.get?_push_size _ rfl)))))
  show _ ∧ _
  rw [z2, z3, z4] at g5
  rw [z1, z2] at g3
  rw [z3] at g4
  rw [z1] at g2
  rw [z4]
  exact ⟨⟨_, g5, rfl⟩, h _ g5 g3 g4 (.new g1) (.new g2) fun c o x => (Heap.get?_push_of_some _ (Heap.get?_push_of_some _ (Heap.get?_push_of_some _ (Heap.get?_push_of_some _ (Heap.get?_push_of_some _ x)))))⟩
end
def ItzM2 (K : PySem.W.Frag) (b1 b2 : Bool) (l1 l2 : Addr) : It :=
  ⟨fun i H => ∃ (xs1 xs2 : List V) (x1 x2 : V), SqB K b1 H l1 xs1 ∧ SqB K b2 H l2 xs2 ∧ xs1[i]? = some x1 ∧ xs2[i]? = some x2,
    fun i H v H' => ∃ T x1 x2, v = .ref T ∧ H T = none ∧ H' = upd H T (.tup [x1, x2]) ∧ (∀ xs, SqB K b1 H l1 xs → xs[i]? = some x1) ∧ (∀ xs, SqB K b2 H l2 xs → xs[i]? = some x2),
    fun i H => ∃ xs1 xs2 : List V, SqB K b1 H l1 xs1 ∧ SqB K b2 H l2 xs2 ∧ (xs1.length ≤ i ∨ xs2.length ≤ i)⟩
theorem turn_zip2M {P : Program} {w : World} {K : PySem.W.Frag} {elts : List Expr} {kk : Nat} {tpos : Pos} {b1 b2 : Bool} {l1 l2 z TI TO i1 i2 : Addr} (D : ZA2 z TI TO i1 i2 l1 l2) :
    Turn P w K (.Tuple elts kk tpos) (ItzM2 K b1 b2 l1 l2) [z, TI, TO, i1, i2] z (fun i h => IsZip h z TI TO .none ∧ TupO h TI #[.ref i1, .ref i2] ∧ (∃ y1 y2, TupO h TO #[y1, y2]) ∧ ItAt b1 h i1 l1 i ∧ ItAt b2 h i2 l2 i) where
  mem := by simp
  obj := fun i h st c hc => by
    obtain ⟨hz, hTI, ⟨y1, y2, hTO⟩, h1, h2⟩ := st
    have e' : c = z ∨ c = TI ∨ c = TO ∨ c = i1 ∨ c = i2 := by simpa using hc
    rcases e' with q | q | q | q | q
    · rw [q]; exact ⟨_, hz, fun v q => nomatch q⟩
    · rw [q]; exact ⟨_, hTI, fun v q => nomatch q⟩
    · rw [q]; exact ⟨_, hTO, fun v q => nomatch q⟩
    · rw [q]; exact h1.ob
    · rw [q]; exact h2.ob
  keep := fun i h h' st k => by
    obtain ⟨hz, hTI, ⟨y1, y2, hTO⟩, h1, h2⟩ := st
    exact ⟨k z (by simp) _ hz, k TI (by simp) _ hTI, ⟨y1, y2, k TO (by simp) _ hTO⟩, h1.to fun o q => k i1 (by simp) o q, h2.to fun o q => k i2 (by simp) o q⟩
  item := by
    intro X hP hw hK hc i pins s σ H E I hf st hg
    subst hP hw hK
    obtain ⟨hz, hTI, ⟨y1, y2, hTO⟩, h1, h2⟩ := st
    obtain ⟨xs1, xs2, x1, x2, hq1, hq2, hx1, hx2⟩ := hg
    obtain ⟨its1, rv1, p1⟩ := sqb_at I hq1
    obtain ⟨u1, hu1, ru1⟩ := rv1.get hx1
    obtain ⟨its2, rv2, p2⟩ := sqb_at I hq2
    obtain ⟨u2, hu2, ru2⟩ := rv2.get hx2
    have hzl : z < s.heap.objs.size := Heap.lt_size hz
    refine pyNext2_item D hz hTI hTO h1 p1 h2 p2 (x1 := u1) (x2 := u2) (by simpa using hu1) (by simpa using hu2) fun h' z' TO' h1' h2' hT hsz hk => ?_
    refine ⟨_, rfl, wpAny_letOwnedTupleGo_zip (s := { s with heap := h' }) z' fun h'' z'' sb => ?_⟩
    have hT2 : h''.get? s.heap.objs.size = some { cls := .type "tuple", data := .seq #[u1, u2] } := (sb.2 _ (Nat.ne_of_gt hzl)).trans hT
    have new : ObjOk X.prog X.w (upd H s.heap.objs.size (.tup [x1, x2])) h'' s.heap.objs.size (.tup [x1, x2]) :=
      ⟨by show 2 ≤ sizeLine; decide, [u1, u2], .cons ru1 (.cons ru2 (.nil)), ⟨_, hT2, rfl, _, rfl⟩⟩
    have I1 : Inv X pins σ (upd H s.heap.objs.size (.tup [x1, x2])) { s with heap := h'' } :=
      I.turnedNew (t' := s.toks) (ch := [z, TI, TO, i1, i2]) (fun c o hb q => (sb.2 c (fun q' => hb (by simp [q']))).trans (hk c o (fun q' => hb (by simp [q'])) (fun q' => hb (by simp [q'])) (fun q' => hb (by simp [q'])) (fun q' => hb (by simp [q'])) q)) hf (Nat.le_refl _) new
    refine ⟨.ref s.heap.objs.size, _, I1, rfl, ⟨_, x1, x2, rfl, I.hok.fresh (Nat.le_refl _), rfl, fun l hl => by rw [sqb_inj I hl hq1]; exact hx1, fun l hl => by rw [sqb_inj I hl hq2]; exact hx2⟩, ⟨z'', ?_, ⟨u1, u2, ?_⟩, ?_, ?_⟩, fun c hcm => ?_⟩
    · exact (sb.2 _ D.TI_z).trans (hk _ _ D.TI_z D.TI_TO D.TI_i1 D.TI_i2 hTI)
    · exact (sb.2 _ D.TO_z).trans TO'
    · exact h1'.to fun o q => (sb.2 _ D.i1_z).trans q
    · exact h2'.to fun o q => (sb.2 _ D.i2_z).trans q
    · have hlt : c < s.heap.objs.size := by
        have e' : c = z ∨ c = TI ∨ c = TO ∨ c = i1 ∨ c = i2 := by simpa using hcm
        rcases e' with q | q | q | q | q
        · rw [q]; exact hzl
        · rw [q]; exact Heap.lt_size hTI
        · rw [q]; exact Heap.lt_size hTO
        · rw [q]; obtain ⟨_, e1, _⟩ := h1.ob; exact Heap.lt_size e1
        · rw [q]; obtain ⟨_, e1, _⟩ := h2.ob; exact Heap.lt_size e1
      rw [upd_ne (Nat.ne_of_lt hlt)]
      exact (hf c hcm).1
  done := by
    intro X hP hw hK hc i pins s σ H E I hf st hg
    subst hP hw hK
    obtain ⟨hz, hTI, ⟨y1, y2, hTO⟩, h1, h2⟩ := st
    obtain ⟨xs1, xs2, hq1, hq2, hend⟩ := hg
    obtain ⟨its1, rv1, p1⟩ := sqb_at I hq1
    have e1 := rv1.length
    obtain ⟨its2, rv2, p2⟩ := sqb_at I hq2
    have e2 := rv2.length
    have he : its1.toArray[i]? = none ∨ its2.toArray[i]? = none := by
      rcases hend with q | q
      · exact .inl (by simp; omega)
      · exact .inr ((by simp; omega))
    exact pyNext2_end (I.ok.hd hc) D hz hTI hTO h1 p1 h2 p2 he fun h' hk => ⟨rfl, I.turnedL (t' := s.toks) (ch := [z, TI, TO, i1, i2]) (fun c o hb q => hk c o (fun q' => hb (by simp [q'])) (fun q' => hb (by simp [q'])) (fun q' => hb (by simp [q'])) (fun q' => hb (by simp [q'])) q) hf⟩
  self := fun A i s Q E st h => wpAny_pyIter_zip st.1 h
def iZip2 (K : PySem.W.Frag) (ta : TA) : TI := fun σ H R => ta σ H fun vs H1 => ∃ (b1 b2 : Bool) (l1 l2 : Addr) (xs1 xs2 : List V), vs = [.ref l1, .ref l2] ∧ SqB K b1 H1 l1 xs1 ∧ SqB K b2 H1 l2 xs2 ∧ R (ItzM2 K b1 b2 l1 l2) H1
theorem pi_zip2M (K : PySem.W.Frag) {X : Cx} (hK : X.K = K) {e1 e2 : Expr} {ta : TA} {p pos tpos : Pos} {elts : List Expr} {kk : Nat} (hg : Gl X "zip") (hm : X.mg "zip" = none) (ha : PA X [e1, e2] ta)
    (hs : starEach [e1, e2] X.env = (false, eval e1 X.env) :: starEach [e2] X.env := by rfl) (hpl : (backTo pos (starEach [e2] X.env)).any (·.1) = false := by rfl) :
    PI X (.Tuple elts kk tpos) (.Call (.Name "zip" p) [e1, e2] [] pos) (iZip2 K ta) := by
  subst hK
  refine ⟨fun pins s σ H R I h => ?_⟩
  refine Call_ (ld_blt I hg hm PyProof.Rows.boot_zip (PyProof.Rows.callWith_type1 (thn (ha.run pos pins s σ H _ I h) fun us s1 ⟨vs, H1, I1, r1, q1⟩ => ?_) hs hpl))
  obtain ⟨b1, b2, l1, l2, xs1, xs2, ex, hq1, hq2, q1⟩ := q1
  subst ex
  have er : us = [.ref l1, .ref l2] := by
    cases r1 with | cons r1a r1 => 
      cases r1 with | cons r2a r1 => 
        cases r1
        cases r1a
        cases r2a
        rfl
  subst er
  obtain ⟨its1, rv1, p1⟩ := sqb_at I1 hq1
  obtain ⟨its2, rv2, p2⟩ := sqb_at I1 hq2
  have fresh : ∀ c, c ∈ [s1.heap.objs.size + 4, s1.heap.objs.size + 2, s1.heap.objs.size + 3, s1.heap.objs.size, s1.heap.objs.size + 1] → FpOk X pins H1 c := fun c hcm => by
    have e' : c = s1.heap.objs.size + 4 ∨ c = s1.heap.objs.size + 2 ∨ c = s1.heap.objs.size + 3 ∨ c = s1.heap.objs.size ∨ c = s1.heap.objs.size + 1 := by simpa using hcm
    have hle : s1.heap.objs.size ≤ c := by
      rcases e' with z | z | z | z | z <;> omega
    exact I1.fpOk hle (I1.hok.fresh hle)
  refine call_zip2M p1 p2 fun h' hz hTI hTO h1 h2 hk => wpAny_pyIter_zip hz ?_
  have I2 : Inv X pins σ H1 { s1 with heap := h' } := I1.kept (t' := s1.toks) hk
  have lt1 := p1.lt
  have lt2 := p2.lt
  have D : ZA2 (s1.heap.objs.size + 4) (s1.heap.objs.size + 2) (s1.heap.objs.size + 3) (s1.heap.objs.size) (s1.heap.objs.size + 1) l1 l2 := by constructor <;> (intro hq; have hq : @Eq Nat _ _ := hq; have lt1 : @LT.lt Nat _ l1 s1.heap.objs.size := lt1; have lt2 : @LT.lt Nat _ l2 s1.heap.objs.size := lt2; omega)
  exact ⟨s1.heap.objs.size + 4, [s1.heap.objs.size + 4, s1.heap.objs.size + 2, s1.heap.objs.size + 3, s1.heap.objs.size, s1.heap.objs.size + 1], _, _, H1, rfl, I2, turn_zip2M D, ⟨hz, hTI, ⟨_, _, hTO⟩, h1, h2⟩, fresh, q1⟩
def zipD2 (xs1 xs2 : List D) : List D := List.zipWith (fun x y => .tup [x, y]) xs1 xs2
/-- a sequence that stands still -/
def still : D → Option (List D)
  | .lst xs => some xs
  | .tup xs => some xs
  | _ => none
theorem still_at {K : PySem.W.Frag} {F ρ : List Addr} {H : Hp} {v : V} {d : D} {xs : List D} (h : Dt K F ρ H v d) (e : still d = some xs) : ∃ b a vs, v = .ref a ∧ SqB K b H a vs ∧ DtAll K F ρ H vs xs ∧ ∀ H', (∀ x o, H x = some o → x ∉ F ++ ρ → H' x = some o) → SqB K b H' a vs := by
  cases h with
  | lst na ea qa =>
    cases e
    exact ⟨true, _, _, rfl, SqL.of ea, qa, fun H' k => SqL.of (k _ _ ea na)⟩
  | tup na ea qa =>
    cases e
    exact ⟨false, _, _, rfl, SqT.of ea, qa, fun H' k => SqT.of (k _ _ ea na)⟩
  | _ => cases e
def dZip2 (T : DA) : DA := fun η μ => (T η μ).bind fun ds μ1 => match ds with
  | [d1, d2] => okO (still d1) fun xs1 => okO (still d2) fun xs2 => .ok (zipD2 xs1 xs2) μ1
  | _ => .bad
theorem zipD2_len {xs1 xs2 : List D} : (zipD2 xs1 xs2).length = min xs1.length xs2.length := by simp [zipD2]
theorem zipD2_get {xs1 xs2 : List D} {i : Nat} {x1 x2 : D} (h1 : xs1[i]? = some x1) (h2 : xs2[i]? = some x2) : (zipD2 xs1 xs2)[i]? = some (.tup [x1, x2]) := by simp [zipD2, List.getElem?_zipWith, h1, h2]
instance {K : PySem.W.Frag} {E : L2.St → XK} {t : TA} {T : DA} [a : SA K E t T] : SI K E (iZip2 K t) (dZip2 T) := ⟨fun {X F σ H η ρ μ P R} w e h o =>
  a.run w e (wp_bind h) fun vs H1 ρ1 ds μ1 w1 g1 q1 h1 => by
    split at h1
    · rename_i d1 d2
      obtain ⟨ys1, c1, k1⟩ := wp_okO h1
      obtain ⟨ys2, c2, k2⟩ := wp_okO k1
      cases q1 with | cons qd1 q1 =>
        cases q1 with | cons qd2 q1 =>
          cases q1
          obtain ⟨b1, l1, vs1, rfl, s1, a1, st1⟩ := still_at qd1 c1
          obtain ⟨b2, l2, vs2, rfl, s2, a2, st2⟩ := still_at qd2 c2
          refine ⟨b1, b2, l1, l2, vs1, vs2, rfl, s1, s2, o _ H1 ρ1 _ μ1 w1 g1 (walkD_of (n := (zipD2 ys1 ys2).length) (G := fun H => SqB K b1 H l1 vs1 ∧ SqB K b2 H l2 vs2) (Y := fun i H v H' => ∃ T x1 x2, v = .ref T ∧ H T = none ∧ H' = upd H T (.tup [x1, x2]) ∧ vs1[i]? = some x1 ∧ vs2[i]? = some x2) ⟨?_, ?_, ?_⟩ rfl ?_ ?_) k2⟩
          · intro i H hi q
            rw [zipD2_len] at hi
            have f1 : i < vs1.length := by rw [a1.len]; omega
            have f2 : i < vs2.length := by rw [a2.len]; omega
            exact ⟨vs1, vs2, vs1[i], vs2[i], q.1, q.2, by simp [f1], by simp [f2]⟩
          · intro H q
            rw [zipD2_len]
            exact ⟨vs1, vs2, q.1, q.2, by rw [a1.len, a2.len]; omega⟩
          · intro i H v H' _ q y
            obtain ⟨T, x1, x2, e1, e2, e3, k1, k2⟩ := y
            exact ⟨T, x1, x2, e1, e2, e3, k1 _ q.1, k2 _ q.2⟩
          · exact fun H k => ⟨st1 H k, st2 H k⟩
          · intro F' ρ μ H hf g w i v H' hi y
            obtain ⟨T, x1, x2, rfl, hT, rfl, k1, k2⟩ := y
            obtain ⟨dx1, ex1, qx1⟩ := (a1.off hf g).get k1
            obtain ⟨dx2, ex2, qx2⟩ := (a2.off hf g).get k2
            have gT : Grow ρ ρ H (upd H T (.tup [x1, x2])) := Grow.fresh hT
            exact ⟨w.lay hT, gT, _, zipD2_get ex1 ex2, .tup (w.fresh2 hT) upd_same (.cons (qx1.mono gT) (.cons (qx2.mono gT) (.nil)))⟩
    · exact h1.elim⟩
theorem typeCall_zip_3 (a b c : Value) : checkTypeCall "zip" ⟨[a, b, c], []⟩ = pure () := by kernel_rfl
theorem newCall_zip_3 (a b c : Value) : checkBuiltinCall "zip.__new__" ⟨[.type "zip", a, b, c], []⟩ = pure () := by kernel_rfl
theorem args_object_init_4 (a b c d : Value) : argsOk "object.__init__" ⟨[a, b, c, d], []⟩ := by
  unfold argsOk; kernel_rfl
abbrev z3H1 (h : Heap) (b1 b2 b3 : Bool) (l1 l2 l3 : Addr) : Heap := h.push (itO b1 l1)
abbrev z3H2 (h : Heap) (b1 b2 b3 : Bool) (l1 l2 l3 : Addr) : Heap := (z3H1 h b1 b2 b3 l1 l2 l3).push (itO b2 l2)
abbrev z3H3 (h : Heap) (b1 b2 b3 : Bool) (l1 l2 l3 : Addr) : Heap := (z3H2 h b1 b2 b3 l1 l2 l3).push (itO b3 l3)
abbrev z3H4 (h : Heap) (b1 b2 b3 : Bool) (l1 l2 l3 : Addr) : Heap := (z3H3 h b1 b2 b3 l1 l2 l3).push { cls := .type "tuple", data := .seq #[.ref h.objs.size, .ref (z3H1 h b1 b2 b3 l1 l2 l3).objs.size, .ref (z3H2 h b1 b2 b3 l1 l2 l3).objs.size] }
abbrev z3H5 (h : Heap) (b1 b2 b3 : Bool) (l1 l2 l3 : Addr) : Heap := (z3H4 h b1 b2 b3 l1 l2 l3).push { cls := .type "tuple", data := .seq #[.none, .none, .none] }
abbrev z3H6 (h : Heap) (b1 b2 b3 : Bool) (l1 l2 l3 : Addr) : Heap := (z3H5 h b1 b2 b3 l1 l2 l3).push { cls := .type "zip", data := .fields #[.none, .bool false, .bool false, .ref (z3H3 h b1 b2 b3 l1 l2 l3).objs.size, .ref (z3H4 h b1 b2 b3 l1 l2 l3).objs.size] }
theorem meets_zip3_new (b1 b2 b3 : Bool) (l1 l2 l3 : Addr) (xs1 xs2 xs3 : Array Value) :
    Meets (Builtin.«zip.__new__» ⟨[.type "zip", .ref l1, .ref l2, .ref l3], []⟩) (fun _ R s => SqAt b1 s.heap l1 xs1 ∧ SqAt b2 s.heap l2 xs2 ∧ SqAt b3 s.heap l3 xs3 ∧
      R (.ok (.ret (.ref (z3H5 s.heap b1 b2 b3 l1 l2 l3).objs.size))) { s with heap := (z3H6 s.heap b1 b2 b3 l1 l2 l3) }) :=
  .of_wp fun prog w A R s h => by
    obtain ⟨hp, g, d, tk, os⟩ := s; obtain ⟨hl1, hl2, hl3, h⟩ := h
    have hsub := sub_zip
    have hL1 : SqAt b1 (Shared.heap ⟨hp, g, d, tk, os⟩) l1 xs1 := hl1
    have hL2 : SqAt b2 (Shared.heap ⟨(hp.push (itO b1 l1)), g, d, tk, os⟩) l2 xs2 := (hl2.push _)
    have hL3 : SqAt b3 (Shared.heap ⟨((hp.push (itO b1 l1)).push (itO b2 l2)), g, d, tk, os⟩) l3 xs3 := ((hl3.push _).push _)
    wp_walk using iter_any hL1, iter_any hL2, iter_any hL3
    exact ⟨_, rfl, h⟩
section
variable {prog : Program} {w : World} {A : Around} {E : Value → Shared → Prop} {s : Shared}
theorem call_zip3M {b1 b2 b3 : Bool} {l1 l2 l3 : Addr} {xs1 xs2 xs3 : Array Value} {Q : Value → Shared → Prop} (hl1 : SqAt b1 s.heap l1 xs1) (hl2 : SqAt b2 s.heap l2 xs2) (hl3 : SqAt b3 s.heap l3 xs3)
    (h : ∀ h', IsZip h' (s.heap.objs.size + 5) (s.heap.objs.size + 3) (s.heap.objs.size + 4) .none → TupO h' (s.heap.objs.size + 3) #[.ref s.heap.objs.size, .ref (s.heap.objs.size + 1), .ref (s.heap.objs.size + 2)] → TupO h' (s.heap.objs.size + 4) #[.none, .none, .none] → ItAt b1 h' s.heap.objs.size l1 0 → ItAt b2 h' (s.heap.objs.size + 1) l2 0 → ItAt b3 h' (s.heap.objs.size + 2) l3 0 → (∀ c o, s.heap.get? c = some o → h'.get? c = some o) → Q (.ref (s.heap.objs.size + 5)) { s with heap := h' }) :
    wpAny (model prog w) A (call (.type "zip") [.ref l1, .ref l2, .ref l3]) Q E s := by
  refine callType_new F.called_zip (by decide) (typeCall_zip_3 _ _ _) (newCall_zip_3 _ _ _) (fun obj => args_object_init_4 obj _ _ _) F.entry_zip_new
    (meets_zip3_new b1 b2 b3 l1 l2 l3 xs1 xs2 xs3) ⟨hl1, hl2, hl3, ?_⟩
  have z1 : (z3H1 s.heap b1 b2 b3 l1 l2 l3).objs.size = s.heap.objs.size + 1 := Heap.size_push ..
  have z2 : (z3H2 s.heap b1 b2 b3 l1 l2 l3).objs.size = s.heap.objs.size + 2 := by rw [Heap.size_push, z1]
  have z3 : (z3H3 s.heap b1 b2 b3 l1 l2 l3).objs.size = s.heap.objs.size + 3 := by rw [Heap.size_push, z2]
  have z4 : (z3H4 s.heap b1 b2 b3 l1 l2 l3).objs.size = s.heap.objs.size + 4 := by rw [Heap.size_push, z3]
  have z5 : (z3H5 s.heap b1 b2 b3 l1 l2 l3).objs.size = s.heap.objs.size + 5 := by rw [Heap.size_push, z4]
  have z6 : (z3H6 s.heap b1 b2 b3 l1 l2 l3).objs.size = s.heap.objs.size + 6 := by rw [Heap.size_push, z5]
  have g6 : (z3H6 s.heap b1 b2 b3 l1 l2 l3).get? (z3H5 s.heap b1 b2 b3 l1 l2 l3).objs.size = some _ := (Heap.get?_push_size _ rfl)
  have g5 : (z3H6 s.heap b1 b2 b3 l1 l2 l3).get? (z3H4 s.heap b1 b2 b3 l1 l2 l3).objs.size = some _ := (Heap.get?_push_of_some _ (Heap.get?_push_size _ rfl))
  have g4 : (z3H6 s.heap b1 b2 b3 l1 l2 l3).get? (z3H3 s.heap b1 b2 b3 l1 l2 l3).objs.size = some _ := (Heap.get?_push_of_some _ (Heap.get?_push_of_some _ (Heap.get?_push_size _ rfl)))
  have g3 : (z3H6 s.heap b1 b2 b3 l1 l2 l3).get? (z3H2 s.heap b1 b2 b3 l1 l2 l3).objs.size = some _ := (Heap.get?_push_of_some _ (Heap.get?_push_of_some _ (Heap.get?_push_of_some _ (Heap.get?_push_size _ rfl))))
  have g2 : (z3H6 s.heap b1 b2 b3 l1 l2 l3).get? (z3H1 s.heap b1 b2 b3 l1 l2 l3).objs.size = some _ := (Heap.get?_push_of_some _ (Heap.get?_push_of_some _ (Heap.get?_push_of_some _ (Heap.get?_push_of_some _ (Heap.get?_push_size _ rfl)))))
  have g1 : (z3H6 s.heap b1 b2 b3 l1 l2 l3).get? s.heap.objs.size = some _ := (Heap.get?_push_of_some _ (Heap.get?_push_of_some _ (Heap.get?_push_of_some _ (Heap.get?_push_of_some _ (Heap.get?_push_of_some _ (Heap.get?_push_size _ rfl))))))
  show _ ∧ _
  rw [z3, z4, z5] at g6
  rw [z1, z2, z3] at g4
  rw [z4] at g5
  rw [z1] at g2
  rw [z2] at g3
  rw [z5]
  exact ⟨⟨_, g6, rfl⟩, h _ g6 g4 g5 (.new g1) (.new g2) (.new g3) fun c o x => (Heap.get?_push_of_some _ (Heap.get?_push_of_some _ (Heap.get?_push_of_some _ (Heap.get?_push_of_some _ (Heap.get?_push_of_some _ (Heap.get?_push_of_some _ x))))))⟩
end
def ItzM3 (K : PySem.W.Frag) (b1 b2 b3 : Bool) (l1 l2 l3 : Addr) : It :=
  ⟨fun i H => ∃ (xs1 xs2 xs3 : List V) (x1 x2 x3 : V), SqB K b1 H l1 xs1 ∧ SqB K b2 H l2 xs2 ∧ SqB K b3 H l3 xs3 ∧ xs1[i]? = some x1 ∧ xs2[i]? = some x2 ∧ xs3[i]? = some x3,
    fun i H v H' => ∃ T x1 x2 x3, v = .ref T ∧ H T = none ∧ H' = upd H T (.tup [x1, x2, x3]) ∧ (∀ xs, SqB K b1 H l1 xs → xs[i]? = some x1) ∧ (∀ xs, SqB K b2 H l2 xs → xs[i]? = some x2) ∧ (∀ xs, SqB K b3 H l3 xs → xs[i]? = some x3),
    fun i H => ∃ xs1 xs2 xs3 : List V, SqB K b1 H l1 xs1 ∧ SqB K b2 H l2 xs2 ∧ SqB K b3 H l3 xs3 ∧ (xs1.length ≤ i ∨ xs2.length ≤ i ∨ xs3.length ≤ i)⟩
theorem turn_zip3M {P : Program} {w : World} {K : PySem.W.Frag} {elts : List Expr} {kk : Nat} {tpos : Pos} {b1 b2 b3 : Bool} {l1 l2 l3 z TI TO i1 i2 i3 : Addr} (D : ZA3 z TI TO i1 i2 i3 l1 l2 l3) :
    Turn P w K (.Tuple elts kk tpos) (ItzM3 K b1 b2 b3 l1 l2 l3) [z, TI, TO, i1, i2, i3] z (fun i h => IsZip h z TI TO .none ∧ TupO h TI #[.ref i1, .ref i2, .ref i3] ∧ (∃ y1 y2 y3, TupO h TO #[y1, y2, y3]) ∧ ItAt b1 h i1 l1 i ∧ ItAt b2 h i2 l2 i ∧ ItAt b3 h i3 l3 i) where
  mem := by simp
  obj := fun i h st c hc => by
    obtain ⟨hz, hTI, ⟨y1, y2, y3, hTO⟩, h1, h2, h3⟩ := st
    have e' : c = z ∨ c = TI ∨ c = TO ∨ c = i1 ∨ c = i2 ∨ c = i3 := by simpa using hc
    rcases e' with q | q | q | q | q | q
    · rw [q]; exact ⟨_, hz, fun v q => nomatch q⟩
    · rw [q]; exact ⟨_, hTI, fun v q => nomatch q⟩
    · rw [q]; exact ⟨_, hTO, fun v q => nomatch q⟩
    · rw [q]; exact h1.ob
    · rw [q]; exact h2.ob
    · rw [q]; exact h3.ob
  keep := fun i h h' st k => by
    obtain ⟨hz, hTI, ⟨y1, y2, y3, hTO⟩, h1, h2, h3⟩ := st
    exact ⟨k z (by simp) _ hz, k TI (by simp) _ hTI, ⟨y1, y2, y3, k TO (by simp) _ hTO⟩, h1.to fun o q => k i1 (by simp) o q, h2.to fun o q => k i2 (by simp) o q, h3.to fun o q => k i3 (by simp) o q⟩
  item := by
    intro X hP hw hK hc i pins s σ H E I hf st hg
    subst hP hw hK
    obtain ⟨hz, hTI, ⟨y1, y2, y3, hTO⟩, h1, h2, h3⟩ := st
    obtain ⟨xs1, xs2, xs3, x1, x2, x3, hq1, hq2, hq3, hx1, hx2, hx3⟩ := hg
    obtain ⟨its1, rv1, p1⟩ := sqb_at I hq1
    obtain ⟨u1, hu1, ru1⟩ := rv1.get hx1
    obtain ⟨its2, rv2, p2⟩ := sqb_at I hq2
    obtain ⟨u2, hu2, ru2⟩ := rv2.get hx2
    obtain ⟨its3, rv3, p3⟩ := sqb_at I hq3
    obtain ⟨u3, hu3, ru3⟩ := rv3.get hx3
    have hzl : z < s.heap.objs.size := Heap.lt_size hz
    refine pyNext3_item D hz hTI hTO h1 p1 h2 p2 h3 p3 (x1 := u1) (x2 := u2) (x3 := u3) (by simpa using hu1) (by simpa using hu2) (by simpa using hu3) fun h' z' TO' h1' h2' h3' hT hsz hk => ?_
    refine ⟨_, rfl, wpAny_letOwnedTupleGo_zip (s := { s with heap := h' }) z' fun h'' z'' sb => ?_⟩
    have hT2 : h''.get? s.heap.objs.size = some { cls := .type "tuple", data := .seq #[u1, u2, u3] } := (sb.2 _ (Nat.ne_of_gt hzl)).trans hT
    have new : ObjOk X.prog X.w (upd H s.heap.objs.size (.tup [x1, x2, x3])) h'' s.heap.objs.size (.tup [x1, x2, x3]) :=
      ⟨by show 3 ≤ sizeLine; decide, [u1, u2, u3], .cons ru1 (.cons ru2 (.cons ru3 (.nil))), ⟨_, hT2, rfl, _, rfl⟩⟩
    have I1 : Inv X pins σ (upd H s.heap.objs.size (.tup [x1, x2, x3])) { s with heap := h'' } :=
      I.turnedNew (t' := s.toks) (ch := [z, TI, TO, i1, i2, i3]) (fun c o hb q => (sb.2 c (fun q' => hb (by simp [q']))).trans (hk c o (fun q' => hb (by simp [q'])) (fun q' => hb (by simp [q'])) (fun q' => hb (by simp [q'])) (fun q' => hb (by simp [q'])) (fun q' => hb (by simp [q'])) q)) hf (Nat.le_refl _) new
    refine ⟨.ref s.heap.objs.size, _, I1, rfl, ⟨_, x1, x2, x3, rfl, I.hok.fresh (Nat.le_refl _), rfl, fun l hl => by rw [sqb_inj I hl hq1]; exact hx1, fun l hl => by rw [sqb_inj I hl hq2]; exact hx2, fun l hl => by rw [sqb_inj I hl hq3]; exact hx3⟩, ⟨z'', ?_, ⟨u1, u2, u3, ?_⟩, ?_, ?_, ?_⟩, fun c hcm => ?_⟩
    · exact (sb.2 _ D.TI_z).trans (hk _ _ D.TI_z D.TI_TO D.TI_i1 D.TI_i2 D.TI_i3 hTI)
    · exact (sb.2 _ D.TO_z).trans TO'
    · exact h1'.to fun o q => (sb.2 _ D.i1_z).trans q
    · exact h2'.to fun o q => (sb.2 _ D.i2_z).trans q
    · exact h3'.to fun o q => (sb.2 _ D.i3_z).trans q
    · have hlt : c < s.heap.objs.size := by
        have e' : c = z ∨ c = TI ∨ c = TO ∨ c = i1 ∨ c = i2 ∨ c = i3 := by simpa using hcm
        rcases e' with q | q | q | q | q | q
        · rw [q]; exact hzl
        · rw [q]; exact Heap.lt_size hTI
        · rw [q]; exact Heap.lt_size hTO
        · rw [q]; obtain ⟨_, e1, _⟩ := h1.ob; exact Heap.lt_size e1
        · rw [q]; obtain ⟨_, e1, _⟩ := h2.ob; exact Heap.lt_size e1
        · rw [q]; obtain ⟨_, e1, _⟩ := h3.ob; exact Heap.lt_size e1
      rw [upd_ne (Nat.ne_of_lt hlt)]
      exact (hf c hcm).1
  done := by
    intro X hP hw hK hc i pins s σ H E I hf st hg
    subst hP hw hK
    obtain ⟨hz, hTI, ⟨y1, y2, y3, hTO⟩, h1, h2, h3⟩ := st
    obtain ⟨xs1, xs2, xs3, hq1, hq2, hq3, hend⟩ := hg
    obtain ⟨its1, rv1, p1⟩ := sqb_at I hq1
    have e1 := rv1.length
    obtain ⟨its2, rv2, p2⟩ := sqb_at I hq2
    have e2 := rv2.length
    obtain ⟨its3, rv3, p3⟩ := sqb_at I hq3
    have e3 := rv3.length
    have he : its1.toArray[i]? = none ∨ its2.toArray[i]? = none ∨ its3.toArray[i]? = none := by
      rcases hend with q | q | q
      · exact .inl (by simp; omega)
      · exact .inr (.inl (by simp; omega))
      · exact .inr (.inr ((by simp; omega)))
    exact pyNext3_end (I.ok.hd hc) D hz hTI hTO h1 p1 h2 p2 h3 p3 he fun h' hk => ⟨rfl, I.turnedL (t' := s.toks) (ch := [z, TI, TO, i1, i2, i3]) (fun c o hb q => hk c o (fun q' => hb (by simp [q'])) (fun q' => hb (by simp [q'])) (fun q' => hb (by simp [q'])) (fun q' => hb (by simp [q'])) (fun q' => hb (by simp [q'])) q) hf⟩
  self := fun A i s Q E st h => wpAny_pyIter_zip st.1 h
def iZip3 (K : PySem.W.Frag) (ta : TA) : TI := fun σ H R => ta σ H fun vs H1 => ∃ (b1 b2 b3 : Bool) (l1 l2 l3 : Addr) (xs1 xs2 xs3 : List V), vs = [.ref l1, .ref l2, .ref l3] ∧ SqB K b1 H1 l1 xs1 ∧ SqB K b2 H1 l2 xs2 ∧ SqB K b3 H1 l3 xs3 ∧ R (ItzM3 K b1 b2 b3 l1 l2 l3) H1
theorem pi_zip3M (K : PySem.W.Frag) {X : Cx} (hK : X.K = K) {e1 e2 e3 : Expr} {ta : TA} {p pos tpos : Pos} {elts : List Expr} {kk : Nat} (hg : Gl X "zip") (hm : X.mg "zip" = none) (ha : PA X [e1, e2, e3] ta)
    (hs : starEach [e1, e2, e3] X.env = (false, eval e1 X.env) :: starEach [e2, e3] X.env := by rfl) (hpl : (backTo pos (starEach [e2, e3] X.env)).any (·.1) = false := by rfl) :
    PI X (.Tuple elts kk tpos) (.Call (.Name "zip" p) [e1, e2, e3] [] pos) (iZip3 K ta) := by
  subst hK
  refine ⟨fun pins s σ H R I h => ?_⟩
  refine Call_ (ld_blt I hg hm PyProof.Rows.boot_zip (PyProof.Rows.callWith_type1 (thn (ha.run pos pins s σ H _ I h) fun us s1 ⟨vs, H1, I1, r1, q1⟩ => ?_) hs hpl))
  obtain ⟨b1, b2, b3, l1, l2, l3, xs1, xs2, xs3, ex, hq1, hq2, hq3, q1⟩ := q1
  subst ex
  have er : us = [.ref l1, .ref l2, .ref l3] := by
    cases r1 with | cons r1a r1 => 
      cases r1 with | cons r2a r1 => 
        cases r1 with | cons r3a r1 => 
          cases r1
          cases r1a
          cases r2a
          cases r3a
          rfl
  subst er
  obtain ⟨its1, rv1, p1⟩ := sqb_at I1 hq1
  obtain ⟨its2, rv2, p2⟩ := sqb_at I1 hq2
  obtain ⟨its3, rv3, p3⟩ := sqb_at I1 hq3
  have fresh : ∀ c, c ∈ [s1.heap.objs.size + 5, s1.heap.objs.size + 3, s1.heap.objs.size + 4, s1.heap.objs.size, s1.heap.objs.size + 1, s1.heap.objs.size + 2] → FpOk X pins H1 c := fun c hcm => by
    have e' : c = s1.heap.objs.size + 5 ∨ c = s1.heap.objs.size + 3 ∨ c = s1.heap.objs.size + 4 ∨ c = s1.heap.objs.size ∨ c = s1.heap.objs.size + 1 ∨ c = s1.heap.objs.size + 2 := by simpa using hcm
    have hle : s1.heap.objs.size ≤ c := by
      rcases e' with z | z | z | z | z | z <;> omega
    exact I1.fpOk hle (I1.hok.fresh hle)
  refine call_zip3M p1 p2 p3 fun h' hz hTI hTO h1 h2 h3 hk => wpAny_pyIter_zip hz ?_
  have I2 : Inv X pins σ H1 { s1 with heap := h' } := I1.kept (t' := s1.toks) hk
  have lt1 := p1.lt
  have lt2 := p2.lt
  have lt3 := p3.lt
  have D : ZA3 (s1.heap.objs.size + 5) (s1.heap.objs.size + 3) (s1.heap.objs.size + 4) (s1.heap.objs.size) (s1.heap.objs.size + 1) (s1.heap.objs.size + 2) l1 l2 l3 := by constructor <;> (intro hq; have hq : @Eq Nat _ _ := hq; have lt1 : @LT.lt Nat _ l1 s1.heap.objs.size := lt1; have lt2 : @LT.lt Nat _ l2 s1.heap.objs.size := lt2; have lt3 : @LT.lt Nat _ l3 s1.heap.objs.size := lt3; omega)
  exact ⟨s1.heap.objs.size + 5, [s1.heap.objs.size + 5, s1.heap.objs.size + 3, s1.heap.objs.size + 4, s1.heap.objs.size, s1.heap.objs.size + 1, s1.heap.objs.size + 2], _, _, H1, rfl, I2, turn_zip3M D, ⟨hz, hTI, ⟨_, _, _, hTO⟩, h1, h2, h3⟩, fresh, q1⟩
def zipD3 (xs1 xs2 xs3 : List D) : List D := List.zipWith (fun (x : D) (p : D × D) => .tup [x, p.1, p.2]) xs1 (List.zipWith Prod.mk xs2 xs3)

def dZip3 (T : DA) : DA := fun η μ => (T η μ).bind fun ds μ1 => match ds with
  | [d1, d2, d3] => okO (still d1) fun xs1 => okO (still d2) fun xs2 => okO (still d3) fun xs3 => .ok (zipD3 xs1 xs2 xs3) μ1
  | _ => .bad
theorem zipD3_len {xs1 xs2 xs3 : List D} : (zipD3 xs1 xs2 xs3).length = min xs1.length (min xs2.length xs3.length) := by simp [zipD3]
theorem zipD3_get {xs1 xs2 xs3 : List D} {i : Nat} {x1 x2 x3 : D} (h1 : xs1[i]? = some x1) (h2 : xs2[i]? = some x2) (h3 : xs3[i]? = some x3) : (zipD3 xs1 xs2 xs3)[i]? = some (.tup [x1, x2, x3]) := by simp [zipD3, List.getElem?_zipWith, h1, h2, h3]
instance {K : PySem.W.Frag} {E : L2.St → XK} {t : TA} {T : DA} [a : SA K E t T] : SI K E (iZip3 K t) (dZip3 T) := ⟨fun {X F σ H η ρ μ P R} w e h o =>
  a.run w e (wp_bind h) fun vs H1 ρ1 ds μ1 w1 g1 q1 h1 => by
    split at h1
    · rename_i d1 d2 d3
      obtain ⟨ys1, c1, k1⟩ := wp_okO h1
      obtain ⟨ys2, c2, k2⟩ := wp_okO k1
      obtain ⟨ys3, c3, k3⟩ := wp_okO k2
      cases q1 with | cons qd1 q1 =>
        cases q1 with | cons qd2 q1 =>
          cases q1 with | cons qd3 q1 =>
            cases q1
            obtain ⟨b1, l1, vs1, rfl, s1, a1, st1⟩ := still_at qd1 c1
            obtain ⟨b2, l2, vs2, rfl, s2, a2, st2⟩ := still_at qd2 c2
            obtain ⟨b3, l3, vs3, rfl, s3, a3, st3⟩ := still_at qd3 c3
            refine ⟨b1, b2, b3, l1, l2, l3, vs1, vs2, vs3, rfl, s1, s2, s3, o _ H1 ρ1 _ μ1 w1 g1 (walkD_of (n := (zipD3 ys1 ys2 ys3).length) (G := fun H => SqB K b1 H l1 vs1 ∧ SqB K b2 H l2 vs2 ∧ SqB K b3 H l3 vs3) (Y := fun i H v H' => ∃ T x1 x2 x3, v = .ref T ∧ H T = none ∧ H' = upd H T (.tup [x1, x2, x3]) ∧ vs1[i]? = some x1 ∧ vs2[i]? = some x2 ∧ vs3[i]? = some x3) ⟨?_, ?_, ?_⟩ rfl ?_ ?_) k3⟩
            · intro i H hi q
              rw [zipD3_len] at hi
              have f1 : i < vs1.length := by rw [a1.len]; omega
              have f2 : i < vs2.length := by rw [a2.len]; omega
              have f3 : i < vs3.length := by rw [a3.len]; omega
              exact ⟨vs1, vs2, vs3, vs1[i], vs2[i], vs3[i], q.1, q.2.1, q.2.2, by simp [f1], by simp [f2], by simp [f3]⟩
            · intro H q
              rw [zipD3_len]
              exact ⟨vs1, vs2, vs3, q.1, q.2.1, q.2.2, by rw [a1.len, a2.len, a3.len]; omega⟩
            · intro i H v H' _ q y
              obtain ⟨T, x1, x2, x3, e1, e2, e3, k1, k2, k3⟩ := y
              exact ⟨T, x1, x2, x3, e1, e2, e3, k1 _ q.1, k2 _ q.2.1, k3 _ q.2.2⟩
            · exact fun H k => ⟨st1 H k, st2 H k, st3 H k⟩
            · intro F' ρ μ H hf g w i v H' hi y
              obtain ⟨T, x1, x2, x3, rfl, hT, rfl, k1, k2, k3⟩ := y
              obtain ⟨dx1, ex1, qx1⟩ := (a1.off hf g).get k1
              obtain ⟨dx2, ex2, qx2⟩ := (a2.off hf g).get k2
              obtain ⟨dx3, ex3, qx3⟩ := (a3.off hf g).get k3
              have gT : Grow ρ ρ H (upd H T (.tup [x1, x2, x3])) := Grow.fresh hT
              exact ⟨w.lay hT, gT, _, zipD3_get ex1 ex2 ex3, .tup (w.fresh2 hT) upd_same (.cons (qx1.mono gT) (.cons (qx2.mono gT) (.cons (qx3.mono gT) (.nil))))⟩
    · exact h1.elim⟩
end DX

namespace DX
open PySem PySem.Spec PyProof.Rows L2
/-! ### comprehensions, the names' slots written out -/
section
variable {X : Cx} {wi : TI} {g : TG} {tt : TT} {te : TE} {vs vs' : List Nat} {e : Expr} {s : Stmt} {i : Nat}
theorem lc_vs (vs' : List Nat) (p : PE X e (tLc wi g tt te vs)) (h : vs = vs' := by rfl) : PE X e (tLc wi g tt te vs') := h ▸ p
theorem slc_vs (vs' : List Nat) (p : PS X s (tAsg (tLc wi g tt te vs) (gName i))) (h : vs = vs' := by rfl) : PS X s (tAsg (tLc wi g tt te vs') (gName i)) := h ▸ p
end
end DX

namespace DX
open PySem PySem.Spec PyProof.Rows L2
noncomputable section
/-! ### enumerate of a list or a tuple -/
theorem meets_enum_new (b : Bool) (l : Addr) (items : Array Value) :
    Meets (Builtin.«enumerate.__new__» ⟨[.type "enumerate", .ref l], []⟩) (fun _ R s => SqAt b s.heap l items ∧
      R (.ok (.ret (.ref (s.heap.push (itO b l)).objs.size)))
        { s with heap := (s.heap.push (itO b l)).push { cls := .type "enumerate", data := .fields #[.none, .bool false, .ref s.heap.objs.size, rawInt 0, .none, .none] } }) :=
  .of_wp fun prog w A R s h => by
    obtain ⟨hp, g, d, tk, os⟩ := s; obtain ⟨hl, h⟩ := h
    have hsub := sub_enumerate
    have hL : SqAt b (Shared.heap ⟨hp, g, d, tk, os⟩) l items := hl
    wp_walk
    refine wpAny_stack_any fun st => wpAny_pure ?_
    split
    · rename_i c _ _ _ _ _
      cases (c == Value.type "enumerate")
      · wp_walk using iter_any hL
        exact ⟨_, rfl, h⟩
      · wp_walk using iter_any hL
        exact ⟨_, rfl, h⟩
    · wp_walk using iter_any hL
      exact ⟨_, rfl, h⟩
section
variable {prog : Program} {w : World} {A : Around} {E : Value → Shared → Prop} {s : Shared}
theorem enum_item {b : Bool} {e it l : Addr} {i : Nat} {items : Array Value} {x old : Value} {Q : Value → Shared → Prop}
    (he : IsEnum s.heap e it i old) (hit : ItAt b s.heap it l i) (hl : SqAt b s.heap l items) (hx : items[i]? = some x) (hne : e ≠ it)
    (hQ : ∀ h', IsEnumOut h' e it ((i : Int) + 1) x s.heap.objs.size → ItAt b h' it l (i + 1) →
      h'.get? s.heap.objs.size = some { cls := .type "tuple", data := .seq #[.int i s.toks, x] } → h'.objs.size = s.heap.objs.size + 1 →
      (∀ b o, b ≠ e → b ≠ it → s.heap.get? b = some o → h'.get? b = some o) → Q (.ref s.heap.objs.size) { s with heap := h', toks := s.toks + 1 }) :
    wpAny (model prog w) A (Builtin.«enumerate.__next__» ⟨[.ref e], []⟩) (fun fin s' => ∃ v, fin = .done (.ret v) ∧ Q v s') E s := by
  obtain ⟨hp, g, d, tk, os⟩ := s
  show wpAny _ _ (field (.ref e) 2 >>= _) _ _ _
  refine wpAny_bind (wpAny_field he rfl (x := .ref it) rfl ?_)
  refine wpAny_bind (next_item hit hl hx fun h₁ hit₁ hs₁ => ?_)
  replace hs₁ : Heap.SameBut it hp h₁ := hs₁
  have he₁ : IsEnum h₁ e it i old := (hs₁.2 e hne).trans he
  show wpAny _ _ (field (.ref e) 3 >>= _) _ _ ⟨h₁, g, d, tk, os⟩
  refine wpAny_bind (wpAny_field he₁ rfl (x := rawInt i) rfl ?_)
  show wpAny _ _ (field (.ref e) 4 >>= _) _ _ ⟨h₁, g, d, tk, os⟩
  refine wpAny_bind (wpAny_field he₁ rfl (x := .none) rfl ?_)
  show wpAny _ _ (mkInt i >>= _) _ _ ⟨h₁, g, d, tk, os⟩
  refine wpAny_bind (wpAny_mkInt ?_)
  show wpAny _ _ (setField (.ref e) 3 (rawInt ((i : Int) + 1)) >>= _) _ _ ⟨h₁, g, d, tk + 1, os⟩
  refine wpAny_bind (wpAny_setField_rec he₁ (by simp) fun h₂ he₂ hs₂ => ?_)
  replace hs₂ : Heap.SameBut e h₁ h₂ := hs₂
  replace he₂ : IsEnum h₂ e it ((i : Int) + 1) old := he₂
  show wpAny _ _ (setField (.ref e) 4 .none >>= _) _ _ ⟨h₂, g, d, tk + 1, os⟩
  refine wpAny_bind (wpAny_setField_rec he₂ (by simp) fun h₃ he₃ hs₃ => ?_)
  replace hs₃ : Heap.SameBut e h₂ h₃ := hs₃
  replace he₃ : IsEnum h₃ e it ((i : Int) + 1) old := he₃
  show wpAny _ _ (newTuple [.int i tk, x] >>= _) _ _ ⟨h₃, g, d, tk + 1, os⟩
  refine wpAny_bind (wpAny_newTuple ?_)
  have he₄ : IsEnum (h₃.push { cls := .type "tuple", data := .seq #[.int i tk, x] }) e it ((i : Int) + 1) old := Heap.get?_push_of_some _ he₃
  generalize hh₄ : h₃.push { cls := .type "tuple", data := .seq #[.int i tk, x] } = h₄ at he₄
  have hsz : h₃.objs.size = hp.objs.size := by rw [hs₃.1, hs₂.1, hs₁.1]
  have hel : e < hp.objs.size := Heap.lt_size he
  have ht₄ : h₄.get? hp.objs.size = some { cls := .type "tuple", data := .seq #[.int i tk, x] } := by rw [← hh₄, ← hsz]; exact Heap.get?_push_size _ rfl
  have hz₄ : h₄.objs.size = hp.objs.size + 1 := by rw [← hh₄, Heap.size_push, hsz]
  have hk₄ : ∀ b o, b ≠ e → b ≠ it → hp.get? b = some o → h₄.get? b = some o := fun b o hbe hbi hb => by
    rw [← hh₄]; exact Heap.get?_push_of_some _ (hs₃.extBut b o hbe (hs₂.extBut b o hbe (hs₁.extBut b o hbi hb)))
  have hit₄ : ItAt b h₄ it l (i + 1) := by
    rw [← hh₄]; exact hit₁.to fun o q => Heap.get?_push_of_some _ (hs₃.extBut _ _ (Ne.symm hne) (hs₂.extBut _ _ (Ne.symm hne) q))
  show wpAny _ _ (Builtin.SmallTypes.ownedTupleIsFree (.ref e) >>= _) _ _ ⟨h₄, g, d, tk + 1, os⟩
  rw [hsz]
  clear hh₄ he₃ hs₃ he₂ hs₂ he₁ hs₁ hit₁ hsz h₃ h₂ h₁
  refine wpAny_bind ?_
  · unfold Builtin.SmallTypes.ownedTupleIsFree
    refine wpAny_bind (wpAny_field he₄ rfl (x := .none) rfl (wpAny_pure ?_))
    simp only [if_true]
    refine wpAny_bind (wpAny_rule ?_)
    refine wpAny_bind (wpAny_field he₄ rfl (x := old) rfl ?_)
    refine wpAny_bind (wpAny_setField_rec he₄ (by simp) fun h₅ he₅ hs₅ => ?_)
    replace hs₅ : Heap.SameBut e h₄ h₅ := hs₅
    replace he₅ : IsEnum h₅ e it ((i : Int) + 1) x := he₅
    show wpAny _ _ (Builtin.SmallTypes.ownedTupleHandOut (.ref e) (.ref hp.objs.size) >>= _) _ _ ⟨h₅, g, d, tk + 1, os⟩
    refine wpAny_bind ?_
    · unfold Builtin.SmallTypes.ownedTupleHandOut
      refine wpAny_bind (wpAny_setField_rec he₅ (by simp) fun h₆ he₆ hs₆ => ?_)
      replace hs₆ : Heap.SameBut e h₅ h₆ := hs₆
      replace he₆ : IsEnumOut h₆ e it ((i : Int) + 1) x hp.objs.size := he₆
      refine wpAny_setField_rec he₆ (by simp) fun h₇ he₇ hs₇ => ?_
      replace hs₇ : Heap.SameBut e h₆ h₇ := hs₇
      replace he₇ : IsEnumOut h₇ e it ((i : Int) + 1) x hp.objs.size := he₇
      refine wpAny_bind (wpAny_letGo (wpAny_pure ⟨_, rfl, hQ h₇ he₇ ?_ ?_ ?_ ?_⟩))
      · exact hit₄.to fun o q => hs₇.extBut _ _ (Ne.symm hne) (hs₆.extBut _ _ (Ne.symm hne) (hs₅.extBut _ _ (Ne.symm hne) q))
      · exact hs₇.extBut _ _ (Nat.ne_of_gt hel) (hs₆.extBut _ _ (Nat.ne_of_gt hel) (hs₅.extBut _ _ (Nat.ne_of_gt hel) ht₄))
      · rw [hs₇.1, hs₆.1, hs₅.1, hz₄]
      · exact fun b o hbe hbi hb => hs₇.extBut b o hbe (hs₆.extBut b o hbe (hs₅.extBut b o hbe (hk₄ b o hbe hbi hb)))
theorem pyNext_enumM_item {b : Bool} {e it l : Addr} {i : Nat} {items : Array Value} {x old : Value} {Q : Option Value → Shared → Prop}
    (he : IsEnum s.heap e it i old) (hit : ItAt b s.heap it l i) (hl : SqAt b s.heap l items) (hx : items[i]? = some x) (hne : e ≠ it)
    (hQ : ∀ h', IsEnumOut h' e it ((i : Int) + 1) x s.heap.objs.size → ItAt b h' it l (i + 1) →
      h'.get? s.heap.objs.size = some { cls := .type "tuple", data := .seq #[.int i s.toks, x] } → h'.objs.size = s.heap.objs.size + 1 →
      (∀ b o, b ≠ e → b ≠ it → s.heap.get? b = some o → h'.get? b = some o) → Q (some (.ref s.heap.objs.size)) { s with heap := h', toks := s.toks + 1 }) :
    wpAny (model prog w) A (pyNext (.ref e)) Q E s := by
  have hT : s.TypeIs (.ref e) "enumerate" := ⟨_, he, rfl⟩
  unfold pyNext
  exact wpAny_bind (wpAny_attempt (wpAny_callSpecial?_slot (name := Str.ofString "__next__") hT F.slot_enumerate_next
    (wpAny_call_entry F.slot_enumerate_next hT F.entry_enumerate_next
      (enum_item he hit hl hx hne fun h' a b c d k => wpAny_pure (hQ h' a b c d k)) (F.args_enumerate_next_1 _))))
theorem pyNext_enumM_end {b : Bool} {e it l : Addr} {i : Nat} {items : Array Value} {old : Value} {Q : Option Value → Shared → Prop} (hh : A.handled = none)
    (he : IsEnum s.heap e it i old) (hit : ItAt b s.heap it l i) (hl : SqAt b s.heap l items) (hx : items[i]? = none)
    (hQ : ∀ h', Heap.ExtBut it s.heap h' → Q none { s with heap := h' }) : wpAny (model prog w) A (pyNext (.ref e)) Q E s := by
  have hT : s.TypeIs (.ref e) "enumerate" := ⟨_, he, rfl⟩
  unfold pyNext
  refine wpAny_bind (wpAny_attempt (wpAny_callSpecial?_slot (name := Str.ofString "__next__") hT F.slot_enumerate_next
    (wpAny_call_entry F.slot_enumerate_next hT F.entry_enumerate_next ?_ (F.args_enumerate_next_1 _))))
  show wpAny _ _ (field (.ref e) 2 >>= _) _ _ _
  refine wpAny_bind (wpAny_field he rfl (x := .ref it) rfl ?_)
  refine wpAny_bind (next_end hh hit hl hx fun h' x he' hx' => ?_)
  obtain ⟨o, ho, hc⟩ := hx'
  refine wpAny_bind (wpAny_isInstance (T := "StopIteration") (b := true) ⟨o, ho, hc⟩ isSubtype_stop ?_)
  exact wpAny_pure (hQ _ he')
theorem call_enumM {b : Bool} {l : Addr} {items : Array Value} {Q : Value → Shared → Prop} (hL : SqAt b s.heap l items)
    (h : ∀ h', IsEnum h' (s.heap.objs.size + 1) s.heap.objs.size 0 .none → ItAt b h' s.heap.objs.size l 0 → h'.objs.size = s.heap.objs.size + 2 →
      (∀ b o, s.heap.get? b = some o → h'.get? b = some o) → Q (.ref (s.heap.objs.size + 1)) { s with heap := h' }) :
    wpAny (model prog w) A (call (.type "enumerate") [.ref l]) Q E s := by
  refine callType_new F.called_enumerate (by decide) (F.typeCall_enumerate_1 _) (F.newCall_enumerate_1 _) (fun obj => F.args_object_init_2 obj _) F.entry_enumerate_new
    (meets_enum_new b l items) ⟨hL, ?_⟩
  have hz : (s.heap.push (itO b l)).objs.size = s.heap.objs.size + 1 := Heap.size_push ..
  show _ ∧ _
  rw [hz]
  have he : IsEnum ((s.heap.push (itO b l)).push
      { cls := .type "enumerate", data := .fields #[.none, .bool false, .ref s.heap.objs.size, rawInt 0, .none, .none] }) (s.heap.objs.size + 1) s.heap.objs.size 0 .none := by
    have := Heap.get?_push_size (s.heap.push (itO b l))
      (o := { cls := .type "enumerate", data := .fields #[.none, .bool false, .ref s.heap.objs.size, rawInt 0, .none, .none] }) rfl
    rw [hz] at this; exact this
  exact ⟨⟨_, he, rfl⟩, h _ he (.new (Heap.get?_push_of_some _ (Heap.get?_push_size _ rfl))) (by rw [Heap.size_push, hz]) fun b o x => Heap.get?_push_of_some _ (Heap.get?_push_of_some _ x)⟩
end
def IteM (K : PySem.W.Frag) (b : Bool) (a : Addr) : It :=
  ⟨fun i H => ∃ (xs : List V) (x : V), SqB K b H a xs ∧ xs[i]? = some x, fun i H v H' => ∃ T x, v = .ref T ∧ H T = none ∧ H' = upd H T (.tup [.int (i : Nat), x]) ∧ ∀ xs, SqB K b H a xs → xs[i]? = some x, fun i H => ∃ xs : List V, SqB K b H a xs ∧ xs.length ≤ i⟩
theorem turn_enumM {P : Program} {w : World} {K : PySem.W.Frag} {b : Bool} {elts : List Expr} {kk : Nat} {tpos : Pos} (a e it : Addr) :
    Turn P w K (.Tuple elts kk tpos) (IteM K b a) [e, it] e (fun i h => (∃ old, IsEnum h e it ((i : Nat) : Int) old) ∧ ItAt b h it a i ∧ e ≠ it) where
  mem := by simp
  obj := fun i h st b hb => by
    obtain ⟨⟨old, he⟩, h1, _⟩ := st
    have e' : b = e ∨ b = it := by simpa using hb
    rcases e' with z | z
    · rw [z]; exact ⟨_, he, fun v q => nomatch q⟩
    · rw [z]; exact h1.ob
  keep := fun i h h' st k => let ⟨⟨old, he⟩, hi, hne⟩ := st; ⟨⟨old, k e (by simp) _ he⟩, hi.to fun o q => k it (by simp) o q, hne⟩
  item := by
    intro X hP hw hK hc i pins s σ H E I hf st hg
    subst hP hw hK
    obtain ⟨⟨old, he⟩, hit, hne⟩ := st
    obtain ⟨xs, x, hq, hx⟩ := hg
    obtain ⟨its, rv, p⟩ := sqb_at I hq
    obtain ⟨u, hu, ru⟩ := rv.get hx
    have hel : e < s.heap.objs.size := Heap.lt_size he
    have hil : it < s.heap.objs.size := by obtain ⟨_, q, _⟩ := hit.ob; exact Heap.lt_size q
    refine pyNext_enumM_item he hit p (x := u) (by simpa using hu) hne fun h' ho hit' hT hsz hk => ?_
    refine ⟨_, rfl, wpAny_letOwnedTupleGo_enum (s := { s with heap := h', toks := s.toks + 1 }) ho fun h'' he' sb => ?_⟩
    have hT2 : h''.get? s.heap.objs.size = some { cls := .type "tuple", data := .seq #[.int i s.toks, u] } := (sb.2 _ (Nat.ne_of_gt hel)).trans hT
    have new : ObjOk X.prog X.w (upd H s.heap.objs.size (.tup [.int (i : Nat), x])) h'' s.heap.objs.size (.tup [.int (i : Nat), x]) :=
      ⟨by show 2 ≤ sizeLine; decide, [.int i s.toks, u], .cons ⟨_, rfl⟩ (.cons ru .nil), ⟨_, hT2, rfl, _, rfl⟩⟩
    have I1 : Inv X pins σ (upd H s.heap.objs.size (.tup [.int (i : Nat), x])) { s with heap := h'', toks := s.toks + 1 } :=
      I.turnedNew (ch := [e, it]) (fun b ob hb q => (sb.2 b (fun z => hb (by simp [z]))).trans (hk b ob (fun z => hb (by simp [z])) (fun z => hb (by simp [z])) q)) hf (Nat.le_refl _) new
    refine ⟨.ref s.heap.objs.size, _, I1, rfl, ⟨_, x, rfl, I.hok.fresh (Nat.le_refl _), rfl, fun ys hy => by rw [sqb_inj I hy hq]; exact hx⟩, ⟨⟨u, ?_⟩, hit'.to fun o q => (sb.2 it (Ne.symm hne)).trans q, hne⟩, fun b hb => ?_⟩
    · have e1 : ((i + 1 : Nat) : Int) = (i : Int) + 1 := by omega
      rw [e1]; exact he'
    · have hb' : b < s.heap.objs.size := by
        have e' : b = e ∨ b = it := by simpa using hb
        rcases e' with z | z
        · rw [z]; exact hel
        · rw [z]; exact hil
      rw [upd_ne (Nat.ne_of_lt hb')]
      exact (hf b hb).1
  done := by
    intro X hP hw hK hc i pins s σ H E I hf st hg
    subst hP hw hK
    obtain ⟨⟨old, he⟩, hit, hne⟩ := st
    obtain ⟨xs, hq, hx⟩ := hg
    obtain ⟨its, rv, p⟩ := sqb_at I hq
    obtain ⟨f0, f1, f2, f3, f4, f5⟩ := hf it (by simp)
    have hl := rv.length
    exact pyNext_enumM_end (I.ok.hd hc) he hit p (by simp; omega) fun h' eb => ⟨rfl, I.turned (t' := s.toks) (fun b o hb q => eb b o hb q) f0 f1 f3 f4 f5⟩
  self := fun A i s Q E st h => let ⟨⟨_, he⟩, _⟩ := st; wpAny_pyIter_enum he h
def iEnumM (K : PySem.W.Frag) (ta : TA) : TI := fun σ H R => ta σ H fun vs H1 => ∃ b a xs, vs = [.ref a] ∧ SqB K b H1 a xs ∧ R (IteM K b a) H1
theorem pi_enumM (K : PySem.W.Frag) {X : Cx} (hK : X.K = K) {e : Expr} {ta : TA} {p pos tpos : Pos} {elts : List Expr} {kk : Nat} (hg : Gl X "enumerate") (hm : X.mg "enumerate" = none) (ha : PA X [e] ta) (hs : starEach [e] X.env = [(false, eval e X.env)] := by rfl) :
    PI X (.Tuple elts kk tpos) (.Call (.Name "enumerate" p) [e] [] pos) (iEnumM K ta) := by
  subst hK
  refine ⟨fun pins s σ H R I h => ?_⟩
  refine Call_ (ld_blt I hg hm boot_enumerate (PyProof.Rows.callWith_type1 (thn (ha.run pos pins s σ H _ I h) fun us s1 ⟨vs, H1, I1, r1, q1⟩ => ?_) hs rfl))
  obtain ⟨b, a, xs, ex, hq, q⟩ := q1
  subst ex
  cases r1 with
  | cons r rr =>
    cases rr
    cases r
    obtain ⟨its, rv, p'⟩ := sqb_at I1 hq
    refine call_enumM p' fun h' he hit hsz hk => wpAny_pyIter_enum he ?_
    have I2 : Inv X pins σ H1 { s1 with heap := h' } := I1.kept (t' := s1.toks) hk
    refine ⟨s1.heap.objs.size + 1, [s1.heap.objs.size + 1, s1.heap.objs.size], _, _, H1, rfl, I2, turn_enumM a (s1.heap.objs.size + 1) s1.heap.objs.size, ⟨⟨.none, he⟩, hit, Nat.succ_ne_self _⟩, fun b hb => ?_, q⟩
    have e' : b = s1.heap.objs.size + 1 ∨ b = s1.heap.objs.size := by simpa using hb
    have hle : s1.heap.objs.size ≤ b := by
      rcases e' with z | z
      · rw [z]; exact Nat.le_add_right _ _
      · rw [z]; exact Nat.le_refl _
    exact I1.fpOk hle (I1.hok.fresh hle)
def enumFrom : Nat → List D → List D
  | _, [] => []
  | n, d :: r => .tup [.int n, d] :: enumFrom (n + 1) r
theorem enumFrom_len : ∀ (n : Nat) (xs : List D), (enumFrom n xs).length = xs.length
  | _, [] => rfl
  | n, d :: r => by simp [enumFrom, enumFrom_len (n + 1) r]
theorem enumFrom_get : ∀ {n i : Nat} {xs : List D} {x : D}, xs[i]? = some x → (enumFrom n xs)[i]? = some (.tup [.int ((n + i : Nat) : Int), x])
  | n, i, [], x, h => by simp at h
  | n, 0, d :: r, x, h => by
    simp only [List.getElem?_cons_zero, Option.some.injEq] at h
    subst h
    simp [enumFrom]
  | n, i + 1, d :: r, x, h => by
    simp only [List.getElem?_cons_succ] at h
    have := enumFrom_get (n := n + 1) h
    simp only [enumFrom, List.getElem?_cons_succ, this]
    congr 5
    omega
def dEnum (T : DA) : DA := fun η μ => (T η μ).bind fun ds μ1 => match ds with
  | [d] => okO (still d) fun xs => .ok (enumFrom 0 xs) μ1
  | _ => .bad
instance {K : PySem.W.Frag} {E : L2.St → XK} {t : TA} {T : DA} [a : SA K E t T] : SI K E (iEnumM K t) (dEnum T) := ⟨fun {X F σ H η ρ μ P R} w e h o =>
  a.run w e (wp_bind h) fun vs H1 ρ1 ds μ1 w1 g1 q1 h1 => by
    split at h1
    · rename_i d1
      obtain ⟨ys1, c1, k1⟩ := wp_okO h1
      cases q1 with | cons qd1 q1 =>
        cases q1
        obtain ⟨b1, l1, vs1, rfl, s1, a1, st1⟩ := still_at qd1 c1
        refine ⟨b1, l1, vs1, rfl, s1, o _ H1 ρ1 _ μ1 w1 g1 (walkD_of (n := (enumFrom 0 ys1).length) (G := fun H => SqB K b1 H l1 vs1) (Y := fun i H v H' => ∃ T x1, v = .ref T ∧ H T = none ∧ H' = upd H T (.tup [.int (i : Nat), x1]) ∧ vs1[i]? = some x1) ⟨?_, ?_, ?_⟩ rfl ?_ ?_) k1⟩
        · intro i H hi q
          rw [enumFrom_len] at hi
          have f1 : i < vs1.length := by rw [a1.len]; omega
          exact ⟨vs1, vs1[i], q, by simp [f1]⟩
        · intro H q
          rw [enumFrom_len]
          exact ⟨vs1, q, by rw [a1.len]; exact Nat.le_refl _⟩
        · intro i H v H' _ q y
          obtain ⟨T, x1, e1, e2, e3, k1⟩ := y
          exact ⟨T, x1, e1, e2, e3, k1 _ q⟩
        · exact fun H k => st1 H k
        · intro F' ρ μ H hf g w i v H' hi y
          obtain ⟨T, x1, rfl, hT, rfl, k1⟩ := y
          obtain ⟨dx1, ex1, qx1⟩ := (a1.off hf g).get k1
          have gT : Grow ρ ρ H (upd H T (.tup [.int (i : Nat), x1])) := Grow.fresh hT
          have hg := enumFrom_get (n := 0) ex1
          rw [Nat.zero_add] at hg
          exact ⟨w.lay hT, gT, _, hg, .tup (w.fresh2 hT) upd_same (.cons (.int _) (.cons (qx1.mono gT) (.nil)))⟩
    · exact h1.elim⟩
end
end DX

namespace DX
open PySem PySem.Spec PyProof.Rows L2
noncomputable section
section
variable {K : PySem.W.Frag}
/-! ### x in a list or a tuple of data -/
def rInU (K : PySem.W.Frag) (f : Bool → Bool) : R2 := fun x y H Q => ∃ d ds, Dp K H x d ∧ (Dp K H y (.list ds) ∨ Dp K H y (.tuple ds)) ∧ d.canLay0 = true ∧ d.depth ≤ 60 ∧ PyData.canLayAll0 ds = true ∧ Q (.bl (f (ds.any fun z => PyData.eqv z d))) H
theorem op_inU {X : Cx} (hu : X.A.units + 64 < cLine) : OpR X (compareOp .In) (rInU X.K id) := by
  intro pins s σ H x y v u Q I rx ry h
  obtain ⟨d, ds, hd, he, sd, sz, se, q⟩ := h
  obtain ⟨as, r1⟩ := Dp.reads I d x v hd rx
  have hr : X.A.units + 1 + min (PyData.depthAll ds) d.depth < cLine := by omega
  rcases he with he | he
  · obtain ⟨bs, r2⟩ := Dp.reads I (.list ds) y u he ry
    exact SeqAt.in_list_reads r2 r1 se sd hr ⟨.bl _, H, I, rfl, q⟩
  · obtain ⟨bs, r2⟩ := Dp.reads I (.tuple ds) y u he ry
    exact SeqAt.in_tuple_reads r2 r1 se sd hr ⟨.bl _, H, I, rfl, q⟩
theorem op_notInU {X : Cx} (hu : X.A.units + 64 < cLine) : OpR X (compareOp .NotIn) (rInU X.K not) := by
  intro pins s σ H x y v u Q I rx ry h
  obtain ⟨d, ds, hd, he, sd, sz, se, q⟩ := h
  obtain ⟨as, r1⟩ := Dp.reads I d x v hd rx
  have hr : X.A.units + 1 + min (PyData.depthAll ds) d.depth < cLine := by omega
  rcases he with he | he
  · obtain ⟨bs, r2⟩ := Dp.reads I (.list ds) y u he ry
    exact SeqAt.notIn_list_reads r2 r1 se sd hr ⟨.bl _, H, I, rfl, q⟩
  · obtain ⟨bs, r2⟩ := Dp.reads I (.tuple ds) y u he ry
    exact SeqAt.notIn_tuple_reads r2 r1 se sd hr ⟨.bl _, H, I, rfl, q⟩
theorem op_inK (K : PySem.W.Frag) {X : Cx} (hK : X.K = K) (hu : X.A.units + 64 < cLine) : OpR X (compareOp .In) (rInU K id) := by subst hK; exact op_inU hu
theorem op_notInK (K : PySem.W.Frag) {X : Cx} (hK : X.K = K) (hu : X.A.units + 64 < cLine) : OpR X (compareOp .NotIn) (rInU K not) := by subst hK; exact op_notInU hu
theorem toPs_any (f : PyData → Bool) : ∀ ds : List D, (toPs ds).any f = ds.any fun d => f (toP d)
  | [] => rfl
  | d :: r => by simp [toPs, toPs_any f r]
def inC (f : Bool → Bool) (x y : D) (μ : Mu) : Res D := match y with
  | .lst ds => grd (plain 60 x = true ∧ plain 60 (.lst ds) = true) (.ok (.bl (f (ds.any fun z => eqP z x))) μ)
  | .tup ds => grd (plain 60 x = true ∧ plain 60 (.tup ds) = true) (.ok (.bl (f (ds.any fun z => eqP z x))) μ)
  | _ => .bad
def inD (x y : D) (μ : Mu) : Res D := inC id (der μ x) (der μ y) μ
def notInD (x y : D) (μ : Mu) : Res D := inC not (der μ x) (der μ y) μ
theorem in_run {f : Bool → Bool} {X : Exn → Mu → Prop} {F : List Addr} {H : Hp} {ρ : List Addr} {μ : Mu} {x y : V} {dx dy : D} {P : D → Mu → Prop} {Q : VK} (w : Wd K F ρ μ H) (hx : Dt K F ρ H x dx) (hy : Dt K F ρ H y dy) (h : wp (inC f (der μ dx) (der μ dy) μ) P X) (o : Out K F ρ H P Q) : rInU K f x y H Q := by
  unfold inC at h
  split at h
  · rename_i ds hds
    obtain ⟨⟨h1, h2⟩, h3⟩ := wp_grd h
    rw [← hds] at h2
    have q := plain_shape 60 _ h1
    have q2 := (plain_shape 60 _ h2).1
    have p2 := der_dp w h2 hy
    rw [hds] at q2 p2
    refine ⟨_, toPs ds, der_dp w h1 hx, .inl p2, q.1, q.2, by simpa [toP, PyData.canLay0] using q2, ?_⟩
    rw [toPs_any]
    exact o.here w (.bl _) h3
  · rename_i ds hds
    obtain ⟨⟨h1, h2⟩, h3⟩ := wp_grd h
    rw [← hds] at h2
    have q := plain_shape 60 _ h1
    have q2 := (plain_shape 60 _ h2).1
    have p2 := der_dp w h2 hy
    rw [hds] at q2 p2
    refine ⟨_, toPs ds, der_dp w h1 hx, .inr p2, q.1, q.2, by simpa [toP, PyData.canLay0] using q2, ?_⟩
    rw [toPs_any]
    exact o.here w (.bl _) h3
  · exact h.elim
instance : SR2 K (rInU K id) inD := ⟨fun w hx hy h o => in_run w hx hy h o⟩
instance : SR2 K (rInU K not) notInD := ⟨fun w hx hy h o => in_run w hx hy h o⟩
/-! ### a text in a text -/
def strIn (i j : Str) : Bool := !(Builtin.Str.occurrences j i 0 j.length 1).isEmpty
def rInS (f : Bool → Bool) : R2 := fun x y H Q => ∃ i j, x = .str i ∧ y = .str j ∧ Q (.bl (f (strIn i j))) H
theorem op_inS {X : Cx} : OpR X (compareOp .In) (rInS id) := op_in_str
theorem op_notInS {X : Cx} : OpR X (compareOp .NotIn) (rInS not) := op_notIn_str
def inSC (f : Bool → Bool) (x y : D) (μ : Mu) : Res D := match x, y with
  | .str i, .str j => .ok (.bl (f (strIn i j))) μ
  | _, _ => .bad
abbrev inSD := inSC id
abbrev notInSD := inSC not
instance {f : Bool → Bool} : SR2 K (rInS f) (inSC f) := ⟨fun {X F H ρ μ x y dx dy P Q} w hx hy h o => by
  unfold inSC at h
  split at h
  · cases hx; cases hy
    exact ⟨_, _, rfl, rfl, o.here w (.bl _) h⟩
  · exact h.elim⟩
theorem strIn_one (c : Nat) (z : Str) : strIn ⟨#[c]⟩ z = decide (c ∈ z.cps.toList) := PySem.StrLaws.found_one z c
/-! ### max, min -/
def maxL : List Int → Int
  | [] => 0
  | [x] => x
  | x :: y :: r => max x (maxL (y :: r))
def minL : List Int → Int
  | [] => 0
  | [x] => x
  | x :: y :: r => min x (minL (y :: r))
theorem maxL_mem : ∀ ns : List Int, ns ≠ [] → maxL ns ∈ ns
  | [], h => absurd rfl h
  | [x], _ => by simp [maxL]
  | x :: y :: r, _ => by
    have := maxL_mem (y :: r) (by simp)
    unfold maxL
    rw [List.mem_cons]
    by_cases c : x ≤ maxL (y :: r)
    · rw [Int.max_eq_right c]; exact .inr this
    · rw [Int.max_eq_left (by omega)]; exact .inl rfl
theorem le_maxL : ∀ (ns : List Int) (y : Int), y ∈ ns → y ≤ maxL ns
  | [], y, h => by cases h
  | [x], y, h => by simp at h; simp [maxL, h]
  | x :: z :: r, y, h => by
    unfold maxL
    rcases List.mem_cons.mp h with rfl | h
    · omega
    · have := le_maxL (z :: r) y h
      omega
theorem minL_mem : ∀ ns : List Int, ns ≠ [] → minL ns ∈ ns
  | [], h => absurd rfl h
  | [x], _ => by simp [minL]
  | x :: y :: r, _ => by
    have := minL_mem (y :: r) (by simp)
    unfold minL
    rw [List.mem_cons]
    by_cases c : x ≤ minL (y :: r)
    · rw [Int.min_eq_left c]; exact .inl rfl
    · rw [Int.min_eq_right (by omega)]; exact .inr this
theorem minL_le : ∀ (ns : List Int) (y : Int), y ∈ ns → minL ns ≤ y
  | [], y, h => by cases h
  | [x], y, h => by simp at h; simp [minL, h]
  | x :: z :: r, y, h => by
    unfold minL
    rcases List.mem_cons.mp h with rfl | h
    · omega
    · have := minL_le (z :: r) y h
      omega
section
variable {prog : Program} {w : World} {A : Around} {E : Value → Shared → Prop} {s : Shared} {l : Addr} {xs : Array (Int × Tok)}
theorem iter_intTup {Q : Value → Shared → Prop} (hl : s.heap.IsTuple l (intItems xs))
    (h : ∀ s₂ : Shared, s₂ = { s with heap := s.heap.push { cls := .type "tuple_iterator", data := .fields #[.ref l, .int 0 0] } } →
      (s₂.heap.IsTupleIter s.heap.objs.size l 0 ∧ s₂.heap.IsTuple l (intItems xs)) → (∀ b ∈ [s.heap.objs.size, l], b < s₂.heap.objs.size) → l ≠ s.heap.objs.size → Q (.ref s.heap.objs.size) s₂) :
    wpAny (model prog w) A (pyIter (.ref l)) Q E s := by
  have hlt : l < s.heap.objs.size := by obtain ⟨_, e, _⟩ := hl; exact Heap.lt_size e
  refine wpAny_pyIter_tuple hl (h _ rfl ⟨⟨_, Heap.get?_push_size _ rfl, rfl, rfl⟩, hl.push _⟩ (fun b hb => ?_) (Nat.ne_of_lt hlt))
  show b < (s.heap.push _).objs.size
  rw [Heap.size_push]
  rcases List.mem_cons.mp hb with rfl | hb
  · exact Nat.lt_succ_self _
  · rcases List.mem_cons.mp hb with rfl | hb
    · exact Nat.lt_succ_of_lt hlt
    · cases hb
theorem old_keptT {o0 : Obj} {h' : Heap} (hk : ∀ b o, b ∉ [s.heap.objs.size] → (s.heap.push o0).get? b = some o → h'.get? b = some o) :
    ∀ b o, s.heap.get? b = some o → h'.get? b = some o := fun b o e => by
  refine hk b o (fun hm => ?_) (Heap.get?_push_of_some _ e)
  rcases List.mem_cons.mp hm with e1 | hm
  · exact absurd (e1 ▸ Heap.lt_size e) (Nat.lt_irrefl _)
  · cases hm
theorem max_intTup {Q : Value → Shared → Prop} (hh : A.handled = none) (hl : s.heap.IsTuple l (intItems xs)) (hne : 0 < xs.size)
    (h : ∀ v h' tk, (intItems xs)[argBest (fun i j => decide (numAt xs i > numAt xs j)) (xs.size - 1)]? = some v → (∀ b o, s.heap.get? b = some o → h'.get? b = some o) → Q v { s with heap := h', toks := tk }) :
    wpAny (model prog w) A (call (.builtin "max") [.ref l]) Q E s := by
  refine call_max_walk (iter_intTup hl fun s₂ e st hfp hlI => ?_)
  subst e
  refine ⟨_, _, _, _, _, _, _, rfl, Walks.tuple (A := A.in1) hh _ l hlI (intItems xs), st, hfp, by simpa [intItems] using hne, CmpOf.ints_gt (numAt xs) (fun _ _ => intItems_at), fun v h' tk hP hk => ?_⟩
  exact h v h' tk (by simpa [intItems] using hP) (old_keptT hk)
theorem min_intTup {Q : Value → Shared → Prop} (hh : A.handled = none) (hl : s.heap.IsTuple l (intItems xs)) (hne : 0 < xs.size)
    (h : ∀ v h' tk, (intItems xs)[argBest (fun i j => decide (numAt xs i < numAt xs j)) (xs.size - 1)]? = some v → (∀ b o, s.heap.get? b = some o → h'.get? b = some o) → Q v { s with heap := h', toks := tk }) :
    wpAny (model prog w) A (call (.builtin "min") [.ref l]) Q E s := by
  refine call_min_walk (iter_intTup hl fun s₂ e st hfp hlI => ?_)
  subst e
  refine ⟨_, _, _, _, _, _, _, rfl, Walks.tuple (A := A.in1) hh _ l hlI (intItems xs), st, hfp, by simpa [intItems] using hne, CmpOf.ints_lt (numAt xs) (fun _ _ => intItems_at), fun v h' tk hP hk => ?_⟩
  exact h v h' tk (by simpa [intItems] using hP) (old_keptT hk)
end
def rMaxT (K : PySem.W.Frag) : List V → Hp → VK → Prop := fun vs H Q => ∃ (a : Addr) (ns : List Int), vs = [V.ref a] ∧ SqT K H a (ns.map V.int) ∧ 0 < ns.length ∧ ∀ m, m ∈ ns → (∀ y, y ∈ ns → y ≤ m) → Q (.int m) H
def rMinT (K : PySem.W.Frag) : List V → Hp → VK → Prop := fun vs H Q => ∃ (a : Addr) (ns : List Int), vs = [V.ref a] ∧ SqT K H a (ns.map V.int) ∧ 0 < ns.length ∧ ∀ m, m ∈ ns → (∀ y, y ∈ ns → m ≤ y) → Q (.int m) H
theorem cr_maxT {X : Cx} (hc : X.calm = true) : CallR X (.builtin "max") (rMaxT X.K) := by
  intro pins s σ H vs us Q I r h
  obtain ⟨a, ns, rfl, hs, hne, q⟩ := h
  obtain ⟨its, rv, hl, _⟩ := I.tuple hs
  rw [Vals.ref1 r]
  obtain ⟨xs, e⟩ := rv.ints.allInts.items
  have hn : numsOf its.toArray.toList = ns := by rw [show its.toArray.toList = its from rfl, rv.ints.numsOf]
  have hl' : s.heap.IsTuple a its.toArray := hl
  rw [e] at hl' hn
  rw [nums_intItems] at hn
  subst hn
  have hsz : 0 < xs.size := by simpa using hne
  refine max_intTup (I.ok.hd hc) hl' hsz fun v h' tk hv hk => ?_
  obtain ⟨t, rfl⟩ := intItems_at hv
  obtain ⟨h1, h2⟩ := argBest_gt (numAt xs) (xs.size - 1)
  refine ⟨.int _, H, I.kept hk, ⟨_, rfl⟩, q _ ?_ fun a ha => ?_⟩
  · rw [numAt_eq]; exact PySem.getD_mem (by rw [List.length_map, Array.length_toList]; omega)
  · obtain ⟨j, hj, rfl⟩ := mem_getD ha
    rw [List.length_map, Array.length_toList] at hj
    rw [← numAt_eq]; exact h2 j (by omega)
theorem cr_minT {X : Cx} (hc : X.calm = true) : CallR X (.builtin "min") (rMinT X.K) := by
  intro pins s σ H vs us Q I r h
  obtain ⟨a, ns, rfl, hs, hne, q⟩ := h
  obtain ⟨its, rv, hl, _⟩ := I.tuple hs
  rw [Vals.ref1 r]
  obtain ⟨xs, e⟩ := rv.ints.allInts.items
  have hn : numsOf its.toArray.toList = ns := by rw [show its.toArray.toList = its from rfl, rv.ints.numsOf]
  have hl' : s.heap.IsTuple a its.toArray := hl
  rw [e] at hl' hn
  rw [nums_intItems] at hn
  subst hn
  have hsz : 0 < xs.size := by simpa using hne
  refine min_intTup (I.ok.hd hc) hl' hsz fun v h' tk hv hk => ?_
  obtain ⟨t, rfl⟩ := intItems_at hv
  obtain ⟨h1, h2⟩ := argBest_lt (numAt xs) (xs.size - 1)
  refine ⟨.int _, H, I.kept hk, ⟨_, rfl⟩, q _ ?_ fun a ha => ?_⟩
  · rw [numAt_eq]; exact PySem.getD_mem (by rw [List.length_map, Array.length_toList]; omega)
  · obtain ⟨j, hj, rfl⟩ := mem_getD ha
    rw [List.length_map, Array.length_toList] at hj
    rw [← numAt_eq]; exact h2 j (by omega)
def rMaxU (K : PySem.W.Frag) : List V → Hp → VK → Prop := fun xs H Q => (∃ i j, xs = [.int i, .int j] ∧ Q (.int (if j > i then j else i)) H) ∨ (rMax K xs H Q ∨ rMaxT K xs H Q)
def rMinU (K : PySem.W.Frag) : List V → Hp → VK → Prop := fun xs H Q => (∃ i j, xs = [.int i, .int j] ∧ Q (.int (if j < i then j else i)) H) ∨ (rMin K xs H Q ∨ rMinT K xs H Q)
theorem call_maxK (K : PySem.W.Frag) {X : Cx} (hK : X.K = K) (hc : X.calm = true) : CallR X (.builtin "max") (rMaxU K) := by subst hK; exact (call_max2 hc).or ((cr_max hc).or (cr_maxT hc))
theorem call_minK (K : PySem.W.Frag) {X : Cx} (hK : X.K = K) (hc : X.calm = true) : CallR X (.builtin "min") (rMinU K) := by subst hK; exact (call_min2 hc).or ((cr_min hc).or (cr_minT hc))
def maxD (ds : List D) (μ : Mu) : Res D := match ds with
  | [.int i, .int j] => .ok (.int (max i j)) μ
  | [d] => okO (seqOf μ d) fun xs => okO (intsOf xs) fun ns => grd (ns ≠ []) (.ok (.int (maxL ns)) μ)
  | _ => .bad
def minD (ds : List D) (μ : Mu) : Res D := match ds with
  | [.int i, .int j] => .ok (.int (min i j)) μ
  | [d] => okO (seqOf μ d) fun xs => okO (intsOf xs) fun ns => grd (ns ≠ []) (.ok (.int (minL ns)) μ)
  | _ => .bad
instance : SC K (rMaxU K) maxD := ⟨fun {X F H ρ μ vs ds P Q} w q h o => by
  unfold maxD at h
  split at h
  · rename_i i j
    cases q with
    | cons qa qb =>
      cases qb with
      | cons qb qc =>
        cases qc
        cases qa
        cases qb
        refine .inl ⟨i, j, rfl, ?_⟩
        have e : (if j > i then j else i) = max i j := by split <;> omega
        rw [e]
        exact o.here w (.int _) h
  · cases q with
    | cons qa qb =>
      cases qb
      obtain ⟨xs, c, h1⟩ := wp_okO h
      obtain ⟨ns, c2, h2⟩ := wp_okO h1
      obtain ⟨hne, h2⟩ := wp_grd h2
      have e := intsOf_eq c2
      subst e
      obtain ⟨a, vs, rfl, ea, qs⟩ := seqOf_at w qa c
      have z := qs.ints
      subst z
      have hp : 0 < ns.length := List.length_pos_iff.mpr hne
      have ho : ∀ m, m ∈ ns → (∀ y, y ∈ ns → y ≤ m) → Q (.int m) H := fun m h1 h2' => by
        have e1 := le_maxL ns m h1
        have e2 := h2' _ (maxL_mem ns hne)
        have e3 : m = maxL ns := by omega
        rw [e3]
        exact o.here w (.int _) h2
      rcases ea with ea | ea
      · exact .inr (.inl ⟨a, ns, rfl, ea, hp, ho⟩)
      · exact .inr (.inr ⟨a, ns, rfl, ea, hp, ho⟩)
  · exact h.elim⟩
instance : SC K (rMinU K) minD := ⟨fun {X F H ρ μ vs ds P Q} w q h o => by
  unfold minD at h
  split at h
  · rename_i i j
    cases q with
    | cons qa qb =>
      cases qb with
      | cons qb qc =>
        cases qc
        cases qa
        cases qb
        refine .inl ⟨i, j, rfl, ?_⟩
        have e : (if j < i then j else i) = min i j := by split <;> omega
        rw [e]
        exact o.here w (.int _) h
  · cases q with
    | cons qa qb =>
      cases qb
      obtain ⟨xs, c, h1⟩ := wp_okO h
      obtain ⟨ns, c2, h2⟩ := wp_okO h1
      obtain ⟨hne, h2⟩ := wp_grd h2
      have e := intsOf_eq c2
      subst e
      obtain ⟨a, vs, rfl, ea, qs⟩ := seqOf_at w qa c
      have z := qs.ints
      subst z
      have hp : 0 < ns.length := List.length_pos_iff.mpr hne
      have ho : ∀ m, m ∈ ns → (∀ y, y ∈ ns → m ≤ y) → Q (.int m) H := fun m h1 h2' => by
        have e1 := minL_le ns m h1
        have e2 := h2' _ (minL_mem ns hne)
        have e3 : m = minL ns := by omega
        rw [e3]
        exact o.here w (.int _) h2
      rcases ea with ea | ea
      · exact .inr (.inl ⟨a, ns, rfl, ea, hp, ho⟩)
      · exact .inr (.inr ⟨a, ns, rfl, ea, hp, ho⟩)
  · exact h.elim⟩
/-! ### abs, str -/
def rAbsU : List V → Hp → VK → Prop := fun xs H Q => ∃ i, xs = [.int i] ∧ Q (.int (if i < 0 then -i else i)) H
theorem call_absU {X : Cx} : CallR X (.builtin "abs") rAbsU := call_abs
def absD (ds : List D) (μ : Mu) : Res D := match ds with
  | [.int i] => .ok (.int (if i < 0 then -i else i)) μ
  | _ => .bad
instance : SC K rAbsU absD := ⟨fun {X F H ρ μ vs ds P Q} w q h o => by
  unfold absD at h
  split at h
  · cases q with
    | cons qa qb =>
      cases qb
      cases qa
      exact ⟨_, rfl, o.here w (.int _) h⟩
  · exact h.elim⟩
def rStrU : List V → Hp → VK → Prop := fun xs H Q => (∃ i, xs = [.int i] ∧ i.natAbs.log2 < 1920 ∧ Q (.str (toString i)) H) ∨ ∃ a, xs = [.str a] ∧ Q (.str a) H
theorem call_strU {X : Cx} : CallR X (.type "str") rStrU := call_str_int.or SkE.call_str_str
def strD (ds : List D) (μ : Mu) : Res D := match ds with
  | [.int i] => grd (i.natAbs.log2 < 1920) (.ok (.str (toString i)) μ)
  | [.str a] => .ok (.str a) μ
  | _ => .bad
instance : SC K rStrU strD := ⟨fun {X F H ρ μ vs ds P Q} w q h o => by
  unfold strD at h
  split at h
  · cases q with
    | cons qa qb =>
      cases qb
      cases qa
      exact .inl ⟨_, rfl, (wp_grd h).1, o.here w (.str _) (wp_grd h).2⟩
  · cases q with
    | cons qa qb =>
      cases qb
      cases qa
      exact .inr ⟨_, rfl, o.here w (.str _) h⟩
  · exact h.elim⟩
/-! ### methods of a text with one value -/
def rJoinU (K : PySem.W.Frag) : V → List V → Hp → VK → Prop := fun x xs H Q => ∃ a p, ∃ ys : List Str, x = .str a ∧ xs = [.ref p] ∧ (SqL K H p (ys.map V.str) ∨ SqT K H p (ys.map V.str)) ∧ (ys.map (·.length)).sum + ys.length * a.length ≤ 16777216 ∧ Q (.str (Txt.join a ys)) H
theorem pe_joinK (K : PySem.W.Frag) {X : Cx} (hK : X.K = K) {o e : Expr} {to te : TE} {apos pos : Pos} (ho : PE X o to) (he : PE X e te) (hs : starEach [e] X.env = [(false, eval e X.env)] := by rfl) (hbase : attributeBase o "join" X.env (eval o X.env) = eval o X.env := by rfl) (hline : (apos.endLine == pos.line) = true := by rfl) :
    PE X (.Call (.Attribute o "join" apos) [e] [] pos) (tM1 (rJoinU K) to te) := by subst hK; exact pe_join ho he hs hbase hline
/-- the method of a text, over data -/
def dM1 (f : Str → D → Mu → Res D) (To Te : DE) : DE := fun η μ => (To η μ).bind fun x μ1 => match x with
  | .str a => (Te η μ1).bind fun y μ2 => f a y μ2
  | _ => .bad
class SM1 (K : PySem.W.Frag) (r : V → List V → Hp → VK → Prop) (Fn : outParam (Str → D → Mu → Res D)) : Prop where
  run : ∀ {X : Exn → Mu → Prop} {F : List Addr} {H : Hp} {ρ : List Addr} {μ : Mu} {a : Str} {y : V} {dy : D} {P : D → Mu → Prop} {Q : VK}, Wd K F ρ μ H → Dt K F ρ H y dy → wp (Fn a dy μ) P X → Out K F ρ H P Q → r (.str a) [y] H Q
instance {E : L2.St → XK} {r : V → List V → Hp → VK → Prop} {f : Str → D → Mu → Res D} {to te : TE} {To Te : DE} [a : SE K E to To] [b : SE K E te Te] [m : SM1 K r f] : SE K E (tM1 r to te) (dM1 f To Te) := ⟨fun w e h o =>
  a.run w e (wp_bind h) fun x H1 ρ1 dx μ1 w1 g1 q1 h1 => by
    split at h1
    · cases q1
      exact ⟨⟨_, rfl⟩, b.run w1 (e.mono g1) (wp_bind h1) fun y H2 ρ2 dy μ2 w2 g2 q2 h2 => m.run w2 q2 h2 (o.mono (g1.trans g2))⟩
    · exact h1.elim⟩
def joinD (a : Str) (y : D) (μ : Mu) : Res D := okO (seqOf μ y) fun xs => okO (strsOf xs) fun ys => grd ((ys.map (·.length)).sum + ys.length * a.length ≤ 16777216) (.ok (.str (Txt.join a ys)) μ)
instance : SM1 K (rJoinU K) joinD := ⟨fun {X F H ρ μ a y dy P Q} w hy h o => by
  obtain ⟨xs, c, h1⟩ := wp_okO h
  obtain ⟨ns, c2, h2⟩ := wp_okO h1
  obtain ⟨hz, h2⟩ := wp_grd h2
  have e := strsOf_eq c2
  subst e
  obtain ⟨p, vs, rfl, ea, qs⟩ := seqOf_at w hy c
  have z := qs.strs
  subst z
  exact ⟨a, p, ns, rfl, rfl, ea, hz, o.here w (.str _) h2⟩⟩
def rCountU : V → List V → Hp → VK → Prop := fun x xs H Q => ∃ a b, x = .str a ∧ xs = [.str b] ∧ Q (.int (Txt.count a b)) H
theorem pe_countK {X : Cx} {o e : Expr} {to te : TE} {apos pos : Pos} (ho : PE X o to) (he : PE X e te) (hs : starEach [e] X.env = [(false, eval e X.env)] := by rfl) (hbase : attributeBase o "count" X.env (eval o X.env) = eval o X.env := by rfl) (hline : (apos.endLine == pos.line) = true := by rfl) :
    PE X (.Call (.Attribute o "count" apos) [e] [] pos) (tM1 rCountU to te) := pe_m1 F.slot_str_count F.type_str_count mt_count ho he hs hbase hline
def countD (a : Str) (y : D) (μ : Mu) : Res D := match y with
  | .str b => .ok (.int (Txt.count a b)) μ
  | _ => .bad
instance : SM1 K rCountU countD := ⟨fun {X F H ρ μ a y dy P Q} w hy h o => by
  unfold countD at h
  split at h
  · cases hy
    exact ⟨a, _, rfl, rfl, o.here w (.int _) h⟩
  · exact h.elim⟩
/-! ### int(text) -/
def rIntV : List V → Hp → VK → Prop := fun xs H Q => rIntU xs H Q ∨ ∃ a n, xs = [.str a] ∧ PySem.intText? a = some n ∧ a.length ≤ 640 ∧ Q (.int n) H
theorem call_intV {X : Cx} : CallR X (.type "int") rIntV := call_intU.or call_int_str
def intVD (ds : List D) (μ : Mu) : Res D := match ds with
  | [.str a] => okO (PySem.intText? a) fun n => grd (a.length ≤ 640) (.ok (.int n) μ)
  | ds => intD ds μ
instance : SC K rIntV intVD := ⟨fun {X F H ρ μ vs ds P Q} w q h o => by
  unfold intVD at h
  split at h
  · cases q with
    | cons qa qb =>
      cases qb
      cases qa
      obtain ⟨n, c, h⟩ := wp_okO h
      exact .inr ⟨_, n, rfl, c, (wp_grd h).1, o.here w (.int _) (wp_grd h).2⟩
  · exact .inl (SC.run (self := inferInstanceAs (SC K rIntU intD)) w q h o)⟩
/-! ### len(x) by an own __len__ -/
def tLenOf (t : TE) : TE := fun σ H Q => t σ H fun v H2 => ∃ n : Int, v = .int n ∧ 0 ≤ n ∧ n < 2 ^ 63 ∧ Q v H2
def dLenOf (T : DE) : DE := fun η μ => (T η μ).bind fun d μ1 => match d with
  | .int n => grd (0 ≤ n ∧ n < 2 ^ 63) (.ok (.int n) μ1)
  | _ => .bad
instance {E : L2.St → XK} {t : TE} {T : DE} [a : SE K E t T] : SE K E (tLenOf t) (dLenOf T) := ⟨fun w e h o =>
  a.run w e (wp_bind h) fun x H1 ρ1 dx μ1 w1 g1 q1 h1 => by
    split at h1
    · cases q1
      obtain ⟨⟨h2, h3⟩, h4⟩ := wp_grd h1
      exact ⟨_, rfl, h2, h3, (o.mono g1).here w1 (.int _) h4⟩
    · exact h1.elim⟩
end
/-- a def that is called from within a built-in -/
theorem run_below {X : Cx} {k : Nat} {f : Addr} {sp : Sp} {E : XK} {CX : CXT} {A : Around} {pins : List (Addr × Obj)} {σ : L2.St} {H : Hp} {s : Shared} {Q : VK} {us : List Value} {vs : List V} (F : FnR X.prog X.w X.K X.mg X.base CX k f sp) (hr : Room k A) (hfr : A.frames = X.A.frames) (hx : Passes CX X E)
    (I : Inv X pins σ H s) (r : Vals vs us) (h : sp vs H Q E) : wpAny (model X.prog X.w) A (call (.ref f) us) (EP X pins σ Q) X.xe s := by
  have e0 : Env0 X.prog X.w X.K X.mg X.base A X.stack s H := by
    have e := I.env0
    exact ⟨by rw [hfr]; exact e.frames, e.mod, e.bs, e.bsz, e.funs, e.frf, e.hok, e.bare⟩
  refine wpAny_call (codeAny_mono (F A X.stack s H us vs Q E hr e0 r h) fun r s' hq => ?_)
  cases r with
  | error e => exact hx pins σ H s e s' I hq
  | ok fl =>
    cases fl with
    | ret u => exact I.after hq
    | next => exact False.elim hq
    | brk => exact False.elim hq
    | cont => exact False.elim hq
theorem pe_lenOwn {X : Cx} {k : Nat} {C f : Addr} {sp : Sp} {E : XK} {CX : CXT} {o : Expr} {ta : TE} {p pos : Pos} (c : Cls X.K C) (hm : Meth X.K C "__len__" f) (F : FnR X.prog X.w X.K X.mg X.base CX k f sp) (hr : Room (k + 1) X.A) (hx : Passes CX X E) (hg : Gl X "len") (hmg : X.mg "len" = none) (he : PE X o ta)
    (hs : starEach [o] X.env = (false, eval o X.env) :: starEach [] X.env := by rfl) (hpl : (backTo pos (starEach [] X.env)).any (·.1) = false := by rfl) :
    PE X (.Call (.Name "len" p) [o] [] pos) (tLenOf (tMethR C "__len__" sp E ta tNil)) := by
  refine ⟨fun pins s σ H Q I h => ?_⟩
  refine wpAny_Call_Name_kw (ld_blt I hg hmg PySem.boot_len ?_)
  refine PyProof.Rows.callWith_builtin1 (thn ((pa_cons he pa_nil hs).run pos pins s σ H (fun vs H1 => match vs with
    | [x] => ∃ a dx fs, x = .ref a ∧ H1 a = some (.ins C dx fs) ∧ fs.lookup ("__len__" : Str) = none ∧ sp [x] H1 (fun v H2 => ∃ n : Int, v = .int n ∧ 0 ≤ n ∧ n < 2 ^ 63 ∧ Q v H2) E
    | _ => False) I h) fun us s1 ⟨vs, H1, I1, r1, q1⟩ => ?_) hs hpl
  match vs, r1, q1 with
  | [x], r1, q1 =>
    obtain ⟨a, dx, fs, rfl, ea, _, q⟩ := q1
    obtain ⟨u, rfl, ru⟩ := vals1 r1
    cases ru
    obtain ⟨mA, J, _⟩ := ins_get I1.hok ea
    obtain ⟨od, J, _⟩ := J.look
    obtain ⟨m, hF⟩ := I1.fr
    refine PySem.W.len_K hF I1.ok.mod.kin J hm.at_ hm.fn (wpAny_mono (run_below (vs := [.ref a]) F hr.in1 rfl hx I1 (.cons rfl .nil) q) (fun v s' hv => ?_) fun _ _ z => z)
    obtain ⟨y, H2, I2, ry, n, rfl, h0, h1, q2⟩ := hv
    obtain ⟨t, rfl⟩ := ry
    exact ⟨⟨h0, h1⟩, .int n, H2, I2.tok _, ⟨_, rfl⟩, q2⟩
/-! ### a def with a star parameter and one keyword-only parameter that has a default -/
section
variable {P : Program} {w : World} {K : PySem.W.Frag} {mg : Str → Option Value} {base : Heap} {x qual : Str} {params : Arguments} {body : List Stmt} {scope : Scope} {f : Addr} {fd : FuncData}
theorem fn_starK {CX : CXT} {N ps : List Str} {pk pv : Str} {name : Str} {oc dV kV doc pm cdv ct : Value} {od an : Option Addr} {osl : Array (Option Value)} {k : Nat} {sp : Sp} {kv : V} {ku : Value} (lk : K.lookup f = some ⟨oc, od, .func (PySem.W.fnOf name qual params body scope dV kV doc pm an cdv ct), osl⟩) (hcd : PySem.W.codeIn K cdv qual = true) (S : FnScope N (ps ++ [pk, pv]) scope) (hCX : StX.CXUp CX) (rk : RelV kv ku) {D : Addr} (hD : PySem.W.nsIn K D pk = some (some ku))
    (hb : ∀ us rest : List Value, us.length = ps.length → ∃ (β γ : Type) (k1 : Option Value → Sem β) (k2 : β → Sem γ) (k3 : γ → Sem (List (Str × Value))) (a : β), bindArgs (PySem.W.fnOf name qual params body scope dV kV doc pm an cdv ct) ⟨us ++ rest, []⟩ = ((nsGet D pk >>= k1) >>= k2) >>= k3 ∧ k1 (some ku) = pure a ∧
      (k2 a >>= k3) = (newTuple rest >>= fun t => pure (ps.zip us ++ [(pk, ku), (pv, t)])))
    (hbody : ∀ (A : Around) (outer : List PySem.Env) (s : Shared) (H : Hp) (vs : List V) (Q : VK) (E : XK), Room k (A.deeper (envOfC qual scope s.heap.objs.size f cdv)) → sp vs H Q E →
      ∃ t, PSs (cxOf CX P w K mg base N qual scope f cdv A outer s H E) body t ∧ t { nx := fun _ H' => Q .non H', rt := Q } (start N vs) H) :
    FnR P w K mg base CX (k + 1) f (fun vs H Q E => ∃ ws rest, vs = ws ++ rest ∧ ws.length = ps.length ∧ rest.length ≤ sizeLine ∧ ∀ p, H p = Option.none → sp (ws ++ [kv, V.ref p]) (upd H p (.tup rest)) Q E) := by
  intro A outer s H us vs Q E hr e0 r hsp
  obtain ⟨ws, rest, ev, hl, hz, hq⟩ := hsp
  subst ev
  obtain ⟨u1, u2, eu, r1, r2⟩ := StX.vals_split r
  subst eu
  have hn : H s.heap.objs.size = Option.none := e0.hok.fresh (Nat.le_refl _)
  have hl1 : u1.length = ps.length := by rw [← r1.length]; exact hl
  have hl2 : u2.length ≤ sizeLine := by rw [← r2.length]; exact hz
  refine StX.run_bnd lk hcd S hr e0 (G := fun xs H2 => ∃ p, H p = Option.none ∧ xs = ws ++ [kv, V.ref p] ∧ H2 = upd H p (.tup rest)) (fun A' Ex Q' h => ?_) fun s2 H2 xs ⟨p, hp, ex, eH⟩ hr' => ?_
  · obtain ⟨β, γ, k1, k2, k3, a, e1, e2, e3⟩ := hb u1 u2 hl1
    have kin : K.In s.heap := fun a o q => (e0.bs a o (e0.mod.kin a o q)).1
    have l1 : PySem.W.Looks (model P w) s.heap (nsGet D pk >>= k1) a := (PySem.W.looks_nsIn kin hD).andThen (PySem.W.Looks.of_pure e2)
    rw [e1, bind_assoc]
    refine wpAny_bind (l1.here ?_)
    rw [e3]
    refine wpAny_bind (wpAny_newTuple (wpAny_pure ?_) hl2)
    have new : ObjOk P w (upd H s.heap.objs.size (.tup rest)) (s.heap.push ({ cls := .type "tuple", data := .seq u2.toArray } : Obj)) s.heap.objs.size (.tup rest) := ⟨hz, u2, r2, ⟨_, Heap.get?_push_size _ rfl, rfl, _, rfl⟩⟩
    have un := StX.un_laid (fs := frs outer) (s := s) (o := ({ cls := .type "tuple", data := .seq u2.toArray } : Obj)) (u := .tup rest) hn
    have z := h _ _ (ws ++ [kv, V.ref s.heap.objs.size]) (u1 ++ [ku, Value.ref s.heap.objs.size]) (StX.env0_laid e0 new) un rfl (fun e s' => hCX outer s H _ _ E e s' un (fun b o q => Heap.get?_push_of_some _ q) rfl) (r1.append (.cons rk (.cons rfl .nil)))
      (by rw [List.length_append, List.length_append, hl] <;> rfl) ⟨_, hn, rfl, rfl⟩
    rw [List.zip_append hl1.symm] at z
    exact z
  · subst ex eH
    exact hbody A outer s2 _ _ Q E hr' (hq p hp)
def starK (n : Nat) (e : D) (fs : FS) : FS := fun ds μ => if n ≤ ds.length ∧ ds.length ≤ 1000 then fs (ds.take n ++ [e, .tup (ds.drop n)]) μ else .bad
theorem fnStarK {fin : Mu → Res D → Res D} (hf : Fnl fin) {N ps : List Str} {pk pv : Str} {k : Nat} {T : DS} {kv : V} {e : D} (Fu : FunD K x qual params body scope [] [(pk, kv)] f fd) (S : FnScope N (ps ++ [pk, pv]) scope) (he : ∀ F ρ H, Dt K F ρ H kv e)
    (hb : ∀ (D : Addr) (doc pm : Value) (an : Option Addr) (cdv ct ku : Value) (us rest : List Value), us.length = ps.length → ∃ (β γ : Type) (k1 : Option Value → Sem β) (k2 : β → Sem γ) (k3 : γ → Sem (List (Str × Value))) (a : β), bindArgs (PySem.W.fnOf x qual params body scope .none (.ref D) doc pm an cdv ct) ⟨us ++ rest, []⟩ = ((nsGet D pk >>= k1) >>= k2) >>= k3 ∧ k1 (some ku) = pure a ∧
      (k2 a >>= k3) = (newTuple rest >>= fun t => pure (ps.zip us ++ [(pk, ku), (pv, t)])))
    (hbody : BodyD P w K mg base N qual scope f k body T) : FnR P w K mg base (L2.CX P w) (k + 1) f (spD K (starK ps.length e (defR fin (ps.length + 2) N.length T))) := by
  obtain ⟨oc, od, dV, kV, doc, pm, an, cdv, ct, osl, rfl, lk, hcd, hdf, hkw⟩ := Fu.ex
  have ed : dV = .none := by
    rcases hdf with ⟨_, e⟩ | ⟨e, _⟩
    · exact e
    · exact absurd rfl e
  subst ed
  rcases hkw with hkw | ⟨D, rfl, hq⟩
  · cases hkw
  obtain ⟨ku, hD, rk⟩ := hq (pk, kv) (by simp)
  have raw := fn_starK (P := P) (w := w) (mg := mg) (base := base) (k := k) (sp := spD K (defR fin (ps.length + 2) N.length T)) lk hcd S StX.cxUp rk hD (hb D doc pm an cdv ct ku) fun A outer s H vs Q E hr h => by
    obtain ⟨t, ht, hS⟩ := hbody cdv A outer s H E hr
    obtain ⟨F, ρ, ds, μ, Q', X, wd, q, hd, o, xo⟩ := h
    unfold defR at hd
    split at hd
    · exact ⟨t, ht, body_ok hf wd q hd o xo⟩
    · exact hd.elim
  refine raw.imp fun vs H Q E h => ?_
  obtain ⟨F, ρ, ds, μ, Q', X, wd, q, hd, o, xo⟩ := h
  unfold starK at hd
  split at hd
  · rename_i c
    refine ⟨vs.take ps.length, vs.drop ps.length, (List.take_append_drop _ _).symm, by rw [List.length_take, q.len]; omega, by rw [List.length_drop, q.len, sizeLine_eq]; omega, fun p hp => ?_⟩
    have g := Grow.fresh (ρ := ρ) (o := .tup (vs.drop ps.length)) hp
    refine ⟨F, ρ, _, μ, Q', X, wd.lay hp, ?_, hd, o.mono g, fun e d H' ρ' μ' vs' a b => xo e d H' ρ' μ' vs' a (g.trans b)⟩
    exact ((q.take _).mono g).app (.cons (he _ _ _) (.one (.tup (wd.fresh2 hp) upd_same ((q.drop _).mono g))))
  · exact hd.elim
end
end
end DX

namespace DX
open PySem PySem.Spec PyProof.Rows L2
noncomputable section
section
variable {K : PySem.W.Frag} {E : L2.St → XK}
/-! ### x.f += y -/
def rIaddU : R2 := rAdd
theorem in_addU {X : Cx} : InOp X .Add rIaddU := in_add
def iaddD (x y : D) (μ : Mu) : Res D := match x, y with
  | .int i, .int j => .ok (.int (i + j)) μ
  | _, _ => .bad
instance : SR2 K rIaddU iaddD := ⟨fun {X F H ρ μ x y dx dy P Q} w hx hy h o => by
  unfold iaddD at h
  split at h
  · cases hx; cases hy
    exact ⟨_, _, rfl, rfl, o.here w (.int _) h⟩
  · exact h.elim⟩
theorem iaddD_int {i j : Int} {μ : Mu} : iaddD (.int i) (.int j) μ = .ok (.int (i + j)) μ := rfl
/-! ### f'..' -/
def dFmt (T : DE) : DE := fun η μ => (T η μ).bind fun d μ1 => match d with
  | .str y => chk y.length (.ok (.str y) μ1)
  | .int i => grd (i.natAbs.log2 < 1920) (.ok (.str (toString i)) μ1)
  | _ => .bad
instance {t : TE} {T : DE} [a : SE K E t T] : SE K E (tFmt t) (dFmt T) := ⟨fun w e h o =>
  a.run w e (wp_bind h) fun x H1 ρ1 dx μ1 w1 g1 q1 h1 => by
    split at h1
    · cases q1
      exact .inl ⟨_, rfl, (wp_chk h1).1, (o.mono g1).here w1 (.str _) (wp_chk h1).2⟩
    · cases q1
      exact .inr ⟨_, rfl, (wp_grd h1).1, (o.mono g1).here w1 (.str _) (wp_grd h1).2⟩
    · exact h1.elim⟩
def tJoin (ts : List TE) : TE := fun σ H Q => tJs ts Str.empty σ H fun out H1 => Q (.str out) H1
theorem pe_fstr {X : Cx} {v1 v2 : Expr} {rest : List Expr} {ts : List TE} {pos : Pos} (h : PJ X (v1 :: v2 :: rest) ts) : PE X (.JoinedStr (v1 :: v2 :: rest) pos) (tJoin ts) := pe_joined h
def dJs : List DE → Str → Env → Mu → Res Str
  | [], acc, _, μ => .ok acc μ
  | T :: Ts, acc, η, μ => (T η μ).bind fun d μ1 => match d with
    | .str y => chk (acc ++ y).length (dJs Ts (acc ++ y) η μ1)
    | _ => .bad
def dJoin (Ts : List DE) : DE := fun η μ => (dJs Ts Str.empty η μ).bind fun z μ1 => .ok (.str z) μ1
class SJ (K : PySem.W.Frag) (E : L2.St → XK) (ts : List TE) (Ts : outParam (List DE)) : Prop where
  run : ∀ {X : PX} {F : List Addr} {σ : L2.St} {H : Hp} {η : Env} {ρ : List Addr} {μ : Mu} {P : Str → Mu → Prop} {Q : Str → Hp → Prop} (acc : Str), Wd K F ρ μ H → EnvOk K E X F ρ H σ η → wp (dJs Ts acc η μ) P (fun e μ' => X e η μ') → (∀ z H' ρ' μ', Wd K F ρ' μ' H' → Grow ρ ρ' H H' → P z μ' → Q z H') → tJs ts acc σ H Q
instance : SJ K E [] [] := ⟨fun acc w e h o => o _ _ _ _ w (Grow.refl _ _) h⟩
instance {t : TE} {T : DE} {ts : List TE} {Ts : List DE} [a : SE K E t T] [b : SJ K E ts Ts] : SJ K E (t :: ts) (T :: Ts) := ⟨fun acc w e h o =>
  a.run w e (wp_bind h) fun x H1 ρ1 dx μ1 w1 g1 q1 h1 => by
    split at h1
    · cases q1
      exact ⟨_, rfl, (wp_chk h1).1, b.run _ w1 (e.mono g1) (wp_chk h1).2 fun z H' ρ' μ' w' g' p => o z H' ρ' μ' w' (g1.trans g') p⟩
    · exact h1.elim⟩
instance {ts : List TE} {Ts : List DE} [a : SJ K E ts Ts] : SE K E (tJoin ts) (dJoin Ts) := ⟨fun w e h o =>
  a.run _ w e (wp_bind h) fun z H' ρ' μ' w' g' p => (o.mono g').here w' (.str _) p⟩
end
end
end DX

namespace DX
open PySem L2
noncomputable section
/-! ### running -/
section
variable {α β : Type} {a : α} {μ : Mu} {f : α → Mu → Res β} {g : α → Mu → SR} {k : Env → Mu → SR} {η : Env} {d : D} {e : Exn}
theorem bind_ok : (Res.ok a μ).bind f = f a μ := rfl
theorem bind_bad : (Res.bad : Res α).bind f = .bad := rfl
theorem to_ok : (Res.ok a μ).to η g = g a μ := rfl
theorem then_nx : (SR.nx η μ).then k = k η μ := rfl
theorem then_rt : (SR.rt d μ).then k = .rt d μ := rfl
theorem then_ct : (SR.ct η μ).then k = .ct η μ := rfl
theorem then_bk : (SR.bk η μ).then k = .bk η μ := rfl
theorem turn_nx : (SR.nx η μ).turn k = k η μ := rfl
theorem turn_ct : (SR.ct η μ).turn k = k η μ := rfl
theorem turn_rt : (SR.rt d μ).turn k = .rt d μ := rfl
theorem turn_bk : (SR.bk η μ).turn k = .nx η μ := rfl
theorem run_rt : (SR.rt d μ).run = .ok d μ := rfl
theorem run_nx : (SR.nx η μ).run = .ok .non μ := rfl
theorem onB_bl {b : Bool} {k : Bool → Res α} : onB (.bl b) k = k b := rfl
theorem okO_some {o : α} {k : α → Res β} : okO (some o) k = k o := rfl
theorem noX_ok : noX (Res.ok a μ) = .ok a μ := rfl
theorem look_0 {x : Option D} {r : Env} : look (x :: r) 0 = x := rfl
theorem look_s {x : Option D} {r : Env} {i : Nat} : look (x :: r) (i + 1) = look r i := rfl
theorem fz_same {μ0 : Mu} (h : μ.length ≤ μ0.length) : fz μ0 (.ok d μ) = .ok d μ := if_pos h
end
theorem env0_cons {n : Nat} {d : D} {ds : List D} : env0 (n + 1) (d :: ds) = some d :: env0 n ds := by
  unfold env0
  rw [List.map_cons, List.cons_append, List.length_cons, Nat.add_sub_add_right]
theorem env0_nil {n : Nat} : env0 n [] = List.replicate n none := rfl
section
variable {i j : Int} {μ : Mu}
theorem addD_int : addD (.int i) (.int j) μ = .ok (.int (i + j)) μ := rfl
theorem subD_int : subD (.int i) (.int j) μ = .ok (.int (i - j)) μ := rfl
theorem ltD_int : ltD (.int i) (.int j) μ = .ok (.bl (decide (i < j))) μ := rfl
theorem cmpD_int {f : Int → Int → Bool} : cmpD f (.int i) (.int j) μ = .ok (.bl (f i j)) μ := rfl
theorem mulD_int (h : CMul i j) : mulD (.int i) (.int j) μ = .ok (.int (i * j)) μ := grd_pos (.inl h)
theorem modD_int (h : 0 < j) : modD (.int i) (.int j) μ = .ok (.int (i % j)) μ := if_pos h
theorem divD_int (h : 0 < j) (h2 : j < 2 ^ 63) : divD (.int i) (.int j) μ = .ok (.int (i / j)) μ := by
  show (if 0 < j then _ else _) = _
  rw [if_pos h]
  refine grd_pos ?_
  have h3 : j.natAbs < 2 ^ 63 := by omega
  have h4 : j.natAbs.log2 < 63 := by
    rw [Nat.log2_lt (by omega)]
    exact h3
  omega
theorem intD_int : intD [.int i] μ = .ok (.int i) μ := rfl
end
theorem at4_0 {a b c d : D} : atI [a, b, c, d] 0 = some a := rfl
theorem at4_1 {a b c d : D} : atI [a, b, c, d] 1 = some b := rfl
theorem at4_2 {a b c d : D} : atI [a, b, c, d] 2 = some c := rfl
theorem at4_3 {a b c d : D} : atI [a, b, c, d] 3 = some d := rfl
theorem ixD_cell {μ : Mu} {b : Nat} {xs : List D} {i : Int} (h : μ[b]? = some (.lst xs)) : ixD (.cell b) (.int i) μ = okO (atI xs i) fun d => .ok d μ := by
  show okO (asL μ (.cell b)) _ = _
  have e : asL μ (.cell b) = some xs := by simp only [asL, h]
  rw [e]
  rfl
theorem ixD_lst {μ : Mu} {xs : List D} {i : Int} : ixD (.lst xs) (.int i) μ = okO (atI xs i) fun d => .ok d μ := rfl
theorem ixD_tup {μ : Mu} {xs : List D} {i : Int} : ixD (.tup xs) (.int i) μ = okO (atI xs i) fun d => .ok d μ := rfl
theorem dSet_4 {μ : Mu} {b : Nat} {x0 x1 x2 x3 v : D} {k : Int} {j : Nat} (h : μ[b]? = some (.lst [x0, x1, x2, x3])) (hj : ixN 4 k = some j) : dSet (.cell b) (.int k) v μ = .ok () (μ.set b (.lst ([x0, x1, x2, x3].set j v))) := by
  simp only [dSet, h, List.length_cons, List.length_nil]
  rw [show ixN (0 + 1 + 1 + 1 + 1) k = some j from hj]
theorem lenD_lst {μ : Mu} {xs : List D} : lenD [.lst xs] μ = .ok (.int xs.length) μ := rfl
theorem lenD_tup {μ : Mu} {xs : List D} : lenD [.tup xs] μ = .ok (.int xs.length) μ := rfl
theorem atI_pos {α : Type} {xs : List α} {i : Int} (h0 : 0 ≤ i) (h1 : i < (xs.length : Int)) : ∃ x, atI xs i = some x ∧ x ∈ xs ∧ xs[i.toNat]? = some x := by
  have hk : i.toNat < xs.length := by omega
  have e : xs[i.toNat]? = some xs[i.toNat] := List.getElem?_eq_getElem hk
  refine ⟨xs[i.toNat], ?_, List.getElem_mem hk, e⟩
  have q := atI_nat e
  have z : ((i.toNat : Nat) : Int) = i := by omega
  rw [z] at q
  exact q
/-! ### comprehensions and loops -/
theorem lcR_inv {G : DG} {C : DTs} {Te : DE} {η : Env} (I : List D → List D → Mu → Prop)
    (hs : ∀ x r acc μ, I (x :: r) acc μ → ∃ z μ', ((G x η μ).bind fun η' μ' => (C η' μ').bind fun b μ2 => if b = true then Te η' μ2 else .bad) = .ok z μ' ∧ I r (acc ++ [z]) μ') :
    ∀ its acc μ, I its acc μ → ∃ acc' μ', lcR G C Te η its acc μ = .ok acc' μ' ∧ I [] acc' μ'
  | [], acc, μ, h => ⟨acc, μ, rfl, h⟩
  | x :: r, acc, μ, h => by
    obtain ⟨z, μ1, e, h1⟩ := hs x r acc μ h
    obtain ⟨acc', μ', e', h'⟩ := lcR_inv I hs r _ _ h1
    refine ⟨acc', μ', ?_, h'⟩
    rw [← e']
    show ((G x η μ).bind fun η' μ' => (C η' μ').bind fun b μ2 => if b = true then (Te η' μ2).bind fun z μ3 => lcR G C Te η r (acc ++ [z]) μ3 else lcR G C Te η r acc μ2) = _
    cases hG : G x η μ with
    | ok η1 μa =>
      rw [hG] at e
      simp only [bind_ok] at e ⊢
      cases hC : C η1 μa with
      | ok b μb =>
        rw [hC] at e
        simp only [bind_ok] at e ⊢
        cases b with
        | true =>
          simp only [if_true] at e ⊢
          rw [e]
          rfl
        | false => simp at e
      | exc _ _ => rw [hC] at e; cases e
      | bad => rw [hC] at e; cases e
    | exc _ _ => rw [hG] at e; cases e
    | bad => rw [hG] at e; cases e
theorem lcR_map {G : DG} {Te : DE} {η : Env} {μ : Mu} (f : D → D) : ∀ (its acc : List D), (∀ x ∈ its, ((G x η μ).bind fun η' μ' => Te η' μ') = .ok (f x) μ) → lcR G dYes Te η its acc μ = .ok (acc ++ its.map f) μ
  | [], acc, _ => by rw [List.map_nil, List.append_nil]; rfl
  | x :: r, acc, h => by
    have e := h x List.mem_cons_self
    show ((G x η μ).bind fun η' μ' => (dYes η' μ').bind fun b μ2 => if b = true then (Te η' μ2).bind fun z μ3 => lcR G dYes Te η r (acc ++ [z]) μ3 else lcR G dYes Te η r acc μ2) = _
    cases hG : G x η μ with
    | ok η1 μa =>
      rw [hG] at e
      simp only [bind_ok, dYes, if_true] at e ⊢
      rw [e, bind_ok, lcR_map f r _ fun y hy => h y (List.mem_cons_of_mem _ hy), List.map_cons, List.append_assoc]
      rfl
    | exc _ _ => rw [hG] at e; cases e
    | bad => rw [hG] at e; cases e
/-- with a test -/
theorem lcR_filter {G : DG} {C : DTs} {Te : DE} {η : Env} {μ : Mu} (k : D → Bool) (f : D → D) : ∀ (its acc : List D), (∀ x ∈ its, ∃ η', G x η μ = .ok η' μ ∧ C η' μ = .ok (k x) μ ∧ (k x = true → Te η' μ = .ok (f x) μ)) → lcR G C Te η its acc μ = .ok (acc ++ (its.filter k).map f) μ
  | [], acc, _ => by rw [List.filter_nil, List.map_nil, List.append_nil]; rfl
  | x :: r, acc, h => by
    obtain ⟨η', e1, e2, e3⟩ := h x List.mem_cons_self
    have ih := fun acc => lcR_filter k f r acc fun y hy => h y (List.mem_cons_of_mem _ hy)
    show ((G x η μ).bind fun η' μ' => (C η' μ').bind fun b μ2 => if b = true then (Te η' μ2).bind fun z μ3 => lcR G C Te η r (acc ++ [z]) μ3 else lcR G C Te η r acc μ2) = _
    rw [e1, bind_ok, e2, bind_ok]
    cases c : k x with
    | true => rw [if_pos rfl, e3 c, bind_ok, ih, List.filter_cons_of_pos c, List.map_cons, List.append_assoc]; rfl
    | false => rw [if_neg Bool.false_ne_true, ih, List.filter_cons_of_neg (by rw [c]; exact Bool.false_ne_true)]
/-- a for by what holds between its turns -/
theorem forR_inv {G : DG} {T : DS} (I : List D → Env → Mu → Prop) (hs : ∀ x r η μ, I (x :: r) η μ → ∃ η' μ', ((G x η μ).to η fun η1 μ1 => (T η1 μ1).turn .nx) = .nx η' μ' ∧ (∀ k, ((G x η μ).to η fun η1 μ1 => (T η1 μ1).turn k) = k η' μ') ∧ I r η' μ') :
    ∀ its η μ, I its η μ → ∃ η' μ', forR G T its η μ = .nx η' μ' ∧ I [] η' μ'
  | [], η, μ, h => ⟨η, μ, rfl, h⟩
  | x :: r, η, μ, h => by
    obtain ⟨η1, μ1, _, e, h1⟩ := hs x r η μ h
    obtain ⟨η', μ', e', h'⟩ := forR_inv I hs r _ _ h1
    exact ⟨η', μ', (e _).trans e', h'⟩
/-- .. where each turn goes on -/
theorem forR_go {G : DG} {T : DS} (I : List D → Env → Mu → Prop) (hs : ∀ x r η μ, I (x :: r) η μ → ∃ η1 μ1 η' μ', G x η μ = .ok η1 μ1 ∧ (T η1 μ1 = .nx η' μ' ∨ T η1 μ1 = .ct η' μ') ∧ I r η' μ') :
    ∀ its η μ, I its η μ → ∃ η' μ', forR G T its η μ = .nx η' μ' ∧ I [] η' μ' :=
  forR_inv I fun x r η μ h => by
    obtain ⟨η1, μ1, η', μ', e1, e2, h'⟩ := hs x r η μ h
    refine ⟨η', μ', ?_, fun k => ?_, h'⟩
    · rw [e1, to_ok]
      rcases e2 with e2 | e2 <;> rw [e2] <;> rfl
    · rw [e1, to_ok]
      rcases e2 with e2 | e2 <;> rw [e2] <;> rfl
/-- a while by what holds between its turns, and a measure -/
theorem whileR_go {C : DTs} {T : DS} (I : Env → Mu → Prop) (J : Env → Mu → Prop) (m : Env → Mu → Nat) (hs : ∀ η μ, I η μ → (C η μ = .ok false μ ∧ J η μ) ∨ ∃ μ1 η' μ', C η μ = .ok true μ1 ∧ (T η μ1 = .nx η' μ' ∨ T η μ1 = .ct η' μ') ∧ I η' μ' ∧ m η' μ' < m η μ) :
    ∀ n η μ, I η μ → m η μ < n → ∃ η' μ', whileR C T n η μ = .nx η' μ' ∧ J η' μ'
  | 0, η, μ, _, h => absurd h (Nat.not_lt_zero _)
  | n + 1, η, μ, h, hn => by
    rcases hs η μ h with ⟨e, j⟩ | ⟨μ1, η', μ', e1, e2, h', hm⟩
    · exact ⟨η, μ, by show (C η μ).to η _ = _; rw [e, to_ok]; rfl, j⟩
    · obtain ⟨η2, μ2, e3, j⟩ := whileR_go I J m hs n η' μ' h' (by omega)
      refine ⟨η2, μ2, ?_, j⟩
      show (C η μ).to η _ = _
      rw [e1, to_ok, if_pos rfl]
      rcases e2 with e2 | e2
      · rw [e2, turn_nx, e3]
      · rw [e2, turn_ct, e3]
theorem cut_take {α : Type} (xs : List α) {k : Int} (h : 0 ≤ k) : cut xs none (some k) = xs.take k.toNat := by
  have e : HT.sIx xs.length xs.length (some k) = min k.toNat xs.length := by
    have e : ((k.toNat : Nat) : Int) = k := by omega
    have q := HT.sIx_nat xs.length xs.length k.toNat
    rw [e] at q
    exact q
  unfold cut
  rw [HT.sIx_none, e, List.drop_zero, Nat.sub_zero]
  by_cases c : k.toNat ≤ xs.length
  · rw [Nat.min_eq_left c]
  · rw [Nat.min_eq_right (by omega), List.take_length, List.take_of_length_le (by omega)]
theorem cut_drop {α : Type} (xs : List α) {k : Int} (h : 0 ≤ k) : cut xs (some k) none = xs.drop k.toNat := by
  have e : HT.sIx xs.length 0 (some k) = min k.toNat xs.length := by
    have e : ((k.toNat : Nat) : Int) = k := by omega
    have q := HT.sIx_nat xs.length 0 k.toNat
    rw [e] at q
    exact q
  unfold cut
  rw [HT.sIx_none, e]
  by_cases c : k.toNat ≤ xs.length
  · rw [Nat.min_eq_left c]
    exact List.take_of_length_le (by rw [List.length_drop]; exact Nat.le_refl _)
  · rw [Nat.min_eq_right (by omega), List.drop_length, List.drop_eq_nil_of_le (by omega)]
    exact List.take_nil
mutual
theorem plain_mono : ∀ (n m : Nat) (d : D), n ≤ m → plain n d = true → plain m d = true
  | n, m, .non, _, _ => plain_non
  | n, m, .bl _, _, _ => plain_bl
  | n, m, .int _, _, _ => plain_int
  | n, m, .str s, _, h => by rw [plain_str] at h ⊢; exact h
  | 0, m, .tup xs, _, h => absurd h plain_tup0
  | 0, m, .lst xs, _, h => absurd h plain_lst0
  | n + 1, 0, .tup xs, l, h => absurd l (by omega)
  | n + 1, 0, .lst xs, l, h => absurd l (by omega)
  | n + 1, m + 1, .tup xs, l, h => plain_tup_of (plain_tup h).1 (plains_mono n m xs (by omega) (plain_tup h).2)
  | n + 1, m + 1, .lst xs, l, h => plain_lst_of (plain_lst h).1 (plains_mono n m xs (by omega) (plain_lst h).2)
  | n, m, .ty _, _, h => by cases n <;> simp [plain] at h
  | n, m, .cls _, _, h => by cases n <;> simp [plain] at h
  | n, m, .cell _, _, h => by cases n <;> simp [plain] at h
  | n, m, .obj _ _ _, _, h => by cases n <;> simp [plain] at h
  | n, m, .scr _, _, h => by cases n <;> simp [plain] at h
  | n, m, .fn _, _, h => by cases n <;> simp [plain] at h
  | n, m, .dK _ _, _, h => by cases n <;> simp [plain] at h
  | n, m, .dT _ _, _, h => by cases n <;> simp [plain] at h
theorem plains_mono : ∀ (n m : Nat) (ds : List D), n ≤ m → plains n ds = true → plains m ds = true
  | n, m, [], _, _ => plains_nil
  | n, m, x :: r, l, h => by
    rw [plains_cons, Bool.and_eq_true] at h ⊢
    exact ⟨plain_mono n m x l h.1, plains_mono n m r l h.2⟩
end
theorem eqP_refl {d : D} (h : plain 60 d = true) : eqP d d = true := SeqAt.eqv_refl _ (plain_shape 60 d h).1
theorem eqD_plain {x y : D} {μ : Mu} (hx : plain 60 x = true) (hy : plain 60 y = true) : eqD x y μ = .ok (.bl (eqP x y)) μ := by
  unfold eqD
  rw [der_plain hx, der_plain hy]
  exact grd_pos ⟨hx, hy⟩
theorem neD_plain {x y : D} {μ : Mu} (hx : plain 60 x = true) (hy : plain 60 y = true) : neD x y μ = .ok (.bl (!eqP x y)) μ := by
  unfold neD
  rw [der_plain hx, der_plain hy]
  exact grd_pos ⟨hx, hy⟩
theorem eqD_refl {d : D} {μ : Mu} (h : plain 60 d = true) : eqD d d μ = .ok (.bl true) μ := by rw [eqD_plain h h, eqP_refl h]
theorem eqD_bl {a b : Bool} {μ : Mu} : eqD (.bl a) (.bl b) μ = .ok (.bl (a == b)) μ := by
  rw [eqD_plain plain_bl plain_bl]
  cases a <;> cases b <;> rfl
theorem neD_bl {a b : Bool} {μ : Mu} : neD (.bl a) (.bl b) μ = .ok (.bl (!(a == b))) μ := by
  rw [neD_plain plain_bl plain_bl]
  cases a <;> cases b <;> rfl
theorem eqD_int {a b : Int} {μ : Mu} : eqD (.int a) (.int b) μ = .ok (.bl (a == b)) μ := by
  rw [eqD_plain plain_int plain_int]
  rfl
theorem neD_int {a b : Int} {μ : Mu} : neD (.int a) (.int b) μ = .ok (.bl (!(a == b))) μ := by
  rw [neD_plain plain_int plain_int]
  rfl
theorem eqD_str {a b : Str} {μ : Mu} (ha : PyData.strOk a = true) (hb : PyData.strOk b = true) : eqD (.str a) (.str b) μ = .ok (.bl (a == b)) μ := by
  rw [eqD_plain (by rw [plain_str]; exact ha) (by rw [plain_str]; exact hb)]
  rfl
theorem neD_str {a b : Str} {μ : Mu} (ha : PyData.strOk a = true) (hb : PyData.strOk b = true) : neD (.str a) (.str b) μ = .ok (.bl (!(a == b))) μ := by
  rw [neD_plain (by rw [plain_str]; exact ha) (by rw [plain_str]; exact hb)]
  rfl
theorem kb_nb : kindB "NoneType" "bool" = some false := by decide +kernel
theorem kb_ni : kindB "NoneType" "int" = some false := by decide +kernel
theorem kb_ns : kindB "NoneType" "str" = some false := by decide +kernel
theorem kb_nt : kindB "NoneType" "tuple" = some false := by decide +kernel
theorem kb_nl : kindB "NoneType" "list" = some false := by decide +kernel
theorem kb_bb : kindB "bool" "bool" = some true := by decide +kernel
theorem kb_bi : kindB "bool" "int" = some true := by decide +kernel
theorem kb_bs : kindB "bool" "str" = some false := by decide +kernel
theorem kb_bt : kindB "bool" "tuple" = some false := by decide +kernel
theorem kb_bl : kindB "bool" "list" = some false := by decide +kernel
theorem kb_ib : kindB "int" "bool" = some false := by decide +kernel
theorem kb_ii : kindB "int" "int" = some true := by decide +kernel
theorem kb_is : kindB "int" "str" = some false := by decide +kernel
theorem kb_it : kindB "int" "tuple" = some false := by decide +kernel
theorem kb_il : kindB "int" "list" = some false := by decide +kernel
theorem kb_sb : kindB "str" "bool" = some false := by decide +kernel
theorem kb_si : kindB "str" "int" = some false := by decide +kernel
theorem kb_ss : kindB "str" "str" = some true := by decide +kernel
theorem kb_st : kindB "str" "tuple" = some false := by decide +kernel
theorem kb_sl : kindB "str" "list" = some false := by decide +kernel
theorem kb_tb : kindB "tuple" "bool" = some false := by decide +kernel
theorem kb_ti : kindB "tuple" "int" = some false := by decide +kernel
theorem kb_ts : kindB "tuple" "str" = some false := by decide +kernel
theorem kb_tt : kindB "tuple" "tuple" = some true := by decide +kernel
theorem kb_tl : kindB "tuple" "list" = some false := by decide +kernel
theorem kb_lb : kindB "list" "bool" = some false := by decide +kernel
theorem kb_li : kindB "list" "int" = some false := by decide +kernel
theorem kb_ls : kindB "list" "str" = some false := by decide +kernel
theorem kb_lt : kindB "list" "tuple" = some false := by decide +kernel
theorem kb_ll : kindB "list" "list" = some true := by decide +kernel
end
end DX

namespace DX
open PySem L2
noncomputable section
theorem isi_int_int {i : Int} {μ : Mu} : isiD [.int i, .ty "int"] μ = .ok (.bl true) μ := by simp only [isiD, tyName, okO_some, kb_ii]
theorem isi_int_bool {i : Int} {μ : Mu} : isiD [.int i, .ty "bool"] μ = .ok (.bl false) μ := by simp only [isiD, tyName, okO_some, kb_ib]
theorem isi_int_str {i : Int} {μ : Mu} : isiD [.int i, .ty "str"] μ = .ok (.bl false) μ := by simp only [isiD, tyName, okO_some, kb_is]
theorem isi_int_tuple {i : Int} {μ : Mu} : isiD [.int i, .ty "tuple"] μ = .ok (.bl false) μ := by simp only [isiD, tyName, okO_some, kb_it]
theorem isi_int_list {i : Int} {μ : Mu} : isiD [.int i, .ty "list"] μ = .ok (.bl false) μ := by simp only [isiD, tyName, okO_some, kb_il]
theorem isi_bl_int {i : Bool} {μ : Mu} : isiD [.bl i, .ty "int"] μ = .ok (.bl true) μ := by simp only [isiD, tyName, okO_some, kb_bi]
theorem isi_bl_bool {i : Bool} {μ : Mu} : isiD [.bl i, .ty "bool"] μ = .ok (.bl true) μ := by simp only [isiD, tyName, okO_some, kb_bb]
theorem isi_bl_str {i : Bool} {μ : Mu} : isiD [.bl i, .ty "str"] μ = .ok (.bl false) μ := by simp only [isiD, tyName, okO_some, kb_bs]
theorem isi_bl_tuple {i : Bool} {μ : Mu} : isiD [.bl i, .ty "tuple"] μ = .ok (.bl false) μ := by simp only [isiD, tyName, okO_some, kb_bt]
theorem isi_bl_list {i : Bool} {μ : Mu} : isiD [.bl i, .ty "list"] μ = .ok (.bl false) μ := by simp only [isiD, tyName, okO_some, kb_bl]
theorem isi_str_int {i : Str} {μ : Mu} : isiD [.str i, .ty "int"] μ = .ok (.bl false) μ := by simp only [isiD, tyName, okO_some, kb_si]
theorem isi_str_bool {i : Str} {μ : Mu} : isiD [.str i, .ty "bool"] μ = .ok (.bl false) μ := by simp only [isiD, tyName, okO_some, kb_sb]
theorem isi_str_str {i : Str} {μ : Mu} : isiD [.str i, .ty "str"] μ = .ok (.bl true) μ := by simp only [isiD, tyName, okO_some, kb_ss]
theorem isi_str_tuple {i : Str} {μ : Mu} : isiD [.str i, .ty "tuple"] μ = .ok (.bl false) μ := by simp only [isiD, tyName, okO_some, kb_st]
theorem isi_str_list {i : Str} {μ : Mu} : isiD [.str i, .ty "list"] μ = .ok (.bl false) μ := by simp only [isiD, tyName, okO_some, kb_sl]
theorem isi_tup_int {i : List D} {μ : Mu} : isiD [.tup i, .ty "int"] μ = .ok (.bl false) μ := by simp only [isiD, tyName, okO_some, kb_ti]
theorem isi_tup_bool {i : List D} {μ : Mu} : isiD [.tup i, .ty "bool"] μ = .ok (.bl false) μ := by simp only [isiD, tyName, okO_some, kb_tb]
theorem isi_tup_str {i : List D} {μ : Mu} : isiD [.tup i, .ty "str"] μ = .ok (.bl false) μ := by simp only [isiD, tyName, okO_some, kb_ts]
theorem isi_tup_tuple {i : List D} {μ : Mu} : isiD [.tup i, .ty "tuple"] μ = .ok (.bl true) μ := by simp only [isiD, tyName, okO_some, kb_tt]
theorem isi_tup_list {i : List D} {μ : Mu} : isiD [.tup i, .ty "list"] μ = .ok (.bl false) μ := by simp only [isiD, tyName, okO_some, kb_tl]
theorem isi_lst_int {i : List D} {μ : Mu} : isiD [.lst i, .ty "int"] μ = .ok (.bl false) μ := by simp only [isiD, tyName, okO_some, kb_li]
theorem isi_lst_bool {i : List D} {μ : Mu} : isiD [.lst i, .ty "bool"] μ = .ok (.bl false) μ := by simp only [isiD, tyName, okO_some, kb_lb]
theorem isi_lst_str {i : List D} {μ : Mu} : isiD [.lst i, .ty "str"] μ = .ok (.bl false) μ := by simp only [isiD, tyName, okO_some, kb_ls]
theorem isi_lst_tuple {i : List D} {μ : Mu} : isiD [.lst i, .ty "tuple"] μ = .ok (.bl false) μ := by simp only [isiD, tyName, okO_some, kb_lt]
theorem isi_lst_list {i : List D} {μ : Mu} : isiD [.lst i, .ty "list"] μ = .ok (.bl true) μ := by simp only [isiD, tyName, okO_some, kb_ll]
theorem isi_non_int  {μ : Mu} : isiD [.non, .ty "int"] μ = .ok (.bl false) μ := by simp only [isiD, tyName, okO_some, kb_ni]
theorem isi_non_bool  {μ : Mu} : isiD [.non, .ty "bool"] μ = .ok (.bl false) μ := by simp only [isiD, tyName, okO_some, kb_nb]
theorem isi_non_str  {μ : Mu} : isiD [.non, .ty "str"] μ = .ok (.bl false) μ := by simp only [isiD, tyName, okO_some, kb_ns]
theorem isi_non_tuple  {μ : Mu} : isiD [.non, .ty "tuple"] μ = .ok (.bl false) μ := by simp only [isiD, tyName, okO_some, kb_nt]
theorem isi_non_list  {μ : Mu} : isiD [.non, .ty "list"] μ = .ok (.bl false) μ := by simp only [isiD, tyName, okO_some, kb_nl]
theorem chk_c {n : Nat} {α : Type} {r : Res α} (h : n ≤ 16777216) : chk n r = r := if_pos h
theorem defR_ok {fin : Mu → Res D → Res D} {np n : Nat} {T : DS} {ds : List D} {μ : Mu} (h : ds.length = np) : defR fin np n T ds μ = fin μ (T (env0 n ds) μ).run := if_pos h
theorem append_ok {To : DE} {T : DA} {η : Env} {μ μ1 μ2 : Mu} {a : Nat} {ys xs : List D} {d : D} (h1 : To η μ = .ok (.cell a) μ1) (h2 : μ1[a]? = some (.lst ys)) (h3 : T η μ1 = .ok [d] μ2) (h4 : μ2[a]? = some (.lst xs)) (h5 : xs.length < 16777216) :
    dAppend To T η μ = .ok .non (μ2.set a (.lst (xs ++ [d]))) := by
  simp only [dAppend, h1, bind_ok, h2, h3, h4]
  exact grd_pos h5
theorem last_get {ν : Mu} {m : MO} {n : Nat} (h : ν.length = n) : (ν ++ [m])[n]? = some m := by
  rw [← h, List.getElem?_append_right (Nat.le_refl _), Nat.sub_self]
  rfl
theorem last_set {ν : Mu} {m m' : MO} {n : Nat} (h : ν.length = n) : (ν ++ [m]).set n m' = ν ++ [m'] := by
  rw [← h, List.set_append_right _ _ (Nat.le_refl _), Nat.sub_self]
  rfl
theorem mul_tup {xs : List D} {k : Int} {μ : Mu} (h0 : xs ≠ []) (h1 : -1000 ≤ k) (h2 : k ≤ 1000) (h3 : xs.length ≤ 1000) : mulD (.tup xs) (.int k) μ = .ok (.tup (List.replicate k.toNat xs).flatten) μ := grd_pos ⟨h0, h1, h2, h3⟩
theorem add_tup {xs ys : List D} {μ : Mu} (h : xs.length + ys.length ≤ 16777216) : addD (.tup xs) (.tup ys) μ = .ok (.tup (xs ++ ys)) μ := if_pos h
theorem slD_tup {xs : List D} {lo hi : Option Int} {μ : Mu} : slD (.tup xs) lo hi μ = .ok (.tup (cut xs lo hi)) μ := rfl
theorem slD_lst {xs : List D} {lo hi : Option Int} {μ : Mu} : slD (.lst xs) lo hi μ = .ok (.lst (cut xs lo hi)) μ := rfl
theorem rep_ints (k : Nat) (n : Int) : (List.replicate k [D.int n]).flatten = (List.replicate k n).map D.int := by
  induction k with
  | zero => rfl
  | succ k ih => rw [List.replicate_succ, List.flatten_cons, ih, List.replicate_succ]; rfl
theorem at_0 {α : Type} {x : α} {r : List α} : atI (x :: r) 0 = some x := atI_nat (xs := x :: r) (j := 0) rfl
theorem still_lst {xs : List D} : still (.lst xs) = some xs := rfl
theorem still_tup {xs : List D} : still (.tup xs) = some xs := rfl
theorem items_lst {xs : List D} : itemsOf (.lst xs) = some xs := rfl
theorem items_tup {xs : List D} : itemsOf (.tup xs) = some xs := rfl
/-! ### slots -/
theorem look_getD : ∀ (η : Env) (i : Nat), look η i = (η[i]?).getD none
  | [], i => rfl
  | x :: r, 0 => rfl
  | x :: r, i + 1 => by rw [List.getElem?_cons_succ]; exact look_getD r i
theorem look_eq {η : Env} {i : Nat} {x : Option D} (h : i < η.length) : look (η.set i x) i = x := by
  rw [look_getD, List.getElem?_set_self h]
  rfl
theorem look_ne {η : Env} {i j : Nat} {x : Option D} (h : i ≠ j) : look (η.set i x) j = look η j := by
  rw [look_getD, look_getD, List.getElem?_set_ne h]
/-! ### iD -/
def iD (xs : List Int) : List D := xs.map D.int
theorem ints_len {xs : List Int} : (iD xs).length = xs.length := List.length_map _
theorem ints_app {xs ys : List Int} : iD xs ++ iD ys = iD (xs ++ ys) := (List.map_append ..).symm
theorem ints_mem {xs : List Int} {x : D} (h : x ∈ iD xs) : ∃ n ∈ xs, x = .int n := by
  obtain ⟨n, h1, h2⟩ := List.mem_map.mp h
  exact ⟨n, h1, h2.symm⟩
theorem ints_of {xs : List Int} : intsOf (iD xs) = some xs := intsOf_map xs
theorem plain_itup {n : Nat} {xs : List Int} (h : xs.length ≤ 100000) : plain (n + 1) (.tup (iD xs)) = true := plain_ints h
theorem plain_ilst {n : Nat} {xs : List Int} (h : xs.length ≤ 100000) : plain (n + 1) (.lst (iD xs)) = true := plain_lst_of (by rw [ints_len]; exact h) (plains_ints xs)
theorem toPs_map : ∀ ds : List D, toPs ds = ds.map toP
  | [] => rfl
  | d :: r => by simp [toPs, toPs_map r]
theorem atI_ints {xs : List Int} {i : Int} (h0 : 0 ≤ i) (h1 : i < (xs.length : Int)) : ∃ n, atI (iD xs) i = some (.int n) ∧ n ∈ xs ∧ xs[i.toNat]? = some n := by
  obtain ⟨x, e1, e2, e3⟩ := atI_pos (xs := iD xs) h0 (by rw [ints_len]; exact h1)
  obtain ⟨n, hn, rfl⟩ := ints_mem e2
  refine ⟨n, e1, hn, ?_⟩
  unfold iD at e3
  rw [List.getElem?_map] at e3
  cases c : xs[i.toNat]? with
  | none => rw [c] at e3; cases e3
  | some m => rw [c] at e3; cases e3; rfl
/-- equality of iD' rows -/
theorem eqvs_ints : ∀ xs ys : List Int, PyData.eqvAll (toPs (iD xs)) (toPs (iD ys)) = decide (xs = ys)
  | [], [] => rfl
  | [], y :: ys => rfl
  | x :: xs, [] => rfl
  | x :: xs, y :: ys => by
    show (PyData.eqv (.int x) (.int y) && PyData.eqvAll (toPs (iD xs)) (toPs (iD ys))) = _
    rw [eqvs_ints xs ys]
    have e : PyData.eqv (.int x) (.int y) = (x == y) := rfl
    rw [e]
    by_cases c : x = y
    · subst c
      simp
    · simp [c]
theorem eqP_itup {xs ys : List Int} : eqP (.tup (iD xs)) (.tup (iD ys)) = decide (xs = ys) := eqvs_ints xs ys
theorem eqP_ilst {xs ys : List Int} : eqP (.lst (iD xs)) (.lst (iD ys)) = decide (xs = ys) := eqvs_ints xs ys
theorem eqD_itup {xs ys : List Int} {μ : Mu} (h1 : xs.length ≤ 100000) (h2 : ys.length ≤ 100000) : eqD (.tup (iD xs)) (.tup (iD ys)) μ = .ok (.bl (decide (xs = ys))) μ := by
  rw [eqD_plain (plain_itup h1) (plain_itup h2), eqP_itup]
theorem neD_itup {xs ys : List Int} {μ : Mu} (h1 : xs.length ≤ 100000) (h2 : ys.length ≤ 100000) : neD (.tup (iD xs)) (.tup (iD ys)) μ = .ok (.bl (!decide (xs = ys))) μ := by
  rw [neD_plain (plain_itup h1) (plain_itup h2), eqP_itup]
theorem eqD_ilst {xs ys : List Int} {μ : Mu} (h1 : xs.length ≤ 100000) (h2 : ys.length ≤ 100000) : eqD (.lst (iD xs)) (.lst (iD ys)) μ = .ok (.bl (decide (xs = ys))) μ := by
  rw [eqD_plain (plain_ilst h1) (plain_ilst h2), eqP_ilst]
theorem neD_ilst {xs ys : List Int} {μ : Mu} (h1 : xs.length ≤ 100000) (h2 : ys.length ≤ 100000) : neD (.lst (iD xs)) (.lst (iD ys)) μ = .ok (.bl (!decide (xs = ys))) μ := by
  rw [neD_plain (plain_ilst h1) (plain_ilst h2), eqP_ilst]
/-! ### comprehensions -/
theorem lc_map {W : DA} {G : DG} {Te : DE} {vs : List Nat} {η : Env} {μ μ1 : Mu} {its : List D} (f : D → D) (hW : W η μ = .ok its μ1) (hl : its.length ≤ 16777216) (h : ∀ x ∈ its, ((G x (wipeD η vs) μ1).bind fun η' μ' => Te η' μ') = .ok (f x) μ1) :
    dLc W G dYes Te vs η μ = .ok (.lst (its.map f)) μ1 := by
  unfold dLc lcW
  rw [hW, bind_ok, chk_c hl, lcR_map f its [] h, noX_ok, bind_ok, List.nil_append]
theorem lc_inv {W : DA} {G : DG} {Te : DE} {vs : List Nat} {η : Env} {μ μ1 : Mu} {its : List D} (I : List D → List D → Mu → Prop) (hW : W η μ = .ok its μ1) (hl : its.length ≤ 16777216)
    (hs : ∀ x r acc μ, I (x :: r) acc μ → ∃ z μ', ((G x (wipeD η vs) μ).bind fun η' μ' => Te η' μ') = .ok z μ' ∧ I r (acc ++ [z]) μ') (h0 : I its [] μ1) :
    ∃ zs μ', dLc W G dYes Te vs η μ = .ok (.lst zs) μ' ∧ I [] zs μ' := by
  obtain ⟨acc, μ', e, h⟩ := lcR_inv (G := G) (C := dYes) (Te := Te) (η := wipeD η vs) I (fun x r acc μ hI => by
    obtain ⟨z, μ', e, h'⟩ := hs x r acc μ hI
    refine ⟨z, μ', ?_, h'⟩
    rw [← e]
    cases G x (wipeD η vs) μ with
    | ok η1 μa => rfl
    | exc _ _ => rfl
    | bad => rfl) its [] μ1 h0
  refine ⟨acc, μ', ?_, h⟩
  unfold dLc lcW
  rw [hW, bind_ok, chk_c hl, e, noX_ok, bind_ok]
theorem zip_ints {xs ys : List Int} {x : D} (h : x ∈ zipD2 (iD xs) (iD ys)) : ∃ a b, x = .tup [.int a, .int b] ∧ (a, b) ∈ xs.zip ys := by
  unfold zipD2 iD at h
  rw [List.zipWith_map, List.zipWith_eq_zipWith_take_min] at h
  obtain ⟨i, hi, e⟩ := List.mem_iff_getElem.mp h
  rw [List.getElem_zipWith] at e
  refine ⟨_, _, e.symm, ?_⟩
  rw [List.getElem_take, List.getElem_take]
  rw [List.length_zipWith, List.length_take, List.length_take] at hi
  refine List.mem_iff_getElem.mpr ⟨i, by rw [List.length_zip]; omega, ?_⟩
  rw [List.getElem_zip]
/-- [f a b for a, b in zip(xs, ys)] -/
theorem lc_zip {A B : DE} {i j : Nat} {Te : DE} {η : Env} {μ μ1 μ2 : Mu} {d1 d2 : D} {xs ys : List Int} (f : Int → Int → D) (hA : A η μ = .ok d1 μ1) (hB : B η μ1 = .ok d2 μ2) (h1 : still d1 = some (iD xs)) (h2 : still d2 = some (iD ys)) (hl : xs.length ≤ 16777216)
    (h : ∀ a b, (a, b) ∈ xs.zip ys → Te ((((η.set j none).set i none).set i (some (.int a))).set j (some (.int b))) μ2 = .ok (f a b) μ2) :
    dLc (dZip2 (dCons A (dCons B dNil))) (dGTup 2 (dGCons (dName i) (dGCons (dName j) dGNil))) dYes Te [i, j] η μ = .ok (.lst (List.zipWith f xs ys)) μ2 := by
  have e : (zipD2 (iD xs) (iD ys)).map (fun x => match x with | .tup [.int a, .int b] => f a b | _ => .non) = List.zipWith f xs ys := by
    unfold zipD2 iD
    rw [List.zipWith_map, List.map_zipWith]
  rw [← e]
  refine lc_map _ ?_ ?_ fun x hx => ?_
  · simp only [dZip2, dCons, dNil, hA, hB, bind_ok, h1, h2, okO_some]
  · rw [zipD2_len, ints_len]; omega
  · obtain ⟨a, b, rfl, hm⟩ := zip_ints hx
    have q := h a b hm
    simp only [dGTup, dGCons, dGNil, dName, List.length_cons, List.length_nil, if_true, bind_ok, wipeD]
    exact q
theorem zip3_ints {xs ys zs : List Int} {x : D} (h : x ∈ zipD3 (iD xs) (iD ys) (iD zs)) : ∃ a b c, x = .tup [.int a, .int b, .int c] ∧ (a, b, c) ∈ xs.zip (ys.zip zs) := by
  unfold zipD3 iD at h
  obtain ⟨i, hi, e⟩ := List.mem_iff_getElem.mp h
  simp only [List.getElem_zipWith, List.getElem_map] at e
  refine ⟨_, _, _, e.symm, ?_⟩
  simp only [List.length_zipWith, List.length_map] at hi
  refine List.mem_iff_getElem.mpr ⟨i, by simp only [List.length_zip]; omega, ?_⟩
  simp only [List.getElem_zip]
def zip3W {α β γ δ : Type} (f : α → β → γ → δ) (xs : List α) (ys : List β) (zs : List γ) : List δ := List.zipWith (fun x p => f x p.1 p.2) xs (ys.zip zs)
theorem lc_zip3 {A B C : DE} {i j k : Nat} {Te : DE} {η : Env} {μ μ1 μ2 μ3 : Mu} {d1 d2 d3 : D} {xs ys zs : List Int} (f : Int → Int → Int → D) (hA : A η μ = .ok d1 μ1) (hB : B η μ1 = .ok d2 μ2) (hC : C η μ2 = .ok d3 μ3) (h1 : still d1 = some (iD xs)) (h2 : still d2 = some (iD ys)) (h3 : still d3 = some (iD zs)) (hl : xs.length ≤ 16777216)
    (h : ∀ a b c, (a, b, c) ∈ xs.zip (ys.zip zs) → Te ((((((η.set k none).set j none).set i none).set i (some (.int a))).set j (some (.int b))).set k (some (.int c))) μ3 = .ok (f a b c) μ3) :
    dLc (dZip3 (dCons A (dCons B (dCons C dNil)))) (dGTup 3 (dGCons (dName i) (dGCons (dName j) (dGCons (dName k) dGNil)))) dYes Te [i, j, k] η μ = .ok (.lst (zip3W f xs ys zs)) μ3 := by
  have e : (zipD3 (iD xs) (iD ys) (iD zs)).map (fun x => match x with | .tup [.int a, .int b, .int c] => f a b c | _ => .non) = zip3W f xs ys zs := by
    clear h hA hB hC h1 h2 h3 hl
    unfold zipD3 iD zip3W
    induction xs generalizing ys zs with
    | nil => simp
    | cons x xs ih =>
      cases ys with
      | nil => simp
      | cons y ys =>
        cases zs with
        | nil => simp
        | cons z zs =>
          simp only [List.map_cons, List.zipWith_cons_cons, List.zip_cons_cons]
          rw [ih]
  rw [← e]
  refine lc_map _ ?_ ?_ fun x hx => ?_
  · simp only [dZip3, dCons, dNil, hA, hB, hC, bind_ok, h1, h2, h3, okO_some]
  · rw [zipD3_len, ints_len]; omega
  · obtain ⟨a, b, c, rfl, hm⟩ := zip3_ints hx
    have q := h a b c hm
    simp only [dGTup, dGCons, dGNil, dName, List.length_cons, List.length_nil, if_true, bind_ok, wipeD]
    exact q
/-- [f x for x in xs] -/
theorem lc_seq {S : DE} {i : Nat} {Te : DE} {η : Env} {μ μ1 : Mu} {d : D} {xs : List D} (f : D → D) (hS : S η μ = .ok d μ1) (hi : itemsOf d = some xs) (hl : xs.length ≤ 16777216) (h : ∀ x ∈ xs, Te ((η.set i none).set i (some x)) μ1 = .ok (f x) μ1) :
    dLc (dSeqI S) (dName i) dYes Te [i] η μ = .ok (.lst (xs.map f)) μ1 := by
  refine lc_map f ?_ hl fun x hx => ?_
  · simp only [dSeqI, hS, bind_ok, hi, okO_some]
  · simp only [dName, bind_ok, wipeD]
    exact h x hx
theorem range_mem {i : Int} {n : Nat} {x : D} (h : x ∈ rangeD i n) : ∃ k : Nat, k < n ∧ x = .int (i + k) := by
  obtain ⟨k, hk, e⟩ := List.mem_iff_getElem.mp h
  rw [range_len] at hk
  refine ⟨k, hk, ?_⟩
  rw [← e]
  have q := range_get (i := i) hk
  rw [List.getElem?_eq_getElem (by rw [range_len]; exact hk)] at q
  exact Option.some.inj q
theorem rng_ok {T : DA} {η : Env} {μ μ1 : Mu} {n : Int} (h : T η μ = .ok [.int n] μ1) (h1 : -(2 ^ 62) ≤ n) (h2 : n < 2 ^ 62) : dRng1 T η μ = .ok (rangeD 0 n.toNat) μ1 := by
  simp only [dRng1, h, bind_ok]
  exact grd_pos ⟨h1, h2⟩
/-! ### what no longer changes -/
mutual
def clean : D → Bool
  | .tup xs => cleans xs
  | .lst xs => cleans xs
  | .cell _ => false
  | .obj _ _ ds => cleans ds
  | .dK _ ds => cleans ds
  | .dT _ ds => cleans ds
  | .non => true
  | .bl _ => true
  | .int _ => true
  | .str _ => true
  | .ty _ => true
  | .cls _ => true
  | .fn _ => true
  | .scr _ => true
def cleans : List D → Bool
  | [] => true
  | x :: r => clean x && cleans r
end
mutual
theorem clean_nn {n : Nat} : ∀ d : D, clean d = true → nn n d = true
  | .tup xs, h => by simp only [nn]; exact cleans_nn xs (by simpa [clean] using h)
  | .lst xs, h => by simp only [nn]; exact cleans_nn xs (by simpa [clean] using h)
  | .cell _, h => by simp [clean] at h
  | .obj _ _ ds, h => by simp only [nn]; exact cleans_nn ds (by simpa [clean] using h)
  | .dK _ ds, h => by simp only [nn]; exact cleans_nn ds (by simpa [clean] using h)
  | .dT _ ds, h => by simp only [nn]; exact cleans_nn ds (by simpa [clean] using h)
  | .non, _ => by simp [nn]
  | .bl _, _ => by simp [nn]
  | .int _, _ => by simp [nn]
  | .str _, _ => by simp [nn]
  | .ty _, _ => by simp [nn]
  | .cls _, _ => by simp [nn]
  | .fn _, _ => by simp [nn]
  | .scr _, _ => by simp [nn]
theorem cleans_nn {n : Nat} : ∀ ds : List D, cleans ds = true → nns n ds = true
  | [], _ => by simp [nns]
  | x :: r, h => by
    simp only [cleans, Bool.and_eq_true] at h
    simp only [nns, Bool.and_eq_true]
    exact ⟨clean_nn x h.1, cleans_nn r h.2⟩
end
theorem cleans_of : ∀ {xs : List D}, (∀ x ∈ xs, clean x = true) → cleans xs = true
  | [], _ => by simp [cleans]
  | x :: r, h => by
    simp only [cleans, Bool.and_eq_true]
    exact ⟨h x List.mem_cons_self, cleans_of fun y hy => h y (List.mem_cons_of_mem _ hy)⟩
theorem cleans_mem : ∀ {xs : List D}, cleans xs = true → ∀ x ∈ xs, clean x = true
  | [], _, x, hx => by cases hx
  | y :: r, h, x, hx => by
    simp only [cleans, Bool.and_eq_true] at h
    rcases List.mem_cons.mp hx with rfl | hx
    · exact h.1
    · exact cleans_mem h.2 x hx
mutual
theorem plain_clean : ∀ (n : Nat) (d : D), plain n d = true → clean d = true
  | n, .non, _ => by simp [clean]
  | n, .bl _, _ => by simp [clean]
  | n, .int _, _ => by simp [clean]
  | n, .str s, h => by simp [clean]
  | 0, .tup xs, h => absurd h plain_tup0
  | 0, .lst xs, h => absurd h plain_lst0
  | n + 1, .tup xs, h => by simp only [clean]; exact plains_clean n xs (plain_tup h).2
  | n + 1, .lst xs, h => by simp only [clean]; exact plains_clean n xs (plain_lst h).2
  | n, .ty _, h => by cases n <;> simp [plain] at h
  | n, .cls _, h => by cases n <;> simp [plain] at h
  | n, .cell _, h => by cases n <;> simp [plain] at h
  | n, .obj _ _ _, h => by cases n <;> simp [plain] at h
  | n, .scr _, h => by cases n <;> simp [plain] at h
  | n, .fn _, h => by cases n <;> simp [plain] at h
  | n, .dK _ _, h => by cases n <;> simp [plain] at h
  | n, .dT _ _, h => by cases n <;> simp [plain] at h
theorem plains_clean : ∀ (n : Nat) (ds : List D), plains n ds = true → cleans ds = true
  | n, [], _ => by simp [cleans]
  | n, x :: r, h => by
    rw [plains_cons, Bool.and_eq_true] at h
    simp only [cleans, Bool.and_eq_true]
    exact ⟨plain_clean n x h.1, plains_clean n r h.2⟩
end
def cleanM : MO → Bool
  | .lst xs => cleans xs
  | .ins _ _ xs => cleans xs
  | .dK _ xs => cleans xs
  | .dT _ xs => cleans xs
def Clean (μ : Mu) : Prop := ∀ m ∈ μ, cleanM m = true
theorem cleanM_nn {n : Nat} {m : MO} (h : cleanM m = true) : nnM n m = true := by
  cases m <;> exact cleans_nn _ h
theorem Clean.set {μ : Mu} {i : Nat} {m : MO} (h : Clean μ) (hm : cleanM m = true) : Clean (μ.set i m) := fun x hx => by
  rcases List.mem_or_eq_of_mem_set hx with h1 | h1
  · exact h x h1
  · rw [h1]; exact hm
theorem mapM_some {f : D → Option D} : ∀ {xs : List D}, (∀ x ∈ xs, f x = some x) → xs.mapM f = some xs
  | [], _ => rfl
  | x :: r, h => by
    rw [List.mapM_cons, h x List.mem_cons_self, mapM_some fun y hy => h y (List.mem_cons_of_mem _ hy)]
    rfl
theorem frz_clean {n k : Nat} {μ : Mu} {d : D} (h : clean d = true) : frz n μ k d = some d := by
  cases k <;> simp only [frz, clean_nn d h, if_true]
theorem keep_clean {μ0 μ1 ν : Mu} (hl : μ1.length = μ0.length) (h : Clean μ1) : keepMu μ0 (μ1 ++ ν) = true := by
  unfold keepMu
  rw [← hl, List.take_left, Bool.or_eq_true]
  refine .inr (List.all_eq_true.mpr fun m hm => cleanM_nn (h m hm))
theorem fz_val {μ0 μ1 ν : Mu} {d : D} (hl : μ1.length = μ0.length) (h : Clean μ1) (hd : clean d = true) : fz μ0 (.ok d (μ1 ++ ν)) = .ok d μ1 := by
  unfold fz
  simp only
  by_cases c : (μ1 ++ ν).length ≤ μ0.length
  · rw [if_pos c]
    have e : ν = [] := by
      rw [List.length_append] at c
      exact List.length_eq_zero_iff.mp (by omega)
    rw [e, List.append_nil]
  · rw [if_neg c, if_pos (keep_clean hl h), frz_clean hd, okO_some, ← hl, List.take_left]
theorem fz_lst {μ0 μ1 ν : Mu} {xs : List D} (hl : μ1.length = μ0.length) (h : Clean μ1) (hx : cleans xs = true) : fz μ0 (.ok (.cell μ0.length) (μ1 ++ .lst xs :: ν)) = .ok (.lst xs) μ1 := by
  unfold fz
  simp only
  rw [if_neg (by rw [List.length_append, List.length_cons]; omega), if_pos (keep_clean hl h)]
  have e : (μ1 ++ .lst xs :: ν)[μ0.length]? = some (.lst xs) := by
    rw [← hl, List.getElem?_append_right (Nat.le_refl _), Nat.sub_self]
    rfl
  have e2 : frz μ0.length (μ1 ++ .lst xs :: ν) 8 (.cell μ0.length) = some (.lst xs) := by
    unfold frz
    rw [if_neg (by simp [nn])]
    simp only [e]
    rw [mapM_some fun x hx' => frz_clean (k := 7) (cleans_mem hx x hx')]
    rfl
  rw [e2, okO_some, ← hl, List.take_left]
theorem fz_obj {μ0 μ1 ν : Mu} {c : Str} {ns : List Str} {xs : List D} (hl : μ1.length = μ0.length) (h : Clean μ1) (hx : cleans xs = true) : fz μ0 (.ok (.cell μ0.length) (μ1 ++ .ins c ns xs :: ν)) = .ok (.obj c ns xs) μ1 := by
  unfold fz
  simp only
  rw [if_neg (by rw [List.length_append, List.length_cons]; omega), if_pos (keep_clean hl h)]
  have e : (μ1 ++ .ins c ns xs :: ν)[μ0.length]? = some (.ins c ns xs) := by
    rw [← hl, List.getElem?_append_right (Nat.le_refl _), Nat.sub_self]
    rfl
  have e2 : frz μ0.length (μ1 ++ .ins c ns xs :: ν) 8 (.cell μ0.length) = some (.obj c ns xs) := by
    unfold frz
    rw [if_neg (by simp [nn])]
    simp only [e]
    rw [mapM_some fun x hx' => frz_clean (k := 7) (cleans_mem hx x hx')]
    rfl
  rw [e2, okO_some, ← hl, List.take_left]
end
end DX

namespace DX
open PySem L2
noncomputable section
/-! ### texts by their signs -/
def wS (cs : List Nat) : Str := ⟨cs.toArray⟩
def sD (cs : List Nat) : D := .str (wS cs)
theorem wS_len {a : List Nat} : (wS a).length = a.length := by simp [wS, Str.length]
theorem wS_app {a b : List Nat} : wS a ++ wS b = wS (a ++ b) := by
  show Str.append (wS a) (wS b) = _
  simp [wS, Str.append]
theorem wS_inj {a b : List Nat} (h : wS a = wS b) : a = b := by
  have e := congrArg (fun s : Str => s.cps.toList) h
  simpa [wS] using e
theorem wS_of (s : Str) : wS s.cps.toList = s := by simp [wS]
theorem wS_cps {a : List Nat} : (wS a).cps.toList = a := by simp [wS]
theorem sD_add {a b : List Nat} {μ : Mu} (h : a.length + b.length ≤ 16777216) : addD (sD a) (sD b) μ = .ok (sD (a ++ b)) μ := by
  show chk ((wS a).length + (wS b).length) _ = _
  rw [chk_c (by rw [wS_len, wS_len]; exact h), wS_app]
  rfl
theorem sD_ix {a : List Nat} {i : Int} {μ : Mu} (h : a.length ≤ 16777216) : ixD (sD a) (.int i) μ = okO (atI a i) fun c => .ok (sD [c]) μ := by
  show chk (wS a).length (okO (atI (wS a).cps.toList i) _) = _
  rw [chk_c (by rw [wS_len]; exact h), wS_cps]
  rfl
theorem sD_len {a : List Nat} {μ : Mu} (h : a.length ≤ 16777216) : lenD [sD a] μ = .ok (.int a.length) μ := by
  show chk (wS a).length (Res.ok (D.int (wS a).length) μ) = _
  rw [chk_c (by rw [wS_len]; exact h), wS_len]
theorem sD_sl {a : List Nat} {lo hi : Option Int} {μ : Mu} (h : a.length ≤ 16777216) : slD (sD a) lo hi μ = .ok (sD (cut a lo hi)) μ := by
  show chk (wS a).length (Res.ok (D.str (cutS (wS a) lo hi)) μ) = _
  rw [chk_c (by rw [wS_len]; exact h)]
  have e : cutS (wS a) lo hi = wS (cut a lo hi) := by
    unfold cutS cut
    rw [wS_len, wS_cps]
    rfl
  rw [e]
  rfl
theorem sD_items {a : List Nat} : itemsOf (sD a) = some (a.map fun c => sD [c]) := by
  show some ((wS a).cps.toList.map _) = _
  rw [wS_cps]
  rfl
theorem sD_in {c : Nat} {z : List Nat} {f : Bool → Bool} {μ : Mu} : inSC f (sD [c]) (sD z) μ = .ok (.bl (f (decide (c ∈ z)))) μ := by
  show Res.ok (D.bl (f (strIn ⟨#[c]⟩ (wS z)))) μ = _
  rw [strIn_one, wS_cps]
theorem strsOf_sD : ∀ ws : List (List Nat), strsOf (ws.map sD) = some (ws.map wS)
  | [] => rfl
  | w :: r => by
    show (strsOf (r.map sD)).map (wS w :: ·) = _
    rw [strsOf_sD r]
    rfl
theorem wS_join (a : List Nat) (ws : List (List Nat)) : Txt.join (wS a) (ws.map wS) = wS (TL.joinL a ws) := SX.join_S a ws
theorem sD_join {a : List Nat} {ws : List (List Nat)} {μ : Mu} (h : (ws.map List.length).sum + ws.length * a.length ≤ 16777216) : joinD (wS a) (.lst (ws.map sD)) μ = .ok (sD (TL.joinL a ws)) μ := by
  unfold joinD
  simp only [seqOf, asL, okO_some, strsOf_sD]
  rw [grd_pos, wS_join]
  · rfl
  · rw [List.map_map, List.length_map, wS_len]
    have e : (fun x => x.length) ∘ wS = List.length := by
      funext w
      exact wS_len
    rw [e]
    exact h
theorem joinL_nil : ∀ ws : List (List Nat), TL.joinL [] ws = ws.flatten
  | [] => rfl
  | [w] => by simp [TL.joinL]
  | w :: v :: r => by
    have := joinL_nil (v :: r)
    simp only [TL.joinL, List.flatten_cons] at this ⊢
    rw [this]
    simp
def Sg (cs : List Nat) : Prop := ∀ c ∈ cs, c < 1114112
theorem Sg.ok {a : List Nat} (h : Sg a) : PyData.strOk (wS a) = true := by
  unfold PyData.strOk wS
  rw [List.all_toArray, List.all_eq_true]
  exact fun c hc => decide_eq_true (h c hc)
theorem sD_plain {n : Nat} {a : List Nat} (h : Sg a) : plain n (sD a) = true := by
  show plain n (.str (wS a)) = true
  rw [plain_str]
  exact h.ok
theorem sD_eqP {a b : List Nat} : eqP (sD a) (sD b) = decide (a = b) := by
  show (wS a == wS b) = _
  by_cases c : a = b
  · subst c; simp
  · have : wS a ≠ wS b := fun h => c (wS_inj h)
    rw [beq_eq_false_iff_ne.mpr this, decide_eq_false c]
theorem sD_eq {a b : List Nat} {μ : Mu} (ha : Sg a) (hb : Sg b) : eqD (sD a) (sD b) μ = .ok (.bl (decide (a = b))) μ := by
  rw [eqD_plain (sD_plain ha) (sD_plain hb), sD_eqP]
theorem sD_ne {a b : List Nat} {μ : Mu} (ha : Sg a) (hb : Sg b) : neD (sD a) (sD b) μ = .ok (.bl (!decide (a = b))) μ := by
  rw [neD_plain (sD_plain ha) (sD_plain hb), sD_eqP]
theorem foldl_app : ∀ (n : Nat) (a : List Nat) (acc : List Nat), (List.replicate n a.toArray).foldl (· ++ ·) acc.toArray = (acc ++ (List.replicate n a).flatten).toArray
  | 0, a, acc => by simp
  | n + 1, a, acc => by
    rw [List.replicate_succ, List.foldl_cons, List.append_toArray, foldl_app n a (acc ++ a), List.replicate_succ, List.flatten_cons, List.append_assoc]
theorem wS_rep (n : Nat) (a : List Nat) : strRep n (wS a) = wS (List.replicate n a).flatten := by
  unfold strRep wS
  have := foldl_app n a []
  simp only [List.nil_append] at this
  exact congrArg Str.mk this
theorem sD_mul {a : List Nat} {k : Int} {μ : Mu} (h1 : -1000 ≤ k) (h2 : k ≤ 1000) (h3 : a.length ≤ 1000) : mulD (sD a) (.int k) μ = .ok (sD (List.replicate k.toNat a).flatten) μ := by
  show grd (-1000 ≤ k ∧ k ≤ 1000 ∧ (wS a).length ≤ 1000) (Res.ok (D.str (strRep k.toNat (wS a))) μ) = _
  rw [grd_pos ⟨h1, h2, by rw [wS_len]; exact h3⟩, wS_rep]
  rfl
abbrev abc : List Nat := [97, 98, 99, 100, 101, 102, 103, 104, 105, 106, 107, 108, 109, 110, 111, 112, 113, 114, 115, 116, 117, 118, 119, 120, 121, 122]
theorem lit_abc : D.str "abcdefghijklmnopqrstuvwxyz" = sD abc := by
  have : ("abcdefghijklmnopqrstuvwxyz" : Str) = wS abc := by decide +kernel
  unfold sD
  rw [← this]
theorem lit_e : ("" : Str) = wS [] := by decide +kernel
theorem abc_at {i : Int} (h0 : 0 ≤ i) (h1 : i < 26) : atI abc i = some (97 + i.toNat) := by
  obtain ⟨k, rfl⟩ : ∃ k : Nat, i = k := ⟨i.toNat, by omega⟩
  have hk : k < 26 := by omega
  rw [Int.toNat_natCast]
  refine atI_nat ?_
  have : ∀ k : Fin 26, abc[k.val]? = some (97 + k.val) := by decide
  exact this ⟨k, hk⟩
end
end DX

namespace Lw
open PySem L2 DX
noncomputable section
def top (i : Nat) : Stmt := PySem.Challenge.pw_evenbarter_k09_texts_of_bundles.main.body.getD i (.Pass ⟨0, 0, 0, 0⟩)
def meth (i j : Nat) : Stmt := match top i with
  | .ClassDef _ _ _ b _ _ _ _ _ _ _ => b.getD j (.Pass ⟨0, 0, 0, 0⟩)
  | s => s
/-! ### what each def does to data -/
def T_law_draw : DS := (dSeq (dIf (dAnd (dB (dOp ltD (dOp ixD (dVar 0) (dC (.int 2))) (dC (.int 1)))) (dB (dOp ltD (dOp ixD (dVar 0) (dC (.int 1))) (dCB lenD (dCons (dOp ixD (dVar 0) (dC (.int 0))) dNil))))) (dSeq (dAsg (dOp ixD (dOp ixD (dVar 0) (dC (.int 0))) (dOp ixD (dVar 0) (dC (.int 1)))) (dName 2))
  (dSeq (dAsg (dOp addD (dOp ixD (dVar 0) (dC (.int 1))) (dC (.int 1))) (dGSub (dVar 0) (dC (.int 1))))
  (dIf (dB (dOp (cmpD fGe) (dVar 2) (dOp powD (dC (.int 10)) (dC (.int 18))))) (dAsg (dVar 2) (dGSub (dVar 0) (dC (.int 2)))) (dAsg (dOp modD (dCB intD (dCons (dOp addD (dOp addD (dOp mulD (dOp ixD (dVar 0) (dC (.int 3))) (dC (.int 40692))) (dOp mulD (dVar 2) (dC (.int 48271)))) (dC (.int 17))) dNil)) (dC (.int 2147483647))) (dGSub (dVar 0) (dC (.int 3))))))) dNext)
  (dSeq (dIf (dB (dOp (cmpD fGt) (dOp ixD (dVar 0) (dC (.int 2))) (dC (.int 0)))) (dSeq (dAsg (dOp modD (dCB intD (dCons (dOp ixD (dVar 0) (dC (.int 2))) dNil)) (dVar 1)) (dName 3))
  (dSeq (dAsg (dOp divD (dOp ixD (dVar 0) (dC (.int 2))) (dVar 1)) (dGSub (dVar 0) (dC (.int 2))))
  (dRet (dVar 3)))) dNext)
  (dSeq (dAsg (dOp modD (dCB intD (dCons (dOp addD (dOp mulD (dOp ixD (dVar 0) (dC (.int 3))) (dC (.int 16807))) (dC (.int 11))) dNil)) (dC (.int 2147483647))) (dGSub (dVar 0) (dC (.int 3))))
  (dRet (dOp modD (dCB intD (dCons (dOp divD (dOp modD (dCB intD (dCons (dOp mulD (dOp ixD (dVar 0) (dC (.int 3))) (dOp ixD (dVar 0) (dC (.int 3)))) dNil)) (dC (.int 998244353))) (dC (.int 7))) dNil)) (dVar 1))))))
def f_law_draw : FS := defR fz 2 4 T_law_draw
def T_law_any : DS := (dRet (dOp ixD (dVar 1) (dCB f_law_draw (dCons (dVar 0) (dCons (dCB lenD (dCons (dVar 1) dNil)) dNil)))))
def f_law_any : FS := defR fz 2 2 T_law_any
def Q1_law_begin : DE := (dCB intD (dCons (dVar 1) dNil))
def L1_law_begin : DE := (dLc (dSeqI (dSl slD (dVar 0) dNoPart (dPart (dC (.int 63))))) (dName 1) dYes Q1_law_begin [1])
def B1_law_begin : DS := (dAsg (dOp modD (dCB intD (dCons (dOp addD (dOp mulD (dVar 3) (dC (.int 69621))) (dVar 1)) dNil)) (dC (.int 2147483629))) (dName 3))
def T_law_begin : DS := (dSeq (dAsg L1_law_begin (dName 2))
  (dSeq (dAsg (dOp addD (dC (.int 3824)) (dOp mulD (dC (.int 61)) (dCB lenD (dCons (dVar 2) dNil)))) (dName 3))
  (dSeq (dFor (dSeqI (dVar 2)) (dName 1)
    B1_law_begin)
  (dRet (dLstM (dCons (dVar 2) (dCons (dC (.int 0)) (dCons (dC (.int 0)) (dCons (dVar 3) dNil)))))))))
def f_law_begin : FS := defR kp 1 4 T_law_begin
def B1_law_loose : DS := (dIf (dOr (dB (dOp (cmpD fGt) (dVar 8) (dC (.int 0)))) (dB (dOp eqD (dCB f_law_draw (dCons (dVar 0) (dCons (dC (.int 6)) dNil))) (dC (.int 0))))) (dDrop (dAppend (dVar 4) (dCons (dTup (dCons (dVar 8) (dCons (dVar 6) dNil))) dNil))) dNext)
def B2_law_loose : DS := (dSeq (dAsg (dCB f_law_draw (dCons (dVar 0) (dCons (dOp addD (dVar 5) (dC (.int 1))) dNil))) (dName 7))
  (dFor (dSeqI (dTup (dCons (dVar 7) (dCons (dOp subD (dVar 5) (dVar 7)) dNil)))) (dName 8)
    B1_law_loose))
def B3_law_loose : DS := (dSeq (dAsg (dIfE (dAnd (dB (dOp eqD (dVar 8) (dC (.int 1)))) (dB (dOp eqD (dCB f_law_draw (dCons (dVar 0) (dCons (dC (.int 2)) dNil))) (dC (.int 0))))) (dVar 6) (dOp addD (dOp addD (dCB strD (dCons (dVar 8) dNil)) (dC (.str " "))) (dVar 6))) (dName 11))
  (dDrop (dAppend (dVar 10) (dCons (dIfE (dB (dOp eqD (dCB f_law_draw (dCons (dVar 0) (dCons (dC (.int 4)) dNil))) (dC (.int 0)))) (dOp addD (dOp addD (dOp mulD (dC (.str "(")) (dVar 3)) (dVar 11)) (dOp mulD (dC (.str ")")) (dVar 3))) (dVar 11)) dNil))))
def I1_law_loose : DS := (dIf (dB (dOp eqD (dVar 10) (dLst dNil))) (dRet (dOp addD (dOp addD (dOp addD (dOp addD (dVar 12) (dOp mulD (dC (.str "(")) (dVar 3))) (dC (.str "0"))) (dOp mulD (dC (.str ")")) (dVar 3))) (dVar 12))) dNext)
def S1_law_loose : DS := (dRet (dOp addD (dOp addD (dVar 12) (dM1 joinD (dOp addD (dOp addD (dVar 12) (dC (.str "+"))) (dOp mulD (dC (.str " ")) (dCB f_law_draw (dCons (dVar 0) (dCons (dC (.int 2)) dNil))))) (dVar 10))) (dVar 12)))
def S2_law_loose : DS := (dSeq (dAsg (dOp mulD (dC (.str " ")) (dCB f_law_draw (dCons (dVar 0) (dCons (dC (.int 3)) dNil)))) (dName 12))
  (dSeq I1_law_loose
  S1_law_loose))
def S3_law_loose : DS := (dSeq (dAsg (dCB f_law_draw (dCons (dVar 0) (dCons (dOp addD (dCB lenD (dCons (dVar 4) dNil)) (dC (.int 1))) dNil))) (dName 9))
  (dSeq (dAsg (dLstM dNil) (dName 10))
  (dSeq (dFor (dSeqI (dOp addD (dSl slD (dVar 4) (dPart (dVar 9)) dNoPart) (dSl slD (dVar 4) dNoPart (dPart (dVar 9))))) (dGTup 2 (dGCons (dName 8) (dGCons (dName 6) dGNil)))
    B3_law_loose)
  S2_law_loose)))
def T_law_loose : DS := (dSeq (dAsg (dLstM dNil) (dName 4))
  (dSeq (dFor (dZip2 (dCons (dVar 1) (dCons (dVar 2) dNil))) (dGTup 2 (dGCons (dName 5) (dGCons (dName 6) dGNil)))
    B2_law_loose)
  S3_law_loose))
def f_law_loose : FS := defR fz 4 13 T_law_loose
def T_law_same (g_law_same : FS) : DS := (dSeq (dIf (dOr (dB (dIsN (dVar 1))) (dB (dIsN (dVar 0)))) (dRet (dAndV (dIsN (dVar 0)) (dIsN (dVar 1)))) dNext)
  (dSeq (dIf (dOr (dB (dCB isiD (dCons (dVar 1) (dCons (dC (.ty "bool")) dNil)))) (dB (dCB isiD (dCons (dVar 0) (dCons (dC (.ty "bool")) dNil))))) (dRet (dAndV (dCB isiD (dCons (dVar 1) (dCons (dC (.ty "bool")) dNil))) (dAndV (dCB isiD (dCons (dVar 0) (dCons (dC (.ty "bool")) dNil))) (dOp eqD (dVar 0) (dVar 1))))) dNext)
  (dSeq (dIf (dOr (dB (dCB isiD (dCons (dVar 1) (dCons (dC (.ty "int")) dNil)))) (dB (dCB isiD (dCons (dVar 1) (dCons (dC (.ty "str")) dNil))))) (dSeq (dAsg (dAndV (dOp eqD (dCB isiD (dCons (dVar 0) (dCons (dC (.ty "int")) dNil))) (dCB isiD (dCons (dVar 1) (dCons (dC (.ty "int")) dNil)))) (dOp eqD (dCB isiD (dCons (dVar 0) (dCons (dC (.ty "str")) dNil))) (dCB isiD (dCons (dVar 1) (dCons (dC (.ty "str")) dNil))))) (dName 2))
  (dRet (dAndV (dVar 2) (dOp eqD (dVar 0) (dVar 1))))) dNext)
  (dSeq (dIf (dOr (dB (dOp neD (dCB isiD (dCons (dVar 1) (dCons (dC (.ty "list")) dNil))) (dCB isiD (dCons (dVar 0) (dCons (dC (.ty "list")) dNil))))) (dB (dOp neD (dCB isiD (dCons (dVar 1) (dCons (dC (.ty "tuple")) dNil))) (dCB isiD (dCons (dVar 0) (dCons (dC (.ty "tuple")) dNil)))))) (dRet (dC (.bl false))) dNext)
  (dRet (dAndV (dOp eqD (dCB lenD (dCons (dVar 0) dNil)) (dCB lenD (dCons (dVar 1) dNil))) (dCB allD (dCons (dLc (dZip2 (dCons (dVar 0) (dCons (dVar 1) dNil))) (dGTup 2 (dGCons (dName 3) (dGCons (dName 4) dGNil))) dYes (dCB g_law_same (dCons (dVar 3) (dCons (dVar 4) dNil))) [3, 4]) dNil))))))))
def f_law_same : Nat → FS
  | 0 => fun _ _ => .bad
  | n + 1 => defR fz 2 5 (T_law_same (f_law_same n))
def Q1_law_some_bundle : DE := (dCB f_law_draw (dCons (dVar 0) (dCons (dOp addD (dVar 2) (dC (.int 1))) dNil)))
def L1_law_some_bundle : DE := (dLc (dRng1 (dCons (dVar 1) dNil)) (dName 3) dYes Q1_law_some_bundle [3])
def T_law_some_bundle : DS := (dRet (dCB tupD (dCons L1_law_some_bundle dNil)))
def f_law_some_bundle : FS := defR fz 3 4 T_law_some_bundle
def Q1_law_some_things : DE := (dOp ixD (dVar 2) (dCB f_law_draw (dCons (dVar 0) (dCons (dC (.int 26)) dNil))))
def L1_law_some_things : DE := (dLc (dRng1 (dCons (dCB f_law_draw (dCons (dVar 0) (dCons (dC (.int 6)) dNil))) dNil)) (dName 8) dYes Q1_law_some_things [8])
def Q2_law_some_things : DE := (dOp addD (dOp addD (dSl slD (dVar 3) dNoPart (dPart (dVar 4))) (dOp ixD (dVar 2) (dOp modD (dCB intD (dCons (dOp addD (dVar 5) (dOp mulD (dC (.int 7)) (dVar 8))) dNil)) (dC (.int 26))))) (dSl slD (dVar 3) (dPart (dVar 4)) dNoPart))
def L2_law_some_things : DE := (dLc (dRng1 (dCons (dVar 1) dNil)) (dName 8) dYes Q2_law_some_things [8])
def Q3_law_some_things : DE := (dOp ixD (dLst (dCons (dVar 7) (dCons (dOp addD (dVar 7) (dVar 7)) (dCons (dOp addD (dOp ixD (dVar 2) (dOp modD (dCB intD (dCons (dOp addD (dVar 5) (dC (.int 9))) dNil)) (dC (.int 26)))) (dSl slD (dVar 3) dNoPart (dPart (dC (.int 3))))) (dCons (dOp addD (dOp mulD (dVar 7) (dC (.int 4))) (dOp ixD (dVar 2) (dOp modD (dCB intD (dCons (dOp addD (dVar 5) (dC (.int 5))) dNil)) (dC (.int 26))))) dNil))))) (dVar 8))
def L3_law_some_things : DE := (dLc (dRng1 (dCons (dVar 1) dNil)) (dName 8) dYes Q3_law_some_things [8])
def T_law_some_things : DS := (dSeq (dAsg (dC (.str "abcdefghijklmnopqrstuvwxyz")) (dName 2))
  (dSeq (dAsg (dM1 joinD (dC (.str "")) L1_law_some_things) (dName 3))
  (dSeq (dAsg (dTup (dCons (dCB f_law_draw (dCons (dVar 0) (dCons (dOp addD (dCB lenD (dCons (dVar 3) dNil)) (dC (.int 1))) dNil))) (dCons (dCB f_law_draw (dCons (dVar 0) (dCons (dC (.int 26)) dNil))) (dCons (dCB f_law_draw (dCons (dVar 0) (dCons (dC (.int 2)) dNil))) dNil)))) (dGTup 3 (dGCons (dName 4) (dGCons (dName 5) (dGCons (dName 6) dGNil)))))
  (dSeq (dIf (dB (dOp eqD (dVar 6) (dC (.int 0)))) (dRet L2_law_some_things) dNext)
  (dSeq (dAsg (dOp ixD (dVar 2) (dVar 5)) (dName 7))
  (dRet L3_law_some_things))))))
def f_law_some_things : FS := defR fz 2 9 T_law_some_things
def B1_law_text_of : DS := (dIf (dB (dOp (cmpD fGt) (dVar 3) (dC (.int 0)))) (dDrop (dAppend (dVar 2) (dCons (dIfE (dB (dOp eqD (dVar 3) (dC (.int 1)))) (dVar 4) (dOp addD (dOp addD (dCB strD (dCons (dVar 3) dNil)) (dC (.str " "))) (dVar 4))) dNil))) dNext)
def T_law_text_of : DS := (dSeq (dAsg (dLstM dNil) (dName 2))
  (dSeq (dFor (dZip2 (dCons (dVar 0) (dCons (dVar 1) dNil))) (dGTup 2 (dGCons (dName 3) (dGCons (dName 4) dGNil)))
    B1_law_text_of)
  (dRet (dIfE (dB (dOp neD (dVar 2) (dLst dNil))) (dM1 joinD (dC (.str " + ")) (dVar 2)) (dC (.str "0"))))))
def f_law_text_of : FS := defR fz 2 5 T_law_text_of
def W1_format_bundle : DTs := (dB (dOp (cmpD fGt) (dVar 3) (dC (.int 0))))
def Q1_format_bundle : DE := (dIfE (dB (dOp eqD (dVar 3) (dC (.int 1)))) (dVar 4) (dJoin [(dFmt (dVar 3)), (dC (.str " ")), (dFmt (dVar 4))]))
def L1_format_bundle : DE := (dLc (dZip2 (dCons (dVar 0) (dCons (dVar 1) dNil))) (dGTup 2 (dGCons (dName 3) (dGCons (dName 4) dGNil))) W1_format_bundle Q1_format_bundle [3, 4])
def T_format_bundle : DS := (dSeq (dAsg L1_format_bundle (dName 2))
  (dRet (dIfE (dB (dOp neD (dVar 2) (dLst dNil))) (dM1 joinD (dC (.str " + ")) (dVar 2)) (dC (.str "0")))))
def f_format_bundle : FS := defR fz 2 5 T_format_bundle
def T_Reader_init : DS := (dSeq (dFldS "Reader" (dVar 0) (dVar 1) "source")
  (dFldS "Reader" (dVar 0) (dC (.int 0)) "at"))
def f_Reader_init : FS := defR fz 2 2 T_Reader_init
def C1_Reader_sign : DTs := (dAnd (dB (dOp ltD (dFld "Reader" (dVar 0) "at") (dCB lenD (dCons (dFld "Reader" (dVar 0) "source") dNil)))) (dB (dOp eqD (dOp ixD (dFld "Reader" (dVar 0) "source") (dFld "Reader" (dVar 0) "at")) (dC (.str " ")))))
def B1_Reader_sign : DS := (dFldA "Reader" (dVar 0) (dC (.int 1)) iaddD "at")
def T_Reader_sign : DS := (dSeq (dWhile 100000 C1_Reader_sign
    B1_Reader_sign)
  (dRet (dSl slD (dFld "Reader" (dVar 0) "source") (dPart (dFld "Reader" (dVar 0) "at")) (dPart (dOp addD (dFld "Reader" (dVar 0) "at") (dC (.int 1)))))))
def f_Reader_sign : FS := defR fz 1 1 T_Reader_sign
def T_Reader_expect : DS := (dSeq (dIf (dB (dOp neD (dMeth "Reader" "sign" f_Reader_sign (dVar 0) dNil) (dVar 1))) dNever dNext)
  (dFldA "Reader" (dVar 0) (dCB lenD (dCons (dVar 1) dNil)) iaddD "at"))
def f_Reader_expect : FS := defR fz 2 2 T_Reader_expect
def C1_Reader_run : DTs := (dAnd (dB (dOp ltD (dFld "Reader" (dVar 0) "at") (dCB lenD (dCons (dFld "Reader" (dVar 0) "source") dNil)))) (dB (dOp inSD (dOp ixD (dFld "Reader" (dVar 0) "source") (dFld "Reader" (dVar 0) "at")) (dVar 1))))
def B1_Reader_run : DS := (dSeq (dIf (dB (dOp eqD (dOp subD (dFld "Reader" (dVar 0) "at") (dVar 3)) (dVar 2))) dNever dNext)
  (dSeq (dIf (dAnd (dB (dOp eqD (dVar 1) (dC (.str "0123456789")))) (dAnd (dB (dOp (cmpD fGt) (dFld "Reader" (dVar 0) "at") (dVar 3))) (dB (dOp eqD (dOp ixD (dFld "Reader" (dVar 0) "source") (dVar 3)) (dC (.str "0")))))) dNever dNext)
  (dFldA "Reader" (dVar 0) (dC (.int 1)) iaddD "at")))
def T_Reader_run : DS := (dSeq (dAsg (dFld "Reader" (dVar 0) "at") (dName 3))
  (dSeq (dWhile 100000 C1_Reader_run
    B1_Reader_run)
  (dSeq (dIf (dAnd (dB (dOp (cmpD fGt) (dFld "Reader" (dVar 0) "at") (dVar 3))) (dAnd (dB (dOp ltD (dFld "Reader" (dVar 0) "at") (dCB lenD (dCons (dFld "Reader" (dVar 0) "source") dNil)))) (dB (dOp inSD (dOp ixD (dFld "Reader" (dVar 0) "source") (dFld "Reader" (dVar 0) "at")) (dOp addD (dC (.str "abcdefghijklmnopqrstuvwxyz")) (dC (.str "0123456789"))))))) dNever dNext)
  (dRet (dSl slD (dFld "Reader" (dVar 0) "source") (dPart (dVar 3)) (dPart (dFld "Reader" (dVar 0) "at")))))))
def f_Reader_run : FS := defR fz 3 4 T_Reader_run
def T_Reader_many : DS := (dSeq (dIf (dOr (dB (dOp eqD (dMeth "Reader" "sign" f_Reader_sign (dVar 0) dNil) (dC (.str "")))) (dB (dOp notInSD (dMeth "Reader" "sign" f_Reader_sign (dVar 0) dNil) (dC (.str "0123456789"))))) (dRet (dC .non)) dNext)
  (dRet (dCB intVD (dCons (dMeth "Reader" "run" f_Reader_run (dVar 0) (dCons (dC (.str "0123456789")) (dCons (dC (.int 3)) dNil))) dNil))))
def f_Reader_many : FS := defR fz 1 1 T_Reader_many
def T_Reader_atom (g_Reader_atom g_Reader_terms : FS) : DS := (dSeq (dAsg (dMeth "Reader" "sign" f_Reader_sign (dVar 0) dNil) (dName 3))
  (dSeq (dIf (dAnd (dB (dOp eqD (dVar 3) (dC (.str "(")))) (dB (dOp ltD (dVar 1) (dC (.int 8))))) (dSeq (dFldA "Reader" (dVar 0) (dC (.int 1)) iaddD "at")
  (dSeq (dAsg (dMeth "Reader" "terms" g_Reader_terms (dVar 0) (dCons (dOp addD (dVar 1) (dC (.int 1))) dNil)) (dName 4))
  (dDrop (dMeth "Reader" "expect" f_Reader_expect (dVar 0) (dCons (dC (.str ")")) dNil))))) (dIf (dAnd (dB (dOp neD (dVar 3) (dC (.str "")))) (dB (dOp inSD (dVar 3) (dC (.str "abcdefghijklmnopqrstuvwxyz"))))) (dAsg (dLst (dCons (dTup (dCons (dMeth "Reader" "run" f_Reader_run (dVar 0) (dCons (dC (.str "abcdefghijklmnopqrstuvwxyz")) (dCons (dC (.int 6)) dNil))) (dCons (dC (.int 1)) dNil))) dNil)) (dName 4)) dNever))
  (dSeq (dIf (dB (dIsN (dVar 2))) (dRet (dVar 4)) dNext)
  (dRet (dLc (dSeqI (dVar 4)) (dGTup 2 (dGCons (dName 5) (dGCons (dName 6) dGNil))) dYes (dTup (dCons (dVar 5) (dCons (dOp mulD (dVar 6) (dVar 2)) dNil))) [5, 6])))))
def T_Reader_terms (g_Reader_atom g_Reader_terms : FS) : DS := (dSeq (dAsg (dMeth "Reader" "many" f_Reader_many (dVar 0) dNil) (dName 2))
  (dSeq (dAsg (dMeth "Reader" "sign" f_Reader_sign (dVar 0) dNil) (dName 3))
  (dSeq (dIf (dAnd (dB (dOp eqD (dVar 2) (dC (.int 0)))) (dAnd (dB (dOp neD (dVar 3) (dC (.str "(")))) (dOr (dB (dOp eqD (dVar 3) (dC (.str "")))) (dB (dOp notInSD (dVar 3) (dC (.str "abcdefghijklmnopqrstuvwxyz"))))))) (dRet (dLst dNil)) dNext)
  (dSeq (dAsg (dMeth "Reader" "atom" g_Reader_atom (dVar 0) (dCons (dVar 1) (dCons (dVar 2) dNil))) (dName 4))
  (dSeq (dWhile 100000 (dB (dOp eqD (dMeth "Reader" "sign" f_Reader_sign (dVar 0) dNil) (dC (.str "+"))))
    (dSeq (dFldA "Reader" (dVar 0) (dC (.int 1)) iaddD "at")
  (dAsg (dOp addD (dVar 4) (dMeth "Reader" "atom" g_Reader_atom (dVar 0) (dCons (dVar 1) (dCons (dMeth "Reader" "many" f_Reader_many (dVar 0) dNil) dNil)))) (dName 4))))
  (dRet (dVar 4)))))))
mutual
def f_Reader_atom : Nat → FS
  | 0 => fun _ _ => .bad
  | n + 1 => defR fz 3 7 (T_Reader_atom (f_Reader_atom n) (f_Reader_terms n))
def f_Reader_terms : Nat → FS
  | 0 => fun _ _ => .bad
  | n + 1 => defR fz 2 5 (T_Reader_terms (f_Reader_atom n) (f_Reader_terms n))
end
def T_bundle_terms : DS := (dSeq (dAsg (dMake kp "Reader" f_Reader_init (dCons (dVar 0) dNil)) (dName 1))
  (dSeq (dAsg (dMeth "Reader" "terms" (f_Reader_terms 20) (dVar 1) (dCons (dC (.int 0)) dNil)) (dName 2))
  (dSeq (dDrop (dMeth "Reader" "expect" f_Reader_expect (dVar 1) (dCons (dC (.str "")) dNil)))
  (dRet (dVar 2)))))
def f_bundle_terms : FS := defR fz 1 3 T_bundle_terms
def T_check_size : DS := (dIf (dB (dOp (cmpD fGt) (dCB maxD (dCons (dVar 0) dNil)) (dC (.int 60)))) dNever dNext)
def f_check_size : FS := defR fz 1 1 T_check_size
def B1_check_words : DS := (dIf (dB (dOp notInD (dVar 2) (dVar 1))) dNever dNext)
def T_check_words : DS := (dFor (dSeqI (dVar 0)) (dGTup 2 (dGCons (dName 2) (dGCons (dName 3) dGNil)))
    B1_check_words)
def f_check_words : FS := defR fz 2 4 T_check_words
def W1_counted : DTs := (dB (dOp eqD (dVar 3) (dVar 2)))
def Q1_counted : DE := (dVar 4)
def L1_counted : DE := (dLc (dSeqI (dVar 0)) (dGTup 2 (dGCons (dName 3) (dGCons (dName 4) dGNil))) W1_counted Q1_counted [3, 4])
def Q2_counted : DE := (dCB sumD (dCons L1_counted dNil))
def L2_counted : DE := (dLc (dSeqI (dVar 1)) (dName 2) dYes Q2_counted [2])
def T_counted : DS := (dRet (dCB tupD (dCons L2_counted dNil)))
def f_counted : FS := defR fz 2 5 T_counted
def T_parse_bundle : DS := (dSeq (dAsg (dCB f_bundle_terms (dCons (dVar 0) dNil)) (dName 2))
  (dSeq (dDrop (dCB f_check_words (dCons (dVar 2) (dCons (dVar 1) dNil))))
  (dSeq (dAsg (dCB f_counted (dCons (dVar 2) (dCons (dVar 1) dNil))) (dName 3))
  (dSeq (dDrop (dCB f_check_size (dCons (dVar 3) dNil)))
  (dRet (dVar 3))))))
def f_parse_bundle : FS := defR fz 2 4 T_parse_bundle
def I1_law : DS := (dIf (dNot (dB (dCB (f_law_same 12) (dCons (dCB f_parse_bundle (dCons (dVar 7) (dCons (dCB tupD (dCons (dVar 4) dNil)) dNil))) (dCons (dVar 5) dNil))))) (dRet (dC (.bl false))) dNext)
def S1_law : DS := (dIf (dAnd (dB (dOp eqD (dM1 countD (dVar 7) (dC (.str "("))) (dC (.int 0)))) (dB (dOp neD (dCB f_parse_bundle (dCons (dOp addD (dOp addD (dC (.str "(")) (dVar 7)) (dC (.str ")"))) (dCons (dVar 4) dNil))) (dVar 5)))) (dRet (dC (.bl false))) dNext)
def I2_law : DS := (dIf (dNot (dB (dCB (f_law_same 12) (dCons (dCB f_format_bundle (dCons (dVar 5) (dCons (dCB tupD (dCons (dVar 4) dNil)) dNil))) (dCons (dVar 6) dNil))))) (dRet (dC (.bl false))) dNext)
def S2_law : DS := (dSeq (dAsg (dCB f_law_loose (dCons (dVar 1) (dCons (dVar 5) (dCons (dVar 4) (dCons (dCB f_law_draw (dCons (dVar 1) (dCons (dC (.int 9)) dNil))) dNil))))) (dName 7))
  (dSeq I1_law
  S1_law))
def I3_law : DS := (dIf (dNot (dB (dCB (f_law_same 12) (dCons (dLst (dCons (dCB f_format_bundle (dCons (dVar 5) (dCons (dVar 4) dNil))) (dCons (dCB f_parse_bundle (dCons (dVar 6) (dCons (dVar 4) dNil))) dNil))) (dCons (dLst (dCons (dVar 6) (dCons (dVar 5) dNil))) dNil))))) (dRet (dC (.bl false))) dNext)
def S3_law : DS := (dSeq I2_law
  S2_law)
def B1_law : DS := (dSeq (dAsg (dOp addD (dC (.int 1)) (dCB f_law_draw (dCons (dVar 1) (dCons (dC (.int 4)) dNil)))) (dName 3))
  (dSeq (dAsg (dCB f_law_some_things (dCons (dVar 1) (dCons (dVar 3) dNil))) (dName 4))
  (dSeq (dAsg (dCB f_law_some_bundle (dCons (dVar 1) (dCons (dVar 3) (dCons (dCB f_law_any (dCons (dVar 1) (dCons (dLst (dCons (dC (.int 1)) (dCons (dC (.int 3)) (dCons (dC (.int 60)) dNil)))) dNil))) dNil)))) (dName 5))
  (dSeq (dAsg (dCB f_law_text_of (dCons (dVar 5) (dCons (dVar 4) dNil))) (dName 6))
  (dSeq I3_law
  S3_law)))))
def S4_law : DS := (dSeq (dAsg (dLst (dCons (dC (.str "a")) (dCons (dC (.str "b")) dNil))) (dName 8))
  (dSeq (dAsg (dLst (dCons (dCB f_parse_bundle (dCons (dC (.str "2 (a + 3 b) + a")) (dCons (dVar 8) dNil))) (dCons (dCB f_parse_bundle (dCons (dC (.str "0 a+b")) (dCons (dVar 8) dNil))) dNil))) (dName 9))
  (dSeq (dAsg (dOp addD (dVar 9) (dLst (dCons (dCB f_parse_bundle (dCons (dC (.str "2(0)+b")) (dCons (dVar 8) dNil))) (dCons (dCB f_parse_bundle (dCons (dC (.str "3(2(a)+2 (b+a))")) (dCons (dVar 8) dNil))) dNil)))) (dName 9))
  (dRet (dCB (f_law_same 12) (dCons (dVar 9) (dCons (dLst (dCons (dTup (dCons (dC (.int 3)) (dCons (dC (.int 6)) dNil))) (dCons (dTup (dCons (dC (.int 0)) (dCons (dC (.int 1)) dNil))) (dCons (dTup (dCons (dC (.int 0)) (dCons (dC (.int 1)) dNil))) (dCons (dTup (dCons (dC (.int 12)) (dCons (dC (.int 6)) dNil))) dNil))))) dNil)))))))
def T_law : DS := (dSeq (dAsg (dCB f_law_begin (dCons (dVar 0) dNil)) (dName 1))
  (dSeq (dFor (dRng1 (dCons (dC (.int 5)) dNil)) (dName 2)
    B1_law)
  S4_law))
def f_law : FS := defR fz 1 10 T_law
abbrev s_law_draw : Stmt := top 21
abbrev s_law_any : Stmt := top 22
abbrev s_law_begin : Stmt := top 20
abbrev s_law_loose : Stmt := top 27
abbrev s_law_same : Stmt := top 23
abbrev s_law_some_bundle : Stmt := top 24
abbrev s_law_some_things : Stmt := top 25
abbrev s_law_text_of : Stmt := top 26
abbrev s_format_bundle : Stmt := top 18
abbrev s_Reader_init : Stmt := meth 12 0
abbrev s_Reader_sign : Stmt := meth 12 1
abbrev s_Reader_expect : Stmt := meth 12 2
abbrev s_Reader_run : Stmt := meth 12 3
abbrev s_Reader_many : Stmt := meth 12 4
abbrev s_Reader_atom : Stmt := meth 12 5
abbrev s_Reader_terms : Stmt := meth 12 6
abbrev s_bundle_terms : Stmt := top 13
abbrev s_check_size : Stmt := top 16
abbrev s_check_words : Stmt := top 14
abbrev s_counted : Stmt := top 15
abbrev s_parse_bundle : Stmt := top 17
abbrev s_law : Stmt := top 28
end
end Lw

namespace Lw
open PySem L2 DX
/-! ### the law's helpers: its box -/
def Box (m : MO) : Prop := ∃ (cells : List Int) (i j m' : Int), m = .lst [.lst (cells.map D.int), .int i, .int j, .int m'] ∧ cells.length ≤ 63 ∧ 0 ≤ i ∧ 0 ≤ j ∧ 0 ≤ m' ∧ m' < 2147483647
def HasBox (b : Nat) (μ : Mu) : Prop := ∃ m, μ[b]? = some m ∧ Box m
theorem HasBox.lt {b : Nat} {μ : Mu} (h : HasBox b μ) : b < μ.length := by
  obtain ⟨m, e, _⟩ := h
  exact (List.getElem?_eq_some_iff.mp e).1
theorem HasBox.put {b : Nat} {μ : Mu} {m : MO} (h : HasBox b μ) (k : Box m) : HasBox b (μ.set b m) := ⟨m, List.getElem?_set_self h.lt, k⟩
noncomputable def T_last : DS := (dSeq (dAsg (dOp modD (dCB intD (dCons (dOp addD (dOp mulD (dOp ixD (dVar 0) (dC (.int 3))) (dC (.int 16807))) (dC (.int 11))) dNil)) (dC (.int 2147483647))) (dGSub (dVar 0) (dC (.int 3))))
  (dRet (dOp modD (dCB intD (dCons (dOp divD (dOp modD (dCB intD (dCons (dOp mulD (dOp ixD (dVar 0) (dC (.int 3))) (dOp ixD (dVar 0) (dC (.int 3)))) dNil)) (dC (.int 998244353))) (dC (.int 7))) dNil)) (dVar 1))))
noncomputable def T_mid : DS := (dSeq (dIf (dB (dOp (cmpD fGt) (dOp ixD (dVar 0) (dC (.int 2))) (dC (.int 0)))) (dSeq (dAsg (dOp modD (dCB intD (dCons (dOp ixD (dVar 0) (dC (.int 2))) dNil)) (dVar 1)) (dName 3))
  (dSeq (dAsg (dOp divD (dOp ixD (dVar 0) (dC (.int 2))) (dVar 1)) (dGSub (dVar 0) (dC (.int 2))))
  (dRet (dVar 3)))) dNext)
  T_last)
theorem draw_ok {b : Nat} {μ : Mu} {many : Int} (hb : HasBox b μ) (h1 : 1 ≤ many) (h2 : many < 1073741824) :
    ∃ n m, f_law_draw [.cell b, .int many] μ = .ok (.int n) (μ.set b m) ∧ 0 ≤ n ∧ n < many ∧ Box m := by
  have hlt := hb.lt
  obtain ⟨mo, hm, cells, i, j, m, rfl, hl, hi, hj, hm0, hm1⟩ := hb
  have get : ∀ {ν : Mu} {x : MO}, ν.length = μ.length → (ν.set b x)[b]? = some x := fun e => List.getElem?_set_self (by omega)
  -- the last part, from any box
  have last : ∀ (i j m : Int) (x2 x3 : Option D) (ν : Mu), ν.length = μ.length → ν[b]? = some (.lst [.lst (cells.map D.int), .int i, .int j, .int m]) → 0 ≤ i → 0 ≤ j → 0 ≤ m → m < 2147483647 → (∀ x, ν.set b x = μ.set b x) →
      ∃ n mo, fz μ (SR.run (T_last [some (.cell b), some (.int many), x2, x3] ν)) = .ok (.int n) (μ.set b mo) ∧ 0 ≤ n ∧ n < many ∧ Box mo := by
    intro i j m x2 x3 ν hν hb2 hi hj hm hm2 hp
    have q1 := Int.emod_nonneg (m * 16807 + 11) (show (2147483647 : Int) ≠ 0 by decide)
    have q2 := Int.emod_lt_of_pos (m * 16807 + 11) (show (0 : Int) < 2147483647 by decide)
    have c1 : CMul m 16807 := .inr ⟨by decide, by decide⟩
    have c2 : CMul ((m * 16807 + 11) % 2147483647) ((m * 16807 + 11) % 2147483647) := .inl ⟨by omega, by omega⟩
    simp only [T_last, dSeq, dAsg, dRet, dOp, dVar, dC, dCB, dCons, dNil, dGSub, look_0, look_s, bind_ok, to_ok, then_nx, ixD_cell hb2, at4_3, okO_some, mulD_int c1, addD_int, intD_int, modD_int (show (0 : Int) < 2147483647 by decide), dSet_4 hb2 (show ixN 4 3 = some 3 from rfl), List.set_cons_succ, List.set_cons_zero]
    simp only [hp, ixD_cell (get (ν := μ) rfl), at4_3, okO_some, bind_ok, mulD_int c2, intD_int, modD_int (show (0 : Int) < 998244353 by decide), divD_int (show (0 : Int) < 7 by decide) (by decide), modD_int (show 0 < many by omega), run_rt, to_ok, hp]
    rw [fz_same (by rw [List.length_set]; exact Nat.le_refl _)]
    exact ⟨_, _, rfl, Int.emod_nonneg _ (by omega), Int.emod_lt_of_pos _ (by omega), cells, i, j, _, rfl, hl, hi, hj, q1, q2⟩
  have mid : ∀ (i j m : Int) (x2 x3 : Option D) (ν : Mu), ν.length = μ.length → ν[b]? = some (.lst [.lst (cells.map D.int), .int i, .int j, .int m]) → 0 ≤ i → 0 ≤ j → 0 ≤ m → m < 2147483647 → (∀ x, ν.set b x = μ.set b x) →
      ∃ n mo, fz μ (SR.run (T_mid [some (.cell b), some (.int many), x2, x3] ν)) = .ok (.int n) (μ.set b mo) ∧ 0 ≤ n ∧ n < many ∧ Box mo := by
    intro i j m x2 x3 ν hν hb2 hi hj hm hm2 hp
    by_cases c : 0 < j
    · simp only [T_mid, dSeq, dIf, dB, dAsg, dRet, dOp, dVar, dC, dCB, dCons, dNil, dGSub, dName, look_0, look_s, bind_ok, to_ok, then_nx, then_rt, ixD_cell hb2, at4_2, okO_some, cmpD_int, fGt, decide_eq_true c, onB_bl, if_true, intD_int, modD_int (show 0 < many by omega), divD_int (show 0 < many by omega) (show many < 2 ^ 63 by omega), dSet_4 hb2 (show ixN 4 2 = some 2 from rfl), List.set_cons_succ, List.set_cons_zero, run_rt, hp]
      rw [fz_same (by rw [List.length_set]; exact Nat.le_refl _)]
      exact ⟨_, _, rfl, Int.emod_nonneg _ (by omega), Int.emod_lt_of_pos _ (by omega), cells, i, _, m, rfl, hl, hi, Int.ediv_nonneg hj (by omega), hm, hm2⟩
    · have e := last i j m x2 x3 ν hν hb2 hi hj hm hm2 hp
      simp only [T_mid, dSeq, dIf, dB, dOp, dVar, dC, look_0, look_s, bind_ok, to_ok, then_nx, ixD_cell hb2, at4_2, okO_some, cmpD_int, fGt, decide_eq_false c, onB_bl, Bool.false_eq_true, if_false, dNext]
      exact e
  show ∃ n m, fz μ (SR.run (dSeq _ T_mid [some (.cell b), some (.int many), none, none] μ)) = .ok (.int n) (μ.set b m) ∧ 0 ≤ n ∧ n < many ∧ Box m
  by_cases c1 : j < 1
  · by_cases c2 : i < (cells.length : Int)
    · obtain ⟨cell, hc⟩ : ∃ cell, atI (cells.map D.int) i = some (.int cell) := by
        obtain ⟨x, e1, e2, _⟩ := atI_pos (xs := cells.map D.int) hi (by rw [List.length_map]; exact c2)
        obtain ⟨n, _, rfl⟩ := List.mem_map.mp e2
        exact ⟨n, e1⟩
      have pw : powD (.int 10) (.int 18) = fun μ => .ok (.int (10 ^ 18)) μ := by
        funext μ
        exact grd_pos ⟨by decide, by decide, by decide⟩
      by_cases c3 : (10 : Int) ^ 18 ≤ cell
      · simp only [dSeq, dIf, dB, dAnd, dAsg, dOp, dVar, dC, dCB, dCons, dNil, dGSub, dName, look_0, look_s, bind_ok, to_ok, then_nx, ixD_cell hm, ixD_lst, at4_0, at4_1, at4_2, okO_some, ltD_int, lenD_lst, List.length_map, decide_eq_true c1, decide_eq_true c2, onB_bl, if_true, hc, addD_int, dSet_4 hm (show ixN 4 1 = some 1 from rfl), List.set_cons_succ, List.set_cons_zero, pw, cmpD_int, fGe, decide_eq_true c3, dSet_4 (get rfl) (show ixN 4 2 = some 2 from rfl)]
        exact mid (i + 1) cell m _ _ _ (by rw [List.length_set, List.length_set]) (get (by rw [List.length_set])) (by omega) (Int.le_trans (by decide) c3) hm0 hm1 (fun x => by rw [List.set_set, List.set_set])
      · have c4 : CMul m 40692 := .inr ⟨by decide, by decide⟩
        have c5 : CMul cell 48271 := .inr ⟨by decide, by decide⟩
        simp only [dSeq, dIf, dB, dAnd, dAsg, dOp, dVar, dC, dCB, dCons, dNil, dGSub, dName, look_0, look_s, bind_ok, to_ok, then_nx, ixD_cell hm, ixD_lst, at4_0, at4_1, at4_2, at4_3, okO_some, ltD_int, lenD_lst, List.length_map, decide_eq_true c1, decide_eq_true c2, onB_bl, if_true, hc, addD_int, dSet_4 hm (show ixN 4 1 = some 1 from rfl), List.set_cons_succ, List.set_cons_zero, pw, cmpD_int, fGe, decide_eq_false c3, Bool.false_eq_true, if_false, ixD_cell (get rfl), mulD_int c4, mulD_int c5, intD_int, modD_int (show (0 : Int) < 2147483647 by decide), dSet_4 (get rfl) (show ixN 4 3 = some 3 from rfl)]
        exact mid (i + 1) j _ _ _ _ (by rw [List.length_set, List.length_set]) (get (by rw [List.length_set])) (by omega) hj (Int.emod_nonneg _ (by decide)) (Int.emod_lt_of_pos _ (by decide)) (fun x => by rw [List.set_set, List.set_set])
    · simp only [dSeq, dIf, dB, dAnd, dOp, dVar, dC, dCB, dCons, dNil, look_0, look_s, bind_ok, to_ok, then_nx, ixD_cell hm, at4_0, at4_1, at4_2, okO_some, ltD_int, lenD_lst, List.length_map, decide_eq_true c1, decide_eq_false c2, onB_bl, if_true, Bool.false_eq_true, if_false, dNext]
      exact mid i j m none none μ rfl hm hi hj hm0 hm1 (fun _ => rfl)
  · simp only [dSeq, dIf, dB, dAnd, dOp, dVar, dC, look_0, look_s, bind_ok, to_ok, then_nx, ixD_cell hm, at4_2, okO_some, ltD_int, decide_eq_false c1, onB_bl, Bool.false_eq_true, if_false, dNext]
    exact mid i j m none none μ rfl hm hi hj hm0 hm1 (fun _ => rfl)
theorem any_ok {b : Nat} {μ : Mu} {r : D} {xs : List D} (hb : HasBox b μ) (hr : r = .lst xs ∨ r = .tup xs) (hne : xs ≠ []) (hl : xs.length < 1000000) :
    ∃ d m, f_law_any [.cell b, r] μ = .ok d (μ.set b m) ∧ d ∈ xs ∧ Box m := by
  have h1 : 0 < xs.length := List.length_pos_iff.mpr hne
  obtain ⟨n, m, e, n0, n1, hm⟩ := draw_ok (many := (xs.length : Int)) hb (by omega) (by omega)
  obtain ⟨x, e1, e2, _⟩ := atI_pos (xs := xs) n0 n1
  refine ⟨x, m, ?_, e2, hm⟩
  show fz μ (SR.run (T_law_any [some (.cell b), some r] μ)) = _
  rcases hr with rfl | rfl
  · simp only [T_law_any, dRet, dOp, dVar, dCB, dCons, dNil, look_0, look_s, bind_ok, to_ok, lenD_lst, e, ixD_lst, e1, okO_some, run_rt]
    exact fz_same (by rw [List.length_set]; exact Nat.le_refl _)
  · simp only [T_law_any, dRet, dOp, dVar, dCB, dCons, dNil, look_0, look_s, bind_ok, to_ok, lenD_tup, e, ixD_tup, e1, okO_some, run_rt]
    exact fz_same (by rw [List.length_set]; exact Nat.le_refl _)
theorem begin_ok (ns : List Int) (μ : Mu) : ∃ m, f_law_begin [.scr ns] μ = .ok (.cell μ.length) (μ ++ [m]) ∧ Box m := by
  have hl : (cut ns none (some 63)).length ≤ 63 := by
    rw [cut_take ns (by decide), List.length_take]
    exact Nat.min_le_left _ _
  have e1 : (cut ns none (some 63)).length ≤ 16777216 := by omega
  have fin := forR_go (G := dName 1) (T := B1_law_begin)
    (fun r η μ' => μ' = μ ∧ (∀ x ∈ r, ∃ n, x = D.int n) ∧ ∃ x1 m, η = [some (.scr ns), x1, some (.lst ((cut ns none (some 63)).map D.int)), some (.int m)] ∧ 0 ≤ m ∧ m < 2147483647)
    (fun x r η μ' ⟨h1, h2, x1, m, h3, h4, h5⟩ => by
      subst h1 h3
      obtain ⟨n, rfl⟩ := h2 x List.mem_cons_self
      have c : CMul m 69621 := .inr ⟨by decide, by decide⟩
      have q := Int.emod_lt_of_pos (m * 69621 + n) (show (0 : Int) < 2147483629 by decide)
      refine ⟨_, _, _, _, rfl, .inl ?_, rfl, fun y hy => h2 y (List.mem_cons_of_mem _ hy), some (.int n), (m * 69621 + n) % 2147483629, rfl, Int.emod_nonneg _ (by decide), by omega⟩
      simp only [B1_law_begin, dAsg, dOp, dVar, dC, dCB, dCons, dNil, dName, look_0, look_s, bind_ok, to_ok, List.set_cons_succ, List.set_cons_zero, mulD_int c, addD_int, intD_int, modD_int (show (0 : Int) < 2147483629 by decide)])
    ((cut ns none (some 63)).map D.int) [some (.scr ns), none, some (.lst ((cut ns none (some 63)).map D.int)), some (.int (3824 + 61 * ((cut ns none (some 63)).length : Int)))] μ
    ⟨rfl, fun x hx => by obtain ⟨n, _, rfl⟩ := List.mem_map.mp hx; exact ⟨n, rfl⟩, _, _, rfl, by omega, by omega⟩
  obtain ⟨η', μ', e2, rfl, _, x1, m, rfl, m0, m1⟩ := fin
  refine ⟨.lst [.lst ((cut ns none (some 63)).map D.int), .int 0, .int 0, .int m], ?_, _, 0, 0, m, rfl, hl, by decide, by decide, m0, m1⟩
  show kp μ' (SR.run (T_law_begin [some (.scr ns), none, none, none] μ')) = _
  have c61 : CMul 61 ((cut ns none (some 63)).length : Int) := .inl ⟨by decide, by decide⟩
  have lc : lcR (dName 1) dYes Q1_law_begin [some (.scr ns), none, none, none] ((cut ns none (some 63)).map D.int) [] μ' = .ok ((cut ns none (some 63)).map D.int) μ' := by
    have z := lcR_map (G := dName 1) (Te := Q1_law_begin) (η := [some (.scr ns), none, none, none]) (μ := μ') (fun x => x) ((cut ns none (some 63)).map D.int) [] (fun x hx => by
      obtain ⟨n, _, rfl⟩ := List.mem_map.mp hx
      rfl)
    rw [z, List.nil_append, List.map_id']
  have sl : slD (.scr ns) none (some 63) μ' = .ok (.lst ((cut ns none (some 63)).map D.int)) μ' := rfl
  simp only [T_law_begin, L1_law_begin, dSeq, dAsg, dLc, lcW, dSeqI, dSl, dVar, dC, dNoPart, dPart, look_0, look_s, bind_ok, to_ok, sl, itemsOf, okO_some, chk_pos e1, wipeD, List.set_cons_succ, List.set_cons_zero, lc, noX_ok, then_nx, dName, dOp, dCB, dCons, dNil, lenD_lst, List.length_map, mulD_int c61, addD_int, dFor, e2, dRet, dLstM, List.length_cons, List.length_nil, chk_c (show (0 + 1 + 1 + 1 + 1 : Nat) ≤ 16777216 by decide), to_ok, run_rt]
  rfl
theorem zipD2_self {xs : List D} {x : D} (h : x ∈ zipD2 xs xs) : ∃ y ∈ xs, x = .tup [y, y] := by
  unfold zipD2 at h
  obtain ⟨i, hi, e⟩ := List.mem_iff_getElem.mp h
  rw [List.getElem_zipWith] at e
  exact ⟨_, List.getElem_mem _, e.symm⟩
theorem same_ok : ∀ (n : Nat) (d : D) (μ : Mu), plain n d = true → n ≤ 60 → f_law_same (n + 1) [d, d] μ = .ok (.bl true) μ := by
  intro n
  induction n with
  | zero =>
    intro d μ h hn
    have h60 := plain_mono 0 60 d hn h
    have e := eqD_refl (μ := μ) h60
    show fz μ (SR.run (T_law_same (f_law_same 0) [some d, some d, none, none, none] μ)) = _
    cases d with
    | tup xs => exact absurd h plain_tup0
    | lst xs => exact absurd h plain_lst0
    | non => exact fz_same (Nat.le_refl _)
    | bl b =>
      simp only [T_law_same, dSeq, dIf, dOr, dB, dIsN, dVar, look_0, look_s, bind_ok, isN, onB_bl, Bool.false_eq_true, if_false, to_ok, dNext, then_nx, dCB, dCons, dC, dNil, isiD, tyName, kb_bb, kb_ib, kb_sb, kb_tb, kb_lb, kb_bi, kb_ii, kb_si, kb_ti, kb_li, kb_is, kb_ss, kb_ts, kb_ls, kb_tl, kb_ll, kb_tt, kb_lt, okO_some, if_true, dRet, dAndV, dOp, eqD_bl, dAsg, dName, List.set_cons_succ, List.set_cons_zero, beq_self_eq_true, e, then_rt, run_rt]
      exact fz_same (Nat.le_refl _)
    | int i =>
      simp only [T_law_same, dSeq, dIf, dOr, dB, dIsN, dVar, look_0, look_s, bind_ok, isN, onB_bl, Bool.false_eq_true, if_false, to_ok, dNext, then_nx, dCB, dCons, dC, dNil, isiD, tyName, kb_bb, kb_ib, kb_sb, kb_tb, kb_lb, kb_bi, kb_ii, kb_si, kb_ti, kb_li, kb_is, kb_ss, kb_ts, kb_ls, kb_tl, kb_ll, kb_tt, kb_lt, okO_some, if_true, dRet, dAndV, dOp, eqD_bl, dAsg, dName, List.set_cons_succ, List.set_cons_zero, beq_self_eq_true, e, then_rt, run_rt]
      exact fz_same (Nat.le_refl _)
    | str z =>
      simp only [T_law_same, dSeq, dIf, dOr, dB, dIsN, dVar, look_0, look_s, bind_ok, isN, onB_bl, Bool.false_eq_true, if_false, to_ok, dNext, then_nx, dCB, dCons, dC, dNil, isiD, tyName, kb_bb, kb_ib, kb_sb, kb_tb, kb_lb, kb_bi, kb_ii, kb_si, kb_ti, kb_li, kb_is, kb_ss, kb_ts, kb_ls, kb_tl, kb_ll, kb_tt, kb_lt, okO_some, if_true, dRet, dAndV, dOp, eqD_bl, dAsg, dName, List.set_cons_succ, List.set_cons_zero, beq_self_eq_true, e, then_rt, run_rt]
      exact fz_same (Nat.le_refl _)
    | _ => simp [DX.plain] at h
  | succ n ih =>
    intro d μ h hn
    have h60 := plain_mono (n + 1) 60 d hn h
    have e := eqD_refl (μ := μ) h60
    show fz μ (SR.run (T_law_same (f_law_same (n + 1)) [some d, some d, none, none, none] μ)) = _
    have all : ∀ (a b : Option D) (xs : List D), plains n xs = true → lcR (dGTup 2 (dGCons (dName 3) (dGCons (dName 4) dGNil))) dYes (dCB (f_law_same (n + 1)) (dCons (dVar 3) (dCons (dVar 4) dNil))) [a, b, none, none, none] (zipD2 xs xs) [] μ = .ok ((List.replicate xs.length true).map D.bl) μ := by
      intro a b xs hs
      rw [lcR_map (fun _ => .bl true) _ _ fun x hx => ?_]
      · rw [List.nil_append, List.map_const', zipD2_len, Nat.min_self, List.map_replicate]
      · obtain ⟨y, hy, rfl⟩ := zipD2_self hx
        have z := ih y μ (plains_mem hs y hy) (by omega)
        simp only [dGTup, dGCons, dGNil, dName, List.length_cons, List.length_nil, if_true, bind_ok, List.set_cons_succ, List.set_cons_zero, dCB, dCons, dVar, look_0, look_s, dNil, z]
    have fin : ∀ k : Nat, (List.replicate k true).all id = true := fun k => by simp
    cases d with
    | tup xs =>
      obtain ⟨hl, hs⟩ := plain_tup h
      simp only [T_law_same, dSeq, dIf, dOr, dB, dIsN, dVar, look_0, look_s, bind_ok, isN, onB_bl, Bool.false_eq_true, if_false, to_ok, dNext, then_nx, dCB, dCons, dC, dNil, isiD, tyName, kb_bb, kb_ib, kb_sb, kb_tb, kb_lb, kb_bi, kb_ii, kb_si, kb_ti, kb_li, kb_is, kb_ss, kb_ts, kb_ls, kb_tl, kb_ll, kb_tt, kb_lt, okO_some, if_true, dRet, dAndV, dOp, eqD_bl, dAsg, dName, List.set_cons_succ, List.set_cons_zero, beq_self_eq_true, neD_bl, beq_self_eq_true, Bool.not_true, lenD_tup, eqD_int, dLc, lcW, dZip2, still, okO_some, chk_pos (show (zipD2 xs xs).length ≤ 16777216 by rw [zipD2_len]; omega), wipeD, List.set_cons_succ, List.set_cons_zero, all _ _ xs hs, noX_ok, allD, asL, blsOf_map, fin, then_rt, run_rt]
      exact fz_same (Nat.le_refl _)
    | lst xs =>
      obtain ⟨hl, hs⟩ := plain_lst h
      simp only [T_law_same, dSeq, dIf, dOr, dB, dIsN, dVar, look_0, look_s, bind_ok, isN, onB_bl, Bool.false_eq_true, if_false, to_ok, dNext, then_nx, dCB, dCons, dC, dNil, isiD, tyName, kb_bb, kb_ib, kb_sb, kb_tb, kb_lb, kb_bi, kb_ii, kb_si, kb_ti, kb_li, kb_is, kb_ss, kb_ts, kb_ls, kb_tl, kb_ll, kb_tt, kb_lt, okO_some, if_true, dRet, dAndV, dOp, eqD_bl, dAsg, dName, List.set_cons_succ, List.set_cons_zero, beq_self_eq_true, neD_bl, beq_self_eq_true, Bool.not_true, lenD_lst, eqD_int, dLc, lcW, dZip2, still, okO_some, chk_pos (show (zipD2 xs xs).length ≤ 16777216 by rw [zipD2_len]; omega), wipeD, List.set_cons_succ, List.set_cons_zero, all _ _ xs hs, noX_ok, allD, asL, blsOf_map, fin, then_rt, run_rt]
      exact fz_same (Nat.le_refl _)
    | non => exact fz_same (Nat.le_refl _)
    | bl b =>
      simp only [T_law_same, dSeq, dIf, dOr, dB, dIsN, dVar, look_0, look_s, bind_ok, isN, onB_bl, Bool.false_eq_true, if_false, to_ok, dNext, then_nx, dCB, dCons, dC, dNil, isiD, tyName, kb_bb, kb_ib, kb_sb, kb_tb, kb_lb, kb_bi, kb_ii, kb_si, kb_ti, kb_li, kb_is, kb_ss, kb_ts, kb_ls, kb_tl, kb_ll, kb_tt, kb_lt, okO_some, if_true, dRet, dAndV, dOp, eqD_bl, dAsg, dName, List.set_cons_succ, List.set_cons_zero, beq_self_eq_true, e, then_rt, run_rt]
      exact fz_same (Nat.le_refl _)
    | int i =>
      simp only [T_law_same, dSeq, dIf, dOr, dB, dIsN, dVar, look_0, look_s, bind_ok, isN, onB_bl, Bool.false_eq_true, if_false, to_ok, dNext, then_nx, dCB, dCons, dC, dNil, isiD, tyName, kb_bb, kb_ib, kb_sb, kb_tb, kb_lb, kb_bi, kb_ii, kb_si, kb_ti, kb_li, kb_is, kb_ss, kb_ts, kb_ls, kb_tl, kb_ll, kb_tt, kb_lt, okO_some, if_true, dRet, dAndV, dOp, eqD_bl, dAsg, dName, List.set_cons_succ, List.set_cons_zero, beq_self_eq_true, e, then_rt, run_rt]
      exact fz_same (Nat.le_refl _)
    | str z =>
      simp only [T_law_same, dSeq, dIf, dOr, dB, dIsN, dVar, look_0, look_s, bind_ok, isN, onB_bl, Bool.false_eq_true, if_false, to_ok, dNext, then_nx, dCB, dCons, dC, dNil, isiD, tyName, kb_bb, kb_ib, kb_sb, kb_tb, kb_lb, kb_bi, kb_ii, kb_si, kb_ti, kb_li, kb_is, kb_ss, kb_ts, kb_ls, kb_tl, kb_ll, kb_tt, kb_lt, okO_some, if_true, dRet, dAndV, dOp, eqD_bl, dAsg, dName, List.set_cons_succ, List.set_cons_zero, beq_self_eq_true, e, then_rt, run_rt]
      exact fz_same (Nat.le_refl _)
    | _ => simp [DX.plain] at h
/-! ### how the store goes on -/
theorem Box.clean {m : MO} (h : Box m) : cleanM m = true := by
  obtain ⟨cells, i, j, m', rfl, _⟩ := h
  have h1 : cleans (cells.map D.int) = true := cleans_of fun x hx => by
    obtain ⟨n, _, rfl⟩ := List.mem_map.mp hx
    simp [DX.clean]
  simp [cleanM, cleans, DX.clean, h1]
def Nx (b : Nat) (μ μ' : Mu) : Prop := μ' = μ ∨ ∃ m, Box m ∧ μ' = μ.set b m
section
variable {b : Nat} {μ μ' μ2 ν : Mu}
theorem Nx.refl : Nx b μ μ := .inl rfl
theorem Nx.trans (h : Nx b μ μ') (k : Nx b μ' μ2) : Nx b μ μ2 := by
  rcases k with rfl | ⟨m, hm, rfl⟩
  · exact h
  · rcases h with rfl | ⟨m', _, rfl⟩
    · exact .inr ⟨m, hm, rfl⟩
    · exact .inr ⟨m, hm, by rw [List.set_set]⟩
theorem Nx.box (h : Nx b μ μ') (hb : HasBox b μ) : HasBox b μ' := by
  rcases h with rfl | ⟨m, hm, rfl⟩
  · exact hb
  · exact hb.put hm
theorem Nx.len (h : Nx b μ μ') : μ'.length = μ.length := by
  rcases h with rfl | ⟨m, hm, rfl⟩
  · rfl
  · exact List.length_set
theorem Nx.clean (h : Nx b μ μ') (hc : Clean μ) : Clean μ' := by
  rcases h with rfl | ⟨m, hm, rfl⟩
  · exact hc
  · exact hc.set hm.clean
theorem Nx.app (h : Nx b (μ ++ ν) μ') (hb : b < μ.length) : ∃ μ1, μ' = μ1 ++ ν ∧ Nx b μ μ1 := by
  rcases h with rfl | ⟨m, hm, rfl⟩
  · exact ⟨μ, rfl, .inl rfl⟩
  · exact ⟨μ.set b m, by rw [List.set_append_left _ _ hb], .inr ⟨m, hm, rfl⟩⟩
theorem HasBox.app (h : HasBox b μ) : HasBox b (μ ++ ν) := by
  obtain ⟨m, e, hm⟩ := h
  exact ⟨m, by rw [List.getElem?_append_left (List.getElem?_eq_some_iff.mp e).1]; exact e, hm⟩
theorem fz_nx {d : D} (h : Nx b μ μ') : fz μ (.ok d μ') = .ok d μ' := fz_same (by rw [h.len]; exact Nat.le_refl _)
theorem draw_nx {many : Int} (hb : HasBox b μ) (h1 : 1 ≤ many) (h2 : many < 1073741824) : ∃ n μ', f_law_draw [.cell b, .int many] μ = .ok (.int n) μ' ∧ 0 ≤ n ∧ n < many ∧ Nx b μ μ' := by
  obtain ⟨n, m, e, n0, n1, hm⟩ := draw_ok hb h1 h2
  exact ⟨n, _, e, n0, n1, .inr ⟨m, hm, rfl⟩⟩
theorem begin_nx (ns : List Int) : ∃ m, f_law_begin [.scr ns] [] = .ok (.cell 0) [m] ∧ HasBox 0 [m] ∧ Clean [m] := by
  obtain ⟨m, e, hm⟩ := begin_ok ns []
  exact ⟨m, e, ⟨m, rfl, hm⟩, fun x hx => by
    rw [List.mem_singleton.mp hx]
    exact hm.clean⟩
end
end Lw

namespace Lw
open PySem L2 DX
/-! ### drawn bundles and barters -/
theorem some_bundle_ok {b : Nat} {μ : Mu} {w : Nat} {cap : Int} (hb : HasBox b μ) (hw : w ≤ 1000) (h0 : 0 ≤ cap) (h1 : cap < 1000000) :
    ∃ xs μ', f_law_some_bundle [.cell b, .int w, .int cap] μ = .ok (.tup (iD xs)) μ' ∧ xs.length = w ∧ (∀ x ∈ xs, 0 ≤ x ∧ x ≤ cap) ∧ Nx b μ μ' := by
  have hr : dRng1 (dCons (dVar 1) dNil) [some (.cell b), some (.int w), some (.int cap), none] μ = .ok (rangeD 0 ((w : Int)).toNat) μ := rng_ok rfl (by omega) (by omega)
  rw [Int.toNat_natCast] at hr
  obtain ⟨zs, μ', e, xs, rfl, hl, hx, hn⟩ := lc_inv (G := dName 3) (Te := Q1_law_some_bundle) (vs := [3]) (η := [some (.cell b), some (.int w), some (.int cap), none]) (fun r acc μ' => ∃ xs, acc = iD xs ∧ r.length + xs.length = w ∧ (∀ x ∈ xs, 0 ≤ x ∧ x ≤ cap) ∧ Nx b μ μ') hr (by rw [range_len]; omega)
    (fun x r acc μ1 hI => by
      obtain ⟨xs, rfl, hl, hx, hn⟩ := hI
      obtain ⟨n, μ2, e, n0, n1, hn2⟩ := draw_nx (many := cap + 1) (hn.box hb) (by omega) (by omega)
      refine ⟨.int n, μ2, ?_, xs ++ [n], ?_, ?_, ?_, hn.trans hn2⟩
      · simp only [dSeq, dIf, dB, dAnd, dOr, dNot, dAsg, dOp, dVar, dC, dCB, dCons, dNil, dName, dRet, dRetN, dDrop, dNext, dIfE, dAndV, dOrV, dNotV, dUn, dSl, dNoPart, dPart, dPar, dPar3, dTup, dLst, dGTup, dGCons, dGNil, dChain, dIsN, dNotN, isN, dCont, dBreak, dGSub, dSeqI, items_lst, items_tup, dZip2, dZip3, dEnum, still_lst, still_tup, dFor, dFld, dLenOf, dM1, look_0, look_s, bind_ok, to_ok, then_nx, then_rt, then_ct, then_bk, turn_nx, turn_ct, turn_rt, turn_bk, run_rt, run_nx, onB_bl, okO_some, noX_ok, addD_int, subD_int, ltD_int, cmpD_int, fLe, fGe, fGt, intD_int, if_true, if_false, Bool.false_eq_true, Bool.not_true, Bool.not_false, List.set_cons_succ, List.set_cons_zero, ixD_lst, ixD_tup, lenD_lst, lenD_tup, List.length_cons, List.length_nil, isi_int_int, isi_int_bool, isi_int_str, isi_int_tuple, isi_int_list, isi_bl_int, isi_bl_bool, isi_bl_str, isi_bl_tuple, isi_bl_list, isi_str_int, isi_str_bool, isi_str_str, isi_str_tuple, isi_str_list, isi_tup_int, isi_tup_bool, isi_tup_str, isi_tup_tuple, isi_tup_list, isi_lst_int, isi_lst_bool, isi_lst_str, isi_lst_tuple, isi_lst_list, isi_non_int, isi_non_bool, isi_non_str, isi_non_tuple, isi_non_list, wipeD, dNever, chk_c, Q1_law_some_bundle, e]
      · rw [← ints_app]; rfl
      · rw [List.length_append]; simp only [List.length_cons, List.length_nil] at hl ⊢; omega
      · intro y hy
        rcases List.mem_append.mp hy with hy | hy
        · exact hx y hy
        · rw [List.mem_singleton.mp hy]; omega)
    ⟨[], rfl, by rw [range_len]; rfl, (fun x hx => by cases hx), .refl⟩
  have hl' : xs.length = w := by rw [← hl]; simp
  refine ⟨xs, μ', ?_, hl', hx, hn⟩
  have e0 : f_law_some_bundle [.cell b, .int w, .int cap] μ = fz μ (SR.run (T_law_some_bundle [some (.cell b), some (.int w), some (.int cap), none] μ)) := defR_ok rfl
  rw [e0]
  have e' : L1_law_some_bundle [some (.cell b), some (.int w), some (.int cap), none] μ = .ok (.lst (iD xs)) μ' := e
  simp only [dSeq, dIf, dB, dAnd, dOr, dNot, dAsg, dOp, dVar, dC, dCB, dCons, dNil, dName, dRet, dRetN, dDrop, dNext, dIfE, dAndV, dOrV, dNotV, dUn, dSl, dNoPart, dPart, dPar, dPar3, dTup, dLst, dGTup, dGCons, dGNil, dChain, dIsN, dNotN, isN, dCont, dBreak, dGSub, dSeqI, items_lst, items_tup, dZip2, dZip3, dEnum, still_lst, still_tup, dFor, dFld, dLenOf, dM1, look_0, look_s, bind_ok, to_ok, then_nx, then_rt, then_ct, then_bk, turn_nx, turn_ct, turn_rt, turn_bk, run_rt, run_nx, onB_bl, okO_some, noX_ok, addD_int, subD_int, ltD_int, cmpD_int, fLe, fGe, fGt, intD_int, if_true, if_false, Bool.false_eq_true, Bool.not_true, Bool.not_false, List.set_cons_succ, List.set_cons_zero, ixD_lst, ixD_tup, lenD_lst, lenD_tup, List.length_cons, List.length_nil, isi_int_int, isi_int_bool, isi_int_str, isi_int_tuple, isi_int_list, isi_bl_int, isi_bl_bool, isi_bl_str, isi_bl_tuple, isi_bl_list, isi_str_int, isi_str_bool, isi_str_str, isi_str_tuple, isi_str_list, isi_tup_int, isi_tup_bool, isi_tup_str, isi_tup_tuple, isi_tup_list, isi_lst_int, isi_lst_bool, isi_lst_str, isi_lst_tuple, isi_lst_list, isi_non_int, isi_non_bool, isi_non_str, isi_non_tuple, isi_non_list, wipeD, dNever, chk_c, T_law_some_bundle, e', tupD, asL]
  exact fz_nx hn
end Lw

namespace Lw
open PySem L2 DX
/-! ### drawn names of things -/
def Low (cs : List Nat) : Prop := ∀ c ∈ cs, 97 ≤ c ∧ c ≤ 122
def Nm (cs : List Nat) : Prop := 1 ≤ cs.length ∧ cs.length ≤ 6 ∧ Low cs
theorem Low.sg {cs : List Nat} (h : Low cs) : Sg cs := fun c hc => by have := h c hc; omega
theorem Low.app {a b : List Nat} (h : Low a) (k : Low b) : Low (a ++ b) := fun c hc => (List.mem_append.mp hc).elim (h c) (k c)
theorem Low.take {a : List Nat} (h : Low a) (n : Nat) : Low (a.take n) := fun c hc => h c (List.mem_of_mem_take hc)
theorem Low.drop {a : List Nat} (h : Low a) (n : Nat) : Low (a.drop n) := fun c hc => h c (List.mem_of_mem_drop hc)
theorem low_one {i : Int} (h0 : 0 ≤ i) (h1 : i < 26) : Low [97 + i.toNat] := fun c hc => by rw [List.mem_singleton.mp hc]; omega
theorem nodup_range {h : Nat → List Nat} {n : Nat} (hh : ∀ i j, i < j → j < n → h i ≠ h j) : ((List.range n).map h).Nodup :=
  List.pairwise_map.mpr (List.pairwise_lt_range.imp_of_mem fun ha hb hij => hh _ _ hij (List.mem_range.mp hb))
theorem range_map {n : Nat} {f : D → D} {h : Nat → List Nat} (hf : ∀ k, k < n → f (.int (0 + (k : Nat))) = sD (h k)) : (rangeD 0 n).map f = ((List.range n).map h).map sD := by
  unfold rangeD
  rw [List.map_map, List.map_map]
  exact List.map_congr_left fun k hk => hf k (List.mem_range.mp hk)
theorem stem_ok {b : Nat} {μ : Mu} {x1 x3 x4 x5 x6 x7 x8 : Option D} (hb : HasBox b μ) :
    ∃ cs μ', L1_law_some_things [some (.cell b), x1, some (sD abc), x3, x4, x5, x6, x7, x8] μ = .ok (.lst (cs.map fun c => sD [c])) μ' ∧ cs.length ≤ 5 ∧ Low cs ∧ Nx b μ μ' := by
  obtain ⟨n, μ1, e1, n0, n1, k1⟩ := draw_nx (many := 6) hb (by decide) (by decide)
  have hr : dRng1 (dCons (dCB f_law_draw (dCons (dVar 0) (dCons (dC (.int 6)) dNil))) dNil) [some (.cell b), x1, some (sD abc), x3, x4, x5, x6, x7, x8] μ = .ok (rangeD 0 n.toNat) μ1 := rng_ok (by simp only [dSeq, dIf, dB, dAnd, dOr, dNot, dAsg, dOp, dVar, dC, dCB, dCons, dNil, dName, dRet, dRetN, dDrop, dNext, dIfE, dAndV, dOrV, dNotV, dUn, dSl, dNoPart, dPart, dPar, dPar3, dTup, dLst, dGTup, dGCons, dGNil, dChain, dIsN, dNotN, isN, dCont, dBreak, dGSub, dSeqI, items_lst, items_tup, dZip2, dZip3, dEnum, still_lst, still_tup, dFor, dFld, dLenOf, dM1, look_0, look_s, bind_ok, to_ok, then_nx, then_rt, then_ct, then_bk, turn_nx, turn_ct, turn_rt, turn_bk, run_rt, run_nx, onB_bl, okO_some, noX_ok, addD_int, subD_int, ltD_int, cmpD_int, fLe, fGe, fGt, intD_int, if_true, if_false, Bool.false_eq_true, Bool.not_true, Bool.not_false, List.set_cons_succ, List.set_cons_zero, ixD_lst, ixD_tup, lenD_lst, lenD_tup, List.length_cons, List.length_nil, isi_int_int, isi_int_bool, isi_int_str, isi_int_tuple, isi_int_list, isi_bl_int, isi_bl_bool, isi_bl_str, isi_bl_tuple, isi_bl_list, isi_str_int, isi_str_bool, isi_str_str, isi_str_tuple, isi_str_list, isi_tup_int, isi_tup_bool, isi_tup_str, isi_tup_tuple, isi_tup_list, isi_lst_int, isi_lst_bool, isi_lst_str, isi_lst_tuple, isi_lst_list, isi_non_int, isi_non_bool, isi_non_str, isi_non_tuple, isi_non_list, wipeD, dNever, chk_c, e1]) (by omega) (by omega)
  obtain ⟨zs, μ', e, xs, rfl, hl, hx, hn⟩ := lc_inv (G := dName 8) (Te := Q1_law_some_things) (vs := [8]) (η := [some (.cell b), x1, some (sD abc), x3, x4, x5, x6, x7, x8]) (fun r acc μ' => ∃ cs, acc = cs.map (fun c => sD [c]) ∧ r.length + cs.length ≤ 5 ∧ Low cs ∧ Nx b μ μ') hr (by rw [range_len]; omega)
    (fun x r acc μ2 hI => by
      obtain ⟨cs, rfl, hl, hx, hn⟩ := hI
      obtain ⟨m, μ3, e2, m0, m1, k3⟩ := draw_nx (many := 26) (hn.box hb) (by decide) (by decide)
      refine ⟨sD [97 + m.toNat], μ3, ?_, cs ++ [97 + m.toNat], ?_, ?_, ?_, hn.trans k3⟩
      · simp only [dSeq, dIf, dB, dAnd, dOr, dNot, dAsg, dOp, dVar, dC, dCB, dCons, dNil, dName, dRet, dRetN, dDrop, dNext, dIfE, dAndV, dOrV, dNotV, dUn, dSl, dNoPart, dPart, dPar, dPar3, dTup, dLst, dGTup, dGCons, dGNil, dChain, dIsN, dNotN, isN, dCont, dBreak, dGSub, dSeqI, items_lst, items_tup, dZip2, dZip3, dEnum, still_lst, still_tup, dFor, dFld, dLenOf, dM1, look_0, look_s, bind_ok, to_ok, then_nx, then_rt, then_ct, then_bk, turn_nx, turn_ct, turn_rt, turn_bk, run_rt, run_nx, onB_bl, okO_some, noX_ok, addD_int, subD_int, ltD_int, cmpD_int, fLe, fGe, fGt, intD_int, if_true, if_false, Bool.false_eq_true, Bool.not_true, Bool.not_false, List.set_cons_succ, List.set_cons_zero, ixD_lst, ixD_tup, lenD_lst, lenD_tup, List.length_cons, List.length_nil, isi_int_int, isi_int_bool, isi_int_str, isi_int_tuple, isi_int_list, isi_bl_int, isi_bl_bool, isi_bl_str, isi_bl_tuple, isi_bl_list, isi_str_int, isi_str_bool, isi_str_str, isi_str_tuple, isi_str_list, isi_tup_int, isi_tup_bool, isi_tup_str, isi_tup_tuple, isi_tup_list, isi_lst_int, isi_lst_bool, isi_lst_str, isi_lst_tuple, isi_lst_list, isi_non_int, isi_non_bool, isi_non_str, isi_non_tuple, isi_non_list, wipeD, dNever, chk_c, Q1_law_some_things, e2, sD_ix (show abc.length ≤ 16777216 by decide), abc_at m0 m1]
      · rw [List.map_append]; rfl
      · rw [List.length_append]; simp only [List.length_cons, List.length_nil] at hl ⊢; omega
      · exact hx.app (low_one m0 m1))
    ⟨[], rfl, by rw [range_len, List.length_nil]; omega, (fun c hc => by cases hc), k1⟩
  exact ⟨xs, μ', e, by simpa using hl, hx, hn⟩
theorem way0_ok {b w : Nat} {μ : Mu} {cs : List Nat} {spot first : Int} {x6 x7 x8 : Option D} (hw : w ≤ 4) (hl : cs.length ≤ 5) (hc : Low cs) (s0 : 0 ≤ spot) (f0 : 0 ≤ first) (f1 : first < 26) :
    ∃ ws : List (List Nat), L2_law_some_things [some (.cell b), some (.int w), some (sD abc), some (sD cs), some (.int spot), some (.int first), x6, x7, x8] μ = .ok (.lst (ws.map sD)) μ ∧ ws.length = w ∧ (∀ x ∈ ws, Nm x) ∧ ws.Nodup := by
  have hr : dRng1 (dCons (dVar 1) dNil) [some (.cell b), some (.int w), some (sD abc), some (sD cs), some (.int spot), some (.int first), x6, x7, x8] μ = .ok (rangeD 0 ((w : Int)).toNat) μ := rng_ok rfl (by omega) (by omega)
  rw [Int.toNat_natCast] at hr
  let g : Nat → List Nat := fun k => cs.take spot.toNat ++ [97 + ((first + 7 * (k : Int)) % 26).toNat] ++ cs.drop spot.toNat
  let f : D → D := fun x => match x with
    | .int i => sD (g i.toNat)
    | _ => .non
  have e := lc_map (G := dName 8) (Te := Q2_law_some_things) (vs := [8]) f hr (by rw [range_len]; omega) fun x hx => by
    obtain ⟨k, hk, rfl⟩ := range_mem hx
    have m0 := Int.emod_nonneg (first + 7 * (0 + (k : Int))) (show (26 : Int) ≠ 0 by decide)
    have m1 := Int.emod_lt_of_pos (first + 7 * (0 + (k : Int))) (show (0 : Int) < 26 by decide)
    have c7 : CMul 7 (0 + (k : Int)) := .inl ⟨by decide, by decide⟩
    have l1 : (cs.take spot.toNat).length ≤ 5 := by rw [List.length_take]; omega
    have l2 : (cs.drop spot.toNat).length ≤ 5 := by rw [List.length_drop]; omega
    simp only [dSeq, dIf, dB, dAnd, dOr, dNot, dAsg, dOp, dVar, dC, dCB, dCons, dNil, dName, dRet, dRetN, dDrop, dNext, dIfE, dAndV, dOrV, dNotV, dUn, dSl, dNoPart, dPart, dPar, dPar3, dTup, dLst, dGTup, dGCons, dGNil, dChain, dIsN, dNotN, isN, dCont, dBreak, dGSub, dSeqI, items_lst, items_tup, dZip2, dZip3, dEnum, still_lst, still_tup, dFor, dFld, dLenOf, dM1, look_0, look_s, bind_ok, to_ok, then_nx, then_rt, then_ct, then_bk, turn_nx, turn_ct, turn_rt, turn_bk, run_rt, run_nx, onB_bl, okO_some, noX_ok, addD_int, subD_int, ltD_int, cmpD_int, fLe, fGe, fGt, intD_int, if_true, if_false, Bool.false_eq_true, Bool.not_true, Bool.not_false, List.set_cons_succ, List.set_cons_zero, ixD_lst, ixD_tup, lenD_lst, lenD_tup, List.length_cons, List.length_nil, isi_int_int, isi_int_bool, isi_int_str, isi_int_tuple, isi_int_list, isi_bl_int, isi_bl_bool, isi_bl_str, isi_bl_tuple, isi_bl_list, isi_str_int, isi_str_bool, isi_str_str, isi_str_tuple, isi_str_list, isi_tup_int, isi_tup_bool, isi_tup_str, isi_tup_tuple, isi_tup_list, isi_lst_int, isi_lst_bool, isi_lst_str, isi_lst_tuple, isi_lst_list, isi_non_int, isi_non_bool, isi_non_str, isi_non_tuple, isi_non_list, wipeD, dNever, chk_c, Q2_law_some_things, sD_sl (show cs.length ≤ 16777216 by omega), cut_take cs s0, cut_drop cs s0, mulD_int c7, modD_int (show (0 : Int) < 26 by decide), sD_ix (show abc.length ≤ 16777216 by decide), abc_at m0 m1, sD_add (show (cs.take spot.toNat).length + [97 + ((first + 7 * (0 + (k : Int))) % 26).toNat].length ≤ 16777216 by simp only [List.length_cons, List.length_nil]; omega)]
    rw [sD_add (by rw [List.length_append]; simp only [List.length_cons, List.length_nil]; omega)]
    have ek : (0 + (k : Int)).toNat = k := by omega
    show _ = Res.ok (sD (g (0 + (k : Int)).toNat)) μ
    rw [ek, Int.zero_add]
  rw [range_map (h := g) fun k hk => by
    have ek : (0 + (k : Int)).toNat = k := by omega
    show sD (g (0 + (k : Int)).toNat) = _
    rw [ek]] at e
  refine ⟨_, e, by simp, fun x hx => ?_, nodup_range fun i j hij hj he => ?_⟩
  · obtain ⟨k, _, rfl⟩ := List.mem_map.mp hx
    have m0 := Int.emod_nonneg (first + 7 * (k : Int)) (show (26 : Int) ≠ 0 by decide)
    have m1 := Int.emod_lt_of_pos (first + 7 * (k : Int)) (show (0 : Int) < 26 by decide)
    refine ⟨?_, ?_, ((hc.take _).app (low_one m0 m1)).app (hc.drop _)⟩
    · simp only [g, List.length_append, List.length_cons]; omega
    · simp only [g, List.length_append, List.length_cons, List.length_nil, List.length_take, List.length_drop]; omega
  · have e1 := List.append_cancel_right he
    have e2 := List.append_cancel_left e1
    have e3 : 97 + ((first + 7 * (i : Int)) % 26).toNat = 97 + ((first + 7 * (j : Int)) % 26).toNat := (List.cons.inj e2).1
    omega
theorem way1_ok {b w : Nat} {μ : Mu} {cs : List Nat} {first : Int} {x4 x6 x8 : Option D} (hw : w ≤ 4) (hl : cs.length ≤ 5) (hc : Low cs) (f0 : 0 ≤ first) (f1 : first < 26) :
    ∃ ws : List (List Nat), L3_law_some_things [some (.cell b), some (.int w), some (sD abc), some (sD cs), x4, some (.int first), x6, some (sD [97 + first.toNat]), x8] μ = .ok (.lst (ws.map sD)) μ ∧ ws.length = w ∧ (∀ x ∈ ws, Nm x) ∧ ws.Nodup := by
  have hr : dRng1 (dCons (dVar 1) dNil) [some (.cell b), some (.int w), some (sD abc), some (sD cs), x4, some (.int first), x6, some (sD [97 + first.toNat]), x8] μ = .ok (rangeD 0 ((w : Int)).toNat) μ := rng_ok rfl (by omega) (by omega)
  rw [Int.toNat_natCast] at hr
  have a0 := Int.emod_nonneg (first + 9) (show (26 : Int) ≠ 0 by decide)
  have a1 := Int.emod_lt_of_pos (first + 9) (show (0 : Int) < 26 by decide)
  have b0 := Int.emod_nonneg (first + 5) (show (26 : Int) ≠ 0 by decide)
  have b1 := Int.emod_lt_of_pos (first + 5) (show (0 : Int) < 26 by decide)
  have l3 : (cs.take 3).length ≤ 3 := by rw [List.length_take]; omega
  let p := 97 + first.toNat
  let q := 97 + ((first + 9) % 26).toNat
  let r := 97 + ((first + 5) % 26).toNat
  let ws4 : List (List Nat) := [[p], [p] ++ [p], [q] ++ cs.take 3, (List.replicate (4 : Int).toNat [p]).flatten ++ [r]]
  let g : Nat → List Nat := fun k => ws4.getD k []
  let f : D → D := fun x => match x with
    | .int i => sD (g i.toNat)
    | _ => .non
  have e := lc_map (G := dName 8) (Te := Q3_law_some_things) (vs := [8]) f hr (by rw [range_len]; omega) fun x hx => by
    obtain ⟨k, hk, rfl⟩ := range_mem hx
    simp only [dSeq, dIf, dB, dAnd, dOr, dNot, dAsg, dOp, dVar, dC, dCB, dCons, dNil, dName, dRet, dRetN, dDrop, dNext, dIfE, dAndV, dOrV, dNotV, dUn, dSl, dNoPart, dPart, dPar, dPar3, dTup, dLst, dGTup, dGCons, dGNil, dChain, dIsN, dNotN, isN, dCont, dBreak, dGSub, dSeqI, items_lst, items_tup, dZip2, dZip3, dEnum, still_lst, still_tup, dFor, dFld, dLenOf, dM1, look_0, look_s, bind_ok, to_ok, then_nx, then_rt, then_ct, then_bk, turn_nx, turn_ct, turn_rt, turn_bk, run_rt, run_nx, onB_bl, okO_some, noX_ok, addD_int, subD_int, ltD_int, cmpD_int, fLe, fGe, fGt, intD_int, if_true, if_false, Bool.false_eq_true, Bool.not_true, Bool.not_false, List.set_cons_succ, List.set_cons_zero, ixD_lst, ixD_tup, lenD_lst, lenD_tup, List.length_cons, List.length_nil, isi_int_int, isi_int_bool, isi_int_str, isi_int_tuple, isi_int_list, isi_bl_int, isi_bl_bool, isi_bl_str, isi_bl_tuple, isi_bl_list, isi_str_int, isi_str_bool, isi_str_str, isi_str_tuple, isi_str_list, isi_tup_int, isi_tup_bool, isi_tup_str, isi_tup_tuple, isi_tup_list, isi_lst_int, isi_lst_bool, isi_lst_str, isi_lst_tuple, isi_lst_list, isi_non_int, isi_non_bool, isi_non_str, isi_non_tuple, isi_non_list, wipeD, dNever, chk_c, Q3_law_some_things, sD_sl (show cs.length ≤ 16777216 by omega), cut_take cs (show (0 : Int) ≤ 3 by decide), modD_int (show (0 : Int) < 26 by decide), sD_ix (show abc.length ≤ 16777216 by decide), abc_at a0 a1, abc_at b0 b1, sD_mul (a := [97 + first.toNat]) (show (-1000 : Int) ≤ 4 by decide) (show (4 : Int) ≤ 1000 by decide) (show (1 : Nat) ≤ 1000 by decide), sD_add (a := [97 + first.toNat]) (b := [97 + first.toNat]) (show (1 + 1 : Nat) ≤ 16777216 by decide)]
    have l4 : ([97 + ((first + 9) % 26).toNat] : List Nat).length + (cs.take (Int.toNat 3)).length ≤ 16777216 := by
      have : (cs.take (Int.toNat 3)).length ≤ 3 := l3
      simp only [List.length_cons, List.length_nil]; omega
    simp only [dSeq, dIf, dB, dAnd, dOr, dNot, dAsg, dOp, dVar, dC, dCB, dCons, dNil, dName, dRet, dRetN, dDrop, dNext, dIfE, dAndV, dOrV, dNotV, dUn, dSl, dNoPart, dPart, dPar, dPar3, dTup, dLst, dGTup, dGCons, dGNil, dChain, dIsN, dNotN, isN, dCont, dBreak, dGSub, dSeqI, items_lst, items_tup, dZip2, dZip3, dEnum, still_lst, still_tup, dFor, dFld, dLenOf, dM1, look_0, look_s, bind_ok, to_ok, then_nx, then_rt, then_ct, then_bk, turn_nx, turn_ct, turn_rt, turn_bk, run_rt, run_nx, onB_bl, okO_some, noX_ok, addD_int, subD_int, ltD_int, cmpD_int, fLe, fGe, fGt, intD_int, if_true, if_false, Bool.false_eq_true, Bool.not_true, Bool.not_false, List.set_cons_succ, List.set_cons_zero, ixD_lst, ixD_tup, lenD_lst, lenD_tup, List.length_cons, List.length_nil, isi_int_int, isi_int_bool, isi_int_str, isi_int_tuple, isi_int_list, isi_bl_int, isi_bl_bool, isi_bl_str, isi_bl_tuple, isi_bl_list, isi_str_int, isi_str_bool, isi_str_str, isi_str_tuple, isi_str_list, isi_tup_int, isi_tup_bool, isi_tup_str, isi_tup_tuple, isi_tup_list, isi_lst_int, isi_lst_bool, isi_lst_str, isi_lst_tuple, isi_lst_list, isi_non_int, isi_non_bool, isi_non_str, isi_non_tuple, isi_non_list, wipeD, dNever, chk_c, sD_add l4, sD_add (a := (List.replicate (4 : Int).toNat [97 + first.toNat]).flatten) (b := [97 + ((first + 5) % 26).toNat]) (show (4 + 1 : Nat) ≤ 16777216 by decide), chk_c (show (0 + 1 + 1 + 1 + 1 : Nat) ≤ 16777216 by decide)]
    have hk4 : k = 0 ∨ k = 1 ∨ k = 2 ∨ k = 3 := by omega
    rcases hk4 with rfl | rfl | rfl | rfl <;> rfl
  rw [range_map (h := g) fun k hk => by
    have ek : (0 + (k : Int)).toNat = k := by omega
    show sD (g (0 + (k : Int)).toNat) = _
    rw [ek]] at e
  have nm : ∀ x ∈ ws4, Nm x := by
    have hp : Low [p] := low_one f0 f1
    have hq : Low [q] := low_one a0 a1
    have hr' : Low [r] := low_one b0 b1
    intro x hx
    simp only [ws4, List.mem_cons, List.not_mem_nil, or_false] at hx
    rcases hx with rfl | rfl | rfl | rfl
    · exact ⟨by simp, by simp, hp⟩
    · exact ⟨by simp, by simp, hp.app hp⟩
    · refine ⟨by simp, ?_, hq.app (hc.take 3)⟩
      rw [List.length_append]; simp only [List.length_cons, List.length_nil]; omega
    · refine ⟨by simp, by simp, ?_⟩
      exact Low.app (hp.app (hp.app (hp.app hp))) hr'
  refine ⟨_, e, by simp, fun x hx => ?_, nodup_range fun i j hij hj he => ?_⟩
  · obtain ⟨k, hk, rfl⟩ := List.mem_map.mp hx
    have hk' : k < 4 := by have := List.mem_range.mp hk; omega
    refine nm _ ?_
    have hk4 : k = 0 ∨ k = 1 ∨ k = 2 ∨ k = 3 := by omega
    rcases hk4 with rfl | rfl | rfl | rfl <;> simp [g, ws4]
  · have hpq : p ≠ q := by show 97 + first.toNat ≠ 97 + ((first + 9) % 26).toNat; omega
    have h3 : (i = 0 ∧ j = 1) ∨ (i = 0 ∧ j = 2) ∨ (i = 0 ∧ j = 3) ∨ (i = 1 ∧ j = 2) ∨ (i = 1 ∧ j = 3) ∨ (i = 2 ∧ j = 3) := by omega
    rcases h3 with ⟨rfl, rfl⟩ | ⟨rfl, rfl⟩ | ⟨rfl, rfl⟩ | ⟨rfl, rfl⟩ | ⟨rfl, rfl⟩ | ⟨rfl, rfl⟩
    · have := congrArg List.length he; simp [g, ws4] at this
    · exact hpq (List.cons.inj (show p :: [] = q :: cs.take 3 from he)).1
    · have := congrArg List.length he; simp [g, ws4] at this
    · exact hpq (List.cons.inj (show p :: [p] = q :: cs.take 3 from he)).1
    · have := congrArg List.length he; simp [g, ws4] at this
    · exact hpq (List.cons.inj (show q :: cs.take 3 = p :: [p, p, p, r] from he)).1.symm
theorem flat_one : ∀ cs : List Nat, (cs.map fun c => [c]).flatten = cs
  | [] => rfl
  | c :: r => by rw [List.map_cons, List.flatten_cons, flat_one r]; rfl
theorem sum_one : ∀ cs : List Nat, (cs.map (List.length ∘ fun c => [c])).sum = cs.length
  | [] => rfl
  | c :: r => by rw [List.map_cons, List.sum_cons, sum_one r, List.length_cons]; simp only [Function.comp, List.length_cons, List.length_nil]; omega
theorem some_things_ok {b w : Nat} {μ : Mu} (hb : HasBox b μ) (hw : w ≤ 4) :
    ∃ (ws : List (List Nat)) (μ' : Mu), f_law_some_things [.cell b, .int w] μ = .ok (.lst (ws.map sD)) μ' ∧ ws.length = w ∧ (∀ x ∈ ws, Nm x) ∧ ws.Nodup ∧ Nx b μ μ' := by
  obtain ⟨cs, μ1, e1, cl, cc, k1⟩ := stem_ok (x1 := some (.int w)) (x3 := none) (x4 := none) (x5 := none) (x6 := none) (x7 := none) (x8 := none) hb
  have ej : joinD (wS []) (.lst (cs.map fun c => sD [c])) μ1 = .ok (sD cs) μ1 := by
    have e : cs.map (fun c => sD [c]) = (cs.map fun c => [c]).map sD := by rw [List.map_map]; rfl
    rw [e, sD_join, joinL_nil]
    · rw [flat_one]
    · rw [List.map_map, List.length_map, sum_one]
      simp only [List.length_nil]
      omega
  obtain ⟨spot, μ2, e2, s0, s1, k2⟩ := draw_nx (many := (cs.length : Int) + 1) (k1.box hb) (by omega) (by omega)
  obtain ⟨first, μ3, e3, f0, f1, k3⟩ := draw_nx (many := 26) ((k1.trans k2).box hb) (by decide) (by decide)
  obtain ⟨way, μ4, e4, y0, y1, k4⟩ := draw_nx (many := 2) (((k1.trans k2).trans k3).box hb) (by decide) (by decide)
  have kk := ((k1.trans k2).trans k3).trans k4
  have e0 : f_law_some_things [.cell b, .int w] μ = fz μ (SR.run (T_law_some_things [some (.cell b), some (.int w), none, none, none, none, none, none, none] μ)) := defR_ok rfl
  by_cases c : way = 0
  · obtain ⟨ws, ew, h1, h2, h3⟩ := way0_ok (b := b) (w := w) (μ := μ4) (x6 := some (.int way)) (x7 := none) (x8 := none) hw cl cc s0 f0 f1
    refine ⟨ws, μ4, ?_, h1, h2, h3, kk⟩
    rw [e0]
    subst c
    simp only [dSeq, dIf, dB, dAnd, dOr, dNot, dAsg, dOp, dVar, dC, dCB, dCons, dNil, dName, dRet, dRetN, dDrop, dNext, dIfE, dAndV, dOrV, dNotV, dUn, dSl, dNoPart, dPart, dPar, dPar3, dTup, dLst, dGTup, dGCons, dGNil, dChain, dIsN, dNotN, isN, dCont, dBreak, dGSub, dSeqI, items_lst, items_tup, dZip2, dZip3, dEnum, still_lst, still_tup, dFor, dFld, dLenOf, dM1, look_0, look_s, bind_ok, to_ok, then_nx, then_rt, then_ct, then_bk, turn_nx, turn_ct, turn_rt, turn_bk, run_rt, run_nx, onB_bl, okO_some, noX_ok, addD_int, subD_int, ltD_int, cmpD_int, fLe, fGe, fGt, intD_int, if_true, if_false, Bool.false_eq_true, Bool.not_true, Bool.not_false, List.set_cons_succ, List.set_cons_zero, ixD_lst, ixD_tup, lenD_lst, lenD_tup, List.length_cons, List.length_nil, isi_int_int, isi_int_bool, isi_int_str, isi_int_tuple, isi_int_list, isi_bl_int, isi_bl_bool, isi_bl_str, isi_bl_tuple, isi_bl_list, isi_str_int, isi_str_bool, isi_str_str, isi_str_tuple, isi_str_list, isi_tup_int, isi_tup_bool, isi_tup_str, isi_tup_tuple, isi_tup_list, isi_lst_int, isi_lst_bool, isi_lst_str, isi_lst_tuple, isi_lst_list, isi_non_int, isi_non_bool, isi_non_str, isi_non_tuple, isi_non_list, wipeD, dNever, chk_c, T_law_some_things, lit_abc, lit_e, e1, ej, sD_len (show cs.length ≤ 16777216 by omega), e2, e3, e4, chk_c (show (0 + 1 + 1 + 1 : Nat) ≤ 16777216 by decide), eqD_int, beq_self_eq_true, ew]
    exact fz_nx kk
  · obtain ⟨ws, ew, h1, h2, h3⟩ := way1_ok (b := b) (w := w) (μ := μ4) (x4 := some (.int spot)) (x6 := some (.int way)) (x8 := none) hw cl cc f0 f1
    refine ⟨ws, μ4, ?_, h1, h2, h3, kk⟩
    rw [e0]
    have cb : (way == 0) = false := beq_eq_false_iff_ne.mpr c
    simp only [dSeq, dIf, dB, dAnd, dOr, dNot, dAsg, dOp, dVar, dC, dCB, dCons, dNil, dName, dRet, dRetN, dDrop, dNext, dIfE, dAndV, dOrV, dNotV, dUn, dSl, dNoPart, dPart, dPar, dPar3, dTup, dLst, dGTup, dGCons, dGNil, dChain, dIsN, dNotN, isN, dCont, dBreak, dGSub, dSeqI, items_lst, items_tup, dZip2, dZip3, dEnum, still_lst, still_tup, dFor, dFld, dLenOf, dM1, look_0, look_s, bind_ok, to_ok, then_nx, then_rt, then_ct, then_bk, turn_nx, turn_ct, turn_rt, turn_bk, run_rt, run_nx, onB_bl, okO_some, noX_ok, addD_int, subD_int, ltD_int, cmpD_int, fLe, fGe, fGt, intD_int, if_true, if_false, Bool.false_eq_true, Bool.not_true, Bool.not_false, List.set_cons_succ, List.set_cons_zero, ixD_lst, ixD_tup, lenD_lst, lenD_tup, List.length_cons, List.length_nil, isi_int_int, isi_int_bool, isi_int_str, isi_int_tuple, isi_int_list, isi_bl_int, isi_bl_bool, isi_bl_str, isi_bl_tuple, isi_bl_list, isi_str_int, isi_str_bool, isi_str_str, isi_str_tuple, isi_str_list, isi_tup_int, isi_tup_bool, isi_tup_str, isi_tup_tuple, isi_tup_list, isi_lst_int, isi_lst_bool, isi_lst_str, isi_lst_tuple, isi_lst_list, isi_non_int, isi_non_bool, isi_non_str, isi_non_tuple, isi_non_list, wipeD, dNever, chk_c, T_law_some_things, lit_abc, lit_e, e1, ej, sD_len (show cs.length ≤ 16777216 by omega), e2, e3, e4, chk_c (show (0 + 1 + 1 + 1 : Nat) ≤ 16777216 by decide), eqD_int, cb, sD_ix (show abc.length ≤ 16777216 by decide), abc_at f0 f1, ew]
    exact fz_nx kk
end Lw

/-! Reading texts of bundles, in plain Lean: what is left of the text is carried along. -/
namespace Pa
def isL (c : Nat) : Bool := decide (97 ≤ c) && decide (c ≤ 122)
def isG (c : Nat) : Bool := decide (48 ≤ c) && decide (c ≤ 57)
/-- without the spaces ahead -/
def ns (r : List Nat) : List Nat := r.dropWhile (· == 32)
def stop : List Nat → Bool
  | [] => true
  | c :: _ => !isL c && !isG c
inductive PR (α : Type) where
  | ok (a : α) (r : List Nat)
  | err (r : List Nat)
  | bad
def PR.bind {α β : Type} (x : PR α) (f : α → List Nat → PR β) : PR β := match x with
  | .ok a r => f a r
  | .err r => .err r
  | .bad => .bad
def runP (p : Nat → Bool) (most : Nat) (zero : Bool) (r : List Nat) : PR (List Nat) :=
  if zero = true ∧ 2 ≤ (r.takeWhile p).length ∧ r.head? = some 48 then .err (r.drop 1) else
  if most < (r.takeWhile p).length then .err (r.drop most) else
  if r.takeWhile p ≠ [] ∧ stop (r.dropWhile p) = false then .err (r.dropWhile p) else .ok (r.takeWhile p) (r.dropWhile p)
def val (w : List Nat) : Nat := w.foldl (fun a c => 10 * a + (c - 48)) 0
def manyP (r : List Nat) : PR (Option Int) := match ns r with
  | [] => .ok none []
  | c :: t => if isG c = true then (runP isG 3 true (c :: t)).bind fun w u => .ok (some (val w : Int)) u else .ok none (c :: t)
abbrev Pairs := List (List Nat × Int)
def mulP (m : Option Int) (ps : Pairs) : Pairs := match m with
  | none => ps
  | some k => ps.map fun p => (p.1, p.2 * k)
def expP (c : Nat) (r : List Nat) : PR Unit := match ns r with
  | [] => .err []
  | x :: t => if x = c then .ok () t else .err (x :: t)
def endP (r : List Nat) : PR Unit := match ns r with
  | [] => .ok () []
  | x :: t => .err (x :: t)
def moreP (A : Option Int → List Nat → PR Pairs) : Nat → Pairs → List Nat → PR Pairs
  | 0, _, _ => .bad
  | k + 1, ps, r => match ns r with
    | [] => .ok ps []
    | c :: t => if c = 43 then (manyP t).bind fun m u => (A m u).bind fun qs v => moreP A k (ps ++ qs) v else .ok ps (c :: t)
/-- nothing follows the 0 that would be counted -/
def lone : List Nat → Bool
  | [] => true
  | c :: _ => !(c == 40) && !isL c
mutual
def atomP : Nat → Nat → Option Int → List Nat → PR Pairs
  | 0, _, _, _ => .bad
  | n + 1, d, m, r => match ns r with
    | [] => .err []
    | c :: t => if c = 40 ∧ d < 8 then (termsP n (d + 1) t).bind fun ps u => (expP 41 u).bind fun _ v => .ok (mulP m ps) v
      else if isL c = true then (runP isL 6 false (c :: t)).bind fun w u => .ok (mulP m [(w, 1)]) u
      else .err (c :: t)
def termsP : Nat → Nat → List Nat → PR Pairs
  | 0, _, _ => .bad
  | n + 1, d, r => (manyP r).bind fun m u => if m = some 0 ∧ lone (ns u) = true then .ok [] (ns u) else
      (atomP n d m (ns u)).bind fun ps v => moreP (atomP n d) 100000 ps v
end
/-! ### suffixes -/
theorem ns_suf (r : List Nat) : ns r <:+ r := List.dropWhile_suffix _
theorem ns_sp {r : List Nat} : ns (32 :: r) = ns r := rfl
theorem ns_no {c : Nat} {r : List Nat} (h : c ≠ 32) : ns (c :: r) = c :: r := by
  unfold ns
  rw [List.dropWhile_cons_of_neg]
  simpa using h
theorem ns_ns : ∀ r : List Nat, ns (ns r) = ns r
  | [] => rfl
  | c :: t => by
    by_cases h : c = 32
    · subst h
      rw [ns_sp]
      exact ns_ns t
    · rw [ns_no h, ns_no h]
theorem ns_head {r : List Nat} {c : Nat} {t : List Nat} (h : ns r = c :: t) : c ≠ 32 := fun z => by
  have e := ns_ns r
  rw [h, z, ns_sp] at e
  have l := (ns_suf t).length_le
  rw [e] at l
  simp at l
  omega
theorem ns_reps (k : Nat) (r : List Nat) : ns (List.replicate k 32 ++ r) = ns r := by
  induction k with
  | zero => rfl
  | succ k ih => rw [List.replicate_succ, List.cons_append, ns_sp, ih]
theorem ns_all (k : Nat) : ns (List.replicate k 32) = [] := by
  have := ns_reps k []
  rw [List.append_nil] at this
  exact this
end Pa

namespace Lw
open PySem L2 DX Pa
/-! ### the reader -/
abbrev rdN : List Str := ["source", "at"]
def P (cs r : List Nat) : Int := (cs.length : Int) - r.length
def rdr (cs r : List Nat) : MO := .ins "Reader" rdN [sD cs, .int (P cs r)]
abbrev dgs : List Nat := [48, 49, 50, 51, 52, 53, 54, 55, 56, 57]
theorem lit_dg : D.str "0123456789" = sD dgs := by
  have : ("0123456789" : Str) = wS dgs := by decide +kernel
  unfold sD
  rw [← this]
theorem lit_em : D.str "" = sD [] := by
  have : ("" : Str) = wS [] := by decide +kernel
  unfold sD
  rw [← this]
theorem lit_sp : D.str " " = sD [32] := by
  have : (" " : Str) = wS [32] := by decide +kernel
  unfold sD
  rw [← this]
theorem lit_op : D.str "(" = sD [40] := by
  have : ("(" : Str) = wS [40] := by decide +kernel
  unfold sD
  rw [← this]
theorem lit_cl : D.str ")" = sD [41] := by
  have : (")" : Str) = wS [41] := by decide +kernel
  unfold sD
  rw [← this]
theorem lit_pl : D.str "+" = sD [43] := by
  have : ("+" : Str) = wS [43] := by decide +kernel
  unfold sD
  rw [← this]
theorem lit_0 : D.str "0" = sD [48] := by
  have : ("0" : Str) = wS [48] := by decide +kernel
  unfold sD
  rw [← this]
theorem sg1 {c : Nat} (h : c < 1114112) : Sg [c] := fun x hx => by rw [List.mem_singleton.mp hx]; exact h
theorem sg0 : Sg [] := fun x hx => by cases hx
theorem Sg.suf {a b : List Nat} (h : Sg b) (k : a <:+ b) : Sg a := fun c hc => h c (k.subset hc)
theorem Sg.take {a : List Nat} (h : Sg a) (n : Nat) : Sg (a.take n) := fun c hc => h c (List.mem_of_mem_take hc)
theorem isG_mem {c : Nat} : decide (c ∈ dgs) = isG c := by
  unfold isG
  by_cases h : 48 ≤ c ∧ c ≤ 57
  · have : c = 48 ∨ c = 49 ∨ c = 50 ∨ c = 51 ∨ c = 52 ∨ c = 53 ∨ c = 54 ∨ c = 55 ∨ c = 56 ∨ c = 57 := by omega
    rcases this with rfl | rfl | rfl | rfl | rfl | rfl | rfl | rfl | rfl | rfl <;> decide
  · have h1 : ¬ c ∈ dgs := fun hm => h (by
      simp only [dgs, List.mem_cons, List.not_mem_nil, or_false] at hm
      omega)
    rw [decide_eq_false h1]
    by_cases k : 48 ≤ c
    · have : ¬ c ≤ 57 := fun z => h ⟨k, z⟩
      simp [k, this]
    · simp [k]
theorem isL_mem {c : Nat} : decide (c ∈ abc) = isL c := by
  unfold isL
  by_cases h : 97 ≤ c ∧ c ≤ 122
  · have q : ∀ k : Fin 26, 97 + k.val ∈ abc := by decide
    have q := q ⟨c - 97, by omega⟩
    have e : 97 + (c - 97) = c := by omega
    have h1 : c ∈ abc := by simpa [e] using q
    simp [h1, h.1, h.2]
  · have h1 : ¬ c ∈ abc := fun hm => h (by
      simp only [abc, List.mem_cons, List.not_mem_nil, or_false] at hm
      omega)
    rw [decide_eq_false h1]
    by_cases k : 97 ≤ c
    · have : ¬ c ≤ 122 := fun z => h ⟨k, z⟩
      simp [k, this]
    · simp [k]
theorem isLG_mem {c : Nat} : decide (c ∈ abc ++ dgs) = (isL c || isG c) := by
  rw [← isL_mem, ← isG_mem, ← Bool.decide_or]
  exact decide_eq_decide.mpr List.mem_append
section
variable {μ0 : Mu} {cs r t : List Nat}
theorem of_rd : ofC "Reader" (μ0 ++ [rdr cs r]) (.cell μ0.length) = some (rdN, [sD cs, .int (P cs r)]) := by
  simp only [ofC, asI, last_get (show μ0.length = μ0.length from rfl), rdr]
  rfl
theorem get_src {a b : D} : getF "source" rdN [a, b] = some a := if_pos rfl
theorem get_at {a b : D} : getF "at" rdN [a, b] = some b := by
  show (if ("at" : Str) = "source" then some a else _) = _
  rw [if_neg (by decide +kernel)]
  rfl
theorem set_at {i : Int} : setF "Reader" "at" (.cell μ0.length) (.int i) (μ0 ++ [rdr cs r]) = .ok () (μ0 ++ [.ins "Reader" rdN [sD cs, .int i]]) := by
  have e1 : putN "at" rdN = rdN := by decide +kernel
  have e2 : putD "at" (.int i) rdN [sD cs, .int (P cs r)] = [sD cs, .int i] := by
    show (if ("source" : Str) = "at" then _ else _) = _
    rw [if_neg (by decide +kernel)]
    rfl
  simp only [setF, last_get (show μ0.length = μ0.length from rfl), rdr]
  rw [grd_pos ⟨trivial, by decide⟩, last_set rfl, e1, e2]
theorem P_nn (h : r <:+ cs) : 0 ≤ P cs r := by
  have := h.length_le
  unfold P
  omega
theorem P_lt (h : r <:+ cs) : (P cs r < (cs.length : Int)) ↔ r ≠ [] := by
  have := h.length_le
  unfold P
  cases r with
  | nil => simp
  | cons c t =>
    rw [List.length_cons]
    exact ⟨fun _ => by simp, fun _ => by omega⟩
theorem P_cons {c : Nat} : P cs (c :: t) + 1 = P cs t := by
  unfold P
  rw [List.length_cons]
  omega
theorem at_P {c : Nat} (h : c :: t <:+ cs) : atI cs (P cs (c :: t)) = some c := by
  obtain ⟨pre, rfl⟩ := h
  have e : P (pre ++ c :: t) (c :: t) = ((pre.length : Nat) : Int) := by
    unfold P
    rw [List.length_append]
    omega
  rw [e]
  refine atI_nat ?_
  rw [List.getElem?_append_right (Nat.le_refl _), Nat.sub_self]
  rfl
/-- the part from r on, up to t -/
theorem cut_P {w : List Nat} (h : w ++ t <:+ cs) : cut cs (some (P cs (w ++ t))) (some (P cs t)) = w := by
  obtain ⟨pre, rfl⟩ := h
  have e1 : P (pre ++ (w ++ t)) (w ++ t) = ((pre.length : Nat) : Int) := by
    unfold P
    rw [List.length_append]
    omega
  have e2 : P (pre ++ (w ++ t)) t = (((pre.length + w.length : Nat)) : Int) := by
    unfold P
    rw [List.length_append, List.length_append]
    omega
  unfold cut
  rw [e1, e2, HT.sIx_nat, HT.sIx_nat]
  have l : (pre ++ (w ++ t)).length = pre.length + (w.length + t.length) := by rw [List.length_append, List.length_append]
  rw [l, Nat.min_eq_left (by omega), Nat.min_eq_left (by omega), List.drop_left, Nat.add_sub_cancel_left, List.take_left]
theorem cut_1 (h : r <:+ cs) : cut cs (some (P cs r)) (some (P cs r + 1)) = r.take 1 := by
  cases r with
  | nil =>
    obtain ⟨pre, rfl⟩ := h
    have e1 : P (pre ++ []) [] = ((pre.length : Nat) : Int) := by
      unfold P
      simp
    have e2 : ((pre.length : Nat) : Int) + 1 = ((pre.length + 1 : Nat) : Int) := by omega
    unfold cut
    rw [e1, e2, HT.sIx_nat, HT.sIx_nat]
    simp
  | cons c t =>
    rw [P_cons]
    exact cut_P (w := [c]) h
/-! sign -/
theorem sg_head {c : Nat} (hg : Sg cs) (h : c :: t <:+ cs) : Sg [c] := sg1 (hg c (h.subset List.mem_cons_self))
theorem sign_ok (h : r <:+ cs) (hg : Sg cs) (hl : cs.length ≤ 10000) : f_Reader_sign [.cell μ0.length] (μ0 ++ [rdr cs r]) = .ok (sD ((ns r).take 1)) (μ0 ++ [rdr cs (ns r)]) := by
  have e0 : f_Reader_sign [.cell μ0.length] (μ0 ++ [rdr cs r]) = fz (μ0 ++ [rdr cs r]) (SR.run (T_Reader_sign [some (.cell μ0.length)] (μ0 ++ [rdr cs r]))) := defR_ok rfl
  have lc : cs.length ≤ 16777216 := by omega
  obtain ⟨η', μ', e, rfl, rfl⟩ := whileR_go (C := C1_Reader_sign) (T := B1_Reader_sign) (fun η μ => η = [some (.cell μ0.length)] ∧ ∃ u, u <:+ cs ∧ ns u = ns r ∧ μ = μ0 ++ [rdr cs u]) (fun η μ => η = [some (.cell μ0.length)] ∧ μ = μ0 ++ [rdr cs (ns r)])
    (fun η μ => match μ[μ0.length]? with | some (.ins _ _ [_, .int i]) => ((cs.length : Int) - i).toNat | _ => 0)
    (fun η μ hI => by
      obtain ⟨rfl, u, hu, eu, rfl⟩ := hI
      cases u with
      | nil =>
        have c1 : ¬ P cs [] < (cs.length : Int) := fun z => (P_lt hu).mp z rfl
        left
        refine ⟨?_, rfl, ?_⟩
        · simp only [dSeq, dIf, dB, dAnd, dOr, dNot, dAsg, dOp, dVar, dC, dCB, dCons, dNil, dName, dRet, dRetN, dDrop, dNext, dIfE, dAndV, dOrV, dNotV, dUn, dSl, dNoPart, dPart, dPar, dPar3, dTup, dLst, dGTup, dGCons, dGNil, dChain, dIsN, dNotN, isN, dCont, dBreak, dGSub, dSeqI, items_lst, items_tup, dZip2, dZip3, dEnum, still_lst, still_tup, dFor, dFld, dLenOf, dM1, look_0, look_s, bind_ok, to_ok, then_nx, then_rt, then_ct, then_bk, turn_nx, turn_ct, turn_rt, turn_bk, run_rt, run_nx, onB_bl, okO_some, noX_ok, addD_int, subD_int, ltD_int, cmpD_int, fLe, fGe, fGt, intD_int, if_true, if_false, Bool.false_eq_true, Bool.not_true, Bool.not_false, List.set_cons_succ, List.set_cons_zero, ixD_lst, ixD_tup, lenD_lst, lenD_tup, List.length_cons, List.length_nil, isi_int_int, isi_int_bool, isi_int_str, isi_int_tuple, isi_int_list, isi_bl_int, isi_bl_bool, isi_bl_str, isi_bl_tuple, isi_bl_list, isi_str_int, isi_str_bool, isi_str_str, isi_str_tuple, isi_str_list, isi_tup_int, isi_tup_bool, isi_tup_str, isi_tup_tuple, isi_tup_list, isi_lst_int, isi_lst_bool, isi_lst_str, isi_lst_tuple, isi_lst_list, isi_non_int, isi_non_bool, isi_non_str, isi_non_tuple, isi_non_list, wipeD, dNever, chk_c, C1_Reader_sign, of_rd, get_at, get_src, sD_len lc, decide_eq_false c1]
        · rw [← eu]; rfl
      | cons c t =>
        have c1 : P cs (c :: t) < (cs.length : Int) := (P_lt hu).mpr (by simp)
        by_cases c2 : c = 32
        · subst c2
          right
          refine ⟨μ0 ++ [rdr cs (32 :: t)], [some (.cell μ0.length)], μ0 ++ [rdr cs t], ?_, .inl ?_, ⟨rfl, t, (List.suffix_cons 32 t).trans hu, ?_, rfl⟩, ?_⟩
          · simp only [dSeq, dIf, dB, dAnd, dOr, dNot, dAsg, dOp, dVar, dC, dCB, dCons, dNil, dName, dRet, dRetN, dDrop, dNext, dIfE, dAndV, dOrV, dNotV, dUn, dSl, dNoPart, dPart, dPar, dPar3, dTup, dLst, dGTup, dGCons, dGNil, dChain, dIsN, dNotN, isN, dCont, dBreak, dGSub, dSeqI, items_lst, items_tup, dZip2, dZip3, dEnum, still_lst, still_tup, dFor, dFld, dLenOf, dM1, look_0, look_s, bind_ok, to_ok, then_nx, then_rt, then_ct, then_bk, turn_nx, turn_ct, turn_rt, turn_bk, run_rt, run_nx, onB_bl, okO_some, noX_ok, addD_int, subD_int, ltD_int, cmpD_int, fLe, fGe, fGt, intD_int, if_true, if_false, Bool.false_eq_true, Bool.not_true, Bool.not_false, List.set_cons_succ, List.set_cons_zero, ixD_lst, ixD_tup, lenD_lst, lenD_tup, List.length_cons, List.length_nil, isi_int_int, isi_int_bool, isi_int_str, isi_int_tuple, isi_int_list, isi_bl_int, isi_bl_bool, isi_bl_str, isi_bl_tuple, isi_bl_list, isi_str_int, isi_str_bool, isi_str_str, isi_str_tuple, isi_str_list, isi_tup_int, isi_tup_bool, isi_tup_str, isi_tup_tuple, isi_tup_list, isi_lst_int, isi_lst_bool, isi_lst_str, isi_lst_tuple, isi_lst_list, isi_non_int, isi_non_bool, isi_non_str, isi_non_tuple, isi_non_list, wipeD, dNever, chk_c, C1_Reader_sign, of_rd, get_at, get_src, sD_len lc, decide_eq_true c1, sD_ix lc, at_P hu, lit_sp, sD_eq (sg_head hg hu) (sg_head hg hu)]
            rfl
          · simp only [dSeq, dIf, dB, dAnd, dOr, dNot, dAsg, dOp, dVar, dC, dCB, dCons, dNil, dName, dRet, dRetN, dDrop, dNext, dIfE, dAndV, dOrV, dNotV, dUn, dSl, dNoPart, dPart, dPar, dPar3, dTup, dLst, dGTup, dGCons, dGNil, dChain, dIsN, dNotN, isN, dCont, dBreak, dGSub, dSeqI, items_lst, items_tup, dZip2, dZip3, dEnum, still_lst, still_tup, dFor, dFld, dLenOf, dM1, look_0, look_s, bind_ok, to_ok, then_nx, then_rt, then_ct, then_bk, turn_nx, turn_ct, turn_rt, turn_bk, run_rt, run_nx, onB_bl, okO_some, noX_ok, addD_int, subD_int, ltD_int, cmpD_int, fLe, fGe, fGt, intD_int, if_true, if_false, Bool.false_eq_true, Bool.not_true, Bool.not_false, List.set_cons_succ, List.set_cons_zero, ixD_lst, ixD_tup, lenD_lst, lenD_tup, List.length_cons, List.length_nil, isi_int_int, isi_int_bool, isi_int_str, isi_int_tuple, isi_int_list, isi_bl_int, isi_bl_bool, isi_bl_str, isi_bl_tuple, isi_bl_list, isi_str_int, isi_str_bool, isi_str_str, isi_str_tuple, isi_str_list, isi_tup_int, isi_tup_bool, isi_tup_str, isi_tup_tuple, isi_tup_list, isi_lst_int, isi_lst_bool, isi_lst_str, isi_lst_tuple, isi_lst_list, isi_non_int, isi_non_bool, isi_non_str, isi_non_tuple, isi_non_list, wipeD, dNever, chk_c, B1_Reader_sign, dFldA, of_rd, get_at, iaddD_int, set_at, P_cons]
            rfl
          · rw [← eu]; rfl
          · simp only [last_get (show μ0.length = μ0.length from rfl), rdr]
            have := hu.length_le
            unfold P
            rw [List.length_cons] at this ⊢
            omega
        · left
          refine ⟨?_, rfl, ?_⟩
          · simp only [dSeq, dIf, dB, dAnd, dOr, dNot, dAsg, dOp, dVar, dC, dCB, dCons, dNil, dName, dRet, dRetN, dDrop, dNext, dIfE, dAndV, dOrV, dNotV, dUn, dSl, dNoPart, dPart, dPar, dPar3, dTup, dLst, dGTup, dGCons, dGNil, dChain, dIsN, dNotN, isN, dCont, dBreak, dGSub, dSeqI, items_lst, items_tup, dZip2, dZip3, dEnum, still_lst, still_tup, dFor, dFld, dLenOf, dM1, look_0, look_s, bind_ok, to_ok, then_nx, then_rt, then_ct, then_bk, turn_nx, turn_ct, turn_rt, turn_bk, run_rt, run_nx, onB_bl, okO_some, noX_ok, addD_int, subD_int, ltD_int, cmpD_int, fLe, fGe, fGt, intD_int, if_true, if_false, Bool.false_eq_true, Bool.not_true, Bool.not_false, List.set_cons_succ, List.set_cons_zero, ixD_lst, ixD_tup, lenD_lst, lenD_tup, List.length_cons, List.length_nil, isi_int_int, isi_int_bool, isi_int_str, isi_int_tuple, isi_int_list, isi_bl_int, isi_bl_bool, isi_bl_str, isi_bl_tuple, isi_bl_list, isi_str_int, isi_str_bool, isi_str_str, isi_str_tuple, isi_str_list, isi_tup_int, isi_tup_bool, isi_tup_str, isi_tup_tuple, isi_tup_list, isi_lst_int, isi_lst_bool, isi_lst_str, isi_lst_tuple, isi_lst_list, isi_non_int, isi_non_bool, isi_non_str, isi_non_tuple, isi_non_list, wipeD, dNever, chk_c, C1_Reader_sign, of_rd, get_at, get_src, sD_len lc, decide_eq_true c1, sD_ix lc, at_P hu, lit_sp, sD_eq (sg_head hg hu) (sg1 (show 32 < 1114112 by decide)), decide_eq_false (show ¬ [c] = [32] from fun z => c2 (List.cons.inj z).1)]
          · rw [← eu, ns_no c2])
    100000 [some (.cell μ0.length)] (μ0 ++ [rdr cs r]) ⟨rfl, r, h, rfl, rfl⟩ (by
      simp only [last_get (show μ0.length = μ0.length from rfl), rdr]
      have := h.length_le
      unfold P
      omega)
  rw [e0]
  have hn : ns r <:+ cs := (ns_suf r).trans h
  simp only [dSeq, dIf, dB, dAnd, dOr, dNot, dAsg, dOp, dVar, dC, dCB, dCons, dNil, dName, dRet, dRetN, dDrop, dNext, dIfE, dAndV, dOrV, dNotV, dUn, dSl, dNoPart, dPart, dPar, dPar3, dTup, dLst, dGTup, dGCons, dGNil, dChain, dIsN, dNotN, isN, dCont, dBreak, dGSub, dSeqI, items_lst, items_tup, dZip2, dZip3, dEnum, still_lst, still_tup, dFor, dFld, dLenOf, dM1, look_0, look_s, bind_ok, to_ok, then_nx, then_rt, then_ct, then_bk, turn_nx, turn_ct, turn_rt, turn_bk, run_rt, run_nx, onB_bl, okO_some, noX_ok, addD_int, subD_int, ltD_int, cmpD_int, fLe, fGe, fGt, intD_int, if_true, if_false, Bool.false_eq_true, Bool.not_true, Bool.not_false, List.set_cons_succ, List.set_cons_zero, ixD_lst, ixD_tup, lenD_lst, lenD_tup, List.length_cons, List.length_nil, isi_int_int, isi_int_bool, isi_int_str, isi_int_tuple, isi_int_list, isi_bl_int, isi_bl_bool, isi_bl_str, isi_bl_tuple, isi_bl_list, isi_str_int, isi_str_bool, isi_str_str, isi_str_tuple, isi_str_list, isi_tup_int, isi_tup_bool, isi_tup_str, isi_tup_tuple, isi_tup_list, isi_lst_int, isi_lst_bool, isi_lst_str, isi_lst_tuple, isi_lst_list, isi_non_int, isi_non_bool, isi_non_str, isi_non_tuple, isi_non_list, wipeD, dNever, chk_c, T_Reader_sign, dWhile, e, of_rd, get_at, get_src, sD_sl lc, cut_1 hn]
  exact fz_same (by simp)
end
end Lw

namespace Lw
open PySem L2 DX Pa
section
variable {μ0 : Mu} {cs r t w sg : List Nat} {p : Nat → Bool} {most : Nat} {zero : Bool}
theorem takeWhile_all : ∀ (r : List Nat) (c : Nat), c ∈ r.takeWhile p → p c = true
  | [], c, h => by cases h
  | x :: r, c, h => by
    by_cases k : p x = true
    · rw [List.takeWhile_cons_of_pos k] at h
      rcases List.mem_cons.mp h with rfl | h
      · exact k
      · exact takeWhile_all r c h
    · rw [List.takeWhile_cons_of_neg k] at h
      cases h
theorem dropWhile_head : ∀ (r : List Nat) (c : Nat) (t : List Nat), r.dropWhile p = c :: t → p c = false
  | [], c, t, h => by cases h
  | x :: r, c, t, h => by
    by_cases k : p x = true
    · rw [List.dropWhile_cons_of_pos k] at h
      exact dropWhile_head r c t h
    · rw [List.dropWhile_cons_of_neg k] at h
      have e := (List.cons.inj h).1
      rw [← e]
      simpa using k
structure RunIs (p : Nat → Bool) (most : Nat) (zero : Bool) (r w t : List Nat) : Prop where
  eq : r = w ++ t
  all : ∀ c ∈ w, p c = true
  no : ∀ c t', t = c :: t' → p c = false
  len : w.length ≤ most
  nz : zero = true → w.length ≤ 1 ∨ r.head? ≠ some 48
  st : w = [] ∨ stop t = true
theorem runP_is (h : runP p most zero r = .ok w t) : RunIs p most zero r w t := by
  unfold runP at h
  split at h
  · cases h
  · rename_i h1
    split at h
    · cases h
    · rename_i h2
      split at h
      · cases h
      · rename_i h3
        cases h
        refine ⟨(List.takeWhile_append_dropWhile).symm, takeWhile_all r, fun c t' => dropWhile_head r c t', by omega, fun z => ?_, ?_⟩
        · by_cases k : (r.takeWhile p).length ≤ 1
          · exact .inl k
          · exact .inr fun e => h1 ⟨z, by omega, e⟩
        · by_cases k : r.takeWhile p = []
          · exact .inl k
          · refine .inr ?_
            cases e : stop (r.dropWhile p) with
            | true => rfl
            | false => exact absurd ⟨k, e⟩ h3
theorem run_ok (h : r <:+ cs) (hg : Sg cs) (hl : cs.length ≤ 10000) (hsg : Sg sg) (hp : ∀ c, decide (c ∈ sg) = p c) (hz : decide (sg = dgs) = zero) (R : RunIs p most zero r w t) :
    f_Reader_run [.cell μ0.length, sD sg, .int most] (μ0 ++ [rdr cs r]) = .ok (sD w) (μ0 ++ [rdr cs t]) := by
  have e0 : f_Reader_run [.cell μ0.length, sD sg, .int most] (μ0 ++ [rdr cs r]) = fz (μ0 ++ [rdr cs r]) (SR.run (T_Reader_run [some (.cell μ0.length), some (sD sg), some (.int most), none] (μ0 ++ [rdr cs r]))) := defR_ok rfl
  have lc : cs.length ≤ 16777216 := by omega
  have sdg : Sg dgs := by unfold Sg; decide
  have hrs := R.eq
  subst hrs
  obtain ⟨η', μ', e, rfl, rfl⟩ := whileR_go (C := C1_Reader_run) (T := B1_Reader_run) (fun η μ => η = [some (.cell μ0.length), some (sD sg), some (.int most), some (.int (P cs (w ++ t)))] ∧ ∃ v x, w = v ++ x ∧ μ = μ0 ++ [rdr cs (x ++ t)])
    (fun η μ => η = [some (.cell μ0.length), some (sD sg), some (.int most), some (.int (P cs (w ++ t)))] ∧ μ = μ0 ++ [rdr cs t])
    (fun η μ => match μ[μ0.length]? with | some (.ins _ _ [_, .int i]) => ((cs.length : Int) - i).toNat | _ => 0)
    (fun η μ hI => by
      obtain ⟨rfl, v, x, ew, rfl⟩ := hI
      have hu : x ++ t <:+ cs := (show x ++ t <:+ w ++ t from ⟨v, by rw [ew, List.append_assoc]⟩).trans h
      cases x with
      | nil =>
        left
        cases t with
        | nil =>
          have c1 : ¬ P cs [] < (cs.length : Int) := fun z => (P_lt (r := []) hu).mp z rfl
          refine ⟨?_, rfl, rfl⟩
          simp only [dSeq, dIf, dB, dAnd, dOr, dNot, dAsg, dOp, dVar, dC, dCB, dCons, dNil, dName, dRet, dRetN, dDrop, dNext, dIfE, dAndV, dOrV, dNotV, dUn, dSl, dNoPart, dPart, dPar, dPar3, dTup, dLst, dGTup, dGCons, dGNil, dChain, dIsN, dNotN, isN, dCont, dBreak, dGSub, dSeqI, items_lst, items_tup, dZip2, dZip3, dEnum, still_lst, still_tup, dFor, dFld, dLenOf, dM1, look_0, look_s, bind_ok, to_ok, then_nx, then_rt, then_ct, then_bk, turn_nx, turn_ct, turn_rt, turn_bk, run_rt, run_nx, onB_bl, okO_some, noX_ok, addD_int, subD_int, ltD_int, cmpD_int, fLe, fGe, fGt, intD_int, if_true, if_false, Bool.false_eq_true, Bool.not_true, Bool.not_false, List.set_cons_succ, List.set_cons_zero, ixD_lst, ixD_tup, lenD_lst, lenD_tup, List.length_cons, List.length_nil, isi_int_int, isi_int_bool, isi_int_str, isi_int_tuple, isi_int_list, isi_bl_int, isi_bl_bool, isi_bl_str, isi_bl_tuple, isi_bl_list, isi_str_int, isi_str_bool, isi_str_str, isi_str_tuple, isi_str_list, isi_tup_int, isi_tup_bool, isi_tup_str, isi_tup_tuple, isi_tup_list, isi_lst_int, isi_lst_bool, isi_lst_str, isi_lst_tuple, isi_lst_list, isi_non_int, isi_non_bool, isi_non_str, isi_non_tuple, isi_non_list, wipeD, dNever, chk_c, C1_Reader_run, List.nil_append, of_rd, get_at, get_src, sD_len lc, decide_eq_false c1]
        | cons c t' =>
          have c1 : P cs (c :: t') < (cs.length : Int) := (P_lt (r := c :: t') hu).mpr (by simp)
          have pc := R.no c t' rfl
          refine ⟨?_, rfl, rfl⟩
          simp only [dSeq, dIf, dB, dAnd, dOr, dNot, dAsg, dOp, dVar, dC, dCB, dCons, dNil, dName, dRet, dRetN, dDrop, dNext, dIfE, dAndV, dOrV, dNotV, dUn, dSl, dNoPart, dPart, dPar, dPar3, dTup, dLst, dGTup, dGCons, dGNil, dChain, dIsN, dNotN, isN, dCont, dBreak, dGSub, dSeqI, items_lst, items_tup, dZip2, dZip3, dEnum, still_lst, still_tup, dFor, dFld, dLenOf, dM1, look_0, look_s, bind_ok, to_ok, then_nx, then_rt, then_ct, then_bk, turn_nx, turn_ct, turn_rt, turn_bk, run_rt, run_nx, onB_bl, okO_some, noX_ok, addD_int, subD_int, ltD_int, cmpD_int, fLe, fGe, fGt, intD_int, if_true, if_false, Bool.false_eq_true, Bool.not_true, Bool.not_false, List.set_cons_succ, List.set_cons_zero, ixD_lst, ixD_tup, lenD_lst, lenD_tup, List.length_cons, List.length_nil, isi_int_int, isi_int_bool, isi_int_str, isi_int_tuple, isi_int_list, isi_bl_int, isi_bl_bool, isi_bl_str, isi_bl_tuple, isi_bl_list, isi_str_int, isi_str_bool, isi_str_str, isi_str_tuple, isi_str_list, isi_tup_int, isi_tup_bool, isi_tup_str, isi_tup_tuple, isi_tup_list, isi_lst_int, isi_lst_bool, isi_lst_str, isi_lst_tuple, isi_lst_list, isi_non_int, isi_non_bool, isi_non_str, isi_non_tuple, isi_non_list, wipeD, dNever, chk_c, C1_Reader_run, List.nil_append, of_rd, get_at, get_src, sD_len lc, decide_eq_true c1, sD_ix lc, at_P (t := t') hu, sD_in, hp, pc, id]
      | cons c x' =>
        right
        have c1 : P cs (c :: (x' ++ t)) < (cs.length : Int) := (P_lt (r := c :: (x' ++ t)) hu).mpr (by simp)
        have pc := R.all c (by rw [ew]; simp)
        have lw : w.length = v.length + (x'.length + 1) := by rw [ew, List.length_append, List.length_cons]
        have dP : P cs (c :: (x' ++ t)) - P cs (w ++ t) = (v.length : Int) := by
          unfold P
          simp only [List.length_cons, List.length_append, lw]
          omega
        have ne : ((v.length : Int) == (most : Int)) = false := beq_eq_false_iff_ne.mpr (by have := R.len; omega)
        refine ⟨μ0 ++ [rdr cs (c :: x' ++ t)], [some (.cell μ0.length), some (sD sg), some (.int most), some (.int (P cs (w ++ t)))], μ0 ++ [rdr cs (x' ++ t)], ?_, .inl ?_, ⟨rfl, v ++ [c], x', by rw [ew]; simp, rfl⟩, ?_⟩
        · simp only [dSeq, dIf, dB, dAnd, dOr, dNot, dAsg, dOp, dVar, dC, dCB, dCons, dNil, dName, dRet, dRetN, dDrop, dNext, dIfE, dAndV, dOrV, dNotV, dUn, dSl, dNoPart, dPart, dPar, dPar3, dTup, dLst, dGTup, dGCons, dGNil, dChain, dIsN, dNotN, isN, dCont, dBreak, dGSub, dSeqI, items_lst, items_tup, dZip2, dZip3, dEnum, still_lst, still_tup, dFor, dFld, dLenOf, dM1, look_0, look_s, bind_ok, to_ok, then_nx, then_rt, then_ct, then_bk, turn_nx, turn_ct, turn_rt, turn_bk, run_rt, run_nx, onB_bl, okO_some, noX_ok, addD_int, subD_int, ltD_int, cmpD_int, fLe, fGe, fGt, intD_int, if_true, if_false, Bool.false_eq_true, Bool.not_true, Bool.not_false, List.set_cons_succ, List.set_cons_zero, ixD_lst, ixD_tup, lenD_lst, lenD_tup, List.length_cons, List.length_nil, isi_int_int, isi_int_bool, isi_int_str, isi_int_tuple, isi_int_list, isi_bl_int, isi_bl_bool, isi_bl_str, isi_bl_tuple, isi_bl_list, isi_str_int, isi_str_bool, isi_str_str, isi_str_tuple, isi_str_list, isi_tup_int, isi_tup_bool, isi_tup_str, isi_tup_tuple, isi_tup_list, isi_lst_int, isi_lst_bool, isi_lst_str, isi_lst_tuple, isi_lst_list, isi_non_int, isi_non_bool, isi_non_str, isi_non_tuple, isi_non_list, wipeD, dNever, chk_c, C1_Reader_run, List.cons_append, of_rd, get_at, get_src, sD_len lc, decide_eq_true c1, sD_ix lc, at_P (t := x' ++ t) hu, sD_in, hp, pc, id]
        · have z1 : ∀ ν : Mu, ν = μ0 ++ [rdr cs (c :: (x' ++ t))] → dAnd (dB (dOp eqD (dVar 1) (dC (.str "0123456789")))) (dAnd (dB (dOp (cmpD fGt) (dFld "Reader" (dVar 0) "at") (dVar 3))) (dB (dOp eqD (dOp ixD (dFld "Reader" (dVar 0) "source") (dVar 3)) (dC (.str "0"))))) [some (.cell μ0.length), some (sD sg), some (.int most), some (.int (P cs (w ++ t)))] ν = .ok false ν := by
            intro ν hν
            subst hν
            by_cases k1 : sg = dgs
            · rw [decide_eq_true k1] at hz
              by_cases k2 : v = []
              · subst k2
                have k3 : ¬ (P cs (w ++ t) < P cs (c :: (x' ++ t))) := by
                  have : (([] : List Nat).length : Int) = 0 := rfl
                  omega
                simp only [dSeq, dIf, dB, dAnd, dOr, dNot, dAsg, dOp, dVar, dC, dCB, dCons, dNil, dName, dRet, dRetN, dDrop, dNext, dIfE, dAndV, dOrV, dNotV, dUn, dSl, dNoPart, dPart, dPar, dPar3, dTup, dLst, dGTup, dGCons, dGNil, dChain, dIsN, dNotN, isN, dCont, dBreak, dGSub, dSeqI, items_lst, items_tup, dZip2, dZip3, dEnum, still_lst, still_tup, dFor, dFld, dLenOf, dM1, look_0, look_s, bind_ok, to_ok, then_nx, then_rt, then_ct, then_bk, turn_nx, turn_ct, turn_rt, turn_bk, run_rt, run_nx, onB_bl, okO_some, noX_ok, addD_int, subD_int, ltD_int, cmpD_int, fLe, fGe, fGt, intD_int, if_true, if_false, Bool.false_eq_true, Bool.not_true, Bool.not_false, List.set_cons_succ, List.set_cons_zero, ixD_lst, ixD_tup, lenD_lst, lenD_tup, List.length_cons, List.length_nil, isi_int_int, isi_int_bool, isi_int_str, isi_int_tuple, isi_int_list, isi_bl_int, isi_bl_bool, isi_bl_str, isi_bl_tuple, isi_bl_list, isi_str_int, isi_str_bool, isi_str_str, isi_str_tuple, isi_str_list, isi_tup_int, isi_tup_bool, isi_tup_str, isi_tup_tuple, isi_tup_list, isi_lst_int, isi_lst_bool, isi_lst_str, isi_lst_tuple, isi_lst_list, isi_non_int, isi_non_bool, isi_non_str, isi_non_tuple, isi_non_list, wipeD, dNever, chk_c, lit_dg, sD_eq hsg sdg, decide_eq_true k1, of_rd, get_at, decide_eq_false k3]
              · have k3 : P cs (w ++ t) < P cs (c :: (x' ++ t)) := by
                  have : 0 < v.length := List.length_pos_iff.mpr k2
                  omega
                obtain ⟨a, v', rfl⟩ : ∃ a v', v = a :: v' := by
                  cases v with
                  | nil => exact absurd rfl k2
                  | cons a v' => exact ⟨a, v', rfl⟩
                have e1 : w ++ t = a :: (v' ++ c :: x' ++ t) := by rw [ew]; simp
                have ha : a ≠ 48 := by
                  rcases R.nz hz.symm with q | q
                  · rw [List.length_cons] at lw; omega
                  · intro z
                    apply q
                    rw [e1, z]
                    rfl
                have hu2 : a :: (v' ++ c :: x' ++ t) <:+ cs := e1 ▸ h
                rw [e1] at k3 ⊢
                simp only [dSeq, dIf, dB, dAnd, dOr, dNot, dAsg, dOp, dVar, dC, dCB, dCons, dNil, dName, dRet, dRetN, dDrop, dNext, dIfE, dAndV, dOrV, dNotV, dUn, dSl, dNoPart, dPart, dPar, dPar3, dTup, dLst, dGTup, dGCons, dGNil, dChain, dIsN, dNotN, isN, dCont, dBreak, dGSub, dSeqI, items_lst, items_tup, dZip2, dZip3, dEnum, still_lst, still_tup, dFor, dFld, dLenOf, dM1, look_0, look_s, bind_ok, to_ok, then_nx, then_rt, then_ct, then_bk, turn_nx, turn_ct, turn_rt, turn_bk, run_rt, run_nx, onB_bl, okO_some, noX_ok, addD_int, subD_int, ltD_int, cmpD_int, fLe, fGe, fGt, intD_int, if_true, if_false, Bool.false_eq_true, Bool.not_true, Bool.not_false, List.set_cons_succ, List.set_cons_zero, ixD_lst, ixD_tup, lenD_lst, lenD_tup, List.length_cons, List.length_nil, isi_int_int, isi_int_bool, isi_int_str, isi_int_tuple, isi_int_list, isi_bl_int, isi_bl_bool, isi_bl_str, isi_bl_tuple, isi_bl_list, isi_str_int, isi_str_bool, isi_str_str, isi_str_tuple, isi_str_list, isi_tup_int, isi_tup_bool, isi_tup_str, isi_tup_tuple, isi_tup_list, isi_lst_int, isi_lst_bool, isi_lst_str, isi_lst_tuple, isi_lst_list, isi_non_int, isi_non_bool, isi_non_str, isi_non_tuple, isi_non_list, wipeD, dNever, chk_c, lit_dg, sD_eq hsg sdg, decide_eq_true k1, of_rd, get_at, get_src, decide_eq_true k3, sD_ix lc, at_P hu2, lit_0, sD_eq (sg_head hg hu2) (sg1 (show 48 < 1114112 by decide)), decide_eq_false (show ¬ [a] = [48] from fun z => ha (List.cons.inj z).1)]
            · simp only [dSeq, dIf, dB, dAnd, dOr, dNot, dAsg, dOp, dVar, dC, dCB, dCons, dNil, dName, dRet, dRetN, dDrop, dNext, dIfE, dAndV, dOrV, dNotV, dUn, dSl, dNoPart, dPart, dPar, dPar3, dTup, dLst, dGTup, dGCons, dGNil, dChain, dIsN, dNotN, isN, dCont, dBreak, dGSub, dSeqI, items_lst, items_tup, dZip2, dZip3, dEnum, still_lst, still_tup, dFor, dFld, dLenOf, dM1, look_0, look_s, bind_ok, to_ok, then_nx, then_rt, then_ct, then_bk, turn_nx, turn_ct, turn_rt, turn_bk, run_rt, run_nx, onB_bl, okO_some, noX_ok, addD_int, subD_int, ltD_int, cmpD_int, fLe, fGe, fGt, intD_int, if_true, if_false, Bool.false_eq_true, Bool.not_true, Bool.not_false, List.set_cons_succ, List.set_cons_zero, ixD_lst, ixD_tup, lenD_lst, lenD_tup, List.length_cons, List.length_nil, isi_int_int, isi_int_bool, isi_int_str, isi_int_tuple, isi_int_list, isi_bl_int, isi_bl_bool, isi_bl_str, isi_bl_tuple, isi_bl_list, isi_str_int, isi_str_bool, isi_str_str, isi_str_tuple, isi_str_list, isi_tup_int, isi_tup_bool, isi_tup_str, isi_tup_tuple, isi_tup_list, isi_lst_int, isi_lst_bool, isi_lst_str, isi_lst_tuple, isi_lst_list, isi_non_int, isi_non_bool, isi_non_str, isi_non_tuple, isi_non_list, wipeD, dNever, chk_c, lit_dg, sD_eq hsg sdg, decide_eq_false k1]
          have a1 : dB (dOp eqD (dOp subD (dFld "Reader" (dVar 0) "at") (dVar 3)) (dVar 2)) [some (.cell μ0.length), some (sD sg), some (.int most), some (.int (P cs (w ++ t)))] (μ0 ++ [rdr cs (c :: (x' ++ t))]) = .ok false (μ0 ++ [rdr cs (c :: (x' ++ t))]) := by
            simp only [dSeq, dIf, dB, dAnd, dOr, dNot, dAsg, dOp, dVar, dC, dCB, dCons, dNil, dName, dRet, dRetN, dDrop, dNext, dIfE, dAndV, dOrV, dNotV, dUn, dSl, dNoPart, dPart, dPar, dPar3, dTup, dLst, dGTup, dGCons, dGNil, dChain, dIsN, dNotN, isN, dCont, dBreak, dGSub, dSeqI, items_lst, items_tup, dZip2, dZip3, dEnum, still_lst, still_tup, dFor, dFld, dLenOf, dM1, look_0, look_s, bind_ok, to_ok, then_nx, then_rt, then_ct, then_bk, turn_nx, turn_ct, turn_rt, turn_bk, run_rt, run_nx, onB_bl, okO_some, noX_ok, addD_int, subD_int, ltD_int, cmpD_int, fLe, fGe, fGt, intD_int, if_true, if_false, Bool.false_eq_true, Bool.not_true, Bool.not_false, List.set_cons_succ, List.set_cons_zero, ixD_lst, ixD_tup, lenD_lst, lenD_tup, List.length_cons, List.length_nil, isi_int_int, isi_int_bool, isi_int_str, isi_int_tuple, isi_int_list, isi_bl_int, isi_bl_bool, isi_bl_str, isi_bl_tuple, isi_bl_list, isi_str_int, isi_str_bool, isi_str_str, isi_str_tuple, isi_str_list, isi_tup_int, isi_tup_bool, isi_tup_str, isi_tup_tuple, isi_tup_list, isi_lst_int, isi_lst_bool, isi_lst_str, isi_lst_tuple, isi_lst_list, isi_non_int, isi_non_bool, isi_non_str, isi_non_tuple, isi_non_list, wipeD, dNever, chk_c, of_rd, get_at, dP, eqD_int, ne]
          simp only [B1_Reader_run, dSeq, dIf, List.cons_append, a1, z1 _ rfl, to_ok, Bool.false_eq_true, if_false, dNext, then_nx]
          simp only [dSeq, dIf, dB, dAnd, dOr, dNot, dAsg, dOp, dVar, dC, dCB, dCons, dNil, dName, dRet, dRetN, dDrop, dNext, dIfE, dAndV, dOrV, dNotV, dUn, dSl, dNoPart, dPart, dPar, dPar3, dTup, dLst, dGTup, dGCons, dGNil, dChain, dIsN, dNotN, isN, dCont, dBreak, dGSub, dSeqI, items_lst, items_tup, dZip2, dZip3, dEnum, still_lst, still_tup, dFor, dFld, dLenOf, dM1, look_0, look_s, bind_ok, to_ok, then_nx, then_rt, then_ct, then_bk, turn_nx, turn_ct, turn_rt, turn_bk, run_rt, run_nx, onB_bl, okO_some, noX_ok, addD_int, subD_int, ltD_int, cmpD_int, fLe, fGe, fGt, intD_int, if_true, if_false, Bool.false_eq_true, Bool.not_true, Bool.not_false, List.set_cons_succ, List.set_cons_zero, ixD_lst, ixD_tup, lenD_lst, lenD_tup, List.length_cons, List.length_nil, isi_int_int, isi_int_bool, isi_int_str, isi_int_tuple, isi_int_list, isi_bl_int, isi_bl_bool, isi_bl_str, isi_bl_tuple, isi_bl_list, isi_str_int, isi_str_bool, isi_str_str, isi_str_tuple, isi_str_list, isi_tup_int, isi_tup_bool, isi_tup_str, isi_tup_tuple, isi_tup_list, isi_lst_int, isi_lst_bool, isi_lst_str, isi_lst_tuple, isi_lst_list, isi_non_int, isi_non_bool, isi_non_str, isi_non_tuple, isi_non_list, wipeD, dNever, chk_c, dFldA, of_rd, get_at, iaddD_int, set_at, P_cons]
          rfl
        · simp only [last_get (show μ0.length = μ0.length from rfl), rdr, List.cons_append]
          have := hu.length_le
          unfold P
          simp only [List.length_cons, List.length_append] at this ⊢
          omega)
    100000 [some (.cell μ0.length), some (sD sg), some (.int most), some (.int (P cs (w ++ t)))] (μ0 ++ [rdr cs (w ++ t)]) ⟨rfl, [], w, rfl, rfl⟩ (by
      simp only [last_get (show μ0.length = μ0.length from rfl), rdr]
      have := h.length_le
      unfold P
      omega)
  rw [e0]
  have cw := cut_P h
  have fin : dAnd (dB (dOp (cmpD fGt) (dFld "Reader" (dVar 0) "at") (dVar 3))) (dAnd (dB (dOp ltD (dFld "Reader" (dVar 0) "at") (dCB lenD (dCons (dFld "Reader" (dVar 0) "source") dNil)))) (dB (dOp inSD (dOp ixD (dFld "Reader" (dVar 0) "source") (dFld "Reader" (dVar 0) "at")) (dOp addD (dC (.str "abcdefghijklmnopqrstuvwxyz")) (dC (.str "0123456789")))))) [some (.cell μ0.length), some (sD sg), some (.int most), some (.int (P cs (w ++ t)))] (μ0 ++ [rdr cs t]) = .ok false (μ0 ++ [rdr cs t]) := by
    have ht : t <:+ cs := (List.suffix_append w t).trans h
    by_cases k1 : w = []
    · have k2 : ¬ P cs (w ++ t) < P cs t := by rw [k1]; simp
      simp only [dSeq, dIf, dB, dAnd, dOr, dNot, dAsg, dOp, dVar, dC, dCB, dCons, dNil, dName, dRet, dRetN, dDrop, dNext, dIfE, dAndV, dOrV, dNotV, dUn, dSl, dNoPart, dPart, dPar, dPar3, dTup, dLst, dGTup, dGCons, dGNil, dChain, dIsN, dNotN, isN, dCont, dBreak, dGSub, dSeqI, items_lst, items_tup, dZip2, dZip3, dEnum, still_lst, still_tup, dFor, dFld, dLenOf, dM1, look_0, look_s, bind_ok, to_ok, then_nx, then_rt, then_ct, then_bk, turn_nx, turn_ct, turn_rt, turn_bk, run_rt, run_nx, onB_bl, okO_some, noX_ok, addD_int, subD_int, ltD_int, cmpD_int, fLe, fGe, fGt, intD_int, if_true, if_false, Bool.false_eq_true, Bool.not_true, Bool.not_false, List.set_cons_succ, List.set_cons_zero, ixD_lst, ixD_tup, lenD_lst, lenD_tup, List.length_cons, List.length_nil, isi_int_int, isi_int_bool, isi_int_str, isi_int_tuple, isi_int_list, isi_bl_int, isi_bl_bool, isi_bl_str, isi_bl_tuple, isi_bl_list, isi_str_int, isi_str_bool, isi_str_str, isi_str_tuple, isi_str_list, isi_tup_int, isi_tup_bool, isi_tup_str, isi_tup_tuple, isi_tup_list, isi_lst_int, isi_lst_bool, isi_lst_str, isi_lst_tuple, isi_lst_list, isi_non_int, isi_non_bool, isi_non_str, isi_non_tuple, isi_non_list, wipeD, dNever, chk_c, of_rd, get_at, decide_eq_false k2]
    · have k2 : P cs (w ++ t) < P cs t := by
        have : 0 < w.length := List.length_pos_iff.mpr k1
        unfold P
        rw [List.length_append]
        omega
      cases t with
      | nil =>
        have c1 : ¬ P cs [] < (cs.length : Int) := fun z => (P_lt ht).mp z rfl
        simp only [dSeq, dIf, dB, dAnd, dOr, dNot, dAsg, dOp, dVar, dC, dCB, dCons, dNil, dName, dRet, dRetN, dDrop, dNext, dIfE, dAndV, dOrV, dNotV, dUn, dSl, dNoPart, dPart, dPar, dPar3, dTup, dLst, dGTup, dGCons, dGNil, dChain, dIsN, dNotN, isN, dCont, dBreak, dGSub, dSeqI, items_lst, items_tup, dZip2, dZip3, dEnum, still_lst, still_tup, dFor, dFld, dLenOf, dM1, look_0, look_s, bind_ok, to_ok, then_nx, then_rt, then_ct, then_bk, turn_nx, turn_ct, turn_rt, turn_bk, run_rt, run_nx, onB_bl, okO_some, noX_ok, addD_int, subD_int, ltD_int, cmpD_int, fLe, fGe, fGt, intD_int, if_true, if_false, Bool.false_eq_true, Bool.not_true, Bool.not_false, List.set_cons_succ, List.set_cons_zero, ixD_lst, ixD_tup, lenD_lst, lenD_tup, List.length_cons, List.length_nil, isi_int_int, isi_int_bool, isi_int_str, isi_int_tuple, isi_int_list, isi_bl_int, isi_bl_bool, isi_bl_str, isi_bl_tuple, isi_bl_list, isi_str_int, isi_str_bool, isi_str_str, isi_str_tuple, isi_str_list, isi_tup_int, isi_tup_bool, isi_tup_str, isi_tup_tuple, isi_tup_list, isi_lst_int, isi_lst_bool, isi_lst_str, isi_lst_tuple, isi_lst_list, isi_non_int, isi_non_bool, isi_non_str, isi_non_tuple, isi_non_list, wipeD, dNever, chk_c, of_rd, get_at, decide_eq_true k2, get_src, sD_len lc, decide_eq_false c1]
      | cons c t' =>
        have c1 : P cs (c :: t') < (cs.length : Int) := (P_lt ht).mpr (by simp)
        have q : (isL c || isG c) = false := by
          have z := R.st.resolve_left k1
          simp only [stop, Bool.and_eq_true, Bool.not_eq_true'] at z
          rw [z.1, z.2]
          rfl
        simp only [dSeq, dIf, dB, dAnd, dOr, dNot, dAsg, dOp, dVar, dC, dCB, dCons, dNil, dName, dRet, dRetN, dDrop, dNext, dIfE, dAndV, dOrV, dNotV, dUn, dSl, dNoPart, dPart, dPar, dPar3, dTup, dLst, dGTup, dGCons, dGNil, dChain, dIsN, dNotN, isN, dCont, dBreak, dGSub, dSeqI, items_lst, items_tup, dZip2, dZip3, dEnum, still_lst, still_tup, dFor, dFld, dLenOf, dM1, look_0, look_s, bind_ok, to_ok, then_nx, then_rt, then_ct, then_bk, turn_nx, turn_ct, turn_rt, turn_bk, run_rt, run_nx, onB_bl, okO_some, noX_ok, addD_int, subD_int, ltD_int, cmpD_int, fLe, fGe, fGt, intD_int, if_true, if_false, Bool.false_eq_true, Bool.not_true, Bool.not_false, List.set_cons_succ, List.set_cons_zero, ixD_lst, ixD_tup, lenD_lst, lenD_tup, List.length_cons, List.length_nil, isi_int_int, isi_int_bool, isi_int_str, isi_int_tuple, isi_int_list, isi_bl_int, isi_bl_bool, isi_bl_str, isi_bl_tuple, isi_bl_list, isi_str_int, isi_str_bool, isi_str_str, isi_str_tuple, isi_str_list, isi_tup_int, isi_tup_bool, isi_tup_str, isi_tup_tuple, isi_tup_list, isi_lst_int, isi_lst_bool, isi_lst_str, isi_lst_tuple, isi_lst_list, isi_non_int, isi_non_bool, isi_non_str, isi_non_tuple, isi_non_list, wipeD, dNever, chk_c, of_rd, get_at, decide_eq_true k2, get_src, sD_len lc, decide_eq_true c1, sD_ix lc, at_P ht, lit_abc, lit_dg, sD_add (show abc.length + dgs.length ≤ 16777216 by decide), sD_in, isLG_mem, q, id]
  simp only [T_Reader_run, dSeq, dAsg, dFld, dVar, look_0, look_s, bind_ok, of_rd, okO_some, get_at, to_ok, dName, List.set_cons_succ, List.set_cons_zero, then_nx, dWhile, e]
  simp only [dIf, fin, to_ok, Bool.false_eq_true, if_false, dNext, then_nx]
  simp only [dSeq, dIf, dB, dAnd, dOr, dNot, dAsg, dOp, dVar, dC, dCB, dCons, dNil, dName, dRet, dRetN, dDrop, dNext, dIfE, dAndV, dOrV, dNotV, dUn, dSl, dNoPart, dPart, dPar, dPar3, dTup, dLst, dGTup, dGCons, dGNil, dChain, dIsN, dNotN, isN, dCont, dBreak, dGSub, dSeqI, items_lst, items_tup, dZip2, dZip3, dEnum, still_lst, still_tup, dFor, dFld, dLenOf, dM1, look_0, look_s, bind_ok, to_ok, then_nx, then_rt, then_ct, then_bk, turn_nx, turn_ct, turn_rt, turn_bk, run_rt, run_nx, onB_bl, okO_some, noX_ok, addD_int, subD_int, ltD_int, cmpD_int, fLe, fGe, fGt, intD_int, if_true, if_false, Bool.false_eq_true, Bool.not_true, Bool.not_false, List.set_cons_succ, List.set_cons_zero, ixD_lst, ixD_tup, lenD_lst, lenD_tup, List.length_cons, List.length_nil, isi_int_int, isi_int_bool, isi_int_str, isi_int_tuple, isi_int_list, isi_bl_int, isi_bl_bool, isi_bl_str, isi_bl_tuple, isi_bl_list, isi_str_int, isi_str_bool, isi_str_str, isi_str_tuple, isi_str_list, isi_tup_int, isi_tup_bool, isi_tup_str, isi_tup_tuple, isi_tup_list, isi_lst_int, isi_lst_bool, isi_lst_str, isi_lst_tuple, isi_lst_list, isi_non_int, isi_non_bool, isi_non_str, isi_non_tuple, isi_non_list, wipeD, dNever, chk_c, of_rd, get_at, get_src, sD_sl lc, cw]
  exact fz_same (by simp)
end
end Lw

namespace Lw
open PySem L2 DX Pa
theorem gm_sign {α : Type} {r : Res α} : grd (("sign" : Str) ∉ rdN) r = r := grd_pos (by decide +kernel)
theorem gm_run {α : Type} {r : Res α} : grd (("run" : Str) ∉ rdN) r = r := grd_pos (by decide +kernel)
theorem gm_many {α : Type} {r : Res α} : grd (("many" : Str) ∉ rdN) r = r := grd_pos (by decide +kernel)
theorem gm_atom {α : Type} {r : Res α} : grd (("atom" : Str) ∉ rdN) r = r := grd_pos (by decide +kernel)
theorem gm_terms {α : Type} {r : Res α} : grd (("terms" : Str) ∉ rdN) r = r := grd_pos (by decide +kernel)
theorem gm_expect {α : Type} {r : Res α} : grd (("expect" : Str) ∉ rdN) r = r := grd_pos (by decide +kernel)
/-! ### numbers -/
theorem int3 : ∀ a b c : Fin 10, PySem.intText? (wS [48 + a.val, 48 + b.val, 48 + c.val]) = some ((100 * a.val + 10 * b.val + c.val : Nat) : Int) := by decide +kernel
theorem int2 : ∀ a b : Fin 10, PySem.intText? (wS [48 + a.val, 48 + b.val]) = some ((10 * a.val + b.val : Nat) : Int) := by decide +kernel
theorem int1 : ∀ a : Fin 10, PySem.intText? (wS [48 + a.val]) = some ((a.val : Nat) : Int) := by decide +kernel
theorem isG_fin {c : Nat} (h : isG c = true) : ∃ a : Fin 10, c = 48 + a.val := by
  unfold isG at h
  simp only [Bool.and_eq_true, decide_eq_true_eq] at h
  exact ⟨⟨c - 48, by omega⟩, by show c = 48 + (c - 48); omega⟩
theorem int_dg {w : List Nat} (h0 : w ≠ []) (h3 : w.length ≤ 3) (hw : ∀ c ∈ w, isG c = true) : PySem.intText? (wS w) = some (val w : Int) ∧ val w < 1000 := by
  match w, h0, h3, hw with
  | [a], _, _, hw =>
    obtain ⟨a, rfl⟩ := isG_fin (hw a (by simp))
    refine ⟨(int1 a).trans ?_, ?_⟩
    · simp only [val, List.foldl_cons, List.foldl_nil]; congr 1; have := a.isLt; omega
    · simp only [val, List.foldl_cons, List.foldl_nil]; have := a.isLt; omega
  | [a, b], _, _, hw =>
    obtain ⟨a, rfl⟩ := isG_fin (hw a (by simp))
    obtain ⟨b, rfl⟩ := isG_fin (hw b (by simp))
    refine ⟨(int2 a b).trans ?_, ?_⟩
    · simp only [val, List.foldl_cons, List.foldl_nil]; congr 1; have := a.isLt; omega
    · simp only [val, List.foldl_cons, List.foldl_nil]; have := a.isLt; have := b.isLt; omega
  | [a, b, c], _, _, hw =>
    obtain ⟨a, rfl⟩ := isG_fin (hw a (by simp))
    obtain ⟨b, rfl⟩ := isG_fin (hw b (by simp))
    obtain ⟨c, rfl⟩ := isG_fin (hw c (by simp))
    refine ⟨(int3 a b c).trans ?_, ?_⟩
    · simp only [val, List.foldl_cons, List.foldl_nil]; congr 1; have := a.isLt; omega
    · simp only [val, List.foldl_cons, List.foldl_nil]; have := a.isLt; have := b.isLt; have := c.isLt; omega
def mD : Option Int → D
  | none => .non
  | some k => .int k
theorem RunIs.suf {p : Nat → Bool} {most : Nat} {zero : Bool} {r w t : List Nat} (R : RunIs p most zero r w t) : t <:+ r := ⟨w, R.eq.symm⟩
theorem runP_pos {p : Nat → Bool} {most : Nat} {zero : Bool} {c : Nat} {t w u : List Nat} (h : p c = true) (e : runP p most zero (c :: t) = .ok w u) : w ≠ [] := by
  unfold runP at e
  split at e
  · cases e
  · split at e
    · cases e
    · split at e
      · cases e
      · cases e
        rw [List.takeWhile_cons_of_pos h]
        simp
theorem many_suf {r u : List Nat} {m : Option Int} (h : manyP r = .ok m u) : u <:+ r ∧ ∀ k, m = some k → 0 ≤ k ∧ k < 1000 := by
  unfold manyP at h
  have hs := ns_suf r
  cases e : ns r with
  | nil =>
    rw [e] at h hs
    cases h
    exact ⟨hs, fun k z => by cases z⟩
  | cons c t =>
    rw [e] at h hs
    simp only at h
    split at h
    · rename_i hc
      cases e2 : runP isG 3 true (c :: t) with
      | ok w v =>
        rw [e2] at h
        cases h
        have R := runP_is e2
        refine ⟨R.suf.trans hs, fun k z => ?_⟩
        cases z
        have := (int_dg (runP_pos hc e2) R.len R.all).2
        omega
      | err v => rw [e2] at h; cases h
      | bad => rw [e2] at h; cases h
    · cases h
      exact ⟨hs, fun k z => by cases z⟩
section
variable {μ0 : Mu} {cs r t u v : List Nat} {m : Option Int}
theorem many_ok (h : r <:+ cs) (hg : Sg cs) (hl : cs.length ≤ 10000) (e : manyP r = .ok m u) : f_Reader_many [.cell μ0.length] (μ0 ++ [rdr cs r]) = .ok (mD m) (μ0 ++ [rdr cs u]) := by
  have e0 : f_Reader_many [.cell μ0.length] (μ0 ++ [rdr cs r]) = fz (μ0 ++ [rdr cs r]) (SR.run (T_Reader_many [some (.cell μ0.length)] (μ0 ++ [rdr cs r]))) := defR_ok rfl
  have s1 := sign_ok (μ0 := μ0) h hg hl
  have hs : ns r <:+ cs := (ns_suf r).trans h
  have s2 := sign_ok (μ0 := μ0) hs hg hl
  rw [ns_ns] at s2
  rw [e0]
  unfold manyP at e
  cases en : ns r with
  | nil =>
    rw [en] at e s1 s2
    cases e
    simp only [dSeq, dIf, dB, dAnd, dOr, dNot, dAsg, dOp, dVar, dC, dCB, dCons, dNil, dName, dRet, dRetN, dDrop, dNext, dIfE, dAndV, dOrV, dNotV, dUn, dSl, dNoPart, dPart, dPar, dPar3, dTup, dLst, dGTup, dGCons, dGNil, dChain, dIsN, dNotN, isN, dCont, dBreak, dGSub, dSeqI, items_lst, items_tup, dZip2, dZip3, dEnum, still_lst, still_tup, dFor, dFld, dLenOf, dM1, look_0, look_s, bind_ok, to_ok, then_nx, then_rt, then_ct, then_bk, turn_nx, turn_ct, turn_rt, turn_bk, run_rt, run_nx, onB_bl, okO_some, noX_ok, addD_int, subD_int, ltD_int, cmpD_int, fLe, fGe, fGt, intD_int, if_true, if_false, Bool.false_eq_true, Bool.not_true, Bool.not_false, List.set_cons_succ, List.set_cons_zero, ixD_lst, ixD_tup, lenD_lst, lenD_tup, List.length_cons, List.length_nil, isi_int_int, isi_int_bool, isi_int_str, isi_int_tuple, isi_int_list, isi_bl_int, isi_bl_bool, isi_bl_str, isi_bl_tuple, isi_bl_list, isi_str_int, isi_str_bool, isi_str_str, isi_str_tuple, isi_str_list, isi_tup_int, isi_tup_bool, isi_tup_str, isi_tup_tuple, isi_tup_list, isi_lst_int, isi_lst_bool, isi_lst_str, isi_lst_tuple, isi_lst_list, isi_non_int, isi_non_bool, isi_non_str, isi_non_tuple, isi_non_list, wipeD, dNever, chk_c, decide_true, decide_false, T_Reader_many, dMeth, of_rd, gm_sign, s1, lit_em, List.take_nil, sD_eq sg0 sg0, decide_eq_true (show ([] : List Nat) = [] from rfl), mD]
    exact fz_same (by simp)
  | cons c t =>
    rw [en] at e s1 s2 hs
    simp only at e
    have t1 : (c :: t).take 1 = [c] := rfl
    split at e
    · rename_i hc
      cases e2 : runP isG 3 true (c :: t) with
      | ok w v =>
        rw [e2] at e
        cases e
        have R := runP_is e2
        have k := run_ok (μ0 := μ0) (sg := dgs) (most := 3) hs hg hl (by unfold Sg; decide) (fun c => isG_mem) (decide_eq_true rfl) R
        obtain ⟨q1, q2⟩ := int_dg (runP_pos hc e2) R.len R.all
        have li : intVD [sD w] (μ0 ++ [rdr cs u]) = .ok (.int (val w)) (μ0 ++ [rdr cs u]) := by
          show okO (PySem.intText? (wS w)) _ = _
          rw [q1, okO_some]
          exact grd_pos (by rw [wS_len]; have := R.len; omega)
        have k' : f_Reader_run [.cell μ0.length, sD dgs, .int 3] (μ0 ++ [rdr cs (c :: t)]) = .ok (sD w) (μ0 ++ [rdr cs u]) := k
        simp only [dSeq, dIf, dB, dAnd, dOr, dNot, dAsg, dOp, dVar, dC, dCB, dCons, dNil, dName, dRet, dRetN, dDrop, dNext, dIfE, dAndV, dOrV, dNotV, dUn, dSl, dNoPart, dPart, dPar, dPar3, dTup, dLst, dGTup, dGCons, dGNil, dChain, dIsN, dNotN, isN, dCont, dBreak, dGSub, dSeqI, items_lst, items_tup, dZip2, dZip3, dEnum, still_lst, still_tup, dFor, dFld, dLenOf, dM1, look_0, look_s, bind_ok, to_ok, then_nx, then_rt, then_ct, then_bk, turn_nx, turn_ct, turn_rt, turn_bk, run_rt, run_nx, onB_bl, okO_some, noX_ok, addD_int, subD_int, ltD_int, cmpD_int, fLe, fGe, fGt, intD_int, if_true, if_false, Bool.false_eq_true, Bool.not_true, Bool.not_false, List.set_cons_succ, List.set_cons_zero, ixD_lst, ixD_tup, lenD_lst, lenD_tup, List.length_cons, List.length_nil, isi_int_int, isi_int_bool, isi_int_str, isi_int_tuple, isi_int_list, isi_bl_int, isi_bl_bool, isi_bl_str, isi_bl_tuple, isi_bl_list, isi_str_int, isi_str_bool, isi_str_str, isi_str_tuple, isi_str_list, isi_tup_int, isi_tup_bool, isi_tup_str, isi_tup_tuple, isi_tup_list, isi_lst_int, isi_lst_bool, isi_lst_str, isi_lst_tuple, isi_lst_list, isi_non_int, isi_non_bool, isi_non_str, isi_non_tuple, isi_non_list, wipeD, dNever, chk_c, decide_true, decide_false, T_Reader_many, dMeth, of_rd, gm_sign, gm_run, s1, s2, lit_em, lit_dg, t1, sD_eq (sg_head hg hs) sg0, decide_eq_false (show ¬ [c] = ([] : List Nat) from fun z => by cases z), sD_in, isG_mem, hc, k', li, mD]
        exact fz_same (by simp)
      | err v => rw [e2] at e; cases e
      | bad => rw [e2] at e; cases e
    · rename_i hc
      cases e
      have hc' : isG c = false := by simpa using hc
      simp only [dSeq, dIf, dB, dAnd, dOr, dNot, dAsg, dOp, dVar, dC, dCB, dCons, dNil, dName, dRet, dRetN, dDrop, dNext, dIfE, dAndV, dOrV, dNotV, dUn, dSl, dNoPart, dPart, dPar, dPar3, dTup, dLst, dGTup, dGCons, dGNil, dChain, dIsN, dNotN, isN, dCont, dBreak, dGSub, dSeqI, items_lst, items_tup, dZip2, dZip3, dEnum, still_lst, still_tup, dFor, dFld, dLenOf, dM1, look_0, look_s, bind_ok, to_ok, then_nx, then_rt, then_ct, then_bk, turn_nx, turn_ct, turn_rt, turn_bk, run_rt, run_nx, onB_bl, okO_some, noX_ok, addD_int, subD_int, ltD_int, cmpD_int, fLe, fGe, fGt, intD_int, if_true, if_false, Bool.false_eq_true, Bool.not_true, Bool.not_false, List.set_cons_succ, List.set_cons_zero, ixD_lst, ixD_tup, lenD_lst, lenD_tup, List.length_cons, List.length_nil, isi_int_int, isi_int_bool, isi_int_str, isi_int_tuple, isi_int_list, isi_bl_int, isi_bl_bool, isi_bl_str, isi_bl_tuple, isi_bl_list, isi_str_int, isi_str_bool, isi_str_str, isi_str_tuple, isi_str_list, isi_tup_int, isi_tup_bool, isi_tup_str, isi_tup_tuple, isi_tup_list, isi_lst_int, isi_lst_bool, isi_lst_str, isi_lst_tuple, isi_lst_list, isi_non_int, isi_non_bool, isi_non_str, isi_non_tuple, isi_non_list, wipeD, dNever, chk_c, decide_true, decide_false, T_Reader_many, dMeth, of_rd, gm_sign, s1, s2, lit_em, lit_dg, t1, sD_eq (sg_head hg hs) sg0, decide_eq_false (show ¬ [c] = ([] : List Nat) from fun z => by cases z), sD_in, isG_mem, hc', mD]
      exact fz_same (by simp)
theorem expect_ok {c : Nat} (h : r <:+ cs) (hg : Sg cs) (hl : cs.length ≤ 10000) (hc : c < 1114112) (e : expP c r = .ok () v) : f_Reader_expect [.cell μ0.length, sD [c]] (μ0 ++ [rdr cs r]) = .ok .non (μ0 ++ [rdr cs v]) := by
  have e0 : f_Reader_expect [.cell μ0.length, sD [c]] (μ0 ++ [rdr cs r]) = fz (μ0 ++ [rdr cs r]) (SR.run (T_Reader_expect [some (.cell μ0.length), some (sD [c])] (μ0 ++ [rdr cs r]))) := defR_ok rfl
  have s1 := sign_ok (μ0 := μ0) h hg hl
  have hs : ns r <:+ cs := (ns_suf r).trans h
  rw [e0]
  unfold expP at e
  cases en : ns r with
  | nil => rw [en] at e; cases e
  | cons x t =>
    rw [en] at e s1 hs
    simp only at e
    split at e
    · rename_i hx
      subst hx
      cases e
      have t1 : (x :: v).take 1 = [x] := rfl
      have l1 : lenD [sD [x]] (μ0 ++ [rdr cs (x :: v)]) = .ok (.int 1) (μ0 ++ [rdr cs (x :: v)]) := sD_len (a := [x]) (by simp)
      simp only [dSeq, dIf, dB, dAnd, dOr, dNot, dAsg, dOp, dVar, dC, dCB, dCons, dNil, dName, dRet, dRetN, dDrop, dNext, dIfE, dAndV, dOrV, dNotV, dUn, dSl, dNoPart, dPart, dPar, dPar3, dTup, dLst, dGTup, dGCons, dGNil, dChain, dIsN, dNotN, isN, dCont, dBreak, dGSub, dSeqI, items_lst, items_tup, dZip2, dZip3, dEnum, still_lst, still_tup, dFor, dFld, dLenOf, dM1, look_0, look_s, bind_ok, to_ok, then_nx, then_rt, then_ct, then_bk, turn_nx, turn_ct, turn_rt, turn_bk, run_rt, run_nx, onB_bl, okO_some, noX_ok, addD_int, subD_int, ltD_int, cmpD_int, fLe, fGe, fGt, intD_int, if_true, if_false, Bool.false_eq_true, Bool.not_true, Bool.not_false, List.set_cons_succ, List.set_cons_zero, ixD_lst, ixD_tup, lenD_lst, lenD_tup, List.length_cons, List.length_nil, isi_int_int, isi_int_bool, isi_int_str, isi_int_tuple, isi_int_list, isi_bl_int, isi_bl_bool, isi_bl_str, isi_bl_tuple, isi_bl_list, isi_str_int, isi_str_bool, isi_str_str, isi_str_tuple, isi_str_list, isi_tup_int, isi_tup_bool, isi_tup_str, isi_tup_tuple, isi_tup_list, isi_lst_int, isi_lst_bool, isi_lst_str, isi_lst_tuple, isi_lst_list, isi_non_int, isi_non_bool, isi_non_str, isi_non_tuple, isi_non_list, wipeD, dNever, chk_c, decide_true, decide_false, T_Reader_expect, dMeth, of_rd, gm_sign, s1, t1, sD_ne (sg1 hc) (sg1 hc), decide_eq_true (show [x] = [x] from rfl), dFldA, get_at, l1, iaddD_int, set_at, P_cons]
      exact fz_same (μ0 := μ0 ++ [rdr cs r]) (μ := μ0 ++ [rdr cs v]) (by simp)
    · cases e
theorem end_ok (h : r <:+ cs) (hg : Sg cs) (hl : cs.length ≤ 10000) (e : endP r = .ok () v) : f_Reader_expect [.cell μ0.length, sD []] (μ0 ++ [rdr cs r]) = .ok .non (μ0 ++ [rdr cs []]) := by
  have e0 : f_Reader_expect [.cell μ0.length, sD []] (μ0 ++ [rdr cs r]) = fz (μ0 ++ [rdr cs r]) (SR.run (T_Reader_expect [some (.cell μ0.length), some (sD [])] (μ0 ++ [rdr cs r]))) := defR_ok rfl
  have s1 := sign_ok (μ0 := μ0) h hg hl
  rw [e0]
  unfold endP at e
  cases en : ns r with
  | nil =>
    rw [en] at s1
    have l0 : lenD [sD []] (μ0 ++ [rdr cs []]) = .ok (.int 0) (μ0 ++ [rdr cs []]) := sD_len (a := []) (by simp)
    simp only [dSeq, dIf, dB, dAnd, dOr, dNot, dAsg, dOp, dVar, dC, dCB, dCons, dNil, dName, dRet, dRetN, dDrop, dNext, dIfE, dAndV, dOrV, dNotV, dUn, dSl, dNoPart, dPart, dPar, dPar3, dTup, dLst, dGTup, dGCons, dGNil, dChain, dIsN, dNotN, isN, dCont, dBreak, dGSub, dSeqI, items_lst, items_tup, dZip2, dZip3, dEnum, still_lst, still_tup, dFor, dFld, dLenOf, dM1, look_0, look_s, bind_ok, to_ok, then_nx, then_rt, then_ct, then_bk, turn_nx, turn_ct, turn_rt, turn_bk, run_rt, run_nx, onB_bl, okO_some, noX_ok, addD_int, subD_int, ltD_int, cmpD_int, fLe, fGe, fGt, intD_int, if_true, if_false, Bool.false_eq_true, Bool.not_true, Bool.not_false, List.set_cons_succ, List.set_cons_zero, ixD_lst, ixD_tup, lenD_lst, lenD_tup, List.length_cons, List.length_nil, isi_int_int, isi_int_bool, isi_int_str, isi_int_tuple, isi_int_list, isi_bl_int, isi_bl_bool, isi_bl_str, isi_bl_tuple, isi_bl_list, isi_str_int, isi_str_bool, isi_str_str, isi_str_tuple, isi_str_list, isi_tup_int, isi_tup_bool, isi_tup_str, isi_tup_tuple, isi_tup_list, isi_lst_int, isi_lst_bool, isi_lst_str, isi_lst_tuple, isi_lst_list, isi_non_int, isi_non_bool, isi_non_str, isi_non_tuple, isi_non_list, wipeD, dNever, chk_c, decide_true, decide_false, T_Reader_expect, dMeth, of_rd, gm_sign, s1, List.take_nil, sD_ne sg0 sg0, decide_eq_true (show ([] : List Nat) = [] from rfl), dFldA, get_at, l0, iaddD_int, set_at, Int.add_zero]
    exact fz_same (μ0 := μ0 ++ [rdr cs r]) (μ := μ0 ++ [rdr cs []]) (by simp)
  | cons x t => rw [en] at e; cases e
end
end Lw

namespace Lw
open PySem L2 DX Pa
/-! ### what is read away -/
theorem mulP_len (m : Option Int) (ps : Pairs) : (mulP m ps).length = ps.length := by
  cases m with
  | none => rfl
  | some k => simp [mulP]
theorem PR.bind_ok {α β : Type} {x : PR α} {f : α → List Nat → PR β} {b : β} {r : List Nat} (h : x.bind f = .ok b r) : ∃ a u, x = .ok a u ∧ f a u = .ok b r := by
  cases x with
  | ok a u => exact ⟨a, u, rfl, h⟩
  | err u => cases h
  | bad => cases h
theorem exp_is {c : Nat} {r v : List Nat} {x : Unit} (h : expP c r = .ok x v) : ns r = c :: v := by
  unfold expP at h
  cases e : ns r with
  | nil => rw [e] at h; cases h
  | cons y t =>
    rw [e] at h
    simp only at h
    split at h
    · rename_i hy
      cases h
      rw [hy]
    · cases h
theorem more_eats {A : Option Int → List Nat → PR Pairs} (hA : ∀ m r ps u, A m r = .ok ps u → u <:+ r ∧ ps.length + u.length ≤ r.length) :
    ∀ k ps r qs u, moreP A k ps r = .ok qs u → u <:+ r ∧ qs.length + u.length ≤ ps.length + r.length
  | 0, ps, r, qs, u, h => by cases h
  | k + 1, ps, r, qs, u, h => by
    unfold moreP at h
    have hs := ns_suf r
    cases e : ns r with
    | nil =>
      rw [e] at h hs
      cases h
      exact ⟨hs, by simp⟩
    | cons c t =>
      rw [e] at h hs
      simp only at h
      split at h
      · obtain ⟨m, u1, e1, h1⟩ := PR.bind_ok h
        obtain ⟨qs1, u2, e2, h2⟩ := PR.bind_ok h1
        have q1 := (many_suf e1).1
        obtain ⟨q2, q3⟩ := hA _ _ _ _ e2
        obtain ⟨q4, q5⟩ := more_eats hA k _ _ _ _ h2
        refine ⟨q4.trans (q2.trans (q1.trans ((List.suffix_cons c t).trans hs))), ?_⟩
        have l1 := q1.length_le
        have l2 := hs.length_le
        rw [List.length_cons] at l2
        rw [List.length_append] at q5
        omega
      · cases h
        exact ⟨hs, by have := hs.length_le; omega⟩
theorem eats : ∀ n, (∀ d m r ps u, atomP n d m r = .ok ps u → u <:+ r ∧ ps.length + u.length ≤ r.length) ∧ (∀ d r ps u, termsP n d r = .ok ps u → u <:+ r ∧ ps.length + u.length ≤ r.length)
  | 0 => ⟨fun d m r ps u h => by simp [atomP] at h, fun d r ps u h => by simp [termsP] at h⟩
  | n + 1 => by
    obtain ⟨ia, it⟩ := eats n
    constructor
    · intro d m r ps u h
      unfold atomP at h
      have hs := ns_suf r
      cases e : ns r with
      | nil => rw [e] at h; cases h
      | cons c t =>
        rw [e] at h hs
        have l2 := hs.length_le
        rw [List.length_cons] at l2
        simp only at h
        split at h
        · obtain ⟨qs, u1, e1, h1⟩ := PR.bind_ok h
          obtain ⟨_, u2, e2, h2⟩ := PR.bind_ok h1
          cases h2
          obtain ⟨q1, q2⟩ := it _ _ _ _ e1
          have q3 := exp_is e2
          have q4 := ns_suf u1
          rw [q3] at q4
          refine ⟨(List.suffix_cons 41 u).trans (q4.trans (q1.trans ((List.suffix_cons c t).trans hs))), ?_⟩
          have l3 := q4.length_le
          rw [List.length_cons] at l3
          rw [mulP_len]
          omega
        · split at h
          · rename_i hc
            obtain ⟨w, u1, e1, h1⟩ := PR.bind_ok h
            cases h1
            have R := runP_is e1
            have w0 := runP_pos hc e1
            refine ⟨R.suf.trans hs, ?_⟩
            have l3 := congrArg List.length R.eq
            rw [List.length_cons, List.length_append] at l3
            have l4 : 0 < w.length := List.length_pos_iff.mpr w0
            rw [mulP_len, List.length_cons, List.length_nil]
            omega
          · cases h
    · intro d r ps u h
      unfold termsP at h
      obtain ⟨m, u1, e1, h1⟩ := PR.bind_ok h
      have q1 := (many_suf e1).1
      have q2 := ns_suf u1
      have l1 := q1.length_le
      have l2 := q2.length_le
      split at h1
      · cases h1
        exact ⟨q2.trans q1, by rw [List.length_nil]; omega⟩
      · obtain ⟨qs, u2, e2, h2⟩ := PR.bind_ok h1
        obtain ⟨q3, q4⟩ := ia _ _ _ _ _ e2
        obtain ⟨q5, q6⟩ := more_eats (ia d) _ _ _ _ _ h2
        exact ⟨q5.trans (q3.trans (q2.trans q1)), by omega⟩
/-! ### the pairs -/
def prD (ps : Pairs) : List D := ps.map fun p => .tup [sD p.1, .int p.2]
theorem prD_len (ps : Pairs) : (prD ps).length = ps.length := List.length_map _
theorem prD_app (ps qs : Pairs) : prD ps ++ prD qs = prD (ps ++ qs) := (List.map_append ..).symm
theorem add_lstP {xs ys : List D} {μ : Mu} (h : xs.length + ys.length ≤ 16777216) : addD (.lst xs) (.lst ys) μ = .ok (.lst (xs ++ ys)) μ := by
  show addL μ (.lst xs) (.lst ys) = _
  simp only [addL, asL]
  exact chk_c h
theorem scale_ok {x0 x1 x3 x5 x6 : Option D} {k : Int} {ps : Pairs} {μ : Mu} (hk : -(2 ^ 64) < k ∧ k < 2 ^ 64) (hl : ps.length ≤ 16777216) :
    dLc (dSeqI (dVar 4)) (dGTup 2 (dGCons (dName 5) (dGCons (dName 6) dGNil))) dYes (dTup (dCons (dVar 5) (dCons (dOp mulD (dVar 6) (dVar 2)) dNil))) [5, 6] [x0, x1, some (.int k), x3, some (.lst (prD ps)), x5, x6] μ = .ok (.lst (prD (mulP (some k) ps))) μ := by
  have z := lc_map (W := dSeqI (dVar 4)) (G := dGTup 2 (dGCons (dName 5) (dGCons (dName 6) dGNil))) (Te := dTup (dCons (dVar 5) (dCons (dOp mulD (dVar 6) (dVar 2)) dNil))) (vs := [5, 6]) (η := [x0, x1, some (.int k), x3, some (.lst (prD ps)), x5, x6]) (μ := μ) (its := prD ps)
    (fun x => match x with | .tup [a, .int c] => .tup [a, .int (c * k)] | _ => .non) rfl (by rw [prD_len]; exact hl) fun x hx => by
      obtain ⟨p, hp, rfl⟩ := List.mem_map.mp hx
      have c : CMul p.2 k := .inr hk
      simp only [dSeq, dIf, dB, dAnd, dOr, dNot, dAsg, dOp, dVar, dC, dCB, dCons, dNil, dName, dRet, dRetN, dDrop, dNext, dIfE, dAndV, dOrV, dNotV, dUn, dSl, dNoPart, dPart, dPar, dPar3, dTup, dLst, dGTup, dGCons, dGNil, dChain, dIsN, dNotN, isN, dCont, dBreak, dGSub, dSeqI, items_lst, items_tup, dZip2, dZip3, dEnum, still_lst, still_tup, dFor, dFld, dLenOf, dM1, look_0, look_s, bind_ok, to_ok, then_nx, then_rt, then_ct, then_bk, turn_nx, turn_ct, turn_rt, turn_bk, run_rt, run_nx, onB_bl, okO_some, noX_ok, addD_int, subD_int, ltD_int, cmpD_int, fLe, fGe, fGt, intD_int, if_true, if_false, Bool.false_eq_true, Bool.not_true, Bool.not_false, List.set_cons_succ, List.set_cons_zero, ixD_lst, ixD_tup, lenD_lst, lenD_tup, List.length_cons, List.length_nil, isi_int_int, isi_int_bool, isi_int_str, isi_int_tuple, isi_int_list, isi_bl_int, isi_bl_bool, isi_bl_str, isi_bl_tuple, isi_bl_list, isi_str_int, isi_str_bool, isi_str_str, isi_str_tuple, isi_str_list, isi_tup_int, isi_tup_bool, isi_tup_str, isi_tup_tuple, isi_tup_list, isi_lst_int, isi_lst_bool, isi_lst_str, isi_lst_tuple, isi_lst_list, isi_non_int, isi_non_bool, isi_non_str, isi_non_tuple, isi_non_list, wipeD, dNever, chk_c, decide_true, decide_false, mulD_int c, chk_c (show (0 + 1 + 1 : Nat) ≤ 16777216 by decide)]
  rw [z]
  unfold prD mulP
  rw [List.map_map, List.map_map]
  rfl
theorem eq_non0 {k : Int} {μ : Mu} : eqD .non (.int k) μ = .ok (.bl false) μ := by
  rw [eqD_plain plain_non plain_int]
  rfl
noncomputable def Cm : DTs := (dB (dOp eqD (dMeth "Reader" "sign" f_Reader_sign (dVar 0) dNil) (dC (.str "+"))))
noncomputable def Bm (g : FS) : DS := (dSeq (dFldA "Reader" (dVar 0) (dC (.int 1)) iaddD "at")
  (dAsg (dOp addD (dVar 4) (dMeth "Reader" "atom" g (dVar 0) (dCons (dVar 1) (dCons (dMeth "Reader" "many" f_Reader_many (dVar 0) dNil) dNil)))) (dName 4)))
section
variable {μ0 : Mu} {cs : List Nat}
def AtomOk (μ0 : Mu) (cs : List Nat) (n : Nat) : Prop := ∀ (d : Nat) (m : Option Int) (r : List Nat) (ps : Pairs) (u : List Nat), atomP n d m r = .ok ps u → (∀ k, m = some k → 0 ≤ k ∧ k < 1000) → r <:+ cs →
  f_Reader_atom n [.cell μ0.length, .int d, mD m] (μ0 ++ [rdr cs r]) = .ok (.lst (prD ps)) (μ0 ++ [rdr cs u])
def TermsOk (μ0 : Mu) (cs : List Nat) (n : Nat) : Prop := ∀ (d : Nat) (r : List Nat) (ps : Pairs) (u : List Nat), termsP n d r = .ok ps u → r <:+ cs →
  f_Reader_terms n [.cell μ0.length, .int d] (μ0 ++ [rdr cs r]) = .ok (.lst (prD ps)) (μ0 ++ [rdr cs u])
theorem more_ok {n : Nat} (hg : Sg cs) (hl : cs.length ≤ 10000) (hA : AtomOk μ0 cs n) {d : Nat} {x2 x3 : Option D} : ∀ (k : Nat) (ps : Pairs) (r : List Nat) (qs : Pairs) (u : List Nat), moreP (atomP n d) k ps r = .ok qs u → r <:+ cs → ps.length + r.length ≤ 100000 →
    whileR Cm (Bm (f_Reader_atom n)) k [some (.cell μ0.length), some (.int d), x2, x3, some (.lst (prD ps))] (μ0 ++ [rdr cs r]) = .nx [some (.cell μ0.length), some (.int d), x2, x3, some (.lst (prD qs))] (μ0 ++ [rdr cs u])
  | 0, ps, r, qs, u, h, hr, hp => by cases h
  | k + 1, ps, r, qs, u, h, hr, hp => by
    have s1 := sign_ok (μ0 := μ0) hr hg hl
    have hs : ns r <:+ cs := (ns_suf r).trans hr
    have l0 := (ns_suf r).length_le
    unfold moreP at h
    show ((Cm _ _).to _ _) = _
    cases e : ns r with
    | nil =>
      rw [e] at h s1
      cases h
      simp only [dSeq, dIf, dB, dAnd, dOr, dNot, dAsg, dOp, dVar, dC, dCB, dCons, dNil, dName, dRet, dRetN, dDrop, dNext, dIfE, dAndV, dOrV, dNotV, dUn, dSl, dNoPart, dPart, dPar, dPar3, dTup, dLst, dGTup, dGCons, dGNil, dChain, dIsN, dNotN, isN, dCont, dBreak, dGSub, dSeqI, items_lst, items_tup, dZip2, dZip3, dEnum, still_lst, still_tup, dFor, dFld, dLenOf, dM1, look_0, look_s, bind_ok, to_ok, then_nx, then_rt, then_ct, then_bk, turn_nx, turn_ct, turn_rt, turn_bk, run_rt, run_nx, onB_bl, okO_some, noX_ok, addD_int, subD_int, ltD_int, cmpD_int, fLe, fGe, fGt, intD_int, if_true, if_false, Bool.false_eq_true, Bool.not_true, Bool.not_false, List.set_cons_succ, List.set_cons_zero, ixD_lst, ixD_tup, lenD_lst, lenD_tup, List.length_cons, List.length_nil, isi_int_int, isi_int_bool, isi_int_str, isi_int_tuple, isi_int_list, isi_bl_int, isi_bl_bool, isi_bl_str, isi_bl_tuple, isi_bl_list, isi_str_int, isi_str_bool, isi_str_str, isi_str_tuple, isi_str_list, isi_tup_int, isi_tup_bool, isi_tup_str, isi_tup_tuple, isi_tup_list, isi_lst_int, isi_lst_bool, isi_lst_str, isi_lst_tuple, isi_lst_list, isi_non_int, isi_non_bool, isi_non_str, isi_non_tuple, isi_non_list, wipeD, dNever, chk_c, decide_true, decide_false, Cm, dMeth, of_rd, gm_sign, s1, List.take_nil, lit_pl, sD_eq sg0 (sg1 (show 43 < 1114112 by decide)), decide_eq_false (show ¬ ([] : List Nat) = [43] from fun z => by cases z)]
    | cons c t =>
      rw [e] at h s1 hs l0
      have t1 : (c :: t).take 1 = [c] := rfl
      simp only at h
      split at h
      · rename_i hc
        subst hc
        obtain ⟨m, u1, e1, h1⟩ := PR.bind_ok h
        obtain ⟨qs1, u2, e2, h2⟩ := PR.bind_ok h1
        have ht : t <:+ cs := (List.suffix_cons 43 t).trans hs
        obtain ⟨q1, b1⟩ := many_suf e1
        obtain ⟨q2, q3⟩ := (eats n).1 _ _ _ _ _ e2
        have k1 := many_ok (μ0 := μ0) ht hg hl e1
        have k2 := hA d m u1 qs1 u2 e2 b1 (q1.trans ht)
        rw [List.length_cons] at l0
        have l1 := q1.length_le
        have ih := more_ok hg hl hA (d := d) (x2 := x2) (x3 := x3) k (ps ++ qs1) u2 qs u h2 (q2.trans (q1.trans ht)) (by rw [List.length_append]; omega)
        have a1 := add_lstP (xs := prD ps) (ys := prD qs1) (μ := μ0 ++ [rdr cs u2]) (by rw [prD_len, prD_len]; omega)
        rw [prD_app] at a1
        have fd : (MO.ins "Reader" rdN [sD cs, .int (P cs t)]) = rdr cs t := rfl
        simp only [dSeq, dIf, dB, dAnd, dOr, dNot, dAsg, dOp, dVar, dC, dCB, dCons, dNil, dName, dRet, dRetN, dDrop, dNext, dIfE, dAndV, dOrV, dNotV, dUn, dSl, dNoPart, dPart, dPar, dPar3, dTup, dLst, dGTup, dGCons, dGNil, dChain, dIsN, dNotN, isN, dCont, dBreak, dGSub, dSeqI, items_lst, items_tup, dZip2, dZip3, dEnum, still_lst, still_tup, dFor, dFld, dLenOf, dM1, look_0, look_s, bind_ok, to_ok, then_nx, then_rt, then_ct, then_bk, turn_nx, turn_ct, turn_rt, turn_bk, run_rt, run_nx, onB_bl, okO_some, noX_ok, addD_int, subD_int, ltD_int, cmpD_int, fLe, fGe, fGt, intD_int, if_true, if_false, Bool.false_eq_true, Bool.not_true, Bool.not_false, List.set_cons_succ, List.set_cons_zero, ixD_lst, ixD_tup, lenD_lst, lenD_tup, List.length_cons, List.length_nil, isi_int_int, isi_int_bool, isi_int_str, isi_int_tuple, isi_int_list, isi_bl_int, isi_bl_bool, isi_bl_str, isi_bl_tuple, isi_bl_list, isi_str_int, isi_str_bool, isi_str_str, isi_str_tuple, isi_str_list, isi_tup_int, isi_tup_bool, isi_tup_str, isi_tup_tuple, isi_tup_list, isi_lst_int, isi_lst_bool, isi_lst_str, isi_lst_tuple, isi_lst_list, isi_non_int, isi_non_bool, isi_non_str, isi_non_tuple, isi_non_list, wipeD, dNever, chk_c, decide_true, decide_false, Cm, dMeth, of_rd, gm_sign, s1, t1, lit_pl, sD_eq (sg1 (show 43 < 1114112 by decide)) (sg1 (show 43 < 1114112 by decide)), Bm, dFldA, get_at, iaddD_int, set_at, P_cons, fd, gm_atom, gm_many, k1, k2, a1]
        exact ih
      · rename_i hc
        cases h
        simp only [dSeq, dIf, dB, dAnd, dOr, dNot, dAsg, dOp, dVar, dC, dCB, dCons, dNil, dName, dRet, dRetN, dDrop, dNext, dIfE, dAndV, dOrV, dNotV, dUn, dSl, dNoPart, dPart, dPar, dPar3, dTup, dLst, dGTup, dGCons, dGNil, dChain, dIsN, dNotN, isN, dCont, dBreak, dGSub, dSeqI, items_lst, items_tup, dZip2, dZip3, dEnum, still_lst, still_tup, dFor, dFld, dLenOf, dM1, look_0, look_s, bind_ok, to_ok, then_nx, then_rt, then_ct, then_bk, turn_nx, turn_ct, turn_rt, turn_bk, run_rt, run_nx, onB_bl, okO_some, noX_ok, addD_int, subD_int, ltD_int, cmpD_int, fLe, fGe, fGt, intD_int, if_true, if_false, Bool.false_eq_true, Bool.not_true, Bool.not_false, List.set_cons_succ, List.set_cons_zero, ixD_lst, ixD_tup, lenD_lst, lenD_tup, List.length_cons, List.length_nil, isi_int_int, isi_int_bool, isi_int_str, isi_int_tuple, isi_int_list, isi_bl_int, isi_bl_bool, isi_bl_str, isi_bl_tuple, isi_bl_list, isi_str_int, isi_str_bool, isi_str_str, isi_str_tuple, isi_str_list, isi_tup_int, isi_tup_bool, isi_tup_str, isi_tup_tuple, isi_tup_list, isi_lst_int, isi_lst_bool, isi_lst_str, isi_lst_tuple, isi_lst_list, isi_non_int, isi_non_bool, isi_non_str, isi_non_tuple, isi_non_list, wipeD, dNever, chk_c, decide_true, decide_false, Cm, dMeth, of_rd, gm_sign, s1, t1, lit_pl, sD_eq (sg_head hg hs) (sg1 (show 43 < 1114112 by decide)), decide_eq_false (show ¬ [c] = [43] from fun z => hc (List.cons.inj z).1)]
end
end Lw

namespace Lw
open PySem L2 DX Pa
section
variable {μ0 : Mu} {cs : List Nat}
theorem isN_m {m : Option Int} : isN (mD m) = m.isNone := by cases m <;> rfl
theorem last_ok {x0 x1 x3 x5 x6 : Option D} {m : Option Int} {ps : Pairs} {μ : Mu} (hk : ∀ k, m = some k → 0 ≤ k ∧ k < 1000) (hl : ps.length ≤ 16777216) :
    (dSeq (dIf (dB (dIsN (dVar 2))) (dRet (dVar 4)) dNext) (dRet (dLc (dSeqI (dVar 4)) (dGTup 2 (dGCons (dName 5) (dGCons (dName 6) dGNil))) dYes (dTup (dCons (dVar 5) (dCons (dOp mulD (dVar 6) (dVar 2)) dNil))) [5, 6]))) [x0, x1, some (mD m), x3, some (.lst (prD ps)), x5, x6] μ = .rt (.lst (prD (mulP m ps))) μ := by
  cases m with
  | none => rfl
  | some k =>
    have := hk k rfl
    have z := scale_ok (x0 := x0) (x1 := x1) (x3 := x3) (x5 := x5) (x6 := x6) (k := k) (ps := ps) (μ := μ) ⟨by omega, by omega⟩ hl
    simp only [dSeq, dIf, dB, dAnd, dOr, dNot, dAsg, dOp, dVar, dC, dCB, dCons, dNil, dName, dRet, dRetN, dDrop, dNext, dIfE, dAndV, dOrV, dNotV, dUn, dSl, dNoPart, dPart, dPar, dPar3, dTup, dLst, dGTup, dGCons, dGNil, dChain, dIsN, dNotN, isN, dCont, dBreak, dGSub, dSeqI, items_lst, items_tup, dZip2, dZip3, dEnum, still_lst, still_tup, dFor, dFld, dLenOf, dM1, look_0, look_s, bind_ok, to_ok, then_nx, then_rt, then_ct, then_bk, turn_nx, turn_ct, turn_rt, turn_bk, run_rt, run_nx, onB_bl, okO_some, noX_ok, addD_int, subD_int, ltD_int, cmpD_int, fLe, fGe, fGt, intD_int, if_true, if_false, Bool.false_eq_true, Bool.not_true, Bool.not_false, List.set_cons_succ, List.set_cons_zero, ixD_lst, ixD_tup, lenD_lst, lenD_tup, List.length_cons, List.length_nil, isi_int_int, isi_int_bool, isi_int_str, isi_int_tuple, isi_int_list, isi_bl_int, isi_bl_bool, isi_bl_str, isi_bl_tuple, isi_bl_list, isi_str_int, isi_str_bool, isi_str_str, isi_str_tuple, isi_str_list, isi_tup_int, isi_tup_bool, isi_tup_str, isi_tup_tuple, isi_tup_list, isi_lst_int, isi_lst_bool, isi_lst_str, isi_lst_tuple, isi_lst_list, isi_non_int, isi_non_bool, isi_non_str, isi_non_tuple, isi_non_list, wipeD, dNever, chk_c, decide_true, decide_false, mD, z]
theorem rd_ok (hg : Sg cs) (hl : cs.length ≤ 10000) : ∀ n, AtomOk μ0 cs n ∧ TermsOk μ0 cs n
  | 0 => ⟨fun d m r ps u h => by simp [atomP] at h, fun d r ps u h => by simp [termsP] at h⟩
  | n + 1 => by
    obtain ⟨ia, it⟩ := rd_ok hg hl n
    have g40 : Sg [40] := sg1 (by decide)
    constructor
    · intro d m r ps u h hm hr
      have e0 : f_Reader_atom (n + 1) [.cell μ0.length, .int d, mD m] (μ0 ++ [rdr cs r]) = fz (μ0 ++ [rdr cs r]) (SR.run (T_Reader_atom (f_Reader_atom n) (f_Reader_terms n) [some (.cell μ0.length), some (.int d), some (mD m), none, none, none, none] (μ0 ++ [rdr cs r]))) := by
        rw [f_Reader_atom]
        exact defR_ok rfl
      have s1 := sign_ok (μ0 := μ0) hr hg hl
      have hs : ns r <:+ cs := (ns_suf r).trans hr
      have lr := hr.length_le
      unfold atomP at h
      rw [e0]
      cases e : ns r with
      | nil => rw [e] at h; cases h
      | cons c t =>
        rw [e] at h s1 hs
        have t1 : (c :: t).take 1 = [c] := rfl
        have ht : t <:+ cs := (List.suffix_cons c t).trans hs
        have lt := ht.length_le
        simp only at h
        split at h
        · rename_i hc
          obtain ⟨rfl, hd⟩ := hc
          obtain ⟨qs, u1, e1, h1⟩ := PR.bind_ok h
          obtain ⟨_, u2, e2, h2⟩ := PR.bind_ok h1
          cases h2
          obtain ⟨q1, q2⟩ := (eats n).2 _ _ _ _ e1
          have k1 := it (d + 1) t qs u1 e1 ht
          have ed : ((d + 1 : Nat) : Int) = (d : Int) + 1 := by omega
          rw [ed] at k1
          have k2 := expect_ok (μ0 := μ0) (q1.trans ht) hg hl (show 41 < 1114112 by decide) e2
          have c8 : (d : Int) < 8 := by omega
          have fd : (MO.ins "Reader" rdN [sD cs, .int (P cs t)]) = rdr cs t := rfl
          have fin := last_ok (x0 := some (.cell μ0.length)) (x1 := some (.int d)) (x3 := some (sD [40])) (x5 := none) (x6 := none) (m := m) (ps := qs) (μ := μ0 ++ [rdr cs u]) hm (by omega)
          have run : T_Reader_atom (f_Reader_atom n) (f_Reader_terms n) [some (.cell μ0.length), some (.int d), some (mD m), none, none, none, none] (μ0 ++ [rdr cs r]) = (dSeq (dIf (dB (dIsN (dVar 2))) (dRet (dVar 4)) dNext) (dRet (dLc (dSeqI (dVar 4)) (dGTup 2 (dGCons (dName 5) (dGCons (dName 6) dGNil))) dYes (dTup (dCons (dVar 5) (dCons (dOp mulD (dVar 6) (dVar 2)) dNil))) [5, 6]))) [some (.cell μ0.length), some (.int d), some (mD m), some (sD [40]), some (.lst (prD qs)), none, none] (μ0 ++ [rdr cs u]) := by
            simp only [dSeq, dIf, dB, dAnd, dOr, dNot, dAsg, dOp, dVar, dC, dCB, dCons, dNil, dName, dRet, dRetN, dDrop, dNext, dIfE, dAndV, dOrV, dNotV, dUn, dSl, dNoPart, dPart, dPar, dPar3, dTup, dLst, dGTup, dGCons, dGNil, dChain, dIsN, dNotN, isN, dCont, dBreak, dGSub, dSeqI, items_lst, items_tup, dZip2, dZip3, dEnum, still_lst, still_tup, dFor, dFld, dLenOf, dM1, look_0, look_s, bind_ok, to_ok, then_nx, then_rt, then_ct, then_bk, turn_nx, turn_ct, turn_rt, turn_bk, run_rt, run_nx, onB_bl, okO_some, noX_ok, addD_int, subD_int, ltD_int, cmpD_int, fLe, fGe, fGt, intD_int, if_true, if_false, Bool.false_eq_true, Bool.not_true, Bool.not_false, List.set_cons_succ, List.set_cons_zero, ixD_lst, ixD_tup, lenD_lst, lenD_tup, List.length_cons, List.length_nil, isi_int_int, isi_int_bool, isi_int_str, isi_int_tuple, isi_int_list, isi_bl_int, isi_bl_bool, isi_bl_str, isi_bl_tuple, isi_bl_list, isi_str_int, isi_str_bool, isi_str_str, isi_str_tuple, isi_str_list, isi_tup_int, isi_tup_bool, isi_tup_str, isi_tup_tuple, isi_tup_list, isi_lst_int, isi_lst_bool, isi_lst_str, isi_lst_tuple, isi_lst_list, isi_non_int, isi_non_bool, isi_non_str, isi_non_tuple, isi_non_list, wipeD, dNever, chk_c, decide_true, decide_false, T_Reader_atom, dMeth, of_rd, gm_sign, s1, t1, lit_op, sD_eq g40 g40, decide_eq_true c8, dFldA, get_at, iaddD_int, set_at, P_cons, fd, gm_terms, k1, gm_expect, lit_cl, k2]
          rw [run, fin, run_rt]
          exact fz_same (by simp)
        · rename_i hc
          split at h
          · rename_i hL
            obtain ⟨w, u1, e1, h1⟩ := PR.bind_ok h
            cases h1
            have R := runP_is e1
            have c40 : c ≠ 40 := fun z => by rw [z] at hL; revert hL; decide
            have k := run_ok (μ0 := μ0) (sg := abc) (most := 6) hs hg hl (by unfold Sg; decide) (fun c => isL_mem) (by decide) R
            have k' : f_Reader_run [.cell μ0.length, sD abc, .int 6] (μ0 ++ [rdr cs (c :: t)]) = .ok (sD w) (μ0 ++ [rdr cs u]) := k
            have fin := last_ok (x0 := some (.cell μ0.length)) (x1 := some (.int d)) (x3 := some (sD [c])) (x5 := none) (x6 := none) (m := m) (ps := [(w, 1)]) (μ := μ0 ++ [rdr cs u]) hm (by simp)
            have run : T_Reader_atom (f_Reader_atom n) (f_Reader_terms n) [some (.cell μ0.length), some (.int d), some (mD m), none, none, none, none] (μ0 ++ [rdr cs r]) = (dSeq (dIf (dB (dIsN (dVar 2))) (dRet (dVar 4)) dNext) (dRet (dLc (dSeqI (dVar 4)) (dGTup 2 (dGCons (dName 5) (dGCons (dName 6) dGNil))) dYes (dTup (dCons (dVar 5) (dCons (dOp mulD (dVar 6) (dVar 2)) dNil))) [5, 6]))) [some (.cell μ0.length), some (.int d), some (mD m), some (sD [c]), some (.lst (prD [(w, 1)])), none, none] (μ0 ++ [rdr cs u]) := by
              simp only [dSeq, dIf, dB, dAnd, dOr, dNot, dAsg, dOp, dVar, dC, dCB, dCons, dNil, dName, dRet, dRetN, dDrop, dNext, dIfE, dAndV, dOrV, dNotV, dUn, dSl, dNoPart, dPart, dPar, dPar3, dTup, dLst, dGTup, dGCons, dGNil, dChain, dIsN, dNotN, isN, dCont, dBreak, dGSub, dSeqI, items_lst, items_tup, dZip2, dZip3, dEnum, still_lst, still_tup, dFor, dFld, dLenOf, dM1, look_0, look_s, bind_ok, to_ok, then_nx, then_rt, then_ct, then_bk, turn_nx, turn_ct, turn_rt, turn_bk, run_rt, run_nx, onB_bl, okO_some, noX_ok, addD_int, subD_int, ltD_int, cmpD_int, fLe, fGe, fGt, intD_int, if_true, if_false, Bool.false_eq_true, Bool.not_true, Bool.not_false, List.set_cons_succ, List.set_cons_zero, ixD_lst, ixD_tup, lenD_lst, lenD_tup, List.length_cons, List.length_nil, isi_int_int, isi_int_bool, isi_int_str, isi_int_tuple, isi_int_list, isi_bl_int, isi_bl_bool, isi_bl_str, isi_bl_tuple, isi_bl_list, isi_str_int, isi_str_bool, isi_str_str, isi_str_tuple, isi_str_list, isi_tup_int, isi_tup_bool, isi_tup_str, isi_tup_tuple, isi_tup_list, isi_lst_int, isi_lst_bool, isi_lst_str, isi_lst_tuple, isi_lst_list, isi_non_int, isi_non_bool, isi_non_str, isi_non_tuple, isi_non_list, wipeD, dNever, chk_c, decide_true, decide_false, T_Reader_atom, dMeth, of_rd, gm_sign, s1, t1, lit_op, sD_eq (sg_head hg hs) g40, decide_eq_false (show ¬ [c] = [40] from fun z => c40 (List.cons.inj z).1), lit_em, sD_ne (sg_head hg hs) sg0, decide_eq_false (show ¬ [c] = ([] : List Nat) from fun z => by cases z), lit_abc, sD_in, isL_mem, hL, id, gm_run, k', chk_c (show (0 + 1 + 1 : Nat) ≤ 16777216 by decide), chk_c (show (0 + 1 : Nat) ≤ 16777216 by decide)]
              rfl
            rw [run, fin, run_rt]
            exact fz_same (by simp)
          · cases h
    · intro d r ps u h hr
      have e0 : f_Reader_terms (n + 1) [.cell μ0.length, .int d] (μ0 ++ [rdr cs r]) = fz (μ0 ++ [rdr cs r]) (SR.run (T_Reader_terms (f_Reader_atom n) (f_Reader_terms n) [some (.cell μ0.length), some (.int d), none, none, none] (μ0 ++ [rdr cs r]))) := by
        rw [f_Reader_terms]
        exact defR_ok rfl
      have lr := hr.length_le
      unfold termsP at h
      rw [e0]
      obtain ⟨m, u1, e1, h1⟩ := PR.bind_ok h
      obtain ⟨q1, b1⟩ := many_suf e1
      have hu1 := q1.trans hr
      have k1 := many_ok (μ0 := μ0) hr hg hl e1
      have s1 := sign_ok (μ0 := μ0) hu1 hg hl
      have hs : ns u1 <:+ cs := (ns_suf u1).trans hu1
      have ls := hs.length_le
      -- the test
      have tst : ∀ b, (if m = some 0 ∧ lone (ns u1) = true then true else false) = b → dAnd (dB (dOp eqD (dVar 2) (dC (.int 0)))) (dAnd (dB (dOp neD (dVar 3) (dC (.str "(")))) (dOr (dB (dOp eqD (dVar 3) (dC (.str "")))) (dB (dOp notInSD (dVar 3) (dC (.str "abcdefghijklmnopqrstuvwxyz")))))) [some (.cell μ0.length), some (.int d), some (mD m), some (sD ((ns u1).take 1)), none] (μ0 ++ [rdr cs (ns u1)]) = .ok b (μ0 ++ [rdr cs (ns u1)]) := by
        intro b hb
        cases m with
        | none =>
          have : b = false := by rw [← hb, if_neg (fun z => by cases z.1)]
          rw [this]
          simp only [dSeq, dIf, dB, dAnd, dOr, dNot, dAsg, dOp, dVar, dC, dCB, dCons, dNil, dName, dRet, dRetN, dDrop, dNext, dIfE, dAndV, dOrV, dNotV, dUn, dSl, dNoPart, dPart, dPar, dPar3, dTup, dLst, dGTup, dGCons, dGNil, dChain, dIsN, dNotN, isN, dCont, dBreak, dGSub, dSeqI, items_lst, items_tup, dZip2, dZip3, dEnum, still_lst, still_tup, dFor, dFld, dLenOf, dM1, look_0, look_s, bind_ok, to_ok, then_nx, then_rt, then_ct, then_bk, turn_nx, turn_ct, turn_rt, turn_bk, run_rt, run_nx, onB_bl, okO_some, noX_ok, addD_int, subD_int, ltD_int, cmpD_int, fLe, fGe, fGt, intD_int, if_true, if_false, Bool.false_eq_true, Bool.not_true, Bool.not_false, List.set_cons_succ, List.set_cons_zero, ixD_lst, ixD_tup, lenD_lst, lenD_tup, List.length_cons, List.length_nil, isi_int_int, isi_int_bool, isi_int_str, isi_int_tuple, isi_int_list, isi_bl_int, isi_bl_bool, isi_bl_str, isi_bl_tuple, isi_bl_list, isi_str_int, isi_str_bool, isi_str_str, isi_str_tuple, isi_str_list, isi_tup_int, isi_tup_bool, isi_tup_str, isi_tup_tuple, isi_tup_list, isi_lst_int, isi_lst_bool, isi_lst_str, isi_lst_tuple, isi_lst_list, isi_non_int, isi_non_bool, isi_non_str, isi_non_tuple, isi_non_list, wipeD, dNever, chk_c, decide_true, decide_false, mD, eq_non0]
        | some k =>
          by_cases k0 : k = 0
          · subst k0
            cases e : ns u1 with
            | nil =>
              have : b = true := by rw [← hb, e, if_pos ⟨rfl, rfl⟩]
              rw [this]
              simp only [dSeq, dIf, dB, dAnd, dOr, dNot, dAsg, dOp, dVar, dC, dCB, dCons, dNil, dName, dRet, dRetN, dDrop, dNext, dIfE, dAndV, dOrV, dNotV, dUn, dSl, dNoPart, dPart, dPar, dPar3, dTup, dLst, dGTup, dGCons, dGNil, dChain, dIsN, dNotN, isN, dCont, dBreak, dGSub, dSeqI, items_lst, items_tup, dZip2, dZip3, dEnum, still_lst, still_tup, dFor, dFld, dLenOf, dM1, look_0, look_s, bind_ok, to_ok, then_nx, then_rt, then_ct, then_bk, turn_nx, turn_ct, turn_rt, turn_bk, run_rt, run_nx, onB_bl, okO_some, noX_ok, addD_int, subD_int, ltD_int, cmpD_int, fLe, fGe, fGt, intD_int, if_true, if_false, Bool.false_eq_true, Bool.not_true, Bool.not_false, List.set_cons_succ, List.set_cons_zero, ixD_lst, ixD_tup, lenD_lst, lenD_tup, List.length_cons, List.length_nil, isi_int_int, isi_int_bool, isi_int_str, isi_int_tuple, isi_int_list, isi_bl_int, isi_bl_bool, isi_bl_str, isi_bl_tuple, isi_bl_list, isi_str_int, isi_str_bool, isi_str_str, isi_str_tuple, isi_str_list, isi_tup_int, isi_tup_bool, isi_tup_str, isi_tup_tuple, isi_tup_list, isi_lst_int, isi_lst_bool, isi_lst_str, isi_lst_tuple, isi_lst_list, isi_non_int, isi_non_bool, isi_non_str, isi_non_tuple, isi_non_list, wipeD, dNever, chk_c, decide_true, decide_false, mD, eqD_int, beq_self_eq_true, List.take_nil, lit_op, sD_ne sg0 g40, decide_eq_false (show ¬ ([] : List Nat) = [40] from fun z => by cases z), lit_em, sD_eq sg0 sg0]
            | cons c t =>
              rw [e] at hs
              have t1 : (c :: t).take 1 = [c] := rfl
              by_cases c40 : c = 40
              · subst c40
                have : b = false := by rw [← hb, e, if_neg (fun z => by cases z.2)]
                rw [this]
                simp only [dSeq, dIf, dB, dAnd, dOr, dNot, dAsg, dOp, dVar, dC, dCB, dCons, dNil, dName, dRet, dRetN, dDrop, dNext, dIfE, dAndV, dOrV, dNotV, dUn, dSl, dNoPart, dPart, dPar, dPar3, dTup, dLst, dGTup, dGCons, dGNil, dChain, dIsN, dNotN, isN, dCont, dBreak, dGSub, dSeqI, items_lst, items_tup, dZip2, dZip3, dEnum, still_lst, still_tup, dFor, dFld, dLenOf, dM1, look_0, look_s, bind_ok, to_ok, then_nx, then_rt, then_ct, then_bk, turn_nx, turn_ct, turn_rt, turn_bk, run_rt, run_nx, onB_bl, okO_some, noX_ok, addD_int, subD_int, ltD_int, cmpD_int, fLe, fGe, fGt, intD_int, if_true, if_false, Bool.false_eq_true, Bool.not_true, Bool.not_false, List.set_cons_succ, List.set_cons_zero, ixD_lst, ixD_tup, lenD_lst, lenD_tup, List.length_cons, List.length_nil, isi_int_int, isi_int_bool, isi_int_str, isi_int_tuple, isi_int_list, isi_bl_int, isi_bl_bool, isi_bl_str, isi_bl_tuple, isi_bl_list, isi_str_int, isi_str_bool, isi_str_str, isi_str_tuple, isi_str_list, isi_tup_int, isi_tup_bool, isi_tup_str, isi_tup_tuple, isi_tup_list, isi_lst_int, isi_lst_bool, isi_lst_str, isi_lst_tuple, isi_lst_list, isi_non_int, isi_non_bool, isi_non_str, isi_non_tuple, isi_non_list, wipeD, dNever, chk_c, decide_true, decide_false, mD, eqD_int, beq_self_eq_true, t1, lit_op, sD_ne g40 g40]
              · have hb2 : b = !isL c := by
                  rw [← hb, e]
                  have el : lone (c :: t) = !isL c := by
                    show (!(c == 40) && !isL c) = _
                    rw [beq_eq_false_iff_ne.mpr c40]
                    simp
                  rw [el]
                  cases isL c <;> simp
                rw [hb2]
                simp only [dSeq, dIf, dB, dAnd, dOr, dNot, dAsg, dOp, dVar, dC, dCB, dCons, dNil, dName, dRet, dRetN, dDrop, dNext, dIfE, dAndV, dOrV, dNotV, dUn, dSl, dNoPart, dPart, dPar, dPar3, dTup, dLst, dGTup, dGCons, dGNil, dChain, dIsN, dNotN, isN, dCont, dBreak, dGSub, dSeqI, items_lst, items_tup, dZip2, dZip3, dEnum, still_lst, still_tup, dFor, dFld, dLenOf, dM1, look_0, look_s, bind_ok, to_ok, then_nx, then_rt, then_ct, then_bk, turn_nx, turn_ct, turn_rt, turn_bk, run_rt, run_nx, onB_bl, okO_some, noX_ok, addD_int, subD_int, ltD_int, cmpD_int, fLe, fGe, fGt, intD_int, if_true, if_false, Bool.false_eq_true, Bool.not_true, Bool.not_false, List.set_cons_succ, List.set_cons_zero, ixD_lst, ixD_tup, lenD_lst, lenD_tup, List.length_cons, List.length_nil, isi_int_int, isi_int_bool, isi_int_str, isi_int_tuple, isi_int_list, isi_bl_int, isi_bl_bool, isi_bl_str, isi_bl_tuple, isi_bl_list, isi_str_int, isi_str_bool, isi_str_str, isi_str_tuple, isi_str_list, isi_tup_int, isi_tup_bool, isi_tup_str, isi_tup_tuple, isi_tup_list, isi_lst_int, isi_lst_bool, isi_lst_str, isi_lst_tuple, isi_lst_list, isi_non_int, isi_non_bool, isi_non_str, isi_non_tuple, isi_non_list, wipeD, dNever, chk_c, decide_true, decide_false, mD, eqD_int, beq_self_eq_true, t1, lit_op, sD_ne (sg_head hg hs) g40, decide_eq_false (show ¬ [c] = [40] from fun z => c40 (List.cons.inj z).1), lit_em, sD_eq (sg_head hg hs) sg0, decide_eq_false (show ¬ [c] = ([] : List Nat) from fun z => by cases z), lit_abc, sD_in, isL_mem]
          · have : b = false := by rw [← hb, if_neg (fun z => k0 (Option.some.inj z.1))]
            rw [this]
            simp only [dSeq, dIf, dB, dAnd, dOr, dNot, dAsg, dOp, dVar, dC, dCB, dCons, dNil, dName, dRet, dRetN, dDrop, dNext, dIfE, dAndV, dOrV, dNotV, dUn, dSl, dNoPart, dPart, dPar, dPar3, dTup, dLst, dGTup, dGCons, dGNil, dChain, dIsN, dNotN, isN, dCont, dBreak, dGSub, dSeqI, items_lst, items_tup, dZip2, dZip3, dEnum, still_lst, still_tup, dFor, dFld, dLenOf, dM1, look_0, look_s, bind_ok, to_ok, then_nx, then_rt, then_ct, then_bk, turn_nx, turn_ct, turn_rt, turn_bk, run_rt, run_nx, onB_bl, okO_some, noX_ok, addD_int, subD_int, ltD_int, cmpD_int, fLe, fGe, fGt, intD_int, if_true, if_false, Bool.false_eq_true, Bool.not_true, Bool.not_false, List.set_cons_succ, List.set_cons_zero, ixD_lst, ixD_tup, lenD_lst, lenD_tup, List.length_cons, List.length_nil, isi_int_int, isi_int_bool, isi_int_str, isi_int_tuple, isi_int_list, isi_bl_int, isi_bl_bool, isi_bl_str, isi_bl_tuple, isi_bl_list, isi_str_int, isi_str_bool, isi_str_str, isi_str_tuple, isi_str_list, isi_tup_int, isi_tup_bool, isi_tup_str, isi_tup_tuple, isi_tup_list, isi_lst_int, isi_lst_bool, isi_lst_str, isi_lst_tuple, isi_lst_list, isi_non_int, isi_non_bool, isi_non_str, isi_non_tuple, isi_non_list, wipeD, dNever, chk_c, decide_true, decide_false, mD, eqD_int, beq_eq_false_iff_ne.mpr k0]
      split at h1
      · rename_i hz
        cases h1
        have tt := tst true (if_pos hz)
        simp only [T_Reader_terms, dSeq, dAsg, dMeth, dVar, look_0, look_s, bind_ok, of_rd, okO_some, gm_many, gm_sign, dNil, k1, s1, to_ok, dName, List.set_cons_succ, List.set_cons_zero, then_nx]
        simp only [dIf, tt, to_ok, if_true]
        simp only [dSeq, dIf, dB, dAnd, dOr, dNot, dAsg, dOp, dVar, dC, dCB, dCons, dNil, dName, dRet, dRetN, dDrop, dNext, dIfE, dAndV, dOrV, dNotV, dUn, dSl, dNoPart, dPart, dPar, dPar3, dTup, dLst, dGTup, dGCons, dGNil, dChain, dIsN, dNotN, isN, dCont, dBreak, dGSub, dSeqI, items_lst, items_tup, dZip2, dZip3, dEnum, still_lst, still_tup, dFor, dFld, dLenOf, dM1, look_0, look_s, bind_ok, to_ok, then_nx, then_rt, then_ct, then_bk, turn_nx, turn_ct, turn_rt, turn_bk, run_rt, run_nx, onB_bl, okO_some, noX_ok, addD_int, subD_int, ltD_int, cmpD_int, fLe, fGe, fGt, intD_int, if_true, if_false, Bool.false_eq_true, Bool.not_true, Bool.not_false, List.set_cons_succ, List.set_cons_zero, ixD_lst, ixD_tup, lenD_lst, lenD_tup, List.length_cons, List.length_nil, isi_int_int, isi_int_bool, isi_int_str, isi_int_tuple, isi_int_list, isi_bl_int, isi_bl_bool, isi_bl_str, isi_bl_tuple, isi_bl_list, isi_str_int, isi_str_bool, isi_str_str, isi_str_tuple, isi_str_list, isi_tup_int, isi_tup_bool, isi_tup_str, isi_tup_tuple, isi_tup_list, isi_lst_int, isi_lst_bool, isi_lst_str, isi_lst_tuple, isi_lst_list, isi_non_int, isi_non_bool, isi_non_str, isi_non_tuple, isi_non_list, wipeD, dNever, chk_c, decide_true, decide_false, chk_c (show (0 : Nat) ≤ 16777216 by decide)]
        exact fz_same (by simp)
      · rename_i hz
        obtain ⟨qs, u2, e2, h2⟩ := PR.bind_ok h1
        obtain ⟨q3, q4⟩ := (eats n).1 _ _ _ _ _ e2
        have k2 := ia d m (ns u1) qs u2 e2 b1 hs
        have k3 := more_ok (n := n) hg hl ia (d := d) (x2 := some (mD m)) (x3 := some (sD ((ns u1).take 1))) 100000 qs u2 ps u h2 (q3.trans hs) (by omega)
        have tt := tst false (if_neg hz)
        simp only [T_Reader_terms, dSeq, dAsg, dMeth, dVar, look_0, look_s, bind_ok, of_rd, okO_some, gm_many, gm_sign, dNil, k1, s1, to_ok, dName, List.set_cons_succ, List.set_cons_zero, then_nx]
        simp only [dIf, tt, to_ok, Bool.false_eq_true, if_false, dNext, then_nx]
        have run2 : dAsg (dMeth "Reader" "atom" (f_Reader_atom n) (dVar 0) (dCons (dVar 1) (dCons (dVar 2) dNil))) (dName 4) [some (.cell μ0.length), some (.int d), some (mD m), some (sD ((ns u1).take 1)), none] (μ0 ++ [rdr cs (ns u1)]) = .nx [some (.cell μ0.length), some (.int d), some (mD m), some (sD ((ns u1).take 1)), some (.lst (prD qs))] (μ0 ++ [rdr cs u2]) := by
          simp only [dSeq, dIf, dB, dAnd, dOr, dNot, dAsg, dOp, dVar, dC, dCB, dCons, dNil, dName, dRet, dRetN, dDrop, dNext, dIfE, dAndV, dOrV, dNotV, dUn, dSl, dNoPart, dPart, dPar, dPar3, dTup, dLst, dGTup, dGCons, dGNil, dChain, dIsN, dNotN, isN, dCont, dBreak, dGSub, dSeqI, items_lst, items_tup, dZip2, dZip3, dEnum, still_lst, still_tup, dFor, dFld, dLenOf, dM1, look_0, look_s, bind_ok, to_ok, then_nx, then_rt, then_ct, then_bk, turn_nx, turn_ct, turn_rt, turn_bk, run_rt, run_nx, onB_bl, okO_some, noX_ok, addD_int, subD_int, ltD_int, cmpD_int, fLe, fGe, fGt, intD_int, if_true, if_false, Bool.false_eq_true, Bool.not_true, Bool.not_false, List.set_cons_succ, List.set_cons_zero, ixD_lst, ixD_tup, lenD_lst, lenD_tup, List.length_cons, List.length_nil, isi_int_int, isi_int_bool, isi_int_str, isi_int_tuple, isi_int_list, isi_bl_int, isi_bl_bool, isi_bl_str, isi_bl_tuple, isi_bl_list, isi_str_int, isi_str_bool, isi_str_str, isi_str_tuple, isi_str_list, isi_tup_int, isi_tup_bool, isi_tup_str, isi_tup_tuple, isi_tup_list, isi_lst_int, isi_lst_bool, isi_lst_str, isi_lst_tuple, isi_lst_list, isi_non_int, isi_non_bool, isi_non_str, isi_non_tuple, isi_non_list, wipeD, dNever, chk_c, decide_true, decide_false, dMeth, of_rd, gm_atom, k2]
        show fz _ (SR.run (SR.then (dAsg _ _ _ _) (dSeq (dWhile 100000 Cm (Bm (f_Reader_atom n))) (dRet (dVar 4))))) = _
        rw [run2, then_nx]
        show fz _ (SR.run (SR.then (whileR Cm (Bm (f_Reader_atom n)) 100000 _ _) (dRet (dVar 4)))) = _
        rw [k3, then_nx]
        simp only [dSeq, dIf, dB, dAnd, dOr, dNot, dAsg, dOp, dVar, dC, dCB, dCons, dNil, dName, dRet, dRetN, dDrop, dNext, dIfE, dAndV, dOrV, dNotV, dUn, dSl, dNoPart, dPart, dPar, dPar3, dTup, dLst, dGTup, dGCons, dGNil, dChain, dIsN, dNotN, isN, dCont, dBreak, dGSub, dSeqI, items_lst, items_tup, dZip2, dZip3, dEnum, still_lst, still_tup, dFor, dFld, dLenOf, dM1, look_0, look_s, bind_ok, to_ok, then_nx, then_rt, then_ct, then_bk, turn_nx, turn_ct, turn_rt, turn_bk, run_rt, run_nx, onB_bl, okO_some, noX_ok, addD_int, subD_int, ltD_int, cmpD_int, fLe, fGe, fGt, intD_int, if_true, if_false, Bool.false_eq_true, Bool.not_true, Bool.not_false, List.set_cons_succ, List.set_cons_zero, ixD_lst, ixD_tup, lenD_lst, lenD_tup, List.length_cons, List.length_nil, isi_int_int, isi_int_bool, isi_int_str, isi_int_tuple, isi_int_list, isi_bl_int, isi_bl_bool, isi_bl_str, isi_bl_tuple, isi_bl_list, isi_str_int, isi_str_bool, isi_str_str, isi_str_tuple, isi_str_list, isi_tup_int, isi_tup_bool, isi_tup_str, isi_tup_tuple, isi_tup_list, isi_lst_int, isi_lst_bool, isi_lst_str, isi_lst_tuple, isi_lst_list, isi_non_int, isi_non_bool, isi_non_str, isi_non_tuple, isi_non_list, wipeD, dNever, chk_c, decide_true, decide_false]
        exact fz_same (by simp)
end
end Lw

namespace Lw
open PySem L2 DX Pa
/-! ### a text of a bundle -/
def bundleP (cs : List Nat) : PR Pairs := (termsP 20 0 cs).bind fun ps u => (endP u).bind fun _ v => .ok ps v
section
variable {μ : Mu} {cs : List Nat} {ps : Pairs} {ws : List (List Nat)}
theorem prD_clean : cleans (prD ps) = true := cleans_of fun x hx => by
  obtain ⟨p, _, rfl⟩ := List.mem_map.mp hx
  rfl
theorem new_rd : dMake kp "Reader" f_Reader_init (dCons (dVar 0) dNil) [some (sD cs), none, none] μ = .ok (.cell μ.length) (μ ++ [rdr cs cs]) := by
  have e0 : f_Reader_init [.cell μ.length, sD cs] (μ ++ [.ins "Reader" [] []]) = fz (μ ++ [.ins "Reader" [] []]) (SR.run (T_Reader_init [some (.cell μ.length), some (sD cs)] (μ ++ [.ins "Reader" [] []]))) := defR_ok rfl
  have s1 : setF "Reader" "source" (.cell μ.length) (sD cs) (μ ++ [.ins "Reader" [] []]) = .ok () (μ ++ [.ins "Reader" ["source"] [sD cs]]) := by
    simp only [setF, last_get (show μ.length = μ.length from rfl)]
    rw [grd_pos ⟨trivial, by decide⟩, last_set rfl]
    rfl
  have s2 : setF "Reader" "at" (.cell μ.length) (.int 0) (μ ++ [.ins "Reader" ["source"] [sD cs]]) = .ok () (μ ++ [rdr cs cs]) := by
    have e1 : putN "at" ["source"] = rdN := by decide +kernel
    have e2 : putD "at" (.int 0) ["source"] [sD cs] = [sD cs, .int (P cs cs)] := by
      show (if ("source" : Str) = "at" then _ else _) = _
      rw [if_neg (by decide +kernel)]
      unfold P
      rw [Int.sub_self]
      rfl
    simp only [setF, last_get (show μ.length = μ.length from rfl)]
    rw [grd_pos ⟨trivial, by decide⟩, last_set rfl, e1, e2]
    rfl
  have e1 : f_Reader_init [.cell μ.length, sD cs] (μ ++ [.ins "Reader" [] []]) = .ok .non (μ ++ [rdr cs cs]) := by
    rw [e0]
    simp only [dSeq, dIf, dB, dAnd, dOr, dNot, dAsg, dOp, dVar, dC, dCB, dCons, dNil, dName, dRet, dRetN, dDrop, dNext, dIfE, dAndV, dOrV, dNotV, dUn, dSl, dNoPart, dPart, dPar, dPar3, dTup, dLst, dGTup, dGCons, dGNil, dChain, dIsN, dNotN, isN, dCont, dBreak, dGSub, dSeqI, items_lst, items_tup, dZip2, dZip3, dEnum, still_lst, still_tup, dFor, dFld, dLenOf, dM1, look_0, look_s, bind_ok, to_ok, then_nx, then_rt, then_ct, then_bk, turn_nx, turn_ct, turn_rt, turn_bk, run_rt, run_nx, onB_bl, okO_some, noX_ok, addD_int, subD_int, ltD_int, cmpD_int, fLe, fGe, fGt, intD_int, if_true, if_false, Bool.false_eq_true, Bool.not_true, Bool.not_false, List.set_cons_succ, List.set_cons_zero, ixD_lst, ixD_tup, lenD_lst, lenD_tup, List.length_cons, List.length_nil, isi_int_int, isi_int_bool, isi_int_str, isi_int_tuple, isi_int_list, isi_bl_int, isi_bl_bool, isi_bl_str, isi_bl_tuple, isi_bl_list, isi_str_int, isi_str_bool, isi_str_str, isi_str_tuple, isi_str_list, isi_tup_int, isi_tup_bool, isi_tup_str, isi_tup_tuple, isi_tup_list, isi_lst_int, isi_lst_bool, isi_lst_str, isi_lst_tuple, isi_lst_list, isi_non_int, isi_non_bool, isi_non_str, isi_non_tuple, isi_non_list, wipeD, dNever, chk_c, decide_true, decide_false, T_Reader_init, dFldS, s1, s2]
    exact fz_same (by simp)
  simp only [dSeq, dIf, dB, dAnd, dOr, dNot, dAsg, dOp, dVar, dC, dCB, dCons, dNil, dName, dRet, dRetN, dDrop, dNext, dIfE, dAndV, dOrV, dNotV, dUn, dSl, dNoPart, dPart, dPar, dPar3, dTup, dLst, dGTup, dGCons, dGNil, dChain, dIsN, dNotN, isN, dCont, dBreak, dGSub, dSeqI, items_lst, items_tup, dZip2, dZip3, dEnum, still_lst, still_tup, dFor, dFld, dLenOf, dM1, look_0, look_s, bind_ok, to_ok, then_nx, then_rt, then_ct, then_bk, turn_nx, turn_ct, turn_rt, turn_bk, run_rt, run_nx, onB_bl, okO_some, noX_ok, addD_int, subD_int, ltD_int, cmpD_int, fLe, fGe, fGt, intD_int, if_true, if_false, Bool.false_eq_true, Bool.not_true, Bool.not_false, List.set_cons_succ, List.set_cons_zero, ixD_lst, ixD_tup, lenD_lst, lenD_tup, List.length_cons, List.length_nil, isi_int_int, isi_int_bool, isi_int_str, isi_int_tuple, isi_int_list, isi_bl_int, isi_bl_bool, isi_bl_str, isi_bl_tuple, isi_bl_list, isi_str_int, isi_str_bool, isi_str_str, isi_str_tuple, isi_str_list, isi_tup_int, isi_tup_bool, isi_tup_str, isi_tup_tuple, isi_tup_list, isi_lst_int, isi_lst_bool, isi_lst_str, isi_lst_tuple, isi_lst_list, isi_non_int, isi_non_bool, isi_non_str, isi_non_tuple, isi_non_list, wipeD, dNever, chk_c, decide_true, decide_false, dMake, e1, DX.isNon, kp]
theorem bundle_terms_ok (hc : Clean μ) (hg : Sg cs) (hl : cs.length ≤ 10000) {v : List Nat} (h : bundleP cs = .ok ps v) : f_bundle_terms [sD cs] μ = .ok (.lst (prD ps)) μ := by
  have e0 : f_bundle_terms [sD cs] μ = fz μ (SR.run (T_bundle_terms [some (sD cs), none, none] μ)) := defR_ok rfl
  unfold bundleP at h
  obtain ⟨qs, u, e1, h1⟩ := PR.bind_ok h
  obtain ⟨_, u2, e2, h2⟩ := PR.bind_ok h1
  cases h2
  have k1 := (rd_ok (μ0 := μ) hg hl 20).2 0 cs ps u e1 (List.suffix_refl _)
  have q := ((eats 20).2 _ _ _ _ e1).1
  have k2 := end_ok (μ0 := μ) q hg hl e2
  have k1' : f_Reader_terms 20 [.cell μ.length, .int 0] (μ ++ [rdr cs cs]) = .ok (.lst (prD ps)) (μ ++ [rdr cs u]) := k1
  rw [e0]
  simp only [dSeq, dIf, dB, dAnd, dOr, dNot, dAsg, dOp, dVar, dC, dCB, dCons, dNil, dName, dRet, dRetN, dDrop, dNext, dIfE, dAndV, dOrV, dNotV, dUn, dSl, dNoPart, dPart, dPar, dPar3, dTup, dLst, dGTup, dGCons, dGNil, dChain, dIsN, dNotN, isN, dCont, dBreak, dGSub, dSeqI, items_lst, items_tup, dZip2, dZip3, dEnum, still_lst, still_tup, dFor, dFld, dLenOf, dM1, look_0, look_s, bind_ok, to_ok, then_nx, then_rt, then_ct, then_bk, turn_nx, turn_ct, turn_rt, turn_bk, run_rt, run_nx, onB_bl, okO_some, noX_ok, addD_int, subD_int, ltD_int, cmpD_int, fLe, fGe, fGt, intD_int, if_true, if_false, Bool.false_eq_true, Bool.not_true, Bool.not_false, List.set_cons_succ, List.set_cons_zero, ixD_lst, ixD_tup, lenD_lst, lenD_tup, List.length_cons, List.length_nil, isi_int_int, isi_int_bool, isi_int_str, isi_int_tuple, isi_int_list, isi_bl_int, isi_bl_bool, isi_bl_str, isi_bl_tuple, isi_bl_list, isi_str_int, isi_str_bool, isi_str_str, isi_str_tuple, isi_str_list, isi_tup_int, isi_tup_bool, isi_tup_str, isi_tup_tuple, isi_tup_list, isi_lst_int, isi_lst_bool, isi_lst_str, isi_lst_tuple, isi_lst_list, isi_non_int, isi_non_bool, isi_non_str, isi_non_tuple, isi_non_list, wipeD, dNever, chk_c, decide_true, decide_false, T_bundle_terms, new_rd, dMeth, of_rd, gm_terms, k1', gm_expect, lit_em, k2]
  exact fz_val rfl hc (by simp only [DX.clean]; exact prD_clean)
/-! the words are there -/
def thD (b : Bool) (ws : List (List Nat)) : D := if b = true then .tup (ws.map sD) else .lst (ws.map sD)
theorem thD_items (b : Bool) : itemsOf (thD b ws) = some (ws.map sD) := by cases b <;> rfl
theorem wsD_plains {n : Nat} (h : ∀ w ∈ ws, Sg w) : plains n (ws.map sD) = true := plains_of fun x hx => by
  obtain ⟨w, hw, rfl⟩ := List.mem_map.mp hx
  exact sD_plain (h w hw)
theorem thD_plain {n : Nat} {b : Bool} (hl : ws.length ≤ 100000) (h : ∀ w ∈ ws, Sg w) : DX.plain (n + 1) (thD b ws) = true := by
  cases b
  · exact plain_lst_of (by rw [List.length_map]; exact hl) (wsD_plains h)
  · exact plain_tup_of (by rw [List.length_map]; exact hl) (wsD_plains h)
theorem any_ws {x : List Nat} : ∀ ws : List (List Nat), ((ws.map sD).any fun z => eqP z (sD x)) = decide (x ∈ ws)
  | [] => by simp
  | w :: r => by
    have ih := any_ws (x := x) r
    rw [List.map_cons, List.any_cons, ih, sD_eqP]
    by_cases c : w = x
    · subst c; simp
    · have c' : x ≠ w := fun z => c z.symm
      simp [c, c']
theorem notIn_ws {x : List Nat} {b : Bool} (hx : Sg x) (hl : ws.length ≤ 100000) (h : ∀ w ∈ ws, Sg w) : notInD (sD x) (thD b ws) μ = .ok (.bl (!decide (x ∈ ws))) μ := by
  have p1 : DX.plain 60 (sD x) = true := sD_plain hx
  have p2 : DX.plain 60 (thD b ws) = true := thD_plain (n := 59) hl h
  unfold notInD
  rw [der_plain p1, der_plain p2]
  cases b
  · show grd _ (Res.ok (D.bl (not ((ws.map sD).any fun z => eqP z (sD x)))) μ) = _
    rw [grd_pos ⟨p1, p2⟩, any_ws]
  · show grd _ (Res.ok (D.bl (not ((ws.map sD).any fun z => eqP z (sD x)))) μ) = _
    rw [grd_pos ⟨p1, p2⟩, any_ws]
theorem check_words_ok {b : Bool} (hl : ws.length ≤ 100000) (hw : ∀ w ∈ ws, Sg w) (hps : ∀ p ∈ ps, p.1 ∈ ws) : f_check_words [.lst (prD ps), thD b ws] μ = .ok .non μ := by
  have e0 : f_check_words [.lst (prD ps), thD b ws] μ = fz μ (SR.run (T_check_words [some (.lst (prD ps)), some (thD b ws), none, none] μ)) := defR_ok rfl
  obtain ⟨η', μ', e, rfl, _, _⟩ := forR_go (G := dGTup 2 (dGCons (dName 2) (dGCons (dName 3) dGNil))) (T := B1_check_words) (fun r η μ' => μ' = μ ∧ (∃ x2 x3, η = [some (.lst (prD ps)), some (thD b ws), x2, x3]) ∧ ∀ x ∈ r, ∃ p ∈ ps, x = .tup [sD p.1, .int p.2])
    (fun x r η μ' ⟨h1, ⟨x2, x3, h2⟩, h3⟩ => by
      subst h1 h2
      obtain ⟨p, hp, rfl⟩ := h3 x List.mem_cons_self
      have hm := hps p hp
      have k := notIn_ws (μ := μ') (b := b) (hw _ hm) hl hw
      rw [decide_eq_true hm] at k
      refine ⟨[some (.lst (prD ps)), some (thD b ws), some (sD p.1), some (.int p.2)], μ', [some (.lst (prD ps)), some (thD b ws), some (sD p.1), some (.int p.2)], μ', rfl, .inl ?_, rfl, ⟨_, _, rfl⟩, fun y hy => h3 y (List.mem_cons_of_mem _ hy)⟩
      simp only [dSeq, dIf, dB, dAnd, dOr, dNot, dAsg, dOp, dVar, dC, dCB, dCons, dNil, dName, dRet, dRetN, dDrop, dNext, dIfE, dAndV, dOrV, dNotV, dUn, dSl, dNoPart, dPart, dPar, dPar3, dTup, dLst, dGTup, dGCons, dGNil, dChain, dIsN, dNotN, isN, dCont, dBreak, dGSub, dSeqI, items_lst, items_tup, dZip2, dZip3, dEnum, still_lst, still_tup, dFor, dFld, dLenOf, dM1, look_0, look_s, bind_ok, to_ok, then_nx, then_rt, then_ct, then_bk, turn_nx, turn_ct, turn_rt, turn_bk, run_rt, run_nx, onB_bl, okO_some, noX_ok, addD_int, subD_int, ltD_int, cmpD_int, fLe, fGe, fGt, intD_int, if_true, if_false, Bool.false_eq_true, Bool.not_true, Bool.not_false, List.set_cons_succ, List.set_cons_zero, ixD_lst, ixD_tup, lenD_lst, lenD_tup, List.length_cons, List.length_nil, isi_int_int, isi_int_bool, isi_int_str, isi_int_tuple, isi_int_list, isi_bl_int, isi_bl_bool, isi_bl_str, isi_bl_tuple, isi_bl_list, isi_str_int, isi_str_bool, isi_str_str, isi_str_tuple, isi_str_list, isi_tup_int, isi_tup_bool, isi_tup_str, isi_tup_tuple, isi_tup_list, isi_lst_int, isi_lst_bool, isi_lst_str, isi_lst_tuple, isi_lst_list, isi_non_int, isi_non_bool, isi_non_str, isi_non_tuple, isi_non_list, wipeD, dNever, chk_c, decide_true, decide_false, B1_check_words, k])
    (prD ps) [some (.lst (prD ps)), some (thD b ws), none, none] μ ⟨rfl, ⟨_, _, rfl⟩, fun x hx => by
      obtain ⟨p, hp, rfl⟩ := List.mem_map.mp hx
      exact ⟨p, hp, rfl⟩⟩
  rw [e0]
  simp only [dSeq, dIf, dB, dAnd, dOr, dNot, dAsg, dOp, dVar, dC, dCB, dCons, dNil, dName, dRet, dRetN, dDrop, dNext, dIfE, dAndV, dOrV, dNotV, dUn, dSl, dNoPart, dPart, dPar, dPar3, dTup, dLst, dGTup, dGCons, dGNil, dChain, dIsN, dNotN, isN, dCont, dBreak, dGSub, dSeqI, items_lst, items_tup, dZip2, dZip3, dEnum, still_lst, still_tup, dFor, dFld, dLenOf, dM1, look_0, look_s, bind_ok, to_ok, then_nx, then_rt, then_ct, then_bk, turn_nx, turn_ct, turn_rt, turn_bk, run_rt, run_nx, onB_bl, okO_some, noX_ok, addD_int, subD_int, ltD_int, cmpD_int, fLe, fGe, fGt, intD_int, if_true, if_false, Bool.false_eq_true, Bool.not_true, Bool.not_false, List.set_cons_succ, List.set_cons_zero, ixD_lst, ixD_tup, lenD_lst, lenD_tup, List.length_cons, List.length_nil, isi_int_int, isi_int_bool, isi_int_str, isi_int_tuple, isi_int_list, isi_bl_int, isi_bl_bool, isi_bl_str, isi_bl_tuple, isi_bl_list, isi_str_int, isi_str_bool, isi_str_str, isi_str_tuple, isi_str_list, isi_tup_int, isi_tup_bool, isi_tup_str, isi_tup_tuple, isi_tup_list, isi_lst_int, isi_lst_bool, isi_lst_str, isi_lst_tuple, isi_lst_list, isi_non_int, isi_non_bool, isi_non_str, isi_non_tuple, isi_non_list, wipeD, dNever, chk_c, decide_true, decide_false, T_check_words, e]
  exact fz_same (Nat.le_refl _)
/-! the counts -/
def cnt (ps : Pairs) (w : List Nat) : Int := ((ps.filter fun p => decide (p.1 = w)).map Prod.snd).sum
theorem inner_ok {x1 x3 x4 : Option D} {w : List Nat} (hl : ps.length ≤ 16777216) (hw : Sg w) (hp : ∀ p ∈ ps, Sg p.1) : L1_counted [some (.lst (prD ps)), x1, some (sD w), x3, x4] μ = .ok (.lst (iD ((ps.filter fun p => decide (p.1 = w)).map Prod.snd))) μ := by
  have z := lcR_filter (G := dGTup 2 (dGCons (dName 3) (dGCons (dName 4) dGNil))) (C := W1_counted) (Te := Q1_counted) (η := [some (.lst (prD ps)), x1, some (sD w), none, none]) (μ := μ) (fun x => match x with | .tup [a, _] => eqP a (sD w) | _ => false) (fun x => match x with | .tup [_, c] => c | _ => .non) (prD ps) [] (fun x hx => by
    obtain ⟨p, hp', rfl⟩ := List.mem_map.mp hx
    refine ⟨[some (.lst (prD ps)), x1, some (sD w), some (sD p.1), some (.int p.2)], rfl, ?_, fun _ => rfl⟩
    simp only [dSeq, dIf, dB, dAnd, dOr, dNot, dAsg, dOp, dVar, dC, dCB, dCons, dNil, dName, dRet, dRetN, dDrop, dNext, dIfE, dAndV, dOrV, dNotV, dUn, dSl, dNoPart, dPart, dPar, dPar3, dTup, dLst, dGTup, dGCons, dGNil, dChain, dIsN, dNotN, isN, dCont, dBreak, dGSub, dSeqI, items_lst, items_tup, dZip2, dZip3, dEnum, still_lst, still_tup, dFor, dFld, dLenOf, dM1, look_0, look_s, bind_ok, to_ok, then_nx, then_rt, then_ct, then_bk, turn_nx, turn_ct, turn_rt, turn_bk, run_rt, run_nx, onB_bl, okO_some, noX_ok, addD_int, subD_int, ltD_int, cmpD_int, fLe, fGe, fGt, intD_int, if_true, if_false, Bool.false_eq_true, Bool.not_true, Bool.not_false, List.set_cons_succ, List.set_cons_zero, ixD_lst, ixD_tup, lenD_lst, lenD_tup, List.length_cons, List.length_nil, isi_int_int, isi_int_bool, isi_int_str, isi_int_tuple, isi_int_list, isi_bl_int, isi_bl_bool, isi_bl_str, isi_bl_tuple, isi_bl_list, isi_str_int, isi_str_bool, isi_str_str, isi_str_tuple, isi_str_list, isi_tup_int, isi_tup_bool, isi_tup_str, isi_tup_tuple, isi_tup_list, isi_lst_int, isi_lst_bool, isi_lst_str, isi_lst_tuple, isi_lst_list, isi_non_int, isi_non_bool, isi_non_str, isi_non_tuple, isi_non_list, wipeD, dNever, chk_c, decide_true, decide_false, W1_counted, eqD_plain (sD_plain (hp p hp')) (sD_plain hw)])
  have ew : wipeD [some (.lst (prD ps)), x1, some (sD w), x3, x4] [3, 4] = [some (.lst (prD ps)), x1, some (sD w), none, none] := rfl
  unfold L1_counted dLc lcW
  simp only [dSeq, dIf, dB, dAnd, dOr, dNot, dAsg, dOp, dVar, dC, dCB, dCons, dNil, dName, dRet, dRetN, dDrop, dNext, dIfE, dAndV, dOrV, dNotV, dUn, dSl, dNoPart, dPart, dPar, dPar3, dTup, dLst, dGTup, dGCons, dGNil, dChain, dIsN, dNotN, isN, dCont, dBreak, dGSub, dSeqI, items_lst, items_tup, dZip2, dZip3, dEnum, still_lst, still_tup, dFor, dFld, dLenOf, dM1, look_0, look_s, bind_ok, to_ok, then_nx, then_rt, then_ct, then_bk, turn_nx, turn_ct, turn_rt, turn_bk, run_rt, run_nx, onB_bl, okO_some, noX_ok, addD_int, subD_int, ltD_int, cmpD_int, fLe, fGe, fGt, intD_int, if_true, if_false, Bool.false_eq_true, Bool.not_true, Bool.not_false, List.set_cons_succ, List.set_cons_zero, ixD_lst, ixD_tup, lenD_lst, lenD_tup, List.length_cons, List.length_nil, isi_int_int, isi_int_bool, isi_int_str, isi_int_tuple, isi_int_list, isi_bl_int, isi_bl_bool, isi_bl_str, isi_bl_tuple, isi_bl_list, isi_str_int, isi_str_bool, isi_str_str, isi_str_tuple, isi_str_list, isi_tup_int, isi_tup_bool, isi_tup_str, isi_tup_tuple, isi_tup_list, isi_lst_int, isi_lst_bool, isi_lst_str, isi_lst_tuple, isi_lst_list, isi_non_int, isi_non_bool, isi_non_str, isi_non_tuple, isi_non_list, wipeD, dNever, chk_c, decide_true, decide_false, chk_c (show (prD ps).length ≤ 16777216 by rw [prD_len]; exact hl), z, List.nil_append]
  congr 2
  unfold prD iD
  rw [List.filter_map, List.map_map, List.map_map]
  have e : ((fun x => match x with | D.tup [a, _] => eqP a (sD w) | _ => false) ∘ fun p : List Nat × Int => D.tup [sD p.1, .int p.2]) = fun p => decide (p.1 = w) := by
    funext p
    exact sD_eqP
  rw [e]
  rfl
theorem counted_ok {b : Bool} (hl : ps.length ≤ 16777216) (hwl : ws.length ≤ 100000) (hw : ∀ w ∈ ws, Sg w) (hps : ∀ p ∈ ps, p.1 ∈ ws) : f_counted [.lst (prD ps), thD b ws] μ = .ok (.tup (iD (ws.map (cnt ps)))) μ := by
  have e0 : f_counted [.lst (prD ps), thD b ws] μ = fz μ (SR.run (T_counted [some (.lst (prD ps)), some (thD b ws), none, none, none] μ)) := defR_ok rfl
  have el : L2_counted [some (.lst (prD ps)), some (thD b ws), none, none, none] μ = .ok (.lst (iD (ws.map (cnt ps)))) μ := by
    have z := lc_seq (i := 2) (Te := Q2_counted) (η := [some (.lst (prD ps)), some (thD b ws), none, none, none]) (μ := μ) (S := dVar 1) (d := thD b ws) (xs := ws.map sD) (fun x => match x with | .str y => .int (cnt ps y.cps.toList) | _ => .non) rfl (thD_items b) (by rw [List.length_map]; omega) fun x hx => by
      obtain ⟨w, hw', rfl⟩ := List.mem_map.mp hx
      have k := inner_ok (μ := μ) (x1 := some (thD b ws)) (x3 := none) (x4 := none) hl (hw w hw') (fun p hp => hw _ (hps p hp))
      simp only [dSeq, dIf, dB, dAnd, dOr, dNot, dAsg, dOp, dVar, dC, dCB, dCons, dNil, dName, dRet, dRetN, dDrop, dNext, dIfE, dAndV, dOrV, dNotV, dUn, dSl, dNoPart, dPart, dPar, dPar3, dTup, dLst, dGTup, dGCons, dGNil, dChain, dIsN, dNotN, isN, dCont, dBreak, dGSub, dSeqI, items_lst, items_tup, dZip2, dZip3, dEnum, still_lst, still_tup, dFor, dFld, dLenOf, dM1, look_0, look_s, bind_ok, to_ok, then_nx, then_rt, then_ct, then_bk, turn_nx, turn_ct, turn_rt, turn_bk, run_rt, run_nx, onB_bl, okO_some, noX_ok, addD_int, subD_int, ltD_int, cmpD_int, fLe, fGe, fGt, intD_int, if_true, if_false, Bool.false_eq_true, Bool.not_true, Bool.not_false, List.set_cons_succ, List.set_cons_zero, ixD_lst, ixD_tup, lenD_lst, lenD_tup, List.length_cons, List.length_nil, isi_int_int, isi_int_bool, isi_int_str, isi_int_tuple, isi_int_list, isi_bl_int, isi_bl_bool, isi_bl_str, isi_bl_tuple, isi_bl_list, isi_str_int, isi_str_bool, isi_str_str, isi_str_tuple, isi_str_list, isi_tup_int, isi_tup_bool, isi_tup_str, isi_tup_tuple, isi_tup_list, isi_lst_int, isi_lst_bool, isi_lst_str, isi_lst_tuple, isi_lst_list, isi_non_int, isi_non_bool, isi_non_str, isi_non_tuple, isi_non_list, wipeD, dNever, chk_c, decide_true, decide_false, Q2_counted, k, sumD, seqOf, asL, ints_of]
      show Res.ok (D.int (cnt ps w)) μ = Res.ok (D.int (cnt ps (wS w).cps.toList)) μ
      rw [wS_cps]
    have e : (ws.map sD).map (fun x => match x with | .str y => D.int (cnt ps y.cps.toList) | _ => .non) = iD (ws.map (cnt ps)) := by
      unfold iD
      rw [List.map_map, List.map_map]
      refine List.map_congr_left fun w _ => ?_
      show D.int (cnt ps (wS w).cps.toList) = _
      rw [wS_cps]
      rfl
    rw [e] at z
    exact z
  rw [e0]
  simp only [dSeq, dIf, dB, dAnd, dOr, dNot, dAsg, dOp, dVar, dC, dCB, dCons, dNil, dName, dRet, dRetN, dDrop, dNext, dIfE, dAndV, dOrV, dNotV, dUn, dSl, dNoPart, dPart, dPar, dPar3, dTup, dLst, dGTup, dGCons, dGNil, dChain, dIsN, dNotN, isN, dCont, dBreak, dGSub, dSeqI, items_lst, items_tup, dZip2, dZip3, dEnum, still_lst, still_tup, dFor, dFld, dLenOf, dM1, look_0, look_s, bind_ok, to_ok, then_nx, then_rt, then_ct, then_bk, turn_nx, turn_ct, turn_rt, turn_bk, run_rt, run_nx, onB_bl, okO_some, noX_ok, addD_int, subD_int, ltD_int, cmpD_int, fLe, fGe, fGt, intD_int, if_true, if_false, Bool.false_eq_true, Bool.not_true, Bool.not_false, List.set_cons_succ, List.set_cons_zero, ixD_lst, ixD_tup, lenD_lst, lenD_tup, List.length_cons, List.length_nil, isi_int_int, isi_int_bool, isi_int_str, isi_int_tuple, isi_int_list, isi_bl_int, isi_bl_bool, isi_bl_str, isi_bl_tuple, isi_bl_list, isi_str_int, isi_str_bool, isi_str_str, isi_str_tuple, isi_str_list, isi_tup_int, isi_tup_bool, isi_tup_str, isi_tup_tuple, isi_tup_list, isi_lst_int, isi_lst_bool, isi_lst_str, isi_lst_tuple, isi_lst_list, isi_non_int, isi_non_bool, isi_non_str, isi_non_tuple, isi_non_list, wipeD, dNever, chk_c, decide_true, decide_false, T_counted, el, tupD, asL]
  exact fz_same (Nat.le_refl _)
theorem check_size_ok {xs : List Int} (h0 : xs ≠ []) (h : ∀ x ∈ xs, x ≤ 60) : f_check_size [.tup (iD xs)] μ = .ok .non μ := by
  have e0 : f_check_size [.tup (iD xs)] μ = fz μ (SR.run (T_check_size [some (.tup (iD xs))] μ)) := defR_ok rfl
  have em : maxD [.tup (iD xs)] μ = .ok (.int (maxL xs)) μ := by
    unfold maxD
    simp only [seqOf, okO_some, ints_of]
    exact grd_pos h0
  have q : ¬ (60 < maxL xs) := by have := h _ (maxL_mem xs h0); omega
  rw [e0]
  simp only [dSeq, dIf, dB, dAnd, dOr, dNot, dAsg, dOp, dVar, dC, dCB, dCons, dNil, dName, dRet, dRetN, dDrop, dNext, dIfE, dAndV, dOrV, dNotV, dUn, dSl, dNoPart, dPart, dPar, dPar3, dTup, dLst, dGTup, dGCons, dGNil, dChain, dIsN, dNotN, isN, dCont, dBreak, dGSub, dSeqI, items_lst, items_tup, dZip2, dZip3, dEnum, still_lst, still_tup, dFor, dFld, dLenOf, dM1, look_0, look_s, bind_ok, to_ok, then_nx, then_rt, then_ct, then_bk, turn_nx, turn_ct, turn_rt, turn_bk, run_rt, run_nx, onB_bl, okO_some, noX_ok, addD_int, subD_int, ltD_int, cmpD_int, fLe, fGe, fGt, intD_int, if_true, if_false, Bool.false_eq_true, Bool.not_true, Bool.not_false, List.set_cons_succ, List.set_cons_zero, ixD_lst, ixD_tup, lenD_lst, lenD_tup, List.length_cons, List.length_nil, isi_int_int, isi_int_bool, isi_int_str, isi_int_tuple, isi_int_list, isi_bl_int, isi_bl_bool, isi_bl_str, isi_bl_tuple, isi_bl_list, isi_str_int, isi_str_bool, isi_str_str, isi_str_tuple, isi_str_list, isi_tup_int, isi_tup_bool, isi_tup_str, isi_tup_tuple, isi_tup_list, isi_lst_int, isi_lst_bool, isi_lst_str, isi_lst_tuple, isi_lst_list, isi_non_int, isi_non_bool, isi_non_str, isi_non_tuple, isi_non_list, wipeD, dNever, chk_c, decide_true, decide_false, T_check_size, em, decide_eq_false q]
  exact fz_same (Nat.le_refl _)
theorem parse_ok {b : Bool} (hc : Clean μ) (hg : Sg cs) (hl : cs.length ≤ 10000) {v : List Nat} (h : bundleP cs = .ok ps v) (h0 : ws ≠ []) (hwl : ws.length ≤ 1000) (hw : ∀ w ∈ ws, Sg w) (hps : ∀ p ∈ ps, p.1 ∈ ws) (hn : ∀ w ∈ ws, cnt ps w ≤ 60) :
    f_parse_bundle [sD cs, thD b ws] μ = .ok (.tup (iD (ws.map (cnt ps)))) μ := by
  have e0 : f_parse_bundle [sD cs, thD b ws] μ = fz μ (SR.run (T_parse_bundle [some (sD cs), some (thD b ws), none, none] μ)) := defR_ok rfl
  have hp : ps.length ≤ 16777216 := by
    unfold bundleP at h
    obtain ⟨qs, u, e1, h1⟩ := PR.bind_ok h
    obtain ⟨_, u2, e2, h2⟩ := PR.bind_ok h1
    cases h2
    have q := ((eats 20).2 _ _ _ _ e1).2
    omega
  rw [e0]
  simp only [dSeq, dIf, dB, dAnd, dOr, dNot, dAsg, dOp, dVar, dC, dCB, dCons, dNil, dName, dRet, dRetN, dDrop, dNext, dIfE, dAndV, dOrV, dNotV, dUn, dSl, dNoPart, dPart, dPar, dPar3, dTup, dLst, dGTup, dGCons, dGNil, dChain, dIsN, dNotN, isN, dCont, dBreak, dGSub, dSeqI, items_lst, items_tup, dZip2, dZip3, dEnum, still_lst, still_tup, dFor, dFld, dLenOf, dM1, look_0, look_s, bind_ok, to_ok, then_nx, then_rt, then_ct, then_bk, turn_nx, turn_ct, turn_rt, turn_bk, run_rt, run_nx, onB_bl, okO_some, noX_ok, addD_int, subD_int, ltD_int, cmpD_int, fLe, fGe, fGt, intD_int, if_true, if_false, Bool.false_eq_true, Bool.not_true, Bool.not_false, List.set_cons_succ, List.set_cons_zero, ixD_lst, ixD_tup, lenD_lst, lenD_tup, List.length_cons, List.length_nil, isi_int_int, isi_int_bool, isi_int_str, isi_int_tuple, isi_int_list, isi_bl_int, isi_bl_bool, isi_bl_str, isi_bl_tuple, isi_bl_list, isi_str_int, isi_str_bool, isi_str_str, isi_str_tuple, isi_str_list, isi_tup_int, isi_tup_bool, isi_tup_str, isi_tup_tuple, isi_tup_list, isi_lst_int, isi_lst_bool, isi_lst_str, isi_lst_tuple, isi_lst_list, isi_non_int, isi_non_bool, isi_non_str, isi_non_tuple, isi_non_list, wipeD, dNever, chk_c, decide_true, decide_false, T_parse_bundle, bundle_terms_ok hc hg hl h, check_words_ok (b := b) (μ := μ) (show ws.length ≤ 100000 by omega) hw hps, counted_ok (b := b) (μ := μ) hp (show ws.length ≤ 100000 by omega) hw hps, check_size_ok (μ := μ) (xs := ws.map (cnt ps)) (by simpa using h0) (fun x hx => by
    obtain ⟨w, hw', rfl⟩ := List.mem_map.mp hx
    exact hn w hw')]
  exact fz_same (Nat.le_refl _)
end
end Lw

namespace Lw
open PySem L2 DX Pa
/-! ### texts that are read, in plain Lean -/
theorem PR.ok_bind {α β : Type} {a : α} {u : List Nat} {f : α → List Nat → PR β} : (PR.ok a u).bind f = f a u := rfl
def dg (n : Nat) : List Nat := if n < 10 then [48 + n] else [48 + n / 10, 48 + n % 10]
abbrev sp (k : Nat) : List Nat := List.replicate k 32
theorem manyP_ns (r : List Nat) : manyP (ns r) = manyP r := by
  unfold manyP
  rw [ns_ns]
theorem manyP_sp (k : Nat) (r : List Nat) : manyP (sp k ++ r) = manyP r := by
  rw [← manyP_ns, ns_reps, manyP_ns]
theorem atomP_ns (n d : Nat) (m : Option Int) (r : List Nat) : atomP n d m (ns r) = atomP n d m r := by
  cases n with
  | zero => simp [atomP]
  | succ n =>
    unfold atomP
    rw [ns_ns]
theorem atomP_lone {n d : Nat} {m : Option Int} {r : List Nat} {ps : Pairs} {u : List Nat} (h : atomP n d m r = .ok ps u) : lone (ns r) = false := by
  cases n with
  | zero => simp [atomP] at h
  | succ n =>
    unfold atomP at h
    cases e : ns r with
    | nil => rw [e] at h; cases h
    | cons c t =>
      rw [e] at h
      simp only at h
      split at h
      · rename_i hc
        rw [hc.1]
        rfl
      · split at h
        · rename_i hL
          show (!(c == 40) && !isL c) = false
          rw [hL]
          simp
        · cases h
theorem moreP_stop {A : Option Int → List Nat → PR Pairs} {k : Nat} {ps : Pairs} {r : List Nat} (h : ∀ c t, ns r = c :: t → c ≠ 43) : moreP A (k + 1) ps r = .ok ps (ns r) := by
  unfold moreP
  cases e : ns r with
  | nil => rfl
  | cons c t => exact if_neg (h c t e)
/-- one many and one atom -/
def oneP (n d : Nat) (r : List Nat) : PR Pairs := (manyP r).bind fun m u => atomP n d m u
theorem oneP_sp (n d k : Nat) (r : List Nat) : oneP n d (sp k ++ r) = oneP n d r := by
  unfold oneP
  rw [manyP_sp]
theorem terms_of_one {n d : Nat} {r u : List Nat} {ps : Pairs} (h : oneP n d r = .ok ps u) : termsP (n + 1) d r = moreP (atomP n d) 100000 ps u := by
  obtain ⟨m, v, e1, e2⟩ := PR.bind_ok h
  unfold termsP
  rw [e1]
  show (if m = some 0 ∧ lone (ns v) = true then _ else _) = _
  rw [if_neg (fun z => by rw [atomP_lone e2] at z; cases z.2), atomP_ns, e2]
  rfl
/-! ### one word -/
theorem takeWhile_app {p : Nat → Bool} : ∀ (w r : List Nat), (∀ c ∈ w, p c = true) → (∀ c t, r = c :: t → p c = false) → (w ++ r).takeWhile p = w ∧ (w ++ r).dropWhile p = r
  | [], [], _, _ => ⟨rfl, rfl⟩
  | [], c :: t, _, h => by
    have := h c t rfl
    rw [List.nil_append, List.takeWhile_cons_of_neg (by rw [this]; decide), List.dropWhile_cons_of_neg (by rw [this]; decide)]
    exact ⟨rfl, rfl⟩
  | x :: w, r, hw, h => by
    have hx := hw x List.mem_cons_self
    obtain ⟨q1, q2⟩ := takeWhile_app w r (fun c hc => hw c (List.mem_cons_of_mem _ hc)) h
    rw [List.cons_append, List.takeWhile_cons_of_pos hx, List.dropWhile_cons_of_pos hx, q1, q2]
    exact ⟨rfl, rfl⟩
theorem runP_app {p : Nat → Bool} {most : Nat} {zero : Bool} {w r : List Nat} (h1 : ∀ c ∈ w, p c = true) (h2 : ∀ c t, r = c :: t → p c = false) (h3 : w.length ≤ most) (h4 : zero = true → w.length ≤ 1 ∨ (w ++ r).head? ≠ some 48) (h5 : stop r = true) : runP p most zero (w ++ r) = .ok w r := by
  obtain ⟨q1, q2⟩ := takeWhile_app w r h1 h2
  unfold runP
  rw [q1, q2, if_neg, if_neg, if_neg]
  · exact fun z => by rw [h5] at z; cases z.2
  · omega
  · rintro ⟨z1, z2, z3⟩
    rcases h4 z1 with q | q
    · omega
    · exact q z3
theorem stop_L {r : List Nat} (h : stop r = true) : ∀ c t, r = c :: t → isL c = false := fun c t e => by
  rw [e] at h
  simp only [stop, Bool.and_eq_true, Bool.not_eq_true'] at h
  exact h.1
theorem stop_G {r : List Nat} (h : stop r = true) : ∀ c t, r = c :: t → isG c = false := fun c t e => by
  rw [e] at h
  simp only [stop, Bool.and_eq_true, Bool.not_eq_true'] at h
  exact h.2
theorem isL_of {c : Nat} (h : 97 ≤ c ∧ c ≤ 122) : isL c = true := by
  unfold isL
  simp [h.1, h.2]
theorem L_no {c : Nat} (h : isL c = true) : c ≠ 32 ∧ isG c = false ∧ c ≠ 40 := by
  unfold isL at h
  simp only [Bool.and_eq_true, decide_eq_true_eq] at h
  refine ⟨by omega, ?_, by omega⟩
  unfold isG
  have : ¬ c ≤ 57 := by omega
  simp [this]
theorem word_cons {w : List Nat} (h : Nm w) : ∃ c t, w = c :: t ∧ isL c = true := by
  obtain ⟨h1, h2, h3⟩ := h
  cases w with
  | nil => simp at h1
  | cons c t => exact ⟨c, t, rfl, isL_of (h3 c List.mem_cons_self)⟩
theorem atom_word {n d : Nat} {m : Option Int} {w r : List Nat} (hw : Nm w) (hr : stop r = true) : atomP (n + 1) d m (w ++ r) = .ok (mulP m [(w, 1)]) r := by
  obtain ⟨c, t, e, hc⟩ := word_cons hw
  have k := runP_app (p := isL) (most := 6) (zero := false) (w := w) (r := r) (fun c hc => isL_of (hw.2.2 c hc)) (stop_L hr) hw.2.1 (fun z => by cases z) hr
  obtain ⟨q1, q2, q3⟩ := L_no hc
  subst e
  unfold atomP
  rw [List.cons_append, ns_no q1]
  simp only
  rw [if_neg (fun z => q3 z.1), if_pos hc]
  rw [List.cons_append] at k
  rw [k]
  rfl
theorem dg_G {n : Nat} (h : n ≤ 60) : ∀ c ∈ dg n, isG c = true := by
  intro c hc
  unfold dg at hc
  unfold isG
  split at hc
  · rw [List.mem_singleton.mp hc]
    simp
    omega
  · simp only [List.mem_cons, List.not_mem_nil, or_false] at hc
    rcases hc with rfl | rfl <;> simp <;> omega
theorem dg_val {n : Nat} (h : n ≤ 60) : val (dg n) = n := by
  unfold dg val
  split
  · simp only [List.foldl_cons, List.foldl_nil]; omega
  · simp only [List.foldl_cons, List.foldl_nil]; omega
theorem dg_cons (n : Nat) : ∃ c t, dg n = c :: t := by
  unfold dg
  split
  · exact ⟨_, _, rfl⟩
  · exact ⟨_, _, rfl⟩
theorem many_num {n : Nat} {r : List Nat} (h : n ≤ 60) (hr : stop r = true) : manyP (dg n ++ r) = .ok (some (n : Int)) r := by
  have k := runP_app (p := isG) (most := 3) (zero := true) (w := dg n) (r := r) (dg_G h) (stop_G hr) (by unfold dg; split <;> simp) (fun _ => by
    unfold dg
    split
    · exact .inl (by simp)
    · right
      rw [List.cons_append, List.head?_cons]
      intro z
      have := Option.some.inj z
      omega) hr
  have hv := dg_val h
  have hG := dg_G h
  obtain ⟨c, t, e⟩ := dg_cons n
  rw [e] at k hv hG ⊢
  have hc := hG c List.mem_cons_self
  have q1 : c ≠ 32 := fun z => by rw [z] at hc; revert hc; decide
  unfold manyP
  rw [List.cons_append, ns_no q1]
  simp only
  rw [if_pos hc]
  rw [List.cons_append] at k
  rw [k]
  show PR.ok (some ((val (c :: t) : Nat) : Int)) r = _
  rw [hv]
theorem many_no {c : Nat} {r : List Nat} (h1 : c ≠ 32) (h2 : isG c = false) : manyP (c :: r) = .ok none (c :: r) := by
  unfold manyP
  rw [ns_no h1]
  simp only
  rw [if_neg (by rw [h2]; decide)]
/-- the plain text of a word and how often it stands there -/
def Core (p : List Nat × Int) (t : List Nat) : Prop := Nm p.1 ∧ 0 ≤ p.2 ∧ p.2 ≤ 60 ∧ ((p.2 = 1 ∧ t = p.1) ∨ t = dg p.2.toNat ++ 32 :: p.1)
theorem core_one {p : List Nat × Int} {t r : List Nat} {n d : Nat} (h : Core p t) (hr : stop r = true) : oneP (n + 1) d (t ++ r) = .ok [p] r := by
  obtain ⟨w, k⟩ := p
  obtain ⟨hw, h0, h1, h2⟩ := h
  have hw : Nm w := hw
  have h0 : 0 ≤ k := h0
  have h1 : k ≤ 60 := h1
  rcases h2 with ⟨h2, h3⟩ | h3
  · have h2 : k = 1 := h2
    have h3 : t = w := h3
    subst h2 h3
    obtain ⟨c, t', e, hc⟩ := word_cons hw
    obtain ⟨q1, q2, q3⟩ := L_no hc
    have a := atom_word (n := n) (d := d) (m := none) hw hr
    unfold oneP
    have m : manyP (t ++ r) = .ok none (t ++ r) := by
      rw [show t = c :: t' from e, List.cons_append]
      exact many_no q1 q2
    rw [m]
    exact a
  · have h3 : t = dg k.toNat ++ 32 :: w := h3
    subst h3
    unfold oneP
    rw [List.append_assoc, many_num (n := k.toNat) (by omega) (show stop ((32 :: w) ++ r) = true from rfl)]
    show atomP (n + 1) d (some ((k.toNat : Nat) : Int)) (32 :: w ++ r) = _
    have a := atom_word (n := n) (d := d) (m := some ((k.toNat : Nat) : Int)) hw hr
    rw [← atomP_ns, List.cons_append, ns_sp, atomP_ns, a]
    have ek : ((k.toNat : Nat) : Int) = k := by omega
    rw [ek]
    show PR.ok [(w, 1 * k)] r = _
    rw [Int.one_mul]
abbrev reps (k c : Nat) : List Nat := List.replicate k c
/-- .. in parentheses -/
theorem par_one : ∀ (e : Nat) {p : List Nat × Int} {t r : List Nat} {n d : Nat}, Core p t → stop r = true → d + e ≤ 8 → oneP (n + 1 + 2 * e) d (reps e 40 ++ t ++ reps e 41 ++ r) = .ok [p] r
  | 0, p, t, r, n, d, h, hr, _ => by
    simpa using core_one (n := n) (d := d) h hr
  | e + 1, p, t, r, n, d, h, hr, hd => by
    have ih := par_one e (r := 41 :: r) (n := n) (d := d + 1) h rfl (by omega)
    have ea : reps (e + 1) 40 ++ t ++ reps (e + 1) 41 ++ r = 40 :: (reps e 40 ++ t ++ reps e 41 ++ 41 :: r) := by
      show List.replicate (e + 1) 40 ++ t ++ List.replicate (e + 1) 41 ++ r = _
      rw [List.replicate_succ, List.replicate_succ' (n := e) (a := 41)]
      simp
    rw [ea]
    unfold oneP
    rw [many_no (by decide) (by decide), PR.ok_bind]
    have en : n + 1 + 2 * (e + 1) = (n + 1 + 2 * e + 1) + 1 := by omega
    rw [en]
    unfold atomP
    rw [ns_no (by decide)]
    simp only
    rw [if_pos ⟨trivial, by omega⟩, terms_of_one ih, moreP_stop (fun c t' z => by rw [ns_no (by decide)] at z; rw [← (List.cons.inj z).1]; decide), ns_no (by decide)]
    rw [PR.ok_bind]
    unfold expP
    rw [ns_no (by decide)]
    simp only [if_true]
    rfl
end Lw

namespace Lw
open PySem L2 DX Pa
theorem PR.bind_assoc {α β γ : Type} (x : PR α) (f : α → List Nat → PR β) (g : β → List Nat → PR γ) : (x.bind f).bind g = x.bind fun a u => (f a u).bind g := by
  cases x <;> rfl
theorem termsP_sp {n d k : Nat} {r : List Nat} : termsP n d (sp k ++ r) = termsP n d r := by
  cases n with
  | zero => simp [termsP]
  | succ n =>
    unfold termsP
    rw [manyP_sp]
/-- a word of a text: in parentheses, at most D deep -/
def Wrd (D : Nat) (x : (List Nat × Int) × List Nat) : Prop := ∃ e t, e ≤ D ∧ Core x.1 t ∧ x.2 = reps e 40 ++ t ++ reps e 41
theorem wrd_one {D n d : Nat} {x : (List Nat × Int) × List Nat} {r : List Nat} (h : Wrd D x) (hr : stop r = true) (hd : d + D ≤ 8) (hn : 1 + 2 * D ≤ n) : oneP n d (x.2 ++ r) = .ok [x.1] r := by
  obtain ⟨e, t, he, hc, ht⟩ := h
  rw [ht]
  have en : n = (n - 1 - 2 * e) + 1 + 2 * e := by omega
  rw [en]
  exact par_one e hc hr (by omega)
def Fin1 (r : List Nat) : Prop := r = [] ∨ ∃ t, r = 41 :: t
theorem Fin1.ns {r : List Nat} (h : Fin1 r) : Pa.ns r = r := by
  rcases h with rfl | ⟨t, rfl⟩
  · rfl
  · exact ns_no (by decide)
theorem Fin1.no {r : List Nat} (h : Fin1 r) : ∀ c t, r = c :: t → c ≠ 43 := by
  rintro c t e
  rcases h with rfl | ⟨t', rfl⟩
  · cases e
  · rw [← (List.cons.inj e).1]; decide
theorem Fin1.stop {r : List Nat} (h : Fin1 r) : Pa.stop r = true := by
  rcases h with rfl | ⟨t', rfl⟩ <;> rfl
theorem stop_sp {k : Nat} {r : List Nat} (h : stop r = true) : stop (sp k ++ r) = true := by
  cases k with
  | zero => exact h
  | succ k => rfl
abbrev L1 := List ((List Nat × Int) × List Nat)
def tail (a b : Nat) (l : L1) : List Nat := l.flatMap fun x => sp a ++ 43 :: (sp b ++ x.2)
theorem tail_cons {a b : Nat} {x : (List Nat × Int) × List Nat} {l : L1} {r : List Nat} : tail a b (x :: l) ++ r = sp a ++ 43 :: (sp b ++ (x.2 ++ (tail a b l ++ r))) := by
  unfold tail
  rw [List.flatMap_cons]
  simp
theorem tail_stop {a b : Nat} {l : L1} {r : List Nat} (h : stop r = true) : stop (tail a b l ++ r) = true := by
  cases l with
  | nil => exact h
  | cons x l =>
    rw [tail_cons]
    exact stop_sp rfl
theorem more_words {n d D a b q : Nat} {rest : List Nat} (hf : Fin1 rest) (hd : d + D ≤ 8) (hn : 1 + 2 * D ≤ n) : ∀ (l : L1) (k : Nat) (ps : Pairs), (∀ x ∈ l, Wrd D x) → moreP (atomP n d) (k + l.length + 1) ps (tail a b l ++ (sp q ++ rest)) = .ok (ps ++ l.map (·.1)) rest
  | [], k, ps, _ => by
    have e : tail a b [] ++ (sp q ++ rest) = sp q ++ rest := rfl
    have e2 : ns (sp q ++ rest) = rest := by rw [ns_reps, hf.ns]
    rw [e, moreP_stop (fun c t z => hf.no c t (by rw [← e2]; exact z)), e2]
    simp
  | x :: l, k, ps, h => by
    have hx := h x List.mem_cons_self
    have ih := more_words (q := q) (a := a) (b := b) hf hd hn l k (ps ++ [x.1]) fun y hy => h y (List.mem_cons_of_mem _ hy)
    have w := wrd_one (r := tail a b l ++ (sp q ++ rest)) hx (tail_stop (stop_sp hf.stop)) hd hn
    rw [tail_cons]
    have en : k + (x :: l).length + 1 = (k + l.length + 1) + 1 := by rw [List.length_cons]; omega
    rw [en]
    unfold moreP
    rw [ns_reps, ns_no (by decide)]
    simp only [if_true]
    rw [← PR.bind_assoc]
    show (oneP n d (sp b ++ (x.2 ++ (tail a b l ++ (sp q ++ rest))))).bind _ = _
    rw [oneP_sp, w, PR.ok_bind, ih]
    simp
theorem join_tail {a b : Nat} {x : (List Nat × Int) × List Nat} : ∀ l : L1, TL.joinL (sp a ++ 43 :: sp b) ((x :: l).map (·.2)) = x.2 ++ tail a b l
  | [] => by
    show x.2 = x.2 ++ []
    rw [List.append_nil]
  | y :: l => by
    have ih := join_tail (a := a) (b := b) (x := y) l
    show x.2 ++ ((sp a ++ 43 :: sp b) ++ TL.joinL (sp a ++ 43 :: sp b) ((y :: l).map (·.2))) = _
    rw [ih]
    unfold tail
    rw [List.flatMap_cons]
    simp
theorem terms_words {n d D a b p q : Nat} {rest : List Nat} {l : L1} (h0 : l ≠ []) (hl : l.length ≤ 90000) (h : ∀ x ∈ l, Wrd D x) (hf : Fin1 rest) (hd : d + D ≤ 8) (hn : 1 + 2 * D ≤ n) :
    termsP (n + 1) d (sp p ++ TL.joinL (sp a ++ 43 :: sp b) (l.map (·.2)) ++ sp q ++ rest) = .ok (l.map (·.1)) rest := by
  cases l with
  | nil => exact absurd rfl h0
  | cons x l =>
    have w := wrd_one (r := tail a b l ++ (sp q ++ rest)) (h x List.mem_cons_self) (tail_stop (stop_sp hf.stop)) hd hn
    have m := more_words (q := q) (a := a) (b := b) hf hd hn l (100000 - l.length - 1) [x.1] fun y hy => h y (List.mem_cons_of_mem _ hy)
    rw [List.length_cons] at hl
    have ek : 100000 - l.length - 1 + l.length + 1 = 100000 := by omega
    rw [ek] at m
    rw [join_tail, List.append_assoc, List.append_assoc, termsP_sp, List.append_assoc, terms_of_one w, m]
    rfl
theorem bundle_words {D a b p q : Nat} {l : L1} (h0 : l ≠ []) (hl : l.length ≤ 90000) (h : ∀ x ∈ l, Wrd D x) (hD : D ≤ 8) : bundleP (sp p ++ TL.joinL (sp a ++ 43 :: sp b) (l.map (·.2)) ++ sp q) = .ok (l.map (·.1)) [] := by
  have k := terms_words (n := 19) (d := 0) (D := D) (a := a) (b := b) (p := p) (q := q) (rest := []) h0 hl h (.inl rfl) (by omega) (by omega)
  rw [List.append_nil] at k
  unfold bundleP
  rw [k]
  rfl
/-- t in parentheses -/
theorem par_terms {t : List Nat} {ps : Pairs} (h : termsP 18 1 (t ++ [41]) = .ok ps [41]) : bundleP (40 :: (t ++ [41])) = .ok ps [] := by
  have o : oneP 19 0 (40 :: (t ++ [41])) = .ok ps [] := by
    unfold oneP
    rw [many_no (by decide) (by decide), PR.ok_bind]
    unfold atomP
    rw [ns_no (by decide)]
    simp only
    rw [if_pos ⟨trivial, by omega⟩, h]
    rfl
  unfold bundleP
  rw [terms_of_one o]
  rfl
theorem bundle_par {a b p q : Nat} {l : L1} (h0 : l ≠ []) (hl : l.length ≤ 90000) (h : ∀ x ∈ l, Wrd 0 x) : bundleP (40 :: (sp p ++ TL.joinL (sp a ++ 43 :: sp b) (l.map (·.2)) ++ sp q ++ [41])) = .ok (l.map (·.1)) [] :=
  par_terms (terms_words (n := 17) (d := 1) (D := 0) h0 hl h (.inr ⟨[], rfl⟩) (by omega) (by omega))
/-! nothing -/
theorem zero_terms : ∀ (e : Nat) {n d : Nat} {r : List Nat}, d + e ≤ 8 → stop r = true → lone (ns r) = true → (∀ c t, ns r = c :: t → c ≠ 43) → termsP (n + 1 + 2 * e) d (reps e 40 ++ 48 :: (reps e 41 ++ r)) = .ok [] (ns r)
  | 0, n, d, r, _, h1, h2, h3 => by
    show termsP (n + 1) d (48 :: r) = _
    unfold termsP
    have m := many_num (n := 0) (r := r) (by omega) h1
    have e : dg 0 ++ r = 48 :: r := rfl
    rw [e] at m
    rw [m, PR.ok_bind]
    exact if_pos ⟨rfl, h2⟩
  | e + 1, n, d, r, hd, h1, h2, h3 => by
    have ih := zero_terms e (n := n) (d := d + 1) (r := 41 :: r) (by omega) rfl (by rw [ns_no (by decide)]; rfl) (fun c t z => by rw [ns_no (by decide)] at z; rw [← (List.cons.inj z).1]; decide)
    rw [ns_no (by decide)] at ih
    have ea : reps (e + 1) 40 ++ 48 :: (reps (e + 1) 41 ++ r) = 40 :: (reps e 40 ++ 48 :: (reps e 41 ++ 41 :: r)) := by
      show List.replicate (e + 1) 40 ++ 48 :: (List.replicate (e + 1) 41 ++ r) = _
      rw [List.replicate_succ, List.replicate_succ' (n := e) (a := 41)]
      simp
    have en : n + 1 + 2 * (e + 1) = ((n + 1 + 2 * e) + 1) + 1 := by omega
    have o : oneP ((n + 1 + 2 * e) + 1) d (40 :: (reps e 40 ++ 48 :: (reps e 41 ++ 41 :: r))) = .ok [] r := by
      unfold oneP
      rw [many_no (by decide) (by decide), PR.ok_bind]
      unfold atomP
      rw [ns_no (by decide)]
      simp only
      rw [if_pos ⟨trivial, by omega⟩, ih, PR.ok_bind]
      unfold expP
      rw [ns_no (by decide)]
      simp only [if_true]
      rfl
    rw [ea, en, terms_of_one o]
    exact moreP_stop h3
theorem bundle_zero {e p q : Nat} (he : e ≤ 8) : bundleP (sp p ++ reps e 40 ++ [48] ++ reps e 41 ++ sp q) = .ok [] [] := by
  have k := zero_terms e (n := 19 - 2 * e) (d := 0) (r := sp q) (by omega) (by have := stop_sp (k := q) (r := []) rfl; simpa using this) (by rw [ns_all]; rfl) (fun c t z => by rw [ns_all] at z; cases z)
  rw [ns_all] at k
  have en : 19 - 2 * e + 1 + 2 * e = 20 := by omega
  rw [en] at k
  unfold bundleP
  have ea : sp p ++ reps e 40 ++ [48] ++ reps e 41 ++ sp q = sp p ++ (reps e 40 ++ 48 :: (reps e 41 ++ sp q)) := by simp
  rw [ea, termsP_sp, k]
  rfl
theorem zero_par {p q : Nat} : bundleP (40 :: (sp p ++ [48] ++ sp q ++ [41])) = .ok [] [] := by
  refine par_terms ?_
  have k := zero_terms 0 (n := 17) (d := 1) (r := sp q ++ [41]) (by omega) (stop_sp rfl) (by rw [ns_reps]; rfl) (fun c t z => by rw [ns_reps, ns_no (by decide)] at z; rw [← (List.cons.inj z).1]; decide)
  rw [ns_reps, ns_no (by decide)] at k
  have ea : sp p ++ [48] ++ sp q ++ [41] = sp p ++ (48 :: (sp q ++ [41])) := by simp
  rw [ea, termsP_sp]
  exact k
/-! the texts that the law writes out -/
theorem fix1 : bundleP [50, 32, 40, 97, 32, 43, 32, 51, 32, 98, 41, 32, 43, 32, 97] = .ok [([97], 2), ([98], 6), ([97], 1)] [] := by rfl
theorem fix2 : bundleP [48, 32, 97, 43, 98] = .ok [([97], 0), ([98], 1)] [] := by rfl
theorem fix3 : bundleP [50, 40, 48, 41, 43, 98] = .ok [([98], 1)] [] := by rfl
theorem fix4 : bundleP [51, 40, 50, 40, 97, 41, 43, 50, 32, 40, 98, 43, 97, 41, 41] = .ok [([97], 6), ([98], 6), ([97], 6)] [] := by rfl
end Lw

namespace Lw
open PySem L2 DX Pa
/-! ### counts -/
theorem cnt_app (ps qs : Pairs) (w : List Nat) : cnt (ps ++ qs) w = cnt ps w + cnt qs w := by
  unfold cnt
  rw [List.filter_append, List.map_append, List.sum_append]
theorem cnt_cons (p : List Nat × Int) (ps : Pairs) (w : List Nat) : cnt (p :: ps) w = (if p.1 = w then p.2 else 0) + cnt ps w := by
  unfold cnt
  by_cases c : p.1 = w
  · rw [List.filter_cons_of_pos (by simpa using c), List.map_cons, List.sum_cons, if_pos c]
  · rw [List.filter_cons_of_neg (by simpa using c), if_neg c, Int.zero_add]
theorem cnt_nil (w : List Nat) : cnt [] w = 0 := rfl
theorem cnt_no : ∀ (ws : List (List Nat)) (xs : List Int) (w : List Nat), w ∉ ws → cnt (ws.zip xs) w = 0
  | [], xs, w, _ => by simp [cnt]
  | v :: ws, [], w, _ => by simp [cnt]
  | v :: ws, x :: xs, w, h => by
    rw [List.zip_cons_cons, cnt_cons, if_neg (fun z => h (by rw [← z]; exact List.mem_cons_self)), cnt_no ws xs w fun z => h (List.mem_cons_of_mem _ z)]
    rfl
theorem cnt_zip : ∀ (ws : List (List Nat)) (xs : List Int), ws.Nodup → xs.length = ws.length → ws.map (cnt (ws.zip xs)) = xs
  | [], [], _, _ => rfl
  | [], x :: xs, _, h => by cases h
  | v :: ws, [], _, h => by cases h
  | v :: ws, x :: xs, hn, h => by
    rw [List.nodup_cons] at hn
    have ih := cnt_zip ws xs hn.2 (by simpa using h)
    rw [List.map_cons, List.zip_cons_cons, cnt_cons, if_pos rfl, cnt_no ws xs v hn.1, Int.add_zero]
    congr 1
    rw [← ih, ih]
    conv => rhs; rw [← ih]
    refine List.map_congr_left fun w hw => ?_
    rw [cnt_cons, if_neg (fun z => hn.1 (by rw [show v = w from z]; exact hw)), Int.zero_add]
theorem cnt_pos : ∀ (ps : Pairs), (∀ p ∈ ps, 0 ≤ p.2) → ∀ w, cnt (ps.filter fun p => decide (0 < p.2)) w = cnt ps w
  | [], _, w => rfl
  | p :: ps, h, w => by
    have ih := cnt_pos ps (fun q hq => h q (List.mem_cons_of_mem _ hq)) w
    have hp := h p List.mem_cons_self
    by_cases c : 0 < p.2
    · rw [List.filter_cons_of_pos (by simpa using c), cnt_cons, cnt_cons, ih]
    · rw [List.filter_cons_of_neg (by simpa using c), cnt_cons, ih]
      have : p.2 = 0 := by omega
      rw [this]
      split <;> omega
/-! ### how a bundle is written -/
def termT (c : Int) (w : List Nat) : List Nat := if c = 1 then w else dg c.toNat ++ [32] ++ w
def posL (xs : List Int) (ws : List (List Nat)) : L1 := ((ws.zip xs).filter fun p => decide (0 < p.2)).map fun p => (p, termT p.2 p.1)
def textP (xs : List Int) (ws : List (List Nat)) : List Nat := if posL xs ws = [] then [48] else TL.joinL [32, 43, 32] ((posL xs ws).map (·.2))
structure Bd (xs : List Int) (ws : List (List Nat)) : Prop where
  len : xs.length = ws.length
  ne : ws ≠ []
  few : ws.length ≤ 4
  nm : ∀ w ∈ ws, Nm w
  nd : ws.Nodup
  lo : ∀ x ∈ xs, 0 ≤ x ∧ x ≤ 60
theorem zip_mem {xs : List Int} {ws : List (List Nat)} {p : List Nat × Int} (h : p ∈ ws.zip xs) : p.1 ∈ ws ∧ p.2 ∈ xs := ⟨(List.of_mem_zip h).1, (List.of_mem_zip h).2⟩
section
variable {xs : List Int} {ws : List (List Nat)}
theorem posL_wrd (h : Bd xs ws) : ∀ x ∈ posL xs ws, Wrd 0 x ∧ x.1 ∈ ws.zip xs ∧ x.2.length ≤ 9 ∧ Sg x.2 := by
  intro x hx
  obtain ⟨p, hp, rfl⟩ := List.mem_map.mp hx
  obtain ⟨hz, hc⟩ := List.mem_filter.mp hp
  have hc : 0 < p.2 := by simpa using hc
  obtain ⟨h1, h2⟩ := zip_mem hz
  have hw := h.nm _ h1
  have hx := h.lo _ h2
  refine ⟨⟨0, termT p.2 p.1, Nat.le_refl _, ⟨hw, hx.1, hx.2, ?_⟩, by simp⟩, hz, ?_, ?_⟩
  · unfold termT
    by_cases c : p.2 = 1
    · rw [if_pos c]; exact .inl ⟨c, rfl⟩
    · rw [if_neg c]; exact .inr (by simp)
  · have := hw.2.1
    show (termT p.2 p.1).length ≤ 9
    unfold termT dg
    split
    · omega
    · split <;> simp <;> omega
  · show Sg (termT p.2 p.1)
    have hs := hw.2.2.sg
    unfold termT
    split
    · exact hs
    · intro c hc
      rcases List.mem_append.mp hc with hc | hc
      · rcases List.mem_append.mp hc with hc | hc
        · have := dg_G (n := p.2.toNat) (by omega) c hc
          unfold isG at this
          simp only [Bool.and_eq_true, decide_eq_true_eq] at this
          omega
        · rw [List.mem_singleton.mp hc]; decide
      · exact hs c hc
theorem posL_cnt (h : Bd xs ws) : ws.map (cnt ((posL xs ws).map (·.1))) = xs := by
  have e : (posL xs ws).map (·.1) = (ws.zip xs).filter fun p => decide (0 < p.2) := by
    unfold posL
    rw [List.map_map]
    exact List.map_id' _
  rw [e]
  have q : cnt ((ws.zip xs).filter fun p => decide (0 < p.2)) = cnt (ws.zip xs) := by
    funext w
    exact cnt_pos _ (fun p hp => (h.lo _ (zip_mem hp).2).1) w
  rw [q]
  exact cnt_zip ws xs h.nd h.len
theorem posL_len (h : Bd xs ws) : (posL xs ws).length ≤ 4 := by
  unfold posL
  rw [List.length_map]
  refine Nat.le_trans (List.length_filter_le _ _) ?_
  rw [List.length_zip]
  have := h.few
  omega
theorem text_parse (h : Bd xs ws) : bundleP (textP xs ws) = .ok ((posL xs ws).map (·.1)) [] := by
  unfold textP
  split
  · rename_i e
    rw [e]
    exact bundle_zero (e := 0) (p := 0) (q := 0) (by omega)
  · rename_i e
    have k := bundle_words (D := 0) (a := 1) (b := 1) (p := 0) (q := 0) e (by have := posL_len h; omega) (fun x hx => (posL_wrd h x hx).1) (by omega)
    simpa using k
end
theorem joinL_len {S : List Nat} {a : Nat} : ∀ l : List (List Nat), (∀ w ∈ l, w.length ≤ a) → (TL.joinL S l).length ≤ l.length * (a + S.length)
  | [], _ => by simp [TL.joinL]
  | [w], h => by
    have := h w List.mem_cons_self
    simp only [TL.joinL, List.length_cons, List.length_nil]
    omega
  | w :: v :: r, h => by
    have ih := joinL_len (S := S) (v :: r) fun x hx => h x (List.mem_cons_of_mem _ hx)
    have := h w List.mem_cons_self
    simp only [TL.joinL, List.length_append] at ih ⊢
    rw [List.length_cons (a := w), Nat.add_mul]
    omega
theorem joinL_sg {S : List Nat} (hS : Sg S) : ∀ l : List (List Nat), (∀ w ∈ l, Sg w) → Sg (TL.joinL S l)
  | [], _ => by simp [TL.joinL]; exact sg0
  | [w], h => h w List.mem_cons_self
  | w :: v :: r, h => by
    have ih := joinL_sg hS (v :: r) fun x hx => h x (List.mem_cons_of_mem _ hx)
    have hw := h w List.mem_cons_self
    simp only [TL.joinL]
    intro c hc
    rcases List.mem_append.mp hc with hc | hc
    · exact hw c hc
    · rcases List.mem_append.mp hc with hc | hc
      · exact hS c hc
      · exact ih c hc
theorem text_len {xs : List Int} {ws : List (List Nat)} (h : Bd xs ws) : (textP xs ws).length ≤ 100 ∧ Sg (textP xs ws) := by
  unfold textP
  split
  · exact ⟨by simp, sg1 (by decide)⟩
  · have hp := posL_wrd h
    refine ⟨?_, joinL_sg (by unfold Sg; decide) _ fun w hw => ?_⟩
    · have k := joinL_len (S := [32, 43, 32]) (a := 9) ((posL xs ws).map (·.2)) (fun w hw => by
        obtain ⟨x, hx, rfl⟩ := List.mem_map.mp hw
        exact (hp x hx).2.2.1)
      have := posL_len h
      rw [List.length_map] at k
      simp only [List.length_cons, List.length_nil] at k
      omega
    · obtain ⟨x, hx, rfl⟩ := List.mem_map.mp hw
      exact (hp x hx).2.2.2
end Lw

namespace Lw
open PySem L2 DX Pa
/-! ### the program's and the law's writing -/
theorem str61 : ∀ n : _root_.Fin 61, ((toString ((n.val : Nat) : Int) : String) : Str) = wS (dg n.val) := by decide +kernel
theorem str_dg {k : Int} (h0 : 0 ≤ k) (h1 : k ≤ 60) : ((toString k : String) : Str) = wS (dg k.toNat) := by
  have := str61 ⟨k.toNat, by omega⟩
  have e : ((k.toNat : Nat) : Int) = k := by omega
  simpa only [e] using this
theorem lg60 {k : Int} (h0 : 0 ≤ k) (h1 : k ≤ 60) : k.natAbs.log2 < 1920 := by
  by_cases c : k.natAbs = 0
  · rw [c]; decide
  · rw [Nat.log2_lt c]
    have : k.natAbs ≤ 60 := by omega
    exact Nat.lt_of_le_of_lt this (Nat.lt_of_lt_of_le (by decide : 60 < 2 ^ 6) (Nat.pow_le_pow_right (by decide) (by decide)))
theorem strD_dg {k : Int} {μ : Mu} (h0 : 0 ≤ k) (h1 : k ≤ 60) : strD [.int k] μ = .ok (sD (dg k.toNat)) μ := by
  show grd (k.natAbs.log2 < 1920) (Res.ok (D.str ((toString k : String) : Str)) μ) = _
  rw [grd_pos (lg60 h0 h1), str_dg h0 h1]
  rfl
theorem fmt_int {T : DE} {η : DX.Env} {μ μ1 : Mu} {k : Int} (h : T η μ = .ok (.int k) μ1) (h0 : 0 ≤ k) (h1 : k ≤ 60) : dFmt T η μ = .ok (sD (dg k.toNat)) μ1 := by
  unfold dFmt
  rw [h, bind_ok]
  show grd (k.natAbs.log2 < 1920) (Res.ok (D.str ((toString k : String) : Str)) μ1) = _
  rw [grd_pos (lg60 h0 h1), str_dg h0 h1]
  rfl
theorem fmt_str {T : DE} {η : DX.Env} {μ μ1 : Mu} {a : List Nat} (h : T η μ = .ok (sD a) μ1) (hl : a.length ≤ 16777216) : dFmt T η μ = .ok (sD a) μ1 := by
  unfold dFmt
  rw [h, bind_ok]
  show chk (wS a).length (Res.ok (D.str (wS a)) μ1) = _
  rw [chk_c (by rw [wS_len]; exact hl)]
  rfl
theorem js_cons {T : DE} {Ts : List DE} {η : DX.Env} {μ μ1 : Mu} {acc a : List Nat} (h : T η μ = .ok (sD a) μ1) (hl : (acc ++ a).length ≤ 16777216) : dJs (T :: Ts) (wS acc) η μ = dJs Ts (wS (acc ++ a)) η μ1 := by
  show (T η μ).bind _ = _
  rw [h, bind_ok]
  show chk (wS acc ++ wS a).length (dJs Ts (wS acc ++ wS a) η μ1) = _
  rw [wS_app, chk_c (by rw [wS_len]; exact hl)]
theorem js_3 {T1 T2 T3 : DE} {η : DX.Env} {μ : Mu} {a b c : List Nat} (h1 : T1 η μ = .ok (sD a) μ) (h2 : T2 η μ = .ok (sD b) μ) (h3 : T3 η μ = .ok (sD c) μ) (hl : (a ++ b ++ c).length ≤ 16777216) : dJoin [T1, T2, T3] η μ = .ok (sD (a ++ b ++ c)) μ := by
  have e : (Str.empty : Str) = wS [] := by decide +kernel
  simp only [List.length_append] at hl
  unfold dJoin
  rw [e, js_cons h1 (by simp only [List.nil_append]; omega), js_cons h2 (by simp only [List.nil_append, List.length_append]; omega), js_cons h3 (by simp only [List.nil_append, List.length_append]; omega)]
  rfl
def qD (p : List Nat × Int) : D := .tup [.int p.2, sD p.1]
theorem zip_q : ∀ (xs : List Int) (ws : List (List Nat)), zipD2 (iD xs) (ws.map sD) = (ws.zip xs).map qD
  | [], ws => by cases ws <;> rfl
  | x :: xs, [] => rfl
  | x :: xs, w :: ws => by
    have ih := zip_q xs ws
    unfold zipD2 iD at ih ⊢
    rw [List.map_cons, List.map_cons, List.zipWith_cons_cons, ih]
    rfl
theorem still_th (b : Bool) (ws : List (List Nat)) : still (thD b ws) = some (ws.map sD) := by cases b <;> rfl
theorem ne_strs {ts : List (List Nat)} {μ : Mu} (hl : ts.length ≤ 100000) (h : ∀ t ∈ ts, Sg t) : neD (.lst (ts.map sD)) (.lst []) μ = .ok (.bl (!decide (ts = []))) μ := by
  have p1 : DX.plain 60 (.lst (ts.map sD)) = true := plain_lst_of (n := 59) (by rw [List.length_map]; exact hl) (wsD_plains h)
  have p2 : DX.plain 60 (.lst []) = true := plain_lst_of (n := 59) (by decide) plains_nil
  rw [neD_plain p1 p2]
  cases ts with
  | nil => rfl
  | cons t ts => rfl
theorem lit_sep : ("; " : Str) = wS [59, 32] := by decide +kernel
theorem lit_plus : (" + " : Str) = wS [32, 43, 32] := by decide +kernel
section
variable {xs : List Int} {ws : List (List Nat)} {μ : Mu}
theorem sum_len : ∀ (l : List (List Nat)) (a : Nat), (∀ w ∈ l, w.length ≤ a) → (l.map List.length).sum ≤ l.length * a
  | [], a, _ => by simp
  | w :: r, a, h => by
    have ih := sum_len r a fun x hx => h x (List.mem_cons_of_mem _ hx)
    have := h w List.mem_cons_self
    rw [List.map_cons, List.sum_cons, List.length_cons, Nat.add_mul]
    omega
theorem format_ok {b : Bool} (h : Bd xs ws) : f_format_bundle [.tup (iD xs), thD b ws] μ = .ok (sD (textP xs ws)) μ := by
  have e0 : f_format_bundle [.tup (iD xs), thD b ws] μ = fz μ (SR.run (T_format_bundle [some (.tup (iD xs)), some (thD b ws), none, none, none] μ)) := defR_ok rfl
  have hp := posL_wrd h
  have el : L1_format_bundle [some (.tup (iD xs)), some (thD b ws), none, none, none] μ = .ok (.lst (((posL xs ws).map (·.2)).map sD)) μ := by
    have z := lcR_filter (G := dGTup 2 (dGCons (dName 3) (dGCons (dName 4) dGNil))) (C := W1_format_bundle) (Te := Q1_format_bundle) (η := [some (.tup (iD xs)), some (thD b ws), none, none, none]) (μ := μ) (fun x => match x with | .tup [.int c, _] => decide (0 < c) | _ => false) (fun x => match x with | .tup [.int c, .str y] => sD (termT c y.cps.toList) | _ => .non) ((ws.zip xs).map qD) [] (fun x hx => by
      obtain ⟨p, hp', rfl⟩ := List.mem_map.mp hx
      obtain ⟨q1, q2⟩ := zip_mem hp'
      have hx := h.lo _ q2
      have hw := h.nm _ q1
      refine ⟨[some (.tup (iD xs)), some (thD b ws), none, some (.int p.2), some (sD p.1)], rfl, ?_, fun _ => ?_⟩
      · simp only [dSeq, dIf, dB, dAnd, dOr, dNot, dAsg, dOp, dVar, dC, dCB, dCons, dNil, dName, dRet, dRetN, dDrop, dNext, dIfE, dAndV, dOrV, dNotV, dUn, dSl, dNoPart, dPart, dPar, dPar3, dTup, dLst, dGTup, dGCons, dGNil, dChain, dIsN, dNotN, isN, dCont, dBreak, dGSub, dSeqI, items_lst, items_tup, dZip2, dZip3, dEnum, still_lst, still_tup, dFor, dFld, dLenOf, dM1, look_0, look_s, bind_ok, to_ok, then_nx, then_rt, then_ct, then_bk, turn_nx, turn_ct, turn_rt, turn_bk, run_rt, run_nx, onB_bl, okO_some, noX_ok, addD_int, subD_int, ltD_int, cmpD_int, fLe, fGe, fGt, intD_int, if_true, if_false, Bool.false_eq_true, Bool.not_true, Bool.not_false, List.set_cons_succ, List.set_cons_zero, ixD_lst, ixD_tup, lenD_lst, lenD_tup, List.length_cons, List.length_nil, isi_int_int, isi_int_bool, isi_int_str, isi_int_tuple, isi_int_list, isi_bl_int, isi_bl_bool, isi_bl_str, isi_bl_tuple, isi_bl_list, isi_str_int, isi_str_bool, isi_str_str, isi_str_tuple, isi_str_list, isi_tup_int, isi_tup_bool, isi_tup_str, isi_tup_tuple, isi_tup_list, isi_lst_int, isi_lst_bool, isi_lst_str, isi_lst_tuple, isi_lst_list, isi_non_int, isi_non_bool, isi_non_str, isi_non_tuple, isi_non_list, wipeD, dNever, chk_c, decide_true, decide_false, W1_format_bundle]
        rfl
      · show _ = Res.ok (sD (termT p.2 (wS p.1).cps.toList)) μ
        rw [wS_cps]
        have j := js_3 (T1 := dFmt (dVar 3)) (T2 := dC (.str " ")) (T3 := dFmt (dVar 4)) (η := [some (.tup (iD xs)), some (thD b ws), none, some (.int p.2), some (sD p.1)]) (μ := μ) (fmt_int rfl hx.1 hx.2) (show _ = Res.ok (sD [32]) μ from by rw [← lit_sp]; rfl) (fmt_str (a := p.1) rfl (by have := hw.2.1; omega)) (by
          have := hw.2.1
          simp only [List.length_append]
          unfold dg
          split <;> simp <;> omega)
        unfold termT
        by_cases c : p.2 = 1
        · rw [if_pos c]
          simp only [dSeq, dIf, dB, dAnd, dOr, dNot, dAsg, dOp, dVar, dC, dCB, dCons, dNil, dName, dRet, dRetN, dDrop, dNext, dIfE, dAndV, dOrV, dNotV, dUn, dSl, dNoPart, dPart, dPar, dPar3, dTup, dLst, dGTup, dGCons, dGNil, dChain, dIsN, dNotN, isN, dCont, dBreak, dGSub, dSeqI, items_lst, items_tup, dZip2, dZip3, dEnum, still_lst, still_tup, dFor, dFld, dLenOf, dM1, look_0, look_s, bind_ok, to_ok, then_nx, then_rt, then_ct, then_bk, turn_nx, turn_ct, turn_rt, turn_bk, run_rt, run_nx, onB_bl, okO_some, noX_ok, addD_int, subD_int, ltD_int, cmpD_int, fLe, fGe, fGt, intD_int, if_true, if_false, Bool.false_eq_true, Bool.not_true, Bool.not_false, List.set_cons_succ, List.set_cons_zero, ixD_lst, ixD_tup, lenD_lst, lenD_tup, List.length_cons, List.length_nil, isi_int_int, isi_int_bool, isi_int_str, isi_int_tuple, isi_int_list, isi_bl_int, isi_bl_bool, isi_bl_str, isi_bl_tuple, isi_bl_list, isi_str_int, isi_str_bool, isi_str_str, isi_str_tuple, isi_str_list, isi_tup_int, isi_tup_bool, isi_tup_str, isi_tup_tuple, isi_tup_list, isi_lst_int, isi_lst_bool, isi_lst_str, isi_lst_tuple, isi_lst_list, isi_non_int, isi_non_bool, isi_non_str, isi_non_tuple, isi_non_list, wipeD, dNever, chk_c, decide_true, decide_false, Q1_format_bundle, eqD_int, beq_iff_eq.mpr c]
        · rw [if_neg c]
          simp only [dSeq, dIf, dB, dAnd, dOr, dNot, dAsg, dOp, dVar, dC, dCB, dCons, dNil, dName, dRet, dRetN, dDrop, dNext, dIfE, dAndV, dOrV, dNotV, dUn, dSl, dNoPart, dPart, dPar, dPar3, dTup, dLst, dGTup, dGCons, dGNil, dChain, dIsN, dNotN, isN, dCont, dBreak, dGSub, dSeqI, items_lst, items_tup, dZip2, dZip3, dEnum, still_lst, still_tup, dFor, dFld, dLenOf, dM1, look_0, look_s, bind_ok, to_ok, then_nx, then_rt, then_ct, then_bk, turn_nx, turn_ct, turn_rt, turn_bk, run_rt, run_nx, onB_bl, okO_some, noX_ok, addD_int, subD_int, ltD_int, cmpD_int, fLe, fGe, fGt, intD_int, if_true, if_false, Bool.false_eq_true, Bool.not_true, Bool.not_false, List.set_cons_succ, List.set_cons_zero, ixD_lst, ixD_tup, lenD_lst, lenD_tup, List.length_cons, List.length_nil, isi_int_int, isi_int_bool, isi_int_str, isi_int_tuple, isi_int_list, isi_bl_int, isi_bl_bool, isi_bl_str, isi_bl_tuple, isi_bl_list, isi_str_int, isi_str_bool, isi_str_str, isi_str_tuple, isi_str_list, isi_tup_int, isi_tup_bool, isi_tup_str, isi_tup_tuple, isi_tup_list, isi_lst_int, isi_lst_bool, isi_lst_str, isi_lst_tuple, isi_lst_list, isi_non_int, isi_non_bool, isi_non_str, isi_non_tuple, isi_non_list, wipeD, dNever, chk_c, decide_true, decide_false, Q1_format_bundle, eqD_int, beq_eq_false_iff_ne.mpr c, j])
    have ez : dZip2 (dCons (dVar 0) (dCons (dVar 1) dNil)) [some (.tup (iD xs)), some (thD b ws), none, none, none] μ = .ok ((ws.zip xs).map qD) μ := by
      simp only [dSeq, dIf, dB, dAnd, dOr, dNot, dAsg, dOp, dVar, dC, dCB, dCons, dNil, dName, dRet, dRetN, dDrop, dNext, dIfE, dAndV, dOrV, dNotV, dUn, dSl, dNoPart, dPart, dPar, dPar3, dTup, dLst, dGTup, dGCons, dGNil, dChain, dIsN, dNotN, isN, dCont, dBreak, dGSub, dSeqI, items_lst, items_tup, dZip2, dZip3, dEnum, still_lst, still_tup, dFor, dFld, dLenOf, dM1, look_0, look_s, bind_ok, to_ok, then_nx, then_rt, then_ct, then_bk, turn_nx, turn_ct, turn_rt, turn_bk, run_rt, run_nx, onB_bl, okO_some, noX_ok, addD_int, subD_int, ltD_int, cmpD_int, fLe, fGe, fGt, intD_int, if_true, if_false, Bool.false_eq_true, Bool.not_true, Bool.not_false, List.set_cons_succ, List.set_cons_zero, ixD_lst, ixD_tup, lenD_lst, lenD_tup, List.length_cons, List.length_nil, isi_int_int, isi_int_bool, isi_int_str, isi_int_tuple, isi_int_list, isi_bl_int, isi_bl_bool, isi_bl_str, isi_bl_tuple, isi_bl_list, isi_str_int, isi_str_bool, isi_str_str, isi_str_tuple, isi_str_list, isi_tup_int, isi_tup_bool, isi_tup_str, isi_tup_tuple, isi_tup_list, isi_lst_int, isi_lst_bool, isi_lst_str, isi_lst_tuple, isi_lst_list, isi_non_int, isi_non_bool, isi_non_str, isi_non_tuple, isi_non_list, wipeD, dNever, chk_c, decide_true, decide_false, still_th, zip_q]
    have lz : ((ws.zip xs).map qD).length ≤ 16777216 := by
      rw [List.length_map, List.length_zip]
      have := h.few
      omega
    unfold L1_format_bundle dLc lcW
    rw [ez, bind_ok, chk_c lz]
    have ew : wipeD [some (.tup (iD xs)), some (thD b ws), none, none, none] [3, 4] = [some (.tup (iD xs)), some (thD b ws), none, none, none] := rfl
    rw [ew, z, noX_ok, bind_ok, List.nil_append]
    congr 2
    unfold posL
    rw [List.filter_map, List.map_map, List.map_map, List.map_map]
    refine List.map_congr_left fun p _ => ?_
    show sD (termT p.2 (wS p.1).cps.toList) = _
    rw [wS_cps]
    rfl
  rw [e0]
  have ne := ne_strs (ts := (posL xs ws).map (·.2)) (μ := μ) (by rw [List.length_map]; have := posL_len h; omega) (fun t ht => by
    obtain ⟨x, hx, rfl⟩ := List.mem_map.mp ht
    exact (hp x hx).2.2.2)
  have jn : joinD " + " (.lst (((posL xs ws).map (·.2)).map sD)) μ = .ok (sD (TL.joinL [32, 43, 32] ((posL xs ws).map (·.2)))) μ := by
    rw [lit_plus]
    refine sD_join ?_
    have k := sum_len ((posL xs ws).map (·.2)) 9 (fun w hw => by
      obtain ⟨x, hx, rfl⟩ := List.mem_map.mp hw
      exact (hp x hx).2.2.1)
    have := posL_len h
    rw [List.length_map] at k ⊢
    simp only [List.length_cons, List.length_nil]
    omega
  unfold textP
  by_cases c : posL xs ws = []
  · rw [if_pos c]
    have c2 : (posL xs ws).map (·.2) = [] := by rw [c]; rfl
    simp only [dSeq, dIf, dB, dAnd, dOr, dNot, dAsg, dOp, dVar, dC, dCB, dCons, dNil, dName, dRet, dRetN, dDrop, dNext, dIfE, dAndV, dOrV, dNotV, dUn, dSl, dNoPart, dPart, dPar, dPar3, dTup, dLst, dGTup, dGCons, dGNil, dChain, dIsN, dNotN, isN, dCont, dBreak, dGSub, dSeqI, items_lst, items_tup, dZip2, dZip3, dEnum, still_lst, still_tup, dFor, dFld, dLenOf, dM1, look_0, look_s, bind_ok, to_ok, then_nx, then_rt, then_ct, then_bk, turn_nx, turn_ct, turn_rt, turn_bk, run_rt, run_nx, onB_bl, okO_some, noX_ok, addD_int, subD_int, ltD_int, cmpD_int, fLe, fGe, fGt, intD_int, if_true, if_false, Bool.false_eq_true, Bool.not_true, Bool.not_false, List.set_cons_succ, List.set_cons_zero, ixD_lst, ixD_tup, lenD_lst, lenD_tup, List.length_cons, List.length_nil, isi_int_int, isi_int_bool, isi_int_str, isi_int_tuple, isi_int_list, isi_bl_int, isi_bl_bool, isi_bl_str, isi_bl_tuple, isi_bl_list, isi_str_int, isi_str_bool, isi_str_str, isi_str_tuple, isi_str_list, isi_tup_int, isi_tup_bool, isi_tup_str, isi_tup_tuple, isi_tup_list, isi_lst_int, isi_lst_bool, isi_lst_str, isi_lst_tuple, isi_lst_list, isi_non_int, isi_non_bool, isi_non_str, isi_non_tuple, isi_non_list, wipeD, dNever, chk_c, decide_true, decide_false, T_format_bundle, el, chk_c (show (0 : Nat) ≤ 16777216 by decide), ne, decide_eq_true c2, lit_0]
    exact fz_same (Nat.le_refl _)
  · rw [if_neg c]
    have c2 : ¬ (posL xs ws).map (·.2) = [] := by simpa using c
    simp only [dSeq, dIf, dB, dAnd, dOr, dNot, dAsg, dOp, dVar, dC, dCB, dCons, dNil, dName, dRet, dRetN, dDrop, dNext, dIfE, dAndV, dOrV, dNotV, dUn, dSl, dNoPart, dPart, dPar, dPar3, dTup, dLst, dGTup, dGCons, dGNil, dChain, dIsN, dNotN, isN, dCont, dBreak, dGSub, dSeqI, items_lst, items_tup, dZip2, dZip3, dEnum, still_lst, still_tup, dFor, dFld, dLenOf, dM1, look_0, look_s, bind_ok, to_ok, then_nx, then_rt, then_ct, then_bk, turn_nx, turn_ct, turn_rt, turn_bk, run_rt, run_nx, onB_bl, okO_some, noX_ok, addD_int, subD_int, ltD_int, cmpD_int, fLe, fGe, fGt, intD_int, if_true, if_false, Bool.false_eq_true, Bool.not_true, Bool.not_false, List.set_cons_succ, List.set_cons_zero, ixD_lst, ixD_tup, lenD_lst, lenD_tup, List.length_cons, List.length_nil, isi_int_int, isi_int_bool, isi_int_str, isi_int_tuple, isi_int_list, isi_bl_int, isi_bl_bool, isi_bl_str, isi_bl_tuple, isi_bl_list, isi_str_int, isi_str_bool, isi_str_str, isi_str_tuple, isi_str_list, isi_tup_int, isi_tup_bool, isi_tup_str, isi_tup_tuple, isi_tup_list, isi_lst_int, isi_lst_bool, isi_lst_str, isi_lst_tuple, isi_lst_list, isi_non_int, isi_non_bool, isi_non_str, isi_non_tuple, isi_non_list, wipeD, dNever, chk_c, decide_true, decide_false, T_format_bundle, el, chk_c (show (0 : Nat) ≤ 16777216 by decide), ne, decide_eq_false c2, jn]
    exact fz_same (Nat.le_refl _)
end
end Lw

namespace Lw
open PySem L2 DX Pa
theorem der_cell {ν : Mu} {n : Nat} {ts : List (List Nat)} (h : ν[n]? = some (.lst (ts.map sD))) (hl : ts.length ≤ 100000) (hs : ∀ t ∈ ts, Sg t) : der ν (.cell n) = .lst (ts.map sD) := by
  have p : ∀ x ∈ ts.map sD, dr ν 7 x = x := fun x hx => by
    obtain ⟨t, ht, rfl⟩ := List.mem_map.mp hx
    rfl
  unfold der
  rw [if_neg (by simp [DX.plain])]
  show (match ν[n]? with | some (.lst xs) => D.lst (xs.map (dr ν 7)) | _ => .cell n) = _
  rw [h]
  simp only
  congr 1
  conv => rhs; rw [← List.map_id (ts.map sD)]
  exact List.map_congr_left fun x hx => p x hx
theorem ne_cell {ν : Mu} {n : Nat} {ts : List (List Nat)} (h : ν[n]? = some (.lst (ts.map sD))) (hl : ts.length ≤ 100000) (hs : ∀ t ∈ ts, Sg t) : neD (.cell n) (.lst []) ν = .ok (.bl (!decide (ts = []))) ν := by
  rw [← ne_strs (μ := ν) hl hs]
  unfold neD
  rw [der_cell h hl hs, der_plain (plain_lst_of (n := 59) (by rw [List.length_map]; exact hl) (wsD_plains hs))]
theorem eq_cell {ν : Mu} {n : Nat} {ts : List (List Nat)} (h : ν[n]? = some (.lst (ts.map sD))) (hl : ts.length ≤ 100000) (hs : ∀ t ∈ ts, Sg t) : eqD (.cell n) (.lst []) ν = .ok (.bl (decide (ts = []))) ν := by
  have p1 : DX.plain 60 (.lst (ts.map sD)) = true := plain_lst_of (n := 59) (by rw [List.length_map]; exact hl) (wsD_plains hs)
  have p2 : DX.plain 60 (.lst []) = true := plain_lst_of (n := 59) (by decide) plains_nil
  have e : eqD (.cell n) (.lst []) ν = eqD (.lst (ts.map sD)) (.lst []) ν := by
    unfold eqD
    rw [der_cell h hl hs, der_plain p1]
  rw [e, eqD_plain p1 p2]
  cases ts with
  | nil => rfl
  | cons t ts => rfl
theorem join_cell {ν : Mu} {n : Nat} {a : List Nat} {ts : List (List Nat)} (h : ν[n]? = some (.lst (ts.map sD))) (hl : (ts.map List.length).sum + ts.length * a.length ≤ 16777216) : joinD (wS a) (.cell n) ν = .ok (sD (TL.joinL a ts)) ν := by
  have e : joinD (wS a) (.cell n) ν = joinD (wS a) (.lst (ts.map sD)) ν := by
    unfold joinD
    simp only [seqOf, asL, h]
  rw [e]
  exact sD_join hl
section
variable {xs : List Int} {ws : List (List Nat)} {μ : Mu}
def pl (ps : Pairs) : List (List Nat) := (ps.filter fun p => decide (0 < p.2)).map fun p => termT p.2 p.1
theorem term_val {p : List Nat × Int} {η : DX.Env} {ν : Mu} {x0 x1 x2 : Option D} (hw : Nm p.1) (h0 : 0 ≤ p.2) (h1 : p.2 ≤ 60) (hη : η = [x0, x1, x2, some (.int p.2), some (sD p.1)]) :
    dCons (dIfE (dB (dOp eqD (dVar 3) (dC (.int 1)))) (dVar 4) (dOp addD (dOp addD (dCB strD (dCons (dVar 3) dNil)) (dC (.str " "))) (dVar 4))) dNil η ν = .ok [sD (termT p.2 p.1)] ν := by
  subst hη
  have l := hw.2.1
  have ld : (dg p.2.toNat).length ≤ 2 := by unfold dg; split <;> simp
  unfold termT
  by_cases c : p.2 = 1
  · rw [if_pos c]
    simp only [dSeq, dIf, dB, dAnd, dOr, dNot, dAsg, dOp, dVar, dC, dCB, dCons, dNil, dName, dRet, dRetN, dDrop, dNext, dIfE, dAndV, dOrV, dNotV, dUn, dSl, dNoPart, dPart, dPar, dPar3, dTup, dLst, dGTup, dGCons, dGNil, dChain, dIsN, dNotN, isN, dCont, dBreak, dGSub, dSeqI, items_lst, items_tup, dZip2, dZip3, dEnum, still_lst, still_tup, dFor, dFld, dLenOf, dM1, look_0, look_s, bind_ok, to_ok, then_nx, then_rt, then_ct, then_bk, turn_nx, turn_ct, turn_rt, turn_bk, run_rt, run_nx, onB_bl, okO_some, noX_ok, addD_int, subD_int, ltD_int, cmpD_int, fLe, fGe, fGt, intD_int, if_true, if_false, Bool.false_eq_true, Bool.not_true, Bool.not_false, List.set_cons_succ, List.set_cons_zero, ixD_lst, ixD_tup, lenD_lst, lenD_tup, List.length_cons, List.length_nil, isi_int_int, isi_int_bool, isi_int_str, isi_int_tuple, isi_int_list, isi_bl_int, isi_bl_bool, isi_bl_str, isi_bl_tuple, isi_bl_list, isi_str_int, isi_str_bool, isi_str_str, isi_str_tuple, isi_str_list, isi_tup_int, isi_tup_bool, isi_tup_str, isi_tup_tuple, isi_tup_list, isi_lst_int, isi_lst_bool, isi_lst_str, isi_lst_tuple, isi_lst_list, isi_non_int, isi_non_bool, isi_non_str, isi_non_tuple, isi_non_list, wipeD, dNever, chk_c, decide_true, decide_false, eqD_int, beq_iff_eq.mpr c]
  · rw [if_neg c]
    have a1 : addD (sD (dg p.2.toNat)) (sD [32]) ν = .ok (sD (dg p.2.toNat ++ [32])) ν := sD_add (by simp only [List.length_cons, List.length_nil]; omega)
    have a2 : addD (sD (dg p.2.toNat ++ [32])) (sD p.1) ν = .ok (sD (dg p.2.toNat ++ [32] ++ p.1)) ν := sD_add (by simp only [List.length_append, List.length_cons, List.length_nil]; omega)
    simp only [dSeq, dIf, dB, dAnd, dOr, dNot, dAsg, dOp, dVar, dC, dCB, dCons, dNil, dName, dRet, dRetN, dDrop, dNext, dIfE, dAndV, dOrV, dNotV, dUn, dSl, dNoPart, dPart, dPar, dPar3, dTup, dLst, dGTup, dGCons, dGNil, dChain, dIsN, dNotN, isN, dCont, dBreak, dGSub, dSeqI, items_lst, items_tup, dZip2, dZip3, dEnum, still_lst, still_tup, dFor, dFld, dLenOf, dM1, look_0, look_s, bind_ok, to_ok, then_nx, then_rt, then_ct, then_bk, turn_nx, turn_ct, turn_rt, turn_bk, run_rt, run_nx, onB_bl, okO_some, noX_ok, addD_int, subD_int, ltD_int, cmpD_int, fLe, fGe, fGt, intD_int, if_true, if_false, Bool.false_eq_true, Bool.not_true, Bool.not_false, List.set_cons_succ, List.set_cons_zero, ixD_lst, ixD_tup, lenD_lst, lenD_tup, List.length_cons, List.length_nil, isi_int_int, isi_int_bool, isi_int_str, isi_int_tuple, isi_int_list, isi_bl_int, isi_bl_bool, isi_bl_str, isi_bl_tuple, isi_bl_list, isi_str_int, isi_str_bool, isi_str_str, isi_str_tuple, isi_str_list, isi_tup_int, isi_tup_bool, isi_tup_str, isi_tup_tuple, isi_tup_list, isi_lst_int, isi_lst_bool, isi_lst_str, isi_lst_tuple, isi_lst_list, isi_non_int, isi_non_bool, isi_non_str, isi_non_tuple, isi_non_list, wipeD, dNever, chk_c, decide_true, decide_false, eqD_int, beq_eq_false_iff_ne.mpr c, strD_dg h0 h1, lit_sp, a1, a2]
theorem text_of_ok (h : Bd xs ws) (hc : Clean μ) : f_law_text_of [.tup (iD xs), .lst (ws.map sD)] μ = .ok (sD (textP xs ws)) μ := by
  have e0 : f_law_text_of [.tup (iD xs), .lst (ws.map sD)] μ = fz μ (SR.run (T_law_text_of [some (.tup (iD xs)), some (.lst (ws.map sD)), none, none, none] μ)) := defR_ok rfl
  have hp := posL_wrd h
  have lz : (ws.zip xs).length ≤ 4 := by
    rw [List.length_zip]
    have := h.few
    omega
  obtain ⟨η', μ', e, done, rest, hd, hr, x3, x4, rfl, rfl⟩ := forR_go (G := dGTup 2 (dGCons (dName 3) (dGCons (dName 4) dGNil))) (T := B1_law_text_of)
    (fun r η μ' => ∃ done rest, ws.zip xs = done ++ rest ∧ r = rest.map qD ∧ ∃ x3 x4, η = [some (.tup (iD xs)), some (.lst (ws.map sD)), some (.cell μ.length), x3, x4] ∧ μ' = μ ++ [.lst ((pl done).map sD)])
    (fun x r η μ' hI => by
      obtain ⟨done, rest, hd, hr, x3, x4, rfl, rfl⟩ := hI
      cases rest with
      | nil => cases hr
      | cons p rest =>
        obtain ⟨rfl, rfl⟩ := List.cons.inj hr
        have hm : p ∈ ws.zip xs := by rw [hd]; simp
        obtain ⟨q1, q2⟩ := zip_mem hm
        have hw := h.nm _ q1
        have hx := h.lo _ q2
        have hl : (pl done).length ≤ 4 := by
          unfold pl
          rw [List.length_map]
          refine Nat.le_trans (List.length_filter_le _ _) ?_
          have := congrArg List.length hd
          rw [List.length_append] at this
          omega
        by_cases c : 0 < p.2
        · have ev := term_val (p := p) (ν := μ ++ [.lst ((pl done).map sD)]) (x0 := some (.tup (iD xs))) (x1 := some (.lst (ws.map sD))) (x2 := some (.cell μ.length)) hw hx.1 hx.2 rfl
          have ea := append_ok (To := dVar 2) (η := [some (.tup (iD xs)), some (.lst (ws.map sD)), some (.cell μ.length), some (.int p.2), some (sD p.1)]) (μ := μ ++ [.lst ((pl done).map sD)]) rfl (last_get rfl) ev (last_get rfl) (by rw [List.length_map]; omega)
          rw [last_set rfl] at ea
          refine ⟨[some (.tup (iD xs)), some (.lst (ws.map sD)), some (.cell μ.length), some (.int p.2), some (sD p.1)], μ ++ [.lst ((pl done).map sD)], [some (.tup (iD xs)), some (.lst (ws.map sD)), some (.cell μ.length), some (.int p.2), some (sD p.1)], μ ++ [.lst ((pl (done ++ [p])).map sD)], rfl, .inl ?_, done ++ [p], rest, by rw [hd]; simp, rfl, _, _, rfl, rfl⟩
          have e1 : pl (done ++ [p]) = pl done ++ [termT p.2 p.1] := by
            unfold pl
            rw [List.filter_append, List.map_append]
            congr 1
            rw [List.filter_cons_of_pos (by simpa using c)]
            rfl
          rw [e1, List.map_append]
          simp only [B1_law_text_of, dIf, dB, dOp, dVar, dC, look_0, look_s, bind_ok, cmpD_int, fGt, onB_bl, decide_eq_true c, to_ok, if_true, dDrop, ea]
          rfl
        · refine ⟨[some (.tup (iD xs)), some (.lst (ws.map sD)), some (.cell μ.length), some (.int p.2), some (sD p.1)], μ ++ [.lst ((pl done).map sD)], [some (.tup (iD xs)), some (.lst (ws.map sD)), some (.cell μ.length), some (.int p.2), some (sD p.1)], μ ++ [.lst ((pl (done ++ [p])).map sD)], rfl, .inl ?_, done ++ [p], rest, by rw [hd]; simp, rfl, _, _, rfl, rfl⟩
          have e1 : pl (done ++ [p]) = pl done := by
            unfold pl
            rw [List.filter_append, List.filter_cons_of_neg (by simpa using c)]
            simp
          rw [e1]
          simp only [dSeq, dIf, dB, dAnd, dOr, dNot, dAsg, dOp, dVar, dC, dCB, dCons, dNil, dName, dRet, dRetN, dDrop, dNext, dIfE, dAndV, dOrV, dNotV, dUn, dSl, dNoPart, dPart, dPar, dPar3, dTup, dLst, dGTup, dGCons, dGNil, dChain, dIsN, dNotN, isN, dCont, dBreak, dGSub, dSeqI, items_lst, items_tup, dZip2, dZip3, dEnum, still_lst, still_tup, dFor, dFld, dLenOf, dM1, look_0, look_s, bind_ok, to_ok, then_nx, then_rt, then_ct, then_bk, turn_nx, turn_ct, turn_rt, turn_bk, run_rt, run_nx, onB_bl, okO_some, noX_ok, addD_int, subD_int, ltD_int, cmpD_int, fLe, fGe, fGt, intD_int, if_true, if_false, Bool.false_eq_true, Bool.not_true, Bool.not_false, List.set_cons_succ, List.set_cons_zero, ixD_lst, ixD_tup, lenD_lst, lenD_tup, List.length_cons, List.length_nil, isi_int_int, isi_int_bool, isi_int_str, isi_int_tuple, isi_int_list, isi_bl_int, isi_bl_bool, isi_bl_str, isi_bl_tuple, isi_bl_list, isi_str_int, isi_str_bool, isi_str_str, isi_str_tuple, isi_str_list, isi_tup_int, isi_tup_bool, isi_tup_str, isi_tup_tuple, isi_tup_list, isi_lst_int, isi_lst_bool, isi_lst_str, isi_lst_tuple, isi_lst_list, isi_non_int, isi_non_bool, isi_non_str, isi_non_tuple, isi_non_list, wipeD, dNever, chk_c, decide_true, decide_false, B1_law_text_of, decide_eq_false c])
    ((ws.zip xs).map qD) [some (.tup (iD xs)), some (.lst (ws.map sD)), some (.cell μ.length), none, none] (μ ++ [.lst []]) ⟨[], ws.zip xs, rfl, rfl, _, _, rfl, rfl⟩
  have hrest : rest = [] := by simpa using hr.symm
  rw [hrest, List.append_nil] at hd
  have epl : pl done = (posL xs ws).map (·.2) := by
    rw [← hd]
    unfold pl posL
    rw [List.map_map]
    rfl
  rw [epl] at e
  rw [e0]
  have sg : ∀ t ∈ (posL xs ws).map (·.2), Sg t := fun t ht => by
    obtain ⟨x, hx, rfl⟩ := List.mem_map.mp ht
    exact (hp x hx).2.2.2
  have pl4 := posL_len h
  have ne := ne_cell (ν := μ ++ [.lst (((posL xs ws).map (·.2)).map sD)]) (n := μ.length) (ts := (posL xs ws).map (·.2)) (last_get rfl) (by rw [List.length_map]; omega) sg
  have jn : joinD " + " (.cell μ.length) (μ ++ [.lst (((posL xs ws).map (·.2)).map sD)]) = .ok (sD (TL.joinL [32, 43, 32] ((posL xs ws).map (·.2)))) (μ ++ [.lst (((posL xs ws).map (·.2)).map sD)]) := by
    rw [lit_plus]
    refine join_cell (last_get rfl) ?_
    have k := sum_len ((posL xs ws).map (·.2)) 9 (fun w hw => by
      obtain ⟨x, hx, rfl⟩ := List.mem_map.mp hw
      exact (hp x hx).2.2.1)
    rw [List.length_map] at k ⊢
    simp only [List.length_cons, List.length_nil]
    omega
  have cl : ∀ t, clean (sD t) = true := fun t => by simp [sD, DX.clean]
  unfold textP
  by_cases c : posL xs ws = []
  · rw [if_pos c]
    have c2 : (posL xs ws).map (·.2) = [] := by rw [c]; rfl
    simp only [dSeq, dIf, dB, dAnd, dOr, dNot, dAsg, dOp, dVar, dC, dCB, dCons, dNil, dName, dRet, dRetN, dDrop, dNext, dIfE, dAndV, dOrV, dNotV, dUn, dSl, dNoPart, dPart, dPar, dPar3, dTup, dLst, dGTup, dGCons, dGNil, dChain, dIsN, dNotN, isN, dCont, dBreak, dGSub, dSeqI, items_lst, items_tup, dZip2, dZip3, dEnum, still_lst, still_tup, dFor, dFld, dLenOf, dM1, look_0, look_s, bind_ok, to_ok, then_nx, then_rt, then_ct, then_bk, turn_nx, turn_ct, turn_rt, turn_bk, run_rt, run_nx, onB_bl, okO_some, noX_ok, addD_int, subD_int, ltD_int, cmpD_int, fLe, fGe, fGt, intD_int, if_true, if_false, Bool.false_eq_true, Bool.not_true, Bool.not_false, List.set_cons_succ, List.set_cons_zero, ixD_lst, ixD_tup, lenD_lst, lenD_tup, List.length_cons, List.length_nil, isi_int_int, isi_int_bool, isi_int_str, isi_int_tuple, isi_int_list, isi_bl_int, isi_bl_bool, isi_bl_str, isi_bl_tuple, isi_bl_list, isi_str_int, isi_str_bool, isi_str_str, isi_str_tuple, isi_str_list, isi_tup_int, isi_tup_bool, isi_tup_str, isi_tup_tuple, isi_tup_list, isi_lst_int, isi_lst_bool, isi_lst_str, isi_lst_tuple, isi_lst_list, isi_non_int, isi_non_bool, isi_non_str, isi_non_tuple, isi_non_list, wipeD, dNever, chk_c, decide_true, decide_false, T_law_text_of, dLstM, chk_c (show (0 : Nat) ≤ 16777216 by decide), zip_q, e, ne, decide_eq_true c2, lit_0]
    exact fz_val rfl hc (cl _)
  · rw [if_neg c]
    have c2 : ¬ (posL xs ws).map (·.2) = [] := by simpa using c
    simp only [dSeq, dIf, dB, dAnd, dOr, dNot, dAsg, dOp, dVar, dC, dCB, dCons, dNil, dName, dRet, dRetN, dDrop, dNext, dIfE, dAndV, dOrV, dNotV, dUn, dSl, dNoPart, dPart, dPar, dPar3, dTup, dLst, dGTup, dGCons, dGNil, dChain, dIsN, dNotN, isN, dCont, dBreak, dGSub, dSeqI, items_lst, items_tup, dZip2, dZip3, dEnum, still_lst, still_tup, dFor, dFld, dLenOf, dM1, look_0, look_s, bind_ok, to_ok, then_nx, then_rt, then_ct, then_bk, turn_nx, turn_ct, turn_rt, turn_bk, run_rt, run_nx, onB_bl, okO_some, noX_ok, addD_int, subD_int, ltD_int, cmpD_int, fLe, fGe, fGt, intD_int, if_true, if_false, Bool.false_eq_true, Bool.not_true, Bool.not_false, List.set_cons_succ, List.set_cons_zero, ixD_lst, ixD_tup, lenD_lst, lenD_tup, List.length_cons, List.length_nil, isi_int_int, isi_int_bool, isi_int_str, isi_int_tuple, isi_int_list, isi_bl_int, isi_bl_bool, isi_bl_str, isi_bl_tuple, isi_bl_list, isi_str_int, isi_str_bool, isi_str_str, isi_str_tuple, isi_str_list, isi_tup_int, isi_tup_bool, isi_tup_str, isi_tup_tuple, isi_tup_list, isi_lst_int, isi_lst_bool, isi_lst_str, isi_lst_tuple, isi_lst_list, isi_non_int, isi_non_bool, isi_non_str, isi_non_tuple, isi_non_list, wipeD, dNever, chk_c, decide_true, decide_false, T_law_text_of, dLstM, chk_c (show (0 : Nat) ≤ 16777216 by decide), zip_q, e, ne, decide_eq_false c2, jn]
    exact fz_val rfl hc (cl _)
end
end Lw

namespace Lw
open PySem L2 DX Pa
/-! ### loose texts -/
theorem draw_app {b : Nat} {ν τ : Mu} {many : Int} (hb : HasBox b ν) (h1 : 1 ≤ many) (h2 : many < 1073741824) : ∃ n ν', f_law_draw [.cell b, .int many] (ν ++ τ) = .ok (.int n) (ν' ++ τ) ∧ 0 ≤ n ∧ n < many ∧ Nx b ν ν' := by
  obtain ⟨n, μ', e, n0, n1, k⟩ := draw_nx (b := b) (μ := ν ++ τ) (many := many) hb.app h1 h2
  obtain ⟨ν', rfl, k'⟩ := k.app hb.lt
  exact ⟨n, ν', e, n0, n1, k'⟩
theorem get_last2 {ν : Mu} {A B : MO} {n : Nat} (h : ν.length = n) : (ν ++ [A, B])[n + 1]? = some B ∧ (ν ++ [A, B])[n]? = some A := by
  rw [← h]
  constructor
  · rw [List.getElem?_append_right (by omega)]
    have : ν.length + 1 - ν.length = 1 := by omega
    rw [this]
    rfl
  · rw [List.getElem?_append_right (by omega), Nat.sub_self]
    rfl
theorem set_last2 {ν : Mu} {A B B' : MO} {n : Nat} (h : ν.length = n) : (ν ++ [A, B]).set (n + 1) B' = ν ++ [A, B'] := by
  rw [← h, List.set_append_right _ _ (by omega)]
  have : ν.length + 1 - ν.length = 1 := by omega
  rw [this]
  rfl
section
variable {b n : Nat} {ν : Mu} {d1 d2 d3 : Option D}
/-- parts.append((many, thing)), perhaps -/
theorem part_step {x5 x7 x9 x10 x11 x12 : Option D} {w : List Nat} {m : Int} {ps : Pairs} (hb : HasBox b ν) (hn : ν.length = n) (h0 : 0 ≤ m) (hl : ps.length ≤ 1000) :
    ∃ ν' qs, B1_law_loose [some (.cell b), d1, d2, d3, some (.cell n), x5, some (sD w), x7, some (.int m), x9, x10, x11, x12] (ν ++ [.lst (ps.map qD)]) = .nx [some (.cell b), d1, d2, d3, some (.cell n), x5, some (sD w), x7, some (.int m), x9, x10, x11, x12] (ν' ++ [.lst ((ps ++ qs).map qD)]) ∧ Nx b ν ν' ∧ (qs = [(w, m)] ∨ (qs = [] ∧ m = 0)) := by
  have app : ∀ ν' : Mu, ν'.length = n → dDrop (dAppend (dVar 4) (dCons (dTup (dCons (dVar 8) (dCons (dVar 6) dNil))) dNil)) [some (.cell b), d1, d2, d3, some (.cell n), x5, some (sD w), x7, some (.int m), x9, x10, x11, x12] (ν' ++ [.lst (ps.map qD)]) = .nx [some (.cell b), d1, d2, d3, some (.cell n), x5, some (sD w), x7, some (.int m), x9, x10, x11, x12] (ν' ++ [.lst ((ps ++ [(w, m)]).map qD)]) := by
    intro ν' hn'
    have et : dCons (dTup (dCons (dVar 8) (dCons (dVar 6) dNil))) dNil [some (.cell b), d1, d2, d3, some (.cell n), x5, some (sD w), x7, some (.int m), x9, x10, x11, x12] (ν' ++ [.lst (ps.map qD)]) = .ok [qD (w, m)] (ν' ++ [.lst (ps.map qD)]) := by
      simp only [dSeq, dIf, dB, dAnd, dOr, dNot, dAsg, dOp, dVar, dC, dCB, dCons, dNil, dName, dRet, dRetN, dDrop, dNext, dIfE, dAndV, dOrV, dNotV, dUn, dSl, dNoPart, dPart, dPar, dPar3, dTup, dLst, dGTup, dGCons, dGNil, dChain, dIsN, dNotN, isN, dCont, dBreak, dGSub, dSeqI, items_lst, items_tup, dZip2, dZip3, dEnum, still_lst, still_tup, dFor, dFld, dLenOf, dM1, look_0, look_s, bind_ok, to_ok, then_nx, then_rt, then_ct, then_bk, turn_nx, turn_ct, turn_rt, turn_bk, run_rt, run_nx, onB_bl, okO_some, noX_ok, addD_int, subD_int, ltD_int, cmpD_int, fLe, fGe, fGt, intD_int, if_true, if_false, Bool.false_eq_true, Bool.not_true, Bool.not_false, List.set_cons_succ, List.set_cons_zero, ixD_lst, ixD_tup, lenD_lst, lenD_tup, List.length_cons, List.length_nil, isi_int_int, isi_int_bool, isi_int_str, isi_int_tuple, isi_int_list, isi_bl_int, isi_bl_bool, isi_bl_str, isi_bl_tuple, isi_bl_list, isi_str_int, isi_str_bool, isi_str_str, isi_str_tuple, isi_str_list, isi_tup_int, isi_tup_bool, isi_tup_str, isi_tup_tuple, isi_tup_list, isi_lst_int, isi_lst_bool, isi_lst_str, isi_lst_tuple, isi_lst_list, isi_non_int, isi_non_bool, isi_non_str, isi_non_tuple, isi_non_list, wipeD, dNever, chk_c, decide_true, decide_false, chk_c (show (0 + 1 + 1 : Nat) ≤ 16777216 by decide)]
      rfl
    have ea := append_ok (To := dVar 4) (η := [some (.cell b), d1, d2, d3, some (.cell n), x5, some (sD w), x7, some (.int m), x9, x10, x11, x12]) (μ := ν' ++ [.lst (ps.map qD)]) rfl (last_get hn') et (last_get hn') (by rw [List.length_map]; omega)
    rw [last_set hn'] at ea
    simp only [dDrop, ea, to_ok, List.map_append]
    rfl
  by_cases c : 0 < m
  · refine ⟨ν, [(w, m)], ?_, .refl, .inl rfl⟩
    have := app ν hn
    simp only [B1_law_loose, dIf, dOr, dB, dOp, dVar, dC, look_0, look_s, bind_ok, cmpD_int, fGt, decide_eq_true c, onB_bl, if_true, to_ok]
    exact this
  · have m0 : m = 0 := by omega
    obtain ⟨k, ν', e, k0, k1, nx⟩ := draw_app (τ := [.lst (ps.map qD)]) (many := 6) hb (by decide) (by decide)
    by_cases ck : k = 0
    · refine ⟨ν', [(w, m)], ?_, nx, .inl rfl⟩
      have := app ν' (by rw [nx.len]; exact hn)
      simp only [B1_law_loose, dIf, dOr, dB, dOp, dVar, dC, dCB, dCons, dNil, look_0, look_s, bind_ok, cmpD_int, fGt, decide_eq_false c, onB_bl, Bool.false_eq_true, if_false, if_true, to_ok, e, eqD_int, beq_iff_eq.mpr ck]
      exact this
    · refine ⟨ν', [], ?_, nx, .inr ⟨rfl, m0⟩⟩
      rw [List.append_nil]
      simp only [dSeq, dIf, dB, dAnd, dOr, dNot, dAsg, dOp, dVar, dC, dCB, dCons, dNil, dName, dRet, dRetN, dDrop, dNext, dIfE, dAndV, dOrV, dNotV, dUn, dSl, dNoPart, dPart, dPar, dPar3, dTup, dLst, dGTup, dGCons, dGNil, dChain, dIsN, dNotN, isN, dCont, dBreak, dGSub, dSeqI, items_lst, items_tup, dZip2, dZip3, dEnum, still_lst, still_tup, dFor, dFld, dLenOf, dM1, look_0, look_s, bind_ok, to_ok, then_nx, then_rt, then_ct, then_bk, turn_nx, turn_ct, turn_rt, turn_bk, run_rt, run_nx, onB_bl, okO_some, noX_ok, addD_int, subD_int, ltD_int, cmpD_int, fLe, fGe, fGt, intD_int, if_true, if_false, Bool.false_eq_true, Bool.not_true, Bool.not_false, List.set_cons_succ, List.set_cons_zero, ixD_lst, ixD_tup, lenD_lst, lenD_tup, List.length_cons, List.length_nil, isi_int_int, isi_int_bool, isi_int_str, isi_int_tuple, isi_int_list, isi_bl_int, isi_bl_bool, isi_bl_str, isi_bl_tuple, isi_bl_list, isi_str_int, isi_str_bool, isi_str_str, isi_str_tuple, isi_str_list, isi_tup_int, isi_tup_bool, isi_tup_str, isi_tup_tuple, isi_tup_list, isi_lst_int, isi_lst_bool, isi_lst_str, isi_lst_tuple, isi_lst_list, isi_non_int, isi_non_bool, isi_non_str, isi_non_tuple, isi_non_list, wipeD, dNever, chk_c, decide_true, decide_false, B1_law_loose, decide_eq_false c, e, eqD_int, beq_eq_false_iff_ne.mpr ck]
structure PartsOk (ws : List (List Nat)) (done ps : Pairs) : Prop where
  cnt : ∀ w, Lw.cnt ps w = Lw.cnt done w
  mem : ∀ p ∈ ps, p.1 ∈ ws ∧ 0 ≤ p.2 ∧ p.2 ≤ 60
  len : ps.length ≤ 2 * done.length
theorem PartsOk.add {ws : List (List Nat)} {done ps qs1 qs2 : Pairs} {w : List Nat} {f c : Int} (h : PartsOk ws done ps) (hw : w ∈ ws) (f0 : 0 ≤ f) (f1 : f ≤ c) (c1 : c ≤ 60) (h1 : qs1 = [(w, f)] ∨ (qs1 = [] ∧ f = 0)) (h2 : qs2 = [(w, c - f)] ∨ (qs2 = [] ∧ c - f = 0)) : PartsOk ws (done ++ [(w, c)]) (ps ++ qs1 ++ qs2) where
  cnt := fun v => by
    rw [cnt_app, cnt_app, cnt_app, h.cnt v, cnt_cons, cnt_nil]
    have e1 : Lw.cnt qs1 v = if w = v then f else 0 := by
      rcases h1 with rfl | ⟨rfl, rfl⟩
      · rw [cnt_cons, cnt_nil, Int.add_zero]
      · rw [cnt_nil]; split <;> rfl
    have e2 : Lw.cnt qs2 v = if w = v then c - f else 0 := by
      rcases h2 with rfl | ⟨rfl, z⟩
      · rw [cnt_cons, cnt_nil, Int.add_zero]
      · rw [cnt_nil, z]; split <;> rfl
    rw [e1, e2]
    show _ = _ + ((if w = v then c else 0) + 0)
    split <;> omega
  mem := fun p hp => by
    rcases List.mem_append.mp hp with hp | hp
    · rcases List.mem_append.mp hp with hp | hp
      · exact h.mem p hp
      · rcases h1 with rfl | ⟨rfl, _⟩
        · rw [List.mem_singleton.mp hp]; exact ⟨hw, f0, by show f ≤ 60; omega⟩
        · cases hp
    · rcases h2 with rfl | ⟨rfl, _⟩
      · rw [List.mem_singleton.mp hp]; exact ⟨hw, by show 0 ≤ c - f; omega, by show c - f ≤ 60; omega⟩
      · cases hp
  len := by
    have l1 : qs1.length ≤ 1 := by rcases h1 with rfl | ⟨rfl, _⟩ <;> simp
    have l2 : qs2.length ≤ 1 := by rcases h2 with rfl | ⟨rfl, _⟩ <;> simp
    have := h.len
    rw [List.length_append, List.length_append, List.length_append, List.length_cons, List.length_nil]
    omega
theorem forR_cons {G : DG} {T : DS} {x : D} {r : List D} {η : DX.Env} {μ : Mu} : forR G T (x :: r) η μ = (G x η μ).to η fun η' μ' => (T η' μ').turn (forR G T r) := rfl
theorem parts_ok {xs : List Int} {ws : List (List Nat)} {μ : Mu} {deep : Int} (h : Bd xs ws) (hb : HasBox b μ) :
    ∃ η' ν ps, forR (dGTup 2 (dGCons (dName 5) (dGCons (dName 6) dGNil))) B2_law_loose ((ws.zip xs).map qD) [some (.cell b), some (.tup (iD xs)), some (.lst (ws.map sD)), some (.int deep), some (.cell μ.length), none, none, none, none, none, none, none, none] (μ ++ [.lst []]) = .nx η' (ν ++ [.lst (ps.map qD)]) ∧ Nx b μ ν ∧ PartsOk ws (ws.zip xs) ps ∧ ∃ x5 x6 x7 x8, η' = [some (.cell b), some (.tup (iD xs)), some (.lst (ws.map sD)), some (.int deep), some (.cell μ.length), x5, x6, x7, x8, none, none, none, none] := by
  have lz : (ws.zip xs).length ≤ 4 := by
    rw [List.length_zip]
    have := h.few
    omega
  obtain ⟨η', μ', e, done, rest, ν, ps, hd, hr, rfl, hk, hp, x5, x6, x7, x8, rfl⟩ := forR_go (G := dGTup 2 (dGCons (dName 5) (dGCons (dName 6) dGNil))) (T := B2_law_loose)
    (fun r η μ' => ∃ done rest ν ps, ws.zip xs = done ++ rest ∧ r = rest.map qD ∧ μ' = ν ++ [.lst (ps.map qD)] ∧ Nx b μ ν ∧ PartsOk ws done ps ∧ ∃ x5 x6 x7 x8, η = [some (.cell b), some (.tup (iD xs)), some (.lst (ws.map sD)), some (.int deep), some (.cell μ.length), x5, x6, x7, x8, none, none, none, none])
    (fun x r η μ' hI => by
      obtain ⟨done, rest, ν, ps, hd, hr, rfl, hk, hp, x5, x6, x7, x8, rfl⟩ := hI
      cases rest with
      | nil => cases hr
      | cons p rest =>
        obtain ⟨rfl, rfl⟩ := List.cons.inj hr
        obtain ⟨w, c⟩ := p
        have hm : (w, c) ∈ ws.zip xs := by rw [hd]; simp
        obtain ⟨q1, q2⟩ := zip_mem hm
        have hx := h.lo c q2
        have ld := congrArg List.length hd
        rw [List.length_append] at ld
        have lp := hp.len
        obtain ⟨f, ν1, e1, f0, f1, k1⟩ := draw_app (τ := [.lst (ps.map qD)]) (many := c + 1) (hk.box hb) (by omega) (by omega)
        have kk1 := hk.trans k1
        obtain ⟨ν2, qs1, e2, k2, hq1⟩ := part_step (d1 := some (.tup (iD xs))) (d2 := some (.lst (ws.map sD))) (d3 := some (.int deep)) (x5 := some (.int c)) (x7 := some (.int f)) (x9 := none) (x10 := none) (x11 := none) (x12 := none) (w := w) (m := f) (ps := ps) (kk1.box hb) kk1.len f0 (by omega)
        have kk2 := kk1.trans k2
        have lq1 : qs1.length ≤ 1 := by rcases hq1 with rfl | ⟨rfl, _⟩ <;> simp
        obtain ⟨ν3, qs2, e3, k3, hq2⟩ := part_step (d1 := some (.tup (iD xs))) (d2 := some (.lst (ws.map sD))) (d3 := some (.int deep)) (x5 := some (.int c)) (x7 := some (.int f)) (x9 := none) (x10 := none) (x11 := none) (x12 := none) (w := w) (m := c - f) (ps := ps ++ qs1) (kk2.box hb) kk2.len (by omega) (by rw [List.length_append]; omega)
        have kk3 := kk2.trans k3
        refine ⟨[some (.cell b), some (.tup (iD xs)), some (.lst (ws.map sD)), some (.int deep), some (.cell μ.length), some (.int c), some (sD w), x7, x8, none, none, none, none], ν ++ [.lst (ps.map qD)], [some (.cell b), some (.tup (iD xs)), some (.lst (ws.map sD)), some (.int deep), some (.cell μ.length), some (.int c), some (sD w), some (.int f), some (.int (c - f)), none, none, none, none], ν3 ++ [.lst ((ps ++ qs1 ++ qs2).map qD)], rfl, .inl ?_, done ++ [(w, c)], rest, ν3, ps ++ qs1 ++ qs2, by rw [hd]; simp, rfl, rfl, kk3, hp.add q1 f0 (by omega) hx.2 hq1 hq2, _, _, _, _, rfl⟩
        simp only [B2_law_loose, dSeq, dAsg, dCB, dCons, dNil, dVar, dC, dOp, look_0, look_s, bind_ok, addD_int, e1, to_ok, dName, List.set_cons_succ, List.set_cons_zero, then_nx, dFor, dSeqI, dTup, subD_int, List.length_cons, List.length_nil, chk_c (show (0 + 1 + 1 : Nat) ≤ 16777216 by decide), items_tup, okO_some, forR_cons, e2, turn_nx, e3]
        rfl)
    ((ws.zip xs).map qD) [some (.cell b), some (.tup (iD xs)), some (.lst (ws.map sD)), some (.int deep), some (.cell μ.length), none, none, none, none, none, none, none, none] (μ ++ [.lst []]) ⟨[], ws.zip xs, μ, [], rfl, rfl, rfl, .refl, ⟨fun _ => rfl, (fun p hp => by cases hp), by simp⟩, _, _, _, _, rfl⟩
  have hrest : rest = [] := by simpa using hr.symm
  rw [hrest, List.append_nil] at hd
  rw [← hd] at hp
  exact ⟨_, ν, ps, e, hk, hp, x5, x6, x7, x8, rfl⟩
end
end Lw

namespace Lw
open PySem L2 DX Pa
theorem flat_reps (k c : Nat) : (List.replicate k [c]).flatten = reps k c := by
  induction k with
  | zero => rfl
  | succ k ih => rw [List.replicate_succ, List.flatten_cons, ih]; rfl
theorem mul_reps {c : Nat} {k : Int} {μ : Mu} (h0 : 0 ≤ k) (h1 : k ≤ 1000) : mulD (sD [c]) (.int k) μ = .ok (sD (reps k.toNat c)) μ := by
  rw [sD_mul (by omega) h1 (by simp), flat_reps]
theorem reps_sg {k c : Nat} (h : c < 1114112) : Sg (reps k c) := fun x hx => by rw [List.eq_of_mem_replicate hx]; exact h
theorem Sg.app {a b : List Nat} (h : Sg a) (k : Sg b) : Sg (a ++ b) := fun c hc => (List.mem_append.mp hc).elim (h c) (k c)
/-- a word that the law writes -/
structure WOk (deep : Int) (p : List Nat × Int) (t : List Nat) : Prop where
  wrd : Wrd deep.toNat (p, t)
  len : t.length ≤ 30
  sg : Sg t
  no : 40 ∉ t → Wrd 0 (p, t)
theorem core_len {p : List Nat × Int} {t : List Nat} (h : Core p t) : t.length ≤ 9 ∧ Sg t := by
  obtain ⟨hw, h0, h1, h2⟩ := h
  have l := hw.2.1
  have s := hw.2.2.sg
  rcases h2 with ⟨_, rfl⟩ | rfl
  · exact ⟨by omega, s⟩
  · refine ⟨?_, ?_⟩
    · rw [List.length_append, List.length_cons]
      have : (dg p.2.toNat).length ≤ 2 := by unfold dg; split <;> simp
      omega
    · intro c hc
      rcases List.mem_append.mp hc with hc | hc
      · have := dg_G (n := p.2.toNat) (by omega) c hc
        unfold isG at this
        simp only [Bool.and_eq_true, decide_eq_true_eq] at this
        omega
      · rcases List.mem_cons.mp hc with rfl | hc
        · decide
        · exact s c hc
section
variable {b n : Nat} {ν : Mu} {d1 d2 : Option D}
theorem word_step {x5 x7 x9 x11 x12 : Option D} {deep : Int} {p : List Nat × Int} {A : MO} {ts : List (List Nat)} (hb : HasBox b ν) (hn : ν.length = n) (hw : Nm p.1) (h0 : 0 ≤ p.2) (h1 : p.2 ≤ 60) (hd0 : 0 ≤ deep) (hd1 : deep ≤ 8) (hl : ts.length ≤ 1000) :
    ∃ ν' t y11, B3_law_loose [some (.cell b), d1, d2, some (.int deep), some (.cell n), x5, some (sD p.1), x7, some (.int p.2), x9, some (.cell (n + 1)), x11, x12] (ν ++ [A, .lst (ts.map sD)]) = .nx [some (.cell b), d1, d2, some (.int deep), some (.cell n), x5, some (sD p.1), x7, some (.int p.2), x9, some (.cell (n + 1)), y11, x12] (ν' ++ [A, .lst ((ts ++ [t]).map sD)]) ∧ Nx b ν ν' ∧ WOk deep p t := by
  have l := hw.2.1
  have ld : (dg p.2.toNat).length ≤ 2 := by unfold dg; split <;> simp
  -- the word itself
  obtain ⟨ν1, t0, e1, k1, hc⟩ : ∃ ν1 t0, dIfE (dAnd (dB (dOp eqD (dVar 8) (dC (.int 1)))) (dB (dOp eqD (dCB f_law_draw (dCons (dVar 0) (dCons (dC (.int 2)) dNil))) (dC (.int 0))))) (dVar 6) (dOp addD (dOp addD (dCB strD (dCons (dVar 8) dNil)) (dC (.str " "))) (dVar 6)) [some (.cell b), d1, d2, some (.int deep), some (.cell n), x5, some (sD p.1), x7, some (.int p.2), x9, some (.cell (n + 1)), x11, x12] (ν ++ [A, .lst (ts.map sD)]) = .ok (sD t0) (ν1 ++ [A, .lst (ts.map sD)]) ∧ Nx b ν ν1 ∧ Core p t0 := by
    have a1 : ∀ μ : Mu, addD (sD (dg p.2.toNat)) (sD [32]) μ = .ok (sD (dg p.2.toNat ++ [32])) μ := fun μ => sD_add (by simp only [List.length_cons, List.length_nil]; omega)
    have a2 : ∀ μ : Mu, addD (sD (dg p.2.toNat ++ [32])) (sD p.1) μ = .ok (sD (dg p.2.toNat ++ [32] ++ p.1)) μ := fun μ => sD_add (by simp only [List.length_append, List.length_cons, List.length_nil]; omega)
    have c2 : Core p (dg p.2.toNat ++ [32] ++ p.1) := ⟨hw, h0, h1, .inr (by simp)⟩
    by_cases c : p.2 = 1
    · obtain ⟨k, ν1, e, k0, kl, nx⟩ := draw_app (τ := [A, .lst (ts.map sD)]) (many := 2) hb (by decide) (by decide)
      by_cases ck : k = 0
      · refine ⟨ν1, p.1, ?_, nx, hw, h0, h1, .inl ⟨c, rfl⟩⟩
        simp only [dSeq, dIf, dB, dAnd, dOr, dNot, dAsg, dOp, dVar, dC, dCB, dCons, dNil, dName, dRet, dRetN, dDrop, dNext, dIfE, dAndV, dOrV, dNotV, dUn, dSl, dNoPart, dPart, dPar, dPar3, dTup, dLst, dGTup, dGCons, dGNil, dChain, dIsN, dNotN, isN, dCont, dBreak, dGSub, dSeqI, items_lst, items_tup, dZip2, dZip3, dEnum, still_lst, still_tup, dFor, dFld, dLenOf, dM1, look_0, look_s, bind_ok, to_ok, then_nx, then_rt, then_ct, then_bk, turn_nx, turn_ct, turn_rt, turn_bk, run_rt, run_nx, onB_bl, okO_some, noX_ok, addD_int, subD_int, ltD_int, cmpD_int, fLe, fGe, fGt, intD_int, if_true, if_false, Bool.false_eq_true, Bool.not_true, Bool.not_false, List.set_cons_succ, List.set_cons_zero, ixD_lst, ixD_tup, lenD_lst, lenD_tup, List.length_cons, List.length_nil, isi_int_int, isi_int_bool, isi_int_str, isi_int_tuple, isi_int_list, isi_bl_int, isi_bl_bool, isi_bl_str, isi_bl_tuple, isi_bl_list, isi_str_int, isi_str_bool, isi_str_str, isi_str_tuple, isi_str_list, isi_tup_int, isi_tup_bool, isi_tup_str, isi_tup_tuple, isi_tup_list, isi_lst_int, isi_lst_bool, isi_lst_str, isi_lst_tuple, isi_lst_list, isi_non_int, isi_non_bool, isi_non_str, isi_non_tuple, isi_non_list, wipeD, dNever, chk_c, decide_true, decide_false, eqD_int, beq_iff_eq.mpr c, e, beq_iff_eq.mpr ck]
      · refine ⟨ν1, _, ?_, nx, c2⟩
        simp only [dSeq, dIf, dB, dAnd, dOr, dNot, dAsg, dOp, dVar, dC, dCB, dCons, dNil, dName, dRet, dRetN, dDrop, dNext, dIfE, dAndV, dOrV, dNotV, dUn, dSl, dNoPart, dPart, dPar, dPar3, dTup, dLst, dGTup, dGCons, dGNil, dChain, dIsN, dNotN, isN, dCont, dBreak, dGSub, dSeqI, items_lst, items_tup, dZip2, dZip3, dEnum, still_lst, still_tup, dFor, dFld, dLenOf, dM1, look_0, look_s, bind_ok, to_ok, then_nx, then_rt, then_ct, then_bk, turn_nx, turn_ct, turn_rt, turn_bk, run_rt, run_nx, onB_bl, okO_some, noX_ok, addD_int, subD_int, ltD_int, cmpD_int, fLe, fGe, fGt, intD_int, if_true, if_false, Bool.false_eq_true, Bool.not_true, Bool.not_false, List.set_cons_succ, List.set_cons_zero, ixD_lst, ixD_tup, lenD_lst, lenD_tup, List.length_cons, List.length_nil, isi_int_int, isi_int_bool, isi_int_str, isi_int_tuple, isi_int_list, isi_bl_int, isi_bl_bool, isi_bl_str, isi_bl_tuple, isi_bl_list, isi_str_int, isi_str_bool, isi_str_str, isi_str_tuple, isi_str_list, isi_tup_int, isi_tup_bool, isi_tup_str, isi_tup_tuple, isi_tup_list, isi_lst_int, isi_lst_bool, isi_lst_str, isi_lst_tuple, isi_lst_list, isi_non_int, isi_non_bool, isi_non_str, isi_non_tuple, isi_non_list, wipeD, dNever, chk_c, decide_true, decide_false, eqD_int, beq_iff_eq.mpr c, e, beq_eq_false_iff_ne.mpr ck, strD_dg h0 h1, lit_sp, a1, a2]
    · refine ⟨ν, _, ?_, .refl, c2⟩
      simp only [dSeq, dIf, dB, dAnd, dOr, dNot, dAsg, dOp, dVar, dC, dCB, dCons, dNil, dName, dRet, dRetN, dDrop, dNext, dIfE, dAndV, dOrV, dNotV, dUn, dSl, dNoPart, dPart, dPar, dPar3, dTup, dLst, dGTup, dGCons, dGNil, dChain, dIsN, dNotN, isN, dCont, dBreak, dGSub, dSeqI, items_lst, items_tup, dZip2, dZip3, dEnum, still_lst, still_tup, dFor, dFld, dLenOf, dM1, look_0, look_s, bind_ok, to_ok, then_nx, then_rt, then_ct, then_bk, turn_nx, turn_ct, turn_rt, turn_bk, run_rt, run_nx, onB_bl, okO_some, noX_ok, addD_int, subD_int, ltD_int, cmpD_int, fLe, fGe, fGt, intD_int, if_true, if_false, Bool.false_eq_true, Bool.not_true, Bool.not_false, List.set_cons_succ, List.set_cons_zero, ixD_lst, ixD_tup, lenD_lst, lenD_tup, List.length_cons, List.length_nil, isi_int_int, isi_int_bool, isi_int_str, isi_int_tuple, isi_int_list, isi_bl_int, isi_bl_bool, isi_bl_str, isi_bl_tuple, isi_bl_list, isi_str_int, isi_str_bool, isi_str_str, isi_str_tuple, isi_str_list, isi_tup_int, isi_tup_bool, isi_tup_str, isi_tup_tuple, isi_tup_list, isi_lst_int, isi_lst_bool, isi_lst_str, isi_lst_tuple, isi_lst_list, isi_non_int, isi_non_bool, isi_non_str, isi_non_tuple, isi_non_list, wipeD, dNever, chk_c, decide_true, decide_false, eqD_int, beq_eq_false_iff_ne.mpr c, strD_dg h0 h1, lit_sp, a1, a2]
  obtain ⟨tl, ts0⟩ := core_len hc
  -- with parentheses or without
  obtain ⟨k, ν2, e2, k0, kl, nx2⟩ := draw_app (τ := [A, .lst (ts.map sD)]) (many := 4) (k1.box hb) (by decide) (by decide)
  have hn2 : ν2.length = n := by rw [nx2.len, k1.len]; exact hn
  obtain ⟨t, et, hwk⟩ : ∃ t, dCons (dIfE (dB (dOp eqD (dCB f_law_draw (dCons (dVar 0) (dCons (dC (.int 4)) dNil))) (dC (.int 0)))) (dOp addD (dOp addD (dOp mulD (dC (.str "(")) (dVar 3)) (dVar 11)) (dOp mulD (dC (.str ")")) (dVar 3))) (dVar 11)) dNil [some (.cell b), d1, d2, some (.int deep), some (.cell n), x5, some (sD p.1), x7, some (.int p.2), x9, some (.cell (n + 1)), some (sD t0), x12] (ν1 ++ [A, .lst (ts.map sD)]) = .ok [sD t] (ν2 ++ [A, .lst (ts.map sD)]) ∧ WOk deep p t := by
    have lr : ∀ c, (reps deep.toNat c).length = deep.toNat := fun c => List.length_replicate ..
    by_cases ck : k = 0
    · have a1 : ∀ μ : Mu, addD (sD (reps deep.toNat 40)) (sD t0) μ = .ok (sD (reps deep.toNat 40 ++ t0)) μ := fun μ => sD_add (by rw [lr]; omega)
      have a2 : ∀ μ : Mu, addD (sD (reps deep.toNat 40 ++ t0)) (sD (reps deep.toNat 41)) μ = .ok (sD (reps deep.toNat 40 ++ t0 ++ reps deep.toNat 41)) μ := fun μ => sD_add (by rw [List.length_append, lr, lr]; omega)
      refine ⟨reps deep.toNat 40 ++ t0 ++ reps deep.toNat 41, ?_, ⟨deep.toNat, t0, Nat.le_refl _, hc, rfl⟩, ?_, Sg.app (Sg.app (reps_sg (c := 40) (by decide)) ts0) (reps_sg (c := 41) (by decide)), fun hno => ?_⟩
      · simp only [dSeq, dIf, dB, dAnd, dOr, dNot, dAsg, dOp, dVar, dC, dCB, dCons, dNil, dName, dRet, dRetN, dDrop, dNext, dIfE, dAndV, dOrV, dNotV, dUn, dSl, dNoPart, dPart, dPar, dPar3, dTup, dLst, dGTup, dGCons, dGNil, dChain, dIsN, dNotN, isN, dCont, dBreak, dGSub, dSeqI, items_lst, items_tup, dZip2, dZip3, dEnum, still_lst, still_tup, dFor, dFld, dLenOf, dM1, look_0, look_s, bind_ok, to_ok, then_nx, then_rt, then_ct, then_bk, turn_nx, turn_ct, turn_rt, turn_bk, run_rt, run_nx, onB_bl, okO_some, noX_ok, addD_int, subD_int, ltD_int, cmpD_int, fLe, fGe, fGt, intD_int, if_true, if_false, Bool.false_eq_true, Bool.not_true, Bool.not_false, List.set_cons_succ, List.set_cons_zero, ixD_lst, ixD_tup, lenD_lst, lenD_tup, List.length_cons, List.length_nil, isi_int_int, isi_int_bool, isi_int_str, isi_int_tuple, isi_int_list, isi_bl_int, isi_bl_bool, isi_bl_str, isi_bl_tuple, isi_bl_list, isi_str_int, isi_str_bool, isi_str_str, isi_str_tuple, isi_str_list, isi_tup_int, isi_tup_bool, isi_tup_str, isi_tup_tuple, isi_tup_list, isi_lst_int, isi_lst_bool, isi_lst_str, isi_lst_tuple, isi_lst_list, isi_non_int, isi_non_bool, isi_non_str, isi_non_tuple, isi_non_list, wipeD, dNever, chk_c, decide_true, decide_false, e2, eqD_int, beq_iff_eq.mpr ck, lit_op, lit_cl, mul_reps hd0 (show deep ≤ 1000 by omega), a1, a2]
      · rw [List.length_append, List.length_append, lr, lr]; omega
      · have dz : deep.toNat = 0 := by
          cases ed : deep.toNat with
          | zero => rfl
          | succ z =>
            refine absurd ?_ hno
            rw [ed]
            simp [reps, List.replicate_succ]
        refine ⟨0, t0, Nat.le_refl _, hc, ?_⟩
        rw [dz]
    · refine ⟨t0, ?_, ⟨0, t0, Nat.zero_le _, hc, by simp⟩, by omega, ts0, fun _ => ⟨0, t0, Nat.le_refl _, hc, by simp⟩⟩
      simp only [dSeq, dIf, dB, dAnd, dOr, dNot, dAsg, dOp, dVar, dC, dCB, dCons, dNil, dName, dRet, dRetN, dDrop, dNext, dIfE, dAndV, dOrV, dNotV, dUn, dSl, dNoPart, dPart, dPar, dPar3, dTup, dLst, dGTup, dGCons, dGNil, dChain, dIsN, dNotN, isN, dCont, dBreak, dGSub, dSeqI, items_lst, items_tup, dZip2, dZip3, dEnum, still_lst, still_tup, dFor, dFld, dLenOf, dM1, look_0, look_s, bind_ok, to_ok, then_nx, then_rt, then_ct, then_bk, turn_nx, turn_ct, turn_rt, turn_bk, run_rt, run_nx, onB_bl, okO_some, noX_ok, addD_int, subD_int, ltD_int, cmpD_int, fLe, fGe, fGt, intD_int, if_true, if_false, Bool.false_eq_true, Bool.not_true, Bool.not_false, List.set_cons_succ, List.set_cons_zero, ixD_lst, ixD_tup, lenD_lst, lenD_tup, List.length_cons, List.length_nil, isi_int_int, isi_int_bool, isi_int_str, isi_int_tuple, isi_int_list, isi_bl_int, isi_bl_bool, isi_bl_str, isi_bl_tuple, isi_bl_list, isi_str_int, isi_str_bool, isi_str_str, isi_str_tuple, isi_str_list, isi_tup_int, isi_tup_bool, isi_tup_str, isi_tup_tuple, isi_tup_list, isi_lst_int, isi_lst_bool, isi_lst_str, isi_lst_tuple, isi_lst_list, isi_non_int, isi_non_bool, isi_non_str, isi_non_tuple, isi_non_list, wipeD, dNever, chk_c, decide_true, decide_false, e2, eqD_int, beq_eq_false_iff_ne.mpr ck]
  have ea := append_ok (To := dVar 10) (η := [some (.cell b), d1, d2, some (.int deep), some (.cell n), x5, some (sD p.1), x7, some (.int p.2), x9, some (.cell (n + 1)), some (sD t0), x12]) (μ := ν1 ++ [A, .lst (ts.map sD)]) rfl (get_last2 (by rw [k1.len]; exact hn)).1 et (get_last2 hn2).1 (by rw [List.length_map]; omega)
  rw [set_last2 hn2] at ea
  refine ⟨ν2, t, some (sD t0), ?_, k1.trans nx2, hwk⟩
  show (SR.then (dAsg _ _ _ _) (dDrop (dAppend (dVar 10) _))) = _
  simp only [dAsg, e1, to_ok, dName, List.set_cons_succ, List.set_cons_zero, then_nx, dDrop, ea, List.map_append]
  rfl
/-- the loop over the parts -/
theorem words_ok {μ ν : Mu} {x5 x6 x7 x8 x9 x12 : Option D} {deep : Int} {ws : List (List Nat)} {A : MO} {ps : Pairs} (hk : Nx b μ ν) (hb : HasBox b μ) (hps : ∀ p ∈ ps, Nm p.1 ∧ 0 ≤ p.2 ∧ p.2 ≤ 60) (hl : ps.length ≤ 100) (hd0 : 0 ≤ deep) (hd1 : deep ≤ 8) :
    ∃ η' ν' l, forR (dGTup 2 (dGCons (dName 8) (dGCons (dName 6) dGNil))) B3_law_loose (ps.map qD) [some (.cell b), d1, d2, some (.int deep), some (.cell μ.length), x5, x6, x7, x8, x9, some (.cell (μ.length + 1)), none, x12] (ν ++ [A, .lst []]) = .nx η' (ν' ++ [A, .lst ((l.map (·.2)).map sD)]) ∧ Nx b μ ν' ∧ (l : L1).map (·.1) = ps ∧ (∀ x ∈ l, WOk deep x.1 x.2) ∧ ∃ x6 x8 x11, η' = [some (.cell b), d1, d2, some (.int deep), some (.cell μ.length), x5, x6, x7, x8, x9, some (.cell (μ.length + 1)), x11, x12] := by
  obtain ⟨η', μ', e, done, rest, ν', l, hd, hr, rfl, hk', hm, hwk, x6', x8', x11', rfl⟩ := forR_go (G := dGTup 2 (dGCons (dName 8) (dGCons (dName 6) dGNil))) (T := B3_law_loose)
    (fun r η μ' => ∃ (done rest : Pairs) (ν' : Mu) (l : L1), ps = done ++ rest ∧ r = rest.map qD ∧ μ' = ν' ++ [A, .lst ((l.map (·.2)).map sD)] ∧ Nx b μ ν' ∧ l.map (·.1) = done ∧ (∀ x ∈ l, WOk deep x.1 x.2) ∧ ∃ x6 x8 x11, η = [some (.cell b), d1, d2, some (.int deep), some (.cell μ.length), x5, x6, x7, x8, x9, some (.cell (μ.length + 1)), x11, x12])
    (fun x r η μ' hI => by
      obtain ⟨done, rest, ν', l, hd, hr, rfl, hk', hm, hwk, y6, y8, y11, rfl⟩ := hI
      cases rest with
      | nil => cases hr
      | cons p rest =>
        obtain ⟨rfl, rfl⟩ := List.cons.inj hr
        obtain ⟨q1, q2, q3⟩ := hps p (by rw [hd]; simp)
        have ld := congrArg List.length hd
        rw [List.length_append] at ld
        have lm := congrArg List.length hm
        rw [List.length_map] at lm
        obtain ⟨ν2, t, z11, e1, k1, hw1⟩ := word_step (d1 := d1) (d2 := d2) (x5 := x5) (x7 := x7) (x9 := x9) (x11 := y11) (x12 := x12) (deep := deep) (p := p) (A := A) (ts := l.map (·.2)) (hk'.box hb) hk'.len q1 q2 q3 hd0 hd1 (by rw [List.length_map]; omega)
        refine ⟨[some (.cell b), d1, d2, some (.int deep), some (.cell μ.length), x5, some (sD p.1), x7, some (.int p.2), x9, some (.cell (μ.length + 1)), y11, x12], ν' ++ [A, .lst ((l.map (·.2)).map sD)], [some (.cell b), d1, d2, some (.int deep), some (.cell μ.length), x5, some (sD p.1), x7, some (.int p.2), x9, some (.cell (μ.length + 1)), z11, x12], ν2 ++ [A, .lst ((l.map (·.2) ++ [t]).map sD)], rfl, .inl e1, done ++ [p], rest, ν2, l ++ [(p, t)], by rw [hd]; simp, rfl, by rw [List.map_append (f := fun x : (List Nat × Int) × List Nat => x.2)]; rfl, hk'.trans k1, by rw [List.map_append, hm]; rfl, fun y hy => ?_, _, _, _, rfl⟩
        rcases List.mem_append.mp hy with hy | hy
        · exact hwk y hy
        · rw [List.mem_singleton.mp hy]; exact hw1)
    (ps.map qD) [some (.cell b), d1, d2, some (.int deep), some (.cell μ.length), x5, x6, x7, x8, x9, some (.cell (μ.length + 1)), none, x12] (ν ++ [A, .lst []]) ⟨[], ps, ν, [], rfl, rfl, rfl, hk, rfl, (fun x hx => by cases hx), _, _, _, rfl⟩
  have hrest : rest = [] := by simpa using hr.symm
  rw [hrest, List.append_nil] at hd
  rw [← hd] at hm
  exact ⟨_, ν', l, e, hk', hm, hwk, _, _, _, rfl⟩
end
end Lw

namespace Lw
open PySem L2 DX Pa
theorem lenD_cell {ν : Mu} {n : Nat} {xs : List D} (h : ν[n]? = some (.lst xs)) : lenD [.cell n] ν = .ok (.int xs.length) ν := by
  show okO (seqOf ν (.cell n)) _ = _
  simp only [seqOf, asL, h, okO_some]
theorem slD_cell {ν : Mu} {n : Nat} {xs : List D} {lo hi : Option Int} (h : ν[n]? = some (.lst xs)) : slD (.cell n) lo hi ν = .ok (.lst (cut xs lo hi)) ν := by
  show okO (asL ν (.cell n)) _ = _
  simp only [asL, h, okO_some]
theorem joinL_mem {S : List Nat} {c : Nat} : ∀ (l : List (List Nat)) (w : List Nat), w ∈ l → c ∈ w → c ∈ TL.joinL S l
  | [], w, h, _ => by cases h
  | [v], w, h, k => by
    rw [List.mem_singleton.mp h] at k
    exact k
  | v :: u :: r, w, h, k => by
    simp only [TL.joinL]
    rcases List.mem_cons.mp h with rfl | h
    · exact List.mem_append_left _ k
    · exact List.mem_append_right _ (List.mem_append_right _ (joinL_mem (u :: r) w h k))
/-- what is known of a loose text -/
structure Lo (xs : List Int) (ws : List (List Nat)) (t : List Nat) : Prop where
  len : t.length ≤ 2000
  sg : Sg t
  rd : ∃ ps, bundleP t = .ok ps [] ∧ (∀ p ∈ ps, p.1 ∈ ws) ∧ ws.map (cnt ps) = xs ∧ (40 ∉ t → bundleP (40 :: (t ++ [41])) = .ok ps [])
theorem lo_zero {xs : List Int} {ws : List (List Nat)} {k e : Nat} (hk : k ≤ 3) (he : e ≤ 8) (h : ws.map (cnt []) = xs) : Lo xs ws (sp k ++ reps e 40 ++ [48] ++ reps e 41 ++ sp k) := by
  refine ⟨?_, ?_, [], bundle_zero he, (fun p hp => by cases hp), h, fun hno => ?_⟩
  · simp only [List.length_append, List.length_replicate, List.length_cons, List.length_nil]; omega
  · exact Sg.app (Sg.app (Sg.app (Sg.app (reps_sg (by decide)) (reps_sg (by decide))) (sg1 (by decide))) (reps_sg (by decide))) (reps_sg (by decide))
  · cases e with
    | succ e => exact absurd (by simp [reps, List.replicate_succ]) hno
    | zero =>
      have := zero_par (p := k) (q := k)
      simpa using this
theorem lo_words {xs : List Int} {ws : List (List Nat)} {k j : Nat} {deep : Int} {l : L1} {ps : Pairs} (hk : k ≤ 3) (hj : j ≤ 3) (hd : 0 ≤ deep ∧ deep ≤ 8) (h0 : l ≠ []) (hl : l.length ≤ 20) (hm : l.map (·.1) = ps) (hw : ∀ x ∈ l, WOk deep x.1 x.2) (hp : ∀ p ∈ ps, p.1 ∈ ws) (hc : ws.map (cnt ps) = xs) :
    Lo xs ws (sp k ++ TL.joinL (sp k ++ [43] ++ sp j) (l.map (·.2)) ++ sp k) := by
  have es : sp k ++ [43] ++ sp j = sp k ++ 43 :: sp j := by simp
  rw [es]
  refine ⟨?_, ?_, ps, ?_, hp, hc, fun hno => ?_⟩
  · have q := joinL_len (S := sp k ++ 43 :: sp j) (a := 30) (l.map (·.2)) (fun w hw' => by
      obtain ⟨x, hx, rfl⟩ := List.mem_map.mp hw'
      exact (hw x hx).len)
    have ls : (sp k ++ 43 :: sp j).length ≤ 7 := by
      simp only [List.length_append, List.length_cons, List.length_replicate]; omega
    rw [List.length_map] at q
    have q2 : l.length * (30 + (sp k ++ 43 :: sp j).length) ≤ 20 * 37 := Nat.mul_le_mul hl (by omega)
    rw [List.length_append, List.length_append]
    simp only [List.length_replicate]
    omega
  · refine Sg.app (Sg.app (reps_sg (by decide)) (joinL_sg ?_ _ fun w hw' => ?_)) (reps_sg (by decide))
    · refine Sg.app (reps_sg (by decide)) fun c hc => ?_
      rcases List.mem_cons.mp hc with rfl | hc
      · decide
      · rw [List.eq_of_mem_replicate hc]; decide
    · obtain ⟨x, hx, rfl⟩ := List.mem_map.mp hw'
      exact (hw x hx).sg
  · rw [← hm]
    exact bundle_words (D := deep.toNat) h0 (by omega) (fun x hx => (hw x hx).wrd) (by omega)
  · rw [← hm]
    refine bundle_par h0 (by omega) fun x hx => (hw x hx).no fun z => hno ?_
    exact List.mem_append_left _ (List.mem_append_right _ (joinL_mem _ _ (List.mem_map.mpr ⟨x, hx, rfl⟩) z))
theorem loose_ok {b : Nat} {xs : List Int} {ws : List (List Nat)} {μ : Mu} {deep : Int} (h : Bd xs ws) (hb : HasBox b μ) (hc : Clean μ) (hd : 0 ≤ deep ∧ deep ≤ 8) :
    ∃ t μ', f_law_loose [.cell b, .tup (iD xs), .lst (ws.map sD), .int deep] μ = .ok (sD t) μ' ∧ Nx b μ μ' ∧ Lo xs ws t := by
  have e0 : f_law_loose [.cell b, .tup (iD xs), .lst (ws.map sD), .int deep] μ = fz μ (SR.run (T_law_loose [some (.cell b), some (.tup (iD xs)), some (.lst (ws.map sD)), some (.int deep), none, none, none, none, none, none, none, none, none] μ)) := defR_ok rfl
  obtain ⟨η1, ν, ps, e1, k1, hp, x5, x6, x7, x8, rfl⟩ := parts_ok (b := b) (deep := deep) h hb
  have lz : (ws.zip xs).length ≤ 4 := by
    rw [List.length_zip]
    have := h.few
    omega
  have lp := hp.len
  obtain ⟨turn, ν1, e2, t0, t1, k2⟩ := draw_app (τ := [.lst (ps.map qD)]) (many := (ps.length : Int) + 1) (k1.box hb) (by omega) (by omega)
  have kk1 := k1.trans k2
  let qs : Pairs := ps.drop turn.toNat ++ ps.take turn.toNat
  have hq : ∀ p ∈ qs, p ∈ ps := fun p hp' => by
    rcases List.mem_append.mp hp' with z | z
    · exact List.mem_of_mem_drop z
    · exact List.mem_of_mem_take z
  have lq : qs.length = ps.length := by
    show (ps.drop turn.toNat ++ ps.take turn.toNat).length = _
    rw [List.length_append, List.length_drop, List.length_take]
    omega
  have cq : ws.map (cnt qs) = xs := by
    have e : cnt qs = cnt (ws.zip xs) := by
      funext w
      rw [← hp.cnt w]
      show cnt (ps.drop turn.toNat ++ ps.take turn.toNat) w = _
      rw [cnt_app, Int.add_comm, ← cnt_app, List.take_append_drop]
    rw [e]
    exact cnt_zip ws xs h.nd h.len
  obtain ⟨η2, ν2, l, e3, k3, hm, hwk, y6, y8, y11, rfl⟩ := words_ok (b := b) (μ := μ) (ν := ν1) (d1 := some (.tup (iD xs))) (d2 := some (.lst (ws.map sD))) (x5 := x5) (x6 := x6) (x7 := x7) (x8 := x8) (x9 := some (.int turn)) (x12 := none) (deep := deep) (ws := ws) (A := .lst (ps.map qD)) (ps := qs) kk1 hb (fun p hp' => ⟨h.nm _ (hp.mem p (hq p hp')).1, (hp.mem p (hq p hp')).2⟩) (by omega) hd.1 hd.2
  have ll : l.length = ps.length := by
    have := congrArg List.length hm
    rw [List.length_map] at this
    omega
  obtain ⟨k, ν3, e4, s0, s1, k4⟩ := draw_app (τ := [.lst (ps.map qD), .lst ((l.map (·.2)).map sD)]) (many := 3) (k3.box hb) (by decide) (by decide)
  have kk3 := k3.trans k4
  have gW := get_last2 (ν := ν3) (A := .lst (ps.map qD)) (B := .lst ((l.map (·.2)).map sD)) kk3.len
  have eqw := eq_cell (ν := ν3 ++ [.lst (ps.map qD), .lst ((l.map (·.2)).map sD)]) (ts := l.map (·.2)) gW.1 (by rw [List.length_map]; omega) (fun t ht => by
    obtain ⟨x, hx, rfl⟩ := List.mem_map.mp ht
    exact (hwk x hx).sg)
  have cl : ∀ t, clean (sD t) = true := fun t => by simp [sD, DX.clean]
  have lr : ∀ n c, (reps n c).length = n := fun n c => List.length_replicate ..
  -- the first part of the run
  have add1 : addD (.lst ((ps.map qD).drop turn.toNat)) (.lst ((ps.map qD).take turn.toNat)) (ν1 ++ [.lst (ps.map qD), .lst []]) = .ok (.lst (qs.map qD)) (ν1 ++ [.lst (ps.map qD), .lst []]) := by
    rw [add_lstP (by rw [List.length_drop, List.length_take, List.length_map]; omega), ← List.map_drop, ← List.map_take, ← List.map_append]
  have gp := get_last2 (ν := ν1) (A := .lst (ps.map qD)) (B := .lst []) kk1.len
  have ln : (ν1 ++ [MO.lst (ps.map qD)]).length = μ.length + 1 := by rw [List.length_append, kk1.len]; rfl
  have ap : (ν1 ++ [MO.lst (ps.map qD)]) ++ [MO.lst []] = ν1 ++ [.lst (ps.map qD), .lst []] := by simp
  have run : T_law_loose [some (.cell b), some (.tup (iD xs)), some (.lst (ws.map sD)), some (.int deep), none, none, none, none, none, none, none, none, none] μ = S2_law_loose [some (.cell b), some (.tup (iD xs)), some (.lst (ws.map sD)), some (.int deep), some (.cell μ.length), x5, y6, x7, y8, some (.int turn), some (.cell (μ.length + 1)), y11, none] (ν2 ++ [.lst (ps.map qD), .lst ((l.map (·.2)).map sD)]) := by
    simp only [T_law_loose, dSeq, dAsg, dLstM, dNil, bind_ok, chk_c (show ([] : List D).length ≤ 16777216 by decide), to_ok, dName, List.set_cons_succ, List.set_cons_zero, then_nx, dFor, dZip2, dCons, dVar, look_0, look_s, still_tup, still_lst, okO_some, zip_q, e1]
    simp only [S3_law_loose, dSeq, dAsg, dCB, dCons, dNil, dVar, dC, dOp, look_0, look_s, bind_ok, lenD_cell (last_get k1.len), List.length_map, addD_int, e2, to_ok, dName, List.set_cons_succ, List.set_cons_zero, then_nx, dLstM, chk_c (show ([] : List D).length ≤ 16777216 by decide), ln, ap, dFor, dSeqI, dSl, dPart, dNoPart, slD_cell gp.2, cut_drop _ t0, cut_take _ t0, add1, items_lst, okO_some, e3]
  rw [e0, run]
  have esp : ∀ ν, mulD (.str " ") (.int k) ν = .ok (sD (sp k.toNat)) ν := fun ν => by
    rw [lit_sp]
    exact mul_reps s0 (by omega)
  by_cases cw : l = []
  · have c2 : l.map (·.2) = [] := by rw [cw]; rfl
    refine ⟨sp k.toNat ++ reps deep.toNat 40 ++ [48] ++ reps deep.toNat 41 ++ sp k.toNat, ν3, ?_, kk3, ?_⟩
    · have a1 : ∀ ν : Mu, addD (sD (sp k.toNat)) (sD (reps deep.toNat 40)) ν = .ok (sD (sp k.toNat ++ reps deep.toNat 40)) ν := fun ν => sD_add (by rw [lr, lr]; omega)
      have a2 : ∀ ν : Mu, addD (sD (sp k.toNat ++ reps deep.toNat 40)) (sD [48]) ν = .ok (sD (sp k.toNat ++ reps deep.toNat 40 ++ [48])) ν := fun ν => sD_add (by rw [List.length_append, lr, lr]; simp only [List.length_cons, List.length_nil]; omega)
      have a3 : ∀ ν : Mu, addD (sD (sp k.toNat ++ reps deep.toNat 40 ++ [48])) (sD (reps deep.toNat 41)) ν = .ok (sD (sp k.toNat ++ reps deep.toNat 40 ++ [48] ++ reps deep.toNat 41)) ν := fun ν => sD_add (by simp only [List.length_append, List.length_replicate, List.length_cons, List.length_nil]; omega)
      have a4 : ∀ ν : Mu, addD (sD (sp k.toNat ++ reps deep.toNat 40 ++ [48] ++ reps deep.toNat 41)) (sD (sp k.toNat)) ν = .ok (sD (sp k.toNat ++ reps deep.toNat 40 ++ [48] ++ reps deep.toNat 41 ++ sp k.toNat)) ν := fun ν => sD_add (by simp only [List.length_append, List.length_replicate, List.length_cons, List.length_nil]; omega)
      simp only [dSeq, dIf, dB, dAnd, dOr, dNot, dAsg, dOp, dVar, dC, dCB, dCons, dNil, dName, dRet, dRetN, dDrop, dNext, dIfE, dAndV, dOrV, dNotV, dUn, dSl, dNoPart, dPart, dPar, dPar3, dTup, dLst, dGTup, dGCons, dGNil, dChain, dIsN, dNotN, isN, dCont, dBreak, dGSub, dSeqI, items_lst, items_tup, dZip2, dZip3, dEnum, still_lst, still_tup, dFor, dFld, dLenOf, dM1, look_0, look_s, bind_ok, to_ok, then_nx, then_rt, then_ct, then_bk, turn_nx, turn_ct, turn_rt, turn_bk, run_rt, run_nx, onB_bl, okO_some, noX_ok, addD_int, subD_int, ltD_int, cmpD_int, fLe, fGe, fGt, intD_int, if_true, if_false, Bool.false_eq_true, Bool.not_true, Bool.not_false, List.set_cons_succ, List.set_cons_zero, ixD_lst, ixD_tup, lenD_lst, lenD_tup, List.length_cons, List.length_nil, isi_int_int, isi_int_bool, isi_int_str, isi_int_tuple, isi_int_list, isi_bl_int, isi_bl_bool, isi_bl_str, isi_bl_tuple, isi_bl_list, isi_str_int, isi_str_bool, isi_str_str, isi_str_tuple, isi_str_list, isi_tup_int, isi_tup_bool, isi_tup_str, isi_tup_tuple, isi_tup_list, isi_lst_int, isi_lst_bool, isi_lst_str, isi_lst_tuple, isi_lst_list, isi_non_int, isi_non_bool, isi_non_str, isi_non_tuple, isi_non_list, wipeD, dNever, chk_c, decide_true, decide_false, S2_law_loose, e4, esp, I1_law_loose, chk_c (show (0 : Nat) ≤ 16777216 by decide), eqw, decide_eq_true c2, lit_op, lit_cl, mul_reps hd.1 (show deep ≤ 1000 by omega), lit_0, a1, a2, a3, a4]
      exact fz_val kk3.len (kk3.clean hc) (cl _)
    · have : qs = [] := by rw [← hm, cw]; rfl
      rw [this] at cq
      exact lo_zero (by omega) (by omega) cq
  · have c2 : ¬ l.map (·.2) = [] := by simpa using cw
    obtain ⟨j, ν4, e5, j0, j1, k5⟩ := draw_app (τ := [.lst (ps.map qD), .lst ((l.map (·.2)).map sD)]) (many := 2) (kk3.box hb) (by decide) (by decide)
    have kk4 := kk3.trans k5
    have gW4 := get_last2 (ν := ν4) (A := .lst (ps.map qD)) (B := .lst ((l.map (·.2)).map sD)) kk4.len
    have jsp : ∀ ν, mulD (.str " ") (.int j) ν = .ok (sD (sp j.toNat)) ν := fun ν => by
      rw [lit_sp]
      exact mul_reps j0 (by omega)
    have jn := join_cell (ν := ν4 ++ [.lst (ps.map qD), .lst ((l.map (·.2)).map sD)]) (n := μ.length + 1) (a := sp k.toNat ++ [43] ++ sp j.toNat) (ts := l.map (·.2)) gW4.1 (by
      have q := sum_len (l.map (·.2)) 30 (fun w hw => by
        obtain ⟨x, hx, rfl⟩ := List.mem_map.mp hw
        exact (hwk x hx).len)
      rw [List.length_map] at q ⊢
      have ls : (sp k.toNat ++ [43] ++ sp j.toNat).length ≤ 7 := by simp only [List.length_append, List.length_cons, List.length_nil, List.length_replicate]; omega
      have q2 : l.length * (sp k.toNat ++ [43] ++ sp j.toNat).length ≤ 8 * 7 := Nat.mul_le_mul (by omega) ls
      omega)
    have lo := lo_words (xs := xs) (ws := ws) (k := k.toNat) (j := j.toNat) (by omega) (by omega) hd cw (by omega) hm hwk (fun p hp' => (hp.mem p (hq p hp')).1) cq
    refine ⟨_, ν4, ?_, kk4, lo⟩
    have lj := lo.len
    rw [List.length_append, List.length_append] at lj
    have b1 : ∀ ν : Mu, addD (sD (sp k.toNat)) (sD [43]) ν = .ok (sD (sp k.toNat ++ [43])) ν := fun ν => sD_add (by rw [lr]; simp only [List.length_cons, List.length_nil]; omega)
    have b2 : ∀ ν : Mu, addD (sD (sp k.toNat ++ [43])) (sD (sp j.toNat)) ν = .ok (sD (sp k.toNat ++ [43] ++ sp j.toNat)) ν := fun ν => sD_add (by simp only [List.length_append, List.length_replicate, List.length_cons, List.length_nil]; omega)
    have b3 : ∀ ν : Mu, addD (sD (sp k.toNat)) (sD (TL.joinL (sp k.toNat ++ [43] ++ sp j.toNat) (l.map (·.2)))) ν = .ok (sD (sp k.toNat ++ TL.joinL (sp k.toNat ++ [43] ++ sp j.toNat) (l.map (·.2)))) ν := fun ν => sD_add (by omega)
    have b4 : ∀ ν : Mu, addD (sD (sp k.toNat ++ TL.joinL (sp k.toNat ++ [43] ++ sp j.toNat) (l.map (·.2)))) (sD (sp k.toNat)) ν = .ok (sD (sp k.toNat ++ TL.joinL (sp k.toNat ++ [43] ++ sp j.toNat) (l.map (·.2)) ++ sp k.toNat)) ν := fun ν => sD_add (by rw [List.length_append]; omega)
    have jm : dM1 joinD (dOp addD (dOp addD (dVar 12) (dC (.str "+"))) (dOp mulD (dC (.str " ")) (dCB f_law_draw (dCons (dVar 0) (dCons (dC (.int 2)) dNil))))) (dVar 10) [some (.cell b), some (.tup (iD xs)), some (.lst (ws.map sD)), some (.int deep), some (.cell μ.length), x5, y6, x7, y8, some (.int turn), some (.cell (μ.length + 1)), y11, some (sD (sp k.toNat))] (ν3 ++ [.lst (ps.map qD), .lst ((l.map (·.2)).map sD)]) = .ok (sD (TL.joinL (sp k.toNat ++ [43] ++ sp j.toNat) (l.map (·.2)))) (ν4 ++ [.lst (ps.map qD), .lst ((l.map (·.2)).map sD)]) := by
      have hx : dOp addD (dOp addD (dVar 12) (dC (.str "+"))) (dOp mulD (dC (.str " ")) (dCB f_law_draw (dCons (dVar 0) (dCons (dC (.int 2)) dNil)))) [some (.cell b), some (.tup (iD xs)), some (.lst (ws.map sD)), some (.int deep), some (.cell μ.length), x5, y6, x7, y8, some (.int turn), some (.cell (μ.length + 1)), y11, some (sD (sp k.toNat))] (ν3 ++ [.lst (ps.map qD), .lst ((l.map (·.2)).map sD)]) = .ok (sD (sp k.toNat ++ [43] ++ sp j.toNat)) (ν4 ++ [.lst (ps.map qD), .lst ((l.map (·.2)).map sD)]) := by
        simp only [dSeq, dIf, dB, dAnd, dOr, dNot, dAsg, dOp, dVar, dC, dCB, dCons, dNil, dName, dRet, dRetN, dDrop, dNext, dIfE, dAndV, dOrV, dNotV, dUn, dSl, dNoPart, dPart, dPar, dPar3, dTup, dLst, dGTup, dGCons, dGNil, dChain, dIsN, dNotN, isN, dCont, dBreak, dGSub, dSeqI, items_lst, items_tup, dZip2, dZip3, dEnum, still_lst, still_tup, dFor, dFld, dLenOf, dM1, look_0, look_s, bind_ok, to_ok, then_nx, then_rt, then_ct, then_bk, turn_nx, turn_ct, turn_rt, turn_bk, run_rt, run_nx, onB_bl, okO_some, noX_ok, addD_int, subD_int, ltD_int, cmpD_int, fLe, fGe, fGt, intD_int, if_true, if_false, Bool.false_eq_true, Bool.not_true, Bool.not_false, List.set_cons_succ, List.set_cons_zero, ixD_lst, ixD_tup, lenD_lst, lenD_tup, List.length_cons, List.length_nil, isi_int_int, isi_int_bool, isi_int_str, isi_int_tuple, isi_int_list, isi_bl_int, isi_bl_bool, isi_bl_str, isi_bl_tuple, isi_bl_list, isi_str_int, isi_str_bool, isi_str_str, isi_str_tuple, isi_str_list, isi_tup_int, isi_tup_bool, isi_tup_str, isi_tup_tuple, isi_tup_list, isi_lst_int, isi_lst_bool, isi_lst_str, isi_lst_tuple, isi_lst_list, isi_non_int, isi_non_bool, isi_non_str, isi_non_tuple, isi_non_list, wipeD, dNever, chk_c, decide_true, decide_false, lit_pl, b1, e5, jsp, b2]
      unfold dM1
      rw [hx, bind_ok]
      exact jn
    have st : S2_law_loose [some (.cell b), some (.tup (iD xs)), some (.lst (ws.map sD)), some (.int deep), some (.cell μ.length), x5, y6, x7, y8, some (.int turn), some (.cell (μ.length + 1)), y11, none] (ν2 ++ [.lst (ps.map qD), .lst ((l.map (·.2)).map sD)]) = S1_law_loose [some (.cell b), some (.tup (iD xs)), some (.lst (ws.map sD)), some (.int deep), some (.cell μ.length), x5, y6, x7, y8, some (.int turn), some (.cell (μ.length + 1)), y11, some (sD (sp k.toNat))] (ν3 ++ [.lst (ps.map qD), .lst ((l.map (·.2)).map sD)]) := by
      simp only [dSeq, dIf, dB, dAnd, dOr, dNot, dAsg, dOp, dVar, dC, dCB, dCons, dNil, dName, dRet, dRetN, dDrop, dNext, dIfE, dAndV, dOrV, dNotV, dUn, dSl, dNoPart, dPart, dPar, dPar3, dTup, dLst, dGTup, dGCons, dGNil, dChain, dIsN, dNotN, isN, dCont, dBreak, dGSub, dSeqI, items_lst, items_tup, dZip2, dZip3, dEnum, still_lst, still_tup, dFor, dFld, dLenOf, dM1, look_0, look_s, bind_ok, to_ok, then_nx, then_rt, then_ct, then_bk, turn_nx, turn_ct, turn_rt, turn_bk, run_rt, run_nx, onB_bl, okO_some, noX_ok, addD_int, subD_int, ltD_int, cmpD_int, fLe, fGe, fGt, intD_int, if_true, if_false, Bool.false_eq_true, Bool.not_true, Bool.not_false, List.set_cons_succ, List.set_cons_zero, ixD_lst, ixD_tup, lenD_lst, lenD_tup, List.length_cons, List.length_nil, isi_int_int, isi_int_bool, isi_int_str, isi_int_tuple, isi_int_list, isi_bl_int, isi_bl_bool, isi_bl_str, isi_bl_tuple, isi_bl_list, isi_str_int, isi_str_bool, isi_str_str, isi_str_tuple, isi_str_list, isi_tup_int, isi_tup_bool, isi_tup_str, isi_tup_tuple, isi_tup_list, isi_lst_int, isi_lst_bool, isi_lst_str, isi_lst_tuple, isi_lst_list, isi_non_int, isi_non_bool, isi_non_str, isi_non_tuple, isi_non_list, wipeD, dNever, chk_c, decide_true, decide_false, S2_law_loose, e4, esp, I1_law_loose, chk_c (show (0 : Nat) ≤ 16777216 by decide), eqw, decide_eq_false c2]
    rw [st]
    simp only [S1_law_loose, dRet, dOp, dVar, look_0, look_s, bind_ok, jm, b3, b4, to_ok, run_rt]
    exact fz_val kk4.len (kk4.clean hc) (cl _)
end Lw

namespace Lw
open PySem L2 DX Pa
theorem occ_any (s sub : Str) (hi L : Nat) (hL : 0 < L) : ∀ (l : List Nat) (free : Nat), (∀ i ∈ l, free ≤ i) →
    (forIn l ((#[] : Array Nat), free) (StrLaws.occBody s sub hi L)).run.fst = #[] → ∀ i ∈ l, ¬ (i + sub.length ≤ hi ∧ Builtin.Str.subAt s sub i = true)
  | [], _, _, _ => fun i hm => by cases hm
  | a :: l, free, hf, he => by
    rw [List.forIn_cons] at he
    unfold StrLaws.occBody at he
    have ha : free ≤ a := hf a List.mem_cons_self
    by_cases hc : a + sub.length ≤ hi ∧ Builtin.Str.subAt s sub a = true
    · rw [if_pos ⟨⟨⟨by simpa using hL, ha⟩, hc.1⟩, hc.2⟩] at he
      exact absurd he (StrLaws.occ_grows s sub hi L l _ (by simp))
    · rw [if_neg (fun z => hc ⟨z.1.2, z.2⟩)] at he
      have ih := occ_any s sub hi L hL l free (fun i hm => hf i (List.mem_cons_of_mem _ hm)) he
      intro i hm
      rcases List.mem_cons.mp hm with rfl | hm
      · exact hc
      · exact ih i hm
theorem count_zero {t : List Nat} {c : Nat} (h : Txt.count (wS t) (wS [c]) = 0) : c ∉ t := by
  intro hc
  have e : Builtin.Str.occurrences (wS t) (wS [c]) 0 (wS t).length ((wS t).length + 1) = [] := by
    have : ((Builtin.Str.occurrences (wS t) (wS [c]) 0 (wS t).length ((wS t).length + 1)).length : Int) = 0 := h
    exact List.length_eq_zero_iff.mp (by omega)
  rw [StrLaws.occ_eq] at e
  have k := occ_any (wS t) (wS [c]) (wS t).length ((wS t).length + 1) (by omega) (List.range' 0 ((wS t).length + 1 - 0)) 0 (fun _ _ => Nat.zero_le _) (by simpa using e)
  obtain ⟨i, hi⟩ := List.mem_iff_getElem?.mp hc
  have q := (StrLaws.subAt_one (wS t) c i).mpr (by rw [wS_cps]; exact hi)
  refine k i ?_ q
  rw [List.mem_range']
  exact ⟨i, by have := (List.getElem?_eq_some_iff.mp hi).1; rw [wS_len]; omega, by omega⟩
/-! ### the law -/
def Fx (η : DX.Env) : Prop := look η 1 = some (.cell 0) ∧ η.length = 10
theorem Fx.set {η : DX.Env} {i : Nat} {x : Option D} (h : Fx η) (hi : i ≠ 1) : Fx (η.set i x) := ⟨(look_ne hi).trans h.1, by rw [List.length_set]; exact h.2⟩
section
variable {η : DX.Env} {μ : Mu} {xs : List Int} {ws : List (List Nat)}
theorem tup_th : tupD [.lst (ws.map sD)] μ = .ok (thD true ws) μ := rfl
theorem text_plain {t : List Nat} {n : Nat} (hg : Sg t) (hl : xs.length ≤ 1000) : DX.plain (n + 2) (.lst [sD t, .tup (iD xs)]) = true := by
  refine plain_lst_of (by simp) ?_
  rw [plains_cons, plains_cons, plains_nil, sD_plain hg, plain_itup (by omega)]
  rfl
theorem S2_ok (f : Fx η) (hb : HasBox 0 μ) (hc : Clean μ) (h : Bd xs ws) (l4 : look η 4 = some (.lst (ws.map sD))) (l5 : look η 5 = some (.tup (iD xs))) : ∃ η' μ', S2_law η μ = .nx η' μ' ∧ Fx η' ∧ Nx 0 μ μ' := by
  have hlen := f.2
  obtain ⟨deep, μ1, e1, d0, d1, k1⟩ := draw_nx (many := 9) hb (by decide) (by decide)
  obtain ⟨t, μ2, e2, k2, lo⟩ := loose_ok (b := 0) (deep := deep) h (k1.box hb) (k1.clean hc) ⟨d0, by omega⟩
  have kk := k1.trans k2
  have hc2 := kk.clean hc
  obtain ⟨ps, r1, r2, r3, r4⟩ := lo.rd
  have lt := lo.len
  have nn : ∀ w ∈ ws, cnt ps w ≤ 60 := fun w hw => by
    have : cnt ps w ∈ xs := by rw [← r3]; exact List.mem_map.mpr ⟨w, hw, rfl⟩
    exact (h.lo _ this).2
  have few := h.few
  have sgw : ∀ w ∈ ws, Sg w := fun w hw => (h.nm w hw).2.2.sg
  have p1 := parse_ok (b := true) (μ := μ2) hc2 lo.sg (by omega) r1 h.ne (by omega) sgw r2 nn
  rw [r3] at p1
  have lx := h.len
  have s1 := same_ok 11 (.tup (iD xs)) μ2 (plain_itup (by omega)) (by decide)
  refine ⟨η.set 7 (some (sD t)), μ2, ?_, f.set (by decide), kk⟩
  have i1 : I1_law (η.set 7 (some (sD t))) μ2 = .nx (η.set 7 (some (sD t))) μ2 := by
    simp (disch := first | decide | (simp only [List.length_set, hlen]; decide)) only [dSeq, dIf, dB, dAnd, dOr, dNot, dAsg, dOp, dVar, dC, dCB, dCons, dNil, dName, dRet, dRetN, dDrop, dNext, dIfE, dAndV, dOrV, dNotV, dUn, dSl, dNoPart, dPart, dPar, dPar3, dTup, dLst, dGTup, dGCons, dGNil, dChain, dIsN, dNotN, isN, dCont, dBreak, dGSub, dSeqI, items_lst, items_tup, dZip2, dZip3, dEnum, still_lst, still_tup, dFor, dFld, dLenOf, dM1, look_0, look_s, bind_ok, to_ok, then_nx, then_rt, then_ct, then_bk, turn_nx, turn_ct, turn_rt, turn_bk, run_rt, run_nx, onB_bl, okO_some, noX_ok, addD_int, subD_int, ltD_int, cmpD_int, fLe, fGe, fGt, intD_int, if_true, if_false, Bool.false_eq_true, Bool.not_true, Bool.not_false, List.set_cons_succ, List.set_cons_zero, ixD_lst, ixD_tup, lenD_lst, lenD_tup, List.length_cons, List.length_nil, isi_int_int, isi_int_bool, isi_int_str, isi_int_tuple, isi_int_list, isi_bl_int, isi_bl_bool, isi_bl_str, isi_bl_tuple, isi_bl_list, isi_str_int, isi_str_bool, isi_str_str, isi_str_tuple, isi_str_list, isi_tup_int, isi_tup_bool, isi_tup_str, isi_tup_tuple, isi_tup_list, isi_lst_int, isi_lst_bool, isi_lst_str, isi_lst_tuple, isi_lst_list, isi_non_int, isi_non_bool, isi_non_str, isi_non_tuple, isi_non_list, wipeD, dNever, chk_c, decide_true, decide_false, look_ne, look_eq, I1_law, f.1, l4, l5, tup_th, p1, s1]
  have s2 : S1_law (η.set 7 (some (sD t))) μ2 = .nx (η.set 7 (some (sD t))) μ2 := by
    have ec : countD (wS t) (.str "(") μ2 = .ok (.int (Txt.count (wS t) (wS [40]))) μ2 := by
      rw [lit_op]
      rfl
    have em : dM1 countD (dVar 7) (dC (.str "(")) (η.set 7 (some (sD t))) μ2 = .ok (.int (Txt.count (wS t) (wS [40]))) μ2 := by
      unfold dM1
      have : dVar 7 (η.set 7 (some (sD t))) μ2 = .ok (sD t) μ2 := by simp (disch := first | decide | (simp only [List.length_set, hlen]; decide)) only [dSeq, dIf, dB, dAnd, dOr, dNot, dAsg, dOp, dVar, dC, dCB, dCons, dNil, dName, dRet, dRetN, dDrop, dNext, dIfE, dAndV, dOrV, dNotV, dUn, dSl, dNoPart, dPart, dPar, dPar3, dTup, dLst, dGTup, dGCons, dGNil, dChain, dIsN, dNotN, isN, dCont, dBreak, dGSub, dSeqI, items_lst, items_tup, dZip2, dZip3, dEnum, still_lst, still_tup, dFor, dFld, dLenOf, dM1, look_0, look_s, bind_ok, to_ok, then_nx, then_rt, then_ct, then_bk, turn_nx, turn_ct, turn_rt, turn_bk, run_rt, run_nx, onB_bl, okO_some, noX_ok, addD_int, subD_int, ltD_int, cmpD_int, fLe, fGe, fGt, intD_int, if_true, if_false, Bool.false_eq_true, Bool.not_true, Bool.not_false, List.set_cons_succ, List.set_cons_zero, ixD_lst, ixD_tup, lenD_lst, lenD_tup, List.length_cons, List.length_nil, isi_int_int, isi_int_bool, isi_int_str, isi_int_tuple, isi_int_list, isi_bl_int, isi_bl_bool, isi_bl_str, isi_bl_tuple, isi_bl_list, isi_str_int, isi_str_bool, isi_str_str, isi_str_tuple, isi_str_list, isi_tup_int, isi_tup_bool, isi_tup_str, isi_tup_tuple, isi_tup_list, isi_lst_int, isi_lst_bool, isi_lst_str, isi_lst_tuple, isi_lst_list, isi_non_int, isi_non_bool, isi_non_str, isi_non_tuple, isi_non_list, wipeD, dNever, chk_c, decide_true, decide_false, look_ne, look_eq]
      rw [this, bind_ok]
      exact ec
    by_cases c0 : Txt.count (wS t) (wS [40]) = 0
    · have no := count_zero c0
      have a1 : addD (sD [40]) (sD t) μ2 = .ok (sD ([40] ++ t)) μ2 := sD_add (by simp only [List.length_cons, List.length_nil]; omega)
      have a2 : addD (sD ([40] ++ t)) (sD [41]) μ2 = .ok (sD ([40] ++ t ++ [41])) μ2 := sD_add (by simp only [List.length_append, List.length_cons, List.length_nil]; omega)
      have p2 := parse_ok (b := false) (μ := μ2) (cs := [40] ++ t ++ [41]) hc2 (Sg.app (Sg.app (sg1 (by decide)) lo.sg) (sg1 (by decide))) (by simp only [List.length_append, List.length_cons, List.length_nil]; omega) (r4 no) h.ne (by omega) sgw r2 nn
      rw [r3] at p2
      have p2' : f_parse_bundle [sD ([40] ++ t ++ [41]), .lst (ws.map sD)] μ2 = .ok (.tup (iD xs)) μ2 := p2
      have ne := neD_itup (xs := xs) (ys := xs) (μ := μ2) (by omega) (by omega)
      rw [decide_eq_true (show xs = xs from rfl)] at ne
      simp only [S1_law, dIf, dAnd, dB, dOp, em, bind_ok, dC, eqD_int, beq_iff_eq.mpr c0, onB_bl, if_true]
      simp (disch := first | decide | (simp only [List.length_set, hlen]; decide)) only [dSeq, dIf, dB, dAnd, dOr, dNot, dAsg, dOp, dVar, dC, dCB, dCons, dNil, dName, dRet, dRetN, dDrop, dNext, dIfE, dAndV, dOrV, dNotV, dUn, dSl, dNoPart, dPart, dPar, dPar3, dTup, dLst, dGTup, dGCons, dGNil, dChain, dIsN, dNotN, isN, dCont, dBreak, dGSub, dSeqI, items_lst, items_tup, dZip2, dZip3, dEnum, still_lst, still_tup, dFor, dFld, dLenOf, dM1, look_0, look_s, bind_ok, to_ok, then_nx, then_rt, then_ct, then_bk, turn_nx, turn_ct, turn_rt, turn_bk, run_rt, run_nx, onB_bl, okO_some, noX_ok, addD_int, subD_int, ltD_int, cmpD_int, fLe, fGe, fGt, intD_int, if_true, if_false, Bool.false_eq_true, Bool.not_true, Bool.not_false, List.set_cons_succ, List.set_cons_zero, ixD_lst, ixD_tup, lenD_lst, lenD_tup, List.length_cons, List.length_nil, isi_int_int, isi_int_bool, isi_int_str, isi_int_tuple, isi_int_list, isi_bl_int, isi_bl_bool, isi_bl_str, isi_bl_tuple, isi_bl_list, isi_str_int, isi_str_bool, isi_str_str, isi_str_tuple, isi_str_list, isi_tup_int, isi_tup_bool, isi_tup_str, isi_tup_tuple, isi_tup_list, isi_lst_int, isi_lst_bool, isi_lst_str, isi_lst_tuple, isi_lst_list, isi_non_int, isi_non_bool, isi_non_str, isi_non_tuple, isi_non_list, wipeD, dNever, chk_c, decide_true, decide_false, look_ne, look_eq, l4, l5, lit_op, a1, lit_cl, a2, p2', ne]
    · simp only [S1_law, dIf, dAnd, dB, dOp, em, bind_ok, dC, eqD_int, beq_eq_false_iff_ne.mpr c0, onB_bl, Bool.false_eq_true, if_false, to_ok, dNext]
  have run : S2_law η μ = (I1_law (η.set 7 (some (sD t))) μ2).then S1_law := by
    simp (disch := first | decide | (simp only [List.length_set, hlen]; decide)) only [dSeq, dIf, dB, dAnd, dOr, dNot, dAsg, dOp, dVar, dC, dCB, dCons, dNil, dName, dRet, dRetN, dDrop, dNext, dIfE, dAndV, dOrV, dNotV, dUn, dSl, dNoPart, dPart, dPar, dPar3, dTup, dLst, dGTup, dGCons, dGNil, dChain, dIsN, dNotN, isN, dCont, dBreak, dGSub, dSeqI, items_lst, items_tup, dZip2, dZip3, dEnum, still_lst, still_tup, dFor, dFld, dLenOf, dM1, look_0, look_s, bind_ok, to_ok, then_nx, then_rt, then_ct, then_bk, turn_nx, turn_ct, turn_rt, turn_bk, run_rt, run_nx, onB_bl, okO_some, noX_ok, addD_int, subD_int, ltD_int, cmpD_int, fLe, fGe, fGt, intD_int, if_true, if_false, Bool.false_eq_true, Bool.not_true, Bool.not_false, List.set_cons_succ, List.set_cons_zero, ixD_lst, ixD_tup, lenD_lst, lenD_tup, List.length_cons, List.length_nil, isi_int_int, isi_int_bool, isi_int_str, isi_int_tuple, isi_int_list, isi_bl_int, isi_bl_bool, isi_bl_str, isi_bl_tuple, isi_bl_list, isi_str_int, isi_str_bool, isi_str_str, isi_str_tuple, isi_str_list, isi_tup_int, isi_tup_bool, isi_tup_str, isi_tup_tuple, isi_tup_list, isi_lst_int, isi_lst_bool, isi_lst_str, isi_lst_tuple, isi_lst_list, isi_non_int, isi_non_bool, isi_non_str, isi_non_tuple, isi_non_list, wipeD, dNever, chk_c, decide_true, decide_false, look_ne, look_eq, S2_law, f.1, e1, l4, l5, e2]
  rw [run, i1, then_nx, s2]
theorem B1_ok (f : Fx η) (hb : HasBox 0 μ) (hc : Clean μ) : ∃ η' μ', (B1_law η μ = .nx η' μ' ∨ B1_law η μ = .ct η' μ') ∧ Fx η' ∧ Nx 0 μ μ' := by
  have hlen := f.2
  obtain ⟨n, μ1, e1, n0, n1, k1⟩ := draw_nx (many := 4) hb (by decide) (by decide)
  obtain ⟨w, rfl⟩ : ∃ w : Nat, n = w := ⟨n.toNat, by omega⟩
  have ew : (1 : Int) + (w : Int) = ((1 + w : Nat) : Int) := by omega
  obtain ⟨ws, μ2, e2, wl, wn, wd, k2⟩ := some_things_ok (b := 0) (w := 1 + w) (k1.box hb) (by omega)
  have k12 := k1.trans k2
  obtain ⟨cap, m, e3, hcap, hm⟩ := any_ok (b := 0) (μ := μ2) (r := .lst [.int 1, .int 3, .int 60]) (k12.box hb) (.inl rfl) (by simp) (show (3 : Nat) < 1000000 by decide)
  have k3 : Nx 0 μ2 (μ2.set 0 m) := .inr ⟨m, hm, rfl⟩
  have k13 := k12.trans k3
  obtain ⟨c, rfl, c0, c1⟩ : ∃ c : Int, cap = .int c ∧ 0 ≤ c ∧ c ≤ 60 := by
    rcases List.mem_cons.mp hcap with rfl | h
    · exact ⟨1, rfl, by decide, by decide⟩
    · rcases List.mem_cons.mp h with rfl | h
      · exact ⟨3, rfl, by decide, by decide⟩
      · rw [List.mem_singleton.mp h]; exact ⟨60, rfl, by decide, by decide⟩
  obtain ⟨xs, μ4, e4, xl, xb, k4⟩ := some_bundle_ok (b := 0) (w := 1 + w) (cap := c) (k13.box hb) (by omega) c0 (by omega)
  have k14 := k13.trans k4
  have h : Bd xs ws := ⟨by omega, fun z => by rw [z] at wl; simp at wl; omega, by omega, wn, wd, fun x hx => ⟨(xb x hx).1, by have := (xb x hx).2; omega⟩⟩
  have hc4 := k14.clean hc
  have e5 := text_of_ok (μ := μ4) h hc4
  have sgw : ∀ w ∈ ws, Sg w := fun w hw => (h.nm w hw).2.2.sg
  obtain ⟨tl, tg⟩ := text_len h
  have ff := format_ok (b := false) (μ := μ4) h
  have ft := format_ok (b := true) (μ := μ4) h
  have ff' : f_format_bundle [.tup (iD xs), .lst (ws.map sD)] μ4 = .ok (sD (textP xs ws)) μ4 := ff
  have pc := posL_cnt h
  have pm : ∀ p ∈ (posL xs ws).map (·.1), p.1 ∈ ws := fun p hp => by
    obtain ⟨x, hx, rfl⟩ := List.mem_map.mp hp
    exact (zip_mem (posL_wrd h x hx).2.1).1
  have p1 := parse_ok (b := false) (μ := μ4) hc4 tg (by omega) (text_parse h) h.ne (by omega) sgw pm (fun v hv => by
    have hx : cnt ((posL xs ws).map (·.1)) v ∈ ws.map (cnt ((posL xs ws).map (·.1))) := List.mem_map.mpr ⟨v, hv, rfl⟩
    have : cnt ((posL xs ws).map (·.1)) v ∈ xs := by rw [pc] at hx; exact hx
    exact (h.lo _ this).2)
  rw [pc] at p1
  have p1' : f_parse_bundle [sD (textP xs ws), .lst (ws.map sD)] μ4 = .ok (.tup (iD xs)) μ4 := p1
  have s1 := same_ok 11 (.lst [sD (textP xs ws), .tup (iD xs)]) μ4 (text_plain (n := 9) tg (by omega)) (by decide)
  have s2 := same_ok 11 (sD (textP xs ws)) μ4 (sD_plain tg) (by decide)
  let η1 := (((η.set 3 (some (.int (1 + (w : Int))))).set 4 (some (.lst (ws.map sD)))).set 5 (some (.tup (iD xs)))).set 6 (some (sD (textP xs ws)))
  have f1 : Fx η1 := (((f.set (by decide)).set (by decide)).set (by decide)).set (by decide)
  have hlen1 := f1.2
  have l4 : look η1 4 = some (.lst (ws.map sD)) := by simp (disch := first | decide | (simp only [List.length_set, hlen]; decide)) only [dSeq, dIf, dB, dAnd, dOr, dNot, dAsg, dOp, dVar, dC, dCB, dCons, dNil, dName, dRet, dRetN, dDrop, dNext, dIfE, dAndV, dOrV, dNotV, dUn, dSl, dNoPart, dPart, dPar, dPar3, dTup, dLst, dGTup, dGCons, dGNil, dChain, dIsN, dNotN, isN, dCont, dBreak, dGSub, dSeqI, items_lst, items_tup, dZip2, dZip3, dEnum, still_lst, still_tup, dFor, dFld, dLenOf, dM1, look_0, look_s, bind_ok, to_ok, then_nx, then_rt, then_ct, then_bk, turn_nx, turn_ct, turn_rt, turn_bk, run_rt, run_nx, onB_bl, okO_some, noX_ok, addD_int, subD_int, ltD_int, cmpD_int, fLe, fGe, fGt, intD_int, if_true, if_false, Bool.false_eq_true, Bool.not_true, Bool.not_false, List.set_cons_succ, List.set_cons_zero, ixD_lst, ixD_tup, lenD_lst, lenD_tup, List.length_cons, List.length_nil, isi_int_int, isi_int_bool, isi_int_str, isi_int_tuple, isi_int_list, isi_bl_int, isi_bl_bool, isi_bl_str, isi_bl_tuple, isi_bl_list, isi_str_int, isi_str_bool, isi_str_str, isi_str_tuple, isi_str_list, isi_tup_int, isi_tup_bool, isi_tup_str, isi_tup_tuple, isi_tup_list, isi_lst_int, isi_lst_bool, isi_lst_str, isi_lst_tuple, isi_lst_list, isi_non_int, isi_non_bool, isi_non_str, isi_non_tuple, isi_non_list, wipeD, dNever, chk_c, decide_true, decide_false, look_ne, look_eq, η1]
  have l5 : look η1 5 = some (.tup (iD xs)) := by simp (disch := first | decide | (simp only [List.length_set, hlen]; decide)) only [dSeq, dIf, dB, dAnd, dOr, dNot, dAsg, dOp, dVar, dC, dCB, dCons, dNil, dName, dRet, dRetN, dDrop, dNext, dIfE, dAndV, dOrV, dNotV, dUn, dSl, dNoPart, dPart, dPar, dPar3, dTup, dLst, dGTup, dGCons, dGNil, dChain, dIsN, dNotN, isN, dCont, dBreak, dGSub, dSeqI, items_lst, items_tup, dZip2, dZip3, dEnum, still_lst, still_tup, dFor, dFld, dLenOf, dM1, look_0, look_s, bind_ok, to_ok, then_nx, then_rt, then_ct, then_bk, turn_nx, turn_ct, turn_rt, turn_bk, run_rt, run_nx, onB_bl, okO_some, noX_ok, addD_int, subD_int, ltD_int, cmpD_int, fLe, fGe, fGt, intD_int, if_true, if_false, Bool.false_eq_true, Bool.not_true, Bool.not_false, List.set_cons_succ, List.set_cons_zero, ixD_lst, ixD_tup, lenD_lst, lenD_tup, List.length_cons, List.length_nil, isi_int_int, isi_int_bool, isi_int_str, isi_int_tuple, isi_int_list, isi_bl_int, isi_bl_bool, isi_bl_str, isi_bl_tuple, isi_bl_list, isi_str_int, isi_str_bool, isi_str_str, isi_str_tuple, isi_str_list, isi_tup_int, isi_tup_bool, isi_tup_str, isi_tup_tuple, isi_tup_list, isi_lst_int, isi_lst_bool, isi_lst_str, isi_lst_tuple, isi_lst_list, isi_non_int, isi_non_bool, isi_non_str, isi_non_tuple, isi_non_list, wipeD, dNever, chk_c, decide_true, decide_false, look_ne, look_eq, η1]
  have l6 : look η1 6 = some (sD (textP xs ws)) := by simp (disch := first | decide | (simp only [List.length_set, hlen]; decide)) only [dSeq, dIf, dB, dAnd, dOr, dNot, dAsg, dOp, dVar, dC, dCB, dCons, dNil, dName, dRet, dRetN, dDrop, dNext, dIfE, dAndV, dOrV, dNotV, dUn, dSl, dNoPart, dPart, dPar, dPar3, dTup, dLst, dGTup, dGCons, dGNil, dChain, dIsN, dNotN, isN, dCont, dBreak, dGSub, dSeqI, items_lst, items_tup, dZip2, dZip3, dEnum, still_lst, still_tup, dFor, dFld, dLenOf, dM1, look_0, look_s, bind_ok, to_ok, then_nx, then_rt, then_ct, then_bk, turn_nx, turn_ct, turn_rt, turn_bk, run_rt, run_nx, onB_bl, okO_some, noX_ok, addD_int, subD_int, ltD_int, cmpD_int, fLe, fGe, fGt, intD_int, if_true, if_false, Bool.false_eq_true, Bool.not_true, Bool.not_false, List.set_cons_succ, List.set_cons_zero, ixD_lst, ixD_tup, lenD_lst, lenD_tup, List.length_cons, List.length_nil, isi_int_int, isi_int_bool, isi_int_str, isi_int_tuple, isi_int_list, isi_bl_int, isi_bl_bool, isi_bl_str, isi_bl_tuple, isi_bl_list, isi_str_int, isi_str_bool, isi_str_str, isi_str_tuple, isi_str_list, isi_tup_int, isi_tup_bool, isi_tup_str, isi_tup_tuple, isi_tup_list, isi_lst_int, isi_lst_bool, isi_lst_str, isi_lst_tuple, isi_lst_list, isi_non_int, isi_non_bool, isi_non_str, isi_non_tuple, isi_non_list, wipeD, dNever, chk_c, decide_true, decide_false, look_ne, look_eq, η1]
  obtain ⟨η2, μ5, e6, f2, k5⟩ := S2_ok (μ := μ4) f1 (k14.box hb) hc4 h l4 l5
  have e2' : f_law_some_things [.cell 0, .int (1 + (w : Int))] μ1 = .ok (.lst (ws.map sD)) μ2 := by rw [ew]; exact e2
  have e4' : f_law_some_bundle [.cell 0, .int (1 + (w : Int)), .int c] (μ2.set 0 m) = .ok (.tup (iD xs)) μ4 := by rw [ew]; exact e4
  have i3 : I3_law η1 μ4 = .nx η1 μ4 := by
    simp only [dSeq, dIf, dB, dAnd, dOr, dNot, dAsg, dOp, dVar, dC, dCB, dCons, dNil, dName, dRet, dRetN, dDrop, dNext, dIfE, dAndV, dOrV, dNotV, dUn, dSl, dNoPart, dPart, dPar, dPar3, dTup, dLst, dGTup, dGCons, dGNil, dChain, dIsN, dNotN, isN, dCont, dBreak, dGSub, dSeqI, items_lst, items_tup, dZip2, dZip3, dEnum, still_lst, still_tup, dFor, dFld, dLenOf, dM1, look_0, look_s, bind_ok, to_ok, then_nx, then_rt, then_ct, then_bk, turn_nx, turn_ct, turn_rt, turn_bk, run_rt, run_nx, onB_bl, okO_some, noX_ok, addD_int, subD_int, ltD_int, cmpD_int, fLe, fGe, fGt, intD_int, if_true, if_false, Bool.false_eq_true, Bool.not_true, Bool.not_false, List.set_cons_succ, List.set_cons_zero, ixD_lst, ixD_tup, lenD_lst, lenD_tup, List.length_cons, List.length_nil, isi_int_int, isi_int_bool, isi_int_str, isi_int_tuple, isi_int_list, isi_bl_int, isi_bl_bool, isi_bl_str, isi_bl_tuple, isi_bl_list, isi_str_int, isi_str_bool, isi_str_str, isi_str_tuple, isi_str_list, isi_tup_int, isi_tup_bool, isi_tup_str, isi_tup_tuple, isi_tup_list, isi_lst_int, isi_lst_bool, isi_lst_str, isi_lst_tuple, isi_lst_list, isi_non_int, isi_non_bool, isi_non_str, isi_non_tuple, isi_non_list, wipeD, dNever, chk_c, decide_true, decide_false, I3_law, l4, l5, l6, ff', p1', chk_c (show (0 + 1 + 1 : Nat) ≤ 16777216 by decide), s1]
  have i2 : I2_law η1 μ4 = .nx η1 μ4 := by
    simp only [dSeq, dIf, dB, dAnd, dOr, dNot, dAsg, dOp, dVar, dC, dCB, dCons, dNil, dName, dRet, dRetN, dDrop, dNext, dIfE, dAndV, dOrV, dNotV, dUn, dSl, dNoPart, dPart, dPar, dPar3, dTup, dLst, dGTup, dGCons, dGNil, dChain, dIsN, dNotN, isN, dCont, dBreak, dGSub, dSeqI, items_lst, items_tup, dZip2, dZip3, dEnum, still_lst, still_tup, dFor, dFld, dLenOf, dM1, look_0, look_s, bind_ok, to_ok, then_nx, then_rt, then_ct, then_bk, turn_nx, turn_ct, turn_rt, turn_bk, run_rt, run_nx, onB_bl, okO_some, noX_ok, addD_int, subD_int, ltD_int, cmpD_int, fLe, fGe, fGt, intD_int, if_true, if_false, Bool.false_eq_true, Bool.not_true, Bool.not_false, List.set_cons_succ, List.set_cons_zero, ixD_lst, ixD_tup, lenD_lst, lenD_tup, List.length_cons, List.length_nil, isi_int_int, isi_int_bool, isi_int_str, isi_int_tuple, isi_int_list, isi_bl_int, isi_bl_bool, isi_bl_str, isi_bl_tuple, isi_bl_list, isi_str_int, isi_str_bool, isi_str_str, isi_str_tuple, isi_str_list, isi_tup_int, isi_tup_bool, isi_tup_str, isi_tup_tuple, isi_tup_list, isi_lst_int, isi_lst_bool, isi_lst_str, isi_lst_tuple, isi_lst_list, isi_non_int, isi_non_bool, isi_non_str, isi_non_tuple, isi_non_list, wipeD, dNever, chk_c, decide_true, decide_false, I2_law, l4, l5, l6, tup_th, ft, s2]
  have run : B1_law η μ = (I3_law η1 μ4).then S3_law := by
    simp (disch := first | decide | (simp only [List.length_set, hlen]; decide)) only [dSeq, dIf, dB, dAnd, dOr, dNot, dAsg, dOp, dVar, dC, dCB, dCons, dNil, dName, dRet, dRetN, dDrop, dNext, dIfE, dAndV, dOrV, dNotV, dUn, dSl, dNoPart, dPart, dPar, dPar3, dTup, dLst, dGTup, dGCons, dGNil, dChain, dIsN, dNotN, isN, dCont, dBreak, dGSub, dSeqI, items_lst, items_tup, dZip2, dZip3, dEnum, still_lst, still_tup, dFor, dFld, dLenOf, dM1, look_0, look_s, bind_ok, to_ok, then_nx, then_rt, then_ct, then_bk, turn_nx, turn_ct, turn_rt, turn_bk, run_rt, run_nx, onB_bl, okO_some, noX_ok, addD_int, subD_int, ltD_int, cmpD_int, fLe, fGe, fGt, intD_int, if_true, if_false, Bool.false_eq_true, Bool.not_true, Bool.not_false, List.set_cons_succ, List.set_cons_zero, ixD_lst, ixD_tup, lenD_lst, lenD_tup, List.length_cons, List.length_nil, isi_int_int, isi_int_bool, isi_int_str, isi_int_tuple, isi_int_list, isi_bl_int, isi_bl_bool, isi_bl_str, isi_bl_tuple, isi_bl_list, isi_str_int, isi_str_bool, isi_str_str, isi_str_tuple, isi_str_list, isi_tup_int, isi_tup_bool, isi_tup_str, isi_tup_tuple, isi_tup_list, isi_lst_int, isi_lst_bool, isi_lst_str, isi_lst_tuple, isi_lst_list, isi_non_int, isi_non_bool, isi_non_str, isi_non_tuple, isi_non_list, wipeD, dNever, chk_c, decide_true, decide_false, look_ne, look_eq, B1_law, f.1, e1, e2', chk_c (show (0 + 1 + 1 + 1 : Nat) ≤ 16777216 by decide), e3, e4', e5]
    rfl
  have s3 : S3_law η1 μ4 = (I2_law η1 μ4).then S2_law := rfl
  rw [run, i3, then_nx, s3, i2, then_nx]
  exact ⟨η2, μ5, .inl e6, f2, k14.trans k5⟩
end
theorem law_ok (ns : List Int) (hns : ns.length ≤ 63) : ∃ μ, f_law [.scr ns] [] = .ok (.bl true) μ := by
  obtain ⟨m, e1, hb, hc⟩ := begin_nx ns
  obtain ⟨η', μ', e7, f7, k7⟩ := forR_go (G := dName 2) (T := B1_law) (fun r η μ' => Fx η ∧ Nx 0 [m] μ')
    (fun x r η μ' ⟨f, k⟩ => by
      obtain ⟨η', μ2, e, f', k'⟩ := B1_ok (η := η.set 2 (some x)) (μ := μ') (f.set (by decide)) (k.box hb) (k.clean hc)
      exact ⟨_, _, η', μ2, rfl, e, f', k.trans k'⟩)
    (rangeD 0 (Int.toNat 5)) [some (.scr ns), some (.cell 0), none, none, none, none, none, none, none, none] [m] ⟨⟨rfl, rfl⟩, .refl⟩
  refine ⟨μ'.take 0, ?_⟩
  have e0 : f_law [.scr ns] [] = fz [] (SR.run (T_law [some (.scr ns), none, none, none, none, none, none, none, none, none] [])) := defR_ok rfl
  rw [e0]
  have hr : ∀ (η : DX.Env) (μ : Mu), dRng1 (dCons (dC (.int 5)) dNil) η μ = .ok (rangeD 0 (Int.toNat 5)) μ := fun η μ => rng_ok rfl (by decide) (by decide)
  have hc' := k7.clean hc
  have hlen := f7.2
  have px : ∀ {cs : List Nat} {ps : Pairs} {v : List Nat} {a b : Int}, bundleP cs = .ok ps v → Sg cs → cs.length ≤ 10000 → (∀ p ∈ ps, p.1 ∈ [[97], [98]]) → cnt ps [97] = a → cnt ps [98] = b → a ≤ 60 → b ≤ 60 → f_parse_bundle [sD cs, .lst [sD [97], sD [98]]] μ' = .ok (.tup [.int a, .int b]) μ' := by
    intro cs ps v a b h1 h2 h3 h4 h5 h6 h7 h8
    have k := parse_ok (b := false) (μ := μ') (ws := [[97], [98]]) hc' h2 h3 h1 (by simp) (by simp) (fun w hw => by
      rcases List.mem_cons.mp hw with rfl | hw
      · exact sg1 (by decide)
      · rw [List.mem_singleton.mp hw]; exact sg1 (by decide)) h4 (fun w hw => by
      rcases List.mem_cons.mp hw with rfl | hw
      · omega
      · rw [List.mem_singleton.mp hw]; omega)
    rw [List.map_cons, List.map_cons, List.map_nil, h5, h6] at k
    exact k
  have la : D.str "a" = sD [97] := by
    have : ("a" : Str) = wS [97] := by decide +kernel
    unfold sD
    rw [← this]
  have lb : D.str "b" = sD [98] := by
    have : ("b" : Str) = wS [98] := by decide +kernel
    unfold sD
    rw [← this]
  have t1 : D.str "2 (a + 3 b) + a" = sD [50, 32, 40, 97, 32, 43, 32, 51, 32, 98, 41, 32, 43, 32, 97] := by
    have : ("2 (a + 3 b) + a" : Str) = wS [50, 32, 40, 97, 32, 43, 32, 51, 32, 98, 41, 32, 43, 32, 97] := by decide +kernel
    unfold sD
    rw [← this]
  have t2 : D.str "0 a+b" = sD [48, 32, 97, 43, 98] := by
    have : ("0 a+b" : Str) = wS [48, 32, 97, 43, 98] := by decide +kernel
    unfold sD
    rw [← this]
  have t3 : D.str "2(0)+b" = sD [50, 40, 48, 41, 43, 98] := by
    have : ("2(0)+b" : Str) = wS [50, 40, 48, 41, 43, 98] := by decide +kernel
    unfold sD
    rw [← this]
  have t4 : D.str "3(2(a)+2 (b+a))" = sD [51, 40, 50, 40, 97, 41, 43, 50, 32, 40, 98, 43, 97, 41, 41] := by
    have : ("3(2(a)+2 (b+a))" : Str) = wS [51, 40, 50, 40, 97, 41, 43, 50, 32, 40, 98, 43, 97, 41, 41] := by decide +kernel
    unfold sD
    rw [← this]
  have q1 := px (a := 3) (b := 6) fix1 (by unfold Sg; decide) (by decide) (by decide) rfl rfl (by decide) (by decide)
  have q2 := px (a := 0) (b := 1) fix2 (by unfold Sg; decide) (by decide) (by decide) rfl rfl (by decide) (by decide)
  have q3 := px (a := 0) (b := 1) fix3 (by unfold Sg; decide) (by decide) (by decide) rfl rfl (by decide) (by decide)
  have q4 := px (a := 12) (b := 6) fix4 (by unfold Sg; decide) (by decide) (by decide) rfl rfl (by decide) (by decide)
  have ad := add_lstP (xs := [D.tup [.int 3, .int 6], .tup [.int 0, .int 1]]) (ys := [D.tup [.int 0, .int 1], .tup [.int 12, .int 6]]) (μ := μ') (by decide)
  have sm := same_ok 11 (.lst ([D.tup [.int 3, .int 6], .tup [.int 0, .int 1]] ++ [D.tup [.int 0, .int 1], .tup [.int 12, .int 6]])) μ' (by decide +kernel) (by decide)
  have st : S4_law η' μ' = .rt (.bl true) μ' := by
    have c2 := chk_c (α := D) (n := 0 + 1 + 1) (r := .ok (.lst [sD [97], sD [98]]) μ') (by decide)
    simp only [S4_law, dSeq, dAsg, dLst, dCons, dNil, dC, la, lb, bind_ok, List.length_cons, List.length_nil, chk_c (show (0 + 1 + 1 : Nat) ≤ 16777216 by decide), to_ok, dName, then_nx]
    simp (disch := first | decide | (simp only [List.length_set, hlen]; decide)) only [dSeq, dIf, dB, dAnd, dOr, dNot, dAsg, dOp, dVar, dC, dCB, dCons, dNil, dName, dRet, dRetN, dDrop, dNext, dIfE, dAndV, dOrV, dNotV, dUn, dSl, dNoPart, dPart, dPar, dPar3, dTup, dLst, dGTup, dGCons, dGNil, dChain, dIsN, dNotN, isN, dCont, dBreak, dGSub, dSeqI, items_lst, items_tup, dZip2, dZip3, dEnum, still_lst, still_tup, dFor, dFld, dLenOf, dM1, look_0, look_s, bind_ok, to_ok, then_nx, then_rt, then_ct, then_bk, turn_nx, turn_ct, turn_rt, turn_bk, run_rt, run_nx, onB_bl, okO_some, noX_ok, addD_int, subD_int, ltD_int, cmpD_int, fLe, fGe, fGt, intD_int, if_true, if_false, Bool.false_eq_true, Bool.not_true, Bool.not_false, List.set_cons_succ, List.set_cons_zero, ixD_lst, ixD_tup, lenD_lst, lenD_tup, List.length_cons, List.length_nil, isi_int_int, isi_int_bool, isi_int_str, isi_int_tuple, isi_int_list, isi_bl_int, isi_bl_bool, isi_bl_str, isi_bl_tuple, isi_bl_list, isi_str_int, isi_str_bool, isi_str_str, isi_str_tuple, isi_str_list, isi_tup_int, isi_tup_bool, isi_tup_str, isi_tup_tuple, isi_tup_list, isi_lst_int, isi_lst_bool, isi_lst_str, isi_lst_tuple, isi_lst_list, isi_non_int, isi_non_bool, isi_non_str, isi_non_tuple, isi_non_list, wipeD, dNever, chk_c, decide_true, decide_false, look_ne, look_eq, t1, t2, t3, t4, q1, q2, q3, q4, chk_c (show (0 + 1 + 1 : Nat) ≤ 16777216 by decide), chk_c (show (0 + 1 + 1 + 1 + 1 : Nat) ≤ 16777216 by decide), ad]
    show (f_law_same 12 [_, .lst ([D.tup [.int 3, .int 6], .tup [.int 0, .int 1]] ++ [D.tup [.int 0, .int 1], .tup [.int 12, .int 6]])] μ').to _ _ = _
    rw [sm]
    rfl
  simp only [dSeq, dIf, dB, dAnd, dOr, dNot, dAsg, dOp, dVar, dC, dCB, dCons, dNil, dName, dRet, dRetN, dDrop, dNext, dIfE, dAndV, dOrV, dNotV, dUn, dSl, dNoPart, dPart, dPar, dPar3, dTup, dLst, dGTup, dGCons, dGNil, dChain, dIsN, dNotN, isN, dCont, dBreak, dGSub, dSeqI, items_lst, items_tup, dZip2, dZip3, dEnum, still_lst, still_tup, dFor, dFld, dLenOf, dM1, look_0, look_s, bind_ok, to_ok, then_nx, then_rt, then_ct, then_bk, turn_nx, turn_ct, turn_rt, turn_bk, run_rt, run_nx, onB_bl, okO_some, noX_ok, addD_int, subD_int, ltD_int, cmpD_int, fLe, fGe, fGt, intD_int, if_true, if_false, Bool.false_eq_true, Bool.not_true, Bool.not_false, List.set_cons_succ, List.set_cons_zero, ixD_lst, ixD_tup, lenD_lst, lenD_tup, List.length_cons, List.length_nil, isi_int_int, isi_int_bool, isi_int_str, isi_int_tuple, isi_int_list, isi_bl_int, isi_bl_bool, isi_bl_str, isi_bl_tuple, isi_bl_list, isi_str_int, isi_str_bool, isi_str_str, isi_str_tuple, isi_str_list, isi_tup_int, isi_tup_bool, isi_tup_str, isi_tup_tuple, isi_tup_list, isi_lst_int, isi_lst_bool, isi_lst_str, isi_lst_tuple, isi_lst_list, isi_non_int, isi_non_bool, isi_non_str, isi_non_tuple, isi_non_list, wipeD, dNever, chk_c, decide_true, decide_false, T_law, e1, hr, e7, st]
  have := fz_val (μ0 := []) (μ1 := []) (ν := μ') (d := .bl true) rfl (fun m hm => by cases hm) (by simp [DX.clean])
  simpa using this
end Lw

namespace Lw
open PySem L2 DX
structure Md (K : PySem.W.Frag) (mg : Str → Option Value) : Prop where
  b_all : mg "all" = none
  b_bool : mg "bool" = none
  b_int : mg "int" = none
  b_isinstance : mg "isinstance" = none
  b_len : mg "len" = none
  b_list : mg "list" = none
  b_max : mg "max" = none
  b_range : mg "range" = none
  b_str : mg "str" = none
  b_sum : mg "sum" = none
  b_tuple : mg "tuple" = none
  b_zip : mg "zip" = none
  c_DIGITS : ∃ t, mg "DIGITS" = some (.str "0123456789" t)
  c_LONGEST_NUMBER : ∃ t, mg "LONGEST_NUMBER" = some (.int 3 t)
  c_LONGEST_THING : ∃ t, mg "LONGEST_THING" = some (.int 6 t)
  c_MOST_COUNT : ∃ t, mg "MOST_COUNT" = some (.int 60 t)
  c_MOST_OPEN : ∃ t, mg "MOST_OPEN" = some (.int 8 t)
  c_SMALL : ∃ t, mg "SMALL" = some (.str "abcdefghijklmnopqrstuvwxyz" t)
  cl_Reader : Cls K (He.ga K "Reader")
  g_Reader : mg "Reader" = some (.ref (He.ga K "Reader"))
  g_bundle_terms : mg "bundle_terms" = some (.ref (He.ga K "bundle_terms"))
  g_check_size : mg "check_size" = some (.ref (He.ga K "check_size"))
  g_check_words : mg "check_words" = some (.ref (He.ga K "check_words"))
  g_counted : mg "counted" = some (.ref (He.ga K "counted"))
  g_format_bundle : mg "format_bundle" = some (.ref (He.ga K "format_bundle"))
  g_law_any : mg "_law_any" = some (.ref (He.ga K "_law_any"))
  g_law_begin : mg "_law_begin" = some (.ref (He.ga K "_law_begin"))
  g_law_draw : mg "_law_draw" = some (.ref (He.ga K "_law_draw"))
  g_law_loose : mg "_law_loose" = some (.ref (He.ga K "_law_loose"))
  g_law_same : mg "_law_same" = some (.ref (He.ga K "_law_same"))
  g_law_some_bundle : mg "_law_some_bundle" = some (.ref (He.ga K "_law_some_bundle"))
  g_law_some_things : mg "_law_some_things" = some (.ref (He.ga K "_law_some_things"))
  g_law_text_of : mg "_law_text_of" = some (.ref (He.ga K "_law_text_of"))
  g_parse_bundle : mg "parse_bundle" = some (.ref (He.ga K "parse_bundle"))
  me_Reader_atom : Meth K (He.ga K "Reader") "atom" (He.ma K (He.ga K "Reader") "atom")
  me_Reader_expect : Meth K (He.ga K "Reader") "expect" (He.ma K (He.ga K "Reader") "expect")
  me_Reader_many : Meth K (He.ga K "Reader") "many" (He.ma K (He.ga K "Reader") "many")
  me_Reader_run : Meth K (He.ga K "Reader") "run" (He.ma K (He.ga K "Reader") "run")
  me_Reader_sign : Meth K (He.ga K "Reader") "sign" (He.ma K (He.ga K "Reader") "sign")
  me_Reader_terms : Meth K (He.ga K "Reader") "terms" (He.ma K (He.ga K "Reader") "terms")
  mk_Reader : Mk K (He.ga K "Reader") (He.ma K (He.ga K "Reader") "__init__")
  na_Reader_at : NoAttr K (He.ga K "Reader") "at"
  na_Reader_source : NoAttr K (He.ga K "Reader") "source"
section
variable {P : Program} {w : World} {K : PySem.W.Frag} {mg : Str → Option Value} {base : Heap}
theorem sc_law_draw : FnScope ["_law_box", "_law_many", "_law_cell", "_law_found"] ["_law_box", "_law_many"] (defScope s_law_draw) := ⟨rfl, rfl, rfl, by decide +kernel, rfl, by decide +kernel, by decide +kernel⟩
theorem ok_law_draw {fd_law_draw : FuncData} (F_law_draw : FunD K "_law_draw" "_law_draw" (defArgs s_law_draw) (defBody s_law_draw) (defScope s_law_draw) [] [] (He.ga K "_law_draw") fd_law_draw) (M : Md K mg)  : FnR P w K mg base (L2.CX P w) 2 (He.ga K "_law_draw") (spD K f_law_draw) :=
  fnD fin_fz F_law_draw sc_law_draw (F_law_draw.bindsN (ps := ["_law_box", "_law_many"]) fun _ _ _ _ _ _ us hl => match us, hl with | [_, _], _ => rfl) (fun cdv A outer st H E hr => ⟨_, (pss_cons (ps_if (PW.pt (pw_and (pt_cmpR (op_ltK K rfl hr.units) (pe_ix (ix_seqK K rfl) (pv 0) pe_int (fun _ _ => rfl)) pe_int (nomark _)) (pw_and1 (pt_cmpR (op_ltK K rfl hr.units) (pe_ix (ix_seqK K rfl) (pv 0) pe_int (fun _ _ => rfl)) (pe_callB (call_lenK K rfl) (by rfl) M.b_len PySem.boot_len (pa_cons (pe_ix (ix_seqK K rfl) (pv 0) pe_int (fun _ _ => rfl)) pa_nil)) (nomark _))))) (pss_cons (ps_set (i := 2) sc_law_draw.nd rfl (by first | exact Or.inl rfl | exact Or.inr rfl) (pe_ix (ix_seqK K rfl) (pe_ix (ix_seqK K rfl) (pv 0) pe_int (fun _ _ => rfl)) (pe_ix (ix_seqK K rfl) (pv 0) pe_int (fun _ _ => rfl)) (fun _ _ => rfl)))
  (pss_cons (ps_asg (pe_op (op_addK K rfl) (pe_ix (ix_seqK K rfl) (pv 0) pe_int (fun _ _ => rfl)) pe_int) (pg_sub (pv 0) pe_int set_list))
  (pss_one (ps_if (pt_cmpR op_geU (pv 2) (pe_op op_powU pe_int pe_int) (nomark _)) (pss_one (ps_asg (pv 2) (pg_sub (pv 0) pe_int set_list))) (pss_one (ps_asg (pe_op op_modU (pe_callTy (call_intU) (by rfl) M.b_int PyProof.Rows.boot_int (pa_cons (pe_op (op_addK K rfl) (pe_op (op_addK K rfl) (pe_op (op_mulK K rfl) (pe_ix (ix_seqK K rfl) (pv 0) pe_int (fun _ _ => rfl)) pe_int) (pe_op (op_mulK K rfl) (pv 2) pe_int)) pe_int) pa_nil)) pe_int) (pg_sub (pv 0) pe_int set_list))))))) pss_nil)
  (pss_cons (ps_if (pt_cmpR op_gtU (pe_ix (ix_seqK K rfl) (pv 0) pe_int (fun _ _ => rfl)) pe_int (nomark _)) (pss_cons (ps_set (i := 3) sc_law_draw.nd rfl (by first | exact Or.inl rfl | exact Or.inr rfl) (pe_op op_modU (pe_callTy (call_intU) (by rfl) M.b_int PyProof.Rows.boot_int (pa_cons (pe_ix (ix_seqK K rfl) (pv 0) pe_int (fun _ _ => rfl)) pa_nil)) (pv 1)))
  (pss_cons (ps_asg (pe_op op_divU (pe_ix (ix_seqK K rfl) (pv 0) pe_int (fun _ _ => rfl)) (pv 1)) (pg_sub (pv 0) pe_int set_list))
  (pss_one (ps_ret (pv 3))))) pss_nil)
  (pss_cons (ps_asg (pe_op op_modU (pe_callTy (call_intU) (by rfl) M.b_int PyProof.Rows.boot_int (pa_cons (pe_op (op_addK K rfl) (pe_op (op_mulK K rfl) (pe_ix (ix_seqK K rfl) (pv 0) pe_int (fun _ _ => rfl)) pe_int) pe_int) pa_nil)) pe_int) (pg_sub (pv 0) pe_int set_list))
  (pss_one (ps_ret (pe_op op_modU (pe_callTy (call_intU) (by rfl) M.b_int PyProof.Rows.boot_int (pa_cons (pe_op op_divU (pe_op op_modU (pe_callTy (call_intU) (by rfl) M.b_int PyProof.Rows.boot_int (pa_cons (pe_op (op_mulK K rfl) (pe_ix (ix_seqK K rfl) (pv 0) pe_int (fun _ _ => rfl)) (pe_ix (ix_seqK K rfl) (pv 0) pe_int (fun _ _ => rfl))) pa_nil)) pe_int) pe_int) pa_nil)) (pv 1))))))), by exact inferInstance⟩)
theorem sc_law_any : FnScope ["_law_box", "_law_row"] ["_law_box", "_law_row"] (defScope s_law_any) := ⟨rfl, rfl, rfl, by decide +kernel, rfl, by decide +kernel, by decide +kernel⟩
theorem ok_law_any {fd_law_any : FuncData} (F_law_any : FunD K "_law_any" "_law_any" (defArgs s_law_any) (defBody s_law_any) (defScope s_law_any) [] [] (He.ga K "_law_any") fd_law_any) (M : Md K mg) (G_law_draw : FnR P w K mg base (L2.CX P w) 2 (He.ga K "_law_draw") (spD K f_law_draw)) (K_law_draw : PySem.W.keepIn K (.ref (He.ga K "_law_draw")) = true) : FnR P w K mg base (L2.CX P w) 4 (He.ga K "_law_any") (spD K f_law_any) :=
  fnD fin_fz F_law_any sc_law_any (F_law_any.bindsN (ps := ["_law_box", "_law_row"]) fun _ _ _ _ _ _ us hl => match us, hl with | [_, _], _ => rfl) (fun cdv A outer st H E hr => ⟨_, (pss_one (ps_ret (pe_ix (ix_seqK K rfl) (pv 1) (pe_callX (E := (fun _ => E)) G_law_draw ⟨M.g_law_draw, K_law_draw⟩ (hr.mono (by decide)) (takes_of rfl rfl rfl rfl) (pa_cons (pv 0) (pa_cons (pe_callB (call_lenK K rfl) (by rfl) M.b_len PySem.boot_len (pa_cons (pv 1) pa_nil)) pa_nil))) (fun _ _ => rfl)))), by exact inferInstance⟩)
theorem sc_law_begin : FnScope ["_law_script", "_law_cell", "_law_cells", "_law_mark"] ["_law_script"] (defScope s_law_begin) := ⟨rfl, rfl, rfl, by decide +kernel, rfl, by decide +kernel, by decide +kernel⟩
theorem ok_law_begin {fd_law_begin : FuncData} (F_law_begin : FunD K "_law_begin" "_law_begin" (defArgs s_law_begin) (defBody s_law_begin) (defScope s_law_begin) [] [] (He.ga K "_law_begin") fd_law_begin) (M : Md K mg)  : FnR P w K mg base (L2.CX P w) 2 (He.ga K "_law_begin") (spD K f_law_begin) :=
  fnD fin_kp F_law_begin sc_law_begin (F_law_begin.bindsN (ps := ["_law_script"]) fun _ _ _ _ _ _ us hl => match us, hl with | [_], _ => rfl) (fun cdv A outer st H E hr => ⟨_, (pss_cons (slc_vs [1] (ps_setLc (i := 2) (own := [("_law_cell", 1)]) (by rfl) sc_law_begin.nd rfl rfl (sw_true rfl rfl rfl (by decide +kernel)) (pi_seqK K rfl (pe_slice (sl_K K rfl) (pv 0) po_none (po_some pe_int))) (blkOk_by (own := [("_law_cell", 1)]) (N := ["_law_script", "_law_cell", "_law_cells", "_law_mark"]) (sc := defScope s_law_begin) (by decide +kernel)) (fun _ _ _ _ _ => (pg_name (i := 1) sc_law_begin.nd rfl (by first | exact Or.inl rfl | exact Or.inr rfl))) (fun _ _ _ _ _ => pts_nil) (fun _ _ _ _ _ => (pe_callTy (call_intU) (by rfl) M.b_int PyProof.Rows.boot_int (pa_cons (pv 1) pa_nil)))))
  (pss_cons (ps_set (i := 3) sc_law_begin.nd rfl (by first | exact Or.inl rfl | exact Or.inr rfl) (pe_op (op_addK K rfl) pe_int (pe_op (op_mulK K rfl) pe_int (pe_callB (call_lenK K rfl) (by rfl) M.b_len PySem.boot_len (pa_cons (pv 2) pa_nil)))))
  (pss_cons (ps_for (passes_of rfl) rfl (pi_seqK K rfl (pv 2)) (pg_name (i := 1) sc_law_begin.nd rfl (by first | exact Or.inl rfl | exact Or.inr rfl))
    (pss_one (ps_set (i := 3) sc_law_begin.nd rfl (by first | exact Or.inl rfl | exact Or.inr rfl) (pe_op op_modU (pe_callTy (call_intU) (by rfl) M.b_int PyProof.Rows.boot_int (pa_cons (pe_op (op_addK K rfl) (pe_op (op_mulK K rfl) (pv 3) pe_int) (pv 1)) pa_nil)) pe_int))))
  (pss_one (ps_ret (pe_lstM (pa_cons (pv 2) (pa_cons pe_int (pa_cons pe_int (pa_cons (pv 3) pa_nil)))))))))), by exact inferInstance⟩)
theorem sc_law_loose : FnScope ["_law_box", "_law_bundle", "_law_things", "_law_deep", "_law_parts", "_law_count", "_law_thing", "_law_fewer", "_law_many", "_law_turn", "_law_words", "_law_word", "_law_spaces"] ["_law_box", "_law_bundle", "_law_things", "_law_deep"] (defScope s_law_loose) := ⟨rfl, rfl, rfl, by decide +kernel, rfl, by decide +kernel, by decide +kernel⟩
theorem ok_law_loose {fd_law_loose : FuncData} (F_law_loose : FunD K "_law_loose" "_law_loose" (defArgs s_law_loose) (defBody s_law_loose) (defScope s_law_loose) [] [] (He.ga K "_law_loose") fd_law_loose) (M : Md K mg) (G_law_draw : FnR P w K mg base (L2.CX P w) 2 (He.ga K "_law_draw") (spD K f_law_draw)) (K_law_draw : PySem.W.keepIn K (.ref (He.ga K "_law_draw")) = true) : FnR P w K mg base (L2.CX P w) 4 (He.ga K "_law_loose") (spD K f_law_loose) :=
  fnD fin_fz F_law_loose sc_law_loose (F_law_loose.bindsN (ps := ["_law_box", "_law_bundle", "_law_things", "_law_deep"]) fun _ _ _ _ _ _ us hl => match us, hl with | [_, _, _, _], _ => rfl) (fun cdv A outer st H E hr => ⟨_, (pss_cons (ps_set (i := 4) sc_law_loose.nd rfl (by first | exact Or.inl rfl | exact Or.inr rfl) (pe_lstM pa_nil))
  (pss_cons (ps_for (passes_of rfl) rfl (pi_zip2M K rfl (by rfl) M.b_zip (pa_cons (pv 1) (pa_cons (pv 2) pa_nil))) (pg_tupK (n := 2) K rfl rfl (pgs_cons (pg_name (i := 5) sc_law_loose.nd rfl (by first | exact Or.inl rfl | exact Or.inr rfl)) (pgs_cons (pg_name (i := 6) sc_law_loose.nd rfl (by first | exact Or.inl rfl | exact Or.inr rfl)) pgs_nil)))
    (pss_cons (ps_set (i := 7) sc_law_loose.nd rfl (by first | exact Or.inl rfl | exact Or.inr rfl) (pe_callX (E := (fun _ => E)) G_law_draw ⟨M.g_law_draw, K_law_draw⟩ (hr.mono (by decide)) (takes_of rfl rfl rfl rfl) (pa_cons (pv 0) (pa_cons (pe_op (op_addK K rfl) (pv 5) pe_int) pa_nil))))
  (pss_one (ps_for (passes_of rfl) rfl (pi_seqK K rfl (pe_tup (pa_cons (pv 7) (pa_cons (pe_op op_subU (pv 5) (pv 7)) pa_nil)))) (pg_name (i := 8) sc_law_loose.nd rfl (by first | exact Or.inl rfl | exact Or.inr rfl))
    (pss_one (ps_if (PW.pt (pw_or (pt_cmpR op_gtU (pv 8) pe_int (nomark _)) (pw_or1 (pt_cmpR (op_eqK K rfl hr.units) (pe_callX (E := (fun _ => E)) G_law_draw ⟨M.g_law_draw, K_law_draw⟩ (hr.mono (by decide)) (takes_of rfl rfl rfl rfl) (pa_cons (pv 0) (pa_cons pe_int pa_nil))) pe_int (nomark _))))) (pss_one (ps_expr (pe_appendK K rfl (pv 4) (pa_cons (pe_tup (pa_cons (pv 8) (pa_cons (pv 6) pa_nil))) pa_nil)))) pss_nil))))))
  (pss_cons (ps_set (i := 9) sc_law_loose.nd rfl (by first | exact Or.inl rfl | exact Or.inr rfl) (pe_callX (E := (fun _ => E)) G_law_draw ⟨M.g_law_draw, K_law_draw⟩ (hr.mono (by decide)) (takes_of rfl rfl rfl rfl) (pa_cons (pv 0) (pa_cons (pe_op (op_addK K rfl) (pe_callB (call_lenK K rfl) (by rfl) M.b_len PySem.boot_len (pa_cons (pv 4) pa_nil)) pe_int) pa_nil))))
  (pss_cons (ps_set (i := 10) sc_law_loose.nd rfl (by first | exact Or.inl rfl | exact Or.inr rfl) (pe_lstM pa_nil))
  (pss_cons (ps_for (passes_of rfl) rfl (pi_seqK K rfl (pe_op (op_addK K rfl) (pe_slice (sl_K K rfl) (pv 4) (po_some (pv 9)) po_none) (pe_slice (sl_K K rfl) (pv 4) po_none (po_some (pv 9))))) (pg_tupK (n := 2) K rfl rfl (pgs_cons (pg_name (i := 8) sc_law_loose.nd rfl (by first | exact Or.inl rfl | exact Or.inr rfl)) (pgs_cons (pg_name (i := 6) sc_law_loose.nd rfl (by first | exact Or.inl rfl | exact Or.inr rfl)) pgs_nil)))
    (pss_cons (ps_set (i := 11) sc_law_loose.nd rfl (by first | exact Or.inl rfl | exact Or.inr rfl) (pe_ifExp (PW.pt (pw_and (pt_cmpR (op_eqK K rfl hr.units) (pv 8) pe_int (nomark _)) (pw_and1 (pt_cmpR (op_eqK K rfl hr.units) (pe_callX (E := (fun _ => E)) G_law_draw ⟨M.g_law_draw, K_law_draw⟩ (hr.mono (by decide)) (takes_of rfl rfl rfl rfl) (pa_cons (pv 0) (pa_cons pe_int pa_nil))) pe_int (nomark _))))) (pv 6) (pe_op (op_addK K rfl) (pe_op (op_addK K rfl) (pe_callTy call_strU (by rfl) M.b_str (by decide +kernel) (pa_cons (pv 8) pa_nil)) pe_str) (pv 6))))
  (pss_one (ps_expr (pe_appendK K rfl (pv 10) (pa_cons (pe_ifExp (pt_cmpR (op_eqK K rfl hr.units) (pe_callX (E := (fun _ => E)) G_law_draw ⟨M.g_law_draw, K_law_draw⟩ (hr.mono (by decide)) (takes_of rfl rfl rfl rfl) (pa_cons (pv 0) (pa_cons pe_int pa_nil))) pe_int (nomark _)) (pe_op (op_addK K rfl) (pe_op (op_addK K rfl) (pe_op (op_mulK K rfl) pe_str (pv 3)) (pv 11)) (pe_op (op_mulK K rfl) pe_str (pv 3))) (pv 11)) pa_nil))))))
  (pss_cons (ps_set (i := 12) sc_law_loose.nd rfl (by first | exact Or.inl rfl | exact Or.inr rfl) (pe_op (op_mulK K rfl) pe_str (pe_callX (E := (fun _ => E)) G_law_draw ⟨M.g_law_draw, K_law_draw⟩ (hr.mono (by decide)) (takes_of rfl rfl rfl rfl) (pa_cons (pv 0) (pa_cons pe_int pa_nil)))))
  (pss_cons (ps_if (pt_cmpR (op_eqK K rfl hr.units) (pv 10) (pe_lst pa_nil) (nomark _)) (pss_one (ps_ret (pe_op (op_addK K rfl) (pe_op (op_addK K rfl) (pe_op (op_addK K rfl) (pe_op (op_addK K rfl) (pv 12) (pe_op (op_mulK K rfl) pe_str (pv 3))) pe_str) (pe_op (op_mulK K rfl) pe_str (pv 3))) (pv 12)))) pss_nil)
  (pss_one (ps_ret (pe_op (op_addK K rfl) (pe_op (op_addK K rfl) (pv 12) (pe_joinK K rfl (pe_op (op_addK K rfl) (pe_op (op_addK K rfl) (pv 12) pe_str) (pe_op (op_mulK K rfl) pe_str (pe_callX (E := (fun _ => E)) G_law_draw ⟨M.g_law_draw, K_law_draw⟩ (hr.mono (by decide)) (takes_of rfl rfl rfl rfl) (pa_cons (pv 0) (pa_cons pe_int pa_nil))))) (pv 10))) (pv 12))))))))))), by exact inferInstance⟩)
theorem sc_law_same : FnScope ["_law_found", "_law_due", "_law_kind", "_law_one", "_law_other"] ["_law_found", "_law_due"] (defScope s_law_same) := ⟨rfl, rfl, rfl, by decide +kernel, rfl, by decide +kernel, by decide +kernel⟩
theorem okr_law_same {fd_law_same : FuncData} (F_law_same : FunD K "_law_same" "_law_same" (defArgs s_law_same) (defBody s_law_same) (defScope s_law_same) [] [] (He.ga K "_law_same") fd_law_same) (M : Md K mg)  (K_law_same : PySem.W.keepIn K (.ref (He.ga K "_law_same")) = true) : ∀ n : Nat, FnR P w K mg base (L2.CX P w) (2 + n) (He.ga K "_law_same") (spD K (f_law_same n))
  | 0 => fun A outer s H us vs Q E hr e0 r h => by
      obtain ⟨_, _, _, _, _, _, _, _, h, _⟩ := h
      exact h.elim
  | n + 1 => by
    have ih := okr_law_same F_law_same M  K_law_same n
    have G_law_same := ih
    have e : 2 + (n + 1) = (2 + n) + 1 := by omega
    rw [e]
    exact fnD fin_fz F_law_same sc_law_same (F_law_same.bindsN (ps := ["_law_found", "_law_due"]) fun _ _ _ _ _ _ us hl => match us, hl with | [_, _], _ => rfl) (fun cdv A outer st H E hr => ⟨_, (pss_cons (ps_if (PW.pt (pw_or (pt_cmp (pc_isN (pv 1)) rfl) (pw_or1 (pt_cmp (pc_isN (pv 0)) rfl)))) (pss_one (ps_ret (pe_and (pe_cmp (pc_isN (pv 0)) rfl) (pe_one (pe_cmp (pc_isN (pv 1)) rfl))))) pss_nil)
  (pss_cons (ps_if (PW.pt (pw_or (pt_val (pe_callB (call_isiK' K rfl) (by rfl) M.b_isinstance PyProof.Rows.boot_isinstance (pa_cons (pv 1) (pa_cons (pe_bltn (v := .ty "bool") rfl M.b_bool (by decide +kernel) rfl) pa_nil)))) (pw_or1 (pt_val (pe_callB (call_isiK' K rfl) (by rfl) M.b_isinstance PyProof.Rows.boot_isinstance (pa_cons (pv 0) (pa_cons (pe_bltn (v := .ty "bool") rfl M.b_bool (by decide +kernel) rfl) pa_nil))))))) (pss_one (ps_ret (pe_and (pe_callB (call_isiK' K rfl) (by rfl) M.b_isinstance PyProof.Rows.boot_isinstance (pa_cons (pv 1) (pa_cons (pe_bltn (v := .ty "bool") rfl M.b_bool (by decide +kernel) rfl) pa_nil))) (pe_and (pe_callB (call_isiK' K rfl) (by rfl) M.b_isinstance PyProof.Rows.boot_isinstance (pa_cons (pv 0) (pa_cons (pe_bltn (v := .ty "bool") rfl M.b_bool (by decide +kernel) rfl) pa_nil))) (pe_one (pe_cmpR (op_eqK K rfl hr.units) (pv 0) (pv 1) (nomark _))))))) pss_nil)
  (pss_cons (ps_if (PW.pt (pw_or (pt_val (pe_callB (call_isiK' K rfl) (by rfl) M.b_isinstance PyProof.Rows.boot_isinstance (pa_cons (pv 1) (pa_cons (pe_bltn (v := .ty "int") rfl M.b_int (by decide +kernel) rfl) pa_nil)))) (pw_or1 (pt_val (pe_callB (call_isiK' K rfl) (by rfl) M.b_isinstance PyProof.Rows.boot_isinstance (pa_cons (pv 1) (pa_cons (pe_bltn (v := .ty "str") rfl M.b_str (by decide +kernel) rfl) pa_nil))))))) (pss_cons (ps_set (i := 2) sc_law_same.nd rfl (by first | exact Or.inl rfl | exact Or.inr rfl) (pe_and (pe_cmpR (op_eqK K rfl hr.units) (pe_callB (call_isiK' K rfl) (by rfl) M.b_isinstance PyProof.Rows.boot_isinstance (pa_cons (pv 0) (pa_cons (pe_bltn (v := .ty "int") rfl M.b_int (by decide +kernel) rfl) pa_nil))) (pe_callB (call_isiK' K rfl) (by rfl) M.b_isinstance PyProof.Rows.boot_isinstance (pa_cons (pv 1) (pa_cons (pe_bltn (v := .ty "int") rfl M.b_int (by decide +kernel) rfl) pa_nil))) (nomark _)) (pe_one (pe_cmpR (op_eqK K rfl hr.units) (pe_callB (call_isiK' K rfl) (by rfl) M.b_isinstance PyProof.Rows.boot_isinstance (pa_cons (pv 0) (pa_cons (pe_bltn (v := .ty "str") rfl M.b_str (by decide +kernel) rfl) pa_nil))) (pe_callB (call_isiK' K rfl) (by rfl) M.b_isinstance PyProof.Rows.boot_isinstance (pa_cons (pv 1) (pa_cons (pe_bltn (v := .ty "str") rfl M.b_str (by decide +kernel) rfl) pa_nil))) (nomark _)))))
  (pss_one (ps_ret (pe_and (pv 2) (pe_one (pe_cmpR (op_eqK K rfl hr.units) (pv 0) (pv 1) (nomark _))))))) pss_nil)
  (pss_cons (ps_if (PW.pt (pw_or (pt_cmpR (op_neK K rfl hr.units) (pe_callB (call_isiK' K rfl) (by rfl) M.b_isinstance PyProof.Rows.boot_isinstance (pa_cons (pv 1) (pa_cons (pe_bltn (v := .ty "list") rfl M.b_list (by decide +kernel) rfl) pa_nil))) (pe_callB (call_isiK' K rfl) (by rfl) M.b_isinstance PyProof.Rows.boot_isinstance (pa_cons (pv 0) (pa_cons (pe_bltn (v := .ty "list") rfl M.b_list (by decide +kernel) rfl) pa_nil))) (nomark _)) (pw_or1 (pt_cmpR (op_neK K rfl hr.units) (pe_callB (call_isiK' K rfl) (by rfl) M.b_isinstance PyProof.Rows.boot_isinstance (pa_cons (pv 1) (pa_cons (pe_bltn (v := .ty "tuple") rfl M.b_tuple (by decide +kernel) rfl) pa_nil))) (pe_callB (call_isiK' K rfl) (by rfl) M.b_isinstance PyProof.Rows.boot_isinstance (pa_cons (pv 0) (pa_cons (pe_bltn (v := .ty "tuple") rfl M.b_tuple (by decide +kernel) rfl) pa_nil))) (nomark _))))) (pss_one (ps_ret pe_bl)) pss_nil)
  (pss_one (ps_ret (pe_and (pe_cmpR (op_eqK K rfl hr.units) (pe_callB (call_lenK K rfl) (by rfl) M.b_len PySem.boot_len (pa_cons (pv 0) pa_nil)) (pe_callB (call_lenK K rfl) (by rfl) M.b_len PySem.boot_len (pa_cons (pv 1) pa_nil)) (nomark _)) (pe_one (pe_callB (call_allK K rfl rfl) (by rfl) M.b_all PyProof.Rows.boot_all (pa_cons (lc_vs [3, 4] (pe_lc (own := [("_law_one", 3), ("_law_other", 4)]) (by rfl) sc_law_same.nd (pi_zip2M K rfl (by rfl) M.b_zip (pa_cons (pv 0) (pa_cons (pv 1) pa_nil))) (blkOk_by (own := [("_law_one", 3), ("_law_other", 4)]) (N := ["_law_found", "_law_due", "_law_kind", "_law_one", "_law_other"]) (sc := defScope s_law_same) (by decide +kernel)) (fun _ _ _ _ _ => (pg_tupK (n := 2) K rfl rfl (pgs_cons (pg_name (i := 3) sc_law_same.nd rfl (by first | exact Or.inl rfl | exact Or.inr rfl)) (pgs_cons (pg_name (i := 4) sc_law_same.nd rfl (by first | exact Or.inl rfl | exact Or.inr rfl)) pgs_nil)))) (fun _ _ _ _ _ => pts_nil) (fun _ _ _ _ _ => (pe_callX (E := EN) G_law_same ⟨M.g_law_same, K_law_same⟩ (hr.mono (by omega)) take_no (pa_cons (pv 3) (pa_cons (pv 4) pa_nil)))))) pa_nil)))))))))), by exact inferInstance⟩)
theorem ok_law_same {fd_law_same : FuncData} (F_law_same : FunD K "_law_same" "_law_same" (defArgs s_law_same) (defBody s_law_same) (defScope s_law_same) [] [] (He.ga K "_law_same") fd_law_same) (M : Md K mg)  (K_law_same : PySem.W.keepIn K (.ref (He.ga K "_law_same")) = true) : FnR P w K mg base (L2.CX P w) 14 (He.ga K "_law_same") (spD K (f_law_same 12)) := (okr_law_same F_law_same M  K_law_same 12)
theorem sc_law_some_bundle : FnScope ["_law_box", "_law_width", "_law_cap", "_law_k"] ["_law_box", "_law_width", "_law_cap"] (defScope s_law_some_bundle) := ⟨rfl, rfl, rfl, by decide +kernel, rfl, by decide +kernel, by decide +kernel⟩
theorem ok_law_some_bundle {fd_law_some_bundle : FuncData} (F_law_some_bundle : FunD K "_law_some_bundle" "_law_some_bundle" (defArgs s_law_some_bundle) (defBody s_law_some_bundle) (defScope s_law_some_bundle) [] [] (He.ga K "_law_some_bundle") fd_law_some_bundle) (M : Md K mg) (G_law_draw : FnR P w K mg base (L2.CX P w) 2 (He.ga K "_law_draw") (spD K f_law_draw)) (K_law_draw : PySem.W.keepIn K (.ref (He.ga K "_law_draw")) = true) : FnR P w K mg base (L2.CX P w) 4 (He.ga K "_law_some_bundle") (spD K f_law_some_bundle) :=
  fnD fin_fz F_law_some_bundle sc_law_some_bundle (F_law_some_bundle.bindsN (ps := ["_law_box", "_law_width", "_law_cap"]) fun _ _ _ _ _ _ us hl => match us, hl with | [_, _, _], _ => rfl) (fun cdv A outer st H E hr => ⟨_, (pss_one (ps_ret (pe_callTy (call_tupK K rfl) (by rfl) M.b_tuple PyProof.Rows.boot_tuple (pa_cons (lc_vs [3] (pe_lc (own := [("_law_k", 3)]) (by rfl) sc_law_some_bundle.nd (pi_range1 (by rfl) M.b_range (pa_cons (pv 1) pa_nil)) (blkOk_by (own := [("_law_k", 3)]) (N := ["_law_box", "_law_width", "_law_cap", "_law_k"]) (sc := defScope s_law_some_bundle) (by decide +kernel)) (fun _ _ _ _ _ => (pg_name (i := 3) sc_law_some_bundle.nd rfl (by first | exact Or.inl rfl | exact Or.inr rfl))) (fun _ _ _ _ _ => pts_nil) (fun _ _ _ _ _ => (pe_callX (E := EN) G_law_draw ⟨M.g_law_draw, K_law_draw⟩ (hr.mono (by decide)) take_no (pa_cons (pv 0) (pa_cons (pe_op (op_addK K rfl) (pv 2) pe_int) pa_nil)))))) pa_nil)))), by exact inferInstance⟩)
theorem sc_law_some_things : FnScope ["_law_box", "_law_width", "_law_letters", "_law_stem", "_law_spot", "_law_first", "_law_way", "_law_lone", "_law_k"] ["_law_box", "_law_width"] (defScope s_law_some_things) := ⟨rfl, rfl, rfl, by decide +kernel, rfl, by decide +kernel, by decide +kernel⟩
theorem ok_law_some_things {fd_law_some_things : FuncData} (F_law_some_things : FunD K "_law_some_things" "_law_some_things" (defArgs s_law_some_things) (defBody s_law_some_things) (defScope s_law_some_things) [] [] (He.ga K "_law_some_things") fd_law_some_things) (M : Md K mg) (G_law_draw : FnR P w K mg base (L2.CX P w) 2 (He.ga K "_law_draw") (spD K f_law_draw)) (K_law_draw : PySem.W.keepIn K (.ref (He.ga K "_law_draw")) = true) : FnR P w K mg base (L2.CX P w) 4 (He.ga K "_law_some_things") (spD K f_law_some_things) :=
  fnD fin_fz F_law_some_things sc_law_some_things (F_law_some_things.bindsN (ps := ["_law_box", "_law_width"]) fun _ _ _ _ _ _ us hl => match us, hl with | [_, _], _ => rfl) (fun cdv A outer st H E hr => ⟨_, (pss_cons (ps_set (i := 2) sc_law_some_things.nd rfl (by first | exact Or.inl rfl | exact Or.inr rfl) pe_str)
  (pss_cons (ps_set (i := 3) sc_law_some_things.nd rfl (by first | exact Or.inl rfl | exact Or.inr rfl) (pe_joinK K rfl pe_str (lc_vs [8] (pe_lc (own := [("_law_k", 8)]) (by rfl) sc_law_some_things.nd (pi_range1 (by rfl) M.b_range (pa_cons (pe_callX (E := (fun _ => E)) G_law_draw ⟨M.g_law_draw, K_law_draw⟩ (hr.mono (by decide)) (takes_of rfl rfl rfl rfl) (pa_cons (pv 0) (pa_cons pe_int pa_nil))) pa_nil)) (blkOk_by (own := [("_law_k", 8)]) (N := ["_law_box", "_law_width", "_law_letters", "_law_stem", "_law_spot", "_law_first", "_law_way", "_law_lone", "_law_k"]) (sc := defScope s_law_some_things) (by decide +kernel)) (fun _ _ _ _ _ => (pg_name (i := 8) sc_law_some_things.nd rfl (by first | exact Or.inl rfl | exact Or.inr rfl))) (fun _ _ _ _ _ => pts_nil) (fun _ _ _ _ _ => (pe_ix (ix_seqK K rfl) (pv 2) (pe_callX (E := EN) G_law_draw ⟨M.g_law_draw, K_law_draw⟩ (hr.mono (by decide)) take_no (pa_cons (pv 0) (pa_cons pe_int pa_nil))) (fun _ _ => rfl)))))))
  (pss_cons (ps_asg (pe_tup (pa_cons (pe_callX (E := (fun _ => E)) G_law_draw ⟨M.g_law_draw, K_law_draw⟩ (hr.mono (by decide)) (takes_of rfl rfl rfl rfl) (pa_cons (pv 0) (pa_cons (pe_op (op_addK K rfl) (pe_callB (call_lenK K rfl) (by rfl) M.b_len PySem.boot_len (pa_cons (pv 3) pa_nil)) pe_int) pa_nil))) (pa_cons (pe_callX (E := (fun _ => E)) G_law_draw ⟨M.g_law_draw, K_law_draw⟩ (hr.mono (by decide)) (takes_of rfl rfl rfl rfl) (pa_cons (pv 0) (pa_cons pe_int pa_nil))) (pa_cons (pe_callX (E := (fun _ => E)) G_law_draw ⟨M.g_law_draw, K_law_draw⟩ (hr.mono (by decide)) (takes_of rfl rfl rfl rfl) (pa_cons (pv 0) (pa_cons pe_int pa_nil))) pa_nil)))) (pg_tupK (n := 3) K rfl rfl (pgs_cons (pg_name (i := 4) sc_law_some_things.nd rfl (by first | exact Or.inl rfl | exact Or.inr rfl)) (pgs_cons (pg_name (i := 5) sc_law_some_things.nd rfl (by first | exact Or.inl rfl | exact Or.inr rfl)) (pgs_cons (pg_name (i := 6) sc_law_some_things.nd rfl (by first | exact Or.inl rfl | exact Or.inr rfl)) pgs_nil)))))
  (pss_cons (ps_if (pt_cmpR (op_eqK K rfl hr.units) (pv 6) pe_int (nomark _)) (pss_one (ps_ret (lc_vs [8] (pe_lc (own := [("_law_k", 8)]) (by rfl) sc_law_some_things.nd (pi_range1 (by rfl) M.b_range (pa_cons (pv 1) pa_nil)) (blkOk_by (own := [("_law_k", 8)]) (N := ["_law_box", "_law_width", "_law_letters", "_law_stem", "_law_spot", "_law_first", "_law_way", "_law_lone", "_law_k"]) (sc := defScope s_law_some_things) (by decide +kernel)) (fun _ _ _ _ _ => (pg_name (i := 8) sc_law_some_things.nd rfl (by first | exact Or.inl rfl | exact Or.inr rfl))) (fun _ _ _ _ _ => pts_nil) (fun _ _ _ _ _ => (pe_op (op_addK K rfl) (pe_op (op_addK K rfl) (pe_slice (sl_K K rfl) (pv 3) po_none (po_some (pv 4))) (pe_ix (ix_seqK K rfl) (pv 2) (pe_op op_modU (pe_callTy (call_intU) (by rfl) M.b_int PyProof.Rows.boot_int (pa_cons (pe_op (op_addK K rfl) (pv 5) (pe_op (op_mulK K rfl) pe_int (pv 8))) pa_nil)) pe_int) (fun _ _ => rfl))) (pe_slice (sl_K K rfl) (pv 3) (po_some (pv 4)) po_none))))))) pss_nil)
  (pss_cons (ps_set (i := 7) sc_law_some_things.nd rfl (by first | exact Or.inl rfl | exact Or.inr rfl) (pe_ix (ix_seqK K rfl) (pv 2) (pv 5) (fun _ _ => rfl)))
  (pss_one (ps_ret (lc_vs [8] (pe_lc (own := [("_law_k", 8)]) (by rfl) sc_law_some_things.nd (pi_range1 (by rfl) M.b_range (pa_cons (pv 1) pa_nil)) (blkOk_by (own := [("_law_k", 8)]) (N := ["_law_box", "_law_width", "_law_letters", "_law_stem", "_law_spot", "_law_first", "_law_way", "_law_lone", "_law_k"]) (sc := defScope s_law_some_things) (by decide +kernel)) (fun _ _ _ _ _ => (pg_name (i := 8) sc_law_some_things.nd rfl (by first | exact Or.inl rfl | exact Or.inr rfl))) (fun _ _ _ _ _ => pts_nil) (fun _ _ _ _ _ => (pe_ix (ix_seqK K rfl) (pe_lst (pa_cons (pv 7) (pa_cons (pe_op (op_addK K rfl) (pv 7) (pv 7)) (pa_cons (pe_op (op_addK K rfl) (pe_ix (ix_seqK K rfl) (pv 2) (pe_op op_modU (pe_callTy (call_intU) (by rfl) M.b_int PyProof.Rows.boot_int (pa_cons (pe_op (op_addK K rfl) (pv 5) pe_int) pa_nil)) pe_int) (fun _ _ => rfl)) (pe_slice (sl_K K rfl) (pv 3) po_none (po_some pe_int))) (pa_cons (pe_op (op_addK K rfl) (pe_op (op_mulK K rfl) (pv 7) pe_int) (pe_ix (ix_seqK K rfl) (pv 2) (pe_op op_modU (pe_callTy (call_intU) (by rfl) M.b_int PyProof.Rows.boot_int (pa_cons (pe_op (op_addK K rfl) (pv 5) pe_int) pa_nil)) pe_int) (fun _ _ => rfl))) pa_nil))))) (pv 8) (fun _ _ => rfl)))))))))))), by exact inferInstance⟩)
theorem sc_law_text_of : FnScope ["_law_bundle", "_law_things", "_law_terms", "_law_count", "_law_thing"] ["_law_bundle", "_law_things"] (defScope s_law_text_of) := ⟨rfl, rfl, rfl, by decide +kernel, rfl, by decide +kernel, by decide +kernel⟩
theorem ok_law_text_of {fd_law_text_of : FuncData} (F_law_text_of : FunD K "_law_text_of" "_law_text_of" (defArgs s_law_text_of) (defBody s_law_text_of) (defScope s_law_text_of) [] [] (He.ga K "_law_text_of") fd_law_text_of) (M : Md K mg)  : FnR P w K mg base (L2.CX P w) 2 (He.ga K "_law_text_of") (spD K f_law_text_of) :=
  fnD fin_fz F_law_text_of sc_law_text_of (F_law_text_of.bindsN (ps := ["_law_bundle", "_law_things"]) fun _ _ _ _ _ _ us hl => match us, hl with | [_, _], _ => rfl) (fun cdv A outer st H E hr => ⟨_, (pss_cons (ps_set (i := 2) sc_law_text_of.nd rfl (by first | exact Or.inl rfl | exact Or.inr rfl) (pe_lstM pa_nil))
  (pss_cons (ps_for (passes_of rfl) rfl (pi_zip2M K rfl (by rfl) M.b_zip (pa_cons (pv 0) (pa_cons (pv 1) pa_nil))) (pg_tupK (n := 2) K rfl rfl (pgs_cons (pg_name (i := 3) sc_law_text_of.nd rfl (by first | exact Or.inl rfl | exact Or.inr rfl)) (pgs_cons (pg_name (i := 4) sc_law_text_of.nd rfl (by first | exact Or.inl rfl | exact Or.inr rfl)) pgs_nil)))
    (pss_one (ps_if (pt_cmpR op_gtU (pv 3) pe_int (nomark _)) (pss_one (ps_expr (pe_appendK K rfl (pv 2) (pa_cons (pe_ifExp (pt_cmpR (op_eqK K rfl hr.units) (pv 3) pe_int (nomark _)) (pv 4) (pe_op (op_addK K rfl) (pe_op (op_addK K rfl) (pe_callTy call_strU (by rfl) M.b_str (by decide +kernel) (pa_cons (pv 3) pa_nil)) pe_str) (pv 4))) pa_nil)))) pss_nil)))
  (pss_one (ps_ret (pe_ifExp (pt_cmpR (op_neK K rfl hr.units) (pv 2) (pe_lst pa_nil) (nomark _)) (pe_joinK K rfl pe_str (pv 2)) pe_str))))), by exact inferInstance⟩)
theorem sc_format_bundle : FnScope ["bundle", "things", "terms", "count", "thing"] ["bundle", "things"] (defScope s_format_bundle) := ⟨rfl, rfl, rfl, by decide +kernel, rfl, by decide +kernel, by decide +kernel⟩
theorem ok_format_bundle {fd_format_bundle : FuncData} (F_format_bundle : FunD K "format_bundle" "format_bundle" (defArgs s_format_bundle) (defBody s_format_bundle) (defScope s_format_bundle) [] [] (He.ga K "format_bundle") fd_format_bundle) (M : Md K mg)  : FnR P w K mg base (L2.CX P w) 2 (He.ga K "format_bundle") (spD K f_format_bundle) :=
  fnD fin_fz F_format_bundle sc_format_bundle (F_format_bundle.bindsN (ps := ["bundle", "things"]) fun _ _ _ _ _ _ us hl => match us, hl with | [_, _], _ => rfl) (fun cdv A outer st H E hr => ⟨_, (pss_cons (slc_vs [3, 4] (ps_setLc (i := 2) (own := [("count", 3), ("thing", 4)]) (by rfl) sc_format_bundle.nd rfl rfl (sw_true rfl rfl rfl (by decide +kernel)) (pi_zip2M K rfl (by rfl) M.b_zip (pa_cons (pv 0) (pa_cons (pv 1) pa_nil))) (blkOk_by (own := [("count", 3), ("thing", 4)]) (N := ["bundle", "things", "terms", "count", "thing"]) (sc := defScope s_format_bundle) (by decide +kernel)) (fun _ _ _ _ _ => (pg_tupK (n := 2) K rfl rfl (pgs_cons (pg_name (i := 3) sc_format_bundle.nd rfl (by first | exact Or.inl rfl | exact Or.inr rfl)) (pgs_cons (pg_name (i := 4) sc_format_bundle.nd rfl (by first | exact Or.inl rfl | exact Or.inr rfl)) pgs_nil)))) (fun _ _ _ _ _ => (pts_one (pt_cmpR op_gtU (pv 3) pe_int (nomark _)))) (fun _ _ _ _ _ => (pe_ifExp (pt_cmpR (op_eqK K rfl hr.units) (pv 3) pe_int (nomark _)) (pv 4) (pe_fstr (.cons (pe_fmt (pv 3)) (.cons pe_str (.cons (pe_fmt (pv 4)) .nil))))))))
  (pss_one (ps_ret (pe_ifExp (pt_cmpR (op_neK K rfl hr.units) (pv 2) (pe_lst pa_nil) (nomark _)) (pe_joinK K rfl pe_str (pv 2)) pe_str)))), by exact inferInstance⟩)
theorem sc_Reader_init : FnScope ["self", "text"] ["self", "text"] (defScope s_Reader_init) := ⟨rfl, rfl, rfl, by decide +kernel, rfl, by decide +kernel, by decide +kernel⟩
theorem ok_Reader_init {fd_Reader_init : FuncData} (F_Reader_init : FunD K "__init__" "Reader.__init__" (defArgs s_Reader_init) (defBody s_Reader_init) (defScope s_Reader_init) [] [] (He.ma K (He.ga K "Reader") "__init__") fd_Reader_init) (M : Md K mg)  : FnR P w K mg base (L2.CX P w) 2 (He.ma K (He.ga K "Reader") "__init__") (spD K f_Reader_init) :=
  fnD fin_fz F_Reader_init sc_Reader_init (F_Reader_init.bindsN (ps := ["self", "text"]) fun _ _ _ _ _ _ us hl => match us, hl with | [_, _], _ => rfl) (fun cdv A outer st H E hr => ⟨_, (pss_cons (ps_fldC M.cl_Reader M.na_Reader_source (pv 0) (pv 1))
  (pss_one (ps_fldC M.cl_Reader M.na_Reader_at (pv 0) pe_int))), by exact inferInstance⟩)
theorem sc_Reader_sign : FnScope ["self"] ["self"] (defScope s_Reader_sign) := ⟨rfl, rfl, rfl, by decide +kernel, rfl, by decide +kernel, by decide +kernel⟩
theorem ok_Reader_sign {fd_Reader_sign : FuncData} (F_Reader_sign : FunD K "sign" "Reader.sign" (defArgs s_Reader_sign) (defBody s_Reader_sign) (defScope s_Reader_sign) [] [] (He.ma K (He.ga K "Reader") "sign") fd_Reader_sign) (M : Md K mg)  : FnR P w K mg base (L2.CX P w) 2 (He.ma K (He.ga K "Reader") "sign") (spD K f_Reader_sign) :=
  fnD fin_fz F_Reader_sign sc_Reader_sign (F_Reader_sign.bindsN (ps := ["self"]) fun _ _ _ _ _ _ us hl => match us, hl with | [_], _ => rfl) (fun cdv A outer st H E hr => ⟨_, (pss_cons (ps_whileN 100000 (ps_while (passes_of rfl) (PW.pt (pw_and (pt_cmpR (op_ltK K rfl hr.units) (pe_fldC M.cl_Reader M.na_Reader_at (pv 0)) (pe_callB (call_lenK K rfl) (by rfl) M.b_len PySem.boot_len (pa_cons (pe_fldC M.cl_Reader M.na_Reader_source (pv 0)) pa_nil)) (nomark _)) (pw_and1 (pt_cmpR (op_eqK K rfl hr.units) (pe_ix (ix_seqK K rfl) (pe_fldC M.cl_Reader M.na_Reader_source (pv 0)) (pe_fldC M.cl_Reader M.na_Reader_at (pv 0)) (fun _ _ => rfl)) pe_str (nomark _)))))
    (pss_one (ps_fldaugC M.cl_Reader M.na_Reader_at in_addU (pv 0) pe_int))))
  (pss_one (ps_ret (pe_slice (sl_K K rfl) (pe_fldC M.cl_Reader M.na_Reader_source (pv 0)) (po_some (pe_fldC M.cl_Reader M.na_Reader_at (pv 0))) (po_some (pe_op (op_addK K rfl) (pe_fldC M.cl_Reader M.na_Reader_at (pv 0)) pe_int)))))), by exact inferInstance⟩)
theorem sc_Reader_expect : FnScope ["self", "wanted"] ["self", "wanted"] (defScope s_Reader_expect) := ⟨rfl, rfl, rfl, by decide +kernel, rfl, by decide +kernel, by decide +kernel⟩
theorem ok_Reader_expect {fd_Reader_expect : FuncData} (F_Reader_expect : FunD K "expect" "Reader.expect" (defArgs s_Reader_expect) (defBody s_Reader_expect) (defScope s_Reader_expect) [] [] (He.ma K (He.ga K "Reader") "expect") fd_Reader_expect) (M : Md K mg) (G_Reader_sign : FnR P w K mg base (L2.CX P w) 2 (He.ma K (He.ga K "Reader") "sign") (spD K f_Reader_sign)) : FnR P w K mg base (L2.CX P w) 4 (He.ma K (He.ga K "Reader") "expect") (spD K f_Reader_expect) :=
  fnD fin_fz F_Reader_expect sc_Reader_expect (F_Reader_expect.bindsN (ps := ["self", "wanted"]) fun _ _ _ _ _ _ us hl => match us, hl with | [_, _], _ => rfl) (fun cdv A outer st H E hr => ⟨_, (pss_cons (ps_if (pt_cmpR (op_neK K rfl hr.units) (pe_methR0 M.cl_Reader M.me_Reader_sign G_Reader_sign (hr.mono (by decide)) (passes_tk (takes_of rfl rfl rfl rfl)) (pv 0)) (pv 1) (nomark _)) (pss_one ps_never) pss_nil)
  (pss_one (ps_fldaugC M.cl_Reader M.na_Reader_at in_addU (pv 0) (pe_callB (call_lenK K rfl) (by rfl) M.b_len PySem.boot_len (pa_cons (pv 1) pa_nil))))), by exact inferInstance⟩)
theorem sc_Reader_run : FnScope ["self", "signs", "most", "start"] ["self", "signs", "most"] (defScope s_Reader_run) := ⟨rfl, rfl, rfl, by decide +kernel, rfl, by decide +kernel, by decide +kernel⟩
theorem ok_Reader_run {fd_Reader_run : FuncData} (F_Reader_run : FunD K "run" "Reader.run" (defArgs s_Reader_run) (defBody s_Reader_run) (defScope s_Reader_run) [] [] (He.ma K (He.ga K "Reader") "run") fd_Reader_run) (M : Md K mg)  : FnR P w K mg base (L2.CX P w) 2 (He.ma K (He.ga K "Reader") "run") (spD K f_Reader_run) :=
  fnD fin_fz F_Reader_run sc_Reader_run (F_Reader_run.bindsN (ps := ["self", "signs", "most"]) fun _ _ _ _ _ _ us hl => match us, hl with | [_, _, _], _ => rfl) (fun cdv A outer st H E hr => ⟨_, (pss_cons (ps_set (i := 3) sc_Reader_run.nd rfl (by first | exact Or.inl rfl | exact Or.inr rfl) (pe_fldC M.cl_Reader M.na_Reader_at (pv 0)))
  (pss_cons (ps_whileN 100000 (ps_while (passes_of rfl) (PW.pt (pw_and (pt_cmpR (op_ltK K rfl hr.units) (pe_fldC M.cl_Reader M.na_Reader_at (pv 0)) (pe_callB (call_lenK K rfl) (by rfl) M.b_len PySem.boot_len (pa_cons (pe_fldC M.cl_Reader M.na_Reader_source (pv 0)) pa_nil)) (nomark _)) (pw_and1 (pt_cmpR op_inS (pe_ix (ix_seqK K rfl) (pe_fldC M.cl_Reader M.na_Reader_source (pv 0)) (pe_fldC M.cl_Reader M.na_Reader_at (pv 0)) (fun _ _ => rfl)) (pv 1) (by rfl)))))
    (pss_cons (ps_if (pt_cmpR (op_eqK K rfl hr.units) (pe_op op_subU (pe_fldC M.cl_Reader M.na_Reader_at (pv 0)) (pv 3)) (pv 2) (nomark _)) (pss_one ps_never) pss_nil)
  (pss_cons (ps_if (PW.pt (pw_and (pt_cmpR (op_eqK K rfl hr.units) (pv 1) (pe_glob (v := .str "0123456789") rfl (Classical.choose_spec M.c_DIGITS) ⟨_, rfl⟩) (nomark _)) (pw_and (pt_cmpR op_gtU (pe_fldC M.cl_Reader M.na_Reader_at (pv 0)) (pv 3) (nomark _)) (pw_and1 (pt_cmpR (op_eqK K rfl hr.units) (pe_ix (ix_seqK K rfl) (pe_fldC M.cl_Reader M.na_Reader_source (pv 0)) (pv 3) (fun _ _ => rfl)) pe_str (nomark _)))))) (pss_one ps_never) pss_nil)
  (pss_one (ps_fldaugC M.cl_Reader M.na_Reader_at in_addU (pv 0) pe_int))))))
  (pss_cons (ps_if (PW.pt (pw_and (pt_cmpR op_gtU (pe_fldC M.cl_Reader M.na_Reader_at (pv 0)) (pv 3) (nomark _)) (pw_and (pt_cmpR (op_ltK K rfl hr.units) (pe_fldC M.cl_Reader M.na_Reader_at (pv 0)) (pe_callB (call_lenK K rfl) (by rfl) M.b_len PySem.boot_len (pa_cons (pe_fldC M.cl_Reader M.na_Reader_source (pv 0)) pa_nil)) (nomark _)) (pw_and1 (pt_cmpR op_inS (pe_ix (ix_seqK K rfl) (pe_fldC M.cl_Reader M.na_Reader_source (pv 0)) (pe_fldC M.cl_Reader M.na_Reader_at (pv 0)) (fun _ _ => rfl)) (pe_op (op_addK K rfl) (pe_glob (v := .str "abcdefghijklmnopqrstuvwxyz") rfl (Classical.choose_spec M.c_SMALL) ⟨_, rfl⟩) (pe_glob (v := .str "0123456789") rfl (Classical.choose_spec M.c_DIGITS) ⟨_, rfl⟩)) (by rfl)))))) (pss_one ps_never) pss_nil)
  (pss_one (ps_ret (pe_slice (sl_K K rfl) (pe_fldC M.cl_Reader M.na_Reader_source (pv 0)) (po_some (pv 3)) (po_some (pe_fldC M.cl_Reader M.na_Reader_at (pv 0))))))))), by exact inferInstance⟩)
theorem sc_Reader_many : FnScope ["self"] ["self"] (defScope s_Reader_many) := ⟨rfl, rfl, rfl, by decide +kernel, rfl, by decide +kernel, by decide +kernel⟩
theorem ok_Reader_many {fd_Reader_many : FuncData} (F_Reader_many : FunD K "many" "Reader.many" (defArgs s_Reader_many) (defBody s_Reader_many) (defScope s_Reader_many) [] [] (He.ma K (He.ga K "Reader") "many") fd_Reader_many) (M : Md K mg) (G_Reader_run : FnR P w K mg base (L2.CX P w) 2 (He.ma K (He.ga K "Reader") "run") (spD K f_Reader_run)) (G_Reader_sign : FnR P w K mg base (L2.CX P w) 2 (He.ma K (He.ga K "Reader") "sign") (spD K f_Reader_sign)) : FnR P w K mg base (L2.CX P w) 4 (He.ma K (He.ga K "Reader") "many") (spD K f_Reader_many) :=
  fnD fin_fz F_Reader_many sc_Reader_many (F_Reader_many.bindsN (ps := ["self"]) fun _ _ _ _ _ _ us hl => match us, hl with | [_], _ => rfl) (fun cdv A outer st H E hr => ⟨_, (pss_cons (ps_if (PW.pt (pw_or (pt_cmpR (op_eqK K rfl hr.units) (pe_methR0 M.cl_Reader M.me_Reader_sign G_Reader_sign (hr.mono (by decide)) (passes_tk (takes_of rfl rfl rfl rfl)) (pv 0)) pe_str (nomark _)) (pw_or1 (pt_cmpR op_notInS (pe_methR0 M.cl_Reader M.me_Reader_sign G_Reader_sign (hr.mono (by decide)) (passes_tk (takes_of rfl rfl rfl rfl)) (pv 0)) (pe_glob (v := .str "0123456789") rfl (Classical.choose_spec M.c_DIGITS) ⟨_, rfl⟩) (by rfl))))) (pss_one (ps_ret pe_non)) pss_nil)
  (pss_one (ps_ret (pe_callTy (call_intV) (by rfl) M.b_int PyProof.Rows.boot_int (pa_cons (pe_methR (pv 0) M.cl_Reader M.me_Reader_run G_Reader_run (hr.mono (by decide)) (passes_tk (takes_of rfl rfl rfl rfl)) (pa_cons (pe_glob (v := .str "0123456789") rfl (Classical.choose_spec M.c_DIGITS) ⟨_, rfl⟩) (pa_cons (pe_glob (v := .int 3) rfl (Classical.choose_spec M.c_LONGEST_NUMBER) ⟨_, rfl⟩) pa_nil))) pa_nil))))), by exact inferInstance⟩)
theorem sc_Reader_atom : FnScope ["self", "depth", "many", "sign", "found", "word", "count"] ["self", "depth", "many"] (defScope s_Reader_atom) := ⟨rfl, rfl, rfl, by decide +kernel, rfl, by decide +kernel, by decide +kernel⟩
theorem sc_Reader_terms : FnScope ["self", "depth", "many", "sign", "found"] ["self", "depth"] (defScope s_Reader_terms) := ⟨rfl, rfl, rfl, by decide +kernel, rfl, by decide +kernel, by decide +kernel⟩
theorem okr_Reader_atom_Reader_terms {fd_Reader_atom : FuncData} (F_Reader_atom : FunD K "atom" "Reader.atom" (defArgs s_Reader_atom) (defBody s_Reader_atom) (defScope s_Reader_atom) [] [] (He.ma K (He.ga K "Reader") "atom") fd_Reader_atom) {fd_Reader_terms : FuncData} (F_Reader_terms : FunD K "terms" "Reader.terms" (defArgs s_Reader_terms) (defBody s_Reader_terms) (defScope s_Reader_terms) [] [] (He.ma K (He.ga K "Reader") "terms") fd_Reader_terms) (M : Md K mg) (G_Reader_expect : FnR P w K mg base (L2.CX P w) 4 (He.ma K (He.ga K "Reader") "expect") (spD K f_Reader_expect)) (G_Reader_run : FnR P w K mg base (L2.CX P w) 2 (He.ma K (He.ga K "Reader") "run") (spD K f_Reader_run)) (G_Reader_sign : FnR P w K mg base (L2.CX P w) 2 (He.ma K (He.ga K "Reader") "sign") (spD K f_Reader_sign)) (G_Reader_many : FnR P w K mg base (L2.CX P w) 4 (He.ma K (He.ga K "Reader") "many") (spD K f_Reader_many))  : ∀ n : Nat, FnR P w K mg base (L2.CX P w) (6 + n) (He.ma K (He.ga K "Reader") "atom") (spD K (f_Reader_atom n)) ∧ FnR P w K mg base (L2.CX P w) (6 + n) (He.ma K (He.ga K "Reader") "terms") (spD K (f_Reader_terms n))
  | 0 => ⟨fun A outer s H us vs Q E hr e0 r h => by
      obtain ⟨_, _, _, _, _, _, _, _, h, _⟩ := h
      exact h.elim, fun A outer s H us vs Q E hr e0 r h => by
      obtain ⟨_, _, _, _, _, _, _, _, h, _⟩ := h
      exact h.elim⟩
  | n + 1 => by
    have ih := okr_Reader_atom_Reader_terms F_Reader_atom F_Reader_terms M G_Reader_expect G_Reader_run G_Reader_sign G_Reader_many  n
    obtain ⟨G_Reader_atom, G_Reader_terms⟩ := ih
    have e : 6 + (n + 1) = (6 + n) + 1 := by omega
    rw [e]
    exact ⟨fnD fin_fz F_Reader_atom sc_Reader_atom (F_Reader_atom.bindsN (ps := ["self", "depth", "many"]) fun _ _ _ _ _ _ us hl => match us, hl with | [_, _, _], _ => rfl) (fun cdv A outer st H E hr => ⟨_, (pss_cons (ps_set (i := 3) sc_Reader_atom.nd rfl (by first | exact Or.inl rfl | exact Or.inr rfl) (pe_methR0 M.cl_Reader M.me_Reader_sign G_Reader_sign (hr.mono (by omega)) (passes_tk (takes_of rfl rfl rfl rfl)) (pv 0)))
  (pss_cons (ps_if (PW.pt (pw_and (pt_cmpR (op_eqK K rfl hr.units) (pv 3) pe_str (nomark _)) (pw_and1 (pt_cmpR (op_ltK K rfl hr.units) (pv 1) (pe_glob (v := .int 8) rfl (Classical.choose_spec M.c_MOST_OPEN) ⟨_, rfl⟩) (nomark _))))) (pss_cons (ps_fldaugC M.cl_Reader M.na_Reader_at in_addU (pv 0) pe_int)
  (pss_cons (ps_set (i := 4) sc_Reader_atom.nd rfl (by first | exact Or.inl rfl | exact Or.inr rfl) (pe_methR (pv 0) M.cl_Reader M.me_Reader_terms G_Reader_terms (hr.mono (by omega)) (passes_tk (takes_of rfl rfl rfl rfl)) (pa_cons (pe_op (op_addK K rfl) (pv 1) pe_int) pa_nil)))
  (pss_one (ps_expr (pe_methR (pv 0) M.cl_Reader M.me_Reader_expect G_Reader_expect (hr.mono (by omega)) (passes_tk (takes_of rfl rfl rfl rfl)) (pa_cons pe_str pa_nil)))))) (pss_one (ps_if (PW.pt (pw_and (pt_cmpR (op_neK K rfl hr.units) (pv 3) pe_str (nomark _)) (pw_and1 (pt_cmpR op_inS (pv 3) (pe_glob (v := .str "abcdefghijklmnopqrstuvwxyz") rfl (Classical.choose_spec M.c_SMALL) ⟨_, rfl⟩) (by rfl))))) (pss_one (ps_set (i := 4) sc_Reader_atom.nd rfl (by first | exact Or.inl rfl | exact Or.inr rfl) (pe_lst (pa_cons (pe_tup (pa_cons (pe_methR (pv 0) M.cl_Reader M.me_Reader_run G_Reader_run (hr.mono (by omega)) (passes_tk (takes_of rfl rfl rfl rfl)) (pa_cons (pe_glob (v := .str "abcdefghijklmnopqrstuvwxyz") rfl (Classical.choose_spec M.c_SMALL) ⟨_, rfl⟩) (pa_cons (pe_glob (v := .int 6) rfl (Classical.choose_spec M.c_LONGEST_THING) ⟨_, rfl⟩) pa_nil))) (pa_cons pe_int pa_nil))) pa_nil)))) (pss_one ps_never))))
  (pss_cons (ps_if (pt_cmp (pc_isN (pv 2)) rfl) (pss_one (ps_ret (pv 4))) pss_nil)
  (pss_one (ps_ret (lc_vs [5, 6] (pe_lc (own := [("word", 5), ("count", 6)]) (by rfl) sc_Reader_atom.nd (pi_seqK K rfl (pv 4)) (blkOk_by (own := [("word", 5), ("count", 6)]) (N := ["self", "depth", "many", "sign", "found", "word", "count"]) (sc := defScope s_Reader_atom) (by decide +kernel)) (fun _ _ _ _ _ => (pg_tupK (n := 2) K rfl rfl (pgs_cons (pg_name (i := 5) sc_Reader_atom.nd rfl (by first | exact Or.inl rfl | exact Or.inr rfl)) (pgs_cons (pg_name (i := 6) sc_Reader_atom.nd rfl (by first | exact Or.inl rfl | exact Or.inr rfl)) pgs_nil)))) (fun _ _ _ _ _ => pts_nil) (fun _ _ _ _ _ => (pe_tup (pa_cons (pv 5) (pa_cons (pe_op (op_mulK K rfl) (pv 6) (pv 2)) pa_nil))))))))))), by exact inferInstance⟩),
      fnD fin_fz F_Reader_terms sc_Reader_terms (F_Reader_terms.bindsN (ps := ["self", "depth"]) fun _ _ _ _ _ _ us hl => match us, hl with | [_, _], _ => rfl) (fun cdv A outer st H E hr => ⟨_, (pss_cons (ps_set (i := 2) sc_Reader_terms.nd rfl (by first | exact Or.inl rfl | exact Or.inr rfl) (pe_methR0 M.cl_Reader M.me_Reader_many G_Reader_many (hr.mono (by omega)) (passes_tk (takes_of rfl rfl rfl rfl)) (pv 0)))
  (pss_cons (ps_set (i := 3) sc_Reader_terms.nd rfl (by first | exact Or.inl rfl | exact Or.inr rfl) (pe_methR0 M.cl_Reader M.me_Reader_sign G_Reader_sign (hr.mono (by omega)) (passes_tk (takes_of rfl rfl rfl rfl)) (pv 0)))
  (pss_cons (ps_if (PW.pt (pw_and (pt_cmpR (op_eqK K rfl hr.units) (pv 2) pe_int (nomark _)) (pw_and (pt_cmpR (op_neK K rfl hr.units) (pv 3) pe_str (nomark _)) (pw_and1 (PW.pt (pw_or (pt_cmpR (op_eqK K rfl hr.units) (pv 3) pe_str (nomark _)) (pw_or1 (pt_cmpR op_notInS (pv 3) (pe_glob (v := .str "abcdefghijklmnopqrstuvwxyz") rfl (Classical.choose_spec M.c_SMALL) ⟨_, rfl⟩) (by rfl))))))))) (pss_one (ps_ret (pe_lst pa_nil))) pss_nil)
  (pss_cons (ps_set (i := 4) sc_Reader_terms.nd rfl (by first | exact Or.inl rfl | exact Or.inr rfl) (pe_methR (pv 0) M.cl_Reader M.me_Reader_atom G_Reader_atom (hr.mono (by omega)) (passes_tk (takes_of rfl rfl rfl rfl)) (pa_cons (pv 1) (pa_cons (pv 2) pa_nil))))
  (pss_cons (ps_whileN 100000 (ps_while (passes_of rfl) (pt_cmpR (op_eqK K rfl hr.units) (pe_methR0 M.cl_Reader M.me_Reader_sign G_Reader_sign (hr.mono (by omega)) (passes_tk (takes_of rfl rfl rfl rfl)) (pv 0)) pe_str (nomark _))
    (pss_cons (ps_fldaugC M.cl_Reader M.na_Reader_at in_addU (pv 0) pe_int)
  (pss_one (ps_set (i := 4) sc_Reader_terms.nd rfl (by first | exact Or.inl rfl | exact Or.inr rfl) (pe_op (op_addK K rfl) (pv 4) (pe_methR (pv 0) M.cl_Reader M.me_Reader_atom G_Reader_atom (hr.mono (by omega)) (passes_tk (takes_of rfl rfl rfl rfl)) (pa_cons (pv 1) (pa_cons (pe_methR0 M.cl_Reader M.me_Reader_many G_Reader_many (hr.mono (by omega)) (passes_tk (takes_of rfl rfl rfl rfl)) (pv 0)) pa_nil)))))))))
  (pss_one (ps_ret (pv 4)))))))), by exact inferInstance⟩)⟩
theorem ok_Reader_atom {fd_Reader_atom : FuncData} (F_Reader_atom : FunD K "atom" "Reader.atom" (defArgs s_Reader_atom) (defBody s_Reader_atom) (defScope s_Reader_atom) [] [] (He.ma K (He.ga K "Reader") "atom") fd_Reader_atom) {fd_Reader_terms : FuncData} (F_Reader_terms : FunD K "terms" "Reader.terms" (defArgs s_Reader_terms) (defBody s_Reader_terms) (defScope s_Reader_terms) [] [] (He.ma K (He.ga K "Reader") "terms") fd_Reader_terms) (M : Md K mg) (G_Reader_expect : FnR P w K mg base (L2.CX P w) 4 (He.ma K (He.ga K "Reader") "expect") (spD K f_Reader_expect)) (G_Reader_run : FnR P w K mg base (L2.CX P w) 2 (He.ma K (He.ga K "Reader") "run") (spD K f_Reader_run)) (G_Reader_sign : FnR P w K mg base (L2.CX P w) 2 (He.ma K (He.ga K "Reader") "sign") (spD K f_Reader_sign)) (G_Reader_many : FnR P w K mg base (L2.CX P w) 4 (He.ma K (He.ga K "Reader") "many") (spD K f_Reader_many))  : FnR P w K mg base (L2.CX P w) 26 (He.ma K (He.ga K "Reader") "atom") (spD K (f_Reader_atom 20)) := (okr_Reader_atom_Reader_terms F_Reader_atom F_Reader_terms M G_Reader_expect G_Reader_run G_Reader_sign G_Reader_many  20).1
theorem ok_Reader_terms {fd_Reader_atom : FuncData} (F_Reader_atom : FunD K "atom" "Reader.atom" (defArgs s_Reader_atom) (defBody s_Reader_atom) (defScope s_Reader_atom) [] [] (He.ma K (He.ga K "Reader") "atom") fd_Reader_atom) {fd_Reader_terms : FuncData} (F_Reader_terms : FunD K "terms" "Reader.terms" (defArgs s_Reader_terms) (defBody s_Reader_terms) (defScope s_Reader_terms) [] [] (He.ma K (He.ga K "Reader") "terms") fd_Reader_terms) (M : Md K mg) (G_Reader_expect : FnR P w K mg base (L2.CX P w) 4 (He.ma K (He.ga K "Reader") "expect") (spD K f_Reader_expect)) (G_Reader_run : FnR P w K mg base (L2.CX P w) 2 (He.ma K (He.ga K "Reader") "run") (spD K f_Reader_run)) (G_Reader_sign : FnR P w K mg base (L2.CX P w) 2 (He.ma K (He.ga K "Reader") "sign") (spD K f_Reader_sign)) (G_Reader_many : FnR P w K mg base (L2.CX P w) 4 (He.ma K (He.ga K "Reader") "many") (spD K f_Reader_many))  : FnR P w K mg base (L2.CX P w) 26 (He.ma K (He.ga K "Reader") "terms") (spD K (f_Reader_terms 20)) := (okr_Reader_atom_Reader_terms F_Reader_atom F_Reader_terms M G_Reader_expect G_Reader_run G_Reader_sign G_Reader_many  20).2
theorem sc_bundle_terms : FnScope ["text", "reader", "found"] ["text"] (defScope s_bundle_terms) := ⟨rfl, rfl, rfl, by decide +kernel, rfl, by decide +kernel, by decide +kernel⟩
theorem ok_bundle_terms {fd_bundle_terms : FuncData} (F_bundle_terms : FunD K "bundle_terms" "bundle_terms" (defArgs s_bundle_terms) (defBody s_bundle_terms) (defScope s_bundle_terms) [] [] (He.ga K "bundle_terms") fd_bundle_terms) (M : Md K mg) (G_Reader_init : FnR P w K mg base (L2.CX P w) 2 (He.ma K (He.ga K "Reader") "__init__") (spD K f_Reader_init)) (G_Reader_expect : FnR P w K mg base (L2.CX P w) 4 (He.ma K (He.ga K "Reader") "expect") (spD K f_Reader_expect)) (G_Reader_terms : FnR P w K mg base (L2.CX P w) 26 (He.ma K (He.ga K "Reader") "terms") (spD K (f_Reader_terms 20))) : FnR P w K mg base (L2.CX P w) 28 (He.ga K "bundle_terms") (spD K f_bundle_terms) :=
  fnD fin_fz F_bundle_terms sc_bundle_terms (F_bundle_terms.bindsN (ps := ["text"]) fun _ _ _ _ _ _ us hl => match us, hl with | [_], _ => rfl) (fun cdv A outer st H E hr => ⟨_, (pss_cons (ps_set (i := 1) sc_bundle_terms.nd rfl (by first | exact Or.inl rfl | exact Or.inr rfl) (pe_makeF kp (StX.pe_makeR M.mk_Reader G_Reader_init (hr.mono (by decide)) rfl M.g_Reader (passes_tk (takes_of rfl rfl rfl rfl)) (pa_cons (pv 0) pa_nil))))
  (pss_cons (ps_set (i := 2) sc_bundle_terms.nd rfl (by first | exact Or.inl rfl | exact Or.inr rfl) (pe_methR (pv 1) M.cl_Reader M.me_Reader_terms G_Reader_terms (hr.mono (by decide)) (passes_tk (takes_of rfl rfl rfl rfl)) (pa_cons pe_int pa_nil)))
  (pss_cons (ps_expr (pe_methR (pv 1) M.cl_Reader M.me_Reader_expect G_Reader_expect (hr.mono (by decide)) (passes_tk (takes_of rfl rfl rfl rfl)) (pa_cons pe_str pa_nil)))
  (pss_one (ps_ret (pv 2)))))), by exact inferInstance⟩)
theorem sc_check_size : FnScope ["bundle"] ["bundle"] (defScope s_check_size) := ⟨rfl, rfl, rfl, by decide +kernel, rfl, by decide +kernel, by decide +kernel⟩
theorem ok_check_size {fd_check_size : FuncData} (F_check_size : FunD K "check_size" "check_size" (defArgs s_check_size) (defBody s_check_size) (defScope s_check_size) [] [] (He.ga K "check_size") fd_check_size) (M : Md K mg)  : FnR P w K mg base (L2.CX P w) 2 (He.ga K "check_size") (spD K f_check_size) :=
  fnD fin_fz F_check_size sc_check_size (F_check_size.bindsN (ps := ["bundle"]) fun _ _ _ _ _ _ us hl => match us, hl with | [_], _ => rfl) (fun cdv A outer st H E hr => ⟨_, (pss_one (ps_if (pt_cmpR op_gtU (pe_callB (call_maxK K rfl rfl) (by rfl) M.b_max (by decide +kernel) (pa_cons (pv 0) pa_nil)) (pe_glob (v := .int 60) rfl (Classical.choose_spec M.c_MOST_COUNT) ⟨_, rfl⟩) (nomark _)) (pss_one ps_never) pss_nil)), by exact inferInstance⟩)
theorem sc_check_words : FnScope ["terms", "things", "word", "count"] ["terms", "things"] (defScope s_check_words) := ⟨rfl, rfl, rfl, by decide +kernel, rfl, by decide +kernel, by decide +kernel⟩
theorem ok_check_words {fd_check_words : FuncData} (F_check_words : FunD K "check_words" "check_words" (defArgs s_check_words) (defBody s_check_words) (defScope s_check_words) [] [] (He.ga K "check_words") fd_check_words) (M : Md K mg)  : FnR P w K mg base (L2.CX P w) 2 (He.ga K "check_words") (spD K f_check_words) :=
  fnD fin_fz F_check_words sc_check_words (F_check_words.bindsN (ps := ["terms", "things"]) fun _ _ _ _ _ _ us hl => match us, hl with | [_, _], _ => rfl) (fun cdv A outer st H E hr => ⟨_, (pss_one (ps_for (passes_of rfl) rfl (pi_seqK K rfl (pv 0)) (pg_tupK (n := 2) K rfl rfl (pgs_cons (pg_name (i := 2) sc_check_words.nd rfl (by first | exact Or.inl rfl | exact Or.inr rfl)) (pgs_cons (pg_name (i := 3) sc_check_words.nd rfl (by first | exact Or.inl rfl | exact Or.inr rfl)) pgs_nil)))
    (pss_one (ps_if (pt_cmpR (op_notInK K rfl hr.units) (pv 2) (pv 1) (by rfl)) (pss_one ps_never) pss_nil)))), by exact inferInstance⟩)
theorem sc_counted : FnScope ["terms", "things", "thing", "word", "count"] ["terms", "things"] (defScope s_counted) := ⟨rfl, rfl, rfl, by decide +kernel, rfl, by decide +kernel, by decide +kernel⟩
theorem ok_counted {fd_counted : FuncData} (F_counted : FunD K "counted" "counted" (defArgs s_counted) (defBody s_counted) (defScope s_counted) [] [] (He.ga K "counted") fd_counted) (M : Md K mg)  : FnR P w K mg base (L2.CX P w) 2 (He.ga K "counted") (spD K f_counted) :=
  fnD fin_fz F_counted sc_counted (F_counted.bindsN (ps := ["terms", "things"]) fun _ _ _ _ _ _ us hl => match us, hl with | [_, _], _ => rfl) (fun cdv A outer st H E hr => ⟨_, (pss_one (ps_ret (pe_callTy (call_tupK K rfl) (by rfl) M.b_tuple PyProof.Rows.boot_tuple (pa_cons (lc_vs [2] (pe_lc (own := [("thing", 2)]) (by rfl) sc_counted.nd (pi_seqK K rfl (pv 1)) (blkOk_by (own := [("thing", 2)]) (N := ["terms", "things", "thing", "word", "count"]) (sc := defScope s_counted) (by decide +kernel)) (fun _ _ _ _ _ => (pg_name (i := 2) sc_counted.nd rfl (by first | exact Or.inl rfl | exact Or.inr rfl))) (fun _ _ _ _ _ => pts_nil) (fun _ _ _ _ _ => (pe_callB (call_sumK K rfl rfl) (by rfl) M.b_sum PyProof.Rows.boot_sum (pa_cons (lc_vs [3, 4] (pe_lc (own := [("word", 3), ("count", 4)]) (by rfl) sc_counted.nd (pi_seqK K rfl (pv 0)) (blkOk_by (own := [("word", 3), ("count", 4)]) (by kernel_rfl)) (fun _ _ _ _ _ => (pg_tupK (n := 2) K rfl rfl (pgs_cons (pg_name (i := 3) sc_counted.nd rfl (by first | exact Or.inl rfl | exact Or.inr rfl)) (pgs_cons (pg_name (i := 4) sc_counted.nd rfl (by first | exact Or.inl rfl | exact Or.inr rfl)) pgs_nil)))) (fun _ _ _ _ _ => (pts_one (pt_cmpR (op_eqK K rfl hr.units) (pv 3) (pv 2) (nomark _)))) (fun _ _ _ _ _ => (pv 4)))) pa_nil))))) pa_nil)))), by exact inferInstance⟩)
theorem sc_parse_bundle : FnScope ["text", "things", "terms", "found"] ["text", "things"] (defScope s_parse_bundle) := ⟨rfl, rfl, rfl, by decide +kernel, rfl, by decide +kernel, by decide +kernel⟩
theorem ok_parse_bundle {fd_parse_bundle : FuncData} (F_parse_bundle : FunD K "parse_bundle" "parse_bundle" (defArgs s_parse_bundle) (defBody s_parse_bundle) (defScope s_parse_bundle) [] [] (He.ga K "parse_bundle") fd_parse_bundle) (M : Md K mg) (G_bundle_terms : FnR P w K mg base (L2.CX P w) 28 (He.ga K "bundle_terms") (spD K f_bundle_terms)) (K_bundle_terms : PySem.W.keepIn K (.ref (He.ga K "bundle_terms")) = true) (G_check_size : FnR P w K mg base (L2.CX P w) 2 (He.ga K "check_size") (spD K f_check_size)) (K_check_size : PySem.W.keepIn K (.ref (He.ga K "check_size")) = true) (G_check_words : FnR P w K mg base (L2.CX P w) 2 (He.ga K "check_words") (spD K f_check_words)) (K_check_words : PySem.W.keepIn K (.ref (He.ga K "check_words")) = true) (G_counted : FnR P w K mg base (L2.CX P w) 2 (He.ga K "counted") (spD K f_counted)) (K_counted : PySem.W.keepIn K (.ref (He.ga K "counted")) = true) : FnR P w K mg base (L2.CX P w) 30 (He.ga K "parse_bundle") (spD K f_parse_bundle) :=
  fnD fin_fz F_parse_bundle sc_parse_bundle (F_parse_bundle.bindsN (ps := ["text", "things"]) fun _ _ _ _ _ _ us hl => match us, hl with | [_, _], _ => rfl) (fun cdv A outer st H E hr => ⟨_, (pss_cons (ps_set (i := 2) sc_parse_bundle.nd rfl (by first | exact Or.inl rfl | exact Or.inr rfl) (pe_callX (E := (fun _ => E)) G_bundle_terms ⟨M.g_bundle_terms, K_bundle_terms⟩ (hr.mono (by decide)) (takes_of rfl rfl rfl rfl) (pa_cons (pv 0) pa_nil)))
  (pss_cons (ps_expr (pe_callX (E := (fun _ => E)) G_check_words ⟨M.g_check_words, K_check_words⟩ (hr.mono (by decide)) (takes_of rfl rfl rfl rfl) (pa_cons (pv 2) (pa_cons (pv 1) pa_nil))))
  (pss_cons (ps_set (i := 3) sc_parse_bundle.nd rfl (by first | exact Or.inl rfl | exact Or.inr rfl) (pe_callX (E := (fun _ => E)) G_counted ⟨M.g_counted, K_counted⟩ (hr.mono (by decide)) (takes_of rfl rfl rfl rfl) (pa_cons (pv 2) (pa_cons (pv 1) pa_nil))))
  (pss_cons (ps_expr (pe_callX (E := (fun _ => E)) G_check_size ⟨M.g_check_size, K_check_size⟩ (hr.mono (by decide)) (takes_of rfl rfl rfl rfl) (pa_cons (pv 3) pa_nil)))
  (pss_one (ps_ret (pv 3))))))), by exact inferInstance⟩)
theorem sc_law : FnScope ["_law_script", "_law_box", "_law_turn", "_law_width", "_law_things", "_law_bundle", "_law_text", "_law_loose_here", "_law_names", "_law_found"] ["_law_script"] (defScope s_law) := ⟨rfl, rfl, rfl, by decide +kernel, rfl, by decide +kernel, by decide +kernel⟩
theorem ok_law {fd_law : FuncData} (F_law : FunD K "law" "law" (defArgs s_law) (defBody s_law) (defScope s_law) [] [] (He.ga K "law") fd_law) (M : Md K mg) (G_law_any : FnR P w K mg base (L2.CX P w) 4 (He.ga K "_law_any") (spD K f_law_any)) (K_law_any : PySem.W.keepIn K (.ref (He.ga K "_law_any")) = true) (G_law_begin : FnR P w K mg base (L2.CX P w) 2 (He.ga K "_law_begin") (spD K f_law_begin)) (K_law_begin : PySem.W.keepIn K (.ref (He.ga K "_law_begin")) = true) (G_law_draw : FnR P w K mg base (L2.CX P w) 2 (He.ga K "_law_draw") (spD K f_law_draw)) (K_law_draw : PySem.W.keepIn K (.ref (He.ga K "_law_draw")) = true) (G_law_loose : FnR P w K mg base (L2.CX P w) 4 (He.ga K "_law_loose") (spD K f_law_loose)) (K_law_loose : PySem.W.keepIn K (.ref (He.ga K "_law_loose")) = true) (G_law_same : FnR P w K mg base (L2.CX P w) 14 (He.ga K "_law_same") (spD K (f_law_same 12))) (K_law_same : PySem.W.keepIn K (.ref (He.ga K "_law_same")) = true) (G_law_some_bundle : FnR P w K mg base (L2.CX P w) 4 (He.ga K "_law_some_bundle") (spD K f_law_some_bundle)) (K_law_some_bundle : PySem.W.keepIn K (.ref (He.ga K "_law_some_bundle")) = true) (G_law_some_things : FnR P w K mg base (L2.CX P w) 4 (He.ga K "_law_some_things") (spD K f_law_some_things)) (K_law_some_things : PySem.W.keepIn K (.ref (He.ga K "_law_some_things")) = true) (G_law_text_of : FnR P w K mg base (L2.CX P w) 2 (He.ga K "_law_text_of") (spD K f_law_text_of)) (K_law_text_of : PySem.W.keepIn K (.ref (He.ga K "_law_text_of")) = true) (G_format_bundle : FnR P w K mg base (L2.CX P w) 2 (He.ga K "format_bundle") (spD K f_format_bundle)) (K_format_bundle : PySem.W.keepIn K (.ref (He.ga K "format_bundle")) = true) (G_parse_bundle : FnR P w K mg base (L2.CX P w) 30 (He.ga K "parse_bundle") (spD K f_parse_bundle)) (K_parse_bundle : PySem.W.keepIn K (.ref (He.ga K "parse_bundle")) = true) : FnOk P w K mg base (L2.CX P w) 32 (He.ga K "law") fd_law ["_law_script"] (spD K f_law) :=
  fnOkD fin_fz F_law sc_law (fun cdv A outer st H E hr => ⟨_, (pss_cons (ps_set (i := 1) sc_law.nd rfl (by first | exact Or.inl rfl | exact Or.inr rfl) (pe_callX (E := (fun _ => E)) G_law_begin ⟨M.g_law_begin, K_law_begin⟩ (hr.mono (by decide)) (takes_of rfl rfl rfl rfl) (pa_cons (pv 0) pa_nil)))
  (pss_cons (ps_for (passes_of rfl) rfl (pi_range1 (by rfl) M.b_range (pa_cons pe_int pa_nil)) (pg_name (i := 2) sc_law.nd rfl (by first | exact Or.inl rfl | exact Or.inr rfl))
    (pss_cons (ps_set (i := 3) sc_law.nd rfl (by first | exact Or.inl rfl | exact Or.inr rfl) (pe_op (op_addK K rfl) pe_int (pe_callX (E := (fun _ => E)) G_law_draw ⟨M.g_law_draw, K_law_draw⟩ (hr.mono (by decide)) (takes_of rfl rfl rfl rfl) (pa_cons (pv 1) (pa_cons pe_int pa_nil)))))
  (pss_cons (ps_set (i := 4) sc_law.nd rfl (by first | exact Or.inl rfl | exact Or.inr rfl) (pe_callX (E := (fun _ => E)) G_law_some_things ⟨M.g_law_some_things, K_law_some_things⟩ (hr.mono (by decide)) (takes_of rfl rfl rfl rfl) (pa_cons (pv 1) (pa_cons (pv 3) pa_nil))))
  (pss_cons (ps_set (i := 5) sc_law.nd rfl (by first | exact Or.inl rfl | exact Or.inr rfl) (pe_callX (E := (fun _ => E)) G_law_some_bundle ⟨M.g_law_some_bundle, K_law_some_bundle⟩ (hr.mono (by decide)) (takes_of rfl rfl rfl rfl) (pa_cons (pv 1) (pa_cons (pv 3) (pa_cons (pe_callX (E := (fun _ => E)) G_law_any ⟨M.g_law_any, K_law_any⟩ (hr.mono (by decide)) (takes_of rfl rfl rfl rfl) (pa_cons (pv 1) (pa_cons (pe_lst (pa_cons pe_int (pa_cons pe_int (pa_cons pe_int pa_nil)))) pa_nil))) pa_nil)))))
  (pss_cons (ps_set (i := 6) sc_law.nd rfl (by first | exact Or.inl rfl | exact Or.inr rfl) (pe_callX (E := (fun _ => E)) G_law_text_of ⟨M.g_law_text_of, K_law_text_of⟩ (hr.mono (by decide)) (takes_of rfl rfl rfl rfl) (pa_cons (pv 5) (pa_cons (pv 4) pa_nil))))
  (pss_cons (ps_if (pt_not (pt_val (pe_callX (E := (fun _ => E)) G_law_same ⟨M.g_law_same, K_law_same⟩ (hr.mono (by decide)) (takes_of rfl rfl rfl rfl) (pa_cons (pe_lst (pa_cons (pe_callX (E := (fun _ => E)) G_format_bundle ⟨M.g_format_bundle, K_format_bundle⟩ (hr.mono (by decide)) (takes_of rfl rfl rfl rfl) (pa_cons (pv 5) (pa_cons (pv 4) pa_nil))) (pa_cons (pe_callX (E := (fun _ => E)) G_parse_bundle ⟨M.g_parse_bundle, K_parse_bundle⟩ (hr.mono (by decide)) (takes_of rfl rfl rfl rfl) (pa_cons (pv 6) (pa_cons (pv 4) pa_nil))) pa_nil))) (pa_cons (pe_lst (pa_cons (pv 6) (pa_cons (pv 5) pa_nil))) pa_nil))))) (pss_one (ps_ret pe_bl)) pss_nil)
  (pss_cons (ps_if (pt_not (pt_val (pe_callX (E := (fun _ => E)) G_law_same ⟨M.g_law_same, K_law_same⟩ (hr.mono (by decide)) (takes_of rfl rfl rfl rfl) (pa_cons (pe_callX (E := (fun _ => E)) G_format_bundle ⟨M.g_format_bundle, K_format_bundle⟩ (hr.mono (by decide)) (takes_of rfl rfl rfl rfl) (pa_cons (pv 5) (pa_cons (pe_callTy (call_tupK K rfl) (by rfl) M.b_tuple PyProof.Rows.boot_tuple (pa_cons (pv 4) pa_nil)) pa_nil))) (pa_cons (pv 6) pa_nil))))) (pss_one (ps_ret pe_bl)) pss_nil)
  (pss_cons (ps_set (i := 7) sc_law.nd rfl (by first | exact Or.inl rfl | exact Or.inr rfl) (pe_callX (E := (fun _ => E)) G_law_loose ⟨M.g_law_loose, K_law_loose⟩ (hr.mono (by decide)) (takes_of rfl rfl rfl rfl) (pa_cons (pv 1) (pa_cons (pv 5) (pa_cons (pv 4) (pa_cons (pe_callX (E := (fun _ => E)) G_law_draw ⟨M.g_law_draw, K_law_draw⟩ (hr.mono (by decide)) (takes_of rfl rfl rfl rfl) (pa_cons (pv 1) (pa_cons pe_int pa_nil))) pa_nil))))))
  (pss_cons (ps_if (pt_not (pt_val (pe_callX (E := (fun _ => E)) G_law_same ⟨M.g_law_same, K_law_same⟩ (hr.mono (by decide)) (takes_of rfl rfl rfl rfl) (pa_cons (pe_callX (E := (fun _ => E)) G_parse_bundle ⟨M.g_parse_bundle, K_parse_bundle⟩ (hr.mono (by decide)) (takes_of rfl rfl rfl rfl) (pa_cons (pv 7) (pa_cons (pe_callTy (call_tupK K rfl) (by rfl) M.b_tuple PyProof.Rows.boot_tuple (pa_cons (pv 4) pa_nil)) pa_nil))) (pa_cons (pv 5) pa_nil))))) (pss_one (ps_ret pe_bl)) pss_nil)
  (pss_one (ps_if (PW.pt (pw_and (pt_cmpR (op_eqK K rfl hr.units) (pe_countK (pv 7) pe_str) pe_int (nomark _)) (pw_and1 (pt_cmpR (op_neK K rfl hr.units) (pe_callX (E := (fun _ => E)) G_parse_bundle ⟨M.g_parse_bundle, K_parse_bundle⟩ (hr.mono (by decide)) (takes_of rfl rfl rfl rfl) (pa_cons (pe_op (op_addK K rfl) (pe_op (op_addK K rfl) pe_str (pv 7)) pe_str) (pa_cons (pv 4) pa_nil))) (pv 5) (nomark _))))) (pss_one (ps_ret pe_bl)) pss_nil)))))))))))
  (pss_cons (ps_set (i := 8) sc_law.nd rfl (by first | exact Or.inl rfl | exact Or.inr rfl) (pe_lst (pa_cons pe_str (pa_cons pe_str pa_nil))))
  (pss_cons (ps_set (i := 9) sc_law.nd rfl (by first | exact Or.inl rfl | exact Or.inr rfl) (pe_lst (pa_cons (pe_callX (E := (fun _ => E)) G_parse_bundle ⟨M.g_parse_bundle, K_parse_bundle⟩ (hr.mono (by decide)) (takes_of rfl rfl rfl rfl) (pa_cons pe_str (pa_cons (pv 8) pa_nil))) (pa_cons (pe_callX (E := (fun _ => E)) G_parse_bundle ⟨M.g_parse_bundle, K_parse_bundle⟩ (hr.mono (by decide)) (takes_of rfl rfl rfl rfl) (pa_cons pe_str (pa_cons (pv 8) pa_nil))) pa_nil))))
  (pss_cons (ps_set (i := 9) sc_law.nd rfl (by first | exact Or.inl rfl | exact Or.inr rfl) (pe_op (op_addK K rfl) (pv 9) (pe_lst (pa_cons (pe_callX (E := (fun _ => E)) G_parse_bundle ⟨M.g_parse_bundle, K_parse_bundle⟩ (hr.mono (by decide)) (takes_of rfl rfl rfl rfl) (pa_cons pe_str (pa_cons (pv 8) pa_nil))) (pa_cons (pe_callX (E := (fun _ => E)) G_parse_bundle ⟨M.g_parse_bundle, K_parse_bundle⟩ (hr.mono (by decide)) (takes_of rfl rfl rfl rfl) (pa_cons pe_str (pa_cons (pv 8) pa_nil))) pa_nil)))))
  (pss_one (ps_ret (pe_callX (E := (fun _ => E)) G_law_same ⟨M.g_law_same, K_law_same⟩ (hr.mono (by decide)) (takes_of rfl rfl rfl rfl) (pa_cons (pv 9) (pa_cons (pe_lst (pa_cons (pe_tup (pa_cons pe_int (pa_cons pe_int pa_nil))) (pa_cons (pe_tup (pa_cons pe_int (pa_cons pe_int pa_nil))) (pa_cons (pe_tup (pa_cons pe_int (pa_cons pe_int pa_nil))) (pa_cons (pe_tup (pa_cons pe_int (pa_cons pe_int pa_nil))) pa_nil))))) pa_nil)))))))))), by exact inferInstance⟩)
end
end Lw

namespace Lw
open PySem L2 DX
def dd_law_draw : He5.DefA := ⟨fun K => (He.ga K "_law_draw"), "_law_draw", "_law_draw", defArgs s_law_draw, defBody s_law_draw, defScope s_law_draw, [], []⟩
def dd_law_any : He5.DefA := ⟨fun K => (He.ga K "_law_any"), "_law_any", "_law_any", defArgs s_law_any, defBody s_law_any, defScope s_law_any, [], []⟩
def dd_law_begin : He5.DefA := ⟨fun K => (He.ga K "_law_begin"), "_law_begin", "_law_begin", defArgs s_law_begin, defBody s_law_begin, defScope s_law_begin, [], []⟩
def dd_law_loose : He5.DefA := ⟨fun K => (He.ga K "_law_loose"), "_law_loose", "_law_loose", defArgs s_law_loose, defBody s_law_loose, defScope s_law_loose, [], []⟩
def dd_law_same : He5.DefA := ⟨fun K => (He.ga K "_law_same"), "_law_same", "_law_same", defArgs s_law_same, defBody s_law_same, defScope s_law_same, [], []⟩
def dd_law_some_bundle : He5.DefA := ⟨fun K => (He.ga K "_law_some_bundle"), "_law_some_bundle", "_law_some_bundle", defArgs s_law_some_bundle, defBody s_law_some_bundle, defScope s_law_some_bundle, [], []⟩
def dd_law_some_things : He5.DefA := ⟨fun K => (He.ga K "_law_some_things"), "_law_some_things", "_law_some_things", defArgs s_law_some_things, defBody s_law_some_things, defScope s_law_some_things, [], []⟩
def dd_law_text_of : He5.DefA := ⟨fun K => (He.ga K "_law_text_of"), "_law_text_of", "_law_text_of", defArgs s_law_text_of, defBody s_law_text_of, defScope s_law_text_of, [], []⟩
def dd_format_bundle : He5.DefA := ⟨fun K => (He.ga K "format_bundle"), "format_bundle", "format_bundle", defArgs s_format_bundle, defBody s_format_bundle, defScope s_format_bundle, [], []⟩
def dd_Reader_init : He5.DefA := ⟨fun K => (He.ma K (He.ga K "Reader") "__init__"), "__init__", "Reader.__init__", defArgs s_Reader_init, defBody s_Reader_init, defScope s_Reader_init, [], []⟩
def dd_Reader_sign : He5.DefA := ⟨fun K => (He.ma K (He.ga K "Reader") "sign"), "sign", "Reader.sign", defArgs s_Reader_sign, defBody s_Reader_sign, defScope s_Reader_sign, [], []⟩
def dd_Reader_expect : He5.DefA := ⟨fun K => (He.ma K (He.ga K "Reader") "expect"), "expect", "Reader.expect", defArgs s_Reader_expect, defBody s_Reader_expect, defScope s_Reader_expect, [], []⟩
def dd_Reader_run : He5.DefA := ⟨fun K => (He.ma K (He.ga K "Reader") "run"), "run", "Reader.run", defArgs s_Reader_run, defBody s_Reader_run, defScope s_Reader_run, [], []⟩
def dd_Reader_many : He5.DefA := ⟨fun K => (He.ma K (He.ga K "Reader") "many"), "many", "Reader.many", defArgs s_Reader_many, defBody s_Reader_many, defScope s_Reader_many, [], []⟩
def dd_Reader_atom : He5.DefA := ⟨fun K => (He.ma K (He.ga K "Reader") "atom"), "atom", "Reader.atom", defArgs s_Reader_atom, defBody s_Reader_atom, defScope s_Reader_atom, [], []⟩
def dd_Reader_terms : He5.DefA := ⟨fun K => (He.ma K (He.ga K "Reader") "terms"), "terms", "Reader.terms", defArgs s_Reader_terms, defBody s_Reader_terms, defScope s_Reader_terms, [], []⟩
def dd_bundle_terms : He5.DefA := ⟨fun K => (He.ga K "bundle_terms"), "bundle_terms", "bundle_terms", defArgs s_bundle_terms, defBody s_bundle_terms, defScope s_bundle_terms, [], []⟩
def dd_check_size : He5.DefA := ⟨fun K => (He.ga K "check_size"), "check_size", "check_size", defArgs s_check_size, defBody s_check_size, defScope s_check_size, [], []⟩
def dd_check_words : He5.DefA := ⟨fun K => (He.ga K "check_words"), "check_words", "check_words", defArgs s_check_words, defBody s_check_words, defScope s_check_words, [], []⟩
def dd_counted : He5.DefA := ⟨fun K => (He.ga K "counted"), "counted", "counted", defArgs s_counted, defBody s_counted, defScope s_counted, [], []⟩
def dd_parse_bundle : He5.DefA := ⟨fun K => (He.ga K "parse_bundle"), "parse_bundle", "parse_bundle", defArgs s_parse_bundle, defBody s_parse_bundle, defScope s_parse_bundle, [], []⟩
def dd_law : He5.DefA := ⟨fun K => (He.ga K "law"), "law", "law", defArgs s_law, defBody s_law, defScope s_law, [], []⟩
def fn : List He5.DefA := [dd_law_draw, dd_law_any, dd_law_begin, dd_law_loose, dd_law_same, dd_law_some_bundle, dd_law_some_things, dd_law_text_of, dd_format_bundle, dd_Reader_init, dd_Reader_sign, dd_Reader_expect, dd_Reader_run, dd_Reader_many, dd_Reader_atom, dd_Reader_terms, dd_bundle_terms, dd_check_size, dd_check_words, dd_counted, dd_parse_bundle, dd_law]
def fa : List FB := [fGlo "law", fFree "all", fFree "bool", fFree "int", fFree "isinstance", fFree "len", fFree "list", fFree "max", fFree "range", fFree "str", fFree "sum", fFree "tuple", fFree "zip", fStr "DIGITS" "0123456789", fInt "LONGEST_NUMBER" 3, fInt "LONGEST_THING" 6, fInt "MOST_COUNT" 60, fInt "MOST_OPEN" 8, fStr "SMALL" "abcdefghijklmnopqrstuvwxyz", fCls "Reader", fGlo "Reader", fGlo "bundle_terms", fGlo "check_size", fGlo "check_words", fGlo "counted", fGlo "format_bundle", fGlo "_law_any", fGlo "_law_begin", fGlo "_law_draw", fGlo "_law_loose", fGlo "_law_same", fGlo "_law_some_bundle", fGlo "_law_some_things", fGlo "_law_text_of", fGlo "parse_bundle", fMeth "Reader" "atom", fMeth "Reader" "expect", fMeth "Reader" "many", fMeth "Reader" "run", fMeth "Reader" "sign", fMeth "Reader" "terms", fMkr "Reader", fNoat "Reader" "at", fNoat "Reader" "source"]
abbrev R : PySem.W.OpenRow := PySem.W.OpenLaw.row PySem.Challenge.rw_evenbarter_k09_texts_of_bundles
abbrev hk : PySem.W.Hook := hookX 7 fa fn
def ob (s : PySem.W.SharedT) : He.AlD := obsXG 7 fa fn (HandSHeadRun.getT s)
theorem ob_eq (s : PySem.W.SharedT) : ob s = hk.obs s.abs := obsXG_eq (HandSHeadRun.getT_eq s)
def loose : List Str := (["BarterError", "UnknownThing", "ParseError", "TooLarge", "MOST_COUNT", "SMALL", "DIGITS", "LONGEST_THING", "LONGEST_NUMBER", "MOST_OPEN", "Reader", "bundle_terms", "check_words", "counted", "check_size", "parse_bundle", "format_bundle", "_law_begin", "_law_draw", "_law_any", "_law_same", "_law_some_bundle", "_law_some_things", "_law_text_of", "_law_loose"] : List Str)
theorem run (w : World) : HandSHeadRun.RunEq R (PySem.W.view R.prog [28]) hk ob 20000 loose w := by
  intro os
  kernel_rfl
end Lw

namespace Lw
open PySem L2 DX
theorem facts {P : Program} {w : World} {K : PySem.W.Frag} {h : Heap} {mg : Str → Option Value} {f : Addr} (X : K.In h) (G : h.Ns mainGlobals mg) (hfa : mg ("law" : Str) = some (.ref f)) (c : SaysX fa fn K) :
    ∃ fd : FuncData, (∀ (s : Shared) (v : Value), BindsTo s fd ⟨[v], []⟩ [("_law_script", v)]) ∧ ∀ base : Heap, K.In base → base.Ns mainGlobals mg → FnOk P w K mg base (L2.CX P w) 32 f fd ["_law_script"] (spD K f_law) := by
  obtain ⟨fd_law_draw, F_law_draw⟩ := c.def_ 0 (d := dd_law_draw) rfl
  have K_law_draw := F_law_draw.kp
  obtain ⟨fd_law_any, F_law_any⟩ := c.def_ 1 (d := dd_law_any) rfl
  have K_law_any := F_law_any.kp
  obtain ⟨fd_law_begin, F_law_begin⟩ := c.def_ 2 (d := dd_law_begin) rfl
  have K_law_begin := F_law_begin.kp
  obtain ⟨fd_law_loose, F_law_loose⟩ := c.def_ 3 (d := dd_law_loose) rfl
  have K_law_loose := F_law_loose.kp
  obtain ⟨fd_law_same, F_law_same⟩ := c.def_ 4 (d := dd_law_same) rfl
  have K_law_same := F_law_same.kp
  obtain ⟨fd_law_some_bundle, F_law_some_bundle⟩ := c.def_ 5 (d := dd_law_some_bundle) rfl
  have K_law_some_bundle := F_law_some_bundle.kp
  obtain ⟨fd_law_some_things, F_law_some_things⟩ := c.def_ 6 (d := dd_law_some_things) rfl
  have K_law_some_things := F_law_some_things.kp
  obtain ⟨fd_law_text_of, F_law_text_of⟩ := c.def_ 7 (d := dd_law_text_of) rfl
  have K_law_text_of := F_law_text_of.kp
  obtain ⟨fd_format_bundle, F_format_bundle⟩ := c.def_ 8 (d := dd_format_bundle) rfl
  have K_format_bundle := F_format_bundle.kp
  obtain ⟨fd_Reader_init, F_Reader_init⟩ := c.def_ 9 (d := dd_Reader_init) rfl
  obtain ⟨fd_Reader_sign, F_Reader_sign⟩ := c.def_ 10 (d := dd_Reader_sign) rfl
  obtain ⟨fd_Reader_expect, F_Reader_expect⟩ := c.def_ 11 (d := dd_Reader_expect) rfl
  obtain ⟨fd_Reader_run, F_Reader_run⟩ := c.def_ 12 (d := dd_Reader_run) rfl
  obtain ⟨fd_Reader_many, F_Reader_many⟩ := c.def_ 13 (d := dd_Reader_many) rfl
  obtain ⟨fd_Reader_atom, F_Reader_atom⟩ := c.def_ 14 (d := dd_Reader_atom) rfl
  obtain ⟨fd_Reader_terms, F_Reader_terms⟩ := c.def_ 15 (d := dd_Reader_terms) rfl
  obtain ⟨fd_bundle_terms, F_bundle_terms⟩ := c.def_ 16 (d := dd_bundle_terms) rfl
  have K_bundle_terms := F_bundle_terms.kp
  obtain ⟨fd_check_size, F_check_size⟩ := c.def_ 17 (d := dd_check_size) rfl
  have K_check_size := F_check_size.kp
  obtain ⟨fd_check_words, F_check_words⟩ := c.def_ 18 (d := dd_check_words) rfl
  have K_check_words := F_check_words.kp
  obtain ⟨fd_counted, F_counted⟩ := c.def_ 19 (d := dd_counted) rfl
  have K_counted := F_counted.kp
  obtain ⟨fd_parse_bundle, F_parse_bundle⟩ := c.def_ 20 (d := dd_parse_bundle) rfl
  have K_parse_bundle := F_parse_bundle.kp
  obtain ⟨fd_law, F_law⟩ := c.def_ 21 (d := dd_law) rfl
  have K_law := F_law.kp
  have e := hfa.symm.trans (He.glo_ok X G (c.fact 0 (f := fGlo "law") rfl))
  cases e
  have h_b_all := c.fact 1 (f := fFree "all") rfl
  have h_b_bool := c.fact 2 (f := fFree "bool") rfl
  have h_b_int := c.fact 3 (f := fFree "int") rfl
  have h_b_isinstance := c.fact 4 (f := fFree "isinstance") rfl
  have h_b_len := c.fact 5 (f := fFree "len") rfl
  have h_b_list := c.fact 6 (f := fFree "list") rfl
  have h_b_max := c.fact 7 (f := fFree "max") rfl
  have h_b_range := c.fact 8 (f := fFree "range") rfl
  have h_b_str := c.fact 9 (f := fFree "str") rfl
  have h_b_sum := c.fact 10 (f := fFree "sum") rfl
  have h_b_tuple := c.fact 11 (f := fFree "tuple") rfl
  have h_b_zip := c.fact 12 (f := fFree "zip") rfl
  have h_c_DIGITS := c.fact 13 (f := fStr "DIGITS" "0123456789") rfl
  have h_c_LONGEST_NUMBER := c.fact 14 (f := fInt "LONGEST_NUMBER" 3) rfl
  have h_c_LONGEST_THING := c.fact 15 (f := fInt "LONGEST_THING" 6) rfl
  have h_c_MOST_COUNT := c.fact 16 (f := fInt "MOST_COUNT" 60) rfl
  have h_c_MOST_OPEN := c.fact 17 (f := fInt "MOST_OPEN" 8) rfl
  have h_c_SMALL := c.fact 18 (f := fStr "SMALL" "abcdefghijklmnopqrstuvwxyz") rfl
  have h_cl_Reader := c.fact 19 (f := fCls "Reader") rfl
  have h_g_Reader := c.fact 20 (f := fGlo "Reader") rfl
  have h_g_bundle_terms := c.fact 21 (f := fGlo "bundle_terms") rfl
  have h_g_check_size := c.fact 22 (f := fGlo "check_size") rfl
  have h_g_check_words := c.fact 23 (f := fGlo "check_words") rfl
  have h_g_counted := c.fact 24 (f := fGlo "counted") rfl
  have h_g_format_bundle := c.fact 25 (f := fGlo "format_bundle") rfl
  have h_g_law_any := c.fact 26 (f := fGlo "_law_any") rfl
  have h_g_law_begin := c.fact 27 (f := fGlo "_law_begin") rfl
  have h_g_law_draw := c.fact 28 (f := fGlo "_law_draw") rfl
  have h_g_law_loose := c.fact 29 (f := fGlo "_law_loose") rfl
  have h_g_law_same := c.fact 30 (f := fGlo "_law_same") rfl
  have h_g_law_some_bundle := c.fact 31 (f := fGlo "_law_some_bundle") rfl
  have h_g_law_some_things := c.fact 32 (f := fGlo "_law_some_things") rfl
  have h_g_law_text_of := c.fact 33 (f := fGlo "_law_text_of") rfl
  have h_g_parse_bundle := c.fact 34 (f := fGlo "parse_bundle") rfl
  have h_me_Reader_atom := c.fact 35 (f := fMeth "Reader" "atom") rfl
  have h_me_Reader_expect := c.fact 36 (f := fMeth "Reader" "expect") rfl
  have h_me_Reader_many := c.fact 37 (f := fMeth "Reader" "many") rfl
  have h_me_Reader_run := c.fact 38 (f := fMeth "Reader" "run") rfl
  have h_me_Reader_sign := c.fact 39 (f := fMeth "Reader" "sign") rfl
  have h_me_Reader_terms := c.fact 40 (f := fMeth "Reader" "terms") rfl
  have h_mk_Reader := c.fact 41 (f := fMkr "Reader") rfl
  have h_na_Reader_at := c.fact 42 (f := fNoat "Reader" "at") rfl
  have h_na_Reader_source := c.fact 43 (f := fNoat "Reader" "source") rfl
  have M : Md K mg := ⟨He.free_ok X G h_b_all, He.free_ok X G h_b_bool, He.free_ok X G h_b_int, He.free_ok X G h_b_isinstance, He.free_ok X G h_b_len, He.free_ok X G h_b_list, He.free_ok X G h_b_max, He.free_ok X G h_b_range, He.free_ok X G h_b_str, He.free_ok X G h_b_sum, He.free_ok X G h_b_tuple, He.free_ok X G h_b_zip, He.str_ok X G h_c_DIGITS, He.int_ok X G h_c_LONGEST_NUMBER, He.int_ok X G h_c_LONGEST_THING, He.int_ok X G h_c_MOST_COUNT, He.int_ok X G h_c_MOST_OPEN, He.str_ok X G h_c_SMALL, He.cls_ok h_cl_Reader, He.glo_ok X G h_g_Reader, He.glo_ok X G h_g_bundle_terms, He.glo_ok X G h_g_check_size, He.glo_ok X G h_g_check_words, He.glo_ok X G h_g_counted, He.glo_ok X G h_g_format_bundle, He.glo_ok X G h_g_law_any, He.glo_ok X G h_g_law_begin, He.glo_ok X G h_g_law_draw, He.glo_ok X G h_g_law_loose, He.glo_ok X G h_g_law_same, He.glo_ok X G h_g_law_some_bundle, He.glo_ok X G h_g_law_some_things, He.glo_ok X G h_g_law_text_of, He.glo_ok X G h_g_parse_bundle, He.meth_ok h_me_Reader_atom, He.meth_ok h_me_Reader_expect, He.meth_ok h_me_Reader_many, He.meth_ok h_me_Reader_run, He.meth_ok h_me_Reader_sign, He.meth_ok h_me_Reader_terms, He.mkr_ok h_mk_Reader, He.noat_ok h_na_Reader_at, He.noat_ok h_na_Reader_source⟩
  have bl := FunD.bindsA (ps := ["_law_script"]) F_law fun _ _ _ _ _ _ us hl => match us, hl with | [_], _ => rfl
  refine ⟨fd_law, fun s v => bl s [v] rfl, fun base _ _ => ?_⟩
  have G_law_draw := ok_law_draw (P := P) (w := w) (base := base) F_law_draw M  
  have G_law_any := ok_law_any (P := P) (w := w) (base := base) F_law_any M G_law_draw K_law_draw 
  have G_law_begin := ok_law_begin (P := P) (w := w) (base := base) F_law_begin M  
  have G_law_loose := ok_law_loose (P := P) (w := w) (base := base) F_law_loose M G_law_draw K_law_draw 
  have G_law_same := ok_law_same (P := P) (w := w) (base := base) F_law_same M  K_law_same
  have G_law_some_bundle := ok_law_some_bundle (P := P) (w := w) (base := base) F_law_some_bundle M G_law_draw K_law_draw 
  have G_law_some_things := ok_law_some_things (P := P) (w := w) (base := base) F_law_some_things M G_law_draw K_law_draw 
  have G_law_text_of := ok_law_text_of (P := P) (w := w) (base := base) F_law_text_of M  
  have G_format_bundle := ok_format_bundle (P := P) (w := w) (base := base) F_format_bundle M  
  have G_Reader_init := ok_Reader_init (P := P) (w := w) (base := base) F_Reader_init M  
  have G_Reader_sign := ok_Reader_sign (P := P) (w := w) (base := base) F_Reader_sign M  
  have G_Reader_expect := ok_Reader_expect (P := P) (w := w) (base := base) F_Reader_expect M G_Reader_sign 
  have G_Reader_run := ok_Reader_run (P := P) (w := w) (base := base) F_Reader_run M  
  have G_Reader_many := ok_Reader_many (P := P) (w := w) (base := base) F_Reader_many M G_Reader_run G_Reader_sign 
  have G_Reader_atom := ok_Reader_atom (P := P) (w := w) (base := base) F_Reader_atom F_Reader_terms M G_Reader_expect G_Reader_run G_Reader_sign G_Reader_many 
  have G_Reader_terms := ok_Reader_terms (P := P) (w := w) (base := base) F_Reader_atom F_Reader_terms M G_Reader_expect G_Reader_run G_Reader_sign G_Reader_many 
  have G_bundle_terms := ok_bundle_terms (P := P) (w := w) (base := base) F_bundle_terms M G_Reader_init G_Reader_expect G_Reader_terms 
  have G_check_size := ok_check_size (P := P) (w := w) (base := base) F_check_size M  
  have G_check_words := ok_check_words (P := P) (w := w) (base := base) F_check_words M  
  have G_counted := ok_counted (P := P) (w := w) (base := base) F_counted M  
  have G_parse_bundle := ok_parse_bundle (P := P) (w := w) (base := base) F_parse_bundle M G_bundle_terms K_bundle_terms G_check_size K_check_size G_check_words K_check_words G_counted K_counted 
  have G_law := ok_law (P := P) (w := w) (base := base) F_law M G_law_any K_law_any G_law_begin K_law_begin G_law_draw K_law_draw G_law_loose K_law_loose G_law_same K_law_same G_law_some_bundle K_law_some_bundle G_law_some_things K_law_some_things G_law_text_of K_law_text_of G_format_bundle K_format_bundle G_parse_bundle K_parse_bundle 
  exact G_law
end Lw

open PySem PySem.W PySem.Calls PyProof.Rows in
theorem PySem.Challenge.cw_evenbarter_k09_texts_of_bundles_holds : PySem.Challenge.rw_evenbarter_k09_texts_of_bundles.Holds := by
  w_on; o_law
  refine HandSHeadRun.head_any (r := OpenLaw.row PySem.Challenge.rw_evenbarter_k09_texts_of_bundles) (q := view (OpenLaw.row PySem.Challenge.rw_evenbarter_k09_texts_of_bundles).prog [28]) (H := Lw.hk) (ob := Lw.ob) (M := 20000) (loose := Lw.loose) (d := HandSHeadRun.topDef (OpenLaw.row PySem.Challenge.rw_evenbarter_k09_texts_of_bundles).prog 28) (kwd := []) Lw.ob_eq
    (by kernel_rfl) (fun s => by kernel_rfl) Lw.run (by kernel_rfl) (by kernel_rfl) (by kernel_rfl) (by rfl) (by first | assumption | decide +kernel) (by decide +kernel) ⟨rfl, rfl, rfl, rfl, rfl, by decide +kernel⟩ ?hw ?hc
  case hw => w_witness2
  case hc =>
    refine L2.walk_ofE (l := PySem.Challenge.rw_evenbarter_k09_texts_of_bundles) (n := 63) (k := 32) (x := "_law_script") (CX := L2.CX0) rfl (by decide) (by kernel_rfl) ⟨rfl, by decide, by decide⟩ ?F (fun _ _ _ _ z => z)
    intro w mg fa h Y G hmg0
    obtain ⟨K, KX, c⟩ := Y
    have hmg : mg ("law" : PySem.Str) = some (.ref fa) := by
      have e : (HandSHeadRun.topDef (OpenLaw.row PySem.Challenge.rw_evenbarter_k09_texts_of_bundles).prog 28).name = ("law" : PySem.Str) := by kernel_rfl
      rw [← e]
      exact hmg0
    obtain ⟨fd, hb, hF⟩ := Lw.facts (P := (PySem.Challenge.rw_evenbarter_k09_texts_of_bundles).prog) (w := w) KX G hmg c
    exact ⟨K, fd, fun vs H Q _ => DX.spD K Lw.f_law vs H Q L2.E0, KX, hb, fun H a ns hl _ hS => DX.law_sp (Lw.law_ok ns hl) hS, fun base b1 b2 => DX.fnOk_no (hF base b1 b2)⟩
#print axioms PySem.Challenge.cw_evenbarter_k09_texts_of_bundles_holds

