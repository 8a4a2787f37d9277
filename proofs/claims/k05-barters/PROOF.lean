import PyProof.Rows.All
import Wide.All
import OpenK.AllK
import Wide.FinOn
import HandS.ForMost
import HandS.Zip
import HandS.Star
import HandS.TupAny
import HandS.TupMul
import HandS.NoneIn
import HandS.IsInst
import HandS.Walk
import HandS.Exc
import HandS.WordsExc
import HandS.HeadHook1
import HandS.Lambda
import HandS.HeadHook4
import KE.LtData
import KE.KTupSum
import PyProof.StrOps2
import PyProof.PureStr
import HandS.Wide
import HandS.Defaults
import HandS.More
import HandS.Style
import HandS.Conv
import HandS.Property
import HandS.Flow
import HandS.ClsMeth
import HandS.Head0
import HandS.Head1
import HandS.Head2
import HandS.HeadEnd
import HandS.HeadHook2
import HandS.HeadHook3
import HandS.HeadNt
import PyProof.ZipIter
import PyProof.EnumMake
import HandS.Deep
import HandS.Text
import HandS.RaiseMore
import HandS.NamedTupGet
import HandS.FStr
import KE.KExcSuper
import HandS.ExcInit
import HandS.TryOnly
import HandS.ExcValue
import HandS.HotCalls
import HandS.OwnEq
import HandS.EndTab
import HandS.HeadWalk
import KE.KRevSl
import PyProof.InstNe
import HandS.Codes
import PySem.Challenge.RW_evenbarter_k05_barters_of_markets
set_option Elab.async false
set_option linter.all false
set_option maxRecDepth 100000
set_option maxHeartbeats 4000000
set_option synthInstance.maxHeartbeats 4000000
set_option synthInstance.maxSize 100000
/-! Data and a store: what a program does, as functions that can be run. -/
namespace DX
open PySem L2

/-! ### data -/
inductive D where
  | non
  | bl (b : Bool)
  | int (i : Int)
  | str (s : Str)
  | ty (n : String)
  | cls (c : Str)
  | fn (c : Str)
  | tup (xs : List D)
  | lst (xs : List D)
  | cell (i : Nat)
  | obj (c : Str) (ns : List Str) (ds : List D)
  | scr (ns : List Int)
  | dK (ks : List Key) (ds : List D)
  | dT (ks : List (List Key)) (ds : List D)
  | exn (c : Str) (ns : List Str) (ds : List D)
instance : Inhabited D := ⟨.non⟩
/-- things that may change -/
inductive MO where
  | lst (xs : List D)
  | ins (c : Str) (ns : List Str) (ds : List D)
  | dK (ks : List Key) (ds : List D)
  | dT (ks : List (List Key)) (ds : List D)
  | tbl (x q : Str)
instance : Inhabited MO := ⟨.lst []⟩
abbrev Mu := List MO

/-- a list of the script's: it stands as it is -/
def SqM (K : PySem.W.Frag) (M : List Addr) (H : Hp) (a : Addr) (xs : List V) : Prop :=
  (a ∉ M ∧ Rd H a (.lst xs)) ∨ ∃ (o : Obj) (its : Array Value) (n : Nat), K.lookup a = some o ∧ o.cls = .type "list" ∧ o.dict = none ∧ o.data = .seq its n ∧ its.size ≤ sizeLine ∧ Vals xs its.toList
theorem SqM.sq {K : PySem.W.Frag} {M : List Addr} {H : Hp} {a : Addr} {xs : List V} (h : SqM K M H a xs) : SqL K H a xs := by
  rcases h with ⟨_, h⟩ | h
  · exact .inl h
  · exact .inr h
theorem SqM.of {K : PySem.W.Frag} {H : Hp} {a : Addr} {xs : List V} (h : SqL K H a xs) : SqM K [] H a xs := by
  rcases h with h | h
  · exact .inl ⟨List.not_mem_nil, h⟩
  · exact .inr h
/-- at a: an exception of the class at C, its dict at d -/
def exq (a C d : Addr) : HO := .ext fun h => ∃ (o : Obj) (vs : Array Value), h.get? a = some o ∧ o.cls = .ref C ∧ o.dict = some d ∧ o.data = .fields vs
mutual
/-- the value v is the datum d in the heap H; ρ: the addresses of what may change, F: what is kept aside -/
inductive Dt (K : PySem.W.Frag) (F ρ : List Addr) (H : Hp) : V → D → Prop
  | non : Dt K F ρ H .non .non
  | bl (b : Bool) : Dt K F ρ H (.bl b) (.bl b)
  | int (i : Int) : Dt K F ρ H (.int i) (.int i)
  | str (x : Str) : Dt K F ρ H (.str x) (.str x)
  | ty (n : String) : Dt K F ρ H (.ty n) (.ty n)
  | cls (c : Str) : Dt K F ρ H (.ref (He.ga K c)) (.cls c)
  | fn (c : Str) : Dt K F ρ H (.ref (He.ga K c)) (.fn c)
  | tup {a : Addr} {vs : List V} {xs : List D} : a ∉ F ++ ρ → H a = some (.tup vs) → DtAll K F ρ H vs xs → Dt K F ρ H (.ref a) (.tup xs)
  | lst {a : Addr} {vs : List V} {xs : List D} : a ∉ F ++ ρ → H a = some (.lst vs) → DtAll K F ρ H vs xs → Dt K F ρ H (.ref a) (.lst xs)
  | cell {i : Nat} {a : Addr} : ρ[i]? = some a → Dt K F ρ H (.ref a) (.cell i)
  | obj {a dx : Addr} {c : Str} {ns : List Str} {vs : List V} {ds : List D} : a ∉ F ++ ρ → H a = some (.ins (He.ga K c) dx (ns.zip vs)) → ns.length = vs.length → DtAll K F ρ H vs ds → Dt K F ρ H (.ref a) (.obj c ns ds)
  | scr {a : Addr} {ns : List Int} : SqM K (F ++ ρ) H a (ns.map V.int) → Dt K F ρ H (.ref a) (.scr ns)
  | dK {a : Addr} {ks : List Key} {vs : List V} {ds : List D} : a ∉ F ++ ρ → H a = some (.dK (ks.zip vs)) → ks.length = vs.length → DtAll K F ρ H vs ds → Dt K F ρ H (.ref a) (.dK ks ds)
  | dT {a : Addr} {ks : List (List Key)} {vs : List V} {ds : List D} : a ∉ F ++ ρ → H a = some (.dT (ks.zip vs)) → ks.length = vs.length → DtAll K F ρ H vs ds → Dt K F ρ H (.ref a) (.dT ks ds)
  | exn {a dx : Addr} {c : Str} {ns : List Str} {vs : List V} {ds : List D} : a ∉ F ++ ρ → dx ∉ F ++ ρ → H a = some (exq a (He.ga K c) dx) → H dx = some (.xd (ns.zip vs)) → ns.length = vs.length → DtAll K F ρ H vs ds → Dt K F ρ H (.ref a) (.exn c ns ds)
inductive DtAll (K : PySem.W.Frag) (F ρ : List Addr) (H : Hp) : List V → List D → Prop
  | nil : DtAll K F ρ H [] []
  | cons {v : V} {vs : List V} {d : D} {ds : List D} : Dt K F ρ H v d → DtAll K F ρ H vs ds → DtAll K F ρ H (v :: vs) (d :: ds)
end

/-! ### growing -/
structure Grow (ρ ρ' : List Addr) (H H' : Hp) : Prop where
  keep : ∀ x o, x ∉ ρ → H x = some o → H' x = some o
  ext : ∃ t, ρ' = ρ ++ t
  new : ∀ x, x ∈ ρ' → x ∉ ρ → H x = none
theorem Grow.refl (ρ : List Addr) (H : Hp) : Grow ρ ρ H H := ⟨fun _ _ _ h => h, ⟨[], by simp⟩, fun _ h n => absurd h n⟩
theorem Grow.sub {ρ ρ' : List Addr} {H H' : Hp} (g : Grow ρ ρ' H H') : ∀ x, x ∈ ρ → x ∈ ρ' := fun x h => by
  obtain ⟨t, e⟩ := g.ext
  rw [e]
  exact List.mem_append_left _ h
theorem Grow.at_ {ρ ρ' : List Addr} {H H' : Hp} (g : Grow ρ ρ' H H') {i : Nat} {a : Addr} (h : ρ[i]? = some a) : ρ'[i]? = some a := by
  obtain ⟨t, e⟩ := g.ext
  rw [e, List.getElem?_append_left]
  · exact h
  · exact (List.getElem?_eq_some_iff.mp h).1
theorem Grow.stays {ρ ρ' : List Addr} {H H' : Hp} (g : Grow ρ ρ' H H') {x : Addr} {o : HO} (n : x ∉ ρ) (h : H x = some o) : x ∉ ρ' := fun z => by
  rw [g.new x z n] at h
  cases h
theorem Grow.trans {ρ ρ1 ρ2 : List Addr} {H H1 H2 : Hp} (g : Grow ρ ρ1 H H1) (k : Grow ρ1 ρ2 H1 H2) : Grow ρ ρ2 H H2 where
  keep := fun x o n h => k.keep x o (g.stays n h) (g.keep x o n h)
  ext := by
    obtain ⟨t, e⟩ := g.ext
    obtain ⟨u, e'⟩ := k.ext
    exact ⟨t ++ u, by rw [e', e, List.append_assoc]⟩
  new := fun x h n => by
    cases e : H x with
    | none => rfl
    | some o =>
      have h1 := k.new x h (g.stays n e)
      rw [g.keep x o n e] at h1
      cases h1
theorem Grow.free {ρ ρ' : List Addr} {H H' : Hp} (g : Grow ρ ρ' H H') {p : Addr} (n : p ∉ ρ) (h : H' p = none) : H p = none := by
  cases e : H p with
  | none => rfl
  | some o =>
    rw [g.keep p o n e] at h
    cases h
theorem Grow.fresh {ρ : List Addr} {H : Hp} {p : Addr} {o : HO} (h : H p = none) : Grow ρ ρ H (upd H p o) :=
  ⟨fun x u _ e => by rw [upd_ne (ne_of_none e h)]; exact e, ⟨[], by simp⟩, fun _ h n => absurd h n⟩
theorem Grow.add {ρ : List Addr} {H : Hp} {p : Addr} {o : HO} (h : H p = none) : Grow ρ (ρ ++ [p]) H (upd H p o) where
  keep := fun x u _ e => by rw [upd_ne (ne_of_none e h)]; exact e
  ext := ⟨[p], rfl⟩
  new := fun x hx n => by
    rcases List.mem_append.mp hx with z | z
    · exact absurd z n
    · rw [List.mem_singleton.mp z]; exact h
theorem Grow.put {ρ : List Addr} {H : Hp} {a : Addr} {o : HO} (h : a ∈ ρ) : Grow ρ ρ H (upd H a o) where
  keep := fun x u n e => by rw [upd_ne (fun z => n (by rw [z]; exact h))]; exact e
  ext := ⟨[], by simp⟩
  new := fun x hx n => absurd hx n
theorem Grow.sq {K : PySem.W.Frag} {ρ ρ' : List Addr} {H H' : Hp} (g : Grow ρ ρ' H H') {a : Addr} {xs : List V} (h : SqM K ρ H a xs) : SqM K ρ' H' a xs := by
  rcases h with ⟨n, h | ⟨o, h⟩⟩ | h
  · exact .inl ⟨g.stays n h, .inl (g.keep _ _ n h)⟩
  · exact .inl ⟨g.stays n h, .inr ⟨o, g.keep _ _ n h⟩⟩
  · exact .inr h
theorem not_app {a : Addr} {F M : List Addr} (h : a ∉ F ++ M) : a ∉ F ∧ a ∉ M := ⟨fun z => h (List.mem_append_left _ z), fun z => h (List.mem_append_right _ z)⟩
theorem app_not {a : Addr} {F M : List Addr} (h : a ∉ F) (k : a ∉ M) : a ∉ F ++ M := fun z => (List.mem_append.mp z).elim h k
/-- from one heap to another: what stands off F and ρ stands there too -/
structure Move (F ρ F' ρ' : List Addr) (H H' : Hp) : Prop where
  keep : ∀ a o, a ∉ F ++ ρ → H a = some o → a ∉ F' ++ ρ' ∧ H' a = some o
  at_ : ∀ (i : Nat) (a : Addr), ρ[i]? = some a → ρ'[i]? = some a
theorem Dt.move {K : PySem.W.Frag} {F ρ F' ρ' : List Addr} {H H' : Hp} (g : Move F ρ F' ρ' H H') : ∀ {v : V} {d : D}, Dt K F ρ H v d → Dt K F' ρ' H' v d := by
  intro v d h
  refine Dt.rec (motive_1 := fun v d _ => Dt K F' ρ' H' v d) (motive_2 := fun vs ds _ => DtAll K F' ρ' H' vs ds) ?_ ?_ ?_ ?_ ?_ ?_ ?_ ?_ ?_ ?_ ?_ ?_ ?_ ?_ ?_ ?_ ?_ h
  · exact .non
  · exact .bl
  · exact .int
  · exact .str
  · exact .ty
  · exact .cls
  · exact .fn
  · intro a vs xs n e _ ih
    exact .tup (g.keep _ _ n e).1 (g.keep _ _ n e).2 ih
  · intro a vs xs n e _ ih
    exact .lst (g.keep _ _ n e).1 (g.keep _ _ n e).2 ih
  · intro i a e
    exact .cell (g.at_ _ _ e)
  · intro a dx c ns vs ds n e l _ ih
    exact .obj (g.keep _ _ n e).1 (g.keep _ _ n e).2 l ih
  · intro a ns e
    refine .scr ?_
    rcases e with ⟨n, e | ⟨o, e⟩⟩ | e
    · exact .inl ⟨(g.keep _ _ n e).1, .inl (g.keep _ _ n e).2⟩
    · exact .inl ⟨(g.keep _ _ n e).1, .inr ⟨o, (g.keep _ _ n e).2⟩⟩
    · exact .inr e
  · intro a ks vs ds n e l _ ih
    exact .dK (g.keep _ _ n e).1 (g.keep _ _ n e).2 l ih
  · intro a ks vs ds n e l _ ih
    exact .dT (g.keep _ _ n e).1 (g.keep _ _ n e).2 l ih
  · intro a dx c ns vs ds n n2 e e2 l _ ih
    exact .exn (g.keep _ _ n e).1 (g.keep _ _ n2 e2).1 (g.keep _ _ n e).2 (g.keep _ _ n2 e2).2 l ih
  · exact .nil
  · intro v vs d ds _ _ h1 h2
    exact .cons h1 h2
theorem DtAll.move {K : PySem.W.Frag} {F ρ F' ρ' : List Addr} {H H' : Hp} (g : Move F ρ F' ρ' H H') : ∀ {vs : List V} {ds : List D}, DtAll K F ρ H vs ds → DtAll K F' ρ' H' vs ds
  | _, _, .nil => .nil
  | _, _, .cons h t => .cons (h.move g) (DtAll.move g t)
theorem Grow.move {F ρ ρ' : List Addr} {H H' : Hp} (g : Grow ρ ρ' H H') : Move F ρ F ρ' H H' :=
  ⟨fun a o n e => ⟨app_not (not_app n).1 (g.stays (not_app n).2 e), g.keep _ _ (not_app n).2 e⟩, fun i a h => g.at_ h⟩
theorem Move.trans {F ρ F1 ρ1 F2 ρ2 : List Addr} {H H1 H2 : Hp} (a : Move F ρ F1 ρ1 H H1) (b : Move F1 ρ1 F2 ρ2 H1 H2) : Move F ρ F2 ρ2 H H2 :=
  ⟨fun x o n e => b.keep x o (a.keep x o n e).1 (a.keep x o n e).2, fun i x h => b.at_ i x (a.at_ i x h)⟩
theorem move_aside {F F' ρ : List Addr} {H : Hp} (hf : ∀ a, a ∉ F → H a ≠ none → a ∉ F') : Move F ρ F' ρ H H :=
  ⟨fun a o n e => ⟨app_not (hf _ (not_app n).1 (by rw [e]; simp)) (not_app n).2, e⟩, fun _ _ h => h⟩
theorem move_touch {F ρ : List Addr} {H : Hp} {p : Addr} {o : HO} (hp : p ∈ F) : Move F ρ F ρ H (upd H p o) :=
  ⟨fun a u n e => ⟨n, by rw [upd_ne (fun z => n (List.mem_append_left _ (by rw [z]; exact hp)))]; exact e⟩, fun _ _ h => h⟩
section
variable {K : PySem.W.Frag} {F F' ρ ρ' : List Addr} {H H' : Hp}
theorem Dt.mono (g : Grow ρ ρ' H H') {v : V} {d : D} (h : Dt K F ρ H v d) : Dt K F ρ' H' v d := h.move g.move
theorem DtAll.mono (g : Grow ρ ρ' H H') {vs : List V} {ds : List D} (h : DtAll K F ρ H vs ds) : DtAll K F ρ' H' vs ds := h.move g.move
theorem Dt.aside (hf : ∀ a, a ∉ F → H a ≠ none → a ∉ F') {v : V} {d : D} (h : Dt K F ρ H v d) : Dt K F' ρ H v d := h.move (move_aside hf)
theorem DtAll.aside (hf : ∀ a, a ∉ F → H a ≠ none → a ∉ F') {vs : List V} {ds : List D} (h : DtAll K F ρ H vs ds) : DtAll K F' ρ H vs ds := h.move (move_aside hf)
theorem Dt.touch {p : Addr} {o : HO} (hp : p ∈ F) {v : V} {d : D} (h : Dt K F ρ H v d) : Dt K F ρ (upd H p o) v d := h.move (move_touch hp)
theorem DtAll.touch {p : Addr} {o : HO} (hp : p ∈ F) {vs : List V} {ds : List D} (h : DtAll K F ρ H vs ds) : DtAll K F ρ (upd H p o) vs ds := h.move (move_touch hp)
theorem DtAll.len : ∀ {vs : List V} {ds : List D}, DtAll K F ρ H vs ds → vs.length = ds.length
  | _, _, .nil => rfl
  | _, _, .cons _ t => congrArg (· + 1) (DtAll.len t)
theorem DtAll.get : ∀ {vs : List V} {ds : List D}, DtAll K F ρ H vs ds → ∀ {i : Nat} {v : V}, vs[i]? = some v → ∃ d, ds[i]? = some d ∧ Dt K F ρ H v d
  | _, _, .nil, i, v, h => by simp at h
  | _, _, .cons h t, 0, v, e => by
    cases e
    exact ⟨_, rfl, h⟩
  | _, _, .cons h t, i + 1, v, e => DtAll.get t (by simpa using e)
theorem DtAll.getD : ∀ {vs : List V} {ds : List D}, DtAll K F ρ H vs ds → ∀ {i : Nat} {d : D}, ds[i]? = some d → ∃ v, vs[i]? = some v ∧ Dt K F ρ H v d
  | _, _, .nil, i, v, h => by simp at h
  | _, _, .cons h t, 0, v, e => by
    cases e
    exact ⟨_, rfl, h⟩
  | _, _, .cons h t, i + 1, v, e => DtAll.getD t (by simpa using e)
theorem DtAll.app : ∀ {vs ws : List V} {ds es : List D}, DtAll K F ρ H vs ds → DtAll K F ρ H ws es → DtAll K F ρ H (vs ++ ws) (ds ++ es)
  | _, _, _, _, .nil, h => h
  | _, _, _, _, .cons a t, h => .cons a (DtAll.app t h)
theorem DtAll.take : ∀ {vs : List V} {ds : List D} (n : Nat), DtAll K F ρ H vs ds → DtAll K F ρ H (vs.take n) (ds.take n)
  | _, _, 0, _ => by rw [List.take_zero, List.take_zero]; exact .nil
  | _, _, n + 1, .nil => .nil
  | _, _, n + 1, .cons a t => .cons a (DtAll.take n t)
theorem DtAll.drop : ∀ {vs : List V} {ds : List D} (n : Nat), DtAll K F ρ H vs ds → DtAll K F ρ H (vs.drop n) (ds.drop n)
  | _, _, 0, h => h
  | _, _, n + 1, .nil => .nil
  | _, _, n + 1, .cons a t => DtAll.drop n t
theorem DtAll.set : ∀ {vs : List V} {ds : List D} (i : Nat) {v : V} {d : D}, DtAll K F ρ H vs ds → Dt K F ρ H v d → DtAll K F ρ H (vs.set i v) (ds.set i d)
  | _, _, _, _, _, .nil, _ => .nil
  | _, _, 0, _, _, .cons a t, h => .cons h t
  | _, _, i + 1, _, _, .cons a t, h => .cons a (DtAll.set i t h)
theorem DtAll.one {v : V} {d : D} (h : Dt K F ρ H v d) : DtAll K F ρ H [v] [d] := .cons h .nil
theorem DtAll.rev : ∀ {vs : List V} {ds : List D}, DtAll K F ρ H vs ds → DtAll K F ρ H vs.reverse ds.reverse
  | _, _, .nil => .nil
  | _, _, .cons a t => by
    rw [List.reverse_cons, List.reverse_cons]
    exact (DtAll.rev t).app (.one a)
theorem DtAll.ints : ∀ {vs : List V} {ns : List Int}, DtAll K F ρ H vs (ns.map D.int) → vs = ns.map V.int
  | [], [], _ => rfl
  | [], n :: r, h => by cases h
  | v :: vs, [], h => by cases h
  | v :: vs, n :: r, h => by
    cases h with
    | cons a t =>
      cases a
      rw [DtAll.ints t]
      rfl
theorem DtAll.of_ints : ∀ (ns : List Int), DtAll K F ρ H (ns.map V.int) (ns.map D.int)
  | [] => .nil
  | n :: r => .cons (.int n) (DtAll.of_ints r)
theorem DtAll.bls : ∀ {vs : List V} {ns : List Bool}, DtAll K F ρ H vs (ns.map D.bl) → vs = ns.map V.bl
  | [], [], _ => rfl
  | [], n :: r, h => by cases h
  | v :: vs, [], h => by cases h
  | v :: vs, n :: r, h => by
    cases h with
    | cons a t =>
      cases a
      rw [DtAll.bls t]
      rfl
theorem DtAll.strs : ∀ {vs : List V} {ns : List Str}, DtAll K F ρ H vs (ns.map D.str) → vs = ns.map V.str
  | [], [], _ => rfl
  | [], n :: r, h => by cases h
  | v :: vs, [], h => by cases h
  | v :: vs, n :: r, h => by
    cases h with
    | cons a t =>
      cases a
      rw [DtAll.strs t]
      rfl
theorem DtAll.of_strs : ∀ (ns : List Str), DtAll K F ρ H (ns.map V.str) (ns.map D.str)
  | [] => .nil
  | n :: r => .cons (.str n) (DtAll.of_strs r)
end
end DX

namespace DX
open PySem L2
/-! ### the store stands -/
def MOk (K : PySem.W.Frag) (F ρ : List Addr) (H : Hp) (a : Addr) : MO → Prop
  | .lst ds => ∃ vs, H a = some (.lst vs) ∧ DtAll K F ρ H vs ds
  | .ins c ns ds => ∃ dx vs, H a = some (.ins (He.ga K c) dx (ns.zip vs)) ∧ ns.length = vs.length ∧ DtAll K F ρ H vs ds
  | .dK ks ds => ∃ vs, H a = some (.dK (ks.zip vs)) ∧ ks.length = vs.length ∧ DtAll K F ρ H vs ds
  | .dT ks ds => ∃ vs, H a = some (.dT (ks.zip vs)) ∧ ks.length = vs.length ∧ DtAll K F ρ H vs ds
  | .tbl x q => a = (He.cT K (x, none)).2 ∧ ∃ ps : Array Value, H a = some (.tbl ps) ∧ TriplesOk ps.toList ∧ ∀ (pos : Pos) (cv : Value), codeAmong pos ps.toList = some cv → ∃ c, cv = .ref c ∧ c ∉ F ++ ρ ∧ H c = some (LamX.CodeO c q)
theorem MOk.by_ {K : PySem.W.Frag} {F ρ F' ρ' : List Addr} {H H' : Hp} {a : Addr} {m : MO} (g : Move F ρ F' ρ' H H') (ha : ∀ o, H a = some o → H' a = some o) (h : MOk K F ρ H a m) : MOk K F' ρ' H' a m := by
  have q : ∀ {vs ds}, DtAll K F ρ H vs ds → DtAll K F' ρ' H' vs ds := fun r => r.move g
  cases m with
  | lst ds =>
    obtain ⟨vs, e, r⟩ := h
    exact ⟨vs, ha _ e, q r⟩
  | ins C ns ds =>
    obtain ⟨dx, vs, e, l, r⟩ := h
    exact ⟨dx, vs, ha _ e, l, q r⟩
  | dK ks ds =>
    obtain ⟨vs, e, l, r⟩ := h
    exact ⟨vs, ha _ e, l, q r⟩
  | dT ks ds =>
    obtain ⟨vs, e, l, r⟩ := h
    exact ⟨vs, ha _ e, l, q r⟩
  | tbl x nm =>
    obtain ⟨ea, ps, e, l, r⟩ := h
    refine ⟨ea, ps, ha _ e, l, fun pos cv hc => ?_⟩
    obtain ⟨c, e1, e2, e3⟩ := r pos cv hc
    exact ⟨c, e1, g.keep _ _ e2 e3⟩
theorem MOk.there {K : PySem.W.Frag} {F ρ : List Addr} {H : Hp} {a : Addr} {m : MO} (h : MOk K F ρ H a m) : ∃ o, H a = some o := by
  cases m with
  | lst ds => obtain ⟨vs, e, r⟩ := h; exact ⟨_, e⟩
  | ins C ns ds => obtain ⟨dx, vs, e, l, r⟩ := h; exact ⟨_, e⟩
  | dK ks ds => obtain ⟨vs, e, l, r⟩ := h; exact ⟨_, e⟩
  | dT ks ds => obtain ⟨vs, e, l, r⟩ := h; exact ⟨_, e⟩
  | tbl x nm => obtain ⟨_, ps, e, l, r⟩ := h; exact ⟨_, e⟩
structure Wd (K : PySem.W.Frag) (F ρ : List Addr) (μ : Mu) (H : Hp) : Prop where
  fs : ∀ x, x ∈ F → ∃ o, H x = some o
  len : ρ.length = μ.length
  nd : ρ.Nodup
  apart : ∀ a, a ∈ ρ → a ∉ F
  ok : ∀ (i : Nat) (a : Addr) (m : MO), ρ[i]? = some a → μ[i]? = some m → MOk K F ρ H a m
section
variable {K : PySem.W.Frag} {F F' ρ ρ' : List Addr} {μ μ' : Mu} {H H' : Hp}
theorem Wd.there {a : Addr} (w : Wd K F ρ μ H) (h : a ∈ ρ) : ∃ o, H a = some o := by
  obtain ⟨i, hi, e⟩ := List.mem_iff_getElem.mp h
  have hm : i < μ.length := by rw [← w.len]; exact hi
  exact (w.ok i a _ (by rw [List.getElem?_eq_getElem hi, e]) (List.getElem?_eq_getElem hm)).there
theorem Wd.freshF {p : Addr} (w : Wd K F ρ μ H) (h : H p = none) : p ∉ F := fun z => by
  obtain ⟨o, e⟩ := w.fs p z
  rw [h] at e
  cases e
theorem Wd.fresh {p : Addr} (w : Wd K F ρ μ H) (h : H p = none) : p ∉ ρ := fun z => by
  obtain ⟨o, e⟩ := w.there z
  rw [h] at e
  cases e
theorem Wd.fresh2 {p : Addr} (w : Wd K F ρ μ H) (h : H p = none) : p ∉ F ++ ρ := app_not (w.freshF h) (w.fresh h)
theorem fs_upd {p : Addr} {o : HO} (h : ∀ x, x ∈ F → ∃ o, H x = some o) : ∀ x, x ∈ F → ∃ u, upd H p o x = some u := fun x hx => by
  by_cases e : x = p
  · subst e
    exact ⟨o, upd_same⟩
  · rw [upd_ne e]
    exact h x hx
/-- a new thing is laid that nobody will change -/
theorem Wd.lay {p : Addr} {o : HO} (w : Wd K F ρ μ H) (h : H p = none) : Wd K F ρ μ (upd H p o) :=
  ⟨fs_upd w.fs, w.len, w.nd, w.apart, fun i a m hi hm => (w.ok i a m hi hm).by_ (Grow.fresh h).move fun u e => by rw [upd_ne (ne_of_none e h)]; exact e⟩
/-- a new thing is laid that may change -/
theorem Wd.layM {p : Addr} {o : HO} {m : MO} (w : Wd K F ρ μ H) (h : H p = none) (q : MOk K F (ρ ++ [p]) (upd H p o) p m) : Wd K F (ρ ++ [p]) (μ ++ [m]) (upd H p o) where
  fs := fs_upd w.fs
  len := by rw [List.length_append, List.length_append, w.len]; rfl
  nd := by
    rw [List.nodup_append]
    refine ⟨w.nd, by simp, fun a ha b hb e => ?_⟩
    rw [List.mem_singleton.mp hb] at e
    exact w.fresh h (e ▸ ha)
  apart := fun a ha => by
    rcases List.mem_append.mp ha with z | z
    · exact w.apart a z
    · rw [List.mem_singleton.mp z]; exact w.freshF h
  ok := fun i a n hi hn => by
    by_cases c : i < ρ.length
    · rw [List.getElem?_append_left c] at hi
      rw [List.getElem?_append_left (by rw [← w.len]; exact c)] at hn
      exact (w.ok i a n hi hn).by_ (Grow.add h).move fun u e => by rw [upd_ne (ne_of_none e h)]; exact e
    · have ci : i = ρ.length := by
        have := (List.getElem?_eq_some_iff.mp hi).1
        rw [List.length_append, List.length_singleton] at this
        omega
      subst ci
      rw [List.getElem?_append_right (Nat.le_refl _), Nat.sub_self] at hi
      rw [w.len, List.getElem?_append_right (Nat.le_refl _), Nat.sub_self] at hn
      cases hi
      cases hn
      exact q
theorem nodup_at {a : Addr} {i j : Nat} (nd : ρ.Nodup) (hi : ρ[i]? = some a) (hj : ρ[j]? = some a) : i = j := by
  have li := (List.getElem?_eq_some_iff.mp hi)
  have lj := (List.getElem?_eq_some_iff.mp hj)
  obtain ⟨li, ei⟩ := li
  obtain ⟨lj, ej⟩ := lj
  have pw := List.pairwise_iff_getElem.mp nd
  rcases Nat.lt_trichotomy i j with c | c | c
  · exact absurd (ei.trans ej.symm) (pw i j li lj c)
  · exact c
  · exact absurd (ej.trans ei.symm) (pw j i lj li c)
/-- a thing that may change is changed -/
theorem Wd.put {i : Nat} {a : Addr} {o : HO} {m : MO} (w : Wd K F ρ μ H) (h : ρ[i]? = some a) (q : MOk K F ρ (upd H a o) a m) : Wd K F ρ (μ.set i m) (upd H a o) where
  fs := fs_upd w.fs
  len := by rw [List.length_set]; exact w.len
  nd := w.nd
  apart := w.apart
  ok := fun j b n hj hn => by
    have ha : a ∈ ρ := List.mem_of_getElem? h
    by_cases c : i = j
    · subst c
      rw [h] at hj
      cases hj
      rw [List.getElem?_set_self (by rw [← w.len]; exact (List.getElem?_eq_some_iff.mp h).1)] at hn
      cases hn
      exact q
    · rw [List.getElem?_set_ne c] at hn
      refine (w.ok j b n hj hn).by_ (Grow.put ha).move fun u e => ?_
      rw [upd_ne (fun z => c (nodup_at w.nd (by rw [← z] at h; exact h) hj))]
      exact e
theorem Wd.move {K : PySem.W.Frag} (w : Wd K F ρ μ H) (hs : ∀ x, x ∈ F' → ∃ o, H' x = some o) (ha : ∀ a, a ∈ ρ → a ∉ F') (hk : ∀ a o, a ∈ ρ → H a = some o → H' a = some o) (q : Move F ρ F' ρ H H') : Wd K F' ρ μ H' :=
  ⟨hs, w.len, w.nd, ha, fun i a m hi hm => (w.ok i a m hi hm).by_ q fun o e => hk a o (List.mem_of_getElem? hi) e⟩
theorem Wd.asideTo (w : Wd K F ρ μ H) (hf : ∀ a, a ∉ F → H a ≠ none → a ∉ F') (hs : ∀ x, x ∈ F' → ∃ o, H x = some o) : Wd K F' ρ μ H :=
  w.move hs (fun a ha => hf a (w.apart a ha) (by
    obtain ⟨o, e⟩ := w.there ha
    rw [e]
    simp)) (fun _ _ _ e => e) (move_aside hf)
theorem Wd.drop {D : Addr} (w : Wd K (D :: F) ρ μ H) : Wd K F ρ μ H :=
  w.asideTo (fun x hx _ => fun z => hx (List.mem_cons_of_mem _ z)) fun x hx => w.fs x (List.mem_cons_of_mem _ hx)
theorem Wd.touch {p : Addr} {o : HO} (w : Wd K F ρ μ H) (hp : p ∈ F) (hm : p ∉ ρ) : Wd K F ρ μ (upd H p o) :=
  w.move (fs_upd w.fs) w.apart (fun a u ha e => by rw [upd_ne (fun z => hm (by rw [← z]; exact ha))]; exact e) (move_touch hp)
theorem Wd.layAside {p : Addr} {o : HO} (w : Wd K F ρ μ H) (h : H p = none) : Wd K (p :: F) ρ μ (upd H p o) := by
  have off : ∀ a, a ∉ F → H a ≠ none → a ∉ p :: F := fun x hx hn z => by
    rcases List.mem_cons.mp z with rfl | z
    · exact hn h
    · exact hx z
  refine w.move (fun x hx => ?_) (fun a ha => off a (w.apart a ha) ?_) (fun a u _ e => by rw [upd_ne (ne_of_none e h)]; exact e) ((move_aside off).trans (Grow.fresh h).move)
  · rcases List.mem_cons.mp hx with rfl | hx
    · exact ⟨_, upd_same⟩
    · exact fs_upd w.fs x hx
  · obtain ⟨o, e⟩ := w.there ha
    rw [e]
    simp
end
/-! ### what a piece of a program gives -/
/-- an exception: its class, its fields -/
structure Exn where
  cls : Str
  ns : List Str
  ds : List D
inductive Res (α : Type) where
  | ok (a : α) (μ : Mu)
  | exc (e : Exn) (μ : Mu)
  | bad
def Res.bind {α β : Type} (r : Res α) (f : α → Mu → Res β) : Res β := match r with
  | .ok a μ => f a μ
  | .exc e μ => .exc e μ
  | .bad => .bad
def wp {α : Type} (r : Res α) (P : α → Mu → Prop) (X : Exn → Mu → Prop) : Prop := match r with
  | .ok a μ => P a μ
  | .exc e μ => X e μ
  | .bad => False
theorem wp_bind {α β : Type} {r : Res α} {f : α → Mu → Res β} {P : β → Mu → Prop} {X : Exn → Mu → Prop} (h : wp (r.bind f) P X) : wp r (fun a μ => wp (f a μ) P X) X := by
  cases r <;> exact h
theorem wp_mono {α : Type} {r : Res α} {P P' : α → Mu → Prop} {X X' : Exn → Mu → Prop} (h : wp r P X) (hp : ∀ a μ, P a μ → P' a μ) (hx : ∀ e μ, X e μ → X' e μ) : wp r P' X' := by
  cases r with
  | ok a μ => exact hp _ _ h
  | exc e μ => exact hx _ _ h
  | bad => exact h
abbrev Env := List (Option D)
inductive SR where
  | nx (η : Env) (μ : Mu)
  | rt (d : D) (μ : Mu)
  | bk (η : Env) (μ : Mu)
  | ct (η : Env) (μ : Mu)
  | exc (e : Exn) (η : Env) (μ : Mu)
  | bad
structure DEnds where
  nx : Env → Mu → Prop
  rt : D → Mu → Prop
  bk : Env → Mu → Prop := fun _ _ => False
  ct : Env → Mu → Prop := fun _ _ => False
abbrev PX := Exn → Env → Mu → Prop
def wpS (r : SR) (B : DEnds) (X : PX) : Prop := match r with
  | .nx η μ => B.nx η μ
  | .rt d μ => B.rt d μ
  | .bk η μ => B.bk η μ
  | .ct η μ => B.ct η μ
  | .exc e η μ => X e η μ
  | .bad => False
/-- a result, and a statement behind it -/
def Res.to {α : Type} (r : Res α) (η : Env) (f : α → Mu → SR) : SR := match r with
  | .ok a μ => f a μ
  | .exc e μ => .exc e η μ
  | .bad => .bad
def SR.then (r : SR) (f : Env → Mu → SR) : SR := match r with
  | .nx η μ => f η μ
  | .rt d μ => .rt d μ
  | .bk η μ => .bk η μ
  | .ct η μ => .ct η μ
  | .exc e η μ => .exc e η μ
  | .bad => .bad
/-- a loop's turn, and what follows it -/
def SR.turn (r : SR) (f : Env → Mu → SR) : SR := match r with
  | .nx η μ => f η μ
  | .rt d μ => .rt d μ
  | .bk η μ => .nx η μ
  | .ct η μ => f η μ
  | .exc e η μ => .exc e η μ
  | .bad => .bad
theorem wp_to {α : Type} {r : Res α} {η : Env} {f : α → Mu → SR} {B : DEnds} {X : PX} (h : wpS (r.to η f) B X) : wp r (fun a μ => wpS (f a μ) B X) (fun e μ => X e η μ) := by
  cases r <;> exact h
theorem wp_then {r : SR} {f : Env → Mu → SR} {B : DEnds} {X : PX} (h : wpS (r.then f) B X) : wpS r { B with nx := fun η μ => wpS (f η μ) B X } X := by
  cases r <;> exact h
theorem wp_turn {r : SR} {f : Env → Mu → SR} {B : DEnds} {X : PX} (h : wpS (r.turn f) B X) : wpS r { B with nx := fun η μ => wpS (f η μ) B X, ct := fun η μ => wpS (f η μ) B X, bk := B.nx } X := by
  cases r <;> exact h
abbrev DE := Env → Mu → Res D
abbrev DTs := Env → Mu → Res Bool
abbrev DA := Env → Mu → Res (List D)
abbrev DO := Env → Mu → Res (Option Int)
abbrev DS := Env → Mu → SR
abbrev DG := D → Env → Mu → Res Env
abbrev DGs := List D → Env → Mu → Res Env
abbrev FS := List D → Mu → Res D
/-! ### the names -/
structure EnvOk0 (K : PySem.W.Frag) (F ρ : List Addr) (H : Hp) (σ : L2.St) (η : Env) : Prop where
  len : σ.length = η.length
  ok : ∀ (i : Nat) (d : D), η[i]? = some (some d) → ∃ v, σ[i]? = some (some v) ∧ Dt K F ρ H v d
/-- what is wished of exceptions -/
def XOut (K : PySem.W.Frag) (E : L2.St → XK) (X : PX) (F ρ : List Addr) (H : Hp) : Prop := ∀ σ' η' e d H' ρ' μ' vs, Wd K F ρ' μ' H' → EnvOk0 K F ρ' H' σ' η' → Grow ρ ρ' H H' →
  H' d = some (.xd (e.ns.zip vs)) → d ∉ F ++ ρ' → e.ns.length = vs.length → DtAll K F ρ' H' vs e.ds → X e η' μ' → E σ' (.ref (He.ga K e.cls)) (some d) H'
structure EnvOk (K : PySem.W.Frag) (E : L2.St → XK) (X : PX) (F ρ : List Addr) (H : Hp) (σ : L2.St) (η : Env) : Prop extends EnvOk0 K F ρ H σ η where
  xo : XOut K E X F ρ H
section
variable {K : PySem.W.Frag} {E : L2.St → XK} {X : PX} {F F' ρ ρ' : List Addr} {H H' : Hp} {σ : L2.St} {η : Env}
theorem XOut.mono (g : Grow ρ ρ' H H') (h : XOut K E X F ρ H) : XOut K E X F ρ' H' := fun σ' η' e d H2 ρ2 μ2 vs a b c => h σ' η' e d H2 ρ2 μ2 vs a b (g.trans c)
theorem EnvOk0.mono (g : Grow ρ ρ' H H') (h : EnvOk0 K F ρ H σ η) : EnvOk0 K F ρ' H' σ η :=
  ⟨h.len, fun i d e => let ⟨v, e', q⟩ := h.ok i d e; ⟨v, e', q.mono g⟩⟩
theorem EnvOk.mono (g : Grow ρ ρ' H H') (h : EnvOk K E X F ρ H σ η) : EnvOk K E X F ρ' H' σ η := ⟨h.toEnvOk0.mono g, h.xo.mono g⟩
theorem EnvOk0.set {i : Nat} {v : V} {d : D} (h : EnvOk0 K F ρ H σ η) (q : Dt K F ρ H v d) : EnvOk0 K F ρ H (σ.set i (some v)) (η.set i (some d)) where
  len := by rw [List.length_set, List.length_set]; exact h.len
  ok := fun j e hj => by
    by_cases c : j = i
    · subst c
      by_cases l : j < η.length
      · rw [List.getElem?_set_self l] at hj
        cases hj
        exact ⟨v, List.getElem?_set_self (by rw [h.len]; exact l), q⟩
      · rw [List.getElem?_eq_none (by rw [List.length_set]; omega)] at hj
        cases hj
    · rw [List.getElem?_set_ne (Ne.symm c)] at hj
      obtain ⟨u, e1, e2⟩ := h.ok j e hj
      exact ⟨u, by rw [List.getElem?_set_ne (Ne.symm c)]; exact e1, e2⟩
theorem EnvOk.set {i : Nat} {v : V} {d : D} (h : EnvOk K E X F ρ H σ η) (q : Dt K F ρ H v d) : EnvOk K E X F ρ H (σ.set i (some v)) (η.set i (some d)) := ⟨h.toEnvOk0.set q, h.xo⟩
theorem EnvOk0.setN {i : Nat} {x : Option V} (h : EnvOk0 K F ρ H σ η) : EnvOk0 K F ρ H (σ.set i x) (η.set i none) where
  len := by rw [List.length_set, List.length_set]; exact h.len
  ok := fun j e hj => by
    by_cases c : j = i
    · subst c
      by_cases l : j < η.length
      · rw [List.getElem?_set_self l] at hj
        cases hj
      · rw [List.getElem?_eq_none (by rw [List.length_set]; omega)] at hj
        cases hj
    · rw [List.getElem?_set_ne (Ne.symm c)] at hj
      obtain ⟨u, e1, e2⟩ := h.ok j e hj
      exact ⟨u, by rw [List.getElem?_set_ne (Ne.symm c)]; exact e1, e2⟩
def wipeD (η : Env) : List Nat → Env
  | [] => η
  | i :: r => (wipeD η r).set i none
theorem EnvOk0.wipe (h : EnvOk0 K F ρ H σ η) : ∀ vs : List Nat, EnvOk0 K F ρ H (L2.wipe σ vs) (wipeD η vs)
  | [] => h
  | i :: r => by
    show EnvOk0 K F ρ H ((L2.wipe σ r).set i none) ((wipeD η r).set i none)
    exact (EnvOk0.wipe h r).setN
theorem EnvOk0.aside (h : EnvOk0 K F ρ H σ η) (hf : ∀ a, a ∉ F → H a ≠ none → a ∉ F') : EnvOk0 K F' ρ H σ η :=
  ⟨h.len, fun i d e => let ⟨v, e', q⟩ := h.ok i d e; ⟨v, e', q.aside hf⟩⟩
/-- no exception at all -/
abbrev EN : L2.St → XK := fun _ => L2.E0
def X0 : PX := fun _ _ _ => False
theorem xout0 : XOut K E X0 F ρ H := fun _ _ _ _ _ _ _ _ _ _ _ _ _ _ _ z => z.elim
end
/-- what follows, over values, from what follows over data -/
def Out (K : PySem.W.Frag) (F ρ : List Addr) (H : Hp) (P : D → Mu → Prop) (Q : VK) : Prop := ∀ v H' ρ' d μ', Wd K F ρ' μ' H' → Grow ρ ρ' H H' → Dt K F ρ' H' v d → P d μ' → Q v H'
/-! ### readings and what they are over data -/
class SE (K : PySem.W.Frag) (E : L2.St → XK) (t : TE) (T : outParam DE) : Prop where
  run : ∀ {X : PX} {F : List Addr} {σ : L2.St} {H : Hp} {η : Env} {ρ : List Addr} {μ : Mu} {P : D → Mu → Prop} {Q : VK}, Wd K F ρ μ H → EnvOk K E X F ρ H σ η → wp (T η μ) P (fun e μ' => X e η μ') → Out K F ρ H P Q → t σ H Q
class ST (K : PySem.W.Frag) (E : L2.St → XK) (t : TT) (T : outParam DTs) : Prop where
  run : ∀ {X : PX} {F : List Addr} {σ : L2.St} {H : Hp} {η : Env} {ρ : List Addr} {μ : Mu} {P : Bool → Mu → Prop} {Q : Bool → Hp → Prop}, Wd K F ρ μ H → EnvOk K E X F ρ H σ η → wp (T η μ) P (fun e μ' => X e η μ') → (∀ b H' ρ' μ', Wd K F ρ' μ' H' → Grow ρ ρ' H H' → P b μ' → Q b H') → t σ H Q
class SA (K : PySem.W.Frag) (E : L2.St → XK) (t : TA) (T : outParam DA) : Prop where
  run : ∀ {X : PX} {F : List Addr} {σ : L2.St} {H : Hp} {η : Env} {ρ : List Addr} {μ : Mu} {P : List D → Mu → Prop} {Q : List V → Hp → Prop}, Wd K F ρ μ H → EnvOk K E X F ρ H σ η → wp (T η μ) P (fun e μ' => X e η μ') → (∀ vs H' ρ' ds μ', Wd K F ρ' μ' H' → Grow ρ ρ' H H' → DtAll K F ρ' H' vs ds → P ds μ' → Q vs H') → t σ H Q
class SO (K : PySem.W.Frag) (E : L2.St → XK) (t : TO) (T : outParam DO) : Prop where
  run : ∀ {X : PX} {F : List Addr} {σ : L2.St} {H : Hp} {η : Env} {ρ : List Addr} {μ : Mu} {P : Option Int → Mu → Prop} {Q : Option Int → Hp → Prop}, Wd K F ρ μ H → EnvOk K E X F ρ H σ η → wp (T η μ) P (fun e μ' => X e η μ') → (∀ o H' ρ' μ', Wd K F ρ' μ' H' → Grow ρ ρ' H H' → P o μ' → Q o H') → t σ H Q
/-- operators, calls by values: they don't raise -/
class SR2 (K : PySem.W.Frag) (r : R2) (Fn : outParam (D → D → Mu → Res D)) : Prop where
  run : ∀ {X : Exn → Mu → Prop} {F : List Addr} {H : Hp} {ρ : List Addr} {μ : Mu} {x y : V} {dx dy : D} {P : D → Mu → Prop} {Q : VK}, Wd K F ρ μ H → Dt K F ρ H x dx → Dt K F ρ H y dy → wp (Fn dx dy μ) P X → Out K F ρ H P Q → r x y H Q
class SU (K : PySem.W.Frag) (r : V → Hp → VK → Prop) (Fn : outParam (D → Mu → Res D)) : Prop where
  run : ∀ {X : Exn → Mu → Prop} {F : List Addr} {H : Hp} {ρ : List Addr} {μ : Mu} {x : V} {dx : D} {P : D → Mu → Prop} {Q : VK}, Wd K F ρ μ H → Dt K F ρ H x dx → wp (Fn dx μ) P X → Out K F ρ H P Q → r x H Q
class SC (K : PySem.W.Frag) (r : List V → Hp → VK → Prop) (Fn : outParam (List D → Mu → Res D)) : Prop where
  run : ∀ {X : Exn → Mu → Prop} {F : List Addr} {H : Hp} {ρ : List Addr} {μ : Mu} {vs : List V} {ds : List D} {P : D → Mu → Prop} {Q : VK}, Wd K F ρ μ H → DtAll K F ρ H vs ds → wp (Fn ds μ) P X → Out K F ρ H P Q → r vs H Q
class SM (K : PySem.W.Frag) (r : V → List V → Hp → VK → Prop) (Fn : outParam (D → List D → Mu → Res D)) : Prop where
  run : ∀ {X : Exn → Mu → Prop} {F : List Addr} {H : Hp} {ρ : List Addr} {μ : Mu} {x : V} {dx : D} {vs : List V} {ds : List D} {P : D → Mu → Prop} {Q : VK}, Wd K F ρ μ H → Dt K F ρ H x dx → DtAll K F ρ H vs ds → wp (Fn dx ds μ) P X → Out K F ρ H P Q → r x vs H Q
class SL (K : PySem.W.Frag) (r : V → Option Int → Option Int → Hp → VK → Prop) (Fn : outParam (D → Option Int → Option Int → Mu → Res D)) : Prop where
  run : ∀ {X : Exn → Mu → Prop} {F : List Addr} {H : Hp} {ρ : List Addr} {μ : Mu} {x : V} {dx : D} {lo hi : Option Int} {P : D → Mu → Prop} {Q : VK}, Wd K F ρ μ H → Dt K F ρ H x dx → wp (Fn dx lo hi μ) P X → Out K F ρ H P Q → r x lo hi H Q
/-- targets; ks: the slots that change -/
class SG (K : PySem.W.Frag) (E : L2.St → XK) (g : TG) (G : outParam DG) (ks : outParam (List Nat)) : Prop where
  run : ∀ {X : PX} {F : List Addr} {σ : L2.St} {H : Hp} {η : Env} {ρ : List Addr} {μ : Mu} {v : V} {d : D} {P : Env → Mu → Prop} {Q : L2.St → Hp → Prop}, Wd K F ρ μ H → EnvOk K E X F ρ H σ η → Dt K F ρ H v d → wp (G d η μ) P (fun e μ' => X e η μ') →
    (∀ σ' H' η' ρ' μ', Wd K F ρ' μ' H' → EnvOk K E X F ρ' H' σ' η' → Grow ρ ρ' H H' → σ'.length = σ.length → (∀ i, i ∉ ks → σ'[i]? = σ[i]?) → P η' μ' → Q σ' H') → g v σ H Q
class SGs (K : PySem.W.Frag) (E : L2.St → XK) (g : TGs) (G : outParam DGs) (ks : outParam (List Nat)) : Prop where
  run : ∀ {X : PX} {F : List Addr} {σ : L2.St} {H : Hp} {η : Env} {ρ : List Addr} {μ : Mu} {vs : List V} {ds : List D} {P : Env → Mu → Prop} {Q : L2.St → Hp → Prop}, Wd K F ρ μ H → EnvOk K E X F ρ H σ η → DtAll K F ρ H vs ds → wp (G ds η μ) P (fun e μ' => X e η μ') →
    (∀ σ' H' η' ρ' μ', Wd K F ρ' μ' H' → EnvOk K E X F ρ' H' σ' η' → Grow ρ ρ' H H' → σ'.length = σ.length → (∀ i, i ∉ ks → σ'[i]? = σ[i]?) → P η' μ' → Q σ' H') → g vs σ H Q
/-- statements -/
structure EndsOk (K : PySem.W.Frag) (E : L2.St → XK) (X : PX) (F ρ : List Addr) (H : Hp) (C : DEnds) (B : Ends) : Prop where
  nx : ∀ σ' H' η' ρ' μ', Wd K F ρ' μ' H' → EnvOk K E X F ρ' H' σ' η' → Grow ρ ρ' H H' → C.nx η' μ' → B.nx σ' H'
  rt : ∀ v H' ρ' d μ', Wd K F ρ' μ' H' → Grow ρ ρ' H H' → Dt K F ρ' H' v d → C.rt d μ' → B.rt v H'
  bk : ∀ σ' H' η' ρ' μ', Wd K F ρ' μ' H' → EnvOk K E X F ρ' H' σ' η' → Grow ρ ρ' H H' → C.bk η' μ' → B.bk σ' H'
  ct : ∀ σ' H' η' ρ' μ', Wd K F ρ' μ' H' → EnvOk K E X F ρ' H' σ' η' → Grow ρ ρ' H H' → C.ct η' μ' → B.ct σ' H'
theorem EndsOk.mono {K : PySem.W.Frag} {E : L2.St → XK} {X : PX} {F ρ ρ1 : List Addr} {H H1 : Hp} {C : DEnds} {B : Ends} (h : EndsOk K E X F ρ H C B) (g : Grow ρ ρ1 H H1) : EndsOk K E X F ρ1 H1 C B :=
  ⟨fun a b c d m e f k => h.nx a b c d m e f (g.trans k), fun a b c d m e k => h.rt a b c d m e (g.trans k), fun a b c d m e f k => h.bk a b c d m e f (g.trans k), fun a b c d m e f k => h.ct a b c d m e f (g.trans k)⟩
class SS (K : PySem.W.Frag) (E : L2.St → XK) (t : TS) (T : outParam DS) : Prop where
  run : ∀ {X : PX} {F : List Addr} {B : Ends} {σ : L2.St} {H : Hp} {η : Env} {ρ : List Addr} {μ : Mu} {C : DEnds}, Wd K F ρ μ H → EnvOk K E X F ρ H σ η → wpS (T η μ) C X → EndsOk K E X F ρ H C B → t B σ H
/-- iterables: the items, all of them, as data -/
def WalkD (K : PySem.W.Frag) (F ρ1 : List Addr) (H1 : Hp) (J : It) (its : List D) : Prop :=
  ∀ F' ρ μ H, (∀ a, a ∉ F → H1 a ≠ none → a ∉ F') → Grow ρ1 ρ H1 H → Wd K F' ρ μ H → (∀ i, i < its.length → J.go i H) ∧ J.stop its.length H ∧
    ∀ i x H', i < its.length → J.yld i H x H' → Wd K F' ρ μ H' ∧ Grow ρ ρ H H' ∧ ∃ d, its[i]? = some d ∧ Dt K F' ρ H' x d
class SI (K : PySem.W.Frag) (E : L2.St → XK) (wi : TI) (W : outParam DA) : Prop where
  run : ∀ {X : PX} {F : List Addr} {σ : L2.St} {H : Hp} {η : Env} {ρ : List Addr} {μ : Mu} {P : List D → Mu → Prop} {R : It → Hp → Prop}, Wd K F ρ μ H → EnvOk K E X F ρ H σ η → wp (W η μ) P (fun e μ' => X e η μ') → (∀ J H' ρ' its μ', Wd K F ρ' μ' H' → Grow ρ ρ' H H' → WalkD K F ρ' H' J its → P its μ' → R J H') → wi σ H R
section
variable {K : PySem.W.Frag} {F ρ ρ1 : List Addr} {μ : Mu} {H H1 : Hp} {P : D → Mu → Prop} {Q : VK}
theorem Out.mono (o : Out K F ρ H P Q) (g : Grow ρ ρ1 H H1) : Out K F ρ1 H1 P Q := fun v H' ρ' d μ' w k e p => o v H' ρ' d μ' w (g.trans k) e p
theorem Out.here (o : Out K F ρ H P Q) (w : Wd K F ρ μ H) {v : V} {d : D} (h : Dt K F ρ H v d) (p : P d μ) : Q v H := o v H ρ d μ w (Grow.refl _ _) h p
theorem Out.newL (o : Out K F ρ H P Q) (w : Wd K F ρ μ H) {vs : List V} {xs : List D} (h : DtAll K F ρ H vs xs) (p : P (.lst xs) μ) {a : Addr} (ha : H a = none) : Q (.ref a) (upd H a (.lst vs)) :=
  o _ _ ρ _ μ (w.lay ha) (Grow.fresh ha) (.lst (w.fresh2 ha) upd_same (h.mono (Grow.fresh ha))) p
theorem layM_lst (w : Wd K F ρ μ H) {vs : List V} {xs : List D} (h : DtAll K F ρ H vs xs) {a : Addr} (ha : H a = none) : Wd K F (ρ ++ [a]) (μ ++ [.lst xs]) (upd H a (.lst vs)) :=
  w.layM ha ⟨vs, upd_same, h.mono (Grow.add ha)⟩
theorem at_new (w : Wd K F ρ μ H) {a : Addr} : (ρ ++ [a])[μ.length]? = some a := by
  rw [← w.len, List.getElem?_append_right (Nat.le_refl _), Nat.sub_self]
  rfl
/-- a new list that may change -/
theorem Out.newM (o : Out K F ρ H P Q) (w : Wd K F ρ μ H) {vs : List V} {xs : List D} (h : DtAll K F ρ H vs xs) (p : P (.cell μ.length) (μ ++ [.lst xs])) {a : Addr} (ha : H a = none) : Q (.ref a) (upd H a (.lst vs)) :=
  o _ _ _ _ _ (layM_lst w h ha) (Grow.add ha) (.cell (at_new w)) p
theorem Out.newT (o : Out K F ρ H P Q) (w : Wd K F ρ μ H) {vs : List V} {xs : List D} (h : DtAll K F ρ H vs xs) (p : P (.tup xs) μ) {a : Addr} (ha : H a = none) : Q (.ref a) (upd H a (.tup vs)) :=
  o _ _ ρ _ μ (w.lay ha) (Grow.fresh ha) (.tup (w.fresh2 ha) upd_same (h.mono (Grow.fresh ha))) p
end
/-- a list, whether it may change or not -/
def asL (μ : Mu) : D → Option (List D)
  | .lst xs => some xs
  | .cell i => match μ[i]? with
    | some (.lst xs) => some xs
    | _ => none
  | _ => none
theorem asL_at {K : PySem.W.Frag} {F ρ : List Addr} {μ : Mu} {H : Hp} (w : Wd K F ρ μ H) {v : V} {d : D} {xs : List D} (h : Dt K F ρ H v d) (e : asL μ d = some xs) : ∃ a vs, v = .ref a ∧ H a = some (.lst vs) ∧ DtAll K F ρ H vs xs := by
  cases h with
  | lst n e1 q =>
    cases e
    exact ⟨_, _, rfl, e1, q⟩
  | @cell i a n =>
    unfold asL at e
    simp only at e
    cases c : μ[i]? with
    | none => rw [c] at e; cases e
    | some m =>
      rw [c] at e
      cases m with
      | lst ys =>
        cases e
        obtain ⟨vs, e1, q⟩ := w.ok _ _ _ n c
        exact ⟨a, vs, rfl, e1, q⟩
      | _ => cases e
  | _ => cases e
end DX

namespace DX
open PySem L2
noncomputable section
/-! ### expressions -/
def look : Env → Nat → Option D
  | [], _ => none
  | x :: _, 0 => x
  | _ :: r, i + 1 => look r i
theorem look_get : ∀ {η : Env} {i : Nat} {d : D}, look η i = some d → η[i]? = some (some d)
  | [], _, _, h => by cases h
  | x :: r, 0, d, h => by
    have e : x = some d := h
    rw [e]
    rfl
  | x :: r, i + 1, d, h => by
    show r[i]? = some (some d)
    exact look_get (η := r) h
def dVar (i : Nat) : DE := fun η μ => match look η i with
  | some d => .ok d μ
  | none => .bad
def dC (d : D) : DE := fun _ μ => .ok d μ
section
variable {K : PySem.W.Frag} {E : L2.St → XK}
instance {i : Nat} : SE K E (tVar i) (dVar i) := ⟨fun {X F σ H η ρ μ P Q} w e h o => by
  unfold dVar at h
  cases c : look η i with
  | none => rw [c] at h; exact h.elim
  | some d =>
    rw [c] at h
    obtain ⟨v, hv, q⟩ := e.ok i d (look_get c)
    exact ⟨v, hv, o.here w q h⟩⟩
instance : SE K E (tC .non) (dC .non) := ⟨fun w _ h o => o.here w .non h⟩
instance {b : Bool} : SE K E (tC (.bl b)) (dC (.bl b)) := ⟨fun w _ h o => o.here w (.bl b) h⟩
instance {i : Int} : SE K E (tC (.int i)) (dC (.int i)) := ⟨fun w _ h o => o.here w (.int i) h⟩
instance {x : Str} : SE K E (tC (.str x)) (dC (.str x)) := ⟨fun w _ h o => o.here w (.str x) h⟩
instance {x : String} : SE K E (tC (.ty x)) (dC (.ty x)) := ⟨fun w _ h o => o.here w (.ty x) h⟩
instance {c : Str} : SE K E (tC (.ref (He.ga K c))) (dC (.cls c)) := ⟨fun w _ h o => o.here w (.cls c) h⟩
def dOp (f : D → D → Mu → Res D) (Ta Tb : DE) : DE := fun η μ => (Ta η μ).bind fun x μ1 => (Tb η μ1).bind fun y μ2 => f x y μ2
instance {r : R2} {ta tb : TE} {f : D → D → Mu → Res D} {Ta Tb : DE} [a : SE K E ta Ta] [b : SE K E tb Tb] [c : SR2 K r f] : SE K E (tOp r ta tb) (dOp f Ta Tb) := ⟨fun w e h o =>
  a.run w e (wp_bind h) fun x H1 ρ1 dx μ1 w1 g1 q1 h1 => b.run w1 (e.mono g1) (wp_bind h1) fun y H2 ρ2 dy μ2 w2 g2 q2 h2 => c.run w2 (q1.mono g2) q2 h2 (o.mono (g1.trans g2))⟩
def dUn (f : D → Mu → Res D) (Ta : DE) : DE := fun η μ => (Ta η μ).bind f
instance {r : V → Hp → VK → Prop} {ta : TE} {f : D → Mu → Res D} {Ta : DE} [a : SE K E ta Ta] [c : SU K r f] : SE K E (tUn r ta) (dUn f Ta) := ⟨fun w e h o =>
  a.run w e (wp_bind h) fun x H1 ρ1 dx μ1 w1 g1 q1 h1 => c.run w1 q1 h1 (o.mono g1)⟩
/-- the way of a boolean -/
def onB {α : Type} (d : D) (k : Bool → Res α) : Res α := match d with
  | .bl b => k b
  | _ => .bad
theorem onB_at {α : Type} {F ρ : List Addr} {H : Hp} {v : V} {d : D} {k : Bool → Res α} {P : α → Mu → Prop} {X : Exn → Mu → Prop} (h : Dt K F ρ H v d) (p : wp (onB d k) P X) : ∃ b, v = .bl b ∧ wp (k b) P X := by
  cases h <;> first | exact p.elim | exact ⟨_, rfl, p⟩
def dAndV (Ta Tb : DE) : DE := fun η μ => (Ta η μ).bind fun x μ1 => onB x fun b => if b = true then Tb η μ1 else .ok (.bl false) μ1
def dOrV (Ta Tb : DE) : DE := fun η μ => (Ta η μ).bind fun x μ1 => onB x fun b => if b = true then .ok (.bl true) μ1 else Tb η μ1
def dNotV (Ta : DE) : DE := fun η μ => (Ta η μ).bind fun x μ1 => onB x fun b => .ok (.bl (!b)) μ1
instance {ta tb : TE} {Ta Tb : DE} [a : SE K E ta Ta] [b : SE K E tb Tb] : SE K E (tAndV ta tb) (dAndV Ta Tb) := ⟨fun w e h o =>
  a.run w e (wp_bind h) fun x H1 ρ1 dx μ1 w1 g1 q1 h1 => by
    obtain ⟨c, rfl, h2⟩ := onB_at q1 h1
    refine ⟨c, rfl, ?_⟩
    cases c with
    | true => exact b.run w1 (e.mono g1) h2 (o.mono g1)
    | false => exact (o.mono g1).here w1 (.bl false) h2⟩
instance {ta tb : TE} {Ta Tb : DE} [a : SE K E ta Ta] [b : SE K E tb Tb] : SE K E (tOrV ta tb) (dOrV Ta Tb) := ⟨fun w e h o =>
  a.run w e (wp_bind h) fun x H1 ρ1 dx μ1 w1 g1 q1 h1 => by
    obtain ⟨c, rfl, h2⟩ := onB_at q1 h1
    refine ⟨c, rfl, ?_⟩
    cases c with
    | false => exact b.run w1 (e.mono g1) h2 (o.mono g1)
    | true => exact (o.mono g1).here w1 (.bl true) h2⟩
instance {ta : TE} {Ta : DE} [a : SE K E ta Ta] : SE K E (tNotV ta) (dNotV Ta) := ⟨fun w e h o =>
  a.run w e (wp_bind h) fun x H1 ρ1 dx μ1 w1 g1 q1 h1 => by
    obtain ⟨c, rfl, h2⟩ := onB_at q1 h1
    exact ⟨c, rfl, (o.mono g1).here w1 (.bl _) h2⟩⟩
def dIfE (C : DTs) (Ta Tb : DE) : DE := fun η μ => (C η μ).bind fun b μ1 => if b = true then Ta η μ1 else Tb η μ1
instance {t : TT} {ta tb : TE} {C : DTs} {Ta Tb : DE} [c : ST K E t C] [a : SE K E ta Ta] [b : SE K E tb Tb] : SE K E (tIf t ta tb) (dIfE C Ta Tb) := ⟨fun w e h o =>
  c.run w e (wp_bind h) fun x H1 ρ1 μ1 w1 g1 h1 => by
    cases x with
    | true => exact a.run w1 (e.mono g1) h1 (o.mono g1)
    | false => exact b.run w1 (e.mono g1) h1 (o.mono g1)⟩
/-! tests -/
def dB (Ta : DE) : DTs := fun η μ => (Ta η μ).bind fun x μ1 => onB x fun b => .ok b μ1
instance {ta : TE} {Ta : DE} [a : SE K E ta Ta] : ST K E (tB ta) (dB Ta) := ⟨fun w e h o =>
  a.run w e (wp_bind h) fun x H1 ρ1 dx μ1 w1 g1 q1 h1 => by
    obtain ⟨c, rfl, h2⟩ := onB_at q1 h1
    exact ⟨c, rfl, o c H1 ρ1 μ1 w1 g1 h2⟩⟩
instance {ta : TE} {Ta : DE} [a : SE K E ta Ta] : ST K E (tTest ta) (dB Ta) := ⟨fun w e h o =>
  a.run w e (wp_bind h) fun x H1 ρ1 dx μ1 w1 g1 q1 h1 => by
    obtain ⟨c, rfl, h2⟩ := onB_at q1 h1
    exact ⟨c, rfl, o c H1 ρ1 μ1 w1 g1 h2⟩⟩
def dAnd (A B : DTs) : DTs := fun η μ => (A η μ).bind fun b μ1 => if b = true then B η μ1 else .ok false μ1
def dOr (A B : DTs) : DTs := fun η μ => (A η μ).bind fun b μ1 => if b = true then .ok true μ1 else B η μ1
def dNot (A : DTs) : DTs := fun η μ => (A η μ).bind fun b μ1 => .ok (!b) μ1
instance {t u : TT} {A B : DTs} [a : ST K E t A] [b : ST K E u B] : ST K E (tAnd t u) (dAnd A B) := ⟨fun w e h o =>
  a.run w e (wp_bind h) fun x H1 ρ1 μ1 w1 g1 h1 => by
    cases x with
    | true => exact b.run w1 (e.mono g1) h1 fun y H2 ρ2 μ2 w2 g2 h2 => o y H2 ρ2 μ2 w2 (g1.trans g2) h2
    | false => exact o false H1 ρ1 μ1 w1 g1 h1⟩
instance {t u : TT} {A B : DTs} [a : ST K E t A] [b : ST K E u B] : ST K E (tOr t u) (dOr A B) := ⟨fun w e h o =>
  a.run w e (wp_bind h) fun x H1 ρ1 μ1 w1 g1 h1 => by
    cases x with
    | false => exact b.run w1 (e.mono g1) h1 fun y H2 ρ2 μ2 w2 g2 h2 => o y H2 ρ2 μ2 w2 (g1.trans g2) h2
    | true => exact o true H1 ρ1 μ1 w1 g1 h1⟩
instance {t : TT} {A : DTs} [a : ST K E t A] : ST K E (tNot t) (dNot A) := ⟨fun w e h o =>
  a.run w e (wp_bind h) fun x H1 ρ1 μ1 w1 g1 h1 => o _ H1 ρ1 μ1 w1 g1 h1⟩
def dYes : DTs := fun _ μ => .ok true μ
instance : ST K E tYes dYes := ⟨fun w e h o => o true _ _ _ w (Grow.refl _ _) h⟩
/-! arguments, displays -/
/-- a length within the line -/
def chk {α : Type} (n : Nat) (r : Res α) : Res α := @ite _ (n ≤ 16777216) (Classical.propDecidable _) r .bad
theorem wp_chk {α : Type} {n : Nat} {r : Res α} {P : α → Mu → Prop} {X : Exn → Mu → Prop} (h : wp (chk n r) P X) : n ≤ sizeLine ∧ wp r P X := by
  unfold chk at h
  split at h
  · rename_i c
    exact ⟨c, h⟩
  · exact h.elim
def dNil : DA := fun _ μ => .ok [] μ
def dCons (Ta : DE) (Tr : DA) : DA := fun η μ => (Ta η μ).bind fun x μ1 => (Tr η μ1).bind fun xs μ2 => .ok (x :: xs) μ2
instance : SA K E tNil dNil := ⟨fun w e h o => o [] _ _ [] _ w (Grow.refl _ _) .nil h⟩
instance {ta : TE} {tr : TA} {Ta : DE} {Tr : DA} [a : SE K E ta Ta] [b : SA K E tr Tr] : SA K E (tCons ta tr) (dCons Ta Tr) := ⟨fun w e h o =>
  a.run w e (wp_bind h) fun x H1 ρ1 dx μ1 w1 g1 q1 h1 => b.run w1 (e.mono g1) (wp_bind h1) fun xs H2 ρ2 ds μ2 w2 g2 q2 h2 => o _ H2 ρ2 _ μ2 w2 (g1.trans g2) (.cons (q1.mono g2) q2) h2⟩
def dTup (Ta : DA) : DE := fun η μ => (Ta η μ).bind fun xs μ1 => chk xs.length (.ok (.tup xs) μ1)
def dLst (Ta : DA) : DE := fun η μ => (Ta η μ).bind fun xs μ1 => chk xs.length (.ok (.lst xs) μ1)
def dLstM (Ta : DA) : DE := fun η μ => (Ta η μ).bind fun xs μ1 => chk xs.length (.ok (.cell μ1.length) (μ1 ++ [.lst xs]))
instance {t : TA} {T : DA} [a : SA K E t T] : SE K E (tTup t) (dTup T) := ⟨fun w e h o =>
  a.run w e (wp_bind h) fun vs H1 ρ1 ds μ1 w1 g1 q1 h1 => ⟨by rw [q1.len]; exact (wp_chk h1).1, fun p hp => (o.mono g1).newT w1 q1 (wp_chk h1).2 hp⟩⟩
instance {t : TA} {T : DA} [a : SA K E t T] : SE K E (tLst t) (dLst T) := ⟨fun w e h o =>
  a.run w e (wp_bind h) fun vs H1 ρ1 ds μ1 w1 g1 q1 h1 => ⟨by rw [q1.len]; exact (wp_chk h1).1, fun p hp => (o.mono g1).newL w1 q1 (wp_chk h1).2 hp⟩⟩
/-- a list that is made to be changed -/
def tLstM (t : TA) : TE := tLst t
theorem pe_lstM {X : Cx} {es : List Expr} {pos : Pos} {t : TA} (h : PA X es t) : PE X (.List es pos) (tLstM t) := pe_lst h
instance {t : TA} {T : DA} [a : SA K E t T] : SE K E (tLstM t) (dLstM T) := ⟨fun w e h o =>
  a.run w e (wp_bind h) fun vs H1 ρ1 ds μ1 w1 g1 q1 h1 => ⟨by rw [q1.len]; exact (wp_chk h1).1, fun p hp => (o.mono g1).newM w1 q1 (wp_chk h1).2 hp⟩⟩
/-! calls -/
def dCB (f : List D → Mu → Res D) (T : DA) : DE := fun η μ => (T η μ).bind f
instance {r : List V → Hp → VK → Prop} {t : TA} {f : List D → Mu → Res D} {T : DA} [a : SA K E t T] [c : SC K r f] : SE K E (tCB r t) (dCB f T) := ⟨fun w e h o =>
  a.run w e (wp_bind h) fun vs H1 ρ1 ds μ1 w1 g1 q1 h1 => c.run w1 q1 h1 (o.mono g1)⟩
/-- exceptions of a def, over values, from those over data -/
def XOut0 (K : PySem.W.Frag) (E : XK) (X : Exn → Mu → Prop) (F ρ : List Addr) (H : Hp) : Prop := ∀ e d H' ρ' μ' vs, Wd K F ρ' μ' H' → Grow ρ ρ' H H' →
  H' d = some (.xd (e.ns.zip vs)) → d ∉ F ++ ρ' → e.ns.length = vs.length → DtAll K F ρ' H' vs e.ds → X e μ' → E (.ref (He.ga K e.cls)) (some d) H'
theorem EnvOk.xo0 {X : PX} {F ρ : List Addr} {H : Hp} {σ : L2.St} {η : Env} (e : EnvOk K E X F ρ H σ η) : XOut0 K (E σ) (fun x μ => X x η μ) F ρ H :=
  fun x d H' ρ' μ' vs w g h1 h2 h3 h4 h5 => e.xo σ η x d H' ρ' μ' vs w (e.toEnvOk0.mono g) g h1 h2 h3 h4 h5
/-- the promise of a def, from what it does to data -/
def spD (K : PySem.W.Frag) (f : FS) : Sp := fun vs H Q E => ∃ F ρ ds μ P X, Wd K F ρ μ H ∧ DtAll K F ρ H vs ds ∧ wp (f ds μ) P X ∧ Out K F ρ H P Q ∧ XOut0 K E X F ρ H
/-! statements -/
def dSeq (t u : DS) : DS := fun η μ => (t η μ).then u
def dNext : DS := fun η μ => .nx η μ
def dAsg (Te : DE) (G : DG) : DS := fun η μ => (Te η μ).to η fun x μ1 => (G x η μ1).to η fun η2 μ2 => .nx η2 μ2
def dIf (C : DTs) (t u : DS) : DS := fun η μ => (C η μ).to η fun b μ1 => if b = true then t η μ1 else u η μ1
def dRet (Te : DE) : DS := fun η μ => (Te η μ).to η fun d μ1 => .rt d μ1
def dRetN : DS := fun _ μ => .rt .non μ
def dDrop (Te : DE) : DS := fun η μ => (Te η μ).to η fun _ μ1 => .nx η μ1
def dBreak : DS := fun η μ => .bk η μ
def dCont : DS := fun η μ => .ct η μ
def dNever : DS := fun _ _ => .bad
instance {t u : TS} {T U : DS} [a : SS K E t T] [b : SS K E u U] : SS K E (tSeq t u) (dSeq T U) := ⟨fun {X F B σ H η ρ μ C} w e h o =>
  a.run w e (wp_then h) ⟨fun σ' H' η' ρ' μ' w' e' g' h' => b.run w' e' h' (o.mono g'), o.rt, o.bk, o.ct⟩⟩
instance : SS K E tNext dNext := ⟨fun w e h o => o.nx _ _ _ _ _ w e (Grow.refl _ _) h⟩
instance : SS K E tBreak dBreak := ⟨fun w e h o => o.bk _ _ _ _ _ w e (Grow.refl _ _) h⟩
instance : SS K E tCont dCont := ⟨fun w e h o => o.ct _ _ _ _ _ w e (Grow.refl _ _) h⟩
instance : SS K E tNever dNever := ⟨fun w e h o => h⟩
instance {te : TE} {g : TG} {Te : DE} {G : DG} {ks : List Nat} [a : SE K E te Te] [b : SG K E g G ks] : SS K E (tAsg te g) (dAsg Te G) := ⟨fun w e h o =>
  a.run w e (wp_to h) fun x H1 ρ1 dx μ1 w1 g1 q1 h1 => b.run w1 (e.mono g1) q1 (wp_to h1) fun σ' H' η' ρ' μ' w' e' g' _ _ h' => o.nx σ' H' η' ρ' μ' w' e' (g1.trans g') h'⟩
instance {c : TT} {t u : TS} {C : DTs} {T U : DS} [a : ST K E c C] [b : SS K E t T] [b' : SS K E u U] : SS K E (tIfS c t u) (dIf C T U) := ⟨fun w e h o =>
  a.run w e (wp_to h) fun x H1 ρ1 μ1 w1 g1 h1 => by
    cases x with
    | true => exact b.run w1 (e.mono g1) h1 (o.mono g1)
    | false => exact b'.run w1 (e.mono g1) h1 (o.mono g1)⟩
instance {te : TE} {Te : DE} [a : SE K E te Te] : SS K E (tRet te) (dRet Te) := ⟨fun w e h o =>
  a.run w e (wp_to h) fun x H1 ρ1 dx μ1 w1 g1 q1 h1 => o.rt x H1 ρ1 dx μ1 w1 g1 q1 h1⟩
instance : SS K E tRetN dRetN := ⟨fun w e h o => o.rt .non _ _ .non _ w (Grow.refl _ _) .non h⟩
instance {te : TE} {Te : DE} [a : SE K E te Te] : SS K E (tDrop te) (dDrop Te) := ⟨fun w e h o =>
  a.run w e (wp_to h) fun x H1 ρ1 dx μ1 w1 g1 q1 h1 => o.nx _ H1 _ ρ1 μ1 w1 (e.mono g1) g1 h1⟩
/-! targets -/
def dName (i : Nat) : DG := fun d η μ => .ok (η.set i (some d)) μ
instance {i : Nat} : SG K E (gName i) (dName i) [i] := ⟨fun {X F σ H η ρ μ v d P Q} w e q h o => o _ H _ ρ μ w (e.set q) (Grow.refl _ _) (List.length_set) (fun j hj => List.getElem?_set_ne (fun z => hj (by rw [z]; exact List.mem_singleton.mpr rfl))) h⟩
def dGNil : DGs := fun ds η μ => match ds with
  | [] => .ok η μ
  | _ => .bad
def dGCons (G : DG) (R : DGs) : DGs := fun ds η μ => match ds with
  | d :: r => (G d η μ).bind fun η' μ' => R r η' μ'
  | [] => .bad
/-- an exception of a target's part is wished for at the slots that stand then: only targets that change names alone -/
class Calm (G : DG) : Prop where
  no : ∀ d η μ e μ', G d η μ ≠ .exc e μ'
class Calms (G : DGs) : Prop where
  no : ∀ d η μ e μ', G d η μ ≠ .exc e μ'
instance {i : Nat} : Calm (dName i) := ⟨fun _ _ _ _ _ h => by cases h⟩
instance : Calms dGNil := ⟨fun d _ _ _ _ h => by cases d <;> cases h⟩
instance {G : DG} {R : DGs} [a : Calm G] [b : Calms R] : Calms (dGCons G R) := ⟨fun d η μ e μ' h => by
  cases d with
  | nil => cases h
  | cons x r =>
    unfold dGCons at h
    simp only at h
    cases c : G x η μ with
    | ok η1 μ1 => rw [c] at h; exact b.no _ _ _ _ _ h
    | exc e1 μ1 => exact a.no _ _ _ _ _ c
    | bad => rw [c] at h; cases h⟩
theorem wp_any {α : Type} {r : Res α} {P : α → Mu → Prop} {X X' : Exn → Mu → Prop} (n : ∀ e μ, r ≠ .exc e μ) (h : wp r P X) : wp r P X' := by
  cases r with
  | ok a μ => exact h
  | exc e μ => exact absurd rfl (n e μ)
  | bad => exact h
instance : SGs K E gNil dGNil [] := ⟨fun {X F σ H η ρ μ vs ds P Q} w e q h o => by
  cases q with
  | nil => exact ⟨rfl, o σ H η ρ μ w e (Grow.refl _ _) rfl (fun _ _ => rfl) h⟩
  | cons _ _ => exact h.elim⟩
instance {g : TG} {r : TGs} {G : DG} {R : DGs} {ks js : List Nat} [a : SG K E g G ks] [b : SGs K E r R js] [n : Calms R] : SGs K E (gCons g r) (dGCons G R) (ks ++ js) := ⟨fun {X F σ H η ρ μ vs ds P Q} w e q h o => by
  cases q with
  | nil => exact h.elim
  | cons q1 q2 =>
    refine ⟨_, _, rfl, a.run w e q1 (wp_bind h) fun σ' H' η' ρ' μ' w' e' g' l' k' h' => ?_⟩
    refine b.run w' e' (q2.mono g') (wp_any (n.no _ _ _) h') fun σ2 H2 η2 ρ2 μ2 w2 e2 g2 l2 k2 h2 => ?_
    exact o σ2 H2 η2 ρ2 μ2 w2 e2 (g'.trans g2) (l2.trans l') (fun i hi => (k2 i (fun z => hi (List.mem_append_right _ z))).trans (k' i (fun z => hi (List.mem_append_left _ z)))) h2⟩
def dGTup (n : Nat) (R : DGs) : DG := fun d η μ => match d with
  | .tup xs => if xs.length = n then R xs η μ else .bad
  | _ => .bad
instance {n : Nat} {R : DGs} [a : Calms R] : Calm (dGTup n R) := ⟨fun d η μ e μ' h => by
  unfold dGTup at h
  split at h
  · split at h
    · exact a.no _ _ _ _ _ h
    · cases h
  · cases h⟩
instance {n : Nat} {r : TGs} {R : DGs} {ks : List Nat} [b : SGs K E r R ks] : SG K E (gTup K n r) (dGTup n R) ks := ⟨fun {X F σ H η ρ μ v d P Q} w e q h o => by
  cases q with
  | tup na ea q' =>
    unfold dGTup at h
    simp only at h
    split at h
    · rename_i c
      exact ⟨_, _, rfl, SqT.of ea, q'.len.trans c, b.run w e q' h o⟩
    · exact h.elim
  | _ => exact h.elim⟩
def dGUnl (n : Nat) (R : DGs) : DG := fun d η μ => match asL μ d with
  | some xs => if xs.length = n then R xs η μ else .bad
  | none => .bad
instance {n : Nat} {R : DGs} [a : Calms R] : Calm (dGUnl n R) := ⟨fun d η μ e μ' h => by
  unfold dGUnl at h
  split at h
  · split at h
    · exact a.no _ _ _ _ _ h
    · cases h
  · cases h⟩
instance {n : Nat} {r : TGs} {R : DGs} {ks : List Nat} [b : SGs K E r R ks] : SG K E (gUnl K n r) (dGUnl n R) ks := ⟨fun {X F σ H η ρ μ v d P Q} w e q h o => by
  unfold dGUnl at h
  cases c : asL μ d with
  | none => rw [c] at h; exact h.elim
  | some xs =>
    rw [c] at h
    obtain ⟨a, vs, rfl, ea, q'⟩ := asL_at w q c
    simp only at h
    split at h
    · rename_i c2
      exact ⟨_, _, rfl, SqL.of ea, q'.len.trans c2, b.run w e q' h o⟩
    · exact h.elim⟩
/-- xs[i] = v -/
def dSet (o i v : D) (μ : Mu) : Res Unit := match o, i with
  | .cell a, .int k => match μ[a]? with
    | some (.lst xs) => match ixN xs.length k with
      | some j => .ok () (μ.set a (.lst (xs.set j v)))
      | none => .bad
    | _ => .bad
  | _, _ => .bad
def dGSub (To Ti : DE) : DG := fun d η μ => (To η μ).bind fun o μ1 => (Ti η μ1).bind fun i μ2 => (dSet o i d μ2).bind fun _ μ3 => .ok η μ3
theorem dSet_run {F ρ : List Addr} {H : Hp} {μ : Mu} {o i v : V} {do' di dv : D} {P : Unit → Mu → Prop} {X : Exn → Mu → Prop} {Q : Hp → Prop} (w : Wd K F ρ μ H) (ho : Dt K F ρ H o do') (hi : Dt K F ρ H i di) (hv : Dt K F ρ H v dv) (h : wp (dSet do' di dv μ) P X)
    (q : ∀ H' μ', Wd K F ρ μ' H' → Grow ρ ρ H H' → P () μ' → Q H') : rSetL o i v H Q := by
  unfold dSet at h
  split at h
  · rename_i a k
    cases ho with
    | @cell _ b hm =>
      cases hi with
      | int k =>
        cases c : μ[a]? with
        | none => rw [c] at h; exact h.elim
        | some m =>
          rw [c] at h
          cases m with
          | lst xs =>
            simp only at h
            obtain ⟨vs, e1, q1⟩ := w.ok _ _ _ hm c
            cases cj : ixN xs.length k with
            | none => rw [cj] at h; exact h.elim
            | some j =>
              rw [cj] at h
              have g := Grow.put (ρ := ρ) (H := H) (a := b) (o := .lst (vs.set j v)) (List.mem_of_getElem? hm)
              exact ⟨b, vs, k, j, rfl, rfl, e1, by rw [q1.len]; exact cj, q _ _ (w.put (m := .lst (xs.set j dv)) hm ⟨_, upd_same, (q1.set j hv).mono g⟩) g h⟩
          | _ => exact h.elim
  · exact h.elim
instance {to ti : TE} {To Ti : DE} [a : SE K E to To] [b : SE K E ti Ti] : SG K E (gSub to ti rSetL) (dGSub To Ti) [] := ⟨fun {X F σ H η ρ μ v d P Q} w e q h o =>
  a.run w e (wp_bind h) fun x H1 ρ1 dx μ1 w1 g1 q1 h1 => b.run w1 (e.mono g1) (wp_bind h1) fun y H2 ρ2 dy μ2 w2 g2 q2 h2 =>
    dSet_run w2 (q1.mono g2) q2 ((q.mono g1).mono g2) (wp_bind h2) fun H' μ' w' g' h' => o σ H' η ρ2 μ' w' (((e.mono g1).mono g2).mono g') ((g1.trans g2).trans g') rfl (fun _ _ => rfl) h'⟩
end
end
end DX

namespace DX
open PySem L2
noncomputable section
section
variable {K : PySem.W.Frag} {E : L2.St → XK}
/-! ### for -/
def forR (G : DG) (T : DS) : List D → Env → Mu → SR
  | [], η, μ => .nx η μ
  | x :: r, η, μ => (G x η μ).to η fun η' μ' => (T η' μ').turn (forR G T r)
def dFor (W : DA) (G : DG) (T : DS) : DS := fun η μ => (W η μ).to η fun its μ1 => forR G T its η μ1
instance {wi : TI} {g : TG} {tb : TS} {W : DA} {G : DG} {ks : List Nat} {T : DS} [a : SI K E wi W] [b : SG K E g G ks] [c : SS K E tb T] : SS K E (tFor wi g tb) (dFor W G T) := ⟨fun {X F B σ H η ρ μ C} w e h o =>
  a.run w e (wp_to h) fun J H1 ρ1 its μ1 w1 g1 wk h1 => by
    refine ⟨fun i m σ H => m = its.length - i ∧ i ≤ its.length ∧ ∃ η ρ μ, Wd K F ρ μ H ∧ EnvOk K E X F ρ H σ η ∧ Grow ρ1 ρ H1 H ∧ wpS (forR G T (its.drop i) η μ) C X,
      ⟨_, rfl, Nat.zero_le _, η, ρ1, μ1, w1, e.mono g1, Grow.refl _ _, h1⟩, ?_⟩
    rintro i m σ2 H2 ⟨rfl, hi, η2, ρ2, μ2, w2, e2, g2, h2⟩
    obtain ⟨go, stop, yld⟩ := wk F ρ2 μ2 H2 (fun _ h _ => h) g2 w2
    by_cases hlt : i < its.length
    · refine .inr ⟨go i hlt, fun σ' H' => i + 1 ≤ its.length ∧ ∃ η ρ μ, Wd K F ρ μ H' ∧ EnvOk K E X F ρ H' σ' η ∧ Grow ρ1 ρ H1 H' ∧ wpS (forR G T (its.drop (i + 1)) η μ) C X, fun σ' H' n => ⟨_, (by omega), rfl, n⟩, fun x H' y => ?_⟩
      obtain ⟨w3, g3, d, hd, q3⟩ := yld i x H' hlt y
      rw [List.drop_eq_getElem_cons hlt] at h2
      have ed : its[i] = d := by
        rw [List.getElem?_eq_getElem hlt] at hd
        exact Option.some.inj hd
      rw [ed] at h2
      refine b.run w3 (e2.mono g3) q3 (wp_to h2) fun σ4 H4 η4 ρ4 μ4 w4 e4 g4 _ _ h4 => ?_
      have g5 := (g2.trans g3).trans g4
      refine c.run w4 e4 (wp_turn h4) ⟨?_, ?_, ?_, ?_⟩
      · exact fun σ' H' η' ρ' μ' w' e' g' h' => ⟨hlt, η', ρ', μ', w', e', g5.trans g', h'⟩
      · exact fun v H' ρ' d μ' w' g' q' h' => o.rt v H' ρ' d μ' w' ((g1.trans g5).trans g') q' h'
      · exact fun σ' H' η' ρ' μ' w' e' g' h' => o.nx σ' H' η' ρ' μ' w' e' ((g1.trans g5).trans g') h'
      · exact fun σ' H' η' ρ' μ' w' e' g' h' => ⟨hlt, η', ρ', μ', w', e', g5.trans g', h'⟩
    · have ei : i = its.length := by omega
      subst ei
      rw [List.drop_length] at h2
      exact .inl ⟨stop, o.nx σ2 H2 η2 ρ2 μ2 w2 e2 (g1.trans g2) h2⟩⟩
/-! ### while: at most n turns -/
def whileR (C : DTs) (T : DS) : Nat → Env → Mu → SR
  | 0, _, _ => .bad
  | n + 1, η, μ => (C η μ).to η fun b μ1 => if b = true then (T η μ1).turn (whileR C T n) else .nx η μ1
def dWhile (n : Nat) (C : DTs) (T : DS) : DS := whileR C T n
def tWhileN (n : Nat) (c : TT) (tb : TS) : TS := tWhile c tb
instance {n : Nat} {c : TT} {tb : TS} {C : DTs} {T : DS} [a : ST K E c C] [b : SS K E tb T] : SS K E (tWhileN n c tb) (dWhile n C T) := ⟨fun {X F B σ H η ρ μ De} w e h o => by
  refine ⟨fun m σ1 H1 => ∃ η1 ρ1 μ1, Wd K F ρ1 μ1 H1 ∧ EnvOk K E X F ρ1 H1 σ1 η1 ∧ Grow ρ ρ1 H H1 ∧ wpS (whileR C T m η1 μ1) De X, ⟨n, η, ρ, μ, w, e, Grow.refl _ _, h⟩, ?_⟩
  rintro m σ1 H1 ⟨η1, ρ1, μ1, w1, e1, g1, h1⟩
  cases m with
  | zero => exact h1.elim
  | succ m =>
    refine a.run w1 e1 (wp_to h1) fun bb H2 ρ2 μ2 w2 g2 h2 => ?_
    cases bb with
    | false => exact o.nx σ1 H2 η1 ρ2 μ2 w2 (e1.mono g2) (g1.trans g2) h2
    | true =>
      have g12 := g1.trans g2
      rw [if_pos rfl]
      refine ⟨fun σ' H' => ∃ η1 ρ1 μ1, Wd K F ρ1 μ1 H' ∧ EnvOk K E X F ρ1 H' σ' η1 ∧ Grow ρ ρ1 H H' ∧ wpS (whileR C T m η1 μ1) De X, fun σ' H' hN => ⟨m, Nat.lt_succ_self m, hN⟩, ?_⟩
      refine b.run w2 (e1.mono g2) (wp_turn h2) ⟨?_, ?_, ?_, ?_⟩
      · exact fun σ' H' η' ρ' μ' w' e' g' h' => ⟨η', ρ', μ', w', e', g12.trans g', h'⟩
      · exact fun v H' ρ' d μ' w' g' q' h' => o.rt v H' ρ' d μ' w' (g12.trans g') q' h'
      · exact fun σ' H' η' ρ' μ' w' e' g' h' => o.nx σ' H' η' ρ' μ' w' e' (g12.trans g') h'
      · exact fun σ' H' η' ρ' μ' w' e' g' h' => ⟨η', ρ', μ', w', e', g12.trans g', h'⟩⟩
/-! ### comprehensions -/
class Mem1 (k : Nat) (vs : List Nat) : Prop where
  h : k ∈ vs
class Sub (ks vs : List Nat) : Prop where
  h : ∀ k ∈ ks, k ∈ vs
instance {k : Nat} {vs : List Nat} : Mem1 k (k :: vs) := ⟨List.mem_cons_self⟩
instance (priority := low) {k j : Nat} {vs : List Nat} [a : Mem1 k vs] : Mem1 k (j :: vs) := ⟨List.mem_cons_of_mem _ a.h⟩
instance {vs : List Nat} : Sub [] vs := ⟨fun _ h => nomatch h⟩
instance {k : Nat} {ks vs : List Nat} [a : Mem1 k vs] [b : Sub ks vs] : Sub (k :: ks) vs := ⟨fun j hj => by
  rcases List.mem_cons.mp hj with rfl | h
  · exact a.h
  · exact b.h j h⟩
instance {ks js vs : List Nat} [a : Sub ks vs] [b : Sub js vs] : Sub (ks ++ js) vs := ⟨fun j hj => by
  rcases List.mem_append.mp hj with h | h
  · exact a.h j h
  · exact b.h j h⟩
def lcR (G : DG) (C : DTs) (Te : DE) (η : Env) : List D → List D → Mu → Res (List D)
  | [], acc, μ => .ok acc μ
  | x :: r, acc, μ => (G x η μ).bind fun η' μ' => (C η' μ').bind fun b μ2 => if b = true then (Te η' μ2).bind fun z μ3 => lcR G C Te η r (acc ++ [z]) μ3 else lcR G C Te η r acc μ2
/-- within a comprehension no exception may rise -/
def noX {α : Type} (r : Res α) : Res α := match r with
  | .exc _ _ => .bad
  | r => r
def lcW (W : DA) (G : DG) (C : DTs) (Te : DE) (vs : List Nat) (η : Env) (μ : Mu) : Res (List D) := (W η μ).bind fun its μ1 => chk its.length (noX (lcR G C Te (wipeD η vs) its [] μ1))
def dLc (W : DA) (G : DG) (C : DTs) (Te : DE) (vs : List Nat) : DE := fun η μ => (lcW W G C Te vs η μ).bind fun zs μ1 => .ok (.lst zs) μ1
def dLcM (W : DA) (G : DG) (C : DTs) (Te : DE) (vs : List Nat) : DE := fun η μ => (lcW W G C Te vs η μ).bind fun zs μ1 => .ok (.cell μ1.length) (μ1 ++ [.lst zs])
theorem wipe_ext : ∀ (vs : List Nat) {σ σ2 : L2.St}, σ2.length = σ.length → (∀ i, i ∉ vs → σ2[i]? = σ[i]?) → wipe σ2 vs = wipe σ vs := by
  intro vs σ σ2 hl hk
  refine List.ext_getElem? fun i => ?_
  by_cases c : i ∈ vs
  · have wn : ∀ (vs : List Nat) (σ : L2.St), i ∈ vs → (wipe σ vs)[i]? = if i < σ.length then some none else none := by
      intro vs
      induction vs with
      | nil => intro σ h; cases h
      | cons j r ih =>
        intro σ h
        show ((wipe σ r).set j none)[i]? = _
        by_cases ej : i = j
        · subst ej
          by_cases l : i < σ.length
          · rw [if_pos l, List.getElem?_set_self (by rw [wipe_length]; exact l)]
          · rw [if_neg l]
            exact List.getElem?_eq_none (by rw [List.length_set, wipe_length]; omega)
        · rw [List.getElem?_set_ne (Ne.symm ej)]
          exact ih σ ((List.mem_cons.mp h).resolve_left ej)
    rw [wn vs σ2 c, wn vs σ c, hl]
  · rw [wipe_out c, wipe_out c]
    exact hk i c
theorem lc_run {wi : TI} {g : TG} {tt : TT} {te : TE} {vs : List Nat} {W : DA} {G : DG} {ks : List Nat} {C : DTs} {Te : DE} [a : SI K E wi W] [b : SG K EN g G ks] [c : ST K EN tt C] [e : SE K EN te Te] [sb : Sub ks vs]
    {X : PX} {F ρ : List Addr} {σ : L2.St} {H : Hp} {η : Env} {μ : Mu} {P : List D → Mu → Prop} {Q : VK} (w : Wd K F ρ μ H) (en : EnvOk K E X F ρ H σ η)
    (h : wp (lcW W G C Te vs η μ) P (fun e μ' => X e η μ'))
    (o : ∀ D H' ρ' zs vz μ', Wd K F ρ' μ' H' → Grow ρ ρ' H H' → H D = none → D ∉ F ++ ρ' → H' D = some (.lst vz) → DtAll K F ρ' H' vz zs → P zs μ' → Q (.ref D) H') : tLc wi g tt te vs σ H Q := by
  have hk := sb.h
  refine a.run w en (wp_bind h) fun J H1 ρ1 its μ1 w1 g1 wk h1 => ?_
  obtain ⟨hz, h1⟩ := wp_chk h1
  have h1 : wp (lcR G C Te (wipeD η vs) its [] μ1) P (fun e μ' => X0 e η μ') := by
    revert h1
    cases lcR G C Te (wipeD η vs) its [] μ1 <;> exact id
  intro D hD
  have fD := w1.fresh hD
  have fF := w1.freshF hD
  have w1' : Wd K (D :: F) ρ1 μ1 (upd H1 D (.lst [])) := w1.layAside hD
  have en1 : EnvOk0 K (D :: F) ρ1 H1 σ η := (en.toEnvOk0.mono g1).aside fun x hx hn => by
    intro z
    rcases List.mem_cons.mp z with rfl | z
    · exact hn hD
    · exact hx z
  refine ⟨fun i m H2 => m = its.length - i ∧ i ≤ its.length ∧ ∃ ρ2 μ2 acc vacc, Wd K (D :: F) ρ2 μ2 H2 ∧ Grow ρ1 ρ2 H1 H2 ∧ D ∉ ρ2 ∧ H2 D = some (.lst vacc) ∧ DtAll K (D :: F) ρ2 H2 vacc acc ∧ acc.length ≤ i ∧ wp (lcR G C Te (wipeD η vs) (its.drop i) acc μ2) P (fun e μ' => X0 e η μ'),
    ⟨_, rfl, Nat.zero_le _, ρ1, μ1, [], [], w1', Grow.fresh hD, fD, upd_same, .nil, Nat.le_refl _, h1⟩, ?_⟩
  rintro i m H2 ⟨rfl, hi, ρ2, μ2, acc, vacc, w2, g2, nD, hD2, qa, hl, h2⟩
  have w2F : Wd K F ρ2 μ2 H2 := w2.drop
  have offD : ∀ a, a ∉ F → H1 a ≠ none → a ∉ D :: F := fun x hx hn z => by
    rcases List.mem_cons.mp z with rfl | z
    · exact hn hD
    · exact hx z
  obtain ⟨go, stop, yld⟩ := wk (D :: F) ρ2 μ2 H2 offD g2 w2
  by_cases hlt : i < its.length
  · refine .inr ⟨go i hlt, fun H' => i + 1 ≤ its.length ∧ ∃ ρ2 μ2 acc vacc, Wd K (D :: F) ρ2 μ2 H' ∧ Grow ρ1 ρ2 H1 H' ∧ D ∉ ρ2 ∧ H' D = some (.lst vacc) ∧ DtAll K (D :: F) ρ2 H' vacc acc ∧ acc.length ≤ i + 1 ∧ wp (lcR G C Te (wipeD η vs) (its.drop (i + 1)) acc μ2) P (fun e μ' => X0 e η μ'), fun H' n => ⟨_, (by omega), rfl, n⟩, fun x H' y => ?_⟩
    obtain ⟨w3, g3, d, hd, q3⟩ := yld i x H' hlt y
    rw [List.drop_eq_getElem_cons hlt] at h2
    have ed : its[i] = d := by
      rw [List.getElem?_eq_getElem hlt] at hd
      exact Option.some.inj hd
    rw [ed] at h2
    have e3 : EnvOk K EN X0 (D :: F) ρ2 H' (wipe σ vs) (wipeD η vs) := ⟨((en1.mono g2).mono g3).wipe vs, xout0⟩
    refine b.run w3 e3 q3 (wp_bind h2) fun σ4 H4 η4 ρ4 μ4 w4 e4 g4 l4 k4 h4 => ⟨?_, ?_⟩
    · have kk : ∀ i, i ∉ vs → σ4[i]? = (wipe σ vs)[i]? := fun j hj => k4 j fun z => hj (hk j z)
      have ww : wipe (wipe σ vs) vs = wipe σ vs := wipe_ext vs (wipe_length σ vs) fun j hj => wipe_out hj
      exact (wipe_ext vs l4 kk).trans ww
    refine c.run w4 e4 (wp_bind h4) fun bb H5 ρ5 μ5 w5 g5 h5 => ?_
    have g35 := (g3.trans g4).trans g5
    have keepD : H5 D = some (.lst vacc) := g35.keep D _ nD hD2
    have nD5 : D ∉ ρ5 := g35.stays nD hD2
    cases bb with
    | false =>
      rw [if_neg Bool.false_ne_true] at h5 ⊢
      exact ⟨hlt, ρ5, μ5, acc, vacc, w5, g2.trans g35, nD5, keepD, qa.mono g35, by omega, h5⟩
    | true =>
      rw [if_pos rfl] at h5 ⊢
      refine e.run w5 (e4.mono g5) (wp_bind h5) fun y5 H6 ρ6 d6 μ6 w6 g6 q6 h6 => ?_
      have g36 := g35.trans g6
      have keep6 : H6 D = some (.lst vacc) := g36.keep D _ nD hD2
      have nD6 : D ∉ ρ6 := g36.stays nD hD2
      have qa6 := qa.mono g36
      refine ⟨vacc, keep6, by rw [qa.len]; omega, hlt, ρ6, μ6, acc ++ [d6], vacc ++ [y5], ?_, ?_, nD6, upd_same, ?_, by rw [List.length_append, List.length_singleton]; omega, h6⟩
      · exact w6.touch List.mem_cons_self nD6
      · refine ⟨fun x u hx hu => ?_, (g2.trans g36).ext, (g2.trans g36).new⟩
        rw [upd_ne (ne_of_none hu hD)]
        exact (g2.trans g36).keep x u hx hu
      · exact (qa6.app (.one q6)).touch List.mem_cons_self
  · have ei : i = its.length := by omega
    subst ei
    rw [List.drop_length] at h2
    refine .inl ⟨stop, ?_⟩
    have gg := g1.trans g2
    refine o D H2 ρ2 acc vacc μ2 w2F gg ?_ (app_not fF nD) hD2 (qa.aside fun x hx _ => fun z => hx (List.mem_cons_of_mem _ z)) h2
    exact g1.free (fun z => fD (g1.sub _ z)) hD
instance {wi : TI} {g : TG} {tt : TT} {te : TE} {vs : List Nat} {W : DA} {G : DG} {ks : List Nat} {C : DTs} {Te : DE} [a : SI K E wi W] [b : SG K EN g G ks] [c : ST K EN tt C] [e : SE K EN te Te] [sb : Sub ks vs] : SE K E (tLc wi g tt te vs) (dLc W G C Te vs) := ⟨fun w en h o =>
  lc_run w en (wp_bind h) fun D H' ρ' zs vz μ' w' g' _ nD e' q' h' => o _ H' ρ' _ μ' w' g' (.lst nD e' q') h'⟩
theorem ps_whileN (n : Nat) {X : Cx} {test : Expr} {body : List Stmt} {pos : Pos} {t : TT} {tb : TS} (h : PS X (.While test body [] pos) (tWhile t tb)) : PS X (.While test body [] pos) (tWhileN n t tb) := h
end
end
end DX

namespace DX
open PySem PySem.Spec PyProof.Rows L2
noncomputable section
/-! ### t * 1 is t itself -/
theorem tuple_mul1 (l : Addr) (items : Array Value) (n : Nat) (dd : Option Addr) (sl : Array (Option Value)) (u : Tok) :
    Meets (Builtin.«tuple.__mul__» ⟨[.ref l, .int 1 u], []⟩) (fun _ R s => s.heap.get? l = some { cls := .type "tuple", dict := dd, data := .seq items n, slots := sl } ∧ R (.ok (.ret (Value.ref l))) s) :=
  .of_wp fun prog w A R s h => by
    obtain ⟨hp, g, d, tk, os⟩ := s
    obtain ⟨hl, h⟩ := h
    have f1 := AutoSeq1.idx_int
    have c0 : (decide ((1 : Int) < -(2 ^ 63)) || decide ((1 : Int) ≥ 2 ^ 63)) = false := by decide
    have c1 : (items.isEmpty || (1 : Int) == 1) = true := by simp
    wp_walk using wpAny_loadPart' hl
    repeat (first
      | (refine wpAny_ite_false (decide_eq_false (by rw [c0]; exact Bool.false_ne_true)) ?_; wp_walk using wpAny_loadPart' hl)
      | (refine wpAny_ite_true (decide_eq_true c1) ?_; wp_walk using wpAny_loadPart' hl))
    exact ⟨_, rfl, h⟩
def rRep1 (K : PySem.W.Frag) : R2 := fun x y H Q => ∃ l xs, x = .ref l ∧ y = .int 1 ∧ SqT K H l xs ∧ Q (.ref l) H
theorem op_rep1 {X : Cx} : OpR X (binaryOp .Mult) (rRep1 X.K) := by
  intro pins s σ H x y v u Q I rx ry h
  obtain ⟨l, xs, rfl, rfl, hT, q⟩ := h
  cases rx
  obtain ⟨t, rfl⟩ := ry
  obtain ⟨its, r, ⟨⟨cls, dd, data, sl⟩, ho, hc, n, hd⟩, hs⟩ := I.tuple hT
  simp only at hc hd
  subst hc hd
  refine wpAny_binaryOp_repeat_ref (T := "tuple") (U := "int") (by decide) ⟨_, ho, rfl⟩ (fun s' => typeIs_int s' 1 t) noFill_tuple_mul F.fills_int_mul F.slot_int_rmul repeat_tuple F.slot_int_index.lookup
    (call_meets F.slot_int_rmul (typeIs_int s 1 t) F.entry_int_rmul (F.args_int_rmul_2 _ _) (int_rmul_tuple 1 t l its.toArray n dd sl)
      ⟨ho, rfl, ⟨_, ho, rfl⟩, call_meets F.slot_tuple_mul ⟨_, ho, rfl⟩ F.entry_tuple_mul (F.args_tuple_mul_2 _ _) (tuple_mul1 l its.toArray n dd sl t) ⟨ho, ?_⟩⟩)
  exact ⟨.ref l, H, I, rfl, q⟩
/-! ### t * 0 is () -/
theorem tuple_mul0 (l : Addr) (items : Array Value) (n : Nat) (dd : Option Addr) (sl : Array (Option Value)) (x : Int) (u : Tok) (c0 : (decide (x < -(2 ^ 63)) || decide (x ≥ 2 ^ 63)) = false) (c1 : (items.isEmpty || x == 1) = false) (c2 : (decide (x ≤ 0) || items.isEmpty) = true) :
    Meets (Builtin.«tuple.__mul__» ⟨[.ref l, .int x u], []⟩) (fun _ R s => s.heap.get? l = some { cls := .type "tuple", dict := dd, data := .seq items n, slots := sl } ∧
      R (.ok (.ret (Value.ref s.heap.objs.size))) { s with heap := s.heap.push { cls := Value.type "tuple", data := Data.seq #[] }, toks := s.toks }) :=
  .of_wp fun prog w A R s h => by
    obtain ⟨hp, g, d, tk, os⟩ := s
    obtain ⟨hl, h⟩ := h
    have f1 := AutoSeq1.idx_int
    wp_walk using wpAny_loadPart' hl
    repeat (first
      | (refine wpAny_ite_false (decide_eq_false (by rw [c0]; exact Bool.false_ne_true)) ?_; wp_walk using wpAny_loadPart' hl)
      | (refine wpAny_ite_false (decide_eq_false (by rw [c1]; exact Bool.false_ne_true)) ?_; wp_walk using wpAny_loadPart' hl)
      | (refine wpAny_ite_true (decide_eq_true c2) ?_; wp_walk using wpAny_loadPart' hl))
    exact ⟨_, rfl, h⟩
def rRep0 (K : PySem.W.Frag) : R2 := fun x y H Q => ∃ l k xs, x = .ref l ∧ y = .int k ∧ SqT K H l xs ∧ xs ≠ [] ∧ -1000 ≤ k ∧ k ≤ 0 ∧ ∀ p, H p = none → Q (.ref p) (upd H p (.tup []))
theorem op_rep0 {X : Cx} : OpR X (binaryOp .Mult) (rRep0 X.K) := by
  intro pins s σ H x y v u Q I rx ry h
  obtain ⟨l, k, xs, rfl, rfl, hT, hne, h1, h2, q⟩ := h
  cases rx
  obtain ⟨t, rfl⟩ := ry
  obtain ⟨its, r, ⟨⟨cls, dd, data, sl⟩, ho, hc, n, hd⟩, hs⟩ := I.tuple hT
  simp only at hc hd
  subst hc hd
  have hle : its.length = xs.length := r.length.symm
  have hn : its ≠ [] := fun e => hne (by
    rw [e] at hle
    exact List.eq_nil_of_length_eq_zero hle.symm)
  have hi : its.toArray.isEmpty = false := by
    cases its with
    | nil => exact absurd rfl hn
    | cons a b => rfl
  have c0 : (decide (k < -(2 ^ 63)) || decide (k ≥ 2 ^ 63)) = false := by
    rw [decide_eq_false (by omega), decide_eq_false (by omega)] <;> rfl
  have c1 : (its.toArray.isEmpty || k == 1) = false := by
    rw [hi, Bool.false_or]
    exact beq_eq_false_iff_ne.mpr (by omega)
  have c2 : (decide (k ≤ 0) || its.toArray.isEmpty) = true := by
    rw [hi, Bool.or_false]
    exact decide_eq_true (by omega)
  refine wpAny_binaryOp_repeat_ref (T := "tuple") (U := "int") (by decide) ⟨_, ho, rfl⟩ (fun s' => typeIs_int s' k t) noFill_tuple_mul F.fills_int_mul F.slot_int_rmul repeat_tuple F.slot_int_index.lookup
    (call_meets F.slot_int_rmul (typeIs_int s k t) F.entry_int_rmul (F.args_int_rmul_2 _ _) (int_rmul_tuple k t l its.toArray n dd sl)
      ⟨ho, rfl, ⟨_, ho, rfl⟩, call_meets F.slot_tuple_mul ⟨_, ho, rfl⟩ F.entry_tuple_mul (F.args_tuple_mul_2 _ _) (tuple_mul0 l its.toArray n dd sl k t c0 c1 c2) ⟨ho, ?_⟩⟩)
  refine ⟨.ref s.heap.objs.size, _, I.laid (t' := s.toks) (o := .tup []) (fun b ob q => Heap.get?_push_of_some _ q) (Nat.le_refl _) ?_, rfl, q _ (I.hok.fresh (Nat.le_refl _))⟩
  exact ⟨by decide, _, .nil, IsTup.new _ _⟩
/-! ### a text so many times -/
def strRep (n : Nat) (x : Str) : Str := ⟨(List.replicate n x.cps).foldl (· ++ ·) #[]⟩
def rMulS : R2 := fun x y H Q => ∃ z k, x = .str z ∧ y = .int k ∧ -1000 ≤ k ∧ k ≤ 1000 ∧ z.length ≤ 1000 ∧ Q (.str (strRep k.toNat z)) H
theorem fold_nil (n : Nat) : (List.replicate n (#[] : Array Nat)).foldl (· ++ ·) #[] = #[] := by
  induction n with
  | zero => rfl
  | succ n ih => rw [List.replicate_succ, List.foldl_cons]; exact ih
theorem fold_size (c : Array Nat) : ∀ (n : Nat) (acc : Array Nat), ((List.replicate n c).foldl (· ++ ·) acc).size = acc.size + n * c.size
  | 0, acc => by simp
  | n + 1, acc => by
    rw [List.replicate_succ, List.foldl_cons, fold_size c n, Array.size_append, Nat.succ_mul]
    omega
theorem op_mulS {X : Cx} : OpR X (binaryOp .Mult) rMulS := by
  intro pins s σ H x y v u Q I rx ry h
  obtain ⟨z, k, rfl, rfl, h1, h2, hz, q⟩ := h
  obtain ⟨t, rfl⟩ := rx
  obtain ⟨t', rfl⟩ := ry
  refine P.mul_str ?_ ?_ ?_ ?_
  · rw [decide_eq_false (by omega), decide_eq_false (by omega)]; rfl
  · intro c _
    have : (2 : Int) ^ 63 - 1 ≥ k * 1000000 := by omega
    have e : (z.length : Int) ≤ (2 ^ 63 - 1) / k := by
      refine (Int.le_ediv_iff_mul_le (by omega)).mpr ?_
      have a1 : (z.length : Int) * k ≤ 1000 * k := Int.mul_le_mul_of_nonneg_right (by omega) (by omega)
      omega
    omega
  · intro _ _
    unfold Builtin.Str.tooLong
    have a1 : z.length * k.toNat ≤ 1000 * 1000 := Nat.mul_le_mul hz (by omega)
    rw [sizeLine_eq]
    exact decide_eq_false (by omega)
  · by_cases c : k < 1
    · rw [if_pos c]
      have e : strRep k.toNat z = Str.empty := by
        have e : k.toNat = 0 := by omega
        rw [e]
        rfl
      rw [e] at q
      exact ⟨by decide, .str Str.empty, H, I.tok _, ⟨_, rfl⟩, q⟩
    · rw [if_neg c]
      by_cases c2 : (k == 1 || z.length == 0) = true
      · rw [if_pos c2]
        have e : strRep k.toNat z = z := by
          obtain ⟨cps⟩ := z
          unfold strRep
          rcases Bool.or_eq_true_iff.mp c2 with e | e
          · have e1 : k = 1 := by simpa using e
            subst e1
            show Str.mk (#[] ++ cps) = Str.mk cps
            rw [Array.empty_append]
          · have e0 : cps.size = 0 := by
              have : (Str.mk cps).length = 0 := by simpa using e
              exact this
            have e1 : cps = #[] := Array.eq_empty_of_size_eq_zero e0
            subst e1
            rw [fold_nil]
        rw [e] at q
        exact ⟨.str z, H, I, ⟨_, rfl⟩, q⟩
      · rw [if_neg c2]
        refine ⟨?_, .str (strRep k.toNat z), H, I.tok _, ⟨_, rfl⟩, q⟩
        have a1 : k.toNat * z.cps.size ≤ 1000 * 1000 := Nat.mul_le_mul (by omega) hz
        have e := fold_size z.cps k.toNat #[]
        show ((List.replicate k.toNat z.cps).foldl (· ++ ·) #[]).size ≤ sizeLine
        rw [e, sizeLine_eq]
        have e0 : (#[] : Array Nat).size = 0 := rfl
        omega
end
end DX

namespace DX
open PySem L2
noncomputable section
/-! ### data as the library's data -/
mutual
def toP : D → PyData
  | .non => .none
  | .bl b => .bool b
  | .int i => .int i
  | .str s => .str s
  | .tup xs => .tuple (toPs xs)
  | .lst xs => .list (toPs xs)
  | .ty _ => .none
  | .cls _ => .none
  | .cell _ => .none
  | .obj _ _ _ => .none
  | .scr _ => .none
  | .fn _ => .none
  | .dK _ _ => .none
  | .dT _ _ => .none
  | .exn _ _ _ => .none
def toPs : List D → List PyData
  | [] => []
  | x :: r => toP x :: toPs r
end
mutual
/-- plain data of a depth below n -/
def plain : Nat → D → Bool
  | _, .non => true
  | _, .bl _ => true
  | _, .int _ => true
  | _, .str s => PyData.strOk s
  | 0, .tup _ => false
  | n + 1, .tup xs => decide (xs.length ≤ 100000) && plains n xs
  | 0, .lst _ => false
  | n + 1, .lst xs => decide (xs.length ≤ 100000) && plains n xs
  | _, .ty _ => false
  | _, .cls _ => false
  | _, .cell _ => false
  | _, .obj _ _ _ => false
  | _, .scr _ => false
  | _, .fn _ => false
  | _, .dK _ _ => false
  | _, .dT _ _ => false
  | _, .exn _ _ _ => false
def plains : Nat → List D → Bool
  | _, [] => true
  | n, x :: r => plain n x && plains n r
end
theorem plain_tup {n : Nat} {xs : List D} (h : plain (n + 1) (.tup xs) = true) : xs.length ≤ 100000 ∧ plains n xs = true := by
  simpa [plain] using h
theorem plain_lst {n : Nat} {xs : List D} (h : plain (n + 1) (.lst xs) = true) : xs.length ≤ 100000 ∧ plains n xs = true := by
  simpa [plain] using h
theorem plain_tup_of {n : Nat} {xs : List D} (h1 : xs.length ≤ 100000) (h2 : plains n xs = true) : plain (n + 1) (.tup xs) = true := by
  simp [plain, h1, h2]
theorem plain_lst_of {n : Nat} {xs : List D} (h1 : xs.length ≤ 100000) (h2 : plains n xs = true) : plain (n + 1) (.lst xs) = true := by
  simp [plain, h1, h2]
theorem plain_tup0 {xs : List D} : ¬ plain 0 (.tup xs) = true := by simp [plain]
theorem plain_lst0 {xs : List D} : ¬ plain 0 (.lst xs) = true := by simp [plain]
theorem plains_cons {n : Nat} {x : D} {xs : List D} : plains n (x :: xs) = (plain n x && plains n xs) := by simp [plains]
theorem plains_nil {n : Nat} : plains n [] = true := by simp [plains]
theorem plains_of {n : Nat} : ∀ {xs : List D}, (∀ x ∈ xs, plain n x = true) → plains n xs = true
  | [], _ => plains_nil
  | x :: r, h => by rw [plains_cons, h x List.mem_cons_self, plains_of (fun y hy => h y (List.mem_cons_of_mem _ hy))]; rfl
theorem plains_mem {n : Nat} : ∀ {xs : List D}, plains n xs = true → ∀ x ∈ xs, plain n x = true
  | [], _, x, h => nomatch h
  | y :: r, h, x, hx => by
    rw [plains_cons, Bool.and_eq_true] at h
    rcases List.mem_cons.mp hx with rfl | z
    · exact h.1
    · exact plains_mem h.2 x z
theorem plain_int {n : Nat} {i : Int} : plain n (.int i) = true := by cases n <;> simp [plain]
theorem plain_bl {n : Nat} {i : Bool} : plain n (.bl i) = true := by cases n <;> simp [plain]
theorem plain_non {n : Nat} : plain n .non = true := by cases n <;> simp [plain]
theorem plain_str {n : Nat} {s : Str} : plain n (.str s) = PyData.strOk s := by cases n <;> simp [plain]
theorem plains_ints {n : Nat} (ns : List Int) : plains n (ns.map D.int) = true := plains_of fun x hx => by
  obtain ⟨i, _, rfl⟩ := List.mem_map.mp hx
  exact plain_int
/-- a tuple of ints -/
theorem plain_ints {n : Nat} {ns : List Int} (h : ns.length ≤ 100000) : plain (n + 1) (.tup (ns.map D.int)) = true := plain_tup_of (by rw [List.length_map]; exact h) (plains_ints ns)
section
variable {K : PySem.W.Frag}
mutual
theorem plain_shape : ∀ (n : Nat) (d : D), plain n d = true → (toP d).canLay0 = true ∧ (toP d).depth ≤ n
  | n, .non, _ => by simp [toP, PyData.canLay0, PyData.depth]
  | n, .bl _, _ => by simp [toP, PyData.canLay0, PyData.depth]
  | n, .int _, _ => by simp [toP, PyData.canLay0, PyData.depth]
  | n, .str s, h => by
    have h' : PyData.strOk s = true := by simpa [plain] using h
    simp [toP, PyData.canLay0, PyData.depth, h']
  | 0, .tup _, h => by simp [plain] at h
  | n + 1, .tup xs, h => by
    have q := plains_shape n xs (plain_tup h).2
    refine ⟨by simpa [toP, PyData.canLay0] using q.1, ?_⟩
    simp only [toP, PyData.depth]
    have := q.2
    omega
  | 0, .lst _, h => by simp [plain] at h
  | n + 1, .lst xs, h => by
    have q := plains_shape n xs (plain_lst h).2
    refine ⟨by simpa [toP, PyData.canLay0] using q.1, ?_⟩
    simp only [toP, PyData.depth]
    have := q.2
    omega
  | n, .ty _, h => by simp [plain] at h
  | n, .cls _, h => by simp [plain] at h
  | n, .cell _, h => by simp [plain] at h
  | n, .obj _ _ _, h => by simp [plain] at h
  | n, .scr _, h => by simp [plain] at h
  | n, .fn _, h => by simp [plain] at h
  | n, .dK _ _, h => by simp [plain] at h
  | n, .dT _ _, h => by simp [plain] at h
  | n, .exn _ _ _, h => by simp [plain] at h
theorem plains_shape : ∀ (n : Nat) (ds : List D), plains n ds = true → PyData.canLayAll0 (toPs ds) = true ∧ PyData.depthAll (toPs ds) ≤ n
  | n, [], _ => by simp [toPs, PyData.canLayAll0, PyData.depthAll]
  | n, x :: r, h => by
    have h' : plain n x = true ∧ plains n r = true := by simpa [plains] using h
    have a := plain_shape n x h'.1
    have b := plains_shape n r h'.2
    refine ⟨by simp [toPs, PyData.canLayAll0, a.1, b.1], ?_⟩
    simp only [toPs, PyData.depthAll]
    have := a.2
    have := b.2
    omega
end
mutual
theorem plain_dp {F ρ : List Addr} {H : Hp} : ∀ (n : Nat) (d : D) {v : V}, plain n d = true → Dt K F ρ H v d → Dp K H v (toP d)
  | n, .non, v, _, q => by cases q; exact .non
  | n, .bl b, v, _, q => by cases q; exact .bl b
  | n, .int b, v, _, q => by cases q; exact .int b
  | n, .str b, v, _, q => by cases q; exact .str b
  | 0, .tup _, v, h, q => by simp [plain] at h
  | n + 1, .tup xs, v, h, q => by
    cases q with
    | tup na e qs => exact .tup (SqT.of e) (plains_dp n xs (plain_tup h).2 qs)
  | 0, .lst _, v, h, q => by simp [plain] at h
  | n + 1, .lst xs, v, h, q => by
    cases q with
    | lst na e qs => exact .lst (SqL.of e) (plains_dp n xs (plain_lst h).2 qs)
  | n, .ty _, v, h, q => by simp [plain] at h
  | n, .cls _, v, h, q => by simp [plain] at h
  | n, .cell _, v, h, q => by simp [plain] at h
  | n, .obj _ _ _, v, h, q => by simp [plain] at h
  | n, .scr _, v, h, q => by simp [plain] at h
  | n, .fn _, v, h, q => by simp [plain] at h
  | n, .dK _ _, v, h, q => by simp [plain] at h
  | n, .dT _ _, v, h, q => by simp [plain] at h
  | n, .exn _ _ _, v, h, q => by simp [plain] at h
theorem plains_dp {F ρ : List Addr} {H : Hp} : ∀ (n : Nat) (ds : List D) {vs : List V}, plains n ds = true → DtAll K F ρ H vs ds → DpAll K H vs (toPs ds)
  | n, [], vs, _, q => by cases q; exact .nil
  | n, x :: r, vs, h, q => by
    have h' : plain n x = true ∧ plains n r = true := by simpa [plains] using h
    cases q with
    | cons a b => exact .cons (plain_dp n x h'.1 a) (plains_dp n r h'.2 b)
end
/-- lists that may change, as they stand -/
def dr (μ : Mu) : Nat → D → D
  | n + 1, .tup xs => .tup (xs.map (dr μ n))
  | n + 1, .lst xs => .lst (xs.map (dr μ n))
  | n + 1, .cell i => match μ[i]? with
    | some (.lst xs) => .lst (xs.map (dr μ n))
    | _ => .cell i
  | _, d => d
def der (μ : Mu) (d : D) : D := if plain 60 d = true then d else dr μ 8 d
theorem der_plain {μ : Mu} {d : D} (h : plain 60 d = true) : der μ d = d := if_pos h
theorem dr_all {F ρ : List Addr} {H : Hp} {μ : Mu} {n m : Nat} (ih : ∀ (d : D) (v : V), plain m (dr μ n d) = true → Dt K F ρ H v d → Dp K H v (toP (dr μ n d))) : ∀ (ds : List D) (vs : List V), plains m (ds.map (dr μ n)) = true → DtAll K F ρ H vs ds → DpAll K H vs (toPs (ds.map (dr μ n)))
  | [], vs, _, q => by cases q; exact .nil
  | x :: r, vs, h, q => by
    have h' : plain m (dr μ n x) = true ∧ plains m (r.map (dr μ n)) = true := by simpa [plains] using h
    cases q with
    | cons a b => exact .cons (ih x _ h'.1 a) (dr_all ih r _ h'.2 b)
theorem dr_dp {F ρ : List Addr} {μ : Mu} {H : Hp} (w : Wd K F ρ μ H) : ∀ (n m : Nat) (d : D) (v : V), plain m (dr μ n d) = true → Dt K F ρ H v d → Dp K H v (toP (dr μ n d))
  | 0, m, d, v, h, q => by
    have e : dr μ 0 d = d := by cases d <;> rfl
    rw [e] at h ⊢
    exact plain_dp m d h q
  | n + 1, m, d, v, h, q => by
    cases d with
    | tup xs =>
      cases m with
      | zero => simp [dr, plain] at h
      | succ m =>
        cases q with
        | tup na e qs => exact .tup (SqT.of e) (dr_all (fun d v h q => dr_dp w n m d v h q) xs _ (plain_tup h).2 qs)
    | lst xs =>
      cases m with
      | zero => simp [dr, plain] at h
      | succ m =>
        cases q with
        | lst na e qs => exact .lst (SqL.of e) (dr_all (fun d v h q => dr_dp w n m d v h q) xs _ (plain_lst h).2 qs)
    | cell i =>
      cases c : μ[i]? with
      | none =>
        simp only [dr, c] at h
        simp [plain] at h
      | some mo =>
        cases mo with
        | lst xs =>
          have e : dr μ (n + 1) (.cell i) = .lst (xs.map (dr μ n)) := by simp only [dr, c]
          rw [e] at h ⊢
          cases m with
          | zero => simp [plain] at h
          | succ m =>
            cases q with
            | cell hi =>
              obtain ⟨vs, e1, q1⟩ := w.ok _ _ _ hi c
              exact .lst (SqL.of e1) (dr_all (fun d v h q => dr_dp w n m d v h q) xs _ (plain_lst h).2 q1)
        | _ =>
          simp only [dr, c] at h
          simp [plain] at h
    | _ => exact plain_dp m _ h q
theorem der_dp {F ρ : List Addr} {μ : Mu} {H : Hp} (w : Wd K F ρ μ H) {d : D} {v : V} (h : plain 60 (der μ d) = true) (q : Dt K F ρ H v d) : Dp K H v (toP (der μ d)) := by
  unfold der at h ⊢
  split at h
  · rename_i c
    rw [if_pos c]
    exact plain_dp 60 _ c q
  · rename_i c
    rw [if_neg c]
    exact dr_dp w 8 60 d v h q
theorem der_shaped {μ : Mu} {d : D} (h : plain 60 (der μ d) = true) : SeqAt.shaped (toP (der μ d)) = true := by
  have q := plain_shape 60 _ h
  unfold SeqAt.shaped
  rw [q.1, decide_eq_true (by have := q.2; omega)]
  rfl
/-- on a condition -/
def grd {α : Type} (c : Prop) (r : Res α) : Res α := @ite _ c (Classical.propDecidable c) r .bad
theorem wp_grd {α : Type} {c : Prop} {r : Res α} {P : α → Mu → Prop} {X : Exn → Mu → Prop} (h : wp (grd c r) P X) : c ∧ wp r P X := by
  unfold grd at h
  split at h
  · rename_i c
    exact ⟨c, h⟩
  · exact h.elim
theorem grd_pos {α : Type} {c : Prop} {r : Res α} (h : c) : grd c r = r := if_pos h
theorem chk_pos {α : Type} {n : Nat} {r : Res α} (h : n ≤ 16777216) : chk n r = r := if_pos h
/-! ### operators -/
def rAddU (K : PySem.W.Frag) : R2 := fun x y H Q => rI0 (fun i j => .int (i + j)) x y H Q ∨ (∃ i j, x = .str i ∧ y = .str j ∧ i.length + j.length ≤ sizeLine ∧ Q (.str (i ++ j)) H) ∨ rCatA K x y H Q ∨ rCat x y H Q
theorem op_addU {X : Cx} : OpR X (binaryOp .Add) (rAddU X.K) := op_add.or (op_add_str.or (op_catA.or op_cat))
def addL (μ : Mu) (x y : D) : Res D := match asL μ x, asL μ y with
  | some xs, some ys => chk (xs.length + ys.length) (.ok (.lst (xs ++ ys)) μ)
  | _, _ => .bad
def addD (x y : D) (μ : Mu) : Res D := match x, y with
  | .int i, .int j => .ok (.int (i + j)) μ
  | .str i, .str j => chk (i.length + j.length) (.ok (.str (i ++ j)) μ)
  | .tup xs, .tup ys => chk (xs.length + ys.length) (.ok (.tup (xs ++ ys)) μ)
  | x, y => addL μ x y
instance : SR2 K (rAddU K) addD := ⟨fun {X F H ρ μ x y dx dy P Q} w hx hy h o => by
  unfold addD at h
  split at h
  · cases hx; cases hy
    exact .inl ⟨_, _, rfl, rfl, o.here w (.int _) h⟩
  · cases hx; cases hy
    exact .inr (.inl ⟨_, _, rfl, rfl, (wp_chk h).1, o.here w (.str _) (wp_chk h).2⟩)
  · cases hx with
    | @tup a vs xs na ea qa =>
      cases hy with
      | @tup b ws ys nb eb qb =>
        obtain ⟨hl, h⟩ := wp_chk h
        refine .inr (.inr (.inl ⟨_, _, _, _, rfl, rfl, SqT.of ea, SqT.of eb, by rw [qa.len, qb.len]; exact hl, fun z => ?_, fun _ z => ?_, fun _ _ p hp => ?_⟩))
        · subst z
          cases qa
          exact o.here w (.tup nb eb qb) h
        · subst z
          cases qb
          have h2 : P (.tup (_ ++ [])) μ := h
          rw [List.append_nil] at h2
          exact o.here w (.tup na ea qa) h2
        · exact o.newT w (qa.app qb) h hp
  · unfold addL at h
    split at h
    · rename_i xs ys e1 e2
      obtain ⟨hl, h⟩ := wp_chk h
      obtain ⟨a, vs, rfl, ea, qa⟩ := asL_at w hx e1
      obtain ⟨b, ws, rfl, eb, qb⟩ := asL_at w hy e2
      exact .inr (.inr (.inr ⟨a, b, vs, ws, rfl, rfl, ea, eb, by rw [qa.len, qb.len]; exact hl, fun p hp => o.newL w (qa.app qb) h hp⟩))
    · exact h.elim⟩
def rSubU : R2 := rI0 fun i j => .int (i - j)
theorem op_subU {X : Cx} : OpR X (binaryOp .Sub) rSubU := op_sub
def subD (x y : D) (μ : Mu) : Res D := match x, y with
  | .int i, .int j => .ok (.int (i - j)) μ
  | _, _ => .bad
instance : SR2 K rSubU subD := ⟨fun {X F H ρ μ x y dx dy P Q} w hx hy h o => by
  unfold subD at h
  split at h
  · cases hx; cases hy
    exact ⟨_, _, rfl, rfl, o.here w (.int _) h⟩
  · exact h.elim⟩
instance {i j : Int} : Decidable (CMul i j) := by unfold CMul; exact inferInstance
instance {i j : Int} : Decidable (CMulW i j) := by unfold CMulW; exact inferInstance
instance {i j : Int} : Decidable (CPow i j) := by unfold CPow; exact inferInstance
instance {i j : Int} : Decidable (CDivW i j) := by unfold CDivW; exact inferInstance
instance {i j : Int} : Decidable (CDivN i j) := by unfold CDivN; exact inferInstance
def rMulU (K : PySem.W.Frag) : R2 := fun x y H Q => rI CMul (fun i j => .int (i * j)) x y H Q ∨ rRepT K x y H Q ∨ rRep1 K x y H Q ∨ rI CMulW (fun i j => .int (i * j)) x y H Q ∨ rRep x y H Q ∨ rMulS x y H Q ∨ rRep0 K x y H Q
theorem op_mulU {X : Cx} : OpR X (binaryOp .Mult) (rMulU X.K) := op_mul.or (op_repT.or (op_rep1.or (op_mulW.or (op_rep.or (op_mulS.or op_rep0)))))
def mulL (μ : Mu) (x : D) (k : Int) : Res D := match asL μ x with
  | some xs => grd (-1000 ≤ k ∧ k ≤ 1000 ∧ xs.length ≤ 1000) (.ok (.lst (List.replicate k.toNat xs).flatten) μ)
  | none => .bad
def mulD (x y : D) (μ : Mu) : Res D := match x, y with
  | .int i, .int j => grd (CMul i j ∨ CMulW i j) (.ok (.int (i * j)) μ)
  | .str z, .int k => grd (-1000 ≤ k ∧ k ≤ 1000 ∧ z.length ≤ 1000) (.ok (.str (strRep k.toNat z)) μ)
  | .tup xs, .int k => grd (xs ≠ [] ∧ -1000 ≤ k ∧ k ≤ 1000 ∧ xs.length ≤ 1000) (.ok (.tup (List.replicate k.toNat xs).flatten) μ)
  | x, .int k => mulL μ x k
  | _, _ => .bad
theorem DtAll.rep {F ρ : List Addr} {H : Hp} {vs : List V} {ds : List D} (h : DtAll K F ρ H vs ds) : ∀ k : Nat, DtAll K F ρ H (List.replicate k vs).flatten (List.replicate k ds).flatten
  | 0 => .nil
  | k + 1 => by
    rw [List.replicate_succ, List.replicate_succ]
    exact h.app (DtAll.rep h k)
instance : SR2 K (rMulU K) mulD := ⟨fun {X F H ρ μ x y dx dy P Q} w hx hy h o => by
  unfold mulD at h
  split at h
  · cases hx; cases hy
    obtain ⟨c, h⟩ := wp_grd h
    rcases c with c | c
    · exact .inl ⟨_, _, rfl, rfl, c, o.here w (.int _) h⟩
    · exact .inr (.inr (.inr (.inl ⟨_, _, rfl, rfl, c, o.here w (.int _) h⟩)))
  · cases hx; cases hy
    obtain ⟨⟨h1, h2, h3⟩, h⟩ := wp_grd h
    exact .inr (.inr (.inr (.inr (.inr (.inl ⟨_, _, rfl, rfl, h1, h2, h3, o.here w (.str _) h⟩)))))
  · rename_i xs k
    obtain ⟨⟨h1, h2, h3, h4⟩, h5⟩ := wp_grd h
    cases hx with
    | @tup a vs xs na ea qa =>
      cases hy
      have hv : vs ≠ [] := fun z => by
        subst z
        cases qa
        exact h1 rfl
      by_cases c : k = 1
      · subst c
        refine .inr (.inr (.inl ⟨a, vs, rfl, rfl, SqT.of ea, o.here w (.tup na ea qa) ?_⟩))
        have e : (List.replicate (1 : Int).toNat xs).flatten = xs := by simp
        have h5 : P (.tup (List.replicate (1 : Int).toNat xs).flatten) μ := h5
        rw [e] at h5
        exact h5
      · by_cases c0 : k ≤ 0
        · refine .inr (.inr (.inr (.inr (.inr (.inr ⟨a, k, vs, rfl, rfl, SqT.of ea, hv, h2, c0, fun p hp => o.newT w .nil ?_ hp⟩)))))
          have e : k.toNat = 0 := by omega
          have h5 : P (.tup (List.replicate k.toNat xs).flatten) μ := h5
          rw [e] at h5
          exact h5
        · exact .inr (.inl ⟨a, k, vs, rfl, rfl, SqT.of ea, hv, by omega, h3, by rw [qa.len]; exact h4, fun p hp => o.newT w (qa.rep _) h5 hp⟩)
  · cases hy
    rename_i k _ _ _
    unfold mulL at h
    split at h
    · rename_i xs e1
      obtain ⟨⟨h1, h2, h3⟩, h⟩ := wp_grd h
      obtain ⟨a, vs, rfl, ea, qa⟩ := asL_at w hx e1
      refine .inr (.inr (.inr (.inr (.inl ⟨a, k, vs, rfl, rfl, ea, by omega, by omega, ?_, fun p hp => o.newL w (qa.rep _) h hp⟩))))
      have a1 : vs.length * k.toNat ≤ 1000 * 1000 := Nat.mul_le_mul (by rw [qa.len]; exact h3) (by omega)
      rw [sizeLine_eq]
      omega
    · exact h.elim
  · exact h.elim⟩
def rModU : R2 := fun x y H Q => rI (fun _ j => 0 < j) (fun i j => .int (i % j)) x y H Q ∨ rI (fun _ j => j ≠ 0) (fun i j => .int (i.fmod j)) x y H Q
theorem op_modU {X : Cx} : OpR X (binaryOp .Mod) rModU := op_mod.or op_modN
def modD (x y : D) (μ : Mu) : Res D := match x, y with
  | .int i, .int j => if 0 < j then .ok (.int (i % j)) μ else grd (j ≠ 0) (.ok (.int (i.fmod j)) μ)
  | _, _ => .bad
instance : SR2 K rModU modD := ⟨fun {X F H ρ μ x y dx dy P Q} w hx hy h o => by
  unfold modD at h
  split at h
  · cases hx; cases hy
    split at h
    · rename_i c
      exact .inl ⟨_, _, rfl, rfl, c, o.here w (.int _) h⟩
    · exact .inr ⟨_, _, rfl, rfl, (wp_grd h).1, o.here w (.int _) (wp_grd h).2⟩
  · exact h.elim⟩
def rDivU : R2 := fun x y H Q => rI CDivW (fun i j => .int (i / j)) x y H Q ∨ rI CDivN (fun i j => .int (i.fdiv j)) x y H Q
theorem op_divU {X : Cx} : OpR X (binaryOp .FloorDiv) rDivU := op_fdivW.or op_fdivN
def divD (x y : D) (μ : Mu) : Res D := match x, y with
  | .int i, .int j => if 0 < j then grd (j.natAbs.log2 < 9000) (.ok (.int (i / j)) μ) else grd (j ≠ 0 ∧ j.natAbs < 1073741824) (.ok (.int (i.fdiv j)) μ)
  | _, _ => .bad
instance : SR2 K rDivU divD := ⟨fun {X F H ρ μ x y dx dy P Q} w hx hy h o => by
  unfold divD at h
  split at h
  · cases hx; cases hy
    split at h
    · rename_i c
      exact .inl ⟨_, _, rfl, rfl, ⟨c, (wp_grd h).1⟩, o.here w (.int _) (wp_grd h).2⟩
    · exact .inr ⟨_, _, rfl, rfl, (wp_grd h).1, o.here w (.int _) (wp_grd h).2⟩
  · exact h.elim⟩
def rPowU : R2 := rI CPow fun i j => .int (i ^ j.toNat)
theorem op_powU {X : Cx} : OpR X (binaryOp .Pow) rPowU := op_pow
def powD (x y : D) (μ : Mu) : Res D := match x, y with
  | .int i, .int j => grd (CPow i j) (.ok (.int (i ^ j.toNat)) μ)
  | _, _ => .bad
instance : SR2 K rPowU powD := ⟨fun {X F H ρ μ x y dx dy P Q} w hx hy h o => by
  unfold powD at h
  split at h
  · cases hx; cases hy
    exact ⟨_, _, rfl, rfl, (wp_grd h).1, o.here w (.int _) (wp_grd h).2⟩
  · exact h.elim⟩
def negD : D → Mu → Res D := fun x μ => match x with
  | .int i => .ok (.int (-i)) μ
  | _ => .bad
def rNegU : V → Hp → VK → Prop := rU fun i => .int (-i)
theorem un_negU {X : Cx} : UnR X (unaryOp .USub) rNegU := un_neg
instance : SU K rNegU negD := ⟨fun {X F H ρ μ x dx P Q} w hx h o => by
  unfold negD at h
  split at h
  · cases hx
    exact ⟨_, rfl, o.here w (.int _) h⟩
  · exact h.elim⟩
/-! ### comparisons -/
def rCmpU (f : Int → Int → Bool) : R2 := rI0 fun i j => .bl (f i j)
abbrev fLt (i j : Int) : Bool := decide (i < j)
abbrev fLe (i j : Int) : Bool := decide (i ≤ j)
abbrev fGt (i j : Int) : Bool := decide (j < i)
abbrev fGe (i j : Int) : Bool := decide (j ≤ i)
theorem op_leU {X : Cx} : OpR X (compareOp .LtE) (rCmpU fLe) := op_le
theorem op_gtU {X : Cx} : OpR X (compareOp .Gt) (rCmpU fGt) := op_gt
theorem op_geU {X : Cx} : OpR X (compareOp .GtE) (rCmpU fGe) := op_ge
def cmpD (f : Int → Int → Bool) (x y : D) (μ : Mu) : Res D := match x, y with
  | .int i, .int j => .ok (.bl (f i j)) μ
  | _, _ => .bad
instance {f : Int → Int → Bool} : SR2 K (rCmpU f) (cmpD f) := ⟨fun {X F H ρ μ x y dx dy P Q} w hx hy h o => by
  unfold cmpD at h
  split at h
  · cases hx; cases hy
    exact ⟨_, _, rfl, rfl, o.here w (.bl _) h⟩
  · exact h.elim⟩
/-- a < b: ints, or alike data -/
def rLtA (K : PySem.W.Frag) : R2 := fun x y H Q => ∃ d e, Dp K H x d ∧ Dp K H y e ∧ PySem.W.alike d e = true ∧ d ≠ .none ∧ d.depth ≤ 64 ∧ Q (.bl (PySem.W.dataLt d e)) H
theorem op_ltA {X : Cx} (hu : X.A.units + 64 < cLine) : OpR X (compareOp .Lt) (rLtA X.K) := by
  intro pins s σ H x y v u Q I rx ry h
  obtain ⟨d, e, hd, he, ha, hn, hz, q⟩ := h
  obtain ⟨as, r1⟩ := Dp.reads I d x v hd rx
  obtain ⟨bs, r2⟩ := Dp.reads I e y u he ry
  exact PySem.W.rcLt_alike d e X.A s v u as bs r1 r2 ha hn (by omega) _ _ _ _ ⟨.bl _, H, I, rfl, q⟩
def rLtU (K : PySem.W.Frag) : R2 := fun x y H Q => rCmpU fLt x y H Q ∨ rLtA K x y H Q
theorem op_ltU {X : Cx} (hu : X.A.units + 64 < cLine) : OpR X (compareOp .Lt) (rLtU X.K) := op_lt.or (op_ltA hu)
def isNone : PyData → Bool
  | .none => true
  | _ => false
def ltP (x y : D) (μ : Mu) : Res D := grd (plain 60 x = true ∧ plain 60 y = true ∧ PySem.W.alike (toP x) (toP y) = true ∧ isNone (toP x) = false) (.ok (.bl (PySem.W.dataLt (toP x) (toP y))) μ)
def ltD (x y : D) (μ : Mu) : Res D := match x, y with
  | .int i, .int j => .ok (.bl (decide (i < j))) μ
  | x, y => ltP (der μ x) (der μ y) μ
instance : SR2 K (rLtU K) ltD := ⟨fun {X F H ρ μ x y dx dy P Q} w hx hy h o => by
  unfold ltD at h
  split at h
  · cases hx; cases hy
    exact .inl ⟨_, _, rfl, rfl, o.here w (.bl _) h⟩
  · obtain ⟨⟨h1, h2, h3, h4⟩, h5⟩ := wp_grd h
    refine .inr ⟨_, _, der_dp w h1 hx, der_dp w h2 hy, h3, fun z => ?_, ?_, o.here w (.bl _) h5⟩
    · rw [z] at h4
      cases h4
    · have := (plain_shape 60 _ h1).2
      omega⟩
def rEqU (K : PySem.W.Frag) : R2 := rEqD K
theorem op_eqU {X : Cx} (hu : X.A.units + 64 < cLine) : OpR X (compareOp .Eq) (rEqU X.K) := op_eqD hu
def rNeU (K : PySem.W.Frag) : R2 := rNeD K
theorem op_neU {X : Cx} (hu : X.A.units + 64 < cLine) : OpR X (compareOp .NotEq) (rNeU X.K) := op_neD hu
def eqP (x y : D) : Bool := PyData.eqv (toP x) (toP y)
def eqC (x y : D) (f : Bool → D) (μ : Mu) : Res D := grd (plain 60 x = true ∧ plain 60 y = true) (.ok (f (eqP x y)) μ)
def eqD (x y : D) (μ : Mu) : Res D := eqC (der μ x) (der μ y) .bl μ
def neD (x y : D) (μ : Mu) : Res D := eqC (der μ x) (der μ y) (fun b => .bl (!b)) μ
instance : SR2 K (rEqU K) eqD := ⟨fun w hx hy h o => by
  obtain ⟨⟨h1, h2⟩, h3⟩ := wp_grd h
  exact ⟨_, _, der_dp w h1 hx, der_dp w h2 hy, der_shaped h1, der_shaped h2, o.here w (.bl _) h3⟩⟩
instance : SR2 K (rNeU K) neD := ⟨fun w hx hy h o => by
  obtain ⟨⟨h1, h2⟩, h3⟩ := wp_grd h
  exact ⟨_, _, der_dp w h1 hx, der_dp w h2 hy, der_shaped h1, der_shaped h2, o.here w (.bl _) h3⟩⟩
def isN : D → Bool
  | .non => true
  | _ => false
theorem isN_at {F ρ : List Addr} {H : Hp} {v : V} {d : D} (h : Dt K F ρ H v d) : decide (v = .non) = isN d := by
  cases h <;> first | exact decide_eq_true rfl | exact decide_eq_false (fun z => nomatch z)
variable {E : L2.St → XK}
def dIsN (Ta : DE) : DE := fun η μ => (Ta η μ).bind fun x μ1 => .ok (.bl (isN x)) μ1
def dNotN (Ta : DE) : DE := fun η μ => (Ta η μ).bind fun x μ1 => .ok (.bl (!isN x)) μ1
instance {ta : TE} {Ta : DE} [a : SE K E ta Ta] : SE K E (tIsN ta) (dIsN Ta) := ⟨fun w e h o =>
  a.run w e (wp_bind h) fun x H1 ρ1 dx μ1 w1 g1 q1 h1 => by
    rw [isN_at q1]
    exact (o.mono g1).here w1 (.bl _) h1⟩
instance {ta : TE} {Ta : DE} [a : SE K E ta Ta] : SE K E (tNotN ta) (dNotN Ta) := ⟨fun w e h o =>
  a.run w e (wp_bind h) fun x H1 ρ1 dx μ1 w1 g1 q1 h1 => by
    rw [isN_at q1]
    exact (o.mono g1).here w1 (.bl _) h1⟩
def dChain (f f' : D → D → Mu → Res D) (Ta Tb Tc : DE) : DE := fun η μ => (Ta η μ).bind fun x μ1 => (Tb η μ1).bind fun y μ2 => (f x y μ2).bind fun z μ3 => onB z fun k => if k = true then (Tc η μ3).bind fun c μ4 => f' y c μ4 else .ok (.bl false) μ3
instance {r r' : R2} {ta tb tc : TE} {f f' : D → D → Mu → Res D} {Ta Tb Tc : DE} [a : SE K E ta Ta] [b : SE K E tb Tb] [c : SE K E tc Tc] [s : SR2 K r f] [s' : SR2 K r' f'] : SE K E (tChain r r' ta tb tc) (dChain f f' Ta Tb Tc) := ⟨fun w e h o =>
  a.run w e (wp_bind h) fun x H1 ρ1 dx μ1 w1 g1 q1 h1 => b.run w1 (e.mono g1) (wp_bind h1) fun y H2 ρ2 dy μ2 w2 g2 q2 h2 => s.run w2 (q1.mono g2) q2 (wp_bind h2) fun z H3 ρ3 dz μ3 w3 g3 q3 h3 => by
    obtain ⟨k, rfl, h4⟩ := onB_at q3 h3
    refine ⟨k, rfl, ?_⟩
    have g123 := (g1.trans g2).trans g3
    cases k with
    | true => exact c.run w3 (e.mono g123) (wp_bind h4) fun u H4 ρ4 du μ4 w4 g4 q4 h5 => s'.run w4 ((q2.mono g3).mono g4) q4 h5 (o.mono (g123.trans g4))
    | false => exact (o.mono g123).here w3 (.bl _) h4⟩
/-! ### subscripts -/
def seqOf (μ : Mu) : D → Option (List D)
  | .tup xs => some xs
  | d => asL μ d
def okO {α β : Type} (o : Option α) (f : α → Res β) : Res β := match o with
  | some a => f a
  | none => .bad
theorem wp_okO {α β : Type} {o : Option α} {f : α → Res β} {P : β → Mu → Prop} {X : Exn → Mu → Prop} (h : wp (okO o f) P X) : ∃ a, o = some a ∧ wp (f a) P X := by
  cases o with
  | none => exact h.elim
  | some a => exact ⟨a, rfl, h⟩
def ixD (x y : D) (μ : Mu) : Res D := match x, y with
  | .str z, .int i => chk z.length (okO (atI z.cps.toList i) fun c => .ok (.str ⟨#[c]⟩) μ)
  | x, .int i => okO (seqOf μ x) fun xs => okO (atI xs i) fun d => .ok d μ
  | _, _ => .bad
theorem DtAll.atI {F ρ : List Addr} {H : Hp} {vs : List V} {ds : List D} {i : Int} {d : D} (q : DtAll K F ρ H vs ds) (h : L2.atI ds i = some d) : ∃ v, L2.atI vs i = some v ∧ Dt K F ρ H v d := by
  unfold L2.atI at h ⊢
  rw [q.len]
  cases c : ixN ds.length i with
  | none => rw [c] at h; cases h
  | some j =>
    rw [c] at h
    exact q.getD h
instance : SR2 K (rIx K) ixD := ⟨fun {X F H ρ μ x y dx dy P Q} w hx hy h o => by
  unfold ixD at h
  split at h
  · cases hx; cases hy
    obtain ⟨h1, h⟩ := wp_chk h
    obtain ⟨u, c, h⟩ := wp_okO h
    exact .inr (.inr ⟨_, _, u, rfl, rfl, h1, c, o.here w (.str _) h⟩)
  · cases hy
    obtain ⟨xs, c, h3⟩ := wp_okO h
    obtain ⟨u, c2, h4⟩ := wp_okO h3
    clear h h3
    by_cases ct : ∃ ys, dx = .tup ys
    · obtain ⟨ys, rfl⟩ := ct
      have e : ys = xs := Option.some.inj c
      subst e
      cases hx with
      | tup na ea qa =>
        obtain ⟨v, hv, q⟩ := qa.atI c2
        exact .inr (.inl ⟨_, _, _, v, rfl, rfl, SqT.of ea, hv, o.here w q h4⟩)
    · have c' : asL μ dx = some xs := by
        cases dx <;> first | exact c | exact absurd ⟨_, rfl⟩ ct
      obtain ⟨a, vs, rfl, ea, qa⟩ := asL_at w hx c'
      obtain ⟨v, hv, q⟩ := qa.atI c2
      exact .inl ⟨_, _, _, v, rfl, rfl, SqL.of ea, hv, o.here w q h4⟩
  · exact h.elim⟩
end
end
end DX

namespace DX
open PySem PySem.Spec PyProof.Rows L2
noncomputable section
section
variable {K : PySem.W.Frag} {E : L2.St → XK}
/-! ### slices -/
def cut {α : Type} (xs : List α) (lo hi : Option Int) : List α := (xs.drop (HT.sIx xs.length 0 lo)).take (HT.sIx xs.length xs.length hi - HT.sIx xs.length 0 lo)
theorem DtAll.cut {F ρ : List Addr} {H : Hp} {vs : List V} {ds : List D} (q : DtAll K F ρ H vs ds) (lo hi : Option Int) : DtAll K F ρ H (cutV vs lo hi) (DX.cut ds lo hi) := by
  unfold cutV DX.cut
  rw [q.len]
  exact (q.drop _).take _
theorem cut_map {α β : Type} (f : α → β) (xs : List α) (lo hi : Option Int) : cut (xs.map f) lo hi = (cut xs lo hi).map f := by
  unfold cut
  rw [List.length_map, ← List.map_drop, ← List.map_take]
def rSlU (K : PySem.W.Frag) : V → Option Int → Option Int → Hp → VK → Prop := fun x lo hi H Q => rSlL K x lo hi H Q ∨ rSlA K x lo hi H Q ∨ rSlS x lo hi H Q
theorem sl_U {X : Cx} : SlR X (rSlU X.K) := sl_list.or (sl_tupA.or sl_str)
def slD (x : D) (lo hi : Option Int) (μ : Mu) : Res D := match x with
  | .str z => chk z.length (.ok (.str (cutS z lo hi)) μ)
  | .tup xs => .ok (.tup (cut xs lo hi)) μ
  | .scr ns => .ok (.lst ((cut ns lo hi).map D.int)) μ
  | x => okO (asL μ x) fun xs => .ok (.lst (cut xs lo hi)) μ
theorem cut_whole {α : Type} {xs : List α} {lo hi : Option Int} (h : HT.sIx xs.length 0 lo = 0 ∧ HT.sIx xs.length xs.length hi = xs.length) : cut xs lo hi = xs := by
  unfold cut
  rw [h.1, h.2, List.drop_zero, Nat.sub_zero, List.take_length]
instance : SL K (rSlU K) slD := ⟨fun {X F H ρ μ x dx lo hi P Q} w hx h o => by
  unfold slD at h
  split at h
  · cases hx
    exact .inr (.inr ⟨_, rfl, (wp_chk h).1, o.here w (.str _) (wp_chk h).2⟩)
  · rename_i xs
    have h : P (.tup (cut xs lo hi)) μ := h
    cases hx with
    | tup na ea qa =>
      refine .inr (.inl ⟨_, _, rfl, SqT.of ea, fun z => ?_, fun z p hp => ?_⟩)
      · rw [qa.len] at z
        rw [cut_whole z] at h
        exact o.here w (.tup na ea qa) h
      · exact o.newT w (qa.cut lo hi) h hp
  · rename_i ns
    cases hx with
    | scr e =>
      refine .inl ⟨_, _, rfl, e.sq, fun p hp => ?_⟩
      have q : DtAll K F ρ H (cutV (ns.map V.int) lo hi) ((cut ns lo hi).map D.int) := by
        have z : cutV (ns.map V.int) lo hi = (cut ns lo hi).map V.int := cut_map V.int ns lo hi
        rw [z]
        exact DtAll.of_ints _
      exact o.newL w q h hp
  · obtain ⟨xs, c, h⟩ := wp_okO h
    obtain ⟨a, vs, rfl, ea, qa⟩ := asL_at w hx c
    exact .inl ⟨_, _, rfl, SqL.of ea, fun p hp => o.newL w (qa.cut lo hi) h hp⟩⟩
def dNoPart : DO := fun _ μ => .ok none μ
def dPart (T : DE) : DO := fun η μ => (T η μ).bind fun x μ1 => match x with
  | .int i => .ok (some i) μ1
  | _ => .bad
instance : SO K E tNoPart dNoPart := ⟨fun w e h o => o none _ _ _ w (Grow.refl _ _) h⟩
instance {t : TE} {T : DE} [a : SE K E t T] : SO K E (tPart t) (dPart T) := ⟨fun w e h o =>
  a.run w e (wp_bind h) fun x H1 ρ1 dx μ1 w1 g1 q1 h1 => by
    cases q1 <;> first | exact h1.elim | exact ⟨_, rfl, o _ H1 ρ1 μ1 w1 g1 h1⟩⟩
def dSl (f : D → Option Int → Option Int → Mu → Res D) (T : DE) (Tl Th : DO) : DE := fun η μ => (T η μ).bind fun x μ1 => (Tl η μ1).bind fun l μ2 => (Th η μ2).bind fun u μ3 => f x l u μ3
instance {r : V → Option Int → Option Int → Hp → VK → Prop} {t : TE} {tl th : TO} {f : D → Option Int → Option Int → Mu → Res D} {T : DE} {Tl Th : DO} [a : SE K E t T] [b : SO K E tl Tl] [c : SO K E th Th] [s : SL K r f] : SE K E (tSl r t tl th) (dSl f T Tl Th) := ⟨fun w e h o =>
  a.run w e (wp_bind h) fun x H1 ρ1 dx μ1 w1 g1 q1 h1 => b.run w1 (e.mono g1) (wp_bind h1) fun l H2 ρ2 μ2 w2 g2 h2 => c.run w2 ((e.mono g1).mono g2) (wp_bind h2) fun u H3 ρ3 μ3 w3 g3 h3 =>
    s.run w3 ((q1.mono g2).mono g3) h3 (o.mono ((g1.trans g2).trans g3))⟩
/-! ### what is walked -/
/-- things of which nothing changes -/
theorem walkD_of {F ρ1 : List Addr} {H1 : Hp} {J : It} {its : List D} {n : Nat} {G : Hp → Prop} {Y : Nat → Hp → V → Hp → Prop} (wk : Walk J n G Y) (hn : n = its.length)
    (hG : ∀ H, (∀ x o, H1 x = some o → x ∉ F ++ ρ1 → H x = some o) → G H)
    (hY : ∀ F' ρ μ H, (∀ a, a ∉ F → H1 a ≠ none → a ∉ F') → Grow ρ1 ρ H1 H → Wd K F' ρ μ H → ∀ i x H', i < its.length → Y i H x H' → Wd K F' ρ μ H' ∧ Grow ρ ρ H H' ∧ ∃ d, its[i]? = some d ∧ Dt K F' ρ H' x d) :
    WalkD K F ρ1 H1 J its := by
  intro F' ρ μ H hf g w
  have q : G H := hG H fun x o e n => g.keep x o (not_app n).2 e
  subst hn
  exact ⟨fun i hi => wk.goes i H hi q, wk.stops H q, fun i x H' hi y => hY F' ρ μ H hf g w i x H' hi (wk.yields i H x H' hi q y)⟩
/-- any sequence: a list, a tuple, a text -/
def iSeq (K : PySem.W.Frag) (t : TE) : TI := fun σ H R => t σ H fun x H1 => (∃ a, x = .ref a ∧ (∃ xs, SqL K H1 a xs) ∧ R (Itl K a) H1) ∨ (∃ a, x = .ref a ∧ (∃ xs, SqT K H1 a xs) ∧ R (Itt K a) H1) ∨ (∃ z, x = .str z ∧ R (Its z) H1)
theorem pi_seq {X : Cx} {tg l : Expr} {tl : TE} (hl : PE X l tl) : PI X tg l (iSeq X.K tl) := by
  refine ⟨fun pins s σ H R I h => ?_⟩
  refine thn (hl.run pins s σ H _ I h) fun v s1 ⟨x, H1, I1, r1, q1⟩ => ?_
  rcases q1 with ⟨a, e, ⟨xs, hq⟩, q⟩ | ⟨a, e, ⟨xs, hq⟩, q⟩ | ⟨z, e, q⟩
  · subst e
    cases r1
    obtain ⟨its, rv, p, hz⟩ := I1.list hq
    refine wpAny_pyIter_list p.isList ?_
    refine ⟨s1.heap.objs.size, [s1.heap.objs.size], _, _, H1, rfl, I1.kept (t' := s1.toks) fun b o e => Heap.get?_push_of_some _ e, turn_list a _, ⟨_, Heap.get?_push_size _ rfl, rfl, rfl⟩, fun b hb => ?_, q⟩
    have e : b = s1.heap.objs.size := by simpa using hb
    subst e
    exact I1.fpOk (Nat.le_refl _) (I1.hok.fresh (Nat.le_refl _))
  · subst e
    cases r1
    obtain ⟨its, rv, p, hz⟩ := I1.tuple hq
    refine wpAny_pyIter_tuple (show s1.heap.IsTuple a its.toArray from p) ?_
    refine ⟨s1.heap.objs.size, [s1.heap.objs.size], _, _, H1, rfl, I1.kept (t' := s1.toks) fun b o e => Heap.get?_push_of_some _ e, turn_tuple a _, ⟨_, Heap.get?_push_size _ rfl, rfl, rfl⟩, fun b hb => ?_, q⟩
    have e : b = s1.heap.objs.size := by simpa using hb
    subst e
    exact I1.fpOk (Nat.le_refl _) (I1.hok.fresh (Nat.le_refl _))
  · subst e
    obtain ⟨t, rfl⟩ := r1
    cases ha : z.cps.all (· < 128)
    · exact wpAny_pyIter_wide ha (pi_one (tk := s1.toks) I1 _ (turn_str _ z t "str_iterator" (.inr rfl)) ⟨_, Heap.get?_push_size _ rfl, rfl, rfl⟩ q)
    · exact wpAny_pyIter_ascii ha (pi_one (tk := s1.toks) I1 _ (turn_str _ z t "str_ascii_iterator" (.inl rfl)) ⟨_, Heap.get?_push_size _ rfl, rfl, rfl⟩ q)
/-- the items of data that stands still -/
def itemsOf : D → Option (List D)
  | .lst xs => some xs
  | .tup xs => some xs
  | .str z => some (z.cps.toList.map fun c => .str ⟨#[c]⟩)
  | _ => none
def dSeqI (T : DE) : DA := fun η μ => (T η μ).bind fun x μ1 => okO (itemsOf x) fun its => .ok its μ1
theorem DtAll.off {F F' ρ ρ' : List Addr} {H H' : Hp} {vs : List V} {ds : List D} (q : DtAll K F ρ H vs ds) (hf : ∀ a, a ∉ F → H a ≠ none → a ∉ F') (g : Grow ρ ρ' H H') : DtAll K F' ρ' H' vs ds := (q.aside hf).mono g
theorem walk_vals {F ρ1 : List Addr} {H1 : Hp} {J : It} {vs : List V} {its : List D} {G : Hp → Prop} (wk : Walk J vs.length G (YAt vs)) (q : DtAll K F ρ1 H1 vs its)
    (hG : ∀ H, (∀ x o, H1 x = some o → x ∉ F ++ ρ1 → H x = some o) → G H) : WalkD K F ρ1 H1 J its :=
  walkD_of wk q.len hG fun F' ρ μ H hf g w i x H' hi y => by
    obtain ⟨rfl, hx⟩ := y
    obtain ⟨d, hd, qd⟩ := (q.off hf g).get hx
    exact ⟨w, Grow.refl _ _, d, hd, qd⟩
instance {t : TE} {T : DE} [a : SE K E t T] : SI K E (iSeq K t) (dSeqI T) := ⟨fun {X F σ H η ρ μ P R} w e h o =>
  a.run w e (wp_bind h) fun x H1 ρ1 dx μ1 w1 g1 q1 h1 => by
    obtain ⟨its, c, h1⟩ := wp_okO h1
    cases q1 with
    | @lst a vs xs na ea qa =>
      cases c
      exact .inl ⟨a, rfl, ⟨_, SqL.of ea⟩, o _ H1 ρ1 _ μ1 w1 g1 (walk_vals walk_list qa fun H k => SqL.of (k a _ ea na)) h1⟩
    | @tup a vs xs na ea qa =>
      cases c
      exact .inr (.inl ⟨a, rfl, ⟨_, SqT.of ea⟩, o _ H1 ρ1 _ μ1 w1 g1 (walk_vals walk_tup qa fun H k => SqT.of (k a _ ea na)) h1⟩)
    | str z =>
      cases c
      refine .inr (.inr ⟨z, rfl, o _ H1 ρ1 _ μ1 w1 g1 (walkD_of walk_str (by simp) (fun _ _ => trivial) fun F' ρ μ H hf g w i x H' hi y => ?_) h1⟩)
      obtain ⟨rfl, ch, hc, rfl⟩ := y
      refine ⟨w, Grow.refl _ _, .str ⟨#[ch]⟩, ?_, .str _⟩
      rw [List.getElem?_map, Array.getElem?_toList, hc]
      rfl
    | _ => cases c⟩
/-! range -/
def rangeD (i : Int) (n : Nat) : List D := (List.range n).map fun k => .int (i + (k : Nat))
def dRng1 (T : DA) : DA := fun η μ => (T η μ).bind fun ds μ1 => match ds with
  | [.int j] => grd (-(2 ^ 62) ≤ j ∧ j < 2 ^ 62) (.ok (rangeD 0 j.toNat) μ1)
  | _ => .bad
theorem range_get {i : Int} {n k : Nat} (h : k < n) : (rangeD i n)[k]? = some (.int (i + (k : Nat))) := by simp [rangeD, h]
theorem range_len {i : Int} {n : Nat} : (rangeD i n).length = n := by simp [rangeD]
instance {t : TA} {T : DA} [a : SA K E t T] : SI K E (iRng1 t) (dRng1 T) := ⟨fun {X F σ H η ρ μ P R} w e h o =>
  a.run w e (wp_bind h) fun vs H1 ρ1 ds μ1 w1 g1 q1 h1 => by
    split at h1
    · rename_i j
      obtain ⟨c, h1⟩ := wp_grd h1
      cases q1 with
      | cons qa qb =>
        cases qb
        cases qa
        refine ⟨j, rfl, c.1, c.2, o _ H1 ρ1 _ μ1 w1 g1 (walkD_of walk_range range_len.symm (fun _ _ => trivial) fun F' ρ μ H hf g w i x H' hi y => ?_) h1⟩
        obtain ⟨rfl, rfl⟩ := y
        rw [range_len] at hi
        exact ⟨w, Grow.refl _ _, _, range_get hi, .int _⟩
    · exact h1.elim⟩
def dRng2 (T : DA) : DA := fun η μ => (T η μ).bind fun ds μ1 => match ds with
  | [.int i, .int j] => grd (-(2 ^ 62) ≤ i ∧ i < 2 ^ 62 ∧ -(2 ^ 62) ≤ j ∧ j < 2 ^ 62) (.ok (rangeD i (j - i).toNat) μ1)
  | _ => .bad
instance {t : TA} {T : DA} [a : SA K E t T] : SI K E (iRng2 t) (dRng2 T) := ⟨fun {X F σ H η ρ μ P R} w e h o =>
  a.run w e (wp_bind h) fun vs H1 ρ1 ds μ1 w1 g1 q1 h1 => by
    split at h1
    · rename_i i j
      obtain ⟨c, h1⟩ := wp_grd h1
      cases q1 with
      | cons qa qb =>
        cases qb with
        | cons qb qc =>
          cases qc
          cases qa
          cases qb
          refine ⟨i, j, rfl, c, o _ H1 ρ1 _ μ1 w1 g1 (walkD_of walk_range range_len.symm (fun _ _ => trivial) fun F' ρ μ H hf g w k x H' hi y => ?_) h1⟩
          obtain ⟨rfl, rfl⟩ := y
          rw [range_len] at hi
          exact ⟨w, Grow.refl _ _, _, range_get hi, .int _⟩
    · exact h1.elim⟩
/-! pairs made on the way -/
theorem walk_pairs {F ρ1 : List Addr} {H1 : Hp} {J : It} {n : Nat} {fx fy : Nat → Option V} {its : List D} {G : Hp → Prop} (wk : Walk J n G (YPair fx fy)) (hn : n = its.length)
    (hG : ∀ H, (∀ x o, H1 x = some o → x ∉ F ++ ρ1 → H x = some o) → G H)
    (hd : ∀ F' ρ H, (∀ a, a ∉ F → H1 a ≠ none → a ∉ F') → Grow ρ1 ρ H1 H → ∀ i x y, i < its.length → fx i = some x → fy i = some y → ∃ dx dy, its[i]? = some (.tup [dx, dy]) ∧ Dt K F' ρ H x dx ∧ Dt K F' ρ H y dy) : WalkD K F ρ1 H1 J its :=
  walkD_of wk hn hG fun F' ρ μ H hf g w i v H' hi y => by
    obtain ⟨T, x, y, rfl, hT, rfl, ex, ey⟩ := y
    obtain ⟨dx, dy, e, q1, q2⟩ := hd F' ρ H hf g i x y hi ex ey
    have gT : Grow ρ ρ H (upd H T (.tup [x, y])) := Grow.fresh hT
    exact ⟨w.lay hT, gT, _, e, .tup (w.fresh2 hT) upd_same (.cons (q1.mono gT) (.one (q2.mono gT)))⟩
def zipD (xs ys : List D) : List D := List.zipWith (fun x y => .tup [x, y]) xs ys
theorem zip_get {xs ys : List D} {i : Nat} {x y : D} (hx : xs[i]? = some x) (hy : ys[i]? = some y) : (zipD xs ys)[i]? = some (.tup [x, y]) := by
  unfold zipD
  rw [List.getElem?_zipWith, hx, hy]
end
end
end DX

namespace DX
open PySem PySem.Spec PyProof.Rows L2
noncomputable section
section
variable {K : PySem.W.Frag} {E : L2.St → XK}
theorem walk_zipT {a b : Addr} {xs ys : List V} {n : Nat} (hn : n = min xs.length ys.length) : Walk (RZ.ItzT K a b) n (fun H => SqT K H a xs ∧ SqT K H b ys) (YPair (fun i => xs[i]?) (fun i => ys[i]?)) := by
  subst hn
  refine ⟨fun i _ hi q => ?_, fun _ q => ⟨xs, ys, q.1, q.2, by omega⟩, fun i H v H' _ q y => ?_⟩
  · have h1 : i < xs.length := by omega
    have h2 : i < ys.length := by omega
    exact ⟨xs, ys, xs[i], ys[i], q.1, q.2, by simp [h1], by simp [h2]⟩
  · obtain ⟨T, x, z, h1, h2, h3, h4, h5⟩ := y
    exact ⟨T, x, z, h1, h2, h3, h4 xs q.1, h5 ys q.2⟩
def dZip (T : DA) : DA := fun η μ => (T η μ).bind fun ds μ1 => match ds with
  | [.tup xs, .tup ys] => .ok (zipD xs ys) μ1
  | [.lst xs, .lst ys] => .ok (zipD xs ys) μ1
  | _ => .bad
instance {t : TA} {T : DA} [a : SA K E t T] : SI K E (RZ.iZipA K t) (dZip T) := ⟨fun {X F σ H η ρ μ P R} w e h o =>
  a.run w e (wp_bind h) fun vs H1 ρ1 ds μ1 w1 g1 q1 h1 => by
    split at h1
    · cases q1 with
      | cons qa qb =>
        cases qb with
        | cons qb qc =>
          cases qc
          cases qa with
          | @tup a va xs na ea qa =>
            cases qb with
            | @tup b vb ys nb eb qb =>
              refine ⟨a, b, va, vb, rfl, .inr ⟨SqT.of ea, SqT.of eb, o _ H1 ρ1 _ μ1 w1 g1 (walk_pairs (n := min va.length vb.length) (walk_zipT rfl) ?_ (fun H k => ⟨SqT.of (k a _ ea na), SqT.of (k b _ eb nb)⟩) fun F' μ H hf g i x y hi ex ey => ?_) h1⟩⟩
              · rw [qa.len, qb.len]; simp [zipD]
              · obtain ⟨dx, e1, k1⟩ := (qa.off hf g).get ex
                obtain ⟨dy, e2, k2⟩ := (qb.off hf g).get ey
                exact ⟨dx, dy, zip_get e1 e2, k1, k2⟩
    · cases q1 with
      | cons qa qb =>
        cases qb with
        | cons qb qc =>
          cases qc
          cases qa with
          | @lst a va xs na ea qa =>
            cases qb with
            | @lst b vb ys nb eb qb =>
              refine ⟨a, b, va, vb, rfl, .inl ⟨SqL.of ea, SqL.of eb, o _ H1 ρ1 _ μ1 w1 g1 (walk_pairs (n := min va.length vb.length) (walk_zip rfl) ?_ (fun H k => ⟨SqL.of (k a _ ea na), SqL.of (k b _ eb nb)⟩) fun F' μ H hf g i x y hi ex ey => ?_) h1⟩⟩
              · rw [qa.len, qb.len]; simp [zipD]
              · obtain ⟨dx, e1, k1⟩ := (qa.off hf g).get ex
                obtain ⟨dy, e2, k2⟩ := (qb.off hf g).get ey
                exact ⟨dx, dy, zip_get e1 e2, k1, k2⟩
    · exact h1.elim⟩
/-! ### built-in calls -/
def rLenU (K : PySem.W.Frag) : List V → Hp → VK → Prop := fun xs H Q => (∃ p ys, xs = [.ref p] ∧ (SqL K H p ys ∨ SqT K H p ys) ∧ Q (.int ys.length) H) ∨ ∃ z, xs = [.str z] ∧ z.length ≤ sizeLine ∧ Q (.int z.length) H
theorem call_lenU {X : Cx} : CallR X (.builtin "len") (rLenU X.K) := call_len_seq.or call_len_str
def lenD (ds : List D) (μ : Mu) : Res D := match ds with
  | [.str z] => chk z.length (.ok (.int z.length) μ)
  | [d] => okO (seqOf μ d) fun xs => .ok (.int xs.length) μ
  | _ => .bad
theorem seqOf_at {F ρ : List Addr} {μ : Mu} {H : Hp} (w : Wd K F ρ μ H) {v : V} {d : D} {xs : List D} (h : Dt K F ρ H v d) (e : seqOf μ d = some xs) : ∃ a vs, v = .ref a ∧ (SqL K H a vs ∨ SqT K H a vs) ∧ DtAll K F ρ H vs xs := by
  by_cases ct : ∃ ys, d = .tup ys
  · obtain ⟨ys, rfl⟩ := ct
    cases e
    cases h with
    | tup na ea qa => exact ⟨_, _, rfl, .inr (SqT.of ea), qa⟩
  · have c' : asL μ d = some xs := by
      cases d <;> first | exact e | exact absurd ⟨_, rfl⟩ ct
    obtain ⟨a, vs, rfl, ea, qa⟩ := asL_at w h c'
    exact ⟨a, vs, rfl, .inl (SqL.of ea), qa⟩
instance : SC K (rLenU K) lenD := ⟨fun {X F H ρ μ vs ds P Q} w q h o => by
  unfold lenD at h
  split at h
  · cases q with
    | cons qa qb =>
      cases qb
      cases qa
      exact .inr ⟨_, rfl, (wp_chk h).1, o.here w (.int _) (wp_chk h).2⟩
  · cases q with
    | cons qa qb =>
      cases qb
      obtain ⟨xs, c, h⟩ := wp_okO h
      obtain ⟨a, vs, rfl, ea, qs⟩ := seqOf_at w qa c
      refine .inl ⟨a, vs, rfl, ea, ?_⟩
      rw [qs.len]
      exact o.here w (.int _) h
  · exact h.elim⟩
/-- a list of ints, of bools -/
def intsOf : List D → Option (List Int)
  | [] => some []
  | .int i :: r => (intsOf r).map (i :: ·)
  | _ => none
theorem intsOf_eq : ∀ {ds : List D} {ns : List Int}, intsOf ds = some ns → ds = ns.map D.int
  | [], ns, h => by cases h; rfl
  | d :: r, ns, h => by
    cases d with
    | int i =>
      unfold intsOf at h
      cases c : intsOf r with
      | none => rw [c] at h; cases h
      | some ms =>
        rw [c] at h
        cases h
        rw [intsOf_eq c]
        rfl
    | _ => cases h
@[simp] theorem intsOf_map : ∀ ns : List Int, intsOf (ns.map D.int) = some ns
  | [] => rfl
  | n :: r => by
    show (intsOf (r.map D.int)).map (n :: ·) = _
    rw [intsOf_map r]
    rfl
def blsOf : List D → Option (List Bool)
  | [] => some []
  | .bl i :: r => (blsOf r).map (i :: ·)
  | _ => none
theorem blsOf_eq : ∀ {ds : List D} {ns : List Bool}, blsOf ds = some ns → ds = ns.map D.bl
  | [], ns, h => by cases h; rfl
  | d :: r, ns, h => by
    cases d with
    | bl i =>
      unfold blsOf at h
      cases c : blsOf r with
      | none => rw [c] at h; cases h
      | some ms =>
        rw [c] at h
        cases h
        rw [blsOf_eq c]
        rfl
    | _ => cases h
@[simp] theorem blsOf_map : ∀ ns : List Bool, blsOf (ns.map D.bl) = some ns
  | [] => rfl
  | n :: r => by
    show (blsOf (r.map D.bl)).map (n :: ·) = _
    rw [blsOf_map r]
    rfl
def strsOf : List D → Option (List Str)
  | [] => some []
  | .str i :: r => (strsOf r).map (i :: ·)
  | _ => none
theorem strsOf_eq : ∀ {ds : List D} {ns : List Str}, strsOf ds = some ns → ds = ns.map D.str
  | [], ns, h => by cases h; rfl
  | d :: r, ns, h => by
    cases d with
    | str i =>
      unfold strsOf at h
      cases c : strsOf r with
      | none => rw [c] at h; cases h
      | some ms =>
        rw [c] at h
        cases h
        rw [strsOf_eq c]
        rfl
    | _ => cases h
@[simp] theorem strsOf_map : ∀ ns : List Str, strsOf (ns.map D.str) = some ns
  | [] => rfl
  | n :: r => by
    show (strsOf (r.map D.str)).map (n :: ·) = _
    rw [strsOf_map r]
    rfl
/-- sum of ints -/
def rSumT (K : PySem.W.Frag) : List V → Hp → VK → Prop := fun vs H Q => ∃ (a : Addr) (ns : List Int), vs = [V.ref a] ∧ SqT K H a (ns.map V.int) ∧ Q (.int ns.sum) H
theorem cr_sumT {X : Cx} (hc : X.calm = true) : CallR X (.builtin "sum") (rSumT X.K) := by
  intro pins s σ H vs us Q I r h
  obtain ⟨a, ns, rfl, hs, q⟩ := h
  obtain ⟨its, rv, hl, _⟩ := I.tuple hs
  rw [Vals.ref1 r]
  obtain ⟨xs, hx⟩ := rv.ints.allInts.items
  have hn : numsOf its.toArray.toList = ns := by rw [show its.toArray.toList = its from rfl, rv.ints.numsOf]
  have hl' : s.heap.IsTuple a its.toArray := hl
  rw [hx] at hl' hn
  rw [nums_intItems] at hn
  refine PySem.W.ktm_sumG (I.ok.hd hc) hl' fun h' tk t' hk => ?_
  rw [preSum_eq, List.take_of_length_le (by simp), hn]
  exact ⟨.int _, H, I.kept hk, ⟨_, rfl⟩, q⟩
def rSumU (K : PySem.W.Frag) : List V → Hp → VK → Prop := fun xs H Q => rSum K xs H Q ∨ rSumT K xs H Q
theorem call_sumU {X : Cx} (hc : X.calm = true) : CallR X (.builtin "sum") (rSumU X.K) := (cr_sum hc).or (cr_sumT hc)
def sumD (ds : List D) (μ : Mu) : Res D := match ds with
  | [d] => okO (seqOf μ d) fun xs => okO (intsOf xs) fun ns => .ok (.int ns.sum) μ
  | _ => .bad
instance : SC K (rSumU K) sumD := ⟨fun {X F H ρ μ vs ds P Q} w q h o => by
  unfold sumD at h
  split at h
  · cases q with
    | cons qa qb =>
      cases qb
      obtain ⟨xs, c, h1⟩ := wp_okO h
      obtain ⟨ns, c2, h2⟩ := wp_okO h1
      clear h h1
      have e := intsOf_eq c2
      subst e
      obtain ⟨a, vs, rfl, ea, qs⟩ := seqOf_at w qa c
      have z := qs.ints
      subst z
      rcases ea with ea | ea
      · exact .inl ⟨a, ns, rfl, ea, o.here w (.int _) h2⟩
      · exact .inr ⟨a, ns, rfl, ea, o.here w (.int _) h2⟩
  · exact h.elim⟩
def allD (ds : List D) (μ : Mu) : Res D := match ds with
  | [d] => okO (asL μ d) fun xs => okO (blsOf xs) fun bs => .ok (.bl (bs.all id)) μ
  | _ => .bad
instance : SC K (rAll K) allD := ⟨fun {X F H ρ μ vs ds P Q} w q h o => by
  unfold allD at h
  split at h
  · cases q with
    | cons qa qb =>
      cases qb
      obtain ⟨xs, c, h1⟩ := wp_okO h
      obtain ⟨ns, c2, h2⟩ := wp_okO h1
      clear h h1
      have e := blsOf_eq c2
      subst e
      obtain ⟨a, vs, rfl, ea, qs⟩ := asL_at w qa c
      have z := qs.bls
      subst z
      exact ⟨a, ns, rfl, SqL.of ea, o.here w (.bl _) h2⟩
  · exact h.elim⟩
def anyD (ds : List D) (μ : Mu) : Res D := match ds with
  | [d] => okO (asL μ d) fun xs => okO (blsOf xs) fun bs => .ok (.bl (bs.any id)) μ
  | _ => .bad
instance : SC K (rAny K) anyD := ⟨fun {X F H ρ μ vs ds P Q} w q h o => by
  unfold anyD at h
  split at h
  · cases q with
    | cons qa qb =>
      cases qb
      obtain ⟨xs, c, h1⟩ := wp_okO h
      obtain ⟨ns, c2, h2⟩ := wp_okO h1
      clear h h1
      have e := blsOf_eq c2
      subst e
      obtain ⟨a, vs, rfl, ea, qs⟩ := asL_at w qa c
      have z := qs.bls
      subst z
      exact ⟨a, ns, rfl, SqL.of ea, o.here w (.bl _) h2⟩
  · exact h.elim⟩
def rIntU : List V → Hp → VK → Prop := fun xs H Q => (∃ i, xs = [.int i] ∧ Q (.int i) H) ∨ ∃ k, xs = [.bl k] ∧ Q (.int (if k then 1 else 0)) H
theorem call_intU {X : Cx} : CallR X (.type "int") rIntU := call_int1
def intD (ds : List D) (μ : Mu) : Res D := match ds with
  | [.int i] => .ok (.int i) μ
  | [.bl k] => .ok (.int (if k then 1 else 0)) μ
  | _ => .bad
instance : SC K rIntU intD := ⟨fun {X F H ρ μ vs ds P Q} w q h o => by
  unfold intD at h
  split at h
  · cases q with
    | cons qa qb =>
      cases qb
      cases qa
      exact .inl ⟨_, rfl, o.here w (.int _) h⟩
  · cases q with
    | cons qa qb =>
      cases qb
      cases qa
      exact .inr ⟨_, rfl, o.here w (.int _) h⟩
  · exact h.elim⟩
def rTupU (K : PySem.W.Frag) : List V → Hp → VK → Prop := fun xs H Q => ∃ p ys, xs = [.ref p] ∧ ((SqL K H p ys ∧ ∀ l, H l = none → Q (.ref l) (upd H l (.tup ys))) ∨ (SqT K H p ys ∧ Q (.ref p) H))
theorem call_tupU {X : Cx} : CallR X (.type "tuple") (rTupU X.K) := call_tuple_of
def tupD (ds : List D) (μ : Mu) : Res D := match ds with
  | [.tup xs] => .ok (.tup xs) μ
  | [d] => okO (asL μ d) fun xs => .ok (.tup xs) μ
  | _ => .bad
instance : SC K (rTupU K) tupD := ⟨fun {X F H ρ μ vs ds P Q} w q h o => by
  unfold tupD at h
  split at h
  · cases q with
    | cons qa qb =>
      cases qb
      cases qa with
      | tup na ea qs => exact ⟨_, _, rfl, .inr ⟨SqT.of ea, o.here w (.tup na ea qs) h⟩⟩
  · cases q with
    | cons qa qb =>
      cases qb
      obtain ⟨xs, c, h⟩ := wp_okO h
      obtain ⟨a, vs, rfl, ea, qs⟩ := asL_at w qa c
      exact ⟨a, vs, rfl, .inl ⟨SqL.of ea, fun l hl => o.newT w qs h hl⟩⟩
  · exact h.elim⟩
def rListU (K : PySem.W.Frag) : List V → Hp → VK → Prop := fun xs H Q => ∃ p ys, xs = [.ref p] ∧ (SqL K H p ys ∨ SqT K H p ys) ∧ ∀ l, H l = none → Q (.ref l) (upd H l (.lst ys))
theorem call_listU {X : Cx} : CallR X (.type "list") (rListU X.K) := call_list_of
def listD (ds : List D) (μ : Mu) : Res D := match ds with
  | [d] => okO (seqOf μ d) fun xs => .ok (.lst xs) μ
  | _ => .bad
instance : SC K (rListU K) listD := ⟨fun {X F H ρ μ vs ds P Q} w q h o => by
  unfold listD at h
  split at h
  · cases q with
    | cons qa qb =>
      cases qb
      obtain ⟨xs, c, h⟩ := wp_okO h
      obtain ⟨a, vs, rfl, ea, qs⟩ := seqOf_at w qa c
      exact ⟨a, vs, rfl, ea, fun l hl => o.newL w qs h hl⟩
  · exact h.elim⟩
def rListM (K : PySem.W.Frag) : List V → Hp → VK → Prop := rListU K
theorem call_listM {X : Cx} : CallR X (.type "list") (rListM X.K) := call_list_of
def listMD (ds : List D) (μ : Mu) : Res D := match ds with
  | [d] => okO (seqOf μ d) fun xs => .ok (.cell μ.length) (μ ++ [.lst xs])
  | _ => .bad
instance : SC K (rListM K) listMD := ⟨fun {X F H ρ μ vs ds P Q} w q h o => by
  unfold listMD at h
  split at h
  · cases q with
    | cons qa qb =>
      cases qb
      obtain ⟨xs, c, h⟩ := wp_okO h
      obtain ⟨a, vs, rfl, ea, qs⟩ := seqOf_at w qa c
      exact ⟨a, vs, rfl, ea, fun l hl => o.newM w qs h hl⟩
  · exact h.elim⟩
/-! isinstance -/
def tyName (μ : Mu) : D → Option String
  | .non => some "NoneType"
  | .bl _ => some "bool"
  | .int _ => some "int"
  | .str _ => some "str"
  | .tup _ => some "tuple"
  | .lst _ => some "list"
  | .cell a => match μ[a]? with
    | some (.lst _) => some "list"
    | _ => none
  | _ => none
theorem tyName_at {F ρ : List Addr} {μ : Mu} {H : Hp} (w : Wd K F ρ μ H) {v : V} {d : D} {n : String} (h : Dt K F ρ H v d) (e : tyName μ d = some n) : TyX K H v (.type n) := by
  cases h with
  | non => cases e; exact .base .non
  | bl b => cases e; exact .base (.bl b)
  | int b => cases e; exact .base (.int b)
  | str b => cases e; exact .base (.str b)
  | tup na ea qs => cases e; exact .base (.tup ea)
  | lst na ea qs => cases e; exact .base (.lst ea)
  | @cell i a hm =>
    unfold tyName at e
    simp only at e
    cases c : μ[i]? with
    | none => rw [c] at e; cases e
    | some m =>
      rw [c] at e
      cases m with
      | lst xs =>
        cases e
        obtain ⟨vs, e1, q1⟩ := w.ok _ _ _ hm c
        exact .base (.lst e1)
      | _ => cases e
  | _ => cases e
/-- kinds of built-in classes: (of, asked) -/
def kindB : String → String → Option Bool
  | "bool", "bool" => some true
  | "bool", "int" => some true
  | "int", "int" => some true
  | "str", "str" => some true
  | "tuple", "tuple" => some true
  | "list", "list" => some true
  | m, n => if m ∈ ["NoneType", "bool", "int", "str", "tuple", "list"] ∧ n ∈ ["bool", "int", "str", "tuple", "list"] then some false else none
theorem kindB_ok {m n : String} {b : Bool} (h : kindB m n = some b) : kitB m n = some b := by
  unfold kindB at h
  split at h
  · cases h; decide +kernel
  · cases h; decide +kernel
  · cases h; decide +kernel
  · cases h; decide +kernel
  · cases h; decide +kernel
  · cases h; decide +kernel
  · rename_i n1 n2 n3 n4 n5 n6
    split at h
    · rename_i c
      cases h
      obtain ⟨c1, c2⟩ := c
      simp only [List.mem_cons, List.not_mem_nil, or_false] at c1 c2
      rcases c1 with rfl | rfl | rfl | rfl | rfl | rfl <;> rcases c2 with rfl | rfl | rfl | rfl | rfl <;> first | decide +kernel | exact absurd rfl (n1 rfl) | exact absurd rfl (n2 rfl) | exact absurd rfl (n3 rfl) | exact absurd rfl (n4 rfl) | exact absurd rfl (n5 rfl) | exact absurd rfl (n6 rfl)
    · cases h
def isiD (ds : List D) (μ : Mu) : Res D := match ds with
  | [d, .ty n] => okO (tyName μ d) fun m => okO (kindB m n) fun b => .ok (.bl b) μ
  | _ => .bad
instance : SC K (rIsi K) isiD := ⟨fun {X F H ρ μ vs ds P Q} w q h o => by
  unfold isiD at h
  split at h
  · rename_i d n
    cases q with
    | cons qa qb =>
      cases qb with
      | cons qb qc =>
        cases qc
        cases qb
        obtain ⟨m, c, h⟩ := wp_okO h
        obtain ⟨b, c2, h⟩ := wp_okO h
        exact ⟨_, _, _, _, b, rfl, .ty n, tyName_at w qa c, kit_ty (kindB_ok c2), o.here w (.bl b) h⟩
  · exact h.elim⟩
end
end
end DX

namespace DX
open PySem PySem.Spec PyProof.Rows L2
noncomputable section
/-! ### equality of data, as a test -/
mutual
def eqb : D → D → Bool
  | .non, .non => true
  | .bl a, .bl b => a == b
  | .int a, .int b => a == b
  | .str a, .str b => a == b
  | .ty a, .ty b => a == b
  | .cls a, .cls b => a == b
  | .fn a, .fn b => a == b
  | .tup xs, .tup ys => eqbs xs ys
  | .lst xs, .lst ys => eqbs xs ys
  | .cell i, .cell j => i == j
  | .obj c ns xs, .obj e ms ys => c == e && ns == ms && eqbs xs ys
  | .scr a, .scr b => a == b
  | .dK a xs, .dK b ys => decide (a = b) && eqbs xs ys
  | .dT a xs, .dT b ys => decide (a = b) && eqbs xs ys
  | .exn c ns xs, .exn e ms ys => c == e && ns == ms && eqbs xs ys
  | _, _ => false
def eqbs : List D → List D → Bool
  | [], [] => true
  | x :: r, y :: t => eqb x y && eqbs r t
  | _, _ => false
end
mutual
theorem eqb_eq : ∀ (a b : D), eqb a b = true → a = b
  | .non, b, h => by cases b <;> first | rfl | (simp [eqb] at h)
  | .bl a, b, h => by cases b <;> simp_all [eqb]
  | .int a, b, h => by cases b <;> simp_all [eqb]
  | .str a, b, h => by cases b <;> simp_all [eqb]
  | .ty a, b, h => by cases b <;> simp_all [eqb]
  | .cls a, b, h => by cases b <;> simp_all [eqb]
  | .fn a, b, h => by cases b <;> simp_all [eqb]
  | .tup xs, b, h => by
    cases b with
    | tup ys => rw [eqbs_eq xs ys (by simpa [eqb] using h)]
    | _ => simp [eqb] at h
  | .lst xs, b, h => by
    cases b with
    | lst ys => rw [eqbs_eq xs ys (by simpa [eqb] using h)]
    | _ => simp [eqb] at h
  | .cell a, b, h => by cases b <;> simp_all [eqb]
  | .obj c ns xs, b, h => by
    cases b with
    | obj e ms ys =>
      have h' : (c = e ∧ ns = ms) ∧ eqbs xs ys = true := by simpa [eqb] using h
      rw [eqbs_eq xs ys h'.2, h'.1.1, h'.1.2]
    | _ => simp [eqb] at h
  | .scr a, b, h => by cases b <;> simp_all [eqb]
  | .dK a xs, b, h => by
    cases b with
    | dK e ys =>
      have h' : a = e ∧ eqbs xs ys = true := by simpa [eqb] using h
      rw [eqbs_eq xs ys h'.2, h'.1]
    | _ => simp [eqb] at h
  | .dT a xs, b, h => by
    cases b with
    | dT e ys =>
      have h' : a = e ∧ eqbs xs ys = true := by simpa [eqb] using h
      rw [eqbs_eq xs ys h'.2, h'.1]
    | _ => simp [eqb] at h
  | .exn c ns xs, b, h => by
    cases b with
    | exn e ms ys =>
      have h' : (c = e ∧ ns = ms) ∧ eqbs xs ys = true := by simpa [eqb] using h
      rw [eqbs_eq xs ys h'.2, h'.1.1, h'.1.2]
    | _ => simp [eqb] at h
theorem eqbs_eq : ∀ (a b : List D), eqbs a b = true → a = b
  | [], b, h => by cases b <;> first | rfl | (simp [eqbs] at h)
  | x :: r, b, h => by
    cases b with
    | nil => simp [eqbs] at h
    | cons y t =>
      have h' : eqb x y = true ∧ eqbs r t = true := by simpa [eqbs] using h
      rw [eqb_eq x y h'.1, eqbs_eq r t h'.2]
end
mutual
theorem eqb_refl : ∀ a : D, eqb a a = true
  | .non => by simp [eqb]
  | .bl a => by simp [eqb]
  | .int a => by simp [eqb]
  | .str a => by simp [eqb]
  | .ty a => by simp [eqb]
  | .cls a => by simp [eqb]
  | .fn a => by simp [eqb]
  | .tup xs => by simp [eqb, eqbs_refl xs]
  | .lst xs => by simp [eqb, eqbs_refl xs]
  | .cell a => by simp [eqb]
  | .obj c ns xs => by simp [eqb, eqbs_refl xs]
  | .scr a => by simp [eqb]
  | .dK a xs => by simp [eqb, eqbs_refl xs]
  | .dT a xs => by simp [eqb, eqbs_refl xs]
  | .exn c ns xs => by simp [eqb, eqbs_refl xs]
theorem eqbs_refl : ∀ a : List D, eqbs a a = true
  | [] => by simp [eqbs]
  | x :: r => by simp [eqbs, eqb_refl x, eqbs_refl r]
end
def eqbM : MO → MO → Bool
  | .lst xs, .lst ys => eqbs xs ys
  | .ins c ns xs, .ins e ms ys => c == e && ns == ms && eqbs xs ys
  | .dK a xs, .dK b ys => decide (a = b) && eqbs xs ys
  | .dT a xs, .dT b ys => decide (a = b) && eqbs xs ys
  | .tbl a x, .tbl b y => a == b && x == y
  | _, _ => false
theorem eqbM_eq : ∀ (a b : MO), eqbM a b = true → a = b
  | .lst xs, b, h => by
    cases b with
    | lst ys => rw [eqbs_eq xs ys (by simpa [eqbM] using h)]
    | _ => simp [eqbM] at h
  | .ins c ns xs, b, h => by
    cases b with
    | ins e ms ys =>
      have h' : (c = e ∧ ns = ms) ∧ eqbs xs ys = true := by simpa [eqbM] using h
      rw [eqbs_eq xs ys h'.2, h'.1.1, h'.1.2]
    | _ => simp [eqbM] at h
  | .dK a xs, b, h => by
    cases b with
    | dK e ys =>
      have h' : a = e ∧ eqbs xs ys = true := by simpa [eqbM] using h
      rw [eqbs_eq xs ys h'.2, h'.1]
    | _ => simp [eqbM] at h
  | .dT a xs, b, h => by
    cases b with
    | dT e ys =>
      have h' : a = e ∧ eqbs xs ys = true := by simpa [eqbM] using h
      rw [eqbs_eq xs ys h'.2, h'.1]
    | _ => simp [eqbM] at h
  | .tbl a x, b, h => by cases b <;> simp_all [eqbM]
theorem eqbM_refl : ∀ a : MO, eqbM a a = true
  | .lst xs => by simp [eqbM, eqbs_refl]
  | .ins c ns xs => by simp [eqbM, eqbs_refl]
  | .dK a xs => by simp [eqbM, eqbs_refl]
  | .dT a xs => by simp [eqbM, eqbs_refl]
  | .tbl a x => by simp [eqbM]
/-! ### what is made in a def and let go -/
mutual
/-- no cell from n on is in it -/
def nn (n : Nat) : D → Bool
  | .tup xs => nns n xs
  | .lst xs => nns n xs
  | .cell b => decide (b < n)
  | .obj _ _ ds => nns n ds
  | .dK _ ds => nns n ds
  | .dT _ ds => nns n ds
  | .exn _ _ ds => nns n ds
  | .non => true
  | .bl _ => true
  | .int _ => true
  | .str _ => true
  | .ty _ => true
  | .cls _ => true
  | .fn _ => true
  | .scr _ => true
def nns (n : Nat) : List D → Bool
  | [] => true
  | x :: r => nn n x && nns n r
end
def nnM (n : Nat) : MO → Bool
  | .lst xs => nns n xs
  | .ins _ _ xs => nns n xs
  | .dK _ xs => nns n xs
  | .dT _ xs => nns n xs
  | .tbl _ _ => true
section
variable {K : PySem.W.Frag}
mutual
theorem nn_drop {F ρ : List Addr} {H : Hp} {n : Nat} : ∀ (d : D) {v : V}, nn n d = true → Dt K F ρ H v d → Dt K F (ρ.take n) H v d
  | .non, v, _, q => by cases q; exact .non
  | .bl b, v, _, q => by cases q; exact .bl b
  | .int b, v, _, q => by cases q; exact .int b
  | .str b, v, _, q => by cases q; exact .str b
  | .ty b, v, _, q => by cases q; exact .ty b
  | .cls b, v, _, q => by cases q; exact .cls b
  | .fn b, v, _, q => by cases q; exact .fn b
  | .tup xs, v, h, q => by
    cases q with
    | tup na e qs => exact .tup (app_not (not_app na).1 fun z => (not_app na).2 (List.mem_of_mem_take z)) e (nns_drop xs (by simpa [nn] using h) qs)
  | .lst xs, v, h, q => by
    cases q with
    | lst na e qs => exact .lst (app_not (not_app na).1 fun z => (not_app na).2 (List.mem_of_mem_take z)) e (nns_drop xs (by simpa [nn] using h) qs)
  | .cell b, v, h, q => by
    cases q with
    | cell e =>
      have hb : b < n := by simpa [nn] using h
      exact .cell (by rw [List.getElem?_take, if_pos hb]; exact e)
  | .obj c ns ds, v, h, q => by
    cases q with
    | obj na e l qs => exact .obj (app_not (not_app na).1 fun z => (not_app na).2 (List.mem_of_mem_take z)) e l (nns_drop ds (by simpa [nn] using h) qs)
  | .scr ns, v, h, q => by
    cases q with
    | scr e =>
      refine .scr ?_
      rcases e with ⟨na, e⟩ | e
      · exact .inl ⟨app_not (not_app na).1 fun z => (not_app na).2 (List.mem_of_mem_take z), e⟩
      · exact .inr e
  | .dK ks ds, v, h, q => by
    cases q with
    | dK na e l qs => exact .dK (app_not (not_app na).1 fun z => (not_app na).2 (List.mem_of_mem_take z)) e l (nns_drop ds (by simpa [nn] using h) qs)
  | .dT ks ds, v, h, q => by
    cases q with
    | dT na e l qs => exact .dT (app_not (not_app na).1 fun z => (not_app na).2 (List.mem_of_mem_take z)) e l (nns_drop ds (by simpa [nn] using h) qs)
  | .exn c ns ds, v, h, q => by
    cases q with
    | exn na nb e e2 l qs => exact .exn (app_not (not_app na).1 fun z => (not_app na).2 (List.mem_of_mem_take z)) (app_not (not_app nb).1 fun z => (not_app nb).2 (List.mem_of_mem_take z)) e e2 l (nns_drop ds (by simpa [nn] using h) qs)
theorem nns_drop {F ρ : List Addr} {H : Hp} {n : Nat} : ∀ (ds : List D) {vs : List V}, nns n ds = true → DtAll K F ρ H vs ds → DtAll K F (ρ.take n) H vs ds
  | [], vs, _, q => by cases q; exact .nil
  | x :: r, vs, h, q => by
    have h' : nn n x = true ∧ nns n r = true := by simpa [nns] using h
    cases q with
    | cons a b => exact .cons (nn_drop x h'.1 a) (nns_drop r h'.2 b)
end
mutual
theorem nn_of {F ρ : List Addr} {H : Hp} : ∀ (d : D) {v : V}, Dt K F ρ H v d → nn ρ.length d = true
  | .non, v, q => by simp [nn]
  | .bl b, v, q => by simp [nn]
  | .int b, v, q => by simp [nn]
  | .str b, v, q => by simp [nn]
  | .ty b, v, q => by simp [nn]
  | .cls b, v, q => by simp [nn]
  | .fn b, v, q => by simp [nn]
  | .tup xs, v, q => by
    cases q with
    | tup na e qs => simp [nn, nns_of xs qs]
  | .lst xs, v, q => by
    cases q with
    | lst na e qs => simp [nn, nns_of xs qs]
  | .cell b, v, q => by
    cases q with
    | cell e => simp [nn, (List.getElem?_eq_some_iff.mp e).1]
  | .obj c ns ds, v, q => by
    cases q with
    | obj na e l qs => simp [nn, nns_of ds qs]
  | .scr ns, v, q => by simp [nn]
  | .dK ks ds, v, q => by
    cases q with
    | dK na e l qs => simp [nn, nns_of ds qs]
  | .dT ks ds, v, q => by
    cases q with
    | dT na e l qs => simp [nn, nns_of ds qs]
  | .exn c ns ds, v, q => by
    cases q with
    | exn na nb e e2 l qs => simp [nn, nns_of ds qs]
theorem nns_of {F ρ : List Addr} {H : Hp} : ∀ (ds : List D) {vs : List V}, DtAll K F ρ H vs ds → nns ρ.length ds = true
  | [], vs, q => by simp [nns]
  | x :: r, vs, q => by
    cases q with
    | cons a b => simp [nns, nn_of x a, nns_of r b]
end
theorem nnM_of {F ρ : List Addr} {H : Hp} {a : Addr} {m : MO} (h : MOk K F ρ H a m) : nnM ρ.length m = true := by
  cases m with
  | lst ds => obtain ⟨vs, e, r⟩ := h; exact nns_of ds r
  | ins C ns ds => obtain ⟨dx, vs, e, l, r⟩ := h; exact nns_of ds r
  | dK ks ds => obtain ⟨vs, e, l, r⟩ := h; exact nns_of ds r
  | dT ks ds => obtain ⟨vs, e, l, r⟩ := h; exact nns_of ds r
  | tbl x nm => rfl
theorem nnM_drop {F ρ : List Addr} {H : Hp} {a : Addr} {n : Nat} {m : MO} (hn : nnM n m = true) (h : MOk K F ρ H a m) : MOk K F (ρ.take n) H a m := by
  cases m with
  | lst ds => obtain ⟨vs, e, r⟩ := h; exact ⟨vs, e, nns_drop ds hn r⟩
  | ins C ns ds => obtain ⟨dx, vs, e, l, r⟩ := h; exact ⟨dx, vs, e, l, nns_drop ds hn r⟩
  | dK ks ds => obtain ⟨vs, e, l, r⟩ := h; exact ⟨vs, e, l, nns_drop ds hn r⟩
  | dT ks ds => obtain ⟨vs, e, l, r⟩ := h; exact ⟨vs, e, l, nns_drop ds hn r⟩
  | tbl x nm =>
    obtain ⟨ea, ps, e, l, r⟩ := h
    refine ⟨ea, ps, e, l, fun pos cv hc => ?_⟩
    obtain ⟨c, e1, e2, e3⟩ := r pos cv hc
    exact ⟨c, e1, app_not (not_app e2).1 fun z => (not_app e2).2 (List.mem_of_mem_take z), e3⟩
/-- things of a def's own become data that stands still -/
def frz (n : Nat) (μ : Mu) : Nat → D → Option D
  | 0, d => if nn n d = true then some d else none
  | k + 1, d => if nn n d = true then some d else match d with
    | .tup xs => (xs.mapM (frz n μ k)).map .tup
    | .lst xs => (xs.mapM (frz n μ k)).map .lst
    | .obj c ns xs => (xs.mapM (frz n μ k)).map (.obj c ns)
    | .cell i => match μ[i]? with
      | some (.lst xs) => (xs.mapM (frz n μ k)).map .lst
      | some (.ins c ns xs) => (xs.mapM (frz n μ k)).map (.obj c ns)
      | some (.dK ks xs) => (xs.mapM (frz n μ k)).map (.dK ks)
      | some (.dT ks xs) => (xs.mapM (frz n μ k)).map (.dT ks)
      | some (.tbl _ _) => none
      | none => none
    | _ => none
theorem mapM_ok {F ρ ρ' : List Addr} {H : Hp} {f : D → Option D} (hf : ∀ d d' v, f d = some d' → Dt K F ρ H v d → Dt K F ρ' H v d') : ∀ (ds ds' : List D) {vs : List V}, ds.mapM f = some ds' → DtAll K F ρ H vs ds → DtAll K F ρ' H vs ds'
  | [], ds', vs, h, q => by
    cases q
    have e : ds' = [] := by simpa using h.symm
    subst e
    exact .nil
  | x :: r, ds', vs, h, q => by
    rw [List.mapM_cons] at h
    cases c : f x with
    | none => rw [c] at h; cases h
    | some y =>
      rw [c] at h
      cases c2 : r.mapM f with
      | none => rw [c2] at h; cases h
      | some ys =>
        rw [c2] at h
        cases h
        cases q with
        | cons a b => exact .cons (hf _ _ _ c a) (mapM_ok hf r ys c2 b)
theorem take_off {ρ : List Addr} {n i : Nat} {a : Addr} (nd : ρ.Nodup) (h : ρ[i]? = some a) (hi : n ≤ i) : a ∉ ρ.take n := fun z => by
  obtain ⟨j, hj, e⟩ := List.mem_iff_getElem.mp z
  have hj' : (ρ.take n)[j]? = some a := by rw [List.getElem?_eq_getElem hj, e]
  rw [List.length_take] at hj
  rw [List.getElem?_take, if_pos (by omega)] at hj'
  have := nodup_at nd h hj'
  omega
theorem frz_ok {F ρ : List Addr} {μ : Mu} {H : Hp} {n : Nat} (w : Wd K F ρ μ H) : ∀ (k : Nat) (d d' : D) (v : V), frz n μ k d = some d' → Dt K F ρ H v d → Dt K F (ρ.take n) H v d'
  | 0, d, d', v, h, q => by
    unfold frz at h
    split at h
    · rename_i c
      cases h
      exact nn_drop d c q
    · cases h
  | k + 1, d, d', v, h, q => by
    unfold frz at h
    split at h
    · rename_i c
      cases h
      exact nn_drop d c q
    · rename_i cn
      have sub : ∀ {a : Addr}, a ∉ F ++ ρ → a ∉ F ++ ρ.take n := fun na => app_not (not_app na).1 fun z => (not_app na).2 (List.mem_of_mem_take z)
      have go : ∀ {xs : List D} {f : List D → D}, (xs.mapM (frz n μ k)).map f = some d' → ∃ ys, xs.mapM (frz n μ k) = some ys ∧ f ys = d' := fun {xs f} e => by
        cases c : xs.mapM (frz n μ k) with
        | none => rw [c] at e; cases e
        | some ys => rw [c] at e; exact ⟨ys, rfl, Option.some.inj e⟩
      cases d with
      | tup xs =>
        obtain ⟨ys, e, rfl⟩ := go h
        cases q with
        | tup na ea qs => exact .tup (sub na) ea (mapM_ok (fun d d' v => frz_ok w k d d' v) xs ys e qs)
      | lst xs =>
        obtain ⟨ys, e, rfl⟩ := go h
        cases q with
        | lst na ea qs => exact .lst (sub na) ea (mapM_ok (fun d d' v => frz_ok w k d d' v) xs ys e qs)
      | obj c ns xs =>
        obtain ⟨ys, e, rfl⟩ := go h
        cases q with
        | obj na ea l qs => exact .obj (sub na) ea l (mapM_ok (fun d d' v => frz_ok w k d d' v) xs ys e qs)
      | cell i =>
        cases q with
        | @cell _ a ha =>
          have hi : n ≤ i := by
            have : ¬ i < n := fun z => cn (by simp [nn, z])
            omega
          have off : a ∉ F ++ ρ.take n := app_not (w.apart a (List.mem_of_getElem? ha)) (take_off w.nd ha hi)
          cases c : μ[i]? with
          | none => simp only [c] at h; cases h
          | some m =>
            have ok := w.ok i a m ha c
            cases m with
            | lst xs =>
              simp only [c] at h
              obtain ⟨ys, e, rfl⟩ := go h
              obtain ⟨vs, e1, r⟩ := ok
              exact .lst off e1 (mapM_ok (fun d d' v => frz_ok w k d d' v) xs ys e r)
            | ins cc ns xs =>
              simp only [c] at h
              obtain ⟨ys, e, rfl⟩ := go h
              obtain ⟨dx, vs, e1, l, r⟩ := ok
              exact .obj off e1 l (mapM_ok (fun d d' v => frz_ok w k d d' v) xs ys e r)
            | dK ks xs =>
              simp only [c] at h
              obtain ⟨ys, e, rfl⟩ := go h
              obtain ⟨vs, e1, l, r⟩ := ok
              exact .dK off e1 l (mapM_ok (fun d d' v => frz_ok w k d d' v) xs ys e r)
            | dT ks xs =>
              simp only [c] at h
              obtain ⟨ys, e, rfl⟩ := go h
              obtain ⟨vs, e1, l, r⟩ := ok
              exact .dT off e1 l (mapM_ok (fun d d' v => frz_ok w k d d' v) xs ys e r)
            | tbl x nm => simp only [c] at h; cases h
      | _ => cases h
/-- the store as far as it was there before: as it was, or without anything new in it -/
def sameMu : Mu → Mu → Bool
  | [], [] => true
  | x :: r, y :: t => eqbM x y && sameMu r t
  | _, _ => false
theorem sameMu_eq : ∀ (a b : Mu), sameMu a b = true → a = b
  | [], [], _ => rfl
  | [], _ :: _, h => by simp [sameMu] at h
  | _ :: _, [], h => by simp [sameMu] at h
  | x :: r, y :: t, h => by
    have h' : eqbM x y = true ∧ sameMu r t = true := by simpa [sameMu] using h
    rw [eqbM_eq x y h'.1, sameMu_eq r t h'.2]
theorem sameMu_refl : ∀ a : Mu, sameMu a a = true
  | [] => rfl
  | x :: r => by simp [sameMu, eqbM_refl, sameMu_refl r]
def keepMu (μ0 μ : Mu) : Bool := sameMu (μ.take μ0.length) μ0 || (μ.take μ0.length).all (nnM μ0.length)
def fz (μ0 : Mu) (r : Res D) : Res D := match r with
  | .ok d μ => if μ.length ≤ μ0.length then .ok d μ else if keepMu μ0 μ = true then okO (frz μ0.length μ 8 d) fun d' => .ok d' (μ.take μ0.length) else .bad
  | .exc e μ => if μ.length ≤ μ0.length then .exc e μ else if keepMu μ0 μ = true then okO (e.ds.mapM (frz μ0.length μ 8)) fun ds => .exc ⟨e.cls, e.ns, ds⟩ (μ.take μ0.length) else .bad
  | .bad => .bad
section
variable {F ρ0 ρ : List Addr} {μ0 μ : Mu} {H0 H : Hp} {P : D → Mu → Prop} {X : Exn → Mu → Prop} {Q : VK} {E : XK}
theorem take_base (w0 : Wd K F ρ0 μ0 H0) (g : Grow ρ0 ρ H0 H) : ρ.take μ0.length = ρ0 := by
  obtain ⟨t, e⟩ := g.ext
  rw [e, ← w0.len, List.take_left]
theorem keep_wd (w0 : Wd K F ρ0 μ0 H0) (w : Wd K F ρ μ H) (g : Grow ρ0 ρ H0 H) (h : keepMu μ0 μ = true) : Wd K F ρ0 (μ.take μ0.length) H := by
  have e := take_base w0 g
  have hl : ρ0.length ≤ ρ.length := by
    obtain ⟨t, e⟩ := g.ext
    rw [e, List.length_append]
    omega
  refine ⟨w.fs, ?_, w0.nd, fun a ha => w.apart a (g.sub a ha), fun i a m hi hm => ?_⟩
  · rw [List.length_take, ← w.len, ← w0.len]
    omega
  · have il := (List.getElem?_eq_some_iff.mp hi).1
    have hm' : μ[i]? = some m := by
      rw [List.getElem?_take, if_pos (by rw [← w0.len]; exact il)] at hm
      exact hm
    have ok := w.ok i a m (g.at_ hi) hm'
    rw [← e]
    refine nnM_drop ?_ ok
    rcases Bool.or_eq_true_iff.mp h with h | h
    · have ee := sameMu_eq _ _ h
      rw [ee] at hm
      rw [← w0.len]
      exact nnM_of (w0.ok i a m hi hm)
    · exact List.all_eq_true.mp h m (List.mem_of_getElem? hm)
theorem grow_base (w0 : Wd K F ρ0 μ0 H0) (g : Grow ρ0 ρ H0 H) : Grow ρ0 ρ0 H0 H := ⟨g.keep, ⟨[], by simp⟩, fun _ h n => absurd h n⟩
theorem fz_ok {d : D} {v : V} (w0 : Wd K F ρ0 μ0 H0) (o : Out K F ρ0 H0 P Q) (h : wp (fz μ0 (.ok d μ)) P X) (w : Wd K F ρ μ H) (g : Grow ρ0 ρ H0 H) (q : Dt K F ρ H v d) : Q v H := by
  unfold fz at h
  simp only at h
  split at h
  · exact o v H ρ d μ w g q h
  · split at h
    · rename_i c
      obtain ⟨d', e, h⟩ := wp_okO h
      have q' := frz_ok w 8 d d' v e q
      rw [take_base w0 g] at q'
      exact o v H ρ0 d' _ (keep_wd w0 w g c) (grow_base w0 g) q' h
    · exact h.elim
theorem fz_exc {e : Exn} {dd : Addr} {vs : List V} (w0 : Wd K F ρ0 μ0 H0) (x : XOut0 K E X F ρ0 H0) (h : wp (fz μ0 (.exc e μ)) P X) (w : Wd K F ρ μ H) (g : Grow ρ0 ρ H0 H) (hd : H dd = some (.xd (e.ns.zip vs))) (nd : dd ∉ F ++ ρ) (l : e.ns.length = vs.length) (q : DtAll K F ρ H vs e.ds) :
    E (.ref (He.ga K e.cls)) (some dd) H := by
  unfold fz at h
  simp only at h
  split at h
  · exact x e dd H ρ μ vs w g hd nd l q h
  · split at h
    · rename_i c
      obtain ⟨ds, ee, h⟩ := wp_okO h
      have q' := mapM_ok (fun d d' v => frz_ok w 8 d d' v) e.ds ds ee q
      rw [take_base w0 g] at q'
      exact x ⟨e.cls, e.ns, ds⟩ dd H ρ0 _ vs (keep_wd w0 w g c) (grow_base w0 g) hd (app_not (not_app nd).1 fun z => (not_app nd).2 (g.sub _ z)) l q' h
    · exact h.elim
end
/-! ### defs -/
/-- the end of a def -/
def SR.run : SR → Res D
  | .nx _ μ => .ok .non μ
  | .rt d μ => .ok d μ
  | .exc e _ μ => .exc e μ
  | _ => .bad
/-- fin: what becomes of the store at the end -/
structure Fnl (fin : Mu → Res D → Res D) : Prop where
  bad : ∀ μ, fin μ .bad = .bad
  ok : ∀ {K : PySem.W.Frag} {F ρ0 ρ : List Addr} {μ0 μ : Mu} {H0 H : Hp} {P : D → Mu → Prop} {X : Exn → Mu → Prop} {Q : VK} {d : D} {v : V}, Wd K F ρ0 μ0 H0 → Out K F ρ0 H0 P Q → wp (fin μ0 (.ok d μ)) P X → Wd K F ρ μ H → Grow ρ0 ρ H0 H → Dt K F ρ H v d → Q v H
  exc : ∀ {K : PySem.W.Frag} {F ρ0 ρ : List Addr} {μ0 μ : Mu} {H0 H : Hp} {P : D → Mu → Prop} {X : Exn → Mu → Prop} {E : XK} {e : Exn} {dd : Addr} {vs : List V}, Wd K F ρ0 μ0 H0 → XOut0 K E X F ρ0 H0 → wp (fin μ0 (.exc e μ)) P X → Wd K F ρ μ H → Grow ρ0 ρ H0 H → H dd = some (.xd (e.ns.zip vs)) → dd ∉ F ++ ρ → e.ns.length = vs.length → DtAll K F ρ H vs e.ds → E (.ref (He.ga K e.cls)) (some dd) H
theorem fin_fz : Fnl fz := ⟨fun _ => rfl, fz_ok, fz_exc⟩
def kp (_ : Mu) (r : Res D) : Res D := r
theorem fin_kp : Fnl kp := ⟨fun _ => rfl, fun w0 o h w g q => o _ _ _ _ _ w g q h, fun w0 x h w g a b c d => x _ _ _ _ _ _ w g a b c d h⟩
def env0 (n : Nat) (ds : List D) : Env := ds.map some ++ List.replicate (n - ds.length) none
def defR (fin : Mu → Res D → Res D) (np n : Nat) (T : DS) : FS := fun ds μ => if ds.length = np then fin μ (T (env0 n ds) μ).run else .bad
theorem env0_ok {F ρ : List Addr} {H : Hp} {N : List Str} {vs : List V} {ds : List D} (q : DtAll K F ρ H vs ds) : EnvOk0 K F ρ H (start N vs) (env0 N.length ds) where
  len := by
    unfold L2.start env0
    rw [List.length_append, List.length_append, List.length_map, List.length_map, List.length_replicate, List.length_replicate, q.len]
  ok := fun i d h => by
    unfold env0 at h
    unfold L2.start
    by_cases c : i < ds.length
    · rw [List.getElem?_append_left (by rw [List.length_map]; exact c), List.getElem?_map] at h
      cases e : ds[i]? with
      | none => rw [e] at h; cases h
      | some d' =>
        rw [e] at h
        cases h
        obtain ⟨v, hv, qd⟩ := q.getD e
        refine ⟨v, ?_, qd⟩
        rw [List.getElem?_append_left (by rw [List.length_map, q.len]; exact c), List.getElem?_map, hv]
        rfl
    · rw [List.getElem?_append_right (by rw [List.length_map]; omega), List.getElem?_replicate] at h
      split at h
      · cases h
      · cases h
/-- a body, from its run over data -/
theorem body_ok {fin : Mu → Res D → Res D} (hf : Fnl fin) {t : TS} {T : DS} {E : XK} [S : SS K (fun _ => E) t T] {F ρ : List Addr} {μ : Mu} {H : Hp} {N : List Str} {vs : List V} {ds : List D} {P : D → Mu → Prop} {X : Exn → Mu → Prop} {Q : VK}
    (w : Wd K F ρ μ H) (q : DtAll K F ρ H vs ds) (h : wp (fin μ (T (env0 N.length ds) μ).run) P X) (o : Out K F ρ H P Q) (x : XOut0 K E X F ρ H) : t { nx := fun _ H' => Q .non H', rt := Q } (start N vs) H := by
  have h' : wpS (T (env0 N.length ds) μ) { nx := fun _ μ' => wp (fin μ (.ok .non μ')) P X, rt := fun d μ' => wp (fin μ (.ok d μ')) P X } (fun e _ μ' => wp (fin μ (.exc e μ')) P X) := by
    revert h
    cases T (env0 N.length ds) μ <;> first | exact id | (intro h; have z : wp (fin μ .bad) P X := h; rw [hf.bad] at z; exact z.elim)
  refine S.run w ⟨env0_ok q, fun σ' η' e d H' ρ' μ' vs' w' _ g' a b c dd hx => hf.exc w x hx w' g' a b c dd⟩ h' ⟨?_, ?_, ?_, ?_⟩
  · exact fun σ' H' η' ρ' μ' w' e' g' h' => hf.ok w o h' w' g' .non
  · exact fun v H' ρ' d μ' w' g' q' h' => hf.ok w o h' w' g' q'
  · exact fun σ' H' η' ρ' μ' w' e' g' h' => h'.elim
  · exact fun σ' H' η' ρ' μ' w' e' g' h' => h'.elim
variable {P : Program} {w : World} {mg : Str → Option Value} {base : Heap} {x qual : Str} {params : Arguments} {body : List Stmt} {scope : Scope} {dvs : List V} {kws : List (Str × V)} {f : Addr} {fd : FuncData}
/-- a body's derivation, whatever runs around it -/
abbrev BodyD (P : Program) (w : World) (K : PySem.W.Frag) (mg : Str → Option Value) (base : Heap) (N : List Str) (qual : Str) (scope : Scope) (f : Addr) (k : Nat) (body : List Stmt) (T : DS) : Prop :=
  ∀ (cdv : Value) (A : Around) (outer : List PySem.Env) (s : Shared) (H : Hp) (E : XK), Room k (A.deeper (envOfC qual scope s.heap.objs.size f cdv)) → ∃ t, PSs (cxOf (L2.CX P w) P w K mg base N qual scope f cdv A outer s H E) body t ∧ SS K (fun _ => E) t T
theorem fnOkD {fin : Mu → Res D → Res D} (hf : Fnl fin) {N ps : List Str} {k : Nat} {T : DS} (Fu : FunD K x qual params body scope dvs kws f fd) (S : FnScope N ps scope)
    (hbody : BodyD P w K mg base N qual scope f k body T) : FnOk P w K mg base (L2.CX P w) (k + 1) f fd ps (spD K (defR fin ps.length N.length T)) := by
  refine Fu.ok S (fun vs H Q E h => ?_) (fun cdv A outer s H vs Q E hr h => ?_)
  · obtain ⟨F, ρ, ds, μ, Q', X, _, q, hd, _⟩ := h
    unfold defR at hd
    split at hd
    · rename_i c
      exact q.len.trans c
    · exact hd.elim
  · obtain ⟨t, ht, hS⟩ := hbody cdv A outer s H E hr
    obtain ⟨F, ρ, ds, μ, Q', X, wd, q, hd, o, xo⟩ := h
    unfold defR at hd
    split at hd
    · exact ⟨t, ht, body_ok hf wd q hd o xo⟩
    · exact hd.elim
theorem fnD {fin : Mu → Res D → Res D} (hf : Fnl fin) {N ps : List Str} {k : Nat} {T : DS} (Fu : FunD K x qual params body scope dvs kws f fd) (S : FnScope N ps scope) (b : Binds K fd ps [])
    (hbody : BodyD P w K mg base N qual scope f k body T) : FnR P w K mg base (L2.CX P w) (k + 1) f (spD K (defR fin ps.length N.length T)) :=
  (FnOk.raw (fnOkD (P := P) (w := w) (mg := mg) (base := base) hf Fu S hbody) b .nil).imp fun vs H Q E h => by rw [List.append_nil]; exact h
/-- a def with a star parameter -/
def starR (n : Nat) (fs : FS) : FS := fun ds μ => if n ≤ ds.length ∧ ds.length ≤ 1000 then fs (ds.take n ++ [.tup (ds.drop n)]) μ else .bad
theorem fnStar {fin : Mu → Res D → Res D} (hf : Fnl fin) {N ps : List Str} {pv : Str} {k : Nat} {T : DS} (Fu : FunD K x qual params body scope [] [] f fd) (S : FnScope N (ps ++ [pv]) scope)
    (hb : ∀ (kV doc pm : Value) (an : Option Addr) (cdv ct : Value) (us rest : List Value), us.length = ps.length → bindArgs (PySem.W.fnOf x qual params body scope .none kV doc pm an cdv ct) ⟨us ++ rest, []⟩ = (newTuple rest >>= fun t => pure (ps.zip us ++ [(pv, t)])))
    (hbody : BodyD P w K mg base N qual scope f k body T) : FnR P w K mg base (L2.CX P w) (k + 1) f (spD K (starR ps.length (defR fin (ps.length + 1) N.length T))) := by
  obtain ⟨oc, od, dV, kV, doc, pm, an, cdv, ct, osl, rfl, lk, hcd, hdf, hkw⟩ := Fu.ex
  have ed : dV = .none := by
    rcases hdf with ⟨_, e⟩ | ⟨e, _⟩
    · exact e
    · exact absurd rfl e
  subst ed
  have raw := StX.fn_star (P := P) (w := w) (mg := mg) (base := base) (k := k) (sp := spD K (defR fin (ps.length + 1) N.length T)) lk hcd S StX.cxUp (hb kV doc pm an cdv ct) fun A outer s H vs Q E hr h => by
    obtain ⟨t, ht, hS⟩ := hbody cdv A outer s H E hr
    obtain ⟨F, ρ, ds, μ, Q', X, wd, q, hd, o, xo⟩ := h
    unfold defR at hd
    split at hd
    · exact ⟨t, ht, body_ok hf wd q hd o xo⟩
    · exact hd.elim
  refine raw.imp fun vs H Q E h => ?_
  obtain ⟨F, ρ, ds, μ, Q', X, wd, q, hd, o, xo⟩ := h
  unfold starR at hd
  split at hd
  · rename_i c
    refine ⟨vs.take ps.length, vs.drop ps.length, (List.take_append_drop _ _).symm, by rw [List.length_take, q.len]; omega, by rw [List.length_drop, q.len, sizeLine_eq]; omega, fun p hp => ?_⟩
    have g := Grow.fresh (ρ := ρ) (o := .tup (vs.drop ps.length)) hp
    refine ⟨F, ρ, _, μ, Q', X, wd.lay hp, ?_, hd, o.mono g, fun e d H' ρ' μ' vs' a b => xo e d H' ρ' μ' vs' a (g.trans b)⟩
    exact ((q.take _).mono g).app (.one (.tup (wd.fresh2 hp) upd_same ((q.drop _).mono g)))
  · exact hd.elim
/-! ### calls -/
structure Gd (K : PySem.W.Frag) (mg : Str → Option Value) (x : Str) (f : Addr) : Prop where
  mg : mg x = some (.ref f)
  kp : PySem.W.keepIn K (.ref f) = true
/-- a call by places; E: what is wished of exceptions, at the slots -/
def tCallX (sp : Sp) (E : L2.St → XK) (t : TA) : TE := fun σ H Q => t σ H fun vs H1 => sp vs H1 Q (E σ)
abbrev TkE (X : Cx) (E : L2.St → XK) : Prop := Takes X fun c d σ H => E σ c d H
end
section
variable {X : Cx} {k j : Nat} {f : Addr} {sp : Sp} {E : L2.St → XK} {x : Str} {p pos : Pos} {e : Expr} {es : List Expr} {t : TA}
theorem run_X {pins : List (Addr × Obj)} {σ : L2.St} {H : Hp} {s : Shared} {Q : VK} {us : List Value} {vs : List V} (F : FnR X.prog X.w X.K X.mg X.base (L2.CX X.prog X.w) k f sp) (hr : Room k X.A) (hx : TkE X E)
    (I : Inv X pins σ H s) (r : Vals vs us) (h : sp vs H Q (E σ)) : wpAny (model X.prog X.w) X.A (call (.ref f) us) (EP X pins σ Q) X.xe s := by
  refine wpAny_call (codeAny_mono (F X.A X.stack s H us vs Q (E σ) hr I.env0 r h) fun r s' hq => ?_)
  cases r with
  | error e => exact hx e s' (XE.of_call I (fun _ _ _ h => h) hq)
  | ok fl =>
    cases fl with
    | ret u => exact I.after hq
    | next => exact False.elim hq
    | brk => exact False.elim hq
    | cont => exact False.elim hq
theorem pe_callX (F : FnR X.prog X.w X.K X.mg X.base (L2.CX X.prog X.w) k f sp) (hg : Gd X.K X.mg x f) (hr : Room k X.A) (hx : TkE X E) (ha : PA X (e :: es) t) (hgl : Gl X x := by rfl)
    (hdb : (x == ("__debug__" : Str)) = false := by decide) (he : starEach (e :: es) X.env = (false, eval e X.env) :: starEach es X.env := by rfl) (hpl : (backTo pos (starEach es X.env)).any (·.1) = false := by rfl) :
    PE X (.Call (.Name x p) (e :: es) [] pos) (tCallX sp E t) := by
  refine ⟨fun pins s σ H Q I h => ?_⟩
  refine wpAny_Call_Name_kw (ld_glob I hgl hg.mg ?_ hdb)
  refine PySem.W.callWith_K (h₀ := X.base) I.ok.mod.kin hg.kp (thn (ha.run pos pins s σ H _ I h) fun us s1 ⟨vs, H1, I1, r, q⟩ => ⟨I1.kIn, ?_⟩) he hpl
  exact run_X F hr hx I1 r q
theorem pe_callX0 (F : FnR X.prog X.w X.K X.mg X.base (L2.CX X.prog X.w) k f sp) (hg : Gd X.K X.mg x f) (hr : Room k X.A) (hx : TkE X E) (hgl : Gl X x := by rfl)
    (hdb : (x == ("__debug__" : Str)) = false := by decide) : PE X (.Call (.Name x p) [] [] pos) (tCallX sp E tNil) := by
  refine ⟨fun pins s σ H Q I h => ?_⟩
  refine wpAny_Call_Name_kw (ld_glob I hgl hg.mg ?_ hdb)
  exact PySem.W.callWith_K0 I.kIn hg.kp (run_X (us := []) F hr hx I .nil h)
end
section
variable {K : PySem.W.Frag} {E : L2.St → XK}
instance {f : FS} {t : TA} {T : DA} [a : SA K E t T] : SE K E (tCallX (spD K f) E t) (dCB f T) := ⟨fun {X F σ H η ρ μ P Q} w e h o =>
  a.run w e (wp_bind h) fun vs H1 ρ1 ds μ1 w1 g1 q1 h1 => ⟨F, ρ1, ds, μ1, _, _, w1, q1, h1, o.mono g1, (e.mono g1).xo0⟩⟩
/-! methods of lists -/
def dAppend (To : DE) (T : DA) : DE := fun η μ => (To η μ).bind fun x μ1 => match x with
  | .cell a => match μ1[a]? with
    | some (.lst _) => (T η μ1).bind fun ds μ2 => match ds, μ2[a]? with
      | [d], some (.lst xs) => grd (xs.length < 16777216) (.ok .non (μ2.set a (.lst (xs ++ [d]))))
      | _, _ => .bad
    | _ => .bad
  | _ => .bad
instance {to : TE} {t : TA} {To : DE} {T : DA} [a : SE K E to To] [b : SA K E t T] : SE K E (tBM K "list" rAppend to t) (dAppend To T) := ⟨fun {X F σ H η ρ μ P Q} w e h o =>
  a.run w e (wp_bind h) fun x H1 ρ1 dx μ1 w1 g1 q1 h1 => by
    split at h1
    · rename_i i
      cases q1 with
      | @cell _ ad hi =>
        split at h1
        · rename_i ys c
          obtain ⟨vs0, e0, q0⟩ := w1.ok _ _ _ hi c
          refine ⟨.inl ⟨rfl, _, SqL.of e0⟩, ?_⟩
          refine b.run w1 (e.mono g1) (wp_bind h1) fun vs H2 ρ2 ds μ2 w2 g2 q2 h2 => ?_
          split at h2
          · rename_i d xs c2
            obtain ⟨hl, h3⟩ := wp_grd h2
            obtain ⟨vs1, e1, q3⟩ := w2.ok _ _ _ (g2.at_ hi) c2
            cases q2 with
            | @cons v1 _ _ _ qa qb =>
              cases qb
              have hm := g2.at_ hi
              have gp := Grow.put (ρ := ρ2) (H := H2) (a := ad) (o := .lst (vs1 ++ [v1])) (List.mem_of_getElem? hm)
              exact ⟨ad, vs1, v1, rfl, rfl, e1, by rw [q3.len, sizeLine_eq]; exact hl, (o.mono ((g1.trans g2).trans gp)).here (w2.put (m := .lst (xs ++ [d])) hm ⟨_, upd_same, (q3.app (.one qa)).mono gp⟩) .non h3⟩
          · exact h2.elim
        · exact h1.elim
    · exact h1.elim⟩
end
end
end DX

namespace DX
open PySem PySem.Spec PyProof.Rows L2
noncomputable section
/-! ### a, b = x, y -/
section
variable {K : PySem.W.Frag} {E : L2.St → XK}
def dPar (i j : Nat) (T : DA) : DS := fun η μ => (T η μ).to η fun ds μ1 => match ds with
  | [u, v] => .nx ((η.set i (some u)).set j (some v)) μ1
  | _ => .bad
instance {i j : Nat} {t : TA} {T : DA} [a : SA K E t T] : SS K E (tPar i j t) (dPar i j T) := ⟨fun w e h o =>
  a.run w e (wp_to h) fun vs H1 ρ1 ds μ1 w1 g1 q1 h1 => by
    split at h1
    · cases q1 with
      | cons qa qb =>
        cases qb with
        | cons qb qc =>
          cases qc
          exact ⟨_, _, rfl, o.nx _ _ _ _ _ w1 (((e.mono g1).set qa).set qb) g1 h1⟩
    · exact h1.elim⟩
def dPar3 (i j l : Nat) (T : DA) : DS := fun η μ => (T η μ).to η fun ds μ1 => match ds with
  | [u, v, x] => .nx (((η.set i (some u)).set j (some v)).set l (some x)) μ1
  | _ => .bad
instance {i j l : Nat} {t : TA} {T : DA} [a : SA K E t T] : SS K E (tPar3 i j l t) (dPar3 i j l T) := ⟨fun w e h o =>
  a.run w e (wp_to h) fun vs H1 ρ1 ds μ1 w1 g1 q1 h1 => by
    split at h1
    · cases q1 with
      | cons qa qb =>
        cases qb with
        | cons qb qc =>
          cases qc with
          | cons qc qd =>
            cases qd
            exact ⟨_, _, _, rfl, o.nx _ _ _ _ _ w1 ((((e.mono g1).set qa).set qb).set qc) g1 h1⟩
    · exact h1.elim⟩
end
/-! ### the rules with the written part named -/
section
variable (K : PySem.W.Frag) {X : Cx}
theorem op_addK (hK : X.K = K) : OpR X (binaryOp .Add) (rAddU K) := by subst hK; exact op_addU
theorem op_mulK (hK : X.K = K) : OpR X (binaryOp .Mult) (rMulU K) := by subst hK; exact op_mulU
theorem op_ltK (hK : X.K = K) (hu : X.A.units + 64 < cLine) : OpR X (compareOp .Lt) (rLtU K) := by subst hK; exact op_ltU hu
theorem op_eqK (hK : X.K = K) (hu : X.A.units + 64 < cLine) : OpR X (compareOp .Eq) (rEqU K) := by subst hK; exact op_eqU hu
theorem op_neK (hK : X.K = K) (hu : X.A.units + 64 < cLine) : OpR X (compareOp .NotEq) (rNeU K) := by subst hK; exact op_neU hu
theorem ix_seqK (hK : X.K = K) : IxR X (rIx K) := by subst hK; exact ix_seq
theorem sl_K (hK : X.K = K) : SlR X (rSlU K) := by subst hK; exact sl_U
theorem call_lenK (hK : X.K = K) : CallR X (.builtin "len") (rLenU K) := by subst hK; exact call_lenU
theorem call_sumK (hK : X.K = K) (hc : X.calm = true) : CallR X (.builtin "sum") (rSumU K) := by subst hK; exact call_sumU hc
theorem call_allK (hK : X.K = K) (hc : X.calm = true) : CallR X (.builtin "all") (rAll K) := by subst hK; exact cr_all hc
theorem call_anyK (hK : X.K = K) (hc : X.calm = true) : CallR X (.builtin "any") (rAny K) := by subst hK; exact cr_any hc
theorem call_tupK (hK : X.K = K) : CallR X (.type "tuple") (rTupU K) := by subst hK; exact call_tupU
theorem call_listK (hK : X.K = K) : CallR X (.type "list") (rListU K) := by subst hK; exact call_listU
theorem call_listMK (hK : X.K = K) : CallR X (.type "list") (rListM K) := by subst hK; exact call_listM
theorem call_isiK' (hK : X.K = K) : CallR X (.builtin "isinstance") (rIsi K) := by subst hK; exact call_isi
theorem pi_seqK (hK : X.K = K) {tg l : Expr} {tl : TE} (hl : PE X l tl) : PI X tg l (iSeq K tl) := by subst hK; exact pi_seq hl
theorem pi_zipK (hK : X.K = K) {e e2 : Expr} {ta : TA} {p pos tpos : Pos} {elts : List Expr} {kk : Nat} (hg : Gl X "zip") (hm : X.mg "zip" = none) (ha : PA X [e, e2] ta)
    (hs : starEach [e, e2] X.env = (false, eval e X.env) :: starEach [e2] X.env := by rfl) (hpl : (backTo pos (starEach [e2] X.env)).any (·.1) = false := by rfl) :
    PI X (.Tuple elts kk tpos) (.Call (.Name "zip" p) [e, e2] [] pos) (RZ.iZipA K ta) := by subst hK; exact RZ.pi_zipA hg hm ha hs hpl
theorem pg_tupK (hK : X.K = K) {pos : Pos} {es : List Expr} {k : Nat} {t : TGs} {n : Nat} (hc : X.calm = true) (h : PGs X es t)
    (hn : (assignEach es X.env).length = n := by rfl) (hst : (assignEach es X.env).findIdx? (·.1) = none := by rfl) : PG X (.Tuple es k pos) (gTup K n t) := by subst hK; exact pg_tup hc h hn hst
theorem pg_unlK (hK : X.K = K) {pos : Pos} {es : List Expr} {k : Nat} {t : TGs} {n : Nat} (hc : X.calm = true) (h : PGs X es t)
    (hn : (assignEach es X.env).length = n := by rfl) (hst : (assignEach es X.env).findIdx? (·.1) = none := by rfl) : PG X (.Tuple es k pos) (gUnl K n t) := by subst hK; exact pg_unl hc h hn hst
theorem pe_appendK (hK : X.K = K) {o e : Expr} {apos cpos : Pos} {to : TE} {t : TA} (ho : PE X o to) (ha : PA X [e] t)
    (hbase : attributeBase o "append" X.env (eval o X.env) = eval o X.env := by rfl)
    (hfew : ((backTo cpos (starEach [e] X.env)).all (fun x => !x.1) && (backToKw cpos (keywordEach [] X.env)).all (fun x => x.1.isSome)
      && decide ([e].length + ([] : List Keyword).length + (if ([] : List Keyword).isEmpty then 0 else 1) < 30)) = true := by rfl)
    (hline : (apos.endLine == cpos.line) = true := by rfl) (hs : starEach [e] X.env = (false, eval e X.env) :: starEach [] X.env := by rfl) (hplain : (backTo cpos (starEach [] X.env)).any (·.1) = false := by rfl) :
    PE X (.Call (.Attribute o "append" apos) [e] [] cpos) (tBM K "list" rAppend to t) := by
  subst hK
  exact pe_bm PySem.F.plainAttrs_list PySem.F.slot_list_append PySem.F.type_list_append mt_append ho ha hbase hfew hline hs hplain
end
/-! ### instances: their attributes -/
def asI (μ : Mu) : D → Option (Str × List Str × List D)
  | .obj C ns ds => some (C, ns, ds)
  | .cell a => match μ[a]? with
    | some (.ins C ns ds) => some (C, ns, ds)
    | _ => none
  | _ => none
def getF (f : Str) : List Str → List D → Option D
  | n :: ns, d :: ds => if f = n then some d else getF f ns ds
  | _, _ => none
def putN (f : Str) : List Str → List Str
  | [] => [f]
  | n :: ns => if n = f then n :: ns else n :: putN f ns
def putD (f : Str) (x : D) : List Str → List D → List D
  | n :: ns, d :: ds => if n = f then x :: ds else d :: putD f x ns ds
  | _, _ => [x]
def putV (f : Str) (x : V) : List Str → List V → List V
  | n :: ns, d :: ds => if n = f then x :: ds else d :: putV f x ns ds
  | _, _ => [x]
section
variable {K : PySem.W.Frag} {F ρ : List Addr} {H : Hp}
theorem asI_at {μ : Mu} (w : Wd K F ρ μ H) {v : V} {d : D} {c : Str} {ns : List Str} {ds : List D} (h : Dt K F ρ H v d) (e : asI μ d = some (c, ns, ds)) : ∃ a dx vs, v = .ref a ∧ H a = some (.ins (He.ga K c) dx (ns.zip vs)) ∧ ns.length = vs.length ∧ DtAll K F ρ H vs ds := by
  cases h with
  | obj n e1 l q =>
    cases e
    exact ⟨_, _, _, rfl, e1, l, q⟩
  | @cell a n hi =>
    unfold asI at e
    simp only at e
    cases c : μ[a]? with
    | none => rw [c] at e; cases e
    | some m =>
      rw [c] at e
      cases m with
      | ins C ns ds =>
        cases e
        obtain ⟨dx, vs, e1, l, q⟩ := w.ok _ _ _ hi c
        exact ⟨_, dx, vs, rfl, e1, l, q⟩
      | _ => cases e
  | _ => cases e
theorem getF_at {f : Str} {d : D} : ∀ {ns : List Str} {vs : List V} {ds : List D}, DtAll K F ρ H vs ds → getF f ns ds = some d → ∃ v, (ns.zip vs).lookup f = some v ∧ Dt K F ρ H v d
  | [], _, _, _, e => by cases e
  | n :: ns, _, _, .nil, e => by cases e
  | n :: ns, _, _, .cons (v := v) (vs := vs) q r, e => by
    unfold getF at e
    by_cases c : f = n
    · rw [if_pos c] at e
      cases e
      refine ⟨v, ?_, q⟩
      have hb : (f == n) = true := beq_iff_eq.mpr c
      simp only [List.zip_cons_cons, List.lookup, hb]
    · rw [if_neg c] at e
      obtain ⟨v', e1, q1⟩ := getF_at r e
      refine ⟨v', ?_, q1⟩
      have hb : (f == n) = false := beq_eq_false_iff_ne.mpr c
      simp only [List.zip_cons_cons, List.lookup, hb]
      exact e1
theorem look_no {m : Str} : ∀ {ns : List Str} {vs : List V}, m ∉ ns → (ns.zip vs).lookup m = none
  | [], _, _ => rfl
  | n :: ns, [], _ => rfl
  | n :: ns, v :: vs, h => by
    have hb : (m == n) = false := beq_eq_false_iff_ne.mpr fun z => h (by rw [z]; exact List.mem_cons_self)
    simp only [List.zip_cons_cons, List.lookup, hb]
    exact look_no fun z => h (List.mem_cons_of_mem _ z)
theorem putF_zip {f : Str} {x : V} : ∀ {ns : List Str} {vs : List V}, ns.length = vs.length → putF f x (ns.zip vs) = (putN f ns).zip (putV f x ns vs) ∧ (putN f ns).length = (putV f x ns vs).length
  | [], [], _ => ⟨rfl, rfl⟩
  | [], _ :: _, h => by cases h
  | _ :: _, [], h => by cases h
  | n :: ns, v :: vs, h => by
    have h' : ns.length = vs.length := Nat.succ.inj h
    simp only [List.zip_cons_cons, putF, putN, putV]
    by_cases c : n = f
    · rw [if_pos c, if_pos c, if_pos c]
      exact ⟨rfl, h⟩
    · rw [if_neg c, if_neg c, if_neg c]
      obtain ⟨e1, e2⟩ := putF_zip (f := f) (x := x) h'
      exact ⟨by rw [List.zip_cons_cons, e1], by rw [List.length_cons, List.length_cons, e2]⟩
theorem putV_all {f : Str} {x : V} {d : D} (q : Dt K F ρ H x d) : ∀ {ns : List Str} {vs : List V} {ds : List D}, DtAll K F ρ H vs ds → DtAll K F ρ H (putV f x ns vs) (putD f d ns ds)
  | [], _, _, h => by unfold putV putD; exact .one q
  | n :: ns, _, _, .nil => by unfold putV putD; exact .one q
  | n :: ns, _, _, .cons a t => by
    unfold putV putD
    by_cases c : n = f
    · rw [if_pos c, if_pos c]
      exact .cons q t
    · rw [if_neg c, if_neg c]
      exact .cons a (putV_all q t)
end
/-! ### attributes -/
section
variable {X : Cx} {C : Addr} {o e value : Expr} {f : Str} {pos pos' tpos : Pos} {ta tv : TE}
/-- e.f, e an instance of C -/
def tFldC (C : Addr) (ta : TE) (f : Str) : TE := fun σ H Q => ta σ H fun x H1 => ∃ a dx fs v, x = .ref a ∧ H1 a = some (.ins C dx fs) ∧ fs.lookup f = some v ∧ Q v H1
theorem pe_fldC (c : Cls X.K C) (n : NoAttr X.K C f) (he : PE X e ta) (hb : attributeBase e f X.env (eval e X.env) = eval e X.env := by rfl) : PE X (.Attribute e f pos) (tFldC C ta f) := by
  refine ⟨fun pins s σ H Q I h => ?_⟩
  refine attr_of hb (thn (he.run pins s σ H _ I h) fun u s1 ⟨x, H1, I1, rx, a, dx, fs, v, ex, ea, l, q⟩ => ?_)
  subst ex
  obtain rfl : u = Value.ref a := rx
  exact getattr_ok I1 ea c n l fun u' s2 I2 ru => ⟨v, H1, I2, ru, q⟩
def sFldC (C : Addr) (ta tv : TE) (f : Str) : TS := fun D σ H => tv σ H fun y H1 => ta σ H1 fun x H2 => ∃ a dx fs, x = .ref a ∧ H2 a = some (.ins C dx fs) ∧ fs.length < 1000 ∧ D.nx σ (upd H2 a (.ins C dx (putF f y fs)))
theorem ps_fldC (c : Cls X.K C) (n : NoAttr X.K C f) (ha : PE X o ta) (hv : PE X value tv) (hs : swapsWith value (some (.Attribute o f pos')) pos.line X.env = pure false := by rfl) : PS X (.Assign [.Attribute o f pos'] value pos) (sFldC C ta tv f) := by
  refine ⟨fun pins s σ H D I h => ?_⟩
  refine plainObj_wpAny_Assign_Attribute (thn (hv.run pins s σ H _ I h) fun u s1 ⟨y, H1, I1, ry, q⟩ => thn (ha.run pins s1 σ H1 _ I1 q) fun ov s2 ⟨x, H2, I2, rx, a, dx, fs, ex, ea, l, q2⟩ => ?_) hs
  subst ex
  obtain rfl : ov = Value.ref a := rx
  exact setattr_ok I2 ea c n l ry fun s3 I3 => ⟨σ, _, I3, q2⟩
def sFldAugC (C : Addr) (ta tv : TE) (rd : V → V → Hp → VK → Prop) (f : Str) : TS := fun D σ H => ta σ H fun x H1 => ∃ a dx fs v, x = .ref a ∧ H1 a = some (.ins C dx fs) ∧ fs.lookup f = some v ∧
  tv σ H1 fun y H2 => rd v y H2 fun z H3 => ∃ dx' fs', H3 a = some (.ins C dx' fs') ∧ fs'.length < 1000 ∧ D.nx σ (upd H3 a (.ins C dx' (putF f z fs')))
theorem ps_fldaugC {op : Operator} {rd : V → V → Hp → VK → Prop} (c : Cls X.K C) (n : NoAttr X.K C f) (hop : InOp X op rd) (ha : PE X o ta) (hv : PE X value tv) : PS X (.AugAssign (.Attribute o f tpos) op value pos) (sFldAugC C ta tv rd f) := by
  refine ⟨fun pins s σ H D I h => ?_⟩
  refine wpAny_AugAssign_AttributeAny (thn (ha.run pins s σ H _ I h) fun ov s1 ⟨x, H1, I1, rx, a, dx, fs, v, ex, ea, l, q⟩ => ?_)
  subst ex
  obtain rfl : ov = Value.ref a := rx
  refine getattr_ok I1 ea c n l fun u s2 I2 ru => thn (hv.run pins s2 σ H1 _ I2 q) fun w3 s3 ⟨y, H2, I3, ry, q3⟩ => thn (hop pins s3 σ H2 v y u w3 _ I3 ru ry q3) fun w4 s4 ⟨z, H3, I4, rz, dx', fs', ea', l', q4⟩ => ?_
  exact setattr_ok I4 ea' c n l' rz fun s5 I5 => ⟨σ, _, I5, q4⟩
end
section
variable {K : PySem.W.Frag} {E : L2.St → XK}
/-- an instance of a class: its attributes -/
def ofC (c : Str) (μ : Mu) (x : D) : Option (List Str × List D) := match asI μ x with
  | some (c', ns, ds) => if c' = c then some (ns, ds) else none
  | none => none
theorem ofC_at {c : Str} {μ : Mu} {x : D} {p : List Str × List D} (h : ofC c μ x = some p) : asI μ x = some (c, p.1, p.2) := by
  unfold ofC at h
  split at h
  · rename_i c' ns ds e
    split at h
    · rename_i ec
      subst ec
      cases h
      exact e
    · cases h
  · cases h
def dFld (c : Str) (Ta : DE) (f : Str) : DE := fun η μ => (Ta η μ).bind fun x μ1 => okO (ofC c μ1 x) fun p => okO (getF f p.1 p.2) fun d => .ok d μ1
instance {c : Str} {ta : TE} {Ta : DE} {f : Str} [a : SE K E ta Ta] : SE K E (tFldC (He.ga K c) ta f) (dFld c Ta f) := ⟨fun w e h o =>
  a.run w e (wp_bind h) fun x H1 ρ1 dx μ1 w1 g1 q1 h1 => by
    obtain ⟨p, e1, h2⟩ := wp_okO h1
    obtain ⟨d, e2, h3⟩ := wp_okO h2
    obtain ⟨p, dx, vs, rfl, ea, l, qs⟩ := asI_at w1 q1 (ofC_at e1)
    obtain ⟨v, hv, qv⟩ := getF_at qs e2
    exact ⟨p, dx, _, v, rfl, ea, hv, (o.mono g1).here w1 qv h3⟩⟩
/-- x.f = y over data -/
def setF (c : Str) (f : Str) (x y : D) (μ : Mu) : Res Unit := match x with
  | .cell a => match μ[a]? with
    | some (.ins c' ns ds) => grd (c' = c ∧ ns.length < 1000) (.ok () (μ.set a (.ins c' (putN f ns) (putD f y ns ds))))
    | _ => .bad
  | _ => .bad
theorem setF_run {F ρ : List Addr} {H : Hp} {μ : Mu} {c : Str} {f : Str} {x y : V} {dx' dy : D} {P : Unit → Mu → Prop} {X : Exn → Mu → Prop} {Q : Hp → Prop} (w : Wd K F ρ μ H) (hx : Dt K F ρ H x dx') (hy : Dt K F ρ H y dy) (h : wp (setF c f dx' dy μ) P X)
    (q : ∀ H' μ', Wd K F ρ μ' H' → Grow ρ ρ H H' → P () μ' → Q H') : ∃ a dx fs, x = .ref a ∧ H a = some (.ins (He.ga K c) dx fs) ∧ fs.length < 1000 ∧ Q (upd H a (.ins (He.ga K c) dx (putF f y fs))) := by
  unfold setF at h
  split at h
  · rename_i i
    cases hx with
    | @cell _ a hm =>
      split at h
      · rename_i c' ns ds e1
        obtain ⟨⟨ec, hl⟩, h9⟩ := wp_grd h
        clear h
        subst ec
        obtain ⟨dx, vs, ea, l, qs⟩ := w.ok _ _ _ hm e1
        refine ⟨a, dx, _, rfl, ea, ?_, ?_⟩
        · rw [List.length_zip, ← l, Nat.min_self]
          exact hl
        · obtain ⟨e2, l2⟩ := putF_zip (f := f) (x := y) l
          rw [e2]
          have g := Grow.put (ρ := ρ) (H := H) (a := a) (o := .ins (He.ga K c') dx ((putN f ns).zip (putV f y ns vs))) (List.mem_of_getElem? hm)
          exact q _ _ (w.put (m := .ins c' (putN f ns) (putD f dy ns ds)) hm ⟨dx, _, upd_same, l2, (putV_all hy qs).mono g⟩) g h9
      · exact h.elim
  · exact h.elim
def dFldS (c : Str) (Ta Tv : DE) (f : Str) : DS := fun η μ => (Tv η μ).to η fun y μ1 => (Ta η μ1).to η fun x μ2 => (setF c f x y μ2).to η fun _ μ3 => .nx η μ3
instance {c : Str} {ta tv : TE} {Ta Tv : DE} {f : Str} [a : SE K E ta Ta] [b : SE K E tv Tv] : SS K E (sFldC (He.ga K c) ta tv f) (dFldS c Ta Tv f) := ⟨fun {X F B σ H η ρ μ C} w e h o =>
  b.run w e (wp_to h) fun y H1 ρ1 dy μ1 w1 g1 q1 h1 => a.run w1 (e.mono g1) (wp_to h1) fun x H2 ρ2 dx μ2 w2 g2 q2 h2 =>
    setF_run w2 q2 (q1.mono g2) (wp_to h2) fun H3 μ3 w3 g3 h3 => o.nx σ H3 η ρ2 μ3 w3 (((e.mono g1).mono g2).mono g3) ((g1.trans g2).trans g3) h3⟩
def dFldA (c : Str) (Ta Tv : DE) (r : D → D → Mu → Res D) (f : Str) : DS := fun η μ => (Ta η μ).to η fun x μ1 => (okO (ofC c μ1 x) fun p => okO (getF f p.1 p.2) fun d => Res.ok d μ1).to η fun d _ => (Tv η μ1).to η fun y μ2 => (r d y μ2).to η fun z μ3 => (setF c f x z μ3).to η fun _ μ4 => .nx η μ4
instance {c : Str} {ta tv : TE} {Ta Tv : DE} {f : Str} {rd : R2} {r : D → D → Mu → Res D} [a : SE K E ta Ta] [b : SE K E tv Tv] [s : SR2 K rd r] : SS K E (sFldAugC (He.ga K c) ta tv rd f) (dFldA c Ta Tv r f) := ⟨fun {X F B σ H η ρ μ C} w e h o =>
  a.run w e (wp_to h) fun x H1 ρ1 dx μ1 w1 g1 q1 h1 => by
    obtain ⟨p, e1, h2⟩ := wp_okO (wp_to h1)
    obtain ⟨d, e2, h3⟩ := wp_okO h2
    have h3 : wpS ((Tv η μ1).to η fun y μ2 => (r d y μ2).to η fun z μ3 => (setF c f dx z μ3).to η fun _ μ4 => .nx η μ4) C X := h3
    obtain ⟨p, dx', vs, rfl, ea, l, qs⟩ := asI_at w1 q1 (ofC_at e1)
    obtain ⟨v, hv, qv⟩ := getF_at qs e2
    refine ⟨p, dx', _, v, rfl, ea, hv, b.run w1 (e.mono g1) (wp_to h3) fun y H2 ρ2 dy μ2 w2 g2 q2 h4 => s.run w2 (qv.mono g2) q2 (wp_to h4) fun z H3 ρ3 dz μ3 w3 g3 q3 h5 => ?_⟩
    obtain ⟨p', dx', fs', ep, ea', hl, hq⟩ := setF_run (Q := fun H' => B.nx σ H') w3 ((q1.mono g2).mono g3) q3 (wp_to h5) fun H4 μ4 w4 g4 h4 => o.nx σ H4 η ρ3 μ4 w4 ((((e.mono g1).mono g2).mono g3).mono g4) (((g1.trans g2).trans g3).trans g4) h4
    cases ep
    exact ⟨dx', fs', ea', hl, hq⟩⟩
end
/-! ### making an instance -/
theorem passes_tk {X : Cx} {E : XK} (tk : TkE X fun _ => E) : Passes (L2.CX X.prog X.w) X E := fun _ σ _ _ e s' I c => tk e s' (XE.of_call I (fun _ _ _ h => h) c)
theorem pass_no {X : Cx} : Passes (L2.CX X.prog X.w) X L2.E0 := passL
theorem take_no {X : Cx} : TkE X EN := takes0
def isNon (d : D) (r : Res D) : Res D := match d with
  | .non => r
  | _ => .bad
/-- fin: how the new instance is handed on -/
def dMake (fin : Mu → Res D → Res D) (c : Str) (f : FS) (T : DA) : DE := fun η μ => (T η μ).bind fun ds μ1 => (f (.cell μ1.length :: ds) (μ1 ++ [.ins c [] []])).bind fun d μ2 => isNon d (fin μ1 (.ok (.cell μ1.length) μ2))
def tMakeF (fin : Mu → Res D → Res D) (C : Addr) (sp : Sp) (E : XK) (t : TA) : TE := StX.tMakeR C sp E t
section
variable {K : PySem.W.Frag} {E : XK}
theorem make_run {fin : Mu → Res D → Res D} (hf : Fnl fin) {c : Str} {f : FS} {t : TA} {T : DA} [a : SA K (fun _ => E) t T] : SE K (fun _ => E) (StX.tMakeR (He.ga K c) (spD K f) E t) (dMake fin c f T) := ⟨fun {X F σ H η ρ μ P Q} w e h o =>
  a.run w e (wp_bind h) fun vs H1 ρ1 ds μ1 w1 g1 q1 h1 => by
    intro x dx hx hdx hne
    have w2 : Wd K F ρ1 μ1 (upd H1 dx (.own x)) := w1.lay hdx
    have hx2 : upd H1 dx (.own x) x = none := by rw [upd_ne (Ne.symm hne)]; exact hx
    have g2 : Grow ρ1 ρ1 H1 (upd H1 dx (.own x)) := Grow.fresh hdx
    have w3 : Wd K F (ρ1 ++ [x]) (μ1 ++ [.ins c [] []]) (upd (upd H1 dx (.own x)) x (.ins (He.ga K c) dx [])) := w2.layM hx2 ⟨dx, [], upd_same, rfl, .nil⟩
    have g3 : Grow ρ1 (ρ1 ++ [x]) (upd H1 dx (.own x)) (upd (upd H1 dx (.own x)) x (.ins (He.ga K c) dx [])) := Grow.add hx2
    have g23 := g2.trans g3
    refine ⟨F, ρ1 ++ [x], .cell μ1.length :: ds, _, _, _, w3, .cons (.cell (at_new w1)) ((q1.mono g2).mono g3), wp_bind h1, ?_, ((e.mono g1).mono g23).xo0⟩
    intro v H' ρ' d μ' w' g' q' h'
    cases d with
    | non =>
      cases q'
      exact ⟨rfl, hf.ok w1 (o.mono g1) h' w' (g23.trans g') (.cell (g'.at_ (at_new w1)))⟩
    | _ => exact h'.elim⟩
instance {c : Str} {f : FS} {t : TA} {T : DA} [a : SA K (fun _ => E) t T] : SE K (fun _ => E) (tMakeF fz (He.ga K c) (spD K f) E t) (dMake fz c f T) := make_run fin_fz
instance {c : Str} {f : FS} {t : TA} {T : DA} [a : SA K (fun _ => E) t T] : SE K (fun _ => E) (tMakeF kp (He.ga K c) (spD K f) E t) (dMake kp c f T) := make_run fin_kp
end
theorem pe_makeF (fin : Mu → Res D → Res D) {X : Cx} {C : Addr} {sp : Sp} {E : XK} {t : TA} {e : Expr} (h : PE X e (StX.tMakeR C sp E t)) : PE X e (tMakeF fin C sp E t) := h
/-! ### methods -/
section
variable {X : Cx} {CX : CXT} {k : Nat} {C f g p : Addr} {m : Str} {sp : Sp} {E : XK} {o e : Expr} {ta : TE} {apos pos : Pos}
theorem run_P {pins : List (Addr × Obj)} {σ : L2.St} {H : Hp} {s : Shared} {Q : VK} {us : List Value} {vs : List V} (F : FnR X.prog X.w X.K X.mg X.base CX k f sp) (hr : Room k X.A) (hx : Passes CX X E)
    (I : Inv X pins σ H s) (r : Vals vs us) (h : sp vs H Q E) : wpAny (model X.prog X.w) X.A (call (.ref f) us) (EP X pins σ Q) X.xe s := by
  refine wpAny_call (codeAny_mono (run_fnR F hr hx I r h) fun r s' hq => ?_)
  cases r with
  | error e => exact hq
  | ok fl =>
    cases fl with
    | ret u => exact hq
    | next => exact False.elim hq
    | brk => exact False.elim hq
    | cont => exact False.elim hq
theorem pe_methR0 {pl : Sem Bool} (c : Cls X.K C) (hm : Meth X.K C m f) (F : FnR X.prog X.w X.K X.mg X.base CX k f sp) (hr : Room k X.A) (hx : Passes CX X E) (he : PE X o ta)
    (ht : eval (.Call (.Attribute o m apos) [] [] pos) X.env = (do
      let ov ← eval o X.env
      standAt apos.atName
      let (f, first) ← holding [ov] (getMethod ov m pl)
      callWith pos f first (backTo pos (starEach [] X.env)) (backToKw pos (keywordEach [] X.env))) := by rfl) :
    PE X (.Call (.Attribute o m apos) [] [] pos) (tMethR C m sp E ta tNil) := by
  refine ⟨fun pins s σ H Q I h => ?_⟩
  refine PySem.W.methodCall_KW (pl := pl) (thn (he.run pins s σ H _ I h) fun u s1 ⟨x, H1, I1, rx, a, dx, fs, ex, ea, l, q⟩ => ?_) ht
  subst ex
  obtain rfl : u = Value.ref a := rx
  refine getmeth_ok I1 ea c hm l ?_
  exact PySem.W.callWith_K0 (first := [.ref a]) I1.kIn hm.kp (run_P (us := [.ref a]) (vs := [.ref a]) F hr hx I1 (.cons rfl .nil) q)
/-- a property by a positional promise -/
def tPropR (C : Addr) (sp : Sp) (E : XK) (ta : TE) : TE := fun σ H Q => ta σ H fun x H1 => ∃ a dx fs, x = .ref a ∧ H1 a = some (.ins C dx fs) ∧ sp [.ref a] H1 Q E
theorem pe_propR {fn : Str} (c : Cls X.K C) (hp : PropOf X.K C fn p g) (F : FnR X.prog X.w X.K X.mg X.base CX k g sp) (hr : Room (k + 1) X.A) (hx : Passes CX X.nox E) (he : PE X e ta)
    (hab : attributeBase e fn X.env (eval e X.env) = eval e X.env := by rfl) : PE X (.Attribute e fn pos) (tPropR C sp E ta) := by
  refine ⟨fun pins s σ H Q I h => ?_⟩
  refine attr_of hab (thn (he.run pins s σ H _ I h) fun u s1 ⟨x, H1, I1, rx, a, dx, fs, ex, ea, q⟩ => ?_)
  subst ex
  obtain rfl : u = Value.ref a := rx
  obtain ⟨mA, O, _, _, _, _⟩ := ins_get I1.hok ea
  obtain ⟨od, J, _⟩ := O.look
  obtain ⟨rest, hrec⟩ := hp.rec_
  have I2 := I1.tok (s1.toks + 1)
  have hc : (PySem.W.clsIn X.K C).isSome = true := by
    obtain ⟨cd, hc, _⟩ := PySem.W.any_some c.hd
    rw [hc]
    rfl
  refine PySem.W.get_bind I1.kIn J (PySem.W.plainGet_of (c.get fn)).1 (PySem.W.findObj_data hc hp.at_ hp.get hp.tak) (PySem.W.plainGet_of (c.get fn)).2 (wpAny_call (PySem.W.prop_get (s := { s1 with toks := s1.toks + 1 }) I1.kIn hrec ?_))
  refine codeAny_mono (F X.A.in1 X.stack { s1 with toks := s1.toks + 1 } H1 [.ref a] [.ref a] Q E hr.in1 I2.env0.in1 (.cons rfl .nil) q) fun r s' hq => ?_
  cases r with
  | error er => exact False.elim (hx pins σ H1 { s1 with toks := s1.toks + 1 } er s' (I2.wish _) hq)
  | ok fl =>
    cases fl with
    | ret u =>
      obtain ⟨v, H', I3, rv, q3⟩ := I2.after hq
      show wpAny _ _ (handedOut u) _ _ _
      rw [PySem.W.handedOut_of (handed_of rv)]
      exact wpAny_pure ⟨v, H', I3, rv, q3⟩
    | next => exact False.elim hq
    | brk => exact False.elim hq
    | cont => exact False.elim hq
end
/-- C.m(..), m a staticmethod: its record at p, its def at g -/
structure SMet (K : PySem.W.Frag) (C : Addr) (m : Str) (p g : Addr) : Prop where
  rd : ClX.CRead K C (.type "type")
  at_ : PySem.W.findCls K (.ref C) (.type "type") m = some (.get (.builtin "staticmethod.__get__") (.ref p) .none (.ref C))
  rc : ∃ rest, PySem.W.recIn K p "staticmethod" = some (.ref g :: rest)
  kp : PySem.W.keepIn K (.ref g) = true
section
variable {X : Cx} {k : Nat} {C p g : Addr} {sp : Sp} {E : L2.St → XK} {o e : Expr} {es : List Expr} {m : Str} {pos apos : Pos} {t : TA} {pl : Sem Bool}
theorem getmethsm_ok {pins : List (Addr × Obj)} {σ : L2.St} {H : Hp} {s : Shared} {A : Around} {E : Value → Shared → Prop} {Q : Value × List Value → Shared → Prop} (I : Inv X pins σ H s) (c : SMet X.K C m p g)
    (h : ∀ s', Inv X pins σ H s' → Q (.ref g, []) s') : wpAny (model X.prog X.w) A (getMethod (.ref C) m pl) Q E s := by
  obtain ⟨rest, hp⟩ := c.rc
  refine PySem.W.method_cls I.kIn c.rd.ga ?_
  refine PySem.W.cls_bind I.kIn c.rd.rd c.at_ ?_
  refine wpAny_call (PySem.W.sm_get (s := { s with toks := s.toks + 1 }) I.kIn hp (PySem.W.handed_on rfl ?_))
  exact h _ (I.tok _)
/-- the class's name, then the staticmethod's -/
theorem pe_smeth {x : Str} {np : Pos} (hm : X.mg x = some (.ref C)) (c : SMet X.K C m p g) (F : FnR X.prog X.w X.K X.mg X.base (L2.CX X.prog X.w) k g sp) (hr : Room k X.A) (hx : TkE X E) (ha : PA X (e :: es) t) (hgl : Gl X x := by rfl)
    (hdb : (x == ("__debug__" : Str)) = false := by decide)
    (hst : starEach (e :: es) X.env = (false, eval e X.env) :: starEach es X.env := by rfl) (hpl : (backTo pos (starEach es X.env)).any (·.1) = false := by rfl)
    (ht : eval (.Call (.Attribute (.Name x np) m apos) (e :: es) [] pos) X.env = (do
      let ov ← eval (.Name x np) X.env
      standAt apos.atName
      let (f, first) ← holding [ov] (getMethod ov m pl)
      callWith pos f first (backTo pos (starEach (e :: es) X.env)) (backToKw pos (keywordEach [] X.env))) := by rfl) :
    PE X (.Call (.Attribute (.Name x np) m apos) (e :: es) [] pos) (tCallX sp E t) := by
  refine ⟨fun pins s σ H Q I h => ?_⟩
  refine PySem.W.methodCall_KW (pl := pl) (ld_glob I hgl hm ?_ hdb) ht
  refine getmethsm_ok I c fun s2 I2 => ?_
  refine PySem.W.callWith_K (first := []) (h₀ := X.base) I2.ok.mod.kin c.kp (thn (ha.run pos pins s2 σ H _ I2 h) fun us s3 ⟨vs, H1, I3, r, q⟩ => ⟨I3.kIn, ?_⟩) hst hpl
  exact run_X F hr hx I3 r q
end
section
variable {K : PySem.W.Frag} {E : XK}
def dMeth (c : Str) (m : Str) (f : FS) (Ta : DE) (T : DA) : DE := fun η μ => (Ta η μ).bind fun x μ1 => okO (ofC c μ1 x) fun p => grd (m ∉ p.1) ((T η μ1).bind fun ds μ2 => f (x :: ds) μ2)
instance {c : Str} {m : Str} {f : FS} {ta : TE} {Ta : DE} {t : TA} {T : DA} [a : SE K (fun _ => E) ta Ta] [b : SA K (fun _ => E) t T] : SE K (fun _ => E) (tMethR (He.ga K c) m (spD K f) E ta t) (dMeth c m f Ta T) := ⟨fun {X F σ H η ρ μ P Q} w e h o =>
  a.run w e (wp_bind h) fun x H1 ρ1 dx μ1 w1 g1 q1 h1 => by
    obtain ⟨p, e1, h2⟩ := wp_okO h1
    obtain ⟨hm, h3⟩ := wp_grd h2
    obtain ⟨ad, dx', vs, rfl, ea, l, qs⟩ := asI_at w1 q1 (ofC_at e1)
    refine ⟨ad, dx', _, rfl, ea, look_no hm, b.run w1 (e.mono g1) (wp_bind h3) fun ws H2 ρ2 ds μ2 w2 g2 q2 h4 => ?_⟩
    exact ⟨F, ρ2, _, μ2, _, _, w2, .cons (q1.mono g2) q2, h4, o.mono (g1.trans g2), ((e.mono g1).mono g2).xo0⟩⟩
def dProp (c : Str) (f : FS) (Ta : DE) : DE := fun η μ => (Ta η μ).bind fun x μ1 => okO (ofC c μ1 x) fun _ => noX (f [x] μ1)
variable {E' : L2.St → XK}
instance {c : Str} {f : FS} {ta : TE} {Ta : DE} [a : SE K E' ta Ta] : SE K E' (tPropR (He.ga K c) (spD K f) L2.E0 ta) (dProp c f Ta) := ⟨fun {X F σ H η ρ μ P Q} w e h o =>
  a.run w e (wp_bind h) fun x H1 ρ1 dx μ1 w1 g1 q1 h1 => by
    obtain ⟨p, e1, h2⟩ := wp_okO h1
    obtain ⟨ad, dx', vs, rfl, ea, l, qs⟩ := asI_at w1 q1 (ofC_at e1)
    refine ⟨ad, dx', _, rfl, ea, F, ρ1, _, μ1, P, fun _ _ => False, w1, .one q1, ?_, o.mono g1, fun _ _ _ _ _ _ _ _ _ _ _ _ z => z.elim⟩
    revert h2
    cases f [dx] μ1 <;> exact id⟩
/-- a constant of a class -/
def tConC (C : Addr) (v : V) : TE := tC v
theorem pe_conC {X : Cx} {C : Addr} {mc : Value} {f x : Str} {v : V} {u : Value} {np pos : Pos} (hm : X.mg x = some (.ref C)) (r : ClX.CRead X.K C mc) (k : ClX.CVal X.K C mc f v u) (hgl : Gl X x := by rfl) (hdb : (x == ("__debug__" : Str)) = false := by decide)
    (hb : attributeBase (.Name x np) f X.env (eval (.Name x np) X.env) = eval (.Name x np) X.env := by rfl) : PE X (.Attribute (.Name x np) f pos) (tC v) := by
  refine ⟨fun pins s σ H Q I h => ?_⟩
  refine attr_of hb (ld_glob I hgl hm ?_ hdb)
  exact ClX.getcval_ok I r k fun s2 I2 => ⟨v, H, I2, k.rel, h⟩
end
/-! ### defaults, keywords -/
section
variable {P : Program} {w : World} {K : PySem.W.Frag} {mg : Str → Option Value} {base : Heap} {x qual : Str} {params : Arguments} {body : List Stmt} {scope : Scope} {dvs : List V} {kws : List (Str × V)} {f : Addr} {fd : FuncData}
/-- a call that leaves the last parameters to their defaults -/
def dflR (es : List D) (fs : FS) : FS := fun xs μ => fs (xs ++ es) μ
theorem fnR_dfl {k : Nat} {ps : List Str} {fs : FS} {dv : List V} {ds : List Value} {es : List D} (O : FnOk P w K mg base (L2.CX P w) k f fd ps (spD K fs)) (hv : Vals dv ds) (b : Binds K fd ps ds) (hd : ∀ F ρ H, DtAll K F ρ H dv es) :
    FnR P w K mg base (L2.CX P w) k f (spD K (dflR es fs)) :=
  (FnOk.raw O b hv).imp fun vs H Q E h => by
    obtain ⟨F, ρ, xs, μ, Q', X, wd, q, hf, o, xo⟩ := h
    exact ⟨F, ρ, xs ++ es, μ, Q', X, wd, q.app (hd _ _ _), hf, o, xo⟩
theorem fnR_all {k : Nat} {ps : List Str} {fs : FS} (O : FnOk P w K mg base (L2.CX P w) k f fd ps (spD K fs)) (b : Binds K fd ps []) : FnR P w K mg base (L2.CX P w) k f (spD K fs) :=
  (FnOk.raw O b .nil).imp fun vs H Q E h => by rw [List.append_nil]; exact h
/-! calls by keywords that stand behind the others, in the parameters' order -/
theorem kbn_app {ps ks : List Str} {n : Nat} (Fu : FunD K x qual params body scope [] kws f fd)
    (h : ∀ (kV doc pm : Value) (an : Option Addr) (cdv ct : Value) (us ws : List Value), us.length = n → ws.length = ks.length → bindArgs (PySem.W.fnOf x qual params body scope .none kV doc pm an cdv ct) ⟨us, ks.zip ws⟩ = pure (ps.zip (us ++ ws))) :
    KBn K fd ps n ks (fun us ws => us ++ ws) (fun vs zs => vs ++ zs) := by
  obtain ⟨oc, od, dV, kV, doc, pm, an, cdv, ct, osl, rfl, lk, hcd, hdf, hkw⟩ := Fu.ex
  have ed : dV = .none := by
    rcases hdf with ⟨_, e⟩ | ⟨e, _⟩
    · exact e
    · exact absurd rfl e
  subst ed
  exact ⟨fun s us ws _ l1 l2 => .of_eq (h kV doc pm an cdv ct us ws l1 l2), fun a b => a.append b⟩
def dCallA (n m : Nat) (f : FS) (T Tk : DA) : DE := fun η μ => (T η μ).bind fun ds μ1 => (Tk η μ1).bind fun es μ2 => grd (ds.length = n ∧ es.length = m) (f (ds ++ es) μ2)
instance {n m : Nat} {f : FS} {t tk : TA} {T Tk : DA} {E : XK} [a : SA K (fun _ => E) t T] [b : SA K (fun _ => E) tk Tk] : SE K (fun _ => E) (tCallN n m (spD K f) (fun vs zs => vs ++ zs) E t tk) (dCallA n m f T Tk) := ⟨fun {X F σ H η ρ μ P Q} w e h o =>
  a.run w e (wp_bind h) fun vs H1 ρ1 ds μ1 w1 g1 q1 h1 => b.run w1 (e.mono g1) (wp_bind h1) fun zs H2 ρ2 es μ2 w2 g2 q2 h2 =>
    ⟨q1.len.trans (wp_grd h2).1.1, q2.len.trans (wp_grd h2).1.2, F, ρ2, ds ++ es, μ2, _, _, w2, (q1.mono g2).app q2, (wp_grd h2).2, o.mono (g1.trans g2), ((e.mono g1).mono g2).xo0⟩⟩
end
end
end DX

namespace DX
open PySem PySem.Spec PyProof.Rows L2
/-! ### what the top leaves: facts, each a test of the written part -/
abbrev FB := PySem.W.Frag → Bool
def obsX (fa : List FB) (fn : List He5.DefA) (K : PySem.W.Frag) : He.AlD := ((fa.all fun f => f K) && fn.all fun d => d.ok K, fn.map fun d => He5.fnA K (d.at_ K))
def valX (fn : List He5.DefA) : He.AlD := (true, fn.map He5.DefA.val)
def SaysX (fa : List FB) (fn : List He5.DefA) (K : PySem.W.Frag) : Prop := obsX fa fn K = valX fn
def obsXG (n : Nat) (fa : List FB) (fn : List He5.DefA) (g : Addr → Option Obj) : He.AlD := obsX fa fn (He.frG g (He5.asA g n))
def hookX (n : Nat) (fa : List FB) (fn : List He5.DefA) : PySem.W.Hook where
  α := He.AlD
  obs := fun s => obsXG n fa fn s.heap.get?
  val := fun _ => valX fn
  says := fun _ h => ∃ K : PySem.W.Frag, K.In h ∧ SaysX fa fn K
  of := fun _ _ e => ⟨_, He.frG_in, e⟩
  keeps := fun _ _ _ ⟨K, hK, c⟩ k => ⟨K, PySem.W.Frag.In.keeps hK k, c⟩
theorem obsXG_eq {n : Nat} {fa : List FB} {fn : List He5.DefA} {g : Addr → Option Obj} {s : Shared} (h : ∀ a, g a = s.heap.get? a) : obsXG n fa fn g = (hookX n fa fn).obs s := by
  have e : g = s.heap.get? := funext h
  rw [e] <;> rfl
section
variable {fa : List FB} {fn : List He5.DefA} {K : PySem.W.Frag}
theorem SaysX.fact (c : SaysX fa fn K) (i : Nat) {f : FB} (h : fa[i]? = some f := by rfl) : f K = true := by
  have c1 := (He.ba (show ((fa.all fun f => f K) && fn.all fun d => d.ok K) = true from congrArg (fun z : He.AlD => z.1) c)).1
  exact List.all_eq_true.mp c1 f (List.mem_of_getElem? h)
theorem SaysX.def_ (c : SaysX fa fn K) (i : Nat) {d : He5.DefA} (h : fn[i]? = some d := by rfl) : ∃ fd, L2.FunD K d.name d.qual d.params d.body d.scope (d.dvs K) (d.kws K) (d.at_ K) fd := by
  have c2 := (He.ba (show ((fa.all fun f => f K) && fn.all fun d => d.ok K) = true from congrArg (fun z : He.AlD => z.1) c)).2
  have e : fn.map (fun d => He5.fnA K (d.at_ K)) = fn.map He5.DefA.val := congrArg (fun z : He.AlD => z.2) c
  have e2 : (fn.map fun d => He5.fnA K (d.at_ K))[i]? = (fn.map He5.DefA.val)[i]? := by rw [e]
  rw [List.getElem?_map, List.getElem?_map, h] at e2
  exact He5.DefA.funD (Option.some.inj e2) (List.all_eq_true.mp c2 d (List.mem_of_getElem? h))
end
/-! kinds of facts -/
def fFree (x : Str) : FB := fun K => (He.Fa.free x).ok K
def fGlo (x : Str) : FB := fun K => (He.Fa.glo x).ok K
def fInt (x : Str) (i : Int) : FB := fun K => (He.Fa.int x i).ok K
def fStr (x z : Str) : FB := fun K => (He.Fa.str x z).ok K
def fCls (x : Str) : FB := fun K => (He.Fa.cls x).ok K
def fNoat (x f : Str) : FB := fun K => (He.Fa.noat x f).ok K
def fMeth (x m : Str) : FB := fun K => (He.Fa.meth x m).ok K
def fMkr (x : Str) : FB := fun K => (He.Fa.mkr x).ok K
def fProp (x f : Str) : FB := fun K => He.eqO (PySem.W.findIn K (.ref (He.ga K x)) f) (some (some (.ref (He.ma K (He.ga K x) f)))) && (He.eqO (PySem.W.specialIn K (.ref (He.ma K (He.ga K x) f)) "__get__") (some (some (.builtin "property.__get__"))) &&
  (decide (PySem.W.takesIn K (.ref (He.ma K (He.ga K x) f)) = some true) && (match PySem.W.recIn K (He.ma K (He.ga K x) f) "property" with
    | some (.ref _ :: _) => true
    | _ => false)))
theorem prop_ok {K : PySem.W.Frag} {x f : Str} (h : fProp x f K = true) : PropOf K (He.ga K x) f (He.ma K (He.ga K x) f) (He5.wf K (He.ga K x) "property" f) := by
  obtain ⟨h1, h⟩ := He.ba h
  obtain ⟨h2, h⟩ := He.ba h
  obtain ⟨h3, h4⟩ := He.ba h
  refine ⟨He.eqO_ok h1, He.eqO_ok h2, of_decide_eq_true h3, ?_⟩
  unfold He5.wf
  split at h4
  · rename_i g r e
    exact ⟨r, by rw [e]⟩
  · cases h4
def fReads (x : Str) : FB := fun K => PySem.W.readsIn K (He.ga K x) (.type "type")
theorem reads_ok {K : PySem.W.Frag} {x : Str} (N : fReads x K = true) : ClX.CRead K (He.ga K x) (.type "type") := by
  refine ⟨N, ?_⟩
  have h : PySem.W.readsIn K (He.ga K x) (.type "type") = true := N
  unfold PySem.W.readsIn at h
  obtain ⟨h, _⟩ := He.ba h
  obtain ⟨h, _⟩ := He.ba h
  obtain ⟨h, h3⟩ := He.ba h
  obtain ⟨_, h2⟩ := He.ba h
  unfold PySem.W.specialIn
  rw [beq_iff_eq.mp h2, Option.bind_some]
  exact beq_iff_eq.mp h3
def fStat (x m : Str) : FB := fun K => He5.wrapB K (He.ga K x) "staticmethod" "staticmethod.__get__" m && PySem.W.keepIn K (.ref (He5.wf K (He.ga K x) "staticmethod" m))
theorem stat_ok {K : PySem.W.Frag} {x m : Str} (r : fReads x K = true) (h : fStat x m K = true) : SMet K (He.ga K x) m (He.ma K (He.ga K x) m) (He5.wf K (He.ga K x) "staticmethod" m) := by
  obtain ⟨h1, h2⟩ := He.ba h
  obtain ⟨h3, h4⟩ := He5.wrapB_ok h1
  exact ⟨reads_ok r, h3, h4, h2⟩
def fConI (x f : Str) (i : Int) : FB := fun K => match PySem.W.findCls K (.ref (He.ga K x)) (.type "type") f with
  | some (.val (.int j _)) => decide (j = i)
  | _ => false
theorem conI_ok {K : PySem.W.Frag} {x f : Str} {i : Int} (h : fConI x f i K = true) : ∃ u, ClX.CVal K (He.ga K x) (.type "type") f (.int i) u := by
  unfold fConI at h
  split at h
  · rename_i j t e
    exact ⟨_, e, ⟨t, by rw [of_decide_eq_true h]⟩⟩
  · cases h
/-! ### the end of a law -/
theorem fnOk_no {P : Program} {w : World} {K : PySem.W.Frag} {mg : Str → Option Value} {base : Heap} {k : Nat} {f : Addr} {fd : FuncData} {ps : List Str} {sp : Sp} (F : FnOk P w K mg base (L2.CX P w) k f fd ps sp) :
    FnOk P w K mg base CX0 k f fd ps (fun vs H Q _ => sp vs H Q L2.E0) := by
  refine ⟨fun vs H Q E h => F.len vs H Q _ h, fun A outer s H args us vs Q E hr e0 hb hv hs => ?_⟩
  refine codeAny_mono (F.run A outer s H args us vs Q L2.E0 hr e0 hb hv hs) fun r s' hq => ?_
  cases r with
  | error e =>
    obtain ⟨_, _, _, _, _, _, _, _, _, _, _, _, z⟩ := hq
    exact z.elim
  | ok fl => cases fl <;> exact hq
theorem law_sp {K : PySem.W.Frag} {H : Hp} {a : Addr} {ns : List Int} {f : FS} (hl : ∃ μ, f [.scr ns] [] = .ok (.bl true) μ) (h : SqL K H a (ns.map V.int)) : spD K f [.ref a] H (fun v _ => v = .bl true) L2.E0 := by
  obtain ⟨μ, e⟩ := hl
  refine ⟨[], [], [.scr ns], [], fun d _ => d = .bl true, fun _ _ => False, ⟨fun _ h => (nomatch h), rfl, List.Pairwise.nil, fun _ h => (nomatch h), fun i a m h => by simp at h⟩, .one (.scr ?_), ?_, ?_, fun _ _ _ _ _ _ _ _ _ _ _ _ z => z.elim⟩
  · exact SqM.of h
  · rw [e]
    rfl
  · intro v H' ρ' d μ' _ _ q e
    subst e
    cases q
    rfl
end DX

namespace DX
open PySem PySem.Spec PyProof.Rows L2
/-! ### zip of lists and tuples, mixed -/
def ItAt : Bool → Heap → Addr → Addr → Nat → Prop
  | true, h, it, l, k => h.IsListIter it l k
  | false, h, it, l, k => h.IsTupleIter it l k
def SqAt : Bool → Heap → Addr → Array Value → Prop
  | true, h, l, xs => h.IsList l xs
  | false, h, l, xs => h.IsTuple l xs
theorem ItAt.to {b : Bool} {h h' : Heap} {it l : Addr} {k : Nat} (x : ItAt b h it l k) (e : ∀ o, h.get? it = some o → h'.get? it = some o) : ItAt b h' it l k := by
  cases b with
  | true => exact Heap.IsListIter.at x e
  | false => exact Heap.IsTupleIter.at x e
theorem ItAt.ob {b : Bool} {h : Heap} {it l : Addr} {k : Nat} (x : ItAt b h it l k) : ∃ o, h.get? it = some o ∧ ∀ v, o.data ≠ .cell v := by
  cases b with
  | true =>
    obtain ⟨o, e, _, d⟩ := x
    exact ⟨o, e, fun v q => by rw [d] at q; cases q⟩
  | false =>
    obtain ⟨o, e, _, d⟩ := x
    exact ⟨o, e, fun v q => by rw [d] at q; cases q⟩
theorem SqAt.to {b : Bool} {h h' : Heap} {l : Addr} {xs : Array Value} (x : SqAt b h l xs) (e : ∀ o, h.get? l = some o → h'.get? l = some o) : SqAt b h' l xs := by
  cases b with
  | true =>
    obtain ⟨o, e1, r⟩ := x
    exact ⟨o, e o e1, r⟩
  | false =>
    obtain ⟨o, e1, r⟩ := x
    exact ⟨o, e o e1, r⟩
abbrev itN : Bool → String
  | true => "list_iterator"
  | false => "tuple_iterator"
abbrev itO (b : Bool) (l : Addr) : Obj := { cls := .type (itN b), data := .fields #[.ref l, .int 0 0] }
theorem ItAt.new {b : Bool} {h : Heap} {it l : Addr} (e : h.get? it = some (itO b l)) : ItAt b h it l 0 := by
  cases b with
  | true => exact ⟨_, e, rfl, rfl⟩
  | false => exact ⟨_, e, rfl, rfl⟩
abbrev TupO (h : Heap) (T : Addr) (vs : Array Value) : Prop := h.get? T = some { cls := .type "tuple", data := .seq vs }
section
variable {prog : Program} {w : World} {A : Around} {E : Value → Shared → Prop} {s : Shared}
theorem next_item {b : Bool} {it l : Addr} {i : Nat} {items : Array Value} {x : Value} {Q : Value → Shared → Prop} (hit : ItAt b s.heap it l i) (hl : SqAt b s.heap l items) (hx : items[i]? = some x)
    (hQ : ∀ h', ItAt b h' it l (i + 1) → Heap.SameBut it s.heap h' → Q x { s with heap := h' }) : wpAny (model prog w) A (Builtin.SmallTypes.nextOf (.ref it)) Q E s := by
  cases b with
  | true => exact wpAny_nextOf_list_item hit hl hx hQ
  | false => exact RZ.nextOf_tuple_item hit hl hx hQ
theorem next_end {b : Bool} {it l : Addr} {i : Nat} {items : Array Value} {Q : Value → Shared → Prop} (hh : A.handled = none) (hit : ItAt b s.heap it l i) (hl : SqAt b s.heap l items) (hx : items[i]? = none)
    (hE : ∀ h' e, Heap.ExtBut it s.heap h' → (∃ o, h'.get? e = some o ∧ o.cls = .type "StopIteration") → E (.ref e) { s with heap := h' }) : wpAny (model prog w) A (Builtin.SmallTypes.nextOf (.ref it)) Q E s := by
  cases b with
  | true => exact wpAny_nextOf_list_end hh hit hl hx hE
  | false => exact RZ.nextOf_tuple_end hh hit hl hx hE
theorem iter_any {b : Bool} {l : Addr} {items : Array Value} {Q : Value → Shared → Prop} (hl : SqAt b s.heap l items) (hQ : Q (.ref s.heap.objs.size) { s with heap := s.heap.push (itO b l) }) : wpAny (model prog w) A (pyIter (.ref l)) Q E s := by
  cases b with
  | true => exact wpAny_pyIter_list hl hQ
  | false => exact wpAny_pyIter_tuple hl hQ
theorem upd_arr {T : Addr} {vs : Array Value} {x : Value} {k : Nat} {Q : Unit → Shared → Prop} (hT : TupO s.heap T vs)
    (h : ∀ h', TupO h' T (vs.setIfInBounds k x) → Heap.SameBut T s.heap h' → Q () { s with heap := h' }) (hz : vs.size ≤ 8) : wpAny (model prog w) A (updateSeq T (·.setIfInBounds k x)) Q E s := by
  refine wpAny_updateSeq hT rfl (h _ ?_ (Heap.SameBut.update ..)) (hz := by first | (simp only [Array.size_setIfInBounds]; exact Nat.le_trans hz (by decide)) | exact Nat.le_trans hz (by decide))
  show Heap.get? _ _ = _
  rw [Heap.get?_update_self _ hT rfl]
  simp [Obj.mapSeq]
end
structure ZA2 (z TI TO i1 i2 l1 l2 : Addr) : Prop where
  TI_z : TI ≠ z
  TO_z : TO ≠ z
  i1_z : i1 ≠ z
  i2_z : i2 ≠ z
  TI_TO : TI ≠ TO
  TI_i1 : TI ≠ i1
  TO_i1 : TO ≠ i1
  TI_i2 : TI ≠ i2
  TO_i2 : TO ≠ i2
  i1_i2 : i1 ≠ i2
  l1_z : l1 ≠ z
  l1_TO : l1 ≠ TO
  l1_i1 : l1 ≠ i1
  l1_i2 : l1 ≠ i2
  l2_z : l2 ≠ z
  l2_TO : l2 ≠ TO
  l2_i1 : l2 ≠ i1
  l2_i2 : l2 ≠ i2
section
variable {prog : Program} {w : World} {A : Around} {E : Value → Shared → Prop} {s : Shared}
theorem zip2_item {b1 b2 : Bool} {z TI TO i1 i2 l1 l2 : Addr} {k : Nat} {xs1 xs2 : Array Value} {x1 x2 a1 a2 : Value} {Q : Value → Shared → Prop} (D : ZA2 z TI TO i1 i2 l1 l2)
    (hz : IsZip s.heap z TI TO .none) (hTI : TupO s.heap TI #[.ref i1, .ref i2]) (hTO : TupO s.heap TO #[a1, a2]) (h1 : ItAt b1 s.heap i1 l1 k) (q1 : SqAt b1 s.heap l1 xs1) (h2 : ItAt b2 s.heap i2 l2 k) (q2 : SqAt b2 s.heap l2 xs2) (e1 : xs1[k]? = some x1) (e2 : xs2[k]? = some x2)
    (hQ : ∀ h', IsZip h' z TI TO (rawInt s.heap.objs.size) → TupO h' TO #[x1, x2] → ItAt b1 h' i1 l1 (k + 1) → ItAt b2 h' i2 l2 (k + 1) → TupO h' s.heap.objs.size #[x1, x2] → h'.objs.size = s.heap.objs.size + 1 →
      (∀ c o, c ≠ z → c ≠ TO → c ≠ i1 → c ≠ i2 → s.heap.get? c = some o → h'.get? c = some o) → Q (.ref s.heap.objs.size) { s with heap := h' }) :
    wpAny (model prog w) A (Builtin.«zip.__next__» ⟨[.ref z], []⟩) (fun fin s' => ∃ v, fin = .done (.ret v) ∧ Q v s') E s := by
  show wpAny _ _ (field (.ref z) 2 >>= _) _ _ _
  refine wpAny_bind (wpAny_field hz rfl (x := .bool false) rfl ?_)
  show wpAny _ _ (field (.ref z) 3 >>= _) _ _ _
  refine wpAny_bind (wpAny_field hz rfl (x := .ref TI) rfl ?_)
  refine wpAny_bind (wpAny_seqItems hTI rfl ?_)
  show wpAny _ _ (Builtin.SmallTypes.ownedTupleIsFree (.ref z) >>= _) _ _ _
  refine wpAny_bind ?_
  unfold Builtin.SmallTypes.ownedTupleIsFree
  refine wpAny_bind (wpAny_field hz rfl (x := .none) rfl (wpAny_pure ?_))
  simp only [if_true]
  refine wpAny_bind (wpAny_rule ?_)
  refine wpAny_bind (wpAny_field hz rfl (x := .ref TO) rfl ?_)
  refine wpAny_bind (wpAny_setField_rec hz (by simp) fun g1 hz1 s1 => ?_)
  replace hz1 : IsZip g1 z TI TO .ellipsis := hz1
  refine wpAny_bind ?_
  simp only [List.zipIdx_cons, List.zipIdx_nil, List.forIn_cons, List.forIn_nil]
  refine wpAny_bind (wpAny_bind (wpAny_onRaise ?_))
  show wpAny _ _ (Builtin.SmallTypes.nextOf (.ref i1) >>= _) _ _ _
  refine wpAny_bind (next_item (h1.to (fun o e => (s1.extBut _ _ D.i1_z e))) (q1.to (fun o e => (s1.extBut _ _ D.l1_z e))) e1 fun g2 hn1 s2 => wpAny_pure ?_)
  have t2 : TupO g2 TO #[a1, a2] := (s2.extBut _ _ D.TO_i1 (s1.extBut _ _ D.TO_z hTO))
  refine wpAny_bind (wpAny_seqItems t2 rfl ?_)
  refine wpAny_bind (upd_arr t2 (fun g3 t3 s3 => ?_) (by simp))
  replace t3 : TupO g3 TO #[x1, a2] := t3
  refine wpAny_bind (wpAny_letGo (wpAny_pure ?_))
  refine wpAny_bind (wpAny_bind (wpAny_onRaise ?_))
  show wpAny _ _ (Builtin.SmallTypes.nextOf (.ref i2) >>= _) _ _ _
  refine wpAny_bind (next_item (h2.to (fun o e => (s3.extBut _ _ D.TO_i2.symm (s2.extBut _ _ D.i1_i2.symm (s1.extBut _ _ D.i2_z e))))) (q2.to (fun o e => (s3.extBut _ _ D.l2_TO (s2.extBut _ _ D.l2_i1 (s1.extBut _ _ D.l2_z e))))) e2 fun g4 hn2 s4 => wpAny_pure ?_)
  have t4 : TupO g4 TO #[x1, a2] := (s4.extBut _ _ D.TO_i2 t3)
  refine wpAny_bind (wpAny_seqItems t4 rfl ?_)
  refine wpAny_bind (upd_arr t4 (fun g5 t5 s5 => ?_) (by simp))
  replace t5 : TupO g5 TO #[x1, x2] := t5
  refine wpAny_bind (wpAny_letGo (wpAny_pure (wpAny_pure ?_)))
  refine wpAny_bind (wpAny_seqItems t5 rfl ?_)
  refine wpAny_bind (wpAny_newTuple ?_)
  have hsz : g5.objs.size = s.heap.objs.size := by rw [s5.1, s4.1, s3.1, s2.1, s1.1]
  have zz : IsZip g5 z TI TO .ellipsis := (s5.extBut _ _ D.TO_z.symm (s4.extBut _ _ D.i2_z.symm (s3.extBut _ _ D.TO_z.symm (s2.extBut _ _ D.i1_z.symm hz1))))
  have kk : ∀ c o, c ≠ z → c ≠ TO → c ≠ i1 → c ≠ i2 → s.heap.get? c = some o → g5.get? c = some o := fun c o cz ct c1 c2 e => (s5.extBut _ _ ct (s4.extBut _ _ c2 (s3.extBut _ _ ct (s2.extBut _ _ c1 (s1.extBut _ _ cz e)))))
  have y1 : ItAt b1 g5 i1 l1 (k + 1) := hn1.to (fun o e => (s5.extBut _ _ D.TO_i1.symm (s4.extBut _ _ D.i1_i2 (s3.extBut _ _ D.TO_i1.symm e))))
  have y2 : ItAt b2 g5 i2 l2 (k + 1) := hn2.to (fun o e => (s5.extBut _ _ D.TO_i2.symm e))
  have zlt : z < g5.objs.size := Heap.lt_size zz
  show wpAny _ _ (Builtin.SmallTypes.ownedTupleHandOut (.ref z) (.ref g5.objs.size) >>= _) _ _ _
  refine wpAny_bind ?_
  unfold Builtin.SmallTypes.ownedTupleHandOut
  have z6 : IsZip (g5.push { cls := .type "tuple", data := .seq #[x1, x2] }) z TI TO .ellipsis := Heap.get?_push_of_some _ zz
  refine wpAny_bind (wpAny_setField_rec z6 (by simp) fun f7 z7 u7 => ?_)
  replace z7 : IsZip f7 z TI TO (rawInt g5.objs.size) := z7
  refine wpAny_setField_rec z7 (by simp) fun f8 z8 u8 => ?_
  replace z8 : IsZip f8 z TI TO (rawInt g5.objs.size) := z8
  have up : ∀ c o, c ≠ z → g5.get? c = some o → f8.get? c = some o := fun c o cz e => u8.extBut _ _ cz (u7.extBut _ _ cz (Heap.get?_push_of_some _ e))
  have T8 : TupO f8 g5.objs.size #[x1, x2] := u8.extBut _ _ (Nat.ne_of_gt zlt) (u7.extBut _ _ (Nat.ne_of_gt zlt) (Heap.get?_push_size _ rfl))
  have w8 : f8.objs.size = g5.objs.size + 1 := by rw [u8.1, u7.1, Heap.size_push]
  rw [hsz] at z8 T8 w8
  refine wpAny_pure ⟨_, rfl, ?_⟩
  show Q (.ref g5.objs.size) _
  rw [hsz]
  exact hQ f8 z8 (up _ _ D.TO_z t5) (y1.to fun o e => up _ o D.i1_z e) (y2.to fun o e => up _ o D.i2_z e) T8 w8 fun c o cz ct c1 c2 e => up c o cz (kk c o cz ct c1 c2 e)
theorem zip2_end {b1 b2 : Bool} {z TI TO i1 i2 l1 l2 : Addr} {k : Nat} {xs1 xs2 : Array Value} {a1 a2 : Value} {Q : Fin → Shared → Prop} (hh : A.handled = none) (D : ZA2 z TI TO i1 i2 l1 l2)
    (hz : IsZip s.heap z TI TO .none) (hTI : TupO s.heap TI #[.ref i1, .ref i2]) (hTO : TupO s.heap TO #[a1, a2]) (h1 : ItAt b1 s.heap i1 l1 k) (q1 : SqAt b1 s.heap l1 xs1) (h2 : ItAt b2 s.heap i2 l2 k) (q2 : SqAt b2 s.heap l2 xs2) (hend : xs1[k]? = none ∨ xs2[k]? = none)
    (hE : ∀ h' e, (∀ c o, c ≠ z → c ≠ TO → c ≠ i1 → c ≠ i2 → s.heap.get? c = some o → h'.get? c = some o) → (∃ o, h'.get? e = some o ∧ o.cls = .type "StopIteration") → E (.ref e) { s with heap := h' }) :
    wpAny (model prog w) A (Builtin.«zip.__next__» ⟨[.ref z], []⟩) Q E s := by
  show wpAny _ _ (field (.ref z) 2 >>= _) _ _ _
  refine wpAny_bind (wpAny_field hz rfl (x := .bool false) rfl ?_)
  show wpAny _ _ (field (.ref z) 3 >>= _) _ _ _
  refine wpAny_bind (wpAny_field hz rfl (x := .ref TI) rfl ?_)
  refine wpAny_bind (wpAny_seqItems hTI rfl ?_)
  show wpAny _ _ (Builtin.SmallTypes.ownedTupleIsFree (.ref z) >>= _) _ _ _
  refine wpAny_bind ?_
  unfold Builtin.SmallTypes.ownedTupleIsFree
  refine wpAny_bind (wpAny_field hz rfl (x := .none) rfl (wpAny_pure ?_))
  simp only [if_true]
  refine wpAny_bind (wpAny_rule ?_)
  refine wpAny_bind (wpAny_field hz rfl (x := .ref TO) rfl ?_)
  refine wpAny_bind (wpAny_setField_rec hz (by simp) fun g1 hz1 s1 => ?_)
  replace hz1 : IsZip g1 z TI TO .ellipsis := hz1
  refine wpAny_bind ?_
  simp only [List.zipIdx_cons, List.zipIdx_nil, List.forIn_cons, List.forIn_nil]
  refine wpAny_bind (wpAny_bind (wpAny_onRaise ?_))
  show wpAny _ _ (Builtin.SmallTypes.nextOf (.ref i1) >>= _) _ _ _
  cases e1 : xs1[k]? with
  | none =>
    refine wpAny_bind (next_end hh (h1.to (fun o e => (s1.extBut _ _ D.i1_z e))) (q1.to (fun o e => (s1.extBut _ _ D.l1_z e))) e1 fun ge e se he => ?_)
    obtain ⟨oe, hoe, hce⟩ := he
    have ze : IsZip ge z TI TO .ellipsis := (se _ _ D.i1_z.symm hz1)
    have hez : e ≠ z := fun x => by subst x; rw [ze] at hoe; cases hoe; simp at hce
    exact wpAny_setField_rec ze (by simp) fun gf _ sf => hE gf e (fun c o cz ct c1 c2 e => sf.extBut _ _ cz (se _ _ c1 (s1.extBut _ _ cz e))) ⟨oe, sf.extBut _ _ hez hoe, hce⟩
  | some x1 =>
    refine wpAny_bind (next_item (h1.to (fun o e => (s1.extBut _ _ D.i1_z e))) (q1.to (fun o e => (s1.extBut _ _ D.l1_z e))) e1 fun g2 hn1 s2 => wpAny_pure ?_)
    have t2 : TupO g2 TO #[a1, a2] := (s2.extBut _ _ D.TO_i1 (s1.extBut _ _ D.TO_z hTO))
    refine wpAny_bind (wpAny_seqItems t2 rfl ?_)
    refine wpAny_bind (upd_arr t2 (fun g3 t3 s3 => ?_) (by simp))
    replace t3 : TupO g3 TO #[x1, a2] := t3
    refine wpAny_bind (wpAny_letGo (wpAny_pure ?_))
    refine wpAny_bind (wpAny_bind (wpAny_onRaise ?_))
    show wpAny _ _ (Builtin.SmallTypes.nextOf (.ref i2) >>= _) _ _ _
    cases e2 : xs2[k]? with
    | none =>
      refine wpAny_bind (next_end hh (h2.to (fun o e => (s3.extBut _ _ D.TO_i2.symm (s2.extBut _ _ D.i1_i2.symm (s1.extBut _ _ D.i2_z e))))) (q2.to (fun o e => (s3.extBut _ _ D.l2_TO (s2.extBut _ _ D.l2_i1 (s1.extBut _ _ D.l2_z e))))) e2 fun ge e se he => ?_)
      obtain ⟨oe, hoe, hce⟩ := he
      have ze : IsZip ge z TI TO .ellipsis := (se _ _ D.i2_z.symm (s3.extBut _ _ D.TO_z.symm (s2.extBut _ _ D.i1_z.symm hz1)))
      have hez : e ≠ z := fun x => by subst x; rw [ze] at hoe; cases hoe; simp at hce
      exact wpAny_setField_rec ze (by simp) fun gf _ sf => hE gf e (fun c o cz ct c1 c2 e => sf.extBut _ _ cz (se _ _ c2 (s3.extBut _ _ ct (s2.extBut _ _ c1 (s1.extBut _ _ cz e))))) ⟨oe, sf.extBut _ _ hez hoe, hce⟩
    | some x2 =>
      exfalso
      rcases hend with q | q
      · rw [e1] at q; cases q
      · rw [e2] at q; cases q
theorem pyNext2_item {b1 b2 : Bool} {z TI TO i1 i2 l1 l2 : Addr} {k : Nat} {xs1 xs2 : Array Value} {x1 x2 a1 a2 : Value} {Q : Option Value → Shared → Prop} (D : ZA2 z TI TO i1 i2 l1 l2)
    (hz : IsZip s.heap z TI TO .none) (hTI : TupO s.heap TI #[.ref i1, .ref i2]) (hTO : TupO s.heap TO #[a1, a2]) (h1 : ItAt b1 s.heap i1 l1 k) (q1 : SqAt b1 s.heap l1 xs1) (h2 : ItAt b2 s.heap i2 l2 k) (q2 : SqAt b2 s.heap l2 xs2) (e1 : xs1[k]? = some x1) (e2 : xs2[k]? = some x2)
    (hQ : ∀ h', IsZip h' z TI TO (rawInt s.heap.objs.size) → TupO h' TO #[x1, x2] → ItAt b1 h' i1 l1 (k + 1) → ItAt b2 h' i2 l2 (k + 1) → TupO h' s.heap.objs.size #[x1, x2] → h'.objs.size = s.heap.objs.size + 1 →
      (∀ c o, c ≠ z → c ≠ TO → c ≠ i1 → c ≠ i2 → s.heap.get? c = some o → h'.get? c = some o) → Q (some (.ref s.heap.objs.size)) { s with heap := h' }) :
    wpAny (model prog w) A (pyNext (.ref z)) Q E s := by
  have hT : s.TypeIs (.ref z) "zip" := ⟨_, hz, rfl⟩
  unfold pyNext
  exact wpAny_bind (wpAny_attempt (wpAny_callSpecial?_slot (name := Str.ofString "__next__") hT F.slot_zip_next
    (wpAny_call_entry F.slot_zip_next hT F.entry_zip_next (zip2_item D hz hTI hTO h1 q1 h2 q2 e1 e2 fun h' p0 p1 p2 p3 p4 p5 p6 => wpAny_pure (hQ h' p0 p1 p2 p3 p4 p5 p6)) (F.args_zip_next_1 _))))
theorem pyNext2_end {b1 b2 : Bool} {z TI TO i1 i2 l1 l2 : Addr} {k : Nat} {xs1 xs2 : Array Value} {a1 a2 : Value} {Q : Option Value → Shared → Prop} (hh : A.handled = none) (D : ZA2 z TI TO i1 i2 l1 l2)
    (hz : IsZip s.heap z TI TO .none) (hTI : TupO s.heap TI #[.ref i1, .ref i2]) (hTO : TupO s.heap TO #[a1, a2]) (h1 : ItAt b1 s.heap i1 l1 k) (q1 : SqAt b1 s.heap l1 xs1) (h2 : ItAt b2 s.heap i2 l2 k) (q2 : SqAt b2 s.heap l2 xs2) (hend : xs1[k]? = none ∨ xs2[k]? = none)
    (hQ : ∀ h', (∀ c o, c ≠ z → c ≠ TO → c ≠ i1 → c ≠ i2 → s.heap.get? c = some o → h'.get? c = some o) → Q none { s with heap := h' }) : wpAny (model prog w) A (pyNext (.ref z)) Q E s := by
  have hT : s.TypeIs (.ref z) "zip" := ⟨_, hz, rfl⟩
  unfold pyNext
  refine wpAny_bind (wpAny_attempt (wpAny_callSpecial?_slot (name := Str.ofString "__next__") hT F.slot_zip_next
    (wpAny_call_entry F.slot_zip_next hT F.entry_zip_next (zip2_end hh D hz hTI hTO h1 q1 h2 q2 hend fun h' e hk he => ?_) (F.args_zip_next_1 _))))
  obtain ⟨o, ho, hc⟩ := he
  refine wpAny_bind (wpAny_isInstance (T := "StopIteration") (b := true) ⟨o, ho, hc⟩ isSubtype_stop ?_)
  exact wpAny_pure (hQ _ hk)
end
structure ZA3 (z TI TO i1 i2 i3 l1 l2 l3 : Addr) : Prop where
  TI_z : TI ≠ z
  TO_z : TO ≠ z
  i1_z : i1 ≠ z
  i2_z : i2 ≠ z
  i3_z : i3 ≠ z
  TI_TO : TI ≠ TO
  TI_i1 : TI ≠ i1
  TO_i1 : TO ≠ i1
  TI_i2 : TI ≠ i2
  TO_i2 : TO ≠ i2
  TI_i3 : TI ≠ i3
  TO_i3 : TO ≠ i3
  i1_i2 : i1 ≠ i2
  i1_i3 : i1 ≠ i3
  i2_i3 : i2 ≠ i3
  l1_z : l1 ≠ z
  l1_TO : l1 ≠ TO
  l1_i1 : l1 ≠ i1
  l1_i2 : l1 ≠ i2
  l1_i3 : l1 ≠ i3
  l2_z : l2 ≠ z
  l2_TO : l2 ≠ TO
  l2_i1 : l2 ≠ i1
  l2_i2 : l2 ≠ i2
  l2_i3 : l2 ≠ i3
  l3_z : l3 ≠ z
  l3_TO : l3 ≠ TO
  l3_i1 : l3 ≠ i1
  l3_i2 : l3 ≠ i2
  l3_i3 : l3 ≠ i3
section
variable {prog : Program} {w : World} {A : Around} {E : Value → Shared → Prop} {s : Shared}
theorem zip3_item {b1 b2 b3 : Bool} {z TI TO i1 i2 i3 l1 l2 l3 : Addr} {k : Nat} {xs1 xs2 xs3 : Array Value} {x1 x2 x3 a1 a2 a3 : Value} {Q : Value → Shared → Prop} (D : ZA3 z TI TO i1 i2 i3 l1 l2 l3)
    (hz : IsZip s.heap z TI TO .none) (hTI : TupO s.heap TI #[.ref i1, .ref i2, .ref i3]) (hTO : TupO s.heap TO #[a1, a2, a3]) (h1 : ItAt b1 s.heap i1 l1 k) (q1 : SqAt b1 s.heap l1 xs1) (h2 : ItAt b2 s.heap i2 l2 k) (q2 : SqAt b2 s.heap l2 xs2) (h3 : ItAt b3 s.heap i3 l3 k) (q3 : SqAt b3 s.heap l3 xs3) (e1 : xs1[k]? = some x1) (e2 : xs2[k]? = some x2) (e3 : xs3[k]? = some x3)
    (hQ : ∀ h', IsZip h' z TI TO (rawInt s.heap.objs.size) → TupO h' TO #[x1, x2, x3] → ItAt b1 h' i1 l1 (k + 1) → ItAt b2 h' i2 l2 (k + 1) → ItAt b3 h' i3 l3 (k + 1) → TupO h' s.heap.objs.size #[x1, x2, x3] → h'.objs.size = s.heap.objs.size + 1 →
      (∀ c o, c ≠ z → c ≠ TO → c ≠ i1 → c ≠ i2 → c ≠ i3 → s.heap.get? c = some o → h'.get? c = some o) → Q (.ref s.heap.objs.size) { s with heap := h' }) :
    wpAny (model prog w) A (Builtin.«zip.__next__» ⟨[.ref z], []⟩) (fun fin s' => ∃ v, fin = .done (.ret v) ∧ Q v s') E s := by
  show wpAny _ _ (field (.ref z) 2 >>= _) _ _ _
  refine wpAny_bind (wpAny_field hz rfl (x := .bool false) rfl ?_)
  show wpAny _ _ (field (.ref z) 3 >>= _) _ _ _
  refine wpAny_bind (wpAny_field hz rfl (x := .ref TI) rfl ?_)
  refine wpAny_bind (wpAny_seqItems hTI rfl ?_)
  show wpAny _ _ (Builtin.SmallTypes.ownedTupleIsFree (.ref z) >>= _) _ _ _
  refine wpAny_bind ?_
  unfold Builtin.SmallTypes.ownedTupleIsFree
  refine wpAny_bind (wpAny_field hz rfl (x := .none) rfl (wpAny_pure ?_))
  simp only [if_true]
  refine wpAny_bind (wpAny_rule ?_)
  refine wpAny_bind (wpAny_field hz rfl (x := .ref TO) rfl ?_)
  refine wpAny_bind (wpAny_setField_rec hz (by simp) fun g1 hz1 s1 => ?_)
  replace hz1 : IsZip g1 z TI TO .ellipsis := hz1
  refine wpAny_bind ?_
  simp only [List.zipIdx_cons, List.zipIdx_nil, List.forIn_cons, List.forIn_nil]
  refine wpAny_bind (wpAny_bind (wpAny_onRaise ?_))
  show wpAny _ _ (Builtin.SmallTypes.nextOf (.ref i1) >>= _) _ _ _
  refine wpAny_bind (next_item (h1.to (fun o e => (s1.extBut _ _ D.i1_z e))) (q1.to (fun o e => (s1.extBut _ _ D.l1_z e))) e1 fun g2 hn1 s2 => wpAny_pure ?_)
  have t2 : TupO g2 TO #[a1, a2, a3] := (s2.extBut _ _ D.TO_i1 (s1.extBut _ _ D.TO_z hTO))
  refine wpAny_bind (wpAny_seqItems t2 rfl ?_)
  refine wpAny_bind (upd_arr t2 (fun g3 t3 s3 => ?_) (by simp))
  replace t3 : TupO g3 TO #[x1, a2, a3] := t3
  refine wpAny_bind (wpAny_letGo (wpAny_pure ?_))
  refine wpAny_bind (wpAny_bind (wpAny_onRaise ?_))
  show wpAny _ _ (Builtin.SmallTypes.nextOf (.ref i2) >>= _) _ _ _
  refine wpAny_bind (next_item (h2.to (fun o e => (s3.extBut _ _ D.TO_i2.symm (s2.extBut _ _ D.i1_i2.symm (s1.extBut _ _ D.i2_z e))))) (q2.to (fun o e => (s3.extBut _ _ D.l2_TO (s2.extBut _ _ D.l2_i1 (s1.extBut _ _ D.l2_z e))))) e2 fun g4 hn2 s4 => wpAny_pure ?_)
  have t4 : TupO g4 TO #[x1, a2, a3] := (s4.extBut _ _ D.TO_i2 t3)
  refine wpAny_bind (wpAny_seqItems t4 rfl ?_)
  refine wpAny_bind (upd_arr t4 (fun g5 t5 s5 => ?_) (by simp))
  replace t5 : TupO g5 TO #[x1, x2, a3] := t5
  refine wpAny_bind (wpAny_letGo (wpAny_pure ?_))
  refine wpAny_bind (wpAny_bind (wpAny_onRaise ?_))
  show wpAny _ _ (Builtin.SmallTypes.nextOf (.ref i3) >>= _) _ _ _
  refine wpAny_bind (next_item (h3.to (fun o e => (s5.extBut _ _ D.TO_i3.symm (s4.extBut _ _ D.i2_i3.symm (s3.extBut _ _ D.TO_i3.symm (s2.extBut _ _ D.i1_i3.symm (s1.extBut _ _ D.i3_z e))))))) (q3.to (fun o e => (s5.extBut _ _ D.l3_TO (s4.extBut _ _ D.l3_i2 (s3.extBut _ _ D.l3_TO (s2.extBut _ _ D.l3_i1 (s1.extBut _ _ D.l3_z e))))))) e3 fun g6 hn3 s6 => wpAny_pure ?_)
  have t6 : TupO g6 TO #[x1, x2, a3] := (s6.extBut _ _ D.TO_i3 t5)
  refine wpAny_bind (wpAny_seqItems t6 rfl ?_)
  refine wpAny_bind (upd_arr t6 (fun g7 t7 s7 => ?_) (by simp))
  replace t7 : TupO g7 TO #[x1, x2, x3] := t7
  refine wpAny_bind (wpAny_letGo (wpAny_pure (wpAny_pure ?_)))
  refine wpAny_bind (wpAny_seqItems t7 rfl ?_)
  refine wpAny_bind (wpAny_newTuple ?_)
  have hsz : g7.objs.size = s.heap.objs.size := by rw [s7.1, s6.1, s5.1, s4.1, s3.1, s2.1, s1.1]
  have zz : IsZip g7 z TI TO .ellipsis := (s7.extBut _ _ D.TO_z.symm (s6.extBut _ _ D.i3_z.symm (s5.extBut _ _ D.TO_z.symm (s4.extBut _ _ D.i2_z.symm (s3.extBut _ _ D.TO_z.symm (s2.extBut _ _ D.i1_z.symm hz1))))))
  have kk : ∀ c o, c ≠ z → c ≠ TO → c ≠ i1 → c ≠ i2 → c ≠ i3 → s.heap.get? c = some o → g7.get? c = some o := fun c o cz ct c1 c2 c3 e => (s7.extBut _ _ ct (s6.extBut _ _ c3 (s5.extBut _ _ ct (s4.extBut _ _ c2 (s3.extBut _ _ ct (s2.extBut _ _ c1 (s1.extBut _ _ cz e)))))))
  have y1 : ItAt b1 g7 i1 l1 (k + 1) := hn1.to (fun o e => (s7.extBut _ _ D.TO_i1.symm (s6.extBut _ _ D.i1_i3 (s5.extBut _ _ D.TO_i1.symm (s4.extBut _ _ D.i1_i2 (s3.extBut _ _ D.TO_i1.symm e))))))
  have y2 : ItAt b2 g7 i2 l2 (k + 1) := hn2.to (fun o e => (s7.extBut _ _ D.TO_i2.symm (s6.extBut _ _ D.i2_i3 (s5.extBut _ _ D.TO_i2.symm e))))
  have y3 : ItAt b3 g7 i3 l3 (k + 1) := hn3.to (fun o e => (s7.extBut _ _ D.TO_i3.symm e))
  have zlt : z < g7.objs.size := Heap.lt_size zz
  show wpAny _ _ (Builtin.SmallTypes.ownedTupleHandOut (.ref z) (.ref g7.objs.size) >>= _) _ _ _
  refine wpAny_bind ?_
  unfold Builtin.SmallTypes.ownedTupleHandOut
  have z6 : IsZip (g7.push { cls := .type "tuple", data := .seq #[x1, x2, x3] }) z TI TO .ellipsis := Heap.get?_push_of_some _ zz
  refine wpAny_bind (wpAny_setField_rec z6 (by simp) fun f7 z7 u7 => ?_)
  replace z7 : IsZip f7 z TI TO (rawInt g7.objs.size) := z7
  refine wpAny_setField_rec z7 (by simp) fun f8 z8 u8 => ?_
  replace z8 : IsZip f8 z TI TO (rawInt g7.objs.size) := z8
  have up : ∀ c o, c ≠ z → g7.get? c = some o → f8.get? c = some o := fun c o cz e => u8.extBut _ _ cz (u7.extBut _ _ cz (Heap.get?_push_of_some _ e))
  have T8 : TupO f8 g7.objs.size #[x1, x2, x3] := u8.extBut _ _ (Nat.ne_of_gt zlt) (u7.extBut _ _ (Nat.ne_of_gt zlt) (Heap.get?_push_size _ rfl))
  have w8 : f8.objs.size = g7.objs.size + 1 := by rw [u8.1, u7.1, Heap.size_push]
  rw [hsz] at z8 T8 w8
  refine wpAny_pure ⟨_, rfl, ?_⟩
  show Q (.ref g7.objs.size) _
  rw [hsz]
  exact hQ f8 z8 (up _ _ D.TO_z t7) (y1.to fun o e => up _ o D.i1_z e) (y2.to fun o e => up _ o D.i2_z e) (y3.to fun o e => up _ o D.i3_z e) T8 w8 fun c o cz ct c1 c2 c3 e => up c o cz (kk c o cz ct c1 c2 c3 e)
theorem zip3_end {b1 b2 b3 : Bool} {z TI TO i1 i2 i3 l1 l2 l3 : Addr} {k : Nat} {xs1 xs2 xs3 : Array Value} {a1 a2 a3 : Value} {Q : Fin → Shared → Prop} (hh : A.handled = none) (D : ZA3 z TI TO i1 i2 i3 l1 l2 l3)
    (hz : IsZip s.heap z TI TO .none) (hTI : TupO s.heap TI #[.ref i1, .ref i2, .ref i3]) (hTO : TupO s.heap TO #[a1, a2, a3]) (h1 : ItAt b1 s.heap i1 l1 k) (q1 : SqAt b1 s.heap l1 xs1) (h2 : ItAt b2 s.heap i2 l2 k) (q2 : SqAt b2 s.heap l2 xs2) (h3 : ItAt b3 s.heap i3 l3 k) (q3 : SqAt b3 s.heap l3 xs3) (hend : xs1[k]? = none ∨ xs2[k]? = none ∨ xs3[k]? = none)
    (hE : ∀ h' e, (∀ c o, c ≠ z → c ≠ TO → c ≠ i1 → c ≠ i2 → c ≠ i3 → s.heap.get? c = some o → h'.get? c = some o) → (∃ o, h'.get? e = some o ∧ o.cls = .type "StopIteration") → E (.ref e) { s with heap := h' }) :
    wpAny (model prog w) A (Builtin.«zip.__next__» ⟨[.ref z], []⟩) Q E s := by
  show wpAny _ _ (field (.ref z) 2 >>= _) _ _ _
  refine wpAny_bind (wpAny_field hz rfl (x := .bool false) rfl ?_)
  show wpAny _ _ (field (.ref z) 3 >>= _) _ _ _
  refine wpAny_bind (wpAny_field hz rfl (x := .ref TI) rfl ?_)
  refine wpAny_bind (wpAny_seqItems hTI rfl ?_)
  show wpAny _ _ (Builtin.SmallTypes.ownedTupleIsFree (.ref z) >>= _) _ _ _
  refine wpAny_bind ?_
  unfold Builtin.SmallTypes.ownedTupleIsFree
  refine wpAny_bind (wpAny_field hz rfl (x := .none) rfl (wpAny_pure ?_))
  simp only [if_true]
  refine wpAny_bind (wpAny_rule ?_)
  refine wpAny_bind (wpAny_field hz rfl (x := .ref TO) rfl ?_)
  refine wpAny_bind (wpAny_setField_rec hz (by simp) fun g1 hz1 s1 => ?_)
  replace hz1 : IsZip g1 z TI TO .ellipsis := hz1
  refine wpAny_bind ?_
  simp only [List.zipIdx_cons, List.zipIdx_nil, List.forIn_cons, List.forIn_nil]
  refine wpAny_bind (wpAny_bind (wpAny_onRaise ?_))
  show wpAny _ _ (Builtin.SmallTypes.nextOf (.ref i1) >>= _) _ _ _
  cases e1 : xs1[k]? with
  | none =>
    refine wpAny_bind (next_end hh (h1.to (fun o e => (s1.extBut _ _ D.i1_z e))) (q1.to (fun o e => (s1.extBut _ _ D.l1_z e))) e1 fun ge e se he => ?_)
    obtain ⟨oe, hoe, hce⟩ := he
    have ze : IsZip ge z TI TO .ellipsis := (se _ _ D.i1_z.symm hz1)
    have hez : e ≠ z := fun x => by subst x; rw [ze] at hoe; cases hoe; simp at hce
    exact wpAny_setField_rec ze (by simp) fun gf _ sf => hE gf e (fun c o cz ct c1 c2 c3 e => sf.extBut _ _ cz (se _ _ c1 (s1.extBut _ _ cz e))) ⟨oe, sf.extBut _ _ hez hoe, hce⟩
  | some x1 =>
    refine wpAny_bind (next_item (h1.to (fun o e => (s1.extBut _ _ D.i1_z e))) (q1.to (fun o e => (s1.extBut _ _ D.l1_z e))) e1 fun g2 hn1 s2 => wpAny_pure ?_)
    have t2 : TupO g2 TO #[a1, a2, a3] := (s2.extBut _ _ D.TO_i1 (s1.extBut _ _ D.TO_z hTO))
    refine wpAny_bind (wpAny_seqItems t2 rfl ?_)
    refine wpAny_bind (upd_arr t2 (fun g3 t3 s3 => ?_) (by simp))
    replace t3 : TupO g3 TO #[x1, a2, a3] := t3
    refine wpAny_bind (wpAny_letGo (wpAny_pure ?_))
    refine wpAny_bind (wpAny_bind (wpAny_onRaise ?_))
    show wpAny _ _ (Builtin.SmallTypes.nextOf (.ref i2) >>= _) _ _ _
    cases e2 : xs2[k]? with
    | none =>
      refine wpAny_bind (next_end hh (h2.to (fun o e => (s3.extBut _ _ D.TO_i2.symm (s2.extBut _ _ D.i1_i2.symm (s1.extBut _ _ D.i2_z e))))) (q2.to (fun o e => (s3.extBut _ _ D.l2_TO (s2.extBut _ _ D.l2_i1 (s1.extBut _ _ D.l2_z e))))) e2 fun ge e se he => ?_)
      obtain ⟨oe, hoe, hce⟩ := he
      have ze : IsZip ge z TI TO .ellipsis := (se _ _ D.i2_z.symm (s3.extBut _ _ D.TO_z.symm (s2.extBut _ _ D.i1_z.symm hz1)))
      have hez : e ≠ z := fun x => by subst x; rw [ze] at hoe; cases hoe; simp at hce
      exact wpAny_setField_rec ze (by simp) fun gf _ sf => hE gf e (fun c o cz ct c1 c2 c3 e => sf.extBut _ _ cz (se _ _ c2 (s3.extBut _ _ ct (s2.extBut _ _ c1 (s1.extBut _ _ cz e))))) ⟨oe, sf.extBut _ _ hez hoe, hce⟩
    | some x2 =>
      refine wpAny_bind (next_item (h2.to (fun o e => (s3.extBut _ _ D.TO_i2.symm (s2.extBut _ _ D.i1_i2.symm (s1.extBut _ _ D.i2_z e))))) (q2.to (fun o e => (s3.extBut _ _ D.l2_TO (s2.extBut _ _ D.l2_i1 (s1.extBut _ _ D.l2_z e))))) e2 fun g4 hn2 s4 => wpAny_pure ?_)
      have t4 : TupO g4 TO #[x1, a2, a3] := (s4.extBut _ _ D.TO_i2 t3)
      refine wpAny_bind (wpAny_seqItems t4 rfl ?_)
      refine wpAny_bind (upd_arr t4 (fun g5 t5 s5 => ?_) (by simp))
      replace t5 : TupO g5 TO #[x1, x2, a3] := t5
      refine wpAny_bind (wpAny_letGo (wpAny_pure ?_))
      refine wpAny_bind (wpAny_bind (wpAny_onRaise ?_))
      show wpAny _ _ (Builtin.SmallTypes.nextOf (.ref i3) >>= _) _ _ _
      cases e3 : xs3[k]? with
      | none =>
        refine wpAny_bind (next_end hh (h3.to (fun o e => (s5.extBut _ _ D.TO_i3.symm (s4.extBut _ _ D.i2_i3.symm (s3.extBut _ _ D.TO_i3.symm (s2.extBut _ _ D.i1_i3.symm (s1.extBut _ _ D.i3_z e))))))) (q3.to (fun o e => (s5.extBut _ _ D.l3_TO (s4.extBut _ _ D.l3_i2 (s3.extBut _ _ D.l3_TO (s2.extBut _ _ D.l3_i1 (s1.extBut _ _ D.l3_z e))))))) e3 fun ge e se he => ?_)
        obtain ⟨oe, hoe, hce⟩ := he
        have ze : IsZip ge z TI TO .ellipsis := (se _ _ D.i3_z.symm (s5.extBut _ _ D.TO_z.symm (s4.extBut _ _ D.i2_z.symm (s3.extBut _ _ D.TO_z.symm (s2.extBut _ _ D.i1_z.symm hz1)))))
        have hez : e ≠ z := fun x => by subst x; rw [ze] at hoe; cases hoe; simp at hce
        exact wpAny_setField_rec ze (by simp) fun gf _ sf => hE gf e (fun c o cz ct c1 c2 c3 e => sf.extBut _ _ cz (se _ _ c3 (s5.extBut _ _ ct (s4.extBut _ _ c2 (s3.extBut _ _ ct (s2.extBut _ _ c1 (s1.extBut _ _ cz e))))))) ⟨oe, sf.extBut _ _ hez hoe, hce⟩
      | some x3 =>
        exfalso
        rcases hend with q | q | q
        · rw [e1] at q; cases q
        · rw [e2] at q; cases q
        · rw [e3] at q; cases q
theorem pyNext3_item {b1 b2 b3 : Bool} {z TI TO i1 i2 i3 l1 l2 l3 : Addr} {k : Nat} {xs1 xs2 xs3 : Array Value} {x1 x2 x3 a1 a2 a3 : Value} {Q : Option Value → Shared → Prop} (D : ZA3 z TI TO i1 i2 i3 l1 l2 l3)
    (hz : IsZip s.heap z TI TO .none) (hTI : TupO s.heap TI #[.ref i1, .ref i2, .ref i3]) (hTO : TupO s.heap TO #[a1, a2, a3]) (h1 : ItAt b1 s.heap i1 l1 k) (q1 : SqAt b1 s.heap l1 xs1) (h2 : ItAt b2 s.heap i2 l2 k) (q2 : SqAt b2 s.heap l2 xs2) (h3 : ItAt b3 s.heap i3 l3 k) (q3 : SqAt b3 s.heap l3 xs3) (e1 : xs1[k]? = some x1) (e2 : xs2[k]? = some x2) (e3 : xs3[k]? = some x3)
    (hQ : ∀ h', IsZip h' z TI TO (rawInt s.heap.objs.size) → TupO h' TO #[x1, x2, x3] → ItAt b1 h' i1 l1 (k + 1) → ItAt b2 h' i2 l2 (k + 1) → ItAt b3 h' i3 l3 (k + 1) → TupO h' s.heap.objs.size #[x1, x2, x3] → h'.objs.size = s.heap.objs.size + 1 →
      (∀ c o, c ≠ z → c ≠ TO → c ≠ i1 → c ≠ i2 → c ≠ i3 → s.heap.get? c = some o → h'.get? c = some o) → Q (some (.ref s.heap.objs.size)) { s with heap := h' }) :
    wpAny (model prog w) A (pyNext (.ref z)) Q E s := by
  have hT : s.TypeIs (.ref z) "zip" := ⟨_, hz, rfl⟩
  unfold pyNext
  exact wpAny_bind (wpAny_attempt (wpAny_callSpecial?_slot (name := Str.ofString "__next__") hT F.slot_zip_next
    (wpAny_call_entry F.slot_zip_next hT F.entry_zip_next (zip3_item D hz hTI hTO h1 q1 h2 q2 h3 q3 e1 e2 e3 fun h' p0 p1 p2 p3 p4 p5 p6 p7 => wpAny_pure (hQ h' p0 p1 p2 p3 p4 p5 p6 p7)) (F.args_zip_next_1 _))))
theorem pyNext3_end {b1 b2 b3 : Bool} {z TI TO i1 i2 i3 l1 l2 l3 : Addr} {k : Nat} {xs1 xs2 xs3 : Array Value} {a1 a2 a3 : Value} {Q : Option Value → Shared → Prop} (hh : A.handled = none) (D : ZA3 z TI TO i1 i2 i3 l1 l2 l3)
    (hz : IsZip s.heap z TI TO .none) (hTI : TupO s.heap TI #[.ref i1, .ref i2, .ref i3]) (hTO : TupO s.heap TO #[a1, a2, a3]) (h1 : ItAt b1 s.heap i1 l1 k) (q1 : SqAt b1 s.heap l1 xs1) (h2 : ItAt b2 s.heap i2 l2 k) (q2 : SqAt b2 s.heap l2 xs2) (h3 : ItAt b3 s.heap i3 l3 k) (q3 : SqAt b3 s.heap l3 xs3) (hend : xs1[k]? = none ∨ xs2[k]? = none ∨ xs3[k]? = none)
    (hQ : ∀ h', (∀ c o, c ≠ z → c ≠ TO → c ≠ i1 → c ≠ i2 → c ≠ i3 → s.heap.get? c = some o → h'.get? c = some o) → Q none { s with heap := h' }) : wpAny (model prog w) A (pyNext (.ref z)) Q E s := by
  have hT : s.TypeIs (.ref z) "zip" := ⟨_, hz, rfl⟩
  unfold pyNext
  refine wpAny_bind (wpAny_attempt (wpAny_callSpecial?_slot (name := Str.ofString "__next__") hT F.slot_zip_next
    (wpAny_call_entry F.slot_zip_next hT F.entry_zip_next (zip3_end hh D hz hTI hTO h1 q1 h2 q2 h3 q3 hend fun h' e hk he => ?_) (F.args_zip_next_1 _))))
  obtain ⟨o, ho, hc⟩ := he
  refine wpAny_bind (wpAny_isInstance (T := "StopIteration") (b := true) ⟨o, ho, hc⟩ isSubtype_stop ?_)
  exact wpAny_pure (hQ _ hk)
end


def SqB (K : PySem.W.Frag) (b : Bool) (H : Hp) (a : Addr) (xs : List V) : Prop := match b with
  | true => SqL K H a xs
  | false => SqT K H a xs
section
variable {X : Cx} {pins : List (Addr × Obj)} {σ : L2.St} {H : Hp} {s : Shared}
theorem sqb_at {b : Bool} {a : Addr} {xs : List V} (I : Inv X pins σ H s) (h : SqB X.K b H a xs) : ∃ its : List Value, Vals xs its ∧ SqAt b s.heap a its.toArray := by
  cases b with
  | true =>
    obtain ⟨its, rv, p, _⟩ := I.list h
    exact ⟨its, rv, p.isList⟩
  | false =>
    obtain ⟨its, rv, p, _⟩ := I.tuple h
    exact ⟨its, rv, p⟩
theorem sqb_inj {b : Bool} {a : Addr} {xs ys : List V} (I : Inv X pins σ H s) (h : SqB X.K b H a xs) (h' : SqB X.K b H a ys) : xs = ys := by
  cases b with
  | true => exact I.list_inj h h'
  | false => exact I.tuple_inj h h'
theorem SqAt.lt {b : Bool} {h : Heap} {l : Addr} {xs : Array Value} (x : SqAt b h l xs) : l < h.objs.size := by
  cases b with
  | true =>
    obtain ⟨o, e, r⟩ := x
    exact Heap.lt_size e
  | false =>
    obtain ⟨o, e, r⟩ := x
    exact Heap.lt_size e
theorem SqAt.push {b : Bool} {h : Heap} {l : Addr} {xs : Array Value} (x : SqAt b h l xs) (o : Obj) : SqAt b (h.push o) l xs := x.to fun u e => Heap.get?_push_of_some _ e
end
abbrev z2H1 (h : Heap) (b1 b2 : Bool) (l1 l2 : Addr) : Heap := h.push (itO b1 l1)
abbrev z2H2 (h : Heap) (b1 b2 : Bool) (l1 l2 : Addr) : Heap := (z2H1 h b1 b2 l1 l2).push (itO b2 l2)
abbrev z2H3 (h : Heap) (b1 b2 : Bool) (l1 l2 : Addr) : Heap := (z2H2 h b1 b2 l1 l2).push { cls := .type "tuple", data := .seq #[.ref h.objs.size, .ref (z2H1 h b1 b2 l1 l2).objs.size] }
abbrev z2H4 (h : Heap) (b1 b2 : Bool) (l1 l2 : Addr) : Heap := (z2H3 h b1 b2 l1 l2).push { cls := .type "tuple", data := .seq #[.none, .none] }
abbrev z2H5 (h : Heap) (b1 b2 : Bool) (l1 l2 : Addr) : Heap := (z2H4 h b1 b2 l1 l2).push { cls := .type "zip", data := .fields #[.none, .bool false, .bool false, .ref (z2H2 h b1 b2 l1 l2).objs.size, .ref (z2H3 h b1 b2 l1 l2).objs.size] }
theorem meets_zip2_new (b1 b2 : Bool) (l1 l2 : Addr) (xs1 xs2 : Array Value) :
    Meets (Builtin.«zip.__new__» ⟨[.type "zip", .ref l1, .ref l2], []⟩) (fun _ R s => SqAt b1 s.heap l1 xs1 ∧ SqAt b2 s.heap l2 xs2 ∧
      R (.ok (.ret (.ref (z2H4 s.heap b1 b2 l1 l2).objs.size))) { s with heap := (z2H5 s.heap b1 b2 l1 l2) }) :=
  .of_wp fun prog w A R s h => by
    obtain ⟨hp, g, d, tk, os⟩ := s; obtain ⟨hl1, hl2, h⟩ := h
    have hsub := sub_zip
    have hL1 : SqAt b1 (Shared.heap ⟨hp, g, d, tk, os⟩) l1 xs1 := hl1
    have hL2 : SqAt b2 (Shared.heap ⟨(hp.push (itO b1 l1)), g, d, tk, os⟩) l2 xs2 := (hl2.push _)
    wp_walk using iter_any hL1, iter_any hL2
    exact ⟨_, rfl, h⟩
section
variable {prog : Program} {w : World} {A : Around} {E : Value → Shared → Prop} {s : Shared}
theorem call_zip2M {b1 b2 : Bool} {l1 l2 : Addr} {xs1 xs2 : Array Value} {Q : Value → Shared → Prop} (hl1 : SqAt b1 s.heap l1 xs1) (hl2 : SqAt b2 s.heap l2 xs2)
    (h : ∀ h', IsZip h' (s.heap.objs.size + 4) (s.heap.objs.size + 2) (s.heap.objs.size + 3) .none → TupO h' (s.heap.objs.size + 2) #[.ref s.heap.objs.size, .ref (s.heap.objs.size + 1)] → TupO h' (s.heap.objs.size + 3) #[.none, .none] → ItAt b1 h' s.heap.objs.size l1 0 → ItAt b2 h' (s.heap.objs.size + 1) l2 0 → (∀ c o, s.heap.get? c = some o → h'.get? c = some o) → Q (.ref (s.heap.objs.size + 4)) { s with heap := h' }) :
    wpAny (model prog w) A (call (.type "zip") [.ref l1, .ref l2]) Q E s := by
  refine callType_new F.called_zip (by decide) (F.typeCall_zip_2 _ _) (F.newCall_zip_2 _ _) (fun obj => F.args_object_init_3 obj _ _) F.entry_zip_new
    (meets_zip2_new b1 b2 l1 l2 xs1 xs2) ⟨hl1, hl2, ?_⟩
  have z1 : (z2H1 s.heap b1 b2 l1 l2).objs.size = s.heap.objs.size + 1 := Heap.size_push ..
  have z2 : (z2H2 s.heap b1 b2 l1 l2).objs.size = s.heap.objs.size + 2 := by rw [Heap.size_push, z1]
  have z3 : (z2H3 s.heap b1 b2 l1 l2).objs.size = s.heap.objs.size + 3 := by rw [Heap.size_push, z2]
  have z4 : (z2H4 s.heap b1 b2 l1 l2).objs.size = s.heap.objs.size + 4 := by rw [Heap.size_push, z3]
  have z5 : (z2H5 s.heap b1 b2 l1 l2).objs.size = s.heap.objs.size + 5 := by rw [Heap.size_push, z4]
  have g5 : (z2H5 s.heap b1 b2 l1 l2).get? (z2H4 s.heap b1 b2 l1 l2).objs.size = some _ := (Heap.get?_push_size _ rfl)
  have g4 : (z2H5 s.heap b1 b2 l1 l2).get? (z2H3 s.heap b1 b2 l1 l2).objs.size = some _ := (Heap.get?_push_of_some _ (Heap.get?_push_size _ rfl))
  have g3 : (z2H5 s.heap b1 b2 l1 l2).get? (z2H2 s.heap b1 b2 l1 l2).objs.size = some _ := (Heap.get?_push_of_some _ (Heap.get?_push_of_some _ (Heap.get?_push_size _ rfl)))
  have g2 : (z2H5 s.heap b1 b2 l1 l2).get? (z2H1 s.heap b1 b2 l1 l2).objs.size = some _ := (Heap.get?_push_of_some _ (Heap.get?_push_of_some _ (Heap.get?_push_of_some _ (Heap.get?_push_size _ rfl))))
  have g1 : (z2H5 s.heap b1 b2 l1 l2).get? s.heap.objs.size = some _ := (Heap.get?_push_of_some _ (Heap.get?_push_of_some _ (Heap.get?_push_of_some _ (Heap.get?_push_of_some _ (Heap.get?_push_size _ rfl)))))
  show _ ∧ _
  rw [z2, z3, z4] at g5
  rw [z1, z2] at g3
  rw [z3] at g4
  rw [z1] at g2
  rw [z4]
  exact ⟨⟨_, g5, rfl⟩, h _ g5 g3 g4 (.new g1) (.new g2) fun c o x => (Heap.get?_push_of_some _ (Heap.get?_push_of_some _ (Heap.get?_push_of_some _ (Heap.get?_push_of_some _ (Heap.get?_push_of_some _ x)))))⟩
end
def ItzM2 (K : PySem.W.Frag) (b1 b2 : Bool) (l1 l2 : Addr) : It :=
  ⟨fun i H => ∃ (xs1 xs2 : List V) (x1 x2 : V), SqB K b1 H l1 xs1 ∧ SqB K b2 H l2 xs2 ∧ xs1[i]? = some x1 ∧ xs2[i]? = some x2,
    fun i H v H' => ∃ T x1 x2, v = .ref T ∧ H T = none ∧ H' = upd H T (.tup [x1, x2]) ∧ (∀ xs, SqB K b1 H l1 xs → xs[i]? = some x1) ∧ (∀ xs, SqB K b2 H l2 xs → xs[i]? = some x2),
    fun i H => ∃ xs1 xs2 : List V, SqB K b1 H l1 xs1 ∧ SqB K b2 H l2 xs2 ∧ (xs1.length ≤ i ∨ xs2.length ≤ i)⟩
theorem turn_zip2M {P : Program} {w : World} {K : PySem.W.Frag} {elts : List Expr} {kk : Nat} {tpos : Pos} {b1 b2 : Bool} {l1 l2 z TI TO i1 i2 : Addr} (D : ZA2 z TI TO i1 i2 l1 l2) :
    Turn P w K (.Tuple elts kk tpos) (ItzM2 K b1 b2 l1 l2) [z, TI, TO, i1, i2] z (fun i h => IsZip h z TI TO .none ∧ TupO h TI #[.ref i1, .ref i2] ∧ (∃ y1 y2, TupO h TO #[y1, y2]) ∧ ItAt b1 h i1 l1 i ∧ ItAt b2 h i2 l2 i) where
  mem := by simp
  obj := fun i h st c hc => by
    obtain ⟨hz, hTI, ⟨y1, y2, hTO⟩, h1, h2⟩ := st
    have e' : c = z ∨ c = TI ∨ c = TO ∨ c = i1 ∨ c = i2 := by simpa using hc
    rcases e' with q | q | q | q | q
    · rw [q]; exact ⟨_, hz, fun v q => nomatch q⟩
    · rw [q]; exact ⟨_, hTI, fun v q => nomatch q⟩
    · rw [q]; exact ⟨_, hTO, fun v q => nomatch q⟩
    · rw [q]; exact h1.ob
    · rw [q]; exact h2.ob
  keep := fun i h h' st k => by
    obtain ⟨hz, hTI, ⟨y1, y2, hTO⟩, h1, h2⟩ := st
    exact ⟨k z (by simp) _ hz, k TI (by simp) _ hTI, ⟨y1, y2, k TO (by simp) _ hTO⟩, h1.to fun o q => k i1 (by simp) o q, h2.to fun o q => k i2 (by simp) o q⟩
  item := by
    intro X hP hw hK hc i pins s σ H E I hf st hg
    subst hP hw hK
    obtain ⟨hz, hTI, ⟨y1, y2, hTO⟩, h1, h2⟩ := st
    obtain ⟨xs1, xs2, x1, x2, hq1, hq2, hx1, hx2⟩ := hg
    obtain ⟨its1, rv1, p1⟩ := sqb_at I hq1
    obtain ⟨u1, hu1, ru1⟩ := rv1.get hx1
    obtain ⟨its2, rv2, p2⟩ := sqb_at I hq2
    obtain ⟨u2, hu2, ru2⟩ := rv2.get hx2
    have hzl : z < s.heap.objs.size := Heap.lt_size hz
    refine pyNext2_item D hz hTI hTO h1 p1 h2 p2 (x1 := u1) (x2 := u2) (by simpa using hu1) (by simpa using hu2) fun h' z' TO' h1' h2' hT hsz hk => ?_
    refine ⟨_, rfl, wpAny_letOwnedTupleGo_zip (s := { s with heap := h' }) z' fun h'' z'' sb => ?_⟩
    have hT2 : h''.get? s.heap.objs.size = some { cls := .type "tuple", data := .seq #[u1, u2] } := (sb.2 _ (Nat.ne_of_gt hzl)).trans hT
    have new : ObjOk X.prog X.w (upd H s.heap.objs.size (.tup [x1, x2])) h'' s.heap.objs.size (.tup [x1, x2]) :=
      ⟨by show 2 ≤ sizeLine; decide, [u1, u2], .cons ru1 (.cons ru2 (.nil)), ⟨_, hT2, rfl, _, rfl⟩⟩
    have I1 : Inv X pins σ (upd H s.heap.objs.size (.tup [x1, x2])) { s with heap := h'' } :=
      I.turnedNew (t' := s.toks) (ch := [z, TI, TO, i1, i2]) (fun c o hb q => (sb.2 c (fun q' => hb (by simp [q']))).trans (hk c o (fun q' => hb (by simp [q'])) (fun q' => hb (by simp [q'])) (fun q' => hb (by simp [q'])) (fun q' => hb (by simp [q'])) q)) hf (Nat.le_refl _) new
    refine ⟨.ref s.heap.objs.size, _, I1, rfl, ⟨_, x1, x2, rfl, I.hok.fresh (Nat.le_refl _), rfl, fun l hl => by rw [sqb_inj I hl hq1]; exact hx1, fun l hl => by rw [sqb_inj I hl hq2]; exact hx2⟩, ⟨z'', ?_, ⟨u1, u2, ?_⟩, ?_, ?_⟩, fun c hcm => ?_⟩
    · exact (sb.2 _ D.TI_z).trans (hk _ _ D.TI_z D.TI_TO D.TI_i1 D.TI_i2 hTI)
    · exact (sb.2 _ D.TO_z).trans TO'
    · exact h1'.to fun o q => (sb.2 _ D.i1_z).trans q
    · exact h2'.to fun o q => (sb.2 _ D.i2_z).trans q
    · have hlt : c < s.heap.objs.size := by
        have e' : c = z ∨ c = TI ∨ c = TO ∨ c = i1 ∨ c = i2 := by simpa using hcm
        rcases e' with q | q | q | q | q
        · rw [q]; exact hzl
        · rw [q]; exact Heap.lt_size hTI
        · rw [q]; exact Heap.lt_size hTO
        · rw [q]; obtain ⟨_, e1, _⟩ := h1.ob; exact Heap.lt_size e1
        · rw [q]; obtain ⟨_, e1, _⟩ := h2.ob; exact Heap.lt_size e1
      rw [upd_ne (Nat.ne_of_lt hlt)]
      exact (hf c hcm).1
  done := by
    intro X hP hw hK hc i pins s σ H E I hf st hg
    subst hP hw hK
    obtain ⟨hz, hTI, ⟨y1, y2, hTO⟩, h1, h2⟩ := st
    obtain ⟨xs1, xs2, hq1, hq2, hend⟩ := hg
    obtain ⟨its1, rv1, p1⟩ := sqb_at I hq1
    have e1 := rv1.length
    obtain ⟨its2, rv2, p2⟩ := sqb_at I hq2
    have e2 := rv2.length
    have he : its1.toArray[i]? = none ∨ its2.toArray[i]? = none := by
      rcases hend with q | q
      · exact .inl (by simp; omega)
      · exact .inr ((by simp; omega))
    exact pyNext2_end (I.ok.hd hc) D hz hTI hTO h1 p1 h2 p2 he fun h' hk => ⟨rfl, I.turnedL (t' := s.toks) (ch := [z, TI, TO, i1, i2]) (fun c o hb q => hk c o (fun q' => hb (by simp [q'])) (fun q' => hb (by simp [q'])) (fun q' => hb (by simp [q'])) (fun q' => hb (by simp [q'])) q) hf⟩
  self := fun A i s Q E st h => wpAny_pyIter_zip st.1 h
def iZip2 (K : PySem.W.Frag) (ta : TA) : TI := fun σ H R => ta σ H fun vs H1 => ∃ (b1 b2 : Bool) (l1 l2 : Addr) (xs1 xs2 : List V), vs = [.ref l1, .ref l2] ∧ SqB K b1 H1 l1 xs1 ∧ SqB K b2 H1 l2 xs2 ∧ R (ItzM2 K b1 b2 l1 l2) H1
theorem pi_zip2M (K : PySem.W.Frag) {X : Cx} (hK : X.K = K) {e1 e2 : Expr} {ta : TA} {p pos tpos : Pos} {elts : List Expr} {kk : Nat} (hg : Gl X "zip") (hm : X.mg "zip" = none) (ha : PA X [e1, e2] ta)
    (hs : starEach [e1, e2] X.env = (false, eval e1 X.env) :: starEach [e2] X.env := by rfl) (hpl : (backTo pos (starEach [e2] X.env)).any (·.1) = false := by rfl) :
    PI X (.Tuple elts kk tpos) (.Call (.Name "zip" p) [e1, e2] [] pos) (iZip2 K ta) := by
  subst hK
  refine ⟨fun pins s σ H R I h => ?_⟩
  refine Call_ (ld_blt I hg hm PyProof.Rows.boot_zip (PyProof.Rows.callWith_type1 (thn (ha.run pos pins s σ H _ I h) fun us s1 ⟨vs, H1, I1, r1, q1⟩ => ?_) hs hpl))
  obtain ⟨b1, b2, l1, l2, xs1, xs2, ex, hq1, hq2, q1⟩ := q1
  subst ex
  have er : us = [.ref l1, .ref l2] := by
    cases r1 with | cons r1a r1 => 
      cases r1 with | cons r2a r1 => 
        cases r1
        cases r1a
        cases r2a
        rfl
  subst er
  obtain ⟨its1, rv1, p1⟩ := sqb_at I1 hq1
  obtain ⟨its2, rv2, p2⟩ := sqb_at I1 hq2
  have fresh : ∀ c, c ∈ [s1.heap.objs.size + 4, s1.heap.objs.size + 2, s1.heap.objs.size + 3, s1.heap.objs.size, s1.heap.objs.size + 1] → FpOk X pins H1 c := fun c hcm => by
    have e' : c = s1.heap.objs.size + 4 ∨ c = s1.heap.objs.size + 2 ∨ c = s1.heap.objs.size + 3 ∨ c = s1.heap.objs.size ∨ c = s1.heap.objs.size + 1 := by simpa using hcm
    have hle : s1.heap.objs.size ≤ c := by
      rcases e' with z | z | z | z | z <;> omega
    exact I1.fpOk hle (I1.hok.fresh hle)
  refine call_zip2M p1 p2 fun h' hz hTI hTO h1 h2 hk => wpAny_pyIter_zip hz ?_
  have I2 : Inv X pins σ H1 { s1 with heap := h' } := I1.kept (t' := s1.toks) hk
  have lt1 := p1.lt
  have lt2 := p2.lt
  have D : ZA2 (s1.heap.objs.size + 4) (s1.heap.objs.size + 2) (s1.heap.objs.size + 3) (s1.heap.objs.size) (s1.heap.objs.size + 1) l1 l2 := by constructor <;> (intro hq; have hq : @Eq Nat _ _ := hq; have lt1 : @LT.lt Nat _ l1 s1.heap.objs.size := lt1; have lt2 : @LT.lt Nat _ l2 s1.heap.objs.size := lt2; omega)
  exact ⟨s1.heap.objs.size + 4, [s1.heap.objs.size + 4, s1.heap.objs.size + 2, s1.heap.objs.size + 3, s1.heap.objs.size, s1.heap.objs.size + 1], _, _, H1, rfl, I2, turn_zip2M D, ⟨hz, hTI, ⟨_, _, hTO⟩, h1, h2⟩, fresh, q1⟩
def zipD2 (xs1 xs2 : List D) : List D := List.zipWith (fun x y => .tup [x, y]) xs1 xs2
/-- a sequence that stands still -/
def still : D → Option (List D)
  | .lst xs => some xs
  | .tup xs => some xs
  | _ => none
theorem still_at {K : PySem.W.Frag} {F ρ : List Addr} {H : Hp} {v : V} {d : D} {xs : List D} (h : Dt K F ρ H v d) (e : still d = some xs) : ∃ b a vs, v = .ref a ∧ SqB K b H a vs ∧ DtAll K F ρ H vs xs ∧ ∀ H', (∀ x o, H x = some o → x ∉ F ++ ρ → H' x = some o) → SqB K b H' a vs := by
  cases h with
  | lst na ea qa =>
    cases e
    exact ⟨true, _, _, rfl, SqL.of ea, qa, fun H' k => SqL.of (k _ _ ea na)⟩
  | tup na ea qa =>
    cases e
    exact ⟨false, _, _, rfl, SqT.of ea, qa, fun H' k => SqT.of (k _ _ ea na)⟩
  | _ => cases e
def dZip2 (T : DA) : DA := fun η μ => (T η μ).bind fun ds μ1 => match ds with
  | [d1, d2] => okO (still d1) fun xs1 => okO (still d2) fun xs2 => .ok (zipD2 xs1 xs2) μ1
  | _ => .bad
theorem zipD2_len {xs1 xs2 : List D} : (zipD2 xs1 xs2).length = min xs1.length xs2.length := by simp [zipD2]
theorem zipD2_get {xs1 xs2 : List D} {i : Nat} {x1 x2 : D} (h1 : xs1[i]? = some x1) (h2 : xs2[i]? = some x2) : (zipD2 xs1 xs2)[i]? = some (.tup [x1, x2]) := by simp [zipD2, List.getElem?_zipWith, h1, h2]
instance {K : PySem.W.Frag} {E : L2.St → XK} {t : TA} {T : DA} [a : SA K E t T] : SI K E (iZip2 K t) (dZip2 T) := ⟨fun {X F σ H η ρ μ P R} w e h o =>
  a.run w e (wp_bind h) fun vs H1 ρ1 ds μ1 w1 g1 q1 h1 => by
    split at h1
    · rename_i d1 d2
      obtain ⟨ys1, c1, k1⟩ := wp_okO h1
      obtain ⟨ys2, c2, k2⟩ := wp_okO k1
      cases q1 with | cons qd1 q1 =>
        cases q1 with | cons qd2 q1 =>
          cases q1
          obtain ⟨b1, l1, vs1, rfl, s1, a1, st1⟩ := still_at qd1 c1
          obtain ⟨b2, l2, vs2, rfl, s2, a2, st2⟩ := still_at qd2 c2
          refine ⟨b1, b2, l1, l2, vs1, vs2, rfl, s1, s2, o _ H1 ρ1 _ μ1 w1 g1 (walkD_of (n := (zipD2 ys1 ys2).length) (G := fun H => SqB K b1 H l1 vs1 ∧ SqB K b2 H l2 vs2) (Y := fun i H v H' => ∃ T x1 x2, v = .ref T ∧ H T = none ∧ H' = upd H T (.tup [x1, x2]) ∧ vs1[i]? = some x1 ∧ vs2[i]? = some x2) ⟨?_, ?_, ?_⟩ rfl ?_ ?_) k2⟩
          · intro i H hi q
            rw [zipD2_len] at hi
            have f1 : i < vs1.length := by rw [a1.len]; omega
            have f2 : i < vs2.length := by rw [a2.len]; omega
            exact ⟨vs1, vs2, vs1[i], vs2[i], q.1, q.2, by simp [f1], by simp [f2]⟩
          · intro H q
            rw [zipD2_len]
            exact ⟨vs1, vs2, q.1, q.2, by rw [a1.len, a2.len]; omega⟩
          · intro i H v H' _ q y
            obtain ⟨T, x1, x2, e1, e2, e3, k1, k2⟩ := y
            exact ⟨T, x1, x2, e1, e2, e3, k1 _ q.1, k2 _ q.2⟩
          · exact fun H k => ⟨st1 H k, st2 H k⟩
          · intro F' ρ μ H hf g w i v H' hi y
            obtain ⟨T, x1, x2, rfl, hT, rfl, k1, k2⟩ := y
            obtain ⟨dx1, ex1, qx1⟩ := (a1.off hf g).get k1
            obtain ⟨dx2, ex2, qx2⟩ := (a2.off hf g).get k2
            have gT : Grow ρ ρ H (upd H T (.tup [x1, x2])) := Grow.fresh hT
            exact ⟨w.lay hT, gT, _, zipD2_get ex1 ex2, .tup (w.fresh2 hT) upd_same (.cons (qx1.mono gT) (.cons (qx2.mono gT) (.nil)))⟩
    · exact h1.elim⟩
theorem typeCall_zip_3 (a b c : Value) : checkTypeCall "zip" ⟨[a, b, c], []⟩ = pure () := by kernel_rfl
theorem newCall_zip_3 (a b c : Value) : checkBuiltinCall "zip.__new__" ⟨[.type "zip", a, b, c], []⟩ = pure () := by kernel_rfl
theorem args_object_init_4 (a b c d : Value) : argsOk "object.__init__" ⟨[a, b, c, d], []⟩ := by
  unfold argsOk; kernel_rfl
abbrev z3H1 (h : Heap) (b1 b2 b3 : Bool) (l1 l2 l3 : Addr) : Heap := h.push (itO b1 l1)
abbrev z3H2 (h : Heap) (b1 b2 b3 : Bool) (l1 l2 l3 : Addr) : Heap := (z3H1 h b1 b2 b3 l1 l2 l3).push (itO b2 l2)
abbrev z3H3 (h : Heap) (b1 b2 b3 : Bool) (l1 l2 l3 : Addr) : Heap := (z3H2 h b1 b2 b3 l1 l2 l3).push (itO b3 l3)
abbrev z3H4 (h : Heap) (b1 b2 b3 : Bool) (l1 l2 l3 : Addr) : Heap := (z3H3 h b1 b2 b3 l1 l2 l3).push { cls := .type "tuple", data := .seq #[.ref h.objs.size, .ref (z3H1 h b1 b2 b3 l1 l2 l3).objs.size, .ref (z3H2 h b1 b2 b3 l1 l2 l3).objs.size] }
abbrev z3H5 (h : Heap) (b1 b2 b3 : Bool) (l1 l2 l3 : Addr) : Heap := (z3H4 h b1 b2 b3 l1 l2 l3).push { cls := .type "tuple", data := .seq #[.none, .none, .none] }
abbrev z3H6 (h : Heap) (b1 b2 b3 : Bool) (l1 l2 l3 : Addr) : Heap := (z3H5 h b1 b2 b3 l1 l2 l3).push { cls := .type "zip", data := .fields #[.none, .bool false, .bool false, .ref (z3H3 h b1 b2 b3 l1 l2 l3).objs.size, .ref (z3H4 h b1 b2 b3 l1 l2 l3).objs.size] }
theorem meets_zip3_new (b1 b2 b3 : Bool) (l1 l2 l3 : Addr) (xs1 xs2 xs3 : Array Value) :
    Meets (Builtin.«zip.__new__» ⟨[.type "zip", .ref l1, .ref l2, .ref l3], []⟩) (fun _ R s => SqAt b1 s.heap l1 xs1 ∧ SqAt b2 s.heap l2 xs2 ∧ SqAt b3 s.heap l3 xs3 ∧
      R (.ok (.ret (.ref (z3H5 s.heap b1 b2 b3 l1 l2 l3).objs.size))) { s with heap := (z3H6 s.heap b1 b2 b3 l1 l2 l3) }) :=
  .of_wp fun prog w A R s h => by
    obtain ⟨hp, g, d, tk, os⟩ := s; obtain ⟨hl1, hl2, hl3, h⟩ := h
    have hsub := sub_zip
    have hL1 : SqAt b1 (Shared.heap ⟨hp, g, d, tk, os⟩) l1 xs1 := hl1
    have hL2 : SqAt b2 (Shared.heap ⟨(hp.push (itO b1 l1)), g, d, tk, os⟩) l2 xs2 := (hl2.push _)
    have hL3 : SqAt b3 (Shared.heap ⟨((hp.push (itO b1 l1)).push (itO b2 l2)), g, d, tk, os⟩) l3 xs3 := ((hl3.push _).push _)
    wp_walk using iter_any hL1, iter_any hL2, iter_any hL3
    exact ⟨_, rfl, h⟩
section
variable {prog : Program} {w : World} {A : Around} {E : Value → Shared → Prop} {s : Shared}
theorem call_zip3M {b1 b2 b3 : Bool} {l1 l2 l3 : Addr} {xs1 xs2 xs3 : Array Value} {Q : Value → Shared → Prop} (hl1 : SqAt b1 s.heap l1 xs1) (hl2 : SqAt b2 s.heap l2 xs2) (hl3 : SqAt b3 s.heap l3 xs3)
    (h : ∀ h', IsZip h' (s.heap.objs.size + 5) (s.heap.objs.size + 3) (s.heap.objs.size + 4) .none → TupO h' (s.heap.objs.size + 3) #[.ref s.heap.objs.size, .ref (s.heap.objs.size + 1), .ref (s.heap.objs.size + 2)] → TupO h' (s.heap.objs.size + 4) #[.none, .none, .none] → ItAt b1 h' s.heap.objs.size l1 0 → ItAt b2 h' (s.heap.objs.size + 1) l2 0 → ItAt b3 h' (s.heap.objs.size + 2) l3 0 → (∀ c o, s.heap.get? c = some o → h'.get? c = some o) → Q (.ref (s.heap.objs.size + 5)) { s with heap := h' }) :
    wpAny (model prog w) A (call (.type "zip") [.ref l1, .ref l2, .ref l3]) Q E s := by
  refine callType_new F.called_zip (by decide) (typeCall_zip_3 _ _ _) (newCall_zip_3 _ _ _) (fun obj => args_object_init_4 obj _ _ _) F.entry_zip_new
    (meets_zip3_new b1 b2 b3 l1 l2 l3 xs1 xs2 xs3) ⟨hl1, hl2, hl3, ?_⟩
  have z1 : (z3H1 s.heap b1 b2 b3 l1 l2 l3).objs.size = s.heap.objs.size + 1 := Heap.size_push ..
  have z2 : (z3H2 s.heap b1 b2 b3 l1 l2 l3).objs.size = s.heap.objs.size + 2 := by rw [Heap.size_push, z1]
  have z3 : (z3H3 s.heap b1 b2 b3 l1 l2 l3).objs.size = s.heap.objs.size + 3 := by rw [Heap.size_push, z2]
  have z4 : (z3H4 s.heap b1 b2 b3 l1 l2 l3).objs.size = s.heap.objs.size + 4 := by rw [Heap.size_push, z3]
  have z5 : (z3H5 s.heap b1 b2 b3 l1 l2 l3).objs.size = s.heap.objs.size + 5 := by rw [Heap.size_push, z4]
  have z6 : (z3H6 s.heap b1 b2 b3 l1 l2 l3).objs.size = s.heap.objs.size + 6 := by rw [Heap.size_push, z5]
  have g6 : (z3H6 s.heap b1 b2 b3 l1 l2 l3).get? (z3H5 s.heap b1 b2 b3 l1 l2 l3).objs.size = some _ := (Heap.get?_push_size _ rfl)
  have g5 : (z3H6 s.heap b1 b2 b3 l1 l2 l3).get? (z3H4 s.heap b1 b2 b3 l1 l2 l3).objs.size = some _ := (Heap.get?_push_of_some _ (Heap.get?_push_size _ rfl))
  have g4 : (z3H6 s.heap b1 b2 b3 l1 l2 l3).get? (z3H3 s.heap b1 b2 b3 l1 l2 l3).objs.size = some _ := (Heap.get?_push_of_some _ (Heap.get?_push_of_some _ (Heap.get?_push_size _ rfl)))
  have g3 : (z3H6 s.heap b1 b2 b3 l1 l2 l3).get? (z3H2 s.heap b1 b2 b3 l1 l2 l3).objs.size = some _ := (Heap.get?_push_of_some _ (Heap.get?_push_of_some _ (Heap.get?_push_of_some _ (Heap.get?_push_size _ rfl))))
  have g2 : (z3H6 s.heap b1 b2 b3 l1 l2 l3).get? (z3H1 s.heap b1 b2 b3 l1 l2 l3).objs.size = some _ := (Heap.get?_push_of_some _ (Heap.get?_push_of_some _ (Heap.get?_push_of_some _ (Heap.get?_push_of_some _ (Heap.get?_push_size _ rfl)))))
  have g1 : (z3H6 s.heap b1 b2 b3 l1 l2 l3).get? s.heap.objs.size = some _ := (Heap.get?_push_of_some _ (Heap.get?_push_of_some _ (Heap.get?_push_of_some _ (Heap.get?_push_of_some _ (Heap.get?_push_of_some _ (Heap.get?_push_size _ rfl))))))
  show _ ∧ _
  rw [z3, z4, z5] at g6
  rw [z1, z2, z3] at g4
  rw [z4] at g5
  rw [z1] at g2
  rw [z2] at g3
  rw [z5]
  exact ⟨⟨_, g6, rfl⟩, h _ g6 g4 g5 (.new g1) (.new g2) (.new g3) fun c o x => (Heap.get?_push_of_some _ (Heap.get?_push_of_some _ (Heap.get?_push_of_some _ (Heap.get?_push_of_some _ (Heap.get?_push_of_some _ (Heap.get?_push_of_some _ x))))))⟩
end
def ItzM3 (K : PySem.W.Frag) (b1 b2 b3 : Bool) (l1 l2 l3 : Addr) : It :=
  ⟨fun i H => ∃ (xs1 xs2 xs3 : List V) (x1 x2 x3 : V), SqB K b1 H l1 xs1 ∧ SqB K b2 H l2 xs2 ∧ SqB K b3 H l3 xs3 ∧ xs1[i]? = some x1 ∧ xs2[i]? = some x2 ∧ xs3[i]? = some x3,
    fun i H v H' => ∃ T x1 x2 x3, v = .ref T ∧ H T = none ∧ H' = upd H T (.tup [x1, x2, x3]) ∧ (∀ xs, SqB K b1 H l1 xs → xs[i]? = some x1) ∧ (∀ xs, SqB K b2 H l2 xs → xs[i]? = some x2) ∧ (∀ xs, SqB K b3 H l3 xs → xs[i]? = some x3),
    fun i H => ∃ xs1 xs2 xs3 : List V, SqB K b1 H l1 xs1 ∧ SqB K b2 H l2 xs2 ∧ SqB K b3 H l3 xs3 ∧ (xs1.length ≤ i ∨ xs2.length ≤ i ∨ xs3.length ≤ i)⟩
theorem turn_zip3M {P : Program} {w : World} {K : PySem.W.Frag} {elts : List Expr} {kk : Nat} {tpos : Pos} {b1 b2 b3 : Bool} {l1 l2 l3 z TI TO i1 i2 i3 : Addr} (D : ZA3 z TI TO i1 i2 i3 l1 l2 l3) :
    Turn P w K (.Tuple elts kk tpos) (ItzM3 K b1 b2 b3 l1 l2 l3) [z, TI, TO, i1, i2, i3] z (fun i h => IsZip h z TI TO .none ∧ TupO h TI #[.ref i1, .ref i2, .ref i3] ∧ (∃ y1 y2 y3, TupO h TO #[y1, y2, y3]) ∧ ItAt b1 h i1 l1 i ∧ ItAt b2 h i2 l2 i ∧ ItAt b3 h i3 l3 i) where
  mem := by simp
  obj := fun i h st c hc => by
    obtain ⟨hz, hTI, ⟨y1, y2, y3, hTO⟩, h1, h2, h3⟩ := st
    have e' : c = z ∨ c = TI ∨ c = TO ∨ c = i1 ∨ c = i2 ∨ c = i3 := by simpa using hc
    rcases e' with q | q | q | q | q | q
    · rw [q]; exact ⟨_, hz, fun v q => nomatch q⟩
    · rw [q]; exact ⟨_, hTI, fun v q => nomatch q⟩
    · rw [q]; exact ⟨_, hTO, fun v q => nomatch q⟩
    · rw [q]; exact h1.ob
    · rw [q]; exact h2.ob
    · rw [q]; exact h3.ob
  keep := fun i h h' st k => by
    obtain ⟨hz, hTI, ⟨y1, y2, y3, hTO⟩, h1, h2, h3⟩ := st
    exact ⟨k z (by simp) _ hz, k TI (by simp) _ hTI, ⟨y1, y2, y3, k TO (by simp) _ hTO⟩, h1.to fun o q => k i1 (by simp) o q, h2.to fun o q => k i2 (by simp) o q, h3.to fun o q => k i3 (by simp) o q⟩
  item := by
    intro X hP hw hK hc i pins s σ H E I hf st hg
    subst hP hw hK
    obtain ⟨hz, hTI, ⟨y1, y2, y3, hTO⟩, h1, h2, h3⟩ := st
    obtain ⟨xs1, xs2, xs3, x1, x2, x3, hq1, hq2, hq3, hx1, hx2, hx3⟩ := hg
    obtain ⟨its1, rv1, p1⟩ := sqb_at I hq1
    obtain ⟨u1, hu1, ru1⟩ := rv1.get hx1
    obtain ⟨its2, rv2, p2⟩ := sqb_at I hq2
    obtain ⟨u2, hu2, ru2⟩ := rv2.get hx2
    obtain ⟨its3, rv3, p3⟩ := sqb_at I hq3
    obtain ⟨u3, hu3, ru3⟩ := rv3.get hx3
    have hzl : z < s.heap.objs.size := Heap.lt_size hz
    refine pyNext3_item D hz hTI hTO h1 p1 h2 p2 h3 p3 (x1 := u1) (x2 := u2) (x3 := u3) (by simpa using hu1) (by simpa using hu2) (by simpa using hu3) fun h' z' TO' h1' h2' h3' hT hsz hk => ?_
    refine ⟨_, rfl, wpAny_letOwnedTupleGo_zip (s := { s with heap := h' }) z' fun h'' z'' sb => ?_⟩
    have hT2 : h''.get? s.heap.objs.size = some { cls := .type "tuple", data := .seq #[u1, u2, u3] } := (sb.2 _ (Nat.ne_of_gt hzl)).trans hT
    have new : ObjOk X.prog X.w (upd H s.heap.objs.size (.tup [x1, x2, x3])) h'' s.heap.objs.size (.tup [x1, x2, x3]) :=
      ⟨by show 3 ≤ sizeLine; decide, [u1, u2, u3], .cons ru1 (.cons ru2 (.cons ru3 (.nil))), ⟨_, hT2, rfl, _, rfl⟩⟩
    have I1 : Inv X pins σ (upd H s.heap.objs.size (.tup [x1, x2, x3])) { s with heap := h'' } :=
      I.turnedNew (t' := s.toks) (ch := [z, TI, TO, i1, i2, i3]) (fun c o hb q => (sb.2 c (fun q' => hb (by simp [q']))).trans (hk c o (fun q' => hb (by simp [q'])) (fun q' => hb (by simp [q'])) (fun q' => hb (by simp [q'])) (fun q' => hb (by simp [q'])) (fun q' => hb (by simp [q'])) q)) hf (Nat.le_refl _) new
    refine ⟨.ref s.heap.objs.size, _, I1, rfl, ⟨_, x1, x2, x3, rfl, I.hok.fresh (Nat.le_refl _), rfl, fun l hl => by rw [sqb_inj I hl hq1]; exact hx1, fun l hl => by rw [sqb_inj I hl hq2]; exact hx2, fun l hl => by rw [sqb_inj I hl hq3]; exact hx3⟩, ⟨z'', ?_, ⟨u1, u2, u3, ?_⟩, ?_, ?_, ?_⟩, fun c hcm => ?_⟩
    · exact (sb.2 _ D.TI_z).trans (hk _ _ D.TI_z D.TI_TO D.TI_i1 D.TI_i2 D.TI_i3 hTI)
    · exact (sb.2 _ D.TO_z).trans TO'
    · exact h1'.to fun o q => (sb.2 _ D.i1_z).trans q
    · exact h2'.to fun o q => (sb.2 _ D.i2_z).trans q
    · exact h3'.to fun o q => (sb.2 _ D.i3_z).trans q
    · have hlt : c < s.heap.objs.size := by
        have e' : c = z ∨ c = TI ∨ c = TO ∨ c = i1 ∨ c = i2 ∨ c = i3 := by simpa using hcm
        rcases e' with q | q | q | q | q | q
        · rw [q]; exact hzl
        · rw [q]; exact Heap.lt_size hTI
        · rw [q]; exact Heap.lt_size hTO
        · rw [q]; obtain ⟨_, e1, _⟩ := h1.ob; exact Heap.lt_size e1
        · rw [q]; obtain ⟨_, e1, _⟩ := h2.ob; exact Heap.lt_size e1
        · rw [q]; obtain ⟨_, e1, _⟩ := h3.ob; exact Heap.lt_size e1
      rw [upd_ne (Nat.ne_of_lt hlt)]
      exact (hf c hcm).1
  done := by
    intro X hP hw hK hc i pins s σ H E I hf st hg
    subst hP hw hK
    obtain ⟨hz, hTI, ⟨y1, y2, y3, hTO⟩, h1, h2, h3⟩ := st
    obtain ⟨xs1, xs2, xs3, hq1, hq2, hq3, hend⟩ := hg
    obtain ⟨its1, rv1, p1⟩ := sqb_at I hq1
    have e1 := rv1.length
    obtain ⟨its2, rv2, p2⟩ := sqb_at I hq2
    have e2 := rv2.length
    obtain ⟨its3, rv3, p3⟩ := sqb_at I hq3
    have e3 := rv3.length
    have he : its1.toArray[i]? = none ∨ its2.toArray[i]? = none ∨ its3.toArray[i]? = none := by
      rcases hend with q | q | q
      · exact .inl (by simp; omega)
      · exact .inr (.inl (by simp; omega))
      · exact .inr (.inr ((by simp; omega)))
    exact pyNext3_end (I.ok.hd hc) D hz hTI hTO h1 p1 h2 p2 h3 p3 he fun h' hk => ⟨rfl, I.turnedL (t' := s.toks) (ch := [z, TI, TO, i1, i2, i3]) (fun c o hb q => hk c o (fun q' => hb (by simp [q'])) (fun q' => hb (by simp [q'])) (fun q' => hb (by simp [q'])) (fun q' => hb (by simp [q'])) (fun q' => hb (by simp [q'])) q) hf⟩
  self := fun A i s Q E st h => wpAny_pyIter_zip st.1 h
def iZip3 (K : PySem.W.Frag) (ta : TA) : TI := fun σ H R => ta σ H fun vs H1 => ∃ (b1 b2 b3 : Bool) (l1 l2 l3 : Addr) (xs1 xs2 xs3 : List V), vs = [.ref l1, .ref l2, .ref l3] ∧ SqB K b1 H1 l1 xs1 ∧ SqB K b2 H1 l2 xs2 ∧ SqB K b3 H1 l3 xs3 ∧ R (ItzM3 K b1 b2 b3 l1 l2 l3) H1
theorem pi_zip3M (K : PySem.W.Frag) {X : Cx} (hK : X.K = K) {e1 e2 e3 : Expr} {ta : TA} {p pos tpos : Pos} {elts : List Expr} {kk : Nat} (hg : Gl X "zip") (hm : X.mg "zip" = none) (ha : PA X [e1, e2, e3] ta)
    (hs : starEach [e1, e2, e3] X.env = (false, eval e1 X.env) :: starEach [e2, e3] X.env := by rfl) (hpl : (backTo pos (starEach [e2, e3] X.env)).any (·.1) = false := by rfl) :
    PI X (.Tuple elts kk tpos) (.Call (.Name "zip" p) [e1, e2, e3] [] pos) (iZip3 K ta) := by
  subst hK
  refine ⟨fun pins s σ H R I h => ?_⟩
  refine Call_ (ld_blt I hg hm PyProof.Rows.boot_zip (PyProof.Rows.callWith_type1 (thn (ha.run pos pins s σ H _ I h) fun us s1 ⟨vs, H1, I1, r1, q1⟩ => ?_) hs hpl))
  obtain ⟨b1, b2, b3, l1, l2, l3, xs1, xs2, xs3, ex, hq1, hq2, hq3, q1⟩ := q1
  subst ex
  have er : us = [.ref l1, .ref l2, .ref l3] := by
    cases r1 with | cons r1a r1 => 
      cases r1 with | cons r2a r1 => 
        cases r1 with | cons r3a r1 => 
          cases r1
          cases r1a
          cases r2a
          cases r3a
          rfl
  subst er
  obtain ⟨its1, rv1, p1⟩ := sqb_at I1 hq1
  obtain ⟨its2, rv2, p2⟩ := sqb_at I1 hq2
  obtain ⟨its3, rv3, p3⟩ := sqb_at I1 hq3
  have fresh : ∀ c, c ∈ [s1.heap.objs.size + 5, s1.heap.objs.size + 3, s1.heap.objs.size + 4, s1.heap.objs.size, s1.heap.objs.size + 1, s1.heap.objs.size + 2] → FpOk X pins H1 c := fun c hcm => by
    have e' : c = s1.heap.objs.size + 5 ∨ c = s1.heap.objs.size + 3 ∨ c = s1.heap.objs.size + 4 ∨ c = s1.heap.objs.size ∨ c = s1.heap.objs.size + 1 ∨ c = s1.heap.objs.size + 2 := by simpa using hcm
    have hle : s1.heap.objs.size ≤ c := by
      rcases e' with z | z | z | z | z | z <;> omega
    exact I1.fpOk hle (I1.hok.fresh hle)
  refine call_zip3M p1 p2 p3 fun h' hz hTI hTO h1 h2 h3 hk => wpAny_pyIter_zip hz ?_
  have I2 : Inv X pins σ H1 { s1 with heap := h' } := I1.kept (t' := s1.toks) hk
  have lt1 := p1.lt
  have lt2 := p2.lt
  have lt3 := p3.lt
  have D : ZA3 (s1.heap.objs.size + 5) (s1.heap.objs.size + 3) (s1.heap.objs.size + 4) (s1.heap.objs.size) (s1.heap.objs.size + 1) (s1.heap.objs.size + 2) l1 l2 l3 := by constructor <;> (intro hq; have hq : @Eq Nat _ _ := hq; have lt1 : @LT.lt Nat _ l1 s1.heap.objs.size := lt1; have lt2 : @LT.lt Nat _ l2 s1.heap.objs.size := lt2; have lt3 : @LT.lt Nat _ l3 s1.heap.objs.size := lt3; omega)
  exact ⟨s1.heap.objs.size + 5, [s1.heap.objs.size + 5, s1.heap.objs.size + 3, s1.heap.objs.size + 4, s1.heap.objs.size, s1.heap.objs.size + 1, s1.heap.objs.size + 2], _, _, H1, rfl, I2, turn_zip3M D, ⟨hz, hTI, ⟨_, _, _, hTO⟩, h1, h2, h3⟩, fresh, q1⟩
def zipD3 (xs1 xs2 xs3 : List D) : List D := List.zipWith (fun (x : D) (p : D × D) => .tup [x, p.1, p.2]) xs1 (List.zipWith Prod.mk xs2 xs3)

def dZip3 (T : DA) : DA := fun η μ => (T η μ).bind fun ds μ1 => match ds with
  | [d1, d2, d3] => okO (still d1) fun xs1 => okO (still d2) fun xs2 => okO (still d3) fun xs3 => .ok (zipD3 xs1 xs2 xs3) μ1
  | _ => .bad
theorem zipD3_len {xs1 xs2 xs3 : List D} : (zipD3 xs1 xs2 xs3).length = min xs1.length (min xs2.length xs3.length) := by simp [zipD3]
theorem zipD3_get {xs1 xs2 xs3 : List D} {i : Nat} {x1 x2 x3 : D} (h1 : xs1[i]? = some x1) (h2 : xs2[i]? = some x2) (h3 : xs3[i]? = some x3) : (zipD3 xs1 xs2 xs3)[i]? = some (.tup [x1, x2, x3]) := by simp [zipD3, List.getElem?_zipWith, h1, h2, h3]
instance {K : PySem.W.Frag} {E : L2.St → XK} {t : TA} {T : DA} [a : SA K E t T] : SI K E (iZip3 K t) (dZip3 T) := ⟨fun {X F σ H η ρ μ P R} w e h o =>
  a.run w e (wp_bind h) fun vs H1 ρ1 ds μ1 w1 g1 q1 h1 => by
    split at h1
    · rename_i d1 d2 d3
      obtain ⟨ys1, c1, k1⟩ := wp_okO h1
      obtain ⟨ys2, c2, k2⟩ := wp_okO k1
      obtain ⟨ys3, c3, k3⟩ := wp_okO k2
      cases q1 with | cons qd1 q1 =>
        cases q1 with | cons qd2 q1 =>
          cases q1 with | cons qd3 q1 =>
            cases q1
            obtain ⟨b1, l1, vs1, rfl, s1, a1, st1⟩ := still_at qd1 c1
            obtain ⟨b2, l2, vs2, rfl, s2, a2, st2⟩ := still_at qd2 c2
            obtain ⟨b3, l3, vs3, rfl, s3, a3, st3⟩ := still_at qd3 c3
            refine ⟨b1, b2, b3, l1, l2, l3, vs1, vs2, vs3, rfl, s1, s2, s3, o _ H1 ρ1 _ μ1 w1 g1 (walkD_of (n := (zipD3 ys1 ys2 ys3).length) (G := fun H => SqB K b1 H l1 vs1 ∧ SqB K b2 H l2 vs2 ∧ SqB K b3 H l3 vs3) (Y := fun i H v H' => ∃ T x1 x2 x3, v = .ref T ∧ H T = none ∧ H' = upd H T (.tup [x1, x2, x3]) ∧ vs1[i]? = some x1 ∧ vs2[i]? = some x2 ∧ vs3[i]? = some x3) ⟨?_, ?_, ?_⟩ rfl ?_ ?_) k3⟩
            · intro i H hi q
              rw [zipD3_len] at hi
              have f1 : i < vs1.length := by rw [a1.len]; omega
              have f2 : i < vs2.length := by rw [a2.len]; omega
              have f3 : i < vs3.length := by rw [a3.len]; omega
              exact ⟨vs1, vs2, vs3, vs1[i], vs2[i], vs3[i], q.1, q.2.1, q.2.2, by simp [f1], by simp [f2], by simp [f3]⟩
            · intro H q
              rw [zipD3_len]
              exact ⟨vs1, vs2, vs3, q.1, q.2.1, q.2.2, by rw [a1.len, a2.len, a3.len]; omega⟩
            · intro i H v H' _ q y
              obtain ⟨T, x1, x2, x3, e1, e2, e3, k1, k2, k3⟩ := y
              exact ⟨T, x1, x2, x3, e1, e2, e3, k1 _ q.1, k2 _ q.2.1, k3 _ q.2.2⟩
            · exact fun H k => ⟨st1 H k, st2 H k, st3 H k⟩
            · intro F' ρ μ H hf g w i v H' hi y
              obtain ⟨T, x1, x2, x3, rfl, hT, rfl, k1, k2, k3⟩ := y
              obtain ⟨dx1, ex1, qx1⟩ := (a1.off hf g).get k1
              obtain ⟨dx2, ex2, qx2⟩ := (a2.off hf g).get k2
              obtain ⟨dx3, ex3, qx3⟩ := (a3.off hf g).get k3
              have gT : Grow ρ ρ H (upd H T (.tup [x1, x2, x3])) := Grow.fresh hT
              exact ⟨w.lay hT, gT, _, zipD3_get ex1 ex2 ex3, .tup (w.fresh2 hT) upd_same (.cons (qx1.mono gT) (.cons (qx2.mono gT) (.cons (qx3.mono gT) (.nil))))⟩
    · exact h1.elim⟩
end DX

namespace DX
open PySem PySem.Spec PyProof.Rows L2
/-! ### comprehensions, the names' slots written out -/
section
variable {X : Cx} {wi : TI} {g : TG} {tt : TT} {te : TE} {vs vs' : List Nat} {e : Expr} {s : Stmt} {i : Nat}
theorem lc_vs (vs' : List Nat) (p : PE X e (tLc wi g tt te vs)) (h : vs = vs' := by rfl) : PE X e (tLc wi g tt te vs') := h ▸ p
theorem slc_vs (vs' : List Nat) (p : PS X s (tAsg (tLc wi g tt te vs) (gName i))) (h : vs = vs' := by rfl) : PS X s (tAsg (tLc wi g tt te vs') (gName i)) := h ▸ p
end
end DX

namespace DX
open PySem PySem.Spec PyProof.Rows L2
noncomputable section
/-! ### enumerate of a list or a tuple -/
theorem meets_enum_new (b : Bool) (l : Addr) (items : Array Value) :
    Meets (Builtin.«enumerate.__new__» ⟨[.type "enumerate", .ref l], []⟩) (fun _ R s => SqAt b s.heap l items ∧
      R (.ok (.ret (.ref (s.heap.push (itO b l)).objs.size)))
        { s with heap := (s.heap.push (itO b l)).push { cls := .type "enumerate", data := .fields #[.none, .bool false, .ref s.heap.objs.size, rawInt 0, .none, .none] } }) :=
  .of_wp fun prog w A R s h => by
    obtain ⟨hp, g, d, tk, os⟩ := s; obtain ⟨hl, h⟩ := h
    have hsub := sub_enumerate
    have hL : SqAt b (Shared.heap ⟨hp, g, d, tk, os⟩) l items := hl
    wp_walk
    refine wpAny_stack_any fun st => wpAny_pure ?_
    split
    · rename_i c _ _ _ _ _
      cases (c == Value.type "enumerate")
      · wp_walk using iter_any hL
        exact ⟨_, rfl, h⟩
      · wp_walk using iter_any hL
        exact ⟨_, rfl, h⟩
    · wp_walk using iter_any hL
      exact ⟨_, rfl, h⟩
section
variable {prog : Program} {w : World} {A : Around} {E : Value → Shared → Prop} {s : Shared}
theorem enum_item {b : Bool} {e it l : Addr} {i : Nat} {items : Array Value} {x old : Value} {Q : Value → Shared → Prop}
    (he : IsEnum s.heap e it i old) (hit : ItAt b s.heap it l i) (hl : SqAt b s.heap l items) (hx : items[i]? = some x) (hne : e ≠ it)
    (hQ : ∀ h', IsEnumOut h' e it ((i : Int) + 1) x s.heap.objs.size → ItAt b h' it l (i + 1) →
      h'.get? s.heap.objs.size = some { cls := .type "tuple", data := .seq #[.int i s.toks, x] } → h'.objs.size = s.heap.objs.size + 1 →
      (∀ b o, b ≠ e → b ≠ it → s.heap.get? b = some o → h'.get? b = some o) → Q (.ref s.heap.objs.size) { s with heap := h', toks := s.toks + 1 }) :
    wpAny (model prog w) A (Builtin.«enumerate.__next__» ⟨[.ref e], []⟩) (fun fin s' => ∃ v, fin = .done (.ret v) ∧ Q v s') E s := by
  obtain ⟨hp, g, d, tk, os⟩ := s
  show wpAny _ _ (field (.ref e) 2 >>= _) _ _ _
  refine wpAny_bind (wpAny_field he rfl (x := .ref it) rfl ?_)
  refine wpAny_bind (next_item hit hl hx fun h₁ hit₁ hs₁ => ?_)
  replace hs₁ : Heap.SameBut it hp h₁ := hs₁
  have he₁ : IsEnum h₁ e it i old := (hs₁.2 e hne).trans he
  show wpAny _ _ (field (.ref e) 3 >>= _) _ _ ⟨h₁, g, d, tk, os⟩
  refine wpAny_bind (wpAny_field he₁ rfl (x := rawInt i) rfl ?_)
  show wpAny _ _ (field (.ref e) 4 >>= _) _ _ ⟨h₁, g, d, tk, os⟩
  refine wpAny_bind (wpAny_field he₁ rfl (x := .none) rfl ?_)
  show wpAny _ _ (mkInt i >>= _) _ _ ⟨h₁, g, d, tk, os⟩
  refine wpAny_bind (wpAny_mkInt ?_)
  show wpAny _ _ (setField (.ref e) 3 (rawInt ((i : Int) + 1)) >>= _) _ _ ⟨h₁, g, d, tk + 1, os⟩
  refine wpAny_bind (wpAny_setField_rec he₁ (by simp) fun h₂ he₂ hs₂ => ?_)
  replace hs₂ : Heap.SameBut e h₁ h₂ := hs₂
  replace he₂ : IsEnum h₂ e it ((i : Int) + 1) old := he₂
  show wpAny _ _ (setField (.ref e) 4 .none >>= _) _ _ ⟨h₂, g, d, tk + 1, os⟩
  refine wpAny_bind (wpAny_setField_rec he₂ (by simp) fun h₃ he₃ hs₃ => ?_)
  replace hs₃ : Heap.SameBut e h₂ h₃ := hs₃
  replace he₃ : IsEnum h₃ e it ((i : Int) + 1) old := he₃
  show wpAny _ _ (newTuple [.int i tk, x] >>= _) _ _ ⟨h₃, g, d, tk + 1, os⟩
  refine wpAny_bind (wpAny_newTuple ?_)
  have he₄ : IsEnum (h₃.push { cls := .type "tuple", data := .seq #[.int i tk, x] }) e it ((i : Int) + 1) old := Heap.get?_push_of_some _ he₃
  generalize hh₄ : h₃.push { cls := .type "tuple", data := .seq #[.int i tk, x] } = h₄ at he₄
  have hsz : h₃.objs.size = hp.objs.size := by rw [hs₃.1, hs₂.1, hs₁.1]
  have hel : e < hp.objs.size := Heap.lt_size he
  have ht₄ : h₄.get? hp.objs.size = some { cls := .type "tuple", data := .seq #[.int i tk, x] } := by rw [← hh₄, ← hsz]; exact Heap.get?_push_size _ rfl
  have hz₄ : h₄.objs.size = hp.objs.size + 1 := by rw [← hh₄, Heap.size_push, hsz]
  have hk₄ : ∀ b o, b ≠ e → b ≠ it → hp.get? b = some o → h₄.get? b = some o := fun b o hbe hbi hb => by
    rw [← hh₄]; exact Heap.get?_push_of_some _ (hs₃.extBut b o hbe (hs₂.extBut b o hbe (hs₁.extBut b o hbi hb)))
  have hit₄ : ItAt b h₄ it l (i + 1) := by
    rw [← hh₄]; exact hit₁.to fun o q => Heap.get?_push_of_some _ (hs₃.extBut _ _ (Ne.symm hne) (hs₂.extBut _ _ (Ne.symm hne) q))
  show wpAny _ _ (Builtin.SmallTypes.ownedTupleIsFree (.ref e) >>= _) _ _ ⟨h₄, g, d, tk + 1, os⟩
  rw [hsz]
  clear hh₄ he₃ hs₃ he₂ hs₂ he₁ hs₁ hit₁ hsz h₃ h₂ h₁
  refine wpAny_bind ?_
  · unfold Builtin.SmallTypes.ownedTupleIsFree
    refine wpAny_bind (wpAny_field he₄ rfl (x := .none) rfl (wpAny_pure ?_))
    simp only [if_true]
    refine wpAny_bind (wpAny_rule ?_)
    refine wpAny_bind (wpAny_field he₄ rfl (x := old) rfl ?_)
    refine wpAny_bind (wpAny_setField_rec he₄ (by simp) fun h₅ he₅ hs₅ => ?_)
    replace hs₅ : Heap.SameBut e h₄ h₅ := hs₅
    replace he₅ : IsEnum h₅ e it ((i : Int) + 1) x := he₅
    show wpAny _ _ (Builtin.SmallTypes.ownedTupleHandOut (.ref e) (.ref hp.objs.size) >>= _) _ _ ⟨h₅, g, d, tk + 1, os⟩
    refine wpAny_bind ?_
    · unfold Builtin.SmallTypes.ownedTupleHandOut
      refine wpAny_bind (wpAny_setField_rec he₅ (by simp) fun h₆ he₆ hs₆ => ?_)
      replace hs₆ : Heap.SameBut e h₅ h₆ := hs₆
      replace he₆ : IsEnumOut h₆ e it ((i : Int) + 1) x hp.objs.size := he₆
      refine wpAny_setField_rec he₆ (by simp) fun h₇ he₇ hs₇ => ?_
      replace hs₇ : Heap.SameBut e h₆ h₇ := hs₇
      replace he₇ : IsEnumOut h₇ e it ((i : Int) + 1) x hp.objs.size := he₇
      refine wpAny_bind (wpAny_letGo (wpAny_pure ⟨_, rfl, hQ h₇ he₇ ?_ ?_ ?_ ?_⟩))
      · exact hit₄.to fun o q => hs₇.extBut _ _ (Ne.symm hne) (hs₆.extBut _ _ (Ne.symm hne) (hs₅.extBut _ _ (Ne.symm hne) q))
      · exact hs₇.extBut _ _ (Nat.ne_of_gt hel) (hs₆.extBut _ _ (Nat.ne_of_gt hel) (hs₅.extBut _ _ (Nat.ne_of_gt hel) ht₄))
      · rw [hs₇.1, hs₆.1, hs₅.1, hz₄]
      · exact fun b o hbe hbi hb => hs₇.extBut b o hbe (hs₆.extBut b o hbe (hs₅.extBut b o hbe (hk₄ b o hbe hbi hb)))
theorem pyNext_enumM_item {b : Bool} {e it l : Addr} {i : Nat} {items : Array Value} {x old : Value} {Q : Option Value → Shared → Prop}
    (he : IsEnum s.heap e it i old) (hit : ItAt b s.heap it l i) (hl : SqAt b s.heap l items) (hx : items[i]? = some x) (hne : e ≠ it)
    (hQ : ∀ h', IsEnumOut h' e it ((i : Int) + 1) x s.heap.objs.size → ItAt b h' it l (i + 1) →
      h'.get? s.heap.objs.size = some { cls := .type "tuple", data := .seq #[.int i s.toks, x] } → h'.objs.size = s.heap.objs.size + 1 →
      (∀ b o, b ≠ e → b ≠ it → s.heap.get? b = some o → h'.get? b = some o) → Q (some (.ref s.heap.objs.size)) { s with heap := h', toks := s.toks + 1 }) :
    wpAny (model prog w) A (pyNext (.ref e)) Q E s := by
  have hT : s.TypeIs (.ref e) "enumerate" := ⟨_, he, rfl⟩
  unfold pyNext
  exact wpAny_bind (wpAny_attempt (wpAny_callSpecial?_slot (name := Str.ofString "__next__") hT F.slot_enumerate_next
    (wpAny_call_entry F.slot_enumerate_next hT F.entry_enumerate_next
      (enum_item he hit hl hx hne fun h' a b c d k => wpAny_pure (hQ h' a b c d k)) (F.args_enumerate_next_1 _))))
theorem pyNext_enumM_end {b : Bool} {e it l : Addr} {i : Nat} {items : Array Value} {old : Value} {Q : Option Value → Shared → Prop} (hh : A.handled = none)
    (he : IsEnum s.heap e it i old) (hit : ItAt b s.heap it l i) (hl : SqAt b s.heap l items) (hx : items[i]? = none)
    (hQ : ∀ h', Heap.ExtBut it s.heap h' → Q none { s with heap := h' }) : wpAny (model prog w) A (pyNext (.ref e)) Q E s := by
  have hT : s.TypeIs (.ref e) "enumerate" := ⟨_, he, rfl⟩
  unfold pyNext
  refine wpAny_bind (wpAny_attempt (wpAny_callSpecial?_slot (name := Str.ofString "__next__") hT F.slot_enumerate_next
    (wpAny_call_entry F.slot_enumerate_next hT F.entry_enumerate_next ?_ (F.args_enumerate_next_1 _))))
  show wpAny _ _ (field (.ref e) 2 >>= _) _ _ _
  refine wpAny_bind (wpAny_field he rfl (x := .ref it) rfl ?_)
  refine wpAny_bind (next_end hh hit hl hx fun h' x he' hx' => ?_)
  obtain ⟨o, ho, hc⟩ := hx'
  refine wpAny_bind (wpAny_isInstance (T := "StopIteration") (b := true) ⟨o, ho, hc⟩ isSubtype_stop ?_)
  exact wpAny_pure (hQ _ he')
theorem call_enumM {b : Bool} {l : Addr} {items : Array Value} {Q : Value → Shared → Prop} (hL : SqAt b s.heap l items)
    (h : ∀ h', IsEnum h' (s.heap.objs.size + 1) s.heap.objs.size 0 .none → ItAt b h' s.heap.objs.size l 0 → h'.objs.size = s.heap.objs.size + 2 →
      (∀ b o, s.heap.get? b = some o → h'.get? b = some o) → Q (.ref (s.heap.objs.size + 1)) { s with heap := h' }) :
    wpAny (model prog w) A (call (.type "enumerate") [.ref l]) Q E s := by
  refine callType_new F.called_enumerate (by decide) (F.typeCall_enumerate_1 _) (F.newCall_enumerate_1 _) (fun obj => F.args_object_init_2 obj _) F.entry_enumerate_new
    (meets_enum_new b l items) ⟨hL, ?_⟩
  have hz : (s.heap.push (itO b l)).objs.size = s.heap.objs.size + 1 := Heap.size_push ..
  show _ ∧ _
  rw [hz]
  have he : IsEnum ((s.heap.push (itO b l)).push
      { cls := .type "enumerate", data := .fields #[.none, .bool false, .ref s.heap.objs.size, rawInt 0, .none, .none] }) (s.heap.objs.size + 1) s.heap.objs.size 0 .none := by
    have := Heap.get?_push_size (s.heap.push (itO b l))
      (o := { cls := .type "enumerate", data := .fields #[.none, .bool false, .ref s.heap.objs.size, rawInt 0, .none, .none] }) rfl
    rw [hz] at this; exact this
  exact ⟨⟨_, he, rfl⟩, h _ he (.new (Heap.get?_push_of_some _ (Heap.get?_push_size _ rfl))) (by rw [Heap.size_push, hz]) fun b o x => Heap.get?_push_of_some _ (Heap.get?_push_of_some _ x)⟩
end
def IteM (K : PySem.W.Frag) (b : Bool) (a : Addr) : It :=
  ⟨fun i H => ∃ (xs : List V) (x : V), SqB K b H a xs ∧ xs[i]? = some x, fun i H v H' => ∃ T x, v = .ref T ∧ H T = none ∧ H' = upd H T (.tup [.int (i : Nat), x]) ∧ ∀ xs, SqB K b H a xs → xs[i]? = some x, fun i H => ∃ xs : List V, SqB K b H a xs ∧ xs.length ≤ i⟩
theorem turn_enumM {P : Program} {w : World} {K : PySem.W.Frag} {b : Bool} {elts : List Expr} {kk : Nat} {tpos : Pos} (a e it : Addr) :
    Turn P w K (.Tuple elts kk tpos) (IteM K b a) [e, it] e (fun i h => (∃ old, IsEnum h e it ((i : Nat) : Int) old) ∧ ItAt b h it a i ∧ e ≠ it) where
  mem := by simp
  obj := fun i h st b hb => by
    obtain ⟨⟨old, he⟩, h1, _⟩ := st
    have e' : b = e ∨ b = it := by simpa using hb
    rcases e' with z | z
    · rw [z]; exact ⟨_, he, fun v q => nomatch q⟩
    · rw [z]; exact h1.ob
  keep := fun i h h' st k => let ⟨⟨old, he⟩, hi, hne⟩ := st; ⟨⟨old, k e (by simp) _ he⟩, hi.to fun o q => k it (by simp) o q, hne⟩
  item := by
    intro X hP hw hK hc i pins s σ H E I hf st hg
    subst hP hw hK
    obtain ⟨⟨old, he⟩, hit, hne⟩ := st
    obtain ⟨xs, x, hq, hx⟩ := hg
    obtain ⟨its, rv, p⟩ := sqb_at I hq
    obtain ⟨u, hu, ru⟩ := rv.get hx
    have hel : e < s.heap.objs.size := Heap.lt_size he
    have hil : it < s.heap.objs.size := by obtain ⟨_, q, _⟩ := hit.ob; exact Heap.lt_size q
    refine pyNext_enumM_item he hit p (x := u) (by simpa using hu) hne fun h' ho hit' hT hsz hk => ?_
    refine ⟨_, rfl, wpAny_letOwnedTupleGo_enum (s := { s with heap := h', toks := s.toks + 1 }) ho fun h'' he' sb => ?_⟩
    have hT2 : h''.get? s.heap.objs.size = some { cls := .type "tuple", data := .seq #[.int i s.toks, u] } := (sb.2 _ (Nat.ne_of_gt hel)).trans hT
    have new : ObjOk X.prog X.w (upd H s.heap.objs.size (.tup [.int (i : Nat), x])) h'' s.heap.objs.size (.tup [.int (i : Nat), x]) :=
      ⟨by show 2 ≤ sizeLine; decide, [.int i s.toks, u], .cons ⟨_, rfl⟩ (.cons ru .nil), ⟨_, hT2, rfl, _, rfl⟩⟩
    have I1 : Inv X pins σ (upd H s.heap.objs.size (.tup [.int (i : Nat), x])) { s with heap := h'', toks := s.toks + 1 } :=
      I.turnedNew (ch := [e, it]) (fun b ob hb q => (sb.2 b (fun z => hb (by simp [z]))).trans (hk b ob (fun z => hb (by simp [z])) (fun z => hb (by simp [z])) q)) hf (Nat.le_refl _) new
    refine ⟨.ref s.heap.objs.size, _, I1, rfl, ⟨_, x, rfl, I.hok.fresh (Nat.le_refl _), rfl, fun ys hy => by rw [sqb_inj I hy hq]; exact hx⟩, ⟨⟨u, ?_⟩, hit'.to fun o q => (sb.2 it (Ne.symm hne)).trans q, hne⟩, fun b hb => ?_⟩
    · have e1 : ((i + 1 : Nat) : Int) = (i : Int) + 1 := by omega
      rw [e1]; exact he'
    · have hb' : b < s.heap.objs.size := by
        have e' : b = e ∨ b = it := by simpa using hb
        rcases e' with z | z
        · rw [z]; exact hel
        · rw [z]; exact hil
      rw [upd_ne (Nat.ne_of_lt hb')]
      exact (hf b hb).1
  done := by
    intro X hP hw hK hc i pins s σ H E I hf st hg
    subst hP hw hK
    obtain ⟨⟨old, he⟩, hit, hne⟩ := st
    obtain ⟨xs, hq, hx⟩ := hg
    obtain ⟨its, rv, p⟩ := sqb_at I hq
    obtain ⟨f0, f1, f2, f3, f4, f5⟩ := hf it (by simp)
    have hl := rv.length
    exact pyNext_enumM_end (I.ok.hd hc) he hit p (by simp; omega) fun h' eb => ⟨rfl, I.turned (t' := s.toks) (fun b o hb q => eb b o hb q) f0 f1 f3 f4 f5⟩
  self := fun A i s Q E st h => let ⟨⟨_, he⟩, _⟩ := st; wpAny_pyIter_enum he h
def iEnumM (K : PySem.W.Frag) (ta : TA) : TI := fun σ H R => ta σ H fun vs H1 => ∃ b a xs, vs = [.ref a] ∧ SqB K b H1 a xs ∧ R (IteM K b a) H1
theorem pi_enumM (K : PySem.W.Frag) {X : Cx} (hK : X.K = K) {e : Expr} {ta : TA} {p pos tpos : Pos} {elts : List Expr} {kk : Nat} (hg : Gl X "enumerate") (hm : X.mg "enumerate" = none) (ha : PA X [e] ta) (hs : starEach [e] X.env = [(false, eval e X.env)] := by rfl) :
    PI X (.Tuple elts kk tpos) (.Call (.Name "enumerate" p) [e] [] pos) (iEnumM K ta) := by
  subst hK
  refine ⟨fun pins s σ H R I h => ?_⟩
  refine Call_ (ld_blt I hg hm boot_enumerate (PyProof.Rows.callWith_type1 (thn (ha.run pos pins s σ H _ I h) fun us s1 ⟨vs, H1, I1, r1, q1⟩ => ?_) hs rfl))
  obtain ⟨b, a, xs, ex, hq, q⟩ := q1
  subst ex
  cases r1 with
  | cons r rr =>
    cases rr
    cases r
    obtain ⟨its, rv, p'⟩ := sqb_at I1 hq
    refine call_enumM p' fun h' he hit hsz hk => wpAny_pyIter_enum he ?_
    have I2 : Inv X pins σ H1 { s1 with heap := h' } := I1.kept (t' := s1.toks) hk
    refine ⟨s1.heap.objs.size + 1, [s1.heap.objs.size + 1, s1.heap.objs.size], _, _, H1, rfl, I2, turn_enumM a (s1.heap.objs.size + 1) s1.heap.objs.size, ⟨⟨.none, he⟩, hit, Nat.succ_ne_self _⟩, fun b hb => ?_, q⟩
    have e' : b = s1.heap.objs.size + 1 ∨ b = s1.heap.objs.size := by simpa using hb
    have hle : s1.heap.objs.size ≤ b := by
      rcases e' with z | z
      · rw [z]; exact Nat.le_add_right _ _
      · rw [z]; exact Nat.le_refl _
    exact I1.fpOk hle (I1.hok.fresh hle)
def enumFrom : Nat → List D → List D
  | _, [] => []
  | n, d :: r => .tup [.int n, d] :: enumFrom (n + 1) r
theorem enumFrom_len : ∀ (n : Nat) (xs : List D), (enumFrom n xs).length = xs.length
  | _, [] => rfl
  | n, d :: r => by simp [enumFrom, enumFrom_len (n + 1) r]
theorem enumFrom_get : ∀ {n i : Nat} {xs : List D} {x : D}, xs[i]? = some x → (enumFrom n xs)[i]? = some (.tup [.int ((n + i : Nat) : Int), x])
  | n, i, [], x, h => by simp at h
  | n, 0, d :: r, x, h => by
    simp only [List.getElem?_cons_zero, Option.some.injEq] at h
    subst h
    simp [enumFrom]
  | n, i + 1, d :: r, x, h => by
    simp only [List.getElem?_cons_succ] at h
    have := enumFrom_get (n := n + 1) h
    simp only [enumFrom, List.getElem?_cons_succ, this]
    congr 5
    omega
def dEnum (T : DA) : DA := fun η μ => (T η μ).bind fun ds μ1 => match ds with
  | [d] => okO (still d) fun xs => .ok (enumFrom 0 xs) μ1
  | _ => .bad
instance {K : PySem.W.Frag} {E : L2.St → XK} {t : TA} {T : DA} [a : SA K E t T] : SI K E (iEnumM K t) (dEnum T) := ⟨fun {X F σ H η ρ μ P R} w e h o =>
  a.run w e (wp_bind h) fun vs H1 ρ1 ds μ1 w1 g1 q1 h1 => by
    split at h1
    · rename_i d1
      obtain ⟨ys1, c1, k1⟩ := wp_okO h1
      cases q1 with | cons qd1 q1 =>
        cases q1
        obtain ⟨b1, l1, vs1, rfl, s1, a1, st1⟩ := still_at qd1 c1
        refine ⟨b1, l1, vs1, rfl, s1, o _ H1 ρ1 _ μ1 w1 g1 (walkD_of (n := (enumFrom 0 ys1).length) (G := fun H => SqB K b1 H l1 vs1) (Y := fun i H v H' => ∃ T x1, v = .ref T ∧ H T = none ∧ H' = upd H T (.tup [.int (i : Nat), x1]) ∧ vs1[i]? = some x1) ⟨?_, ?_, ?_⟩ rfl ?_ ?_) k1⟩
        · intro i H hi q
          rw [enumFrom_len] at hi
          have f1 : i < vs1.length := by rw [a1.len]; omega
          exact ⟨vs1, vs1[i], q, by simp [f1]⟩
        · intro H q
          rw [enumFrom_len]
          exact ⟨vs1, q, by rw [a1.len]; exact Nat.le_refl _⟩
        · intro i H v H' _ q y
          obtain ⟨T, x1, e1, e2, e3, k1⟩ := y
          exact ⟨T, x1, e1, e2, e3, k1 _ q⟩
        · exact fun H k => st1 H k
        · intro F' ρ μ H hf g w i v H' hi y
          obtain ⟨T, x1, rfl, hT, rfl, k1⟩ := y
          obtain ⟨dx1, ex1, qx1⟩ := (a1.off hf g).get k1
          have gT : Grow ρ ρ H (upd H T (.tup [.int (i : Nat), x1])) := Grow.fresh hT
          have hg := enumFrom_get (n := 0) ex1
          rw [Nat.zero_add] at hg
          exact ⟨w.lay hT, gT, _, hg, .tup (w.fresh2 hT) upd_same (.cons (.int _) (.cons (qx1.mono gT) (.nil)))⟩
    · exact h1.elim⟩
end
end DX

namespace DX
open PySem PySem.Spec PyProof.Rows L2
noncomputable section
section
variable {K : PySem.W.Frag}
/-! ### x in a list or a tuple of data -/
def rInU (K : PySem.W.Frag) (f : Bool → Bool) : R2 := fun x y H Q => ∃ d ds, Dp K H x d ∧ (Dp K H y (.list ds) ∨ Dp K H y (.tuple ds)) ∧ d.canLay0 = true ∧ d.depth ≤ 60 ∧ PyData.canLayAll0 ds = true ∧ Q (.bl (f (ds.any fun z => PyData.eqv z d))) H
theorem op_inU {X : Cx} (hu : X.A.units + 64 < cLine) : OpR X (compareOp .In) (rInU X.K id) := by
  intro pins s σ H x y v u Q I rx ry h
  obtain ⟨d, ds, hd, he, sd, sz, se, q⟩ := h
  obtain ⟨as, r1⟩ := Dp.reads I d x v hd rx
  have hr : X.A.units + 1 + min (PyData.depthAll ds) d.depth < cLine := by omega
  rcases he with he | he
  · obtain ⟨bs, r2⟩ := Dp.reads I (.list ds) y u he ry
    exact SeqAt.in_list_reads r2 r1 se sd hr ⟨.bl _, H, I, rfl, q⟩
  · obtain ⟨bs, r2⟩ := Dp.reads I (.tuple ds) y u he ry
    exact SeqAt.in_tuple_reads r2 r1 se sd hr ⟨.bl _, H, I, rfl, q⟩
theorem op_notInU {X : Cx} (hu : X.A.units + 64 < cLine) : OpR X (compareOp .NotIn) (rInU X.K not) := by
  intro pins s σ H x y v u Q I rx ry h
  obtain ⟨d, ds, hd, he, sd, sz, se, q⟩ := h
  obtain ⟨as, r1⟩ := Dp.reads I d x v hd rx
  have hr : X.A.units + 1 + min (PyData.depthAll ds) d.depth < cLine := by omega
  rcases he with he | he
  · obtain ⟨bs, r2⟩ := Dp.reads I (.list ds) y u he ry
    exact SeqAt.notIn_list_reads r2 r1 se sd hr ⟨.bl _, H, I, rfl, q⟩
  · obtain ⟨bs, r2⟩ := Dp.reads I (.tuple ds) y u he ry
    exact SeqAt.notIn_tuple_reads r2 r1 se sd hr ⟨.bl _, H, I, rfl, q⟩
theorem op_inK (K : PySem.W.Frag) {X : Cx} (hK : X.K = K) (hu : X.A.units + 64 < cLine) : OpR X (compareOp .In) (rInU K id) := by subst hK; exact op_inU hu
theorem op_notInK (K : PySem.W.Frag) {X : Cx} (hK : X.K = K) (hu : X.A.units + 64 < cLine) : OpR X (compareOp .NotIn) (rInU K not) := by subst hK; exact op_notInU hu
theorem toPs_any (f : PyData → Bool) : ∀ ds : List D, (toPs ds).any f = ds.any fun d => f (toP d)
  | [] => rfl
  | d :: r => by simp [toPs, toPs_any f r]
def inC (f : Bool → Bool) (x y : D) (μ : Mu) : Res D := match y with
  | .lst ds => grd (plain 60 x = true ∧ plain 60 (.lst ds) = true) (.ok (.bl (f (ds.any fun z => eqP z x))) μ)
  | .tup ds => grd (plain 60 x = true ∧ plain 60 (.tup ds) = true) (.ok (.bl (f (ds.any fun z => eqP z x))) μ)
  | _ => .bad
def inD (x y : D) (μ : Mu) : Res D := inC id (der μ x) (der μ y) μ
def notInD (x y : D) (μ : Mu) : Res D := inC not (der μ x) (der μ y) μ
theorem in_run {f : Bool → Bool} {X : Exn → Mu → Prop} {F : List Addr} {H : Hp} {ρ : List Addr} {μ : Mu} {x y : V} {dx dy : D} {P : D → Mu → Prop} {Q : VK} (w : Wd K F ρ μ H) (hx : Dt K F ρ H x dx) (hy : Dt K F ρ H y dy) (h : wp (inC f (der μ dx) (der μ dy) μ) P X) (o : Out K F ρ H P Q) : rInU K f x y H Q := by
  unfold inC at h
  split at h
  · rename_i ds hds
    obtain ⟨⟨h1, h2⟩, h3⟩ := wp_grd h
    rw [← hds] at h2
    have q := plain_shape 60 _ h1
    have q2 := (plain_shape 60 _ h2).1
    have p2 := der_dp w h2 hy
    rw [hds] at q2 p2
    refine ⟨_, toPs ds, der_dp w h1 hx, .inl p2, q.1, q.2, by simpa [toP, PyData.canLay0] using q2, ?_⟩
    rw [toPs_any]
    exact o.here w (.bl _) h3
  · rename_i ds hds
    obtain ⟨⟨h1, h2⟩, h3⟩ := wp_grd h
    rw [← hds] at h2
    have q := plain_shape 60 _ h1
    have q2 := (plain_shape 60 _ h2).1
    have p2 := der_dp w h2 hy
    rw [hds] at q2 p2
    refine ⟨_, toPs ds, der_dp w h1 hx, .inr p2, q.1, q.2, by simpa [toP, PyData.canLay0] using q2, ?_⟩
    rw [toPs_any]
    exact o.here w (.bl _) h3
  · exact h.elim
instance : SR2 K (rInU K id) inD := ⟨fun w hx hy h o => in_run w hx hy h o⟩
instance : SR2 K (rInU K not) notInD := ⟨fun w hx hy h o => in_run w hx hy h o⟩
/-! ### a text in a text -/
def strIn (i j : Str) : Bool := !(Builtin.Str.occurrences j i 0 j.length 1).isEmpty
def rInS (f : Bool → Bool) : R2 := fun x y H Q => ∃ i j, x = .str i ∧ y = .str j ∧ Q (.bl (f (strIn i j))) H
theorem op_inS {X : Cx} : OpR X (compareOp .In) (rInS id) := op_in_str
theorem op_notInS {X : Cx} : OpR X (compareOp .NotIn) (rInS not) := op_notIn_str
def inSC (f : Bool → Bool) (x y : D) (μ : Mu) : Res D := match x, y with
  | .str i, .str j => .ok (.bl (f (strIn i j))) μ
  | _, _ => .bad
abbrev inSD := inSC id
abbrev notInSD := inSC not
instance {f : Bool → Bool} : SR2 K (rInS f) (inSC f) := ⟨fun {X F H ρ μ x y dx dy P Q} w hx hy h o => by
  unfold inSC at h
  split at h
  · cases hx; cases hy
    exact ⟨_, _, rfl, rfl, o.here w (.bl _) h⟩
  · exact h.elim⟩
theorem strIn_one (c : Nat) (z : Str) : strIn ⟨#[c]⟩ z = decide (c ∈ z.cps.toList) := PySem.StrLaws.found_one z c
/-! ### max, min -/
def maxL : List Int → Int
  | [] => 0
  | [x] => x
  | x :: y :: r => max x (maxL (y :: r))
def minL : List Int → Int
  | [] => 0
  | [x] => x
  | x :: y :: r => min x (minL (y :: r))
theorem maxL_mem : ∀ ns : List Int, ns ≠ [] → maxL ns ∈ ns
  | [], h => absurd rfl h
  | [x], _ => by simp [maxL]
  | x :: y :: r, _ => by
    have := maxL_mem (y :: r) (by simp)
    unfold maxL
    rw [List.mem_cons]
    by_cases c : x ≤ maxL (y :: r)
    · rw [Int.max_eq_right c]; exact .inr this
    · rw [Int.max_eq_left (by omega)]; exact .inl rfl
theorem le_maxL : ∀ (ns : List Int) (y : Int), y ∈ ns → y ≤ maxL ns
  | [], y, h => by cases h
  | [x], y, h => by simp at h; simp [maxL, h]
  | x :: z :: r, y, h => by
    unfold maxL
    rcases List.mem_cons.mp h with rfl | h
    · omega
    · have := le_maxL (z :: r) y h
      omega
theorem minL_mem : ∀ ns : List Int, ns ≠ [] → minL ns ∈ ns
  | [], h => absurd rfl h
  | [x], _ => by simp [minL]
  | x :: y :: r, _ => by
    have := minL_mem (y :: r) (by simp)
    unfold minL
    rw [List.mem_cons]
    by_cases c : x ≤ minL (y :: r)
    · rw [Int.min_eq_left c]; exact .inl rfl
    · rw [Int.min_eq_right (by omega)]; exact .inr this
theorem minL_le : ∀ (ns : List Int) (y : Int), y ∈ ns → minL ns ≤ y
  | [], y, h => by cases h
  | [x], y, h => by simp at h; simp [minL, h]
  | x :: z :: r, y, h => by
    unfold minL
    rcases List.mem_cons.mp h with rfl | h
    · omega
    · have := minL_le (z :: r) y h
      omega
section
variable {prog : Program} {w : World} {A : Around} {E : Value → Shared → Prop} {s : Shared} {l : Addr} {xs : Array (Int × Tok)}
theorem iter_intTup {Q : Value → Shared → Prop} (hl : s.heap.IsTuple l (intItems xs))
    (h : ∀ s₂ : Shared, s₂ = { s with heap := s.heap.push { cls := .type "tuple_iterator", data := .fields #[.ref l, .int 0 0] } } →
      (s₂.heap.IsTupleIter s.heap.objs.size l 0 ∧ s₂.heap.IsTuple l (intItems xs)) → (∀ b ∈ [s.heap.objs.size, l], b < s₂.heap.objs.size) → l ≠ s.heap.objs.size → Q (.ref s.heap.objs.size) s₂) :
    wpAny (model prog w) A (pyIter (.ref l)) Q E s := by
  have hlt : l < s.heap.objs.size := by obtain ⟨_, e, _⟩ := hl; exact Heap.lt_size e
  refine wpAny_pyIter_tuple hl (h _ rfl ⟨⟨_, Heap.get?_push_size _ rfl, rfl, rfl⟩, hl.push _⟩ (fun b hb => ?_) (Nat.ne_of_lt hlt))
  show b < (s.heap.push _).objs.size
  rw [Heap.size_push]
  rcases List.mem_cons.mp hb with rfl | hb
  · exact Nat.lt_succ_self _
  · rcases List.mem_cons.mp hb with rfl | hb
    · exact Nat.lt_succ_of_lt hlt
    · cases hb
theorem old_keptT {o0 : Obj} {h' : Heap} (hk : ∀ b o, b ∉ [s.heap.objs.size] → (s.heap.push o0).get? b = some o → h'.get? b = some o) :
    ∀ b o, s.heap.get? b = some o → h'.get? b = some o := fun b o e => by
  refine hk b o (fun hm => ?_) (Heap.get?_push_of_some _ e)
  rcases List.mem_cons.mp hm with e1 | hm
  · exact absurd (e1 ▸ Heap.lt_size e) (Nat.lt_irrefl _)
  · cases hm
theorem max_intTup {Q : Value → Shared → Prop} (hh : A.handled = none) (hl : s.heap.IsTuple l (intItems xs)) (hne : 0 < xs.size)
    (h : ∀ v h' tk, (intItems xs)[argBest (fun i j => decide (numAt xs i > numAt xs j)) (xs.size - 1)]? = some v → (∀ b o, s.heap.get? b = some o → h'.get? b = some o) → Q v { s with heap := h', toks := tk }) :
    wpAny (model prog w) A (call (.builtin "max") [.ref l]) Q E s := by
  refine call_max_walk (iter_intTup hl fun s₂ e st hfp hlI => ?_)
  subst e
  refine ⟨_, _, _, _, _, _, _, rfl, Walks.tuple (A := A.in1) hh _ l hlI (intItems xs), st, hfp, by simpa [intItems] using hne, CmpOf.ints_gt (numAt xs) (fun _ _ => intItems_at), fun v h' tk hP hk => ?_⟩
  exact h v h' tk (by simpa [intItems] using hP) (old_keptT hk)
theorem min_intTup {Q : Value → Shared → Prop} (hh : A.handled = none) (hl : s.heap.IsTuple l (intItems xs)) (hne : 0 < xs.size)
    (h : ∀ v h' tk, (intItems xs)[argBest (fun i j => decide (numAt xs i < numAt xs j)) (xs.size - 1)]? = some v → (∀ b o, s.heap.get? b = some o → h'.get? b = some o) → Q v { s with heap := h', toks := tk }) :
    wpAny (model prog w) A (call (.builtin "min") [.ref l]) Q E s := by
  refine call_min_walk (iter_intTup hl fun s₂ e st hfp hlI => ?_)
  subst e
  refine ⟨_, _, _, _, _, _, _, rfl, Walks.tuple (A := A.in1) hh _ l hlI (intItems xs), st, hfp, by simpa [intItems] using hne, CmpOf.ints_lt (numAt xs) (fun _ _ => intItems_at), fun v h' tk hP hk => ?_⟩
  exact h v h' tk (by simpa [intItems] using hP) (old_keptT hk)
end
def rMaxT (K : PySem.W.Frag) : List V → Hp → VK → Prop := fun vs H Q => ∃ (a : Addr) (ns : List Int), vs = [V.ref a] ∧ SqT K H a (ns.map V.int) ∧ 0 < ns.length ∧ ∀ m, m ∈ ns → (∀ y, y ∈ ns → y ≤ m) → Q (.int m) H
def rMinT (K : PySem.W.Frag) : List V → Hp → VK → Prop := fun vs H Q => ∃ (a : Addr) (ns : List Int), vs = [V.ref a] ∧ SqT K H a (ns.map V.int) ∧ 0 < ns.length ∧ ∀ m, m ∈ ns → (∀ y, y ∈ ns → m ≤ y) → Q (.int m) H
theorem cr_maxT {X : Cx} (hc : X.calm = true) : CallR X (.builtin "max") (rMaxT X.K) := by
  intro pins s σ H vs us Q I r h
  obtain ⟨a, ns, rfl, hs, hne, q⟩ := h
  obtain ⟨its, rv, hl, _⟩ := I.tuple hs
  rw [Vals.ref1 r]
  obtain ⟨xs, e⟩ := rv.ints.allInts.items
  have hn : numsOf its.toArray.toList = ns := by rw [show its.toArray.toList = its from rfl, rv.ints.numsOf]
  have hl' : s.heap.IsTuple a its.toArray := hl
  rw [e] at hl' hn
  rw [nums_intItems] at hn
  subst hn
  have hsz : 0 < xs.size := by simpa using hne
  refine max_intTup (I.ok.hd hc) hl' hsz fun v h' tk hv hk => ?_
  obtain ⟨t, rfl⟩ := intItems_at hv
  obtain ⟨h1, h2⟩ := argBest_gt (numAt xs) (xs.size - 1)
  refine ⟨.int _, H, I.kept hk, ⟨_, rfl⟩, q _ ?_ fun a ha => ?_⟩
  · rw [numAt_eq]; exact PySem.getD_mem (by rw [List.length_map, Array.length_toList]; omega)
  · obtain ⟨j, hj, rfl⟩ := mem_getD ha
    rw [List.length_map, Array.length_toList] at hj
    rw [← numAt_eq]; exact h2 j (by omega)
theorem cr_minT {X : Cx} (hc : X.calm = true) : CallR X (.builtin "min") (rMinT X.K) := by
  intro pins s σ H vs us Q I r h
  obtain ⟨a, ns, rfl, hs, hne, q⟩ := h
  obtain ⟨its, rv, hl, _⟩ := I.tuple hs
  rw [Vals.ref1 r]
  obtain ⟨xs, e⟩ := rv.ints.allInts.items
  have hn : numsOf its.toArray.toList = ns := by rw [show its.toArray.toList = its from rfl, rv.ints.numsOf]
  have hl' : s.heap.IsTuple a its.toArray := hl
  rw [e] at hl' hn
  rw [nums_intItems] at hn
  subst hn
  have hsz : 0 < xs.size := by simpa using hne
  refine min_intTup (I.ok.hd hc) hl' hsz fun v h' tk hv hk => ?_
  obtain ⟨t, rfl⟩ := intItems_at hv
  obtain ⟨h1, h2⟩ := argBest_lt (numAt xs) (xs.size - 1)
  refine ⟨.int _, H, I.kept hk, ⟨_, rfl⟩, q _ ?_ fun a ha => ?_⟩
  · rw [numAt_eq]; exact PySem.getD_mem (by rw [List.length_map, Array.length_toList]; omega)
  · obtain ⟨j, hj, rfl⟩ := mem_getD ha
    rw [List.length_map, Array.length_toList] at hj
    rw [← numAt_eq]; exact h2 j (by omega)
def rMaxU (K : PySem.W.Frag) : List V → Hp → VK → Prop := fun xs H Q => (∃ i j, xs = [.int i, .int j] ∧ Q (.int (if j > i then j else i)) H) ∨ (rMax K xs H Q ∨ rMaxT K xs H Q)
def rMinU (K : PySem.W.Frag) : List V → Hp → VK → Prop := fun xs H Q => (∃ i j, xs = [.int i, .int j] ∧ Q (.int (if j < i then j else i)) H) ∨ (rMin K xs H Q ∨ rMinT K xs H Q)
theorem call_maxK (K : PySem.W.Frag) {X : Cx} (hK : X.K = K) (hc : X.calm = true) : CallR X (.builtin "max") (rMaxU K) := by subst hK; exact (call_max2 hc).or ((cr_max hc).or (cr_maxT hc))
theorem call_minK (K : PySem.W.Frag) {X : Cx} (hK : X.K = K) (hc : X.calm = true) : CallR X (.builtin "min") (rMinU K) := by subst hK; exact (call_min2 hc).or ((cr_min hc).or (cr_minT hc))
def maxD (ds : List D) (μ : Mu) : Res D := match ds with
  | [.int i, .int j] => .ok (.int (max i j)) μ
  | [d] => okO (seqOf μ d) fun xs => okO (intsOf xs) fun ns => grd (ns ≠ []) (.ok (.int (maxL ns)) μ)
  | _ => .bad
def minD (ds : List D) (μ : Mu) : Res D := match ds with
  | [.int i, .int j] => .ok (.int (min i j)) μ
  | [d] => okO (seqOf μ d) fun xs => okO (intsOf xs) fun ns => grd (ns ≠ []) (.ok (.int (minL ns)) μ)
  | _ => .bad
instance : SC K (rMaxU K) maxD := ⟨fun {X F H ρ μ vs ds P Q} w q h o => by
  unfold maxD at h
  split at h
  · rename_i i j
    cases q with
    | cons qa qb =>
      cases qb with
      | cons qb qc =>
        cases qc
        cases qa
        cases qb
        refine .inl ⟨i, j, rfl, ?_⟩
        have e : (if j > i then j else i) = max i j := by split <;> omega
        rw [e]
        exact o.here w (.int _) h
  · cases q with
    | cons qa qb =>
      cases qb
      obtain ⟨xs, c, h1⟩ := wp_okO h
      obtain ⟨ns, c2, h2⟩ := wp_okO h1
      obtain ⟨hne, h2⟩ := wp_grd h2
      have e := intsOf_eq c2
      subst e
      obtain ⟨a, vs, rfl, ea, qs⟩ := seqOf_at w qa c
      have z := qs.ints
      subst z
      have hp : 0 < ns.length := List.length_pos_iff.mpr hne
      have ho : ∀ m, m ∈ ns → (∀ y, y ∈ ns → y ≤ m) → Q (.int m) H := fun m h1 h2' => by
        have e1 := le_maxL ns m h1
        have e2 := h2' _ (maxL_mem ns hne)
        have e3 : m = maxL ns := by omega
        rw [e3]
        exact o.here w (.int _) h2
      rcases ea with ea | ea
      · exact .inr (.inl ⟨a, ns, rfl, ea, hp, ho⟩)
      · exact .inr (.inr ⟨a, ns, rfl, ea, hp, ho⟩)
  · exact h.elim⟩
instance : SC K (rMinU K) minD := ⟨fun {X F H ρ μ vs ds P Q} w q h o => by
  unfold minD at h
  split at h
  · rename_i i j
    cases q with
    | cons qa qb =>
      cases qb with
      | cons qb qc =>
        cases qc
        cases qa
        cases qb
        refine .inl ⟨i, j, rfl, ?_⟩
        have e : (if j < i then j else i) = min i j := by split <;> omega
        rw [e]
        exact o.here w (.int _) h
  · cases q with
    | cons qa qb =>
      cases qb
      obtain ⟨xs, c, h1⟩ := wp_okO h
      obtain ⟨ns, c2, h2⟩ := wp_okO h1
      obtain ⟨hne, h2⟩ := wp_grd h2
      have e := intsOf_eq c2
      subst e
      obtain ⟨a, vs, rfl, ea, qs⟩ := seqOf_at w qa c
      have z := qs.ints
      subst z
      have hp : 0 < ns.length := List.length_pos_iff.mpr hne
      have ho : ∀ m, m ∈ ns → (∀ y, y ∈ ns → m ≤ y) → Q (.int m) H := fun m h1 h2' => by
        have e1 := minL_le ns m h1
        have e2 := h2' _ (minL_mem ns hne)
        have e3 : m = minL ns := by omega
        rw [e3]
        exact o.here w (.int _) h2
      rcases ea with ea | ea
      · exact .inr (.inl ⟨a, ns, rfl, ea, hp, ho⟩)
      · exact .inr (.inr ⟨a, ns, rfl, ea, hp, ho⟩)
  · exact h.elim⟩
/-! ### abs, str -/
def rAbsU : List V → Hp → VK → Prop := fun xs H Q => ∃ i, xs = [.int i] ∧ Q (.int (if i < 0 then -i else i)) H
theorem call_absU {X : Cx} : CallR X (.builtin "abs") rAbsU := call_abs
def absD (ds : List D) (μ : Mu) : Res D := match ds with
  | [.int i] => .ok (.int (if i < 0 then -i else i)) μ
  | _ => .bad
instance : SC K rAbsU absD := ⟨fun {X F H ρ μ vs ds P Q} w q h o => by
  unfold absD at h
  split at h
  · cases q with
    | cons qa qb =>
      cases qb
      cases qa
      exact ⟨_, rfl, o.here w (.int _) h⟩
  · exact h.elim⟩
def rStrU : List V → Hp → VK → Prop := fun xs H Q => (∃ i, xs = [.int i] ∧ i.natAbs.log2 < 1920 ∧ Q (.str (toString i)) H) ∨ ∃ a, xs = [.str a] ∧ Q (.str a) H
theorem call_strU {X : Cx} : CallR X (.type "str") rStrU := call_str_int.or SkE.call_str_str
def strD (ds : List D) (μ : Mu) : Res D := match ds with
  | [.int i] => grd (i.natAbs.log2 < 1920) (.ok (.str (toString i)) μ)
  | [.str a] => .ok (.str a) μ
  | _ => .bad
instance : SC K rStrU strD := ⟨fun {X F H ρ μ vs ds P Q} w q h o => by
  unfold strD at h
  split at h
  · cases q with
    | cons qa qb =>
      cases qb
      cases qa
      exact .inl ⟨_, rfl, (wp_grd h).1, o.here w (.str _) (wp_grd h).2⟩
  · cases q with
    | cons qa qb =>
      cases qb
      cases qa
      exact .inr ⟨_, rfl, o.here w (.str _) h⟩
  · exact h.elim⟩
/-! ### methods of a text with one value -/
def rJoinU (K : PySem.W.Frag) : V → List V → Hp → VK → Prop := fun x xs H Q => ∃ a p, ∃ ys : List Str, x = .str a ∧ xs = [.ref p] ∧ (SqL K H p (ys.map V.str) ∨ SqT K H p (ys.map V.str)) ∧ (ys.map (·.length)).sum + ys.length * a.length ≤ 16777216 ∧ Q (.str (Txt.join a ys)) H
theorem pe_joinK (K : PySem.W.Frag) {X : Cx} (hK : X.K = K) {o e : Expr} {to te : TE} {apos pos : Pos} (ho : PE X o to) (he : PE X e te) (hs : starEach [e] X.env = [(false, eval e X.env)] := by rfl) (hbase : attributeBase o "join" X.env (eval o X.env) = eval o X.env := by rfl) (hline : (apos.endLine == pos.line) = true := by rfl) :
    PE X (.Call (.Attribute o "join" apos) [e] [] pos) (tM1 (rJoinU K) to te) := by subst hK; exact pe_join ho he hs hbase hline
/-- the method of a text, over data -/
def dM1 (f : Str → D → Mu → Res D) (To Te : DE) : DE := fun η μ => (To η μ).bind fun x μ1 => match x with
  | .str a => (Te η μ1).bind fun y μ2 => f a y μ2
  | _ => .bad
class SM1 (K : PySem.W.Frag) (r : V → List V → Hp → VK → Prop) (Fn : outParam (Str → D → Mu → Res D)) : Prop where
  run : ∀ {X : Exn → Mu → Prop} {F : List Addr} {H : Hp} {ρ : List Addr} {μ : Mu} {a : Str} {y : V} {dy : D} {P : D → Mu → Prop} {Q : VK}, Wd K F ρ μ H → Dt K F ρ H y dy → wp (Fn a dy μ) P X → Out K F ρ H P Q → r (.str a) [y] H Q
instance {E : L2.St → XK} {r : V → List V → Hp → VK → Prop} {f : Str → D → Mu → Res D} {to te : TE} {To Te : DE} [a : SE K E to To] [b : SE K E te Te] [m : SM1 K r f] : SE K E (tM1 r to te) (dM1 f To Te) := ⟨fun w e h o =>
  a.run w e (wp_bind h) fun x H1 ρ1 dx μ1 w1 g1 q1 h1 => by
    split at h1
    · cases q1
      exact ⟨⟨_, rfl⟩, b.run w1 (e.mono g1) (wp_bind h1) fun y H2 ρ2 dy μ2 w2 g2 q2 h2 => m.run w2 q2 h2 (o.mono (g1.trans g2))⟩
    · exact h1.elim⟩
def joinD (a : Str) (y : D) (μ : Mu) : Res D := okO (seqOf μ y) fun xs => okO (strsOf xs) fun ys => grd ((ys.map (·.length)).sum + ys.length * a.length ≤ 16777216) (.ok (.str (Txt.join a ys)) μ)
instance : SM1 K (rJoinU K) joinD := ⟨fun {X F H ρ μ a y dy P Q} w hy h o => by
  obtain ⟨xs, c, h1⟩ := wp_okO h
  obtain ⟨ns, c2, h2⟩ := wp_okO h1
  obtain ⟨hz, h2⟩ := wp_grd h2
  have e := strsOf_eq c2
  subst e
  obtain ⟨p, vs, rfl, ea, qs⟩ := seqOf_at w hy c
  have z := qs.strs
  subst z
  exact ⟨a, p, ns, rfl, rfl, ea, hz, o.here w (.str _) h2⟩⟩
def rCountU : V → List V → Hp → VK → Prop := fun x xs H Q => ∃ a b, x = .str a ∧ xs = [.str b] ∧ Q (.int (Txt.count a b)) H
theorem pe_countK {X : Cx} {o e : Expr} {to te : TE} {apos pos : Pos} (ho : PE X o to) (he : PE X e te) (hs : starEach [e] X.env = [(false, eval e X.env)] := by rfl) (hbase : attributeBase o "count" X.env (eval o X.env) = eval o X.env := by rfl) (hline : (apos.endLine == pos.line) = true := by rfl) :
    PE X (.Call (.Attribute o "count" apos) [e] [] pos) (tM1 rCountU to te) := pe_m1 F.slot_str_count F.type_str_count mt_count ho he hs hbase hline
def countD (a : Str) (y : D) (μ : Mu) : Res D := match y with
  | .str b => .ok (.int (Txt.count a b)) μ
  | _ => .bad
instance : SM1 K rCountU countD := ⟨fun {X F H ρ μ a y dy P Q} w hy h o => by
  unfold countD at h
  split at h
  · cases hy
    exact ⟨a, _, rfl, rfl, o.here w (.int _) h⟩
  · exact h.elim⟩
/-! ### int(text) -/
def rIntV : List V → Hp → VK → Prop := fun xs H Q => rIntU xs H Q ∨ ∃ a n, xs = [.str a] ∧ PySem.intText? a = some n ∧ a.length ≤ 640 ∧ Q (.int n) H
theorem call_intV {X : Cx} : CallR X (.type "int") rIntV := call_intU.or call_int_str
def intVD (ds : List D) (μ : Mu) : Res D := match ds with
  | [.str a] => okO (PySem.intText? a) fun n => grd (a.length ≤ 640) (.ok (.int n) μ)
  | ds => intD ds μ
instance : SC K rIntV intVD := ⟨fun {X F H ρ μ vs ds P Q} w q h o => by
  unfold intVD at h
  split at h
  · cases q with
    | cons qa qb =>
      cases qb
      cases qa
      obtain ⟨n, c, h⟩ := wp_okO h
      exact .inr ⟨_, n, rfl, c, (wp_grd h).1, o.here w (.int _) (wp_grd h).2⟩
  · exact .inl (SC.run (self := inferInstanceAs (SC K rIntU intD)) w q h o)⟩
/-! ### len(x) by an own __len__ -/
def tLenOf (t : TE) : TE := fun σ H Q => t σ H fun v H2 => ∃ n : Int, v = .int n ∧ 0 ≤ n ∧ n < 2 ^ 63 ∧ Q v H2
def dLenOf (T : DE) : DE := fun η μ => (T η μ).bind fun d μ1 => match d with
  | .int n => grd (0 ≤ n ∧ n < 2 ^ 63) (.ok (.int n) μ1)
  | _ => .bad
instance {E : L2.St → XK} {t : TE} {T : DE} [a : SE K E t T] : SE K E (tLenOf t) (dLenOf T) := ⟨fun w e h o =>
  a.run w e (wp_bind h) fun x H1 ρ1 dx μ1 w1 g1 q1 h1 => by
    split at h1
    · cases q1
      obtain ⟨⟨h2, h3⟩, h4⟩ := wp_grd h1
      exact ⟨_, rfl, h2, h3, (o.mono g1).here w1 (.int _) h4⟩
    · exact h1.elim⟩
end
/-- a def that is called from within a built-in -/
theorem run_below {X : Cx} {k : Nat} {f : Addr} {sp : Sp} {E : XK} {CX : CXT} {A : Around} {pins : List (Addr × Obj)} {σ : L2.St} {H : Hp} {s : Shared} {Q : VK} {us : List Value} {vs : List V} (F : FnR X.prog X.w X.K X.mg X.base CX k f sp) (hr : Room k A) (hfr : A.frames = X.A.frames) (hx : Passes CX X E)
    (I : Inv X pins σ H s) (r : Vals vs us) (h : sp vs H Q E) : wpAny (model X.prog X.w) A (call (.ref f) us) (EP X pins σ Q) X.xe s := by
  have e0 : Env0 X.prog X.w X.K X.mg X.base A X.stack s H := by
    have e := I.env0
    exact ⟨by rw [hfr]; exact e.frames, e.mod, e.bs, e.bsz, e.funs, e.frf, e.hok, e.bare⟩
  refine wpAny_call (codeAny_mono (F A X.stack s H us vs Q E hr e0 r h) fun r s' hq => ?_)
  cases r with
  | error e => exact hx pins σ H s e s' I hq
  | ok fl =>
    cases fl with
    | ret u => exact I.after hq
    | next => exact False.elim hq
    | brk => exact False.elim hq
    | cont => exact False.elim hq
theorem pe_lenOwn {X : Cx} {k : Nat} {C f : Addr} {sp : Sp} {E : XK} {CX : CXT} {o : Expr} {ta : TE} {p pos : Pos} (c : Cls X.K C) (hm : Meth X.K C "__len__" f) (F : FnR X.prog X.w X.K X.mg X.base CX k f sp) (hr : Room (k + 1) X.A) (hx : Passes CX X E) (hg : Gl X "len") (hmg : X.mg "len" = none) (he : PE X o ta)
    (hs : starEach [o] X.env = (false, eval o X.env) :: starEach [] X.env := by rfl) (hpl : (backTo pos (starEach [] X.env)).any (·.1) = false := by rfl) :
    PE X (.Call (.Name "len" p) [o] [] pos) (tLenOf (tMethR C "__len__" sp E ta tNil)) := by
  refine ⟨fun pins s σ H Q I h => ?_⟩
  refine wpAny_Call_Name_kw (ld_blt I hg hmg PySem.boot_len ?_)
  refine PyProof.Rows.callWith_builtin1 (thn ((pa_cons he pa_nil hs).run pos pins s σ H (fun vs H1 => match vs with
    | [x] => ∃ a dx fs, x = .ref a ∧ H1 a = some (.ins C dx fs) ∧ fs.lookup ("__len__" : Str) = none ∧ sp [x] H1 (fun v H2 => ∃ n : Int, v = .int n ∧ 0 ≤ n ∧ n < 2 ^ 63 ∧ Q v H2) E
    | _ => False) I h) fun us s1 ⟨vs, H1, I1, r1, q1⟩ => ?_) hs hpl
  match vs, r1, q1 with
  | [x], r1, q1 =>
    obtain ⟨a, dx, fs, rfl, ea, _, q⟩ := q1
    obtain ⟨u, rfl, ru⟩ := vals1 r1
    cases ru
    obtain ⟨mA, J, _⟩ := ins_get I1.hok ea
    obtain ⟨od, J, _⟩ := J.look
    obtain ⟨m, hF⟩ := I1.fr
    refine PySem.W.len_K hF I1.ok.mod.kin J hm.at_ hm.fn (wpAny_mono (run_below (vs := [.ref a]) F hr.in1 rfl hx I1 (.cons rfl .nil) q) (fun v s' hv => ?_) fun _ _ z => z)
    obtain ⟨y, H2, I2, ry, n, rfl, h0, h1, q2⟩ := hv
    obtain ⟨t, rfl⟩ := ry
    exact ⟨⟨h0, h1⟩, .int n, H2, I2.tok _, ⟨_, rfl⟩, q2⟩
/-! ### a def with a star parameter and one keyword-only parameter that has a default -/
section
variable {P : Program} {w : World} {K : PySem.W.Frag} {mg : Str → Option Value} {base : Heap} {x qual : Str} {params : Arguments} {body : List Stmt} {scope : Scope} {f : Addr} {fd : FuncData}
theorem fn_starK {CX : CXT} {N ps : List Str} {pk pv : Str} {name : Str} {oc dV kV doc pm cdv ct : Value} {od an : Option Addr} {osl : Array (Option Value)} {k : Nat} {sp : Sp} {kv : V} {ku : Value} (lk : K.lookup f = some ⟨oc, od, .func (PySem.W.fnOf name qual params body scope dV kV doc pm an cdv ct), osl⟩) (hcd : PySem.W.codeIn K cdv qual = true) (S : FnScope N (ps ++ [pk, pv]) scope) (hCX : StX.CXUp CX) (rk : RelV kv ku) {D : Addr} (hD : PySem.W.nsIn K D pk = some (some ku))
    (hb : ∀ us rest : List Value, us.length = ps.length → ∃ (β γ : Type) (k1 : Option Value → Sem β) (k2 : β → Sem γ) (k3 : γ → Sem (List (Str × Value))) (a : β), bindArgs (PySem.W.fnOf name qual params body scope dV kV doc pm an cdv ct) ⟨us ++ rest, []⟩ = ((nsGet D pk >>= k1) >>= k2) >>= k3 ∧ k1 (some ku) = pure a ∧
      (k2 a >>= k3) = (newTuple rest >>= fun t => pure (ps.zip us ++ [(pk, ku), (pv, t)])))
    (hbody : ∀ (A : Around) (outer : List PySem.Env) (s : Shared) (H : Hp) (vs : List V) (Q : VK) (E : XK), Room k (A.deeper (envOfC qual scope s.heap.objs.size f cdv)) → sp vs H Q E →
      ∃ t, PSs (cxOf CX P w K mg base N qual scope f cdv A outer s H E) body t ∧ t { nx := fun _ H' => Q .non H', rt := Q } (start N vs) H) :
    FnR P w K mg base CX (k + 1) f (fun vs H Q E => ∃ ws rest, vs = ws ++ rest ∧ ws.length = ps.length ∧ rest.length ≤ sizeLine ∧ ∀ p, H p = Option.none → sp (ws ++ [kv, V.ref p]) (upd H p (.tup rest)) Q E) := by
  intro A outer s H us vs Q E hr e0 r hsp
  obtain ⟨ws, rest, ev, hl, hz, hq⟩ := hsp
  subst ev
  obtain ⟨u1, u2, eu, r1, r2⟩ := StX.vals_split r
  subst eu
  have hn : H s.heap.objs.size = Option.none := e0.hok.fresh (Nat.le_refl _)
  have hl1 : u1.length = ps.length := by rw [← r1.length]; exact hl
  have hl2 : u2.length ≤ sizeLine := by rw [← r2.length]; exact hz
  refine StX.run_bnd lk hcd S hr e0 (G := fun xs H2 => ∃ p, H p = Option.none ∧ xs = ws ++ [kv, V.ref p] ∧ H2 = upd H p (.tup rest)) (fun A' Ex Q' h => ?_) fun s2 H2 xs ⟨p, hp, ex, eH⟩ hr' => ?_
  · obtain ⟨β, γ, k1, k2, k3, a, e1, e2, e3⟩ := hb u1 u2 hl1
    have kin : K.In s.heap := fun a o q => (e0.bs a o (e0.mod.kin a o q)).1
    have l1 : PySem.W.Looks (model P w) s.heap (nsGet D pk >>= k1) a := (PySem.W.looks_nsIn kin hD).andThen (PySem.W.Looks.of_pure e2)
    rw [e1, bind_assoc]
    refine wpAny_bind (l1.here ?_)
    rw [e3]
    refine wpAny_bind (wpAny_newTuple (wpAny_pure ?_) hl2)
    have new : ObjOk P w (upd H s.heap.objs.size (.tup rest)) (s.heap.push ({ cls := .type "tuple", data := .seq u2.toArray } : Obj)) s.heap.objs.size (.tup rest) := ⟨hz, u2, r2, ⟨_, Heap.get?_push_size _ rfl, rfl, _, rfl⟩⟩
    have un := StX.un_laid (fs := frs outer) (s := s) (o := ({ cls := .type "tuple", data := .seq u2.toArray } : Obj)) (u := .tup rest) hn
    have z := h _ _ (ws ++ [kv, V.ref s.heap.objs.size]) (u1 ++ [ku, Value.ref s.heap.objs.size]) (StX.env0_laid e0 new) un rfl (fun e s' => hCX outer s H _ _ E e s' un (fun b o q => Heap.get?_push_of_some _ q) rfl) (r1.append (.cons rk (.cons rfl .nil)))
      (by rw [List.length_append, List.length_append, hl] <;> rfl) ⟨_, hn, rfl, rfl⟩
    rw [List.zip_append hl1.symm] at z
    exact z
  · subst ex eH
    exact hbody A outer s2 _ _ Q E hr' (hq p hp)
def starK (n : Nat) (e : D) (fs : FS) : FS := fun ds μ => if n ≤ ds.length ∧ ds.length ≤ 1000 then fs (ds.take n ++ [e, .tup (ds.drop n)]) μ else .bad
theorem fnStarK {fin : Mu → Res D → Res D} (hf : Fnl fin) {N ps : List Str} {pk pv : Str} {k : Nat} {T : DS} {kv : V} {e : D} (Fu : FunD K x qual params body scope [] [(pk, kv)] f fd) (S : FnScope N (ps ++ [pk, pv]) scope) (he : ∀ F ρ H, Dt K F ρ H kv e)
    (hb : ∀ (D : Addr) (doc pm : Value) (an : Option Addr) (cdv ct ku : Value) (us rest : List Value), us.length = ps.length → ∃ (β γ : Type) (k1 : Option Value → Sem β) (k2 : β → Sem γ) (k3 : γ → Sem (List (Str × Value))) (a : β), bindArgs (PySem.W.fnOf x qual params body scope .none (.ref D) doc pm an cdv ct) ⟨us ++ rest, []⟩ = ((nsGet D pk >>= k1) >>= k2) >>= k3 ∧ k1 (some ku) = pure a ∧
      (k2 a >>= k3) = (newTuple rest >>= fun t => pure (ps.zip us ++ [(pk, ku), (pv, t)])))
    (hbody : BodyD P w K mg base N qual scope f k body T) : FnR P w K mg base (L2.CX P w) (k + 1) f (spD K (starK ps.length e (defR fin (ps.length + 2) N.length T))) := by
  obtain ⟨oc, od, dV, kV, doc, pm, an, cdv, ct, osl, rfl, lk, hcd, hdf, hkw⟩ := Fu.ex
  have ed : dV = .none := by
    rcases hdf with ⟨_, e⟩ | ⟨e, _⟩
    · exact e
    · exact absurd rfl e
  subst ed
  rcases hkw with hkw | ⟨D, rfl, hq⟩
  · cases hkw
  obtain ⟨ku, hD, rk⟩ := hq (pk, kv) (by simp)
  have raw := fn_starK (P := P) (w := w) (mg := mg) (base := base) (k := k) (sp := spD K (defR fin (ps.length + 2) N.length T)) lk hcd S StX.cxUp rk hD (hb D doc pm an cdv ct ku) fun A outer s H vs Q E hr h => by
    obtain ⟨t, ht, hS⟩ := hbody cdv A outer s H E hr
    obtain ⟨F, ρ, ds, μ, Q', X, wd, q, hd, o, xo⟩ := h
    unfold defR at hd
    split at hd
    · exact ⟨t, ht, body_ok hf wd q hd o xo⟩
    · exact hd.elim
  refine raw.imp fun vs H Q E h => ?_
  obtain ⟨F, ρ, ds, μ, Q', X, wd, q, hd, o, xo⟩ := h
  unfold starK at hd
  split at hd
  · rename_i c
    refine ⟨vs.take ps.length, vs.drop ps.length, (List.take_append_drop _ _).symm, by rw [List.length_take, q.len]; omega, by rw [List.length_drop, q.len, sizeLine_eq]; omega, fun p hp => ?_⟩
    have g := Grow.fresh (ρ := ρ) (o := .tup (vs.drop ps.length)) hp
    refine ⟨F, ρ, _, μ, Q', X, wd.lay hp, ?_, hd, o.mono g, fun e d H' ρ' μ' vs' a b => xo e d H' ρ' μ' vs' a (g.trans b)⟩
    exact ((q.take _).mono g).app (.cons (he _ _ _) (.one (.tup (wd.fresh2 hp) upd_same ((q.drop _).mono g))))
  · exact hd.elim
end
end
end DX

namespace DX
open PySem PySem.Spec PyProof.Rows L2
noncomputable section
section
variable {K : PySem.W.Frag} {E : L2.St → XK}
/-! ### x.f += y -/
def rIaddU : R2 := rAdd
theorem in_addU {X : Cx} : InOp X .Add rIaddU := in_add
def iaddD (x y : D) (μ : Mu) : Res D := match x, y with
  | .int i, .int j => .ok (.int (i + j)) μ
  | _, _ => .bad
instance : SR2 K rIaddU iaddD := ⟨fun {X F H ρ μ x y dx dy P Q} w hx hy h o => by
  unfold iaddD at h
  split at h
  · cases hx; cases hy
    exact ⟨_, _, rfl, rfl, o.here w (.int _) h⟩
  · exact h.elim⟩
theorem iaddD_int {i j : Int} {μ : Mu} : iaddD (.int i) (.int j) μ = .ok (.int (i + j)) μ := rfl
/-! ### f'..' -/
def dFmt (T : DE) : DE := fun η μ => (T η μ).bind fun d μ1 => match d with
  | .str y => chk y.length (.ok (.str y) μ1)
  | .int i => grd (i.natAbs.log2 < 1920) (.ok (.str (toString i)) μ1)
  | _ => .bad
instance {t : TE} {T : DE} [a : SE K E t T] : SE K E (tFmt t) (dFmt T) := ⟨fun w e h o =>
  a.run w e (wp_bind h) fun x H1 ρ1 dx μ1 w1 g1 q1 h1 => by
    split at h1
    · cases q1
      exact .inl ⟨_, rfl, (wp_chk h1).1, (o.mono g1).here w1 (.str _) (wp_chk h1).2⟩
    · cases q1
      exact .inr ⟨_, rfl, (wp_grd h1).1, (o.mono g1).here w1 (.str _) (wp_grd h1).2⟩
    · exact h1.elim⟩
def tJoin (ts : List TE) : TE := fun σ H Q => tJs ts Str.empty σ H fun out H1 => Q (.str out) H1
theorem pe_fstr {X : Cx} {v1 v2 : Expr} {rest : List Expr} {ts : List TE} {pos : Pos} (h : PJ X (v1 :: v2 :: rest) ts) : PE X (.JoinedStr (v1 :: v2 :: rest) pos) (tJoin ts) := pe_joined h
def dJs : List DE → Str → Env → Mu → Res Str
  | [], acc, _, μ => .ok acc μ
  | T :: Ts, acc, η, μ => (T η μ).bind fun d μ1 => match d with
    | .str y => chk (acc ++ y).length (dJs Ts (acc ++ y) η μ1)
    | _ => .bad
def dJoin (Ts : List DE) : DE := fun η μ => (dJs Ts Str.empty η μ).bind fun z μ1 => .ok (.str z) μ1
class SJ (K : PySem.W.Frag) (E : L2.St → XK) (ts : List TE) (Ts : outParam (List DE)) : Prop where
  run : ∀ {X : PX} {F : List Addr} {σ : L2.St} {H : Hp} {η : Env} {ρ : List Addr} {μ : Mu} {P : Str → Mu → Prop} {Q : Str → Hp → Prop} (acc : Str), Wd K F ρ μ H → EnvOk K E X F ρ H σ η → wp (dJs Ts acc η μ) P (fun e μ' => X e η μ') → (∀ z H' ρ' μ', Wd K F ρ' μ' H' → Grow ρ ρ' H H' → P z μ' → Q z H') → tJs ts acc σ H Q
instance : SJ K E [] [] := ⟨fun acc w e h o => o _ _ _ _ w (Grow.refl _ _) h⟩
instance {t : TE} {T : DE} {ts : List TE} {Ts : List DE} [a : SE K E t T] [b : SJ K E ts Ts] : SJ K E (t :: ts) (T :: Ts) := ⟨fun acc w e h o =>
  a.run w e (wp_bind h) fun x H1 ρ1 dx μ1 w1 g1 q1 h1 => by
    split at h1
    · cases q1
      exact ⟨_, rfl, (wp_chk h1).1, b.run _ w1 (e.mono g1) (wp_chk h1).2 fun z H' ρ' μ' w' g' p => o z H' ρ' μ' w' (g1.trans g') p⟩
    · exact h1.elim⟩
instance {ts : List TE} {Ts : List DE} [a : SJ K E ts Ts] : SE K E (tJoin ts) (dJoin Ts) := ⟨fun w e h o =>
  a.run _ w e (wp_bind h) fun z H' ρ' μ' w' g' p => (o.mono g').here w' (.str _) p⟩
end
end
end DX

/-! Own errors over ValueError whose __init__ says super().__init__(x), self.f = x, self.tag = '..'. -/
namespace ErX
open PySem PySem.W PySem.Calls PyProof.Rows PySem.HandSPX
section
variable {prog : Program} {w : World} {A : Around} {E : Value → Shared → Prop} {h : Heap} {g : Array GenState} {d : Drawn} {t : Nat} {os : OsState}
variable {nm q : Str} {C N : Addr} {bs bm : List Value} {hdct : Bool} {sn : List Str} {sub : List Value} {ab : Bool} {col : Option Bool} {dd : Option Addr} {k0 k1 k2 k3 k5 : Option Value}
/-- the bound ValueError.__init__ is called: the arguments' tuple is laid anew -/
theorem call_mw {u e t0 : Addr} {rest : List Value} {Q : Value → Shared → Prop} (hC : h.get? C = some (excClassObj nm q C N bs bm hdct sn sub ab col dd k0 k1 k2 k3 k5 "ValueError.__new__")) (he : h.get? e = some (excO C t0)) (hu : h.get? u = some (kxs_mw "ValueError.__init__" e)) (hr : rest.length ≤ sizeLine)
    (hq : ∀ h' t1, (∀ b o, b ≠ e → h.get? b = some o → h'.get? b = some o) → h'.get? e = some (excO C t1) → Q .none ⟨h', g, d, t, os⟩) : wpAny (model prog w) A (call (.ref u) rest) Q E ⟨h, g, d, t, os⟩ := by
  refine wpAny_call (codeAny_of_tree ?_)
  show wpAny _ A.in1 (callAny (.ref u) { pos := rest, kw := [] }) _ _ _
  simp only [callAny]
  refine wpAny_bind (wpAny_load hu ?_)
  simp only [kxs_mw]
  refine KFB.if_so (by decide) (wpAny_bind (check_bound_init F.excBase_ValueError.toExcCallFacts hC he rfl ?_))
  refine wpAny_bind (wpAny_pure (wpAny_pure ⟨Code.quiet_builtin _ (by decide +kernel), codeAny_builtin F.excBase_ValueError.initEntry ?_⟩))
  rw [Around.under_plainId F.excBase_ValueError.init.plain _]
  wp_walk
  refine hq _ h.objs.size (fun b o hb ho => ?_) ?_
  · have := Heap.get?_push_of_some (h := h) ({ cls := .type "tuple", data := .seq rest.toArray } : Obj) ho
    rw [Heap.get?_update_other _ _ (Ne.symm hb)]
    exact this
  · rw [Heap.get?_update_self _ (Heap.get?_push_of_some _ he) rfl]
    rfl
end
/-! ### the text of such an __init__ -/
def erA (f : Str) (p1 p2 : Pos) : Arguments := { posonlyargs := [], args := [{ arg := "self", annotation := none, pos := p1 }, { arg := f, annotation := none, pos := p2 }], vararg := none, kwonlyargs := [], kw_defaults := [], kwarg := none, defaults := [] }
def erB (f tag : Str) (k : Nat) (q : List Pos) : List Stmt := let p := fun i => q.getD i ⟨0, 0, 0, 0⟩
  [.Expr (.Call (.Attribute (.Call (.Name "super" (p 0)) [] [] (p 1)) "__init__" (p 2)) [.Name f (p 3)] [] (p 4)) (p 5),
   .Assign [.Attribute (.Name "self" (p 6)) f (p 7)] (.Name f (p 8)) (p 9),
   .Assign [.Attribute (.Name "self" (p 10)) "tag" (p 11)] (.Constant (.str tag) k (p 12)) (p 13)]
def erS (f : Str) : Scope := { kind := .function, names := [(Str.ofString "self", .local), (f, .local), (Str.ofString "__class__", .free), (Str.ofString "super", .globalImplicit)], isGenerator := false, isCoroutine := false, more := [] }
/-- what the written part says of the class at C and of its __init__, at fI -/
def supE (f : Str) (q : List Pos) : Expr := .Call (.Attribute (.Call (.Name "super" (q.getD 0 ⟨0, 0, 0, 0⟩)) [] [] (q.getD 1 ⟨0, 0, 0, 0⟩)) "__init__" (q.getD 2 ⟨0, 0, 0, 0⟩)) [.Name f (q.getD 3 ⟨0, 0, 0, 0⟩)] [] (q.getD 4 ⟨0, 0, 0, 0⟩)
structure ErrT (P : Program) (K : Frag) (mg : Str → Option Value) (x f tag : Str) (C fI : Addr) (p1 p2 : Pos) (k : Nat) (qs : List Pos) : Prop where
  gC : mg x = some (.ref C)
  cls : ∃ nm q N bs bm sn sub ab col dd k0 k1 k2 k3 k5, K.lookup C = some (excClassObj nm q C N bs bm true sn sub ab col dd k0 k1 k2 k3 k5 "ValueError.__new__") ∧ refsVE bm = true
  sa : findIn K (.ref C) "__setattr__" = some (some (.builtin "object.__setattr__"))
  nF : findIn K (.ref C) f = some none
  nT : findIn K (.ref C) "tag" = some none
  iC : findIn K (.ref C) "__init__" = some (some (.ref fI))
  tC : typeIn K (.ref fI) = some (.type "function")
  kC : keepIn K (.ref C) = true
  exC : subIn K (.ref C) (.type "BaseException") = some true
  tyC : typeIn K (.ref C) = some (.type "type")
  fn : ∃ (qual : Str) (oc : Value) (od : Option Addr) (doc pm : Value) (an : Option Addr) (cda : Addr) (ct : Value) (osl : Array (Option Value)) (cc : Addr),
    K.lookup fI = some ⟨oc, od, .func (ksFn "__init__" qual (erA f p1 p2) (erB f tag k qs) (erS f) .none .none doc pm an (.ref cda) ct cc), osl⟩ ∧ codeIn K (.ref cda) qual = true ∧
    (∃ ccl cdd vs ccs file tf, K.lookup cda = some ⟨ccl, cdd, .fields vs, ccs⟩ ∧ vs[2]? = some (.str file tf) ∧ ((P.main.file : Str) == file) = true) ∧ ∃ cl cld csl, K.lookup cc = some ⟨cl, cld, .cell (some (.ref C)), csl⟩
  sup : ks_superIn K C C "__init__" = some (some (.builtin "ValueError.__init__"))
  sub : mroIn K C (.ref C) = some true
  ve : subIn K (.ref C) (.type "ValueError") = some true
  nS : mg "super" = none
  op : nsIn K cStatics "thirdparty.any" = some none
  top : (P.main.scope.names.lookup ("super" : Str)).isSome = false
  f1 : f ≠ ("self" : Str)
  f2 : f ≠ ("tag" : Str)
  f3 : f ≠ ("__class__" : Str)
  f4 : f ≠ ("super" : Str)
  f5 : (f == ("__debug__" : Str)) = false
  bd : ∀ (qual : Str) (doc pm : Value) (an : Option Addr) (cd ct : Value) (cc : Addr) (u v : Value), bindArgs (ksFn "__init__" qual (erA f p1 p2) (erB f tag k qs) (erS f) .none .none doc pm an cd ct cc) ⟨[u, v], []⟩ = pure [((Str.ofString "self" : Str), u), (f, v)]
  ev : ∀ env : Env, ∃ pl, eval (supE f qs) env = (do
    let ov ← attributeBase (.Call (.Name "super" (qs.getD 0 ⟨0, 0, 0, 0⟩)) [] [] (qs.getD 1 ⟨0, 0, 0, 0⟩)) "__init__" env (eval (.Call (.Name "super" (qs.getD 0 ⟨0, 0, 0, 0⟩)) [] [] (qs.getD 1 ⟨0, 0, 0, 0⟩)) env)
    standAt (qs.getD 2 ⟨0, 0, 0, 0⟩).atName
    let (g, first) ← holding [ov] (getMethod ov "__init__" pl)
    callWith (qs.getD 4 ⟨0, 0, 0, 0⟩) g first (backTo (qs.getD 4 ⟨0, 0, 0, 0⟩) (starEach [.Name f (qs.getD 3 ⟨0, 0, 0, 0⟩)] env)) [])
/-- what __init__ leaves of a fresh exception at x -/
structure InitEnd (h h' : Heap) (x C dx t1 : Addr) (f : Str) (v u : Value) : Prop where
  keep : ∀ b o, b ≠ x → h.get? b = some o → h'.get? b = some o
  obj : h'.get? x = some { cls := .ref C, dict := some dx, data := .fields #[.ref t1, .none, .none, .none, .bool false, .none] }
  dbig : h.objs.size ≤ dx
  dne : dx ≠ x
  ns : h'.Ns1 dx (fun y => if y = "tag" then some u else if y = f then some v else none)
section
variable {prog : Program} {w : World} {A : Around} {E : Value → Shared → Prop} {R : Result → Shared → Prop} {s : Shared} {K : Frag} {mg mb : Str → Option Value} {C fI : Addr} {xn f tag : Str} {p1 p2 : Pos} {k : Nat} {qs : List Pos}
theorem ldE {M : Model} {Q : Value → Shared → Prop} {qual : Str} {scope : Scope} {L a cc : Addr} {cd : Value} {m : Str → Option Value} {x : Str} {pos : Pos} {v : Value} (hn : s.heap.Ns L m) (hv : m x = some v) (h : Q v s) (hk : scope.kind = .function) (hl : scope.names.lookup x = some .local) (hd : (x == ("__debug__" : Str)) = false) :
    wpAny M A (eval (.Name x pos) (ksEnv qual scope L a cd cc)) Q E s := wpAny_Name (wpAny_loadName_local hk hl hn hv h) hd
theorem er_init (T : ErrT prog K mg xn f tag C fI p1 p2 k qs) {x t0 : Addr} {v : Value} (X : K.In s.heap) (hlim : s.heap.NoLimit) (hg : s.heap.Ns mainGlobals mg) (hb : s.heap.Ns builtinsNs mb) (hbb : mb "super" = bootBuiltins "super") (hx : s.heap.get? x = some (excO C t0)) (hnx : K.lookup x = none) (hroom : A.depth < recursionLimit)
    (hq : ∀ h' tk dx t1 tt, InitEnd s.heap h' x C dx t1 f v (.str tag tt) → R (.ok (.ret .none)) { s with heap := h', toks := tk }) :
    codeAny (model prog w) A (.call (.ref fI) ⟨[.ref x, v], []⟩) R s := by
  obtain ⟨qual, oc, od, doc, pm, an, cda, ct, osl, cc, ho, hcd, ⟨ccl, cdd, vs, ccs, file, tf, hcode, hvs, hfile⟩, cl, cld, csl, hcell⟩ := T.fn
  obtain ⟨nm, q, N, bs, bm, sn, sub, ab, col, dd, k0, k1, k2, k3, k5, hC, hbm⟩ := T.cls
  have hcl : clsIn K C = some { name := nm, bases := bs, mro := .ref C :: bm, ns := N, qualname := q, hasDict := true, slotNames := sn, subclasses := sub, abstract := ab, collection := col, hasDel := false } := by unfold clsIn; rw [hC] <;> rfl
  have ne : ∀ {a : Str}, f ≠ a → (a == f) = false := fun h => beq_eq_false_iff_ne.mpr (Ne.symm h)
  have lS : (erS f).names.lookup ("self" : Str) = some .local := by simp [erS, List.lookup]
  have lF : (erS f).names.lookup f = some .local := by
    have := beq_eq_false_iff_ne.mpr T.f1
    simp [erS, List.lookup, this]
  have lC : (erS f).names.lookup ("__class__" : Str) = some .free := by
    have h1 := ne T.f3
    have h2 : (("__class__" : Str) == Str.ofString "self") = false := by decide +kernel
    simp [erS, List.lookup, h1, h2]
  have lU : (erS f).names.lookup ("super" : Str) = some .globalImplicit := by
    have h1 := ne T.f4
    have h2 : (("super" : Str) == Str.ofString "self") = false := by decide +kernel
    have h3 : (("super" : Str) == Str.ofString "__class__") = false := by decide +kernel
    simp [erS, List.lookup, h1, h2, h3]
  have bF : (([(("self" : Str), Value.ref x), (f, v)] : List (Str × Value)).reverse).lookup f = some v := by simp [List.lookup]
  have bS : (([(("self" : Str), Value.ref x), (f, v)] : List (Str × Value)).reverse).lookup ("self" : Str) = some (Value.ref x) := by
    have h1 := ne T.f1
    simp [List.lookup, h1]
  refine ks_codeAny_call_defAt (binds := [("self", .ref x), (f, v)]) hroom (X _ _ ho) rfl hlim (codeRec_of X hcd) rfl (BindsTo.of_eq (T.bd _ _ _ _ _ _ _ _ _)) ?_ ?_ (fun h₁ hn hk => ?_) rfl rfl rfl
  · intro y hy
    have hy : y ∈ (erS f).names := hy
    simp only [erS, List.mem_cons, List.not_mem_nil, or_false] at hy
    rcases hy with rfl | rfl | rfl | rfl <;> intro z <;> cases z
  · intro y hy
    simp only [List.mem_cons, List.not_mem_nil, or_false] at hy
    rcases hy with rfl | rfl
    · exact lS
    · exact lF
  · have hxL : s.heap.objs.size ≠ x := Nat.ne_of_gt (Heap.lt_size hx)
    have X₁ : K.In h₁ := X.keeps hk
    have hx₁ := hk _ _ hx
    -- super().__init__(f)
    obtain ⟨pl, hev⟩ := T.ev (callEnv (ksFn "__init__" qual (erA f p1 p2) (erB f tag k qs) (erS f) .none .none doc pm an (.ref cda) ct cc) s.heap.objs.size fI)
    refine ks_wpAt_execs_cons (ks_wpAt_Expr_any (ks_wpAt_MethodCall ?_ hev))
    refine ks_wpAt_super_base (f := fI) (cc := cda) lU lC (by decide +kernel) rfl (X₁ _ _ ho) rfl rfl rfl (X₁ _ _ hcode) rfl hvs hfile T.top ?_
    refine ks_loadName_global rfl lU (loadGlobal_builtin (hg.keeps hk) T.nS (hb.keeps hk) (hbb.trans PyProof.Rows.Boot.«super») ⟨rfl, ?_⟩)
    refine wpAny_loadName_free rfl lC rfl ⟨_, X₁ _ _ hcell, rfl⟩ ?_
    refine wpAny_loadName_local rfl lS hn bS ?_
    refine ks_wpAny_isType_cls (X₁ _ _ hC) rfl ⟨rfl, ?_⟩
    obtain ⟨hp0, g, d, t, os⟩ := s
    refine ks_wpAny_call_super (X₁ _ _ hC) rfl hx₁ rfl (fun c z => by cases z) (looks_mroIn X₁ T.sub) (fun h₂ e2 k2 => ?_)
    have X₂ : K.In h₂ := X₁.keeps k2
    have hx₂ := k2 _ _ hx₁
    have xC : x ≠ C := fun z => by rw [z, hC] at hnx; cases hnx
    have sp := T.sup
    unfold ks_superIn at sp
    rw [hcl] at sp
    have I₂ : InstAt h₂ x (excO C t0) C none := ⟨hx₂, rfl, rfl, trivial⟩
    refine kxs_getMethod kxs_ValueError e2 (looks_opaque X₂ T.op) (l₀ := .ref C :: bm) (fun A Q E s kk qq => wpAny_bind ((looks_clsIn X₂ hcl) A _ E s kk (wpAny_pure qq))) rfl X₂ sp (I₂.type.andThen (looks_subIn X₂ T.ve)) xC (by decide +kernel) ?_
    have k3 : ∀ b o, h₂.get? b = some o → (h₂.push (kxs_mw "ValueError.__init__" x)).get? b = some o := fun b o e => Heap.get?_push_of_some _ e
    have hn3 : (h₂.push (kxs_mw "ValueError.__init__" x)).Ns hp0.objs.size (fun y => (([(("self" : Str), Value.ref x), (f, v)] : List (Str × Value)).reverse).lookup y) := hn.keeps fun b o e => k3 b o (k2 b o e)
    refine kxs_callWith (i := "ValueError.__init__") (x := x) rfl (evalArgs_plain (spliced_cons (ldE (qual := qual) (cc := cc) (cd := .ref cda) hn3 bF (spliced_nil ⟨Heap.get?_push_at rfl rfl, ?_⟩) rfl lF T.f5)))
    refine call_mw (k3 _ _ (X₂ _ _ hC)) (k3 _ _ hx₂) (Heap.get?_push_at rfl rfl) (by show 1 ≤ sizeLine; rw [sizeLine_eq]; decide) (fun h₄ t1 k4 hx₄ => ?_)
    have k04 : ∀ b o, b ≠ x → hp0.get? b = some o → h₄.get? b = some o := fun b o hb e => k4 b o hb (k3 b o (k2 b o (hk b o e)))
    have X₄ : K.In h₄ := fun b o e => k04 b o (fun z => by rw [z, hnx] at e; cases e) (X b o e)
    have hn4 : h₄.Ns hp0.objs.size (fun y => (([(("self" : Str), Value.ref x), (f, v)] : List (Str × Value)).reverse).lookup y) := by
      obtain ⟨o, es, ep, e, r⟩ := hn3
      exact ⟨o, es, ep, k4 _ _ hxL e, r⟩
    have lt4 : hp0.objs.size < h₄.objs.size := hn4.lt
    -- self.f = f
    refine wpAt_of_wpAny (wpAny_execs_cons (plainObj_wpAny_Assign_Attribute (ldE (qual := qual) (cc := cc) (cd := .ref cda) hn4 bF (ldE (qual := qual) (cc := cc) (cd := .ref cda) hn4 bS ?_ rfl lS (by decide +kernel)) rfl lF T.f5)))
    refine set_plain X₄ (ox := excO C t1) (od := none) ⟨hx₄, rfl, rfl, trivial⟩ T.sa ?_
    refine exc_osa X₄ hx₄ hcl (show refsVE (.ref C :: bm) = true from hbm) rfl T.nF (fun h₅ tk₅ dx k₅ dn dne hx₅ hn₅ => ?_)
    have X₅ : K.In h₅ := fun b o e => k₅ b o (fun z => by rw [z, hnx] at e; cases e) (X₄ b o e)
    have hn5 : h₅.Ns hp0.objs.size (fun y => (([(("self" : Str), Value.ref x), (f, v)] : List (Str × Value)).reverse).lookup y) := by
      obtain ⟨o, es, ep, e, r⟩ := hn4
      exact ⟨o, es, ep, k₅ _ _ hxL e, r⟩
    -- self.tag = '..'
    refine wpAny_execs_cons (plainObj_wpAny_Assign_Attribute (Calls.Constant_str (ldE (qual := qual) (cc := cc) (cd := .ref cda) hn5 bS ?_ rfl lS (by decide +kernel))))
    have hw : Within (fun y => if y = f then some v else none) [f] := fun y hy => by
      by_cases c : y = f
      · rw [c]; exact List.mem_singleton.mpr rfl
      · exact absurd (if_neg c) hy
    obtain ⟨oD, esD, epD, hoD, _, _⟩ := hn₅.count hw
    refine set_plain X₅ (ox := { cls := .ref C, dict := some dx, data := .fields #[.ref t1, .none, .none, .none, .bool false, .none] }) (od := some oD) ⟨hx₅, rfl, rfl, hoD⟩ T.sa ?_
    refine PySem.OEX.osa_old X₅ hx₅ hn₅ hw (by simp) hcl (show refsVE (.ref C :: bm) = true from hbm) rfl T.nT (fun h₆ tk₆ k₆ hn₆ => ?_)
    refine wpAny_execs_nil (hq h₆ _ dx t1 _ ⟨fun b o hb e => ?_, ?_, Nat.le_trans (Nat.le_of_lt lt4) dn, dne, hn₆⟩)
    · have e4 := k04 b o hb e
      have e5 := k₅ b o hb e4
      refine k₆ b o (fun z => ?_) e5
      rw [z] at e4
      exact absurd (Heap.lt_size e4) (Nat.not_lt.mpr dn)
    · exact k₆ x _ (Ne.symm dne) hx₅
end
end ErX

namespace ErX
open PySem PySem.W PySem.Calls PyProof.Rows PySem.HandSPX
/-- an error that was made -/
structure Made (h h' : Heap) (e C d : Addr) (f : Str) (v u : Value) : Prop where
  keep : ∀ b o, h.get? b = some o → h'.get? b = some o
  new : h.objs.size ≤ e
  obj : ∃ oe vs, h'.get? e = some oe ∧ oe.cls = .ref C ∧ oe.dict = some d ∧ oe.data = .fields vs ∧ vs[1]? = some .none
  dbig : h.objs.size ≤ d
  dne : d ≠ e
  ns : h'.Ns1 d (fun y => if y = "tag" then some u else if y = f then some v else none)
section
variable {prog : Program} {w : World} {A : Around} {R : Result → Shared → Prop} {s : Shared} {K : Frag} {mg mb : Str → Option Value} {C fI : Addr} {xn f tag : Str} {p1 p2 : Pos} {k : Nat} {qs : List Pos}
theorem er_made (T : ErrT prog K mg xn f tag C fI p1 p2 k qs) {v : Value} (X : K.In s.heap) (hlim : s.heap.NoLimit) (hg : s.heap.Ns mainGlobals mg) (hb : s.heap.Ns builtinsNs mb) (hbb : mb "super" = bootBuiltins "super") (hroom : A.depth + 1 < recursionLimit)
    (hq : ∀ h' tk e d tt, Made s.heap h' e C d f v (.str tag tt) → R (.ok (.ret (.ref e))) { s with heap := h', toks := tk }) : codeAny (model prog w) A (.call (.ref C) ⟨[v], []⟩) R s := by
  obtain ⟨nm, q, N, bs, bm, sn, sub, ab, col, dd, k0, k1, k2, k3, k5, hC, hbm⟩ := T.cls
  obtain ⟨hp, g, dr, tk, os⟩ := s
  have up : ∀ b o, hp.get? b = some o → ((hp.push (kdv_tup [v])).push (excO C hp.objs.size)).get? b = some o := fun b o e => Heap.get?_push_of_some _ (Heap.get?_push_of_some _ e)
  have hget : ((hp.push (kdv_tup [v])).push (excO C hp.objs.size)).get? (hp.objs.size + 1) = some (excO C hp.objs.size) := by heap_get
  have hnx : K.lookup (hp.objs.size + 1) = none := by
    cases e : K.lookup (hp.objs.size + 1) with
    | none => rfl
    | some o =>
      have z := Heap.lt_size (X _ _ e)
      exact absurd (Nat.lt_of_succ_lt z) (Nat.lt_irrefl _)
  refine call_own F.excBase_ValueError (fun Y => refsVE_contains Y bm hbm) (X _ _ hC) (looks_findIn X T.iC) (fun self => bind_fn X self T.tC) (by show 1 ≤ sizeLine; rw [sizeLine_eq]; decide) ?_
  refine er_init (s := ⟨(hp.push (kdv_tup [v])).push (excO C hp.objs.size), g, dr, tk, os⟩) T (X.keeps up) (hlim.keeps up) (hg.keeps up) (hb.keeps up) hbb hget hnx hroom fun h' tk' dx t1 tt M => ?_
  have old : ∀ b o, hp.get? b = some o → h'.get? b = some o := fun b o e => M.keep b o (Nat.ne_of_lt (Nat.lt_succ_of_lt (Heap.lt_size e))) (up b o e)
  have z : hp.objs.size + 1 + 1 ≤ dx := by
    have q := M.dbig
    first
      | (simpa only [Heap.size_push] using q)
      | exact q
  exact ⟨rfl, hq h' tk' (hp.objs.size + 1) dx tt ⟨old, Nat.le_succ _, ⟨_, _, M.obj, rfl, rfl, rfl, rfl⟩, Nat.le_trans (Nat.le_trans (Nat.le_succ _) (Nat.le_succ _)) z, M.dne, M.ns⟩⟩
end
end ErX
namespace DX
open PySem PySem.Spec PyProof.Rows L2 ErX
theorem relO_er {f tag : Str} {v : V} {v' : Value} {tt : Tok} (rv : RelV v v') (y : Str) : RelO (List.lookup y [(("tag" : Str), V.str tag), (f, v)]) (if y = "tag" then some (Value.str tag tt) else if y = f then some v' else none) := by
  by_cases c : y = ("tag" : Str)
  · subst c
    rw [if_pos rfl]
    have q : List.lookup (Str.ofString "tag") [((Str.ofString "tag" : Str), V.str tag), (f, v)] = some (V.str tag) := by simp [List.lookup]
    rw [q]
    exact ⟨tt, rfl⟩
  · rw [if_neg c]
    have hc : (y == (Str.ofString "tag")) = false := beq_eq_false_iff_ne.mpr c
    by_cases c2 : y = f
    · subst c2
      rw [if_pos rfl]
      have q : List.lookup y [((Str.ofString "tag" : Str), V.str tag), (y, v)] = some v := by simp [List.lookup, hc]
      rw [q]
      exact rv
    · rw [if_neg c2]
      have hc2 : (y == f) = false := beq_eq_false_iff_ne.mpr c2
      have q : List.lookup y [((Str.ofString "tag" : Str), V.str tag), (f, v)] = none := by simp [List.lookup, hc, hc2]
      rw [q]
      trivial
section
variable {X : Cx} {C fI : Addr} {x f tag : Str} {p1 p2 : Pos} {kk : Nat} {qs : List Pos}
def tMkE (C : Addr) (f tag : Str) (ta : TA) : L2.St → Hp → XK → Prop := fun σ H Q => ta σ H fun vs H1 => ∃ v, vs = [v] ∧ ∀ d, H1 d = none → Q (.ref C) (some d) (upd H1 d (.xd [(("tag" : Str), V.str tag), (f, v)]))
theorem pmk_er {a : Expr} {ta : TA} {p pos : Pos} {k : Nat} (T : ErrT X.prog X.K X.mg x f tag C fI p1 p2 kk qs) (hr : Room k X.A) (hg : Gl X x) (ha : PA X [a] ta) (hdb : (x == ("__debug__" : Str)) = false := by decide)
    (he : starEach (a :: []) X.env = (false, eval a X.env) :: starEach [] X.env := by rfl) (hpl : (backTo pos (starEach [] X.env)).any (·.1) = false := by rfl) :
    PMk X (.Call (.Name x p) [a] [] pos) (tMkE C f tag ta) := by
  intro pins s σ H Q I h
  refine wpAny_Call_Name_kw (ld_glob I hg T.gC ?_ hdb)
  refine PySem.W.callWith_K (h₀ := X.base) I.ok.mod.kin T.kC (thn (ha.run pos pins s σ H _ I h) fun us s1 hh => ?_) he hpl
  obtain ⟨vs, H1, I1, r1, v, ev, q1⟩ := hh
  subst ev
  refine ⟨I1.kIn, ?_⟩
  obtain ⟨v', rfl, rv⟩ := vals1 r1
  show wpAny _ _ (call (.ref C) [v']) _ _ _
  obtain ⟨mb, hb, hbb⟩ := I1.mod.blt
  have hlim := I1.nolimit
  have hgl := I1.mod.glob.keeps I1.bk
  have hbl := hb.keeps I1.bk
  obtain ⟨hp, g, dr, tk, os⟩ := s1
  refine wpAny_call (er_made T I1.kIn hlim hgl hbl (hbb _ (by decide +kernel)) (by have := hr.dp; omega) fun h' tk' e d tt M => ?_)
  show MkP X pins σ Q (.ref e) ⟨h', g, dr, tk', os⟩
  obtain ⟨oe, fv, hoe, hc, hd, hdat, h1⟩ := M.obj
  have hns := M.ns
  obtain ⟨G', g1, g2⟩ := restrict h' fun b => decide (b ≠ e)
  have gk : ∀ b, b ≠ e → G'.get? b = h'.get? b := fun b hb => g1 b (decide_eq_true hb)
  have ge : G'.get? e = none := g2 e (by simp)
  have old : ∀ b o, hp.get? b = some o → G'.get? b = some o := fun b o q => (gk b (Nat.ne_of_lt (Nat.lt_of_lt_of_le (Heap.lt_size q) M.new))).trans (M.keep b o q)
  have ob : ObjOk X.prog X.w (upd H1 d (.xd [(("tag" : Str), V.str tag), (f, v)])) G' d (.xd [(("tag" : Str), V.str tag), (f, v)]) := ⟨_, hns.at (fun o q => (gk d M.dne).trans q), fun y => relO_er rv y⟩
  have J : Inv X pins σ (upd H1 d (.xd [(("tag" : Str), V.str tag), (f, v)])) ⟨G', g, dr, tk', os⟩ := I1.laid (t' := tk') old M.dbig ob
  refine ⟨e, oe, fv, ⟨G', g, dr, tk', os⟩, _, .ref C, some d, rfl, J, fun b o q => ?_, ge, hoe, ⟨hc, hd⟩, hdat, h1, ?_, rfl, I1.bare, raises_own T.exC T.tyC, q1 d (I1.hok.fresh M.dbig)⟩
  · by_cases hb : b = e
    · have q' : G'.get? b = some o := q
      rw [hb, ge] at q'
      cases q'
    · exact (gk b hb).symm.trans q
  · rw [upd_ne (Ne.symm M.dne)]
    exact I1.hok.fresh M.new
/-- raise x(e) -/
def tRaiseE (C : Addr) (f tag : Str) (E : L2.St → XK) (ta : TA) : TS := fun _ σ H => ta σ H fun vs H1 => ∃ v, vs = [v] ∧ ∀ d, H1 d = none → E σ (.ref C) (some d) (upd H1 d (.xd [(("tag" : Str), V.str tag), (f, v)]))
theorem ps_raiseE {E : L2.St → XK} {a : Expr} {ta : TA} {p pos pos2 : Pos} {k : Nat} (hc : X.calm = true) (tk : TkE X E) (T : ErrT X.prog X.K X.mg x f tag C fI p1 p2 kk qs) (hr : Room k X.A) (hg : Gl X x) (ha : PA X [a] ta) (hdb : (x == ("__debug__" : Str)) = false := by decide)
    (he : starEach (a :: []) X.env = (false, eval a X.env) :: starEach [] X.env := by rfl) (hpl : (backTo pos (starEach [] X.env)).any (·.1) = false := by rfl) :
    PS X (.Raise (some (.Call (.Name x p) [a] [] pos)) none pos2) (tRaiseE C f tag E ta) := ps_raise hc tk (pmk_er T hr hg ha hdb he hpl)
end
section
variable {K : PySem.W.Frag} {E : L2.St → XK}
def dRaise (c f tag : Str) (Ta : DA) : DS := fun η μ => (Ta η μ).to η fun ds μ1 => match ds with
  | [x] => .exc ⟨c, ["tag", f], [.str tag, x]⟩ η μ1
  | _ => .bad
instance {c f tag : Str} {ta : TA} {Ta : DA} [a : SA K E ta Ta] : SS K E (tRaiseE (He.ga K c) f tag E ta) (dRaise c f tag Ta) := ⟨fun {X F B σ H η ρ μ D} w e h o =>
  a.run w e (wp_to h) fun vs H1 ρ1 ds μ1 w1 g1 q1 h1 => by
    split at h1
    · rename_i x
      cases q1 with
      | @cons v _ _ _ qa qb =>
        cases qb
        refine ⟨v, rfl, fun d hd => ?_⟩
        have g2 := Grow.fresh (ρ := ρ1) (H := H1) (p := d) (o := .xd [(("tag" : Str), V.str tag), (f, v)]) hd
        exact e.xo σ η ⟨c, ["tag", f], [.str tag, x]⟩ d _ ρ1 μ1 [V.str tag, v] (w1.lay hd) ((e.toEnvOk0.mono g1).mono g2) (g1.trans g2) upd_same (w1.fresh2 hd) rfl (.cons (.str tag) (.one (qa.mono g2))) h1
    · exact h1.elim⟩
end
end DX

namespace DX
open PySem PySem.Spec PyProof.Rows L2 ErX
/-! ### try: body / except (x1, x2, x3) as n: suite, where the clause meets whatever is raised -/
theorem exq_ok {P : Program} {w : World} {H : Hp} {h : Heap} {a C d : Addr} {o : Obj} {vs : Array Value} (e : h.get? a = some o) (hc : o.cls = .ref C) (hd : o.dict = some d) (hf : o.data = .fields vs) : ObjOk P w H h a (exq a C d) :=
  ⟨⟨o, vs, e, hc, hd, hf⟩, ⟨o, e⟩, fun h1 h2 ⟨o', vs', q, r⟩ k => ⟨o', vs', k o' q, r⟩⟩
theorem exq_at {P : Program} {w : World} {H : Hp} {h : Heap} {a C d : Addr} (hok : HOk P w H h) (e : H a = some (exq a C d)) : ∃ (o : Obj) (vs : Array Value), h.get? a = some o ∧ o.cls = .ref C ∧ o.dict = some d ∧ o.data = .fields vs := by
  have x : ObjOk P w H h a (.ext fun h => ∃ (o : Obj) (vs : Array Value), h.get? a = some o ∧ o.cls = .ref C ∧ o.dict = some d ∧ o.data = .fields vs) := hok a _ e
  exact x.1
def wTup (K : PySem.W.Frag) (cs : List Value) (i : Nat) (ts : TS) (D : Ends) : WX := fun cls d σ H => PySem.W.exmAny K cls cs = some true ∧ ∃ C dd, cls = .ref C ∧ d = some dd ∧
  ∀ a, H a = none → ts { nx := fun σ' H' => D.nx (σ'.set i none) H', rt := D.rt, bk := fun σ' H' => D.bk (σ'.set i none) H', ct := fun σ' H' => D.ct (σ'.set i none) H' } (σ.set i (some (.ref a))) (upd H a (exq a C dd))
theorem flying_push {B h : Heap} {l : List PySem.Env} {a : Addr} {Z : Obj → Prop} (o : Obj) (x : HandSPX.FlyingZ B l a Z h) : HandSPX.FlyingZ B l a Z (h.push o) := by
  obtain ⟨k1, k2, k3, oe, vs, T, oT, ts, he, hz, hd, h1, hnT, hTe, hT, hdT, h3⟩ := x
  have up : ∀ b u, h.get? b = some u → (h.push o).get? b = some u := fun b u e => Heap.get?_push_of_some _ e
  exact ⟨fun b u e => up b u (k1 b u e), k2, Heap.FunFrames.of_keeps (fun b u e _ => ⟨u, up b u e, rfl⟩) k3, oe, vs, T, oT, ts, up _ _ he, hz, hd, h1, hnT, hTe, up _ _ hT, hdT, h3⟩
section
variable {X : Cx} {x1 x2 x3 n : Str} {c1 c2 c3 : Value} {i : Nat} {body suite : List Stmt} {b₀ : Stmt} {n1 n2 n3 tp pos pos' : Pos} {k : Nat} {tb : WX → TS} {ts : TS}
theorem ps_try_tup (hs : X.stack = X.env :: X.outer) (hf : X.env.frame = some X.env.locals) (hN : X.N.Nodup) (hi : X.N[i]? = some n) (hln : X.env.kindOf n = some .local) (hc1 : Names X x1 c1) (hc2 : Names X x2 c2) (hc3 : Names X x3 c3)
    (hb : ∀ (W : WX) (pn : List (Addr × Obj)) (xe : Value → Shared → Prop), Takes (X.tr pn xe) W → PassesOwn (model X.prog X.w) X.A X.env xe → PSs (X.tr pn xe) body (tb W))
    (hsu : ∀ (a : Addr) (pn : List (Addr × Obj)), PSs (X.suite a pn) (b₀ :: suite) ts)
    (he : starEach [.Name x1 n1, .Name x2 n2, .Name x3 n3] X.env = [(false, eval (.Name x1 n1) X.env), (false, eval (.Name x2 n2) X.env), (false, eval (.Name x3 n3) X.env)] := by rfl) :
    PS X (.Try body [.ExceptHandler (some (.Tuple [.Name x1 n1, .Name x2 n2, .Name x3 n3] k tp)) (some n) (b₀ :: suite) pos'] [] [] pos) (fun D σ H => tb (wTup X.K [c1, c2, c3] i ts D) D σ H) := by
  refine ⟨fun pins s σ H D I h => ?_⟩
  have ok := I.ok
  have hfr : X.A.frames = some (X.env :: X.outer) := by rw [ok.frames, hs]
  have hloc : Loc X.env.scope n := .inl hln
  refine wpAny_Try_except (wpAny_mono ((hb (wTup X.K [c1, c2, c3] i ts D) (X.pn ++ pins) (fun e s₁ => wpAny (model X.prog X.w) X.A (noteFrame e X.env) (fun _ s₂ => wpAny (model X.prog X.w) X.A (setFlight e none) (fun _ s₃ =>
      wpAny (model X.prog X.w) X.A (handleBy e X.env [.ExceptHandler (some (.Tuple [.Name x1 n1, .Name x2 n2, .Name x3 n3] k tp)) (some n) (b₀ :: suite) pos']) (SP X pins D) X.xe s₃) X.xe s₂) X.xe s₁) (fun u s' xx => ?_) PassesOwn.looking).run [] s σ H D (I.toTry _) h) (fun f s1 hsp => ?_) (fun e s1 he => he))
  · obtain ⟨a, B, sI, pins', σ', H', cls, d, rfl, J', nb, up, sky, na, os, ag, hb1, C, dd, rfl, rfl, hyes⟩ := xx
    have J : Inv X pins σ' H' sI := J'.ofTry ok
    have sky' : Sky B (X.env :: X.outer) a (Zc (.ref C) (some dd)) X.env.locals s'.heap := by rw [← hs]; exact sky
    show wpAny (model X.prog X.w) X.A (noteFrame (.ref a) X.env) _ _ _
    refine Sky.land Zc.steady hfr hf sky' fun h3 fl3 up3 => ?_
    have J3 : Inv X pins σ' H' { s' with heap := h3 } := J.landed nb fl3.1 (up.trans up3) os ag
    obtain ⟨oe3, vs3, he3, hz3, hd3⟩ := fl3.there
    have nfr : a ∉ frs (X.env :: X.outer) := fun hm => by
      obtain ⟨_, o', e', hnf⟩ := fl3.2.2.1.mem hm
      rw [he3] at e'
      cases e'
      exact hnf _ hd3
    have nL : a ≠ X.env.locals := fun z => nfr (List.mem_filterMap.mpr ⟨X.env, List.mem_cons_self, by rw [hf, z]⟩)
    have nF : a ∉ X.fs := fun hm => by
      obtain ⟨e, he, q⟩ := List.mem_filterMap.mp hm
      exact nfr (List.mem_filterMap.mpr ⟨e, List.mem_cons_of_mem _ he, q⟩)
    have S3 := J3.suite he3 hd3 na nL nF
    refine wpAny_handleBy_cons (codeAny_handlers_test ?_) (by intro q; cases q)
    have test : ∀ {x : Str} {c : Value} {p : Pos} {Q : Value → Shared → Prop} {E : Value → Shared → Prop}, Names X x c → Q c { s' with heap := h3 } → wpAny (model X.prog X.w) (X.A.mark (some (.ref a))) (eval (.Name x p) X.env) Q E { s' with heap := h3 } := fun {x c p Q E} hc q => by
      obtain ⟨hg, hdbg, hm | ⟨hm, hv, hnn⟩⟩ := hc
      · exact ld_glob (X := X.suite a ((a, oe3) :: (X.pn ++ pins))) S3 hg hm q hdbg
      · exact ld_blt (X := X.suite a ((a, oe3) :: (X.pn ++ pins))) S3 hg hm hv q hnn hdbg
    refine wpAny_Tuple_spliced ?_
    rw [he]
    refine Calls.spliced_cons (test hc1 (Calls.spliced_cons (test hc2 (Calls.spliced_cons (test hc3 (Calls.spliced_nil ⟨by show 3 ≤ sizeLine; rw [sizeLine_eq]; decide, ?_⟩))))))
    have fl3' := flying_push ({ cls := .type "tuple", data := .seq [c1, c2, c3].toArray } : Obj) fl3
    have he3' : (h3.push ({ cls := .type "tuple", data := .seq [c1, c2, c3].toArray } : Obj)).get? a = some oe3 := Heap.get?_push_of_some _ he3
    have J3' : Inv X pins σ' H' { s' with heap := h3.push ({ cls := .type "tuple", data := .seq [c1, c2, c3].toArray } : Obj) } := J3.kept (t' := s'.toks) fun b o e => Heap.get?_push_of_some _ e
    have LT : PySem.W.Looks (model X.prog X.w) (h3.push ({ cls := .type "tuple", data := .seq [c1, c2, c3].toArray } : Obj)) (typeOf (.ref a)) (.ref C) := fun A Q E s k q => wpAny_typeOf_ref (k _ _ he3') (by rw [hz3.1]; exact q)
    refine (PySem.W.exm_tup3 (M := model X.prog X.w) J3'.kIn LT (Heap.get?_push_size _ rfl) hb1).here ?_
    refine codeAny_handlers_suite_as (HandSPX.lands_againZ fl3' fun h4 fl4 up4 => ?_)
    -- the exception is known from now on
    obtain ⟨oe4, vs4, he4, hz4, hd4⟩ := fl4.there
    obtain ⟨G, g1, g2⟩ := restrict h4 fun b => decide (b ≠ a)
    have gk : ∀ b, b ≠ a → G.get? b = h4.get? b := fun b hb => g1 b (decide_eq_true hb)
    have ga : G.get? a = none := g2 a (by simp)
    have nB : B.get? a = none := fl4.2.1
    have up34 : h3.UpToSlots h4 := fun b o e hnf => up4 b o (Heap.get?_push_of_some _ e) hnf
    have JG : Inv X pins σ' H' { s' with heap := G } := by
      refine J.landed nb (fun b o e => ?_) (fun b o e hnf => ?_) os ag
      · rw [show ({ s' with heap := G } : Shared).heap.get? b = G.get? b from rfl, gk b (fun z => by rw [z, nB] at e; cases e)]
        exact fl4.1 b o e
      · obtain ⟨sl, q⟩ := ((up.trans up3).trans up34) b o e hnf
        have hb : b ≠ a := fun z => by
          subst z
          rw [he4] at q
          have q' := congrArg Obj.data (Option.some.inj q)
          have q2 : oe4.data = o.data := q'
          exact hnf vs4 (by rw [← q2]; exact hd4)
        exact ⟨sl, by show G.get? b = _; rw [gk b hb]; exact q⟩
    have J4 : Inv X pins σ' (upd H' a (exq a C dd)) { s' with heap := h4 } := by
      have z := JG.laidN (h' := h4) (a := a) (o := exq a C dd) (t' := s'.toks) (fun b u e => by
        have e : G.get? b = some u := e
        by_cases hb : b = a
        · rw [hb, ga] at e; cases e
        · rw [← gk b hb]; exact e) ga na (exq_ok he4 hz4.1 hz4.2 hd4)
      exact z
    have S4 : Inv (X.suite a (X.pn ++ pins)) [] σ' (upd H' a (exq a C dd)) { s' with heap := h4 } :=
      ⟨J4.ok.suite _ _, J4.os, J4.bare, J4.base, J4.loc, J4.cell, J4.free, J4.freeC, fun p hp => J4.pin p (by rw [List.append_nil] at hp; exact hp), J4.hok, J4.len⟩
    refine store_ok (X := X.suite a (X.pn ++ pins)) (v := .ref a) S4 hN hi hloc rfl (fun s5 S5 => ?_) (.inr hln)
    refine wpAny_mono ((hsu a (X.pn ++ pins)).run [] s5 _ _ _ S5 (hyes a na)) (fun f s6 hsp => ?_) (fun _ _ z => False.elim z)
    have end_ : ∀ {σ6 : L2.St} {H6 : Hp} {Q : Shared → Prop}, Inv (X.suite a (X.pn ++ pins)) [] σ6 H6 s6 → (∀ s7, Inv X pins (σ6.set i none) H6 s7 → Q s7) →
        wpAny (model X.prog X.w) X.A (do bindName X.env n .none; unbindBehindTheSuite X.env n pos') (fun _ s7 => Q s7) X.xe s6 := fun {σ6 H6 Q} S6 hq => by
      have J6 : Inv X pins σ6 H6 s6 := ⟨ok, S6.os, S6.bare, S6.base, S6.loc, S6.cell, S6.free, S6.freeC, fun p hp => S6.pin p (by rw [List.append_nil]; exact hp), S6.hok, S6.len⟩
      exact gone_ok J6 hN hi hln hq
    cases f with
    | next =>
      obtain ⟨σ6, H6, S6, q6⟩ := hsp
      exact end_ S6 fun s7 J7 => ⟨_, _, J7, q6⟩
    | brk =>
      obtain ⟨σ6, H6, S6, q6⟩ := hsp
      exact end_ S6 fun s7 J7 => ⟨_, _, J7, q6⟩
    | cont =>
      obtain ⟨σ6, H6, S6, q6⟩ := hsp
      exact end_ S6 fun s7 J7 => ⟨_, _, J7, q6⟩
    | ret u =>
      obtain ⟨v6, σ6, H6, S6, r6, q6⟩ := hsp
      exact end_ S6 fun s7 J7 => ⟨_, _, _, J7, r6, q6⟩
  · cases f with
    | next =>
      obtain ⟨σ', H', J', q⟩ := hsp
      exact wpAny_execs_nil ⟨σ', H', J'.ofTry ok, q⟩
    | brk =>
      obtain ⟨σ', H', J', q⟩ := hsp
      exact ⟨σ', H', J'.ofTry ok, q⟩
    | cont =>
      obtain ⟨σ', H', J', q⟩ := hsp
      exact ⟨σ', H', J'.ofTry ok, q⟩
    | ret u =>
      obtain ⟨v, σ', H', J', r, q⟩ := hsp
      exact ⟨v, σ', H', J'.ofTry ok, r, q⟩
end
end DX

namespace DX
open PySem PySem.Spec PyProof.Rows L2 ErX
noncomputable section
/-! ### err.f -/
structure ExAt (K : PySem.W.Frag) (C : Addr) (f : Str) : Prop where
  ga : PySem.W.findIn K (.ref C) "__getattribute__" = some (some (.builtin "BaseException.__getattribute__"))
  gg : PySem.W.findIn K (.ref C) "__getattr__" = some none
  ex : PySem.W.subIn K (.ref C) (.type "BaseException") = some true
  hd : PySem.W.hasDictIn K C = true
  no : PySem.W.findIn K (.ref C) f = some none
def tExcF (K : PySem.W.Frag) (cs : List Str) (te : TE) (f : Str) : TE := fun σ H Q => te σ H fun x H1 => ∃ (a dd : Addr) (c : Str) (fs : List (Str × V)) (v : V), x = .ref a ∧ c ∈ cs ∧ H1 a = some (exq a (He.ga K c) dd) ∧ H1 dd = some (.xd fs) ∧ fs.lookup f = some v ∧ Q v H1
theorem pe_excF {X : Cx} {e : Expr} {te : TE} {f : Str} {pos : Pos} (K : PySem.W.Frag) (hK : X.K = K) (cs : List Str) (hA : ∀ c ∈ cs, ExAt K (He.ga K c) f) (he : PE X e te) (hb : attributeBase e f X.env (eval e X.env) = eval e X.env := by rfl) : PE X (.Attribute e f pos) (tExcF K cs te f) := by
  subst hK
  refine ⟨fun pins s σ H Q I h => ?_⟩
  refine attr_of hb (thn (he.run pins s σ H _ I h) fun u s1 hh => ?_)
  obtain ⟨x, H1, I1, rx, a, dd, c, fs, v, ex, hc, ea, ed, l, q⟩ := hh
  subst ex
  obtain rfl : u = Value.ref a := rx
  obtain ⟨o, vs, ho, h1, h2, h3⟩ := exq_at I1.hok ea
  have hx : ObjOk X.prog X.w H1 s1.heap dd (.xd fs) := I1.hok dd _ ed
  obtain ⟨mA, hns, hr⟩ := hx
  obtain ⟨od, hod, hl⟩ := lookIn_ns hns
  obtain ⟨u, hu, ru⟩ := RelO.some_of (v := v) (o := mA f) (by rw [← l]; exact hr f)
  have T := hA c hc
  have J : PySem.W.InstAt s1.heap a o (He.ga X.K c) (some od) := ⟨ho, h1, by unfold PySem.W.notCls; rw [h3] <;> rfl, by rw [h2]; exact hod⟩
  exact HandSPX.exc_get I1.kIn J T.ga T.gg T.ex (PySem.W.findObj_own T.hd T.no rfl (by rw [hl, hu])) (handed_of ru) ⟨v, H1, I1.tok _, ru, q⟩
section
variable {K : PySem.W.Frag} {E : L2.St → XK}
def dFldX (cs : List Str) (Ta : DE) (f : Str) : DE := fun η μ => (Ta η μ).bind fun x μ1 => match x with
  | .exn c ns ds => grd (c ∈ cs) (okO (getF f ns ds) fun d => .ok d μ1)
  | _ => .bad
instance {cs : List Str} {ta : TE} {Ta : DE} {f : Str} [a : SE K E ta Ta] : SE K E (tExcF K cs ta f) (dFldX cs Ta f) := ⟨fun w e h o =>
  a.run w e (wp_bind h) fun x H1 ρ1 dx μ1 w1 g1 q1 h1 => by
    split at h1
    · obtain ⟨hc, h2⟩ := wp_grd h1
      obtain ⟨d, e2, h3⟩ := wp_okO h2
      cases q1 with
      | exn na nb ea ed l qs =>
        obtain ⟨v, hv, qv⟩ := getF_at qs e2
        exact ⟨_, _, _, _, v, rfl, hc, ea, ed, hv, (o.mono g1).here w1 qv h3⟩
    · exact h1.elim⟩
end
/-! ### defs that are called where an exception is handled -/
theorem roomH_units {k : Nat} {A : Around} (r : L2H.RoomH k A) : A.units + 64 < cLine := by have := r.un; omega
def cxC (P : Program) (w : World) (K : PySem.W.Frag) (mg : Str → Option Value) (base : Heap) (N : List Str) (qual : Str) (scope : Scope) (f : Addr) (cd : Value) (A : Around) (outer : List PySem.Env) (s : Shared) (H : Hp) (E : XK) : Cx :=
  { cxOf (L2.CX P w) P w K mg base N qual scope f cd A outer s H E with calm := false }
def FnRH (P : Program) (w : World) (K : PySem.W.Frag) (mg : Str → Option Value) (base : Heap) (k : Nat) (f : Addr) (sp : Sp) : Prop :=
  ∀ (A : Around) (outer : List PySem.Env) (s : Shared) (H : Hp) (us : List Value) (vs : List V) (Q : VK) (E : XK), L2H.RoomH k A → Env0 P w K mg base A outer s H → Vals vs us → sp vs H Q E → codeAny (model P w) A (.call (.ref f) ⟨us, []⟩) (CR (L2.CX P w) outer P w H s Q E) s
section
variable {P : Program} {w : World} {K : PySem.W.Frag} {mg : Str → Option Value} {base : Heap} {x qual : Str} {params : Arguments} {body : List Stmt} {scope : Scope} {f : Addr} {fd : FuncData} {N ps : List Str}
theorem inv_startC {cd : Value} {A : Around} {outer : List PySem.Env} {s s1 : Shared} {H : Hp} {E : XK} {us : List Value} {vs : List V} (S : FnScope N ps scope) (e0 : Env0 P w K mg base A outer s H) (hl : vs.length = ps.length) (r : Vals vs us)
    (z : InCallC s s.heap.objs.size (bindL (envOfC qual scope s.heap.objs.size f cd).kindOf (ps.zip us) fun _ => none) (cellsFrom (s.heap.objs.size + 1) scope.names []) (bindC (envOfC qual scope s.heap.objs.size f cd).kindOf (ps.zip us) fun _ => none) s1) :
    Inv (cxC P w K mg base N qual scope f cd A outer s H E) [] (L2.start N vs) H s1 := by
  have e0' : Env0 P w K mg base ({ A with handled := none } : Around) outer s H := ⟨e0.frames, e0.mod, e0.bs, e0.bsz, e0.funs, e0.frf, e0.hok, e0.bare⟩
  have J : Inv (cxOf (L2.CX P w) P w K mg base N qual scope f cd ({ A with handled := none } : Around) outer s H E) [] (L2.start N vs) H s1 := inv_start S rfl e0' hl r z
  have o := J.ok
  exact ⟨⟨o.mod, o.kind, o.glob, o.blt, o.above, o.inj, o.has, o.cab, (fun z => Bool.noConfusion (show false = true from z)), Around.frames_deeper e0.frames, o.stk, o.exf, o.bs, o.bsz, o.noex, o.exfs, o.funs, o.frf⟩, J.os, J.bare, J.base, J.loc, J.cell, J.free, J.freeC, J.pin, J.hok, J.len⟩
abbrev BodyDH (P : Program) (w : World) (K : PySem.W.Frag) (mg : Str → Option Value) (base : Heap) (N : List Str) (qual : Str) (scope : Scope) (f : Addr) (k : Nat) (body : List Stmt) (T : DS) : Prop :=
  ∀ (cdv : Value) (A : Around) (outer : List PySem.Env) (s : Shared) (H : Hp) (E : XK), L2H.RoomH k (A.deeper (envOfC qual scope s.heap.objs.size f cdv)) → ∃ t, PSs (cxC P w K mg base N qual scope f cdv A outer s H E) body t ∧ SS K (fun _ => E) t T
theorem fnDH {fin : Mu → Res D → Res D} (hf : Fnl fin) {k : Nat} {T : DS} {dvs : List V} {kws : List (Str × V)} (Fu : FunD K x qual params body scope dvs kws f fd) (S : FnScope N ps scope) (b : Binds K fd ps [])
    (hbody : BodyDH P w K mg base N qual scope f k body T) : FnRH P w K mg base (k + 1) f (spD K (defR fin ps.length N.length T)) := by
  obtain ⟨oc, od, dV, kV, doc, pm, an, cdv, ct, osl, rfl, lk, hcd, hdf, hkw⟩ := Fu.ex
  intro A outer s H us vs Q E hr e0 r hsp
  obtain ⟨F, ρ, ds, μ, Q', X, wd, q, hd, o, xo⟩ := hsp
  unfold defR at hd
  split at hd
  · rename_i hlen
    have hl : vs.length = ps.length := q.len.trans hlen
    have KX : K.In s.heap := e0.mod.kin.keeps fun b o e => (e0.bs b o e).1
    have lim : s.heap.NoLimit := e0.mod.nolimit.keeps fun b o e => (e0.bs b o e).1
    have hlu : us.length = ps.length := by rw [← r.length]; exact hl
    have hb := b s us KX (by rw [List.append_nil]; exact hlu)
    rw [List.append_nil] at hb
    have hkind : ∀ y ∈ ps.zip us, scope.names.lookup y.1 = some .local ∨ (scope.names.lookup y.1 = some .cell ∧ ((cellsFrom (s.heap.objs.size + 1) scope.names []).lookup y.1).isSome = true) := fun ⟨n, v⟩ hy => by
      rcases S.par n (List.of_mem_zip hy).1 with z | z
      · exact .inl z
      · exact .inr ⟨z, PySem.W.cellsFrom_some _ _ _ (.inl z)⟩
    refine codeAny_call_function hr.depth (KX _ _ lk) rfl S.co S.gen rfl (PySem.W.codeRec_of KX hcd) (hb _ _ _ _ ?_)
    refine wpAny_newFunctionEnv_cells S.kind hkind fun env he s1 z => ?_
    subst he
    refine ⟨lim.keeps z.toInCall.keep, codeAny_func ?_⟩
    obtain ⟨t, ht, hS⟩ := hbody cdv A outer s H E (hr.deeper _)
    have I : Inv (cxC P w K mg base N qual scope f cdv A outer s H E) [] (L2.start N vs) H s1 := inv_startC S e0 hl r z
    have hq := body_ok (t := t) (N := N) hf wd q hd o xo
    refine wpAny_mono (ht.run [] s1 (L2.start N vs) H _ I hq) (fun fl s' hs => ?_) fun e s' hs => hs
    cases fl with
    | ret u =>
      obtain ⟨v, σ', H', J, rv, q⟩ := hs
      exact ⟨v, H', J.os, J.bare, J.base, J.hok, rv, q⟩
    | next =>
      obtain ⟨σ', H', J, q⟩ := hs
      exact ⟨V.non, H', J.os, J.bare, J.base, J.hok, rfl, q⟩
    | brk =>
      obtain ⟨_, _, _, q⟩ := hs
      exact False.elim q
    | cont =>
      obtain ⟨_, _, _, q⟩ := hs
      exact False.elim q
  · exact hd.elim
end
section
variable {X : Cx} {k : Nat} {f : Addr} {sp : Sp} {x : Str} {q pos : Pos} {e : Expr} {es : List Expr} {t : TA}
/-- f(e, ..) there; nothing is raised -/
theorem pe_callHot (F : FnRH X.prog X.w X.K X.mg X.base k f sp) (hr : L2H.RoomH k X.A) (g : Gd X.K X.mg x f) (hg : Gl X x) (ha : PA X (e :: es) t) (hdb : (x == ("__debug__" : Str)) = false := by decide)
    (he : starEach (e :: es) X.env = (false, eval e X.env) :: starEach es X.env := by rfl) (hpl : (backTo pos (starEach es X.env)).any (·.1) = false := by rfl) : PE X (.Call (.Name x q) (e :: es) [] pos) (tCallX sp EN t) := by
  refine ⟨fun pins s σ H Q I h => ?_⟩
  refine wpAny_Call_Name_kw (ld_glob I hg g.mg ?_ hdb)
  refine PySem.W.callWith_K (h₀ := X.base) I.ok.mod.kin g.kp (thn (ha.run pos pins s σ H _ I h) fun us s1 ⟨vs, H1, I1, r, q⟩ => ⟨I1.kIn, ?_⟩) he hpl
  refine wpAny_call (codeAny_mono (F X.A X.stack s1 H1 us vs Q L2.E0 hr I1.env0 r q) fun r s' hq => ?_)
  cases r with
  | error e => exact pass_no pins σ H1 s1 e s' I1 hq
  | ok fl =>
    cases fl with
    | ret u => exact I1.after hq
    | next => exact False.elim hq
    | brk => exact False.elim hq
    | cont => exact False.elim hq
end
end
end DX

namespace DX
open PySem PySem.Spec PyProof.Rows L2 ErX LamX
noncomputable section
/-! ### a lambda is made: the table of code objects grows by one, or stays -/
def LamStep (P : Addr) (q : Str) (H H1 : Hp) : Prop := H1 = H ∨ ∃ (c' : Addr) (ps more : Array Value), H P = some (.tbl ps) ∧ H c' = none ∧ H1 = upd (upd H P (.tbl (ps ++ more))) c' (CodeO c' q) ∧ TriplesOk (ps ++ more).toList ∧
  ∀ (pos : Pos) (cv : Value), codeAmong pos (ps ++ more).toList = some cv → codeAmong pos ps.toList = some cv ∨ cv = .ref c'
section
variable {X : Cx} {pins : List (Addr × Obj)} {σ : L2.St} {H : Hp} {s : Shared}
theorem lam_makeP {c P : Addr} {params : Arguments} {body : Expr} {scope : Scope} {pos : Pos} {E : Value → Shared → Prop} {Q : Value → Shared → Prop} (I : Inv X pins σ H s) (TB : TabB X.base X.mg c P) (hcode : X.env.code = .ref c) (hT : TabS H P (X.env.qual ++ "<lambda>")) (hdef : defaultsOf params X.env = ([], []))
    (hfree : ∀ y ∈ scope.names, y.2 = .free → ∃ c, X.env.cells.lookup y.1 = some c)
    (h : ∀ (f c' : Addr) (pm ctv : Value) (H1 : Hp) (s' : Shared), Inv X pins σ H1 s' → LamStep P (X.env.qual ++ "<lambda>") H H1 → s'.heap.get? f = some (PySem.W.kla_obj "<lambda>" (X.env.qual ++ "<lambda>") params body scope (cloFrom X.env.cells scope.names []) pm c' ctv) →
      H1 f = none → f ∉ frs X.stack → H1 c' = some (CodeO c' (X.env.qual ++ "<lambda>")) → Q (.ref f) s') : wpAny (model X.prog X.w) X.A (eval (.Lambda params body scope pos) X.env) Q E s := by
  obtain ⟨ps, hP, ht, ha⟩ := hT
  have hP' : s.heap.get? P = some { cls := .none, data := .fields ps } := I.hok P _ hP
  have nofr : ∀ f, s.heap.objs.size ≤ f → f ∉ frs X.stack := fun f hf z => by
    rcases List.mem_cons.mp (I.stkSub _ z) with e | e
    · exact absurd (Nat.lt_of_lt_of_le I.lt hf) (by rw [e]; exact Nat.lt_irrefl _)
    · exact I.nofs hf e
  refine PySem.W.kla_eval hdef ?_
  cases hc : codeAmong pos ps.toList with
  | some cv =>
    obtain ⟨c', rfl, hco⟩ := ha pos cv hc
    refine PySem.W.kla_makeFunctionHit (mg := X.mg) (c := c) (P := P) (ps := ps) (closure_ok hfree) I.ok.glob (I.mod.glob.keeps I.bk) hcode (TB.code.keeps I.bk) hP' ht hc (TB.bm.keeps I.bk) fun ctv h' tk hx hsz => ?_
    exact h h'.objs.size c' ((X.mg "__name__").getD .none) ctv H _ (I.kept fun b o e => Heap.get?_push_of_some _ (hx b o e)) (.inl rfl) (Heap.get?_push_size _ rfl) (I.hok.fresh hsz) (nofr _ hsz) hco
  | none =>
    refine PySem.W.kla_makeFunction (mg := X.mg) (c := c) (P := P) (ps := ps) (closure_ok hfree) I.ok.glob (I.mod.glob.keeps I.bk) hcode (TB.code.keeps I.bk) hP' ht hc TB.gP (TB.bm.keeps I.bk) fun c' ctv h' tk hx hge hlt hrec htb => ?_
    obtain ⟨c2, oc, vs, t, e2, hoc, hd, hv⟩ := hrec
    cases e2
    have hsz : s.heap.objs.size ≤ h'.objs.size := Nat.le_trans hge (Nat.le_of_lt hlt)
    have nC : H c' = none := I.hok.fresh hge
    have eL : (ps ++ #[rawInt pos.line, rawInt pos.col, .ref c']).toList = ps.toList ++ [rawInt pos.line, rawInt pos.col, .ref c'] := by simp
    have I1 := inv_table (t' := tk) (more := #[rawInt pos.line, rawInt pos.col, .ref c']) (h' := h'.push (PySem.W.kla_obj "<lambda>" (X.env.qual ++ "<lambda>") params body scope (cloFrom X.env.cells scope.names []) ((X.mg "__name__").getD .none) c' ctv)) I hP
      (fun b o hb e => Heap.get?_push_of_some _ (hx b o hb e)) (Heap.get?_push_of_some _ htb) hge ⟨oc, vs, t, Heap.get?_push_of_some _ hoc, hd, hv⟩
    refine h h'.objs.size c' ((X.mg "__name__").getD .none) ctv _ _ I1 (.inr ⟨c', ps, _, hP, nC, rfl, by rw [eL]; exact PySem.TriplesOk_snoc _ _ _ _ ht, fun p' cv hcv => ?_⟩) (Heap.get?_push_size _ rfl) ?_ (nofr _ hsz) upd_same
    · rw [eL] at hcv
      exact among_app _ ht hcv
    · have n2 : h'.objs.size ≠ P := Nat.ne_of_gt (Nat.lt_of_lt_of_le (Heap.lt_size hP') hsz)
      rw [upd_ne (Nat.ne_of_gt hlt), upd_ne n2]
      exact I.hok.fresh hsz
/-- x(lambda: body); TT: what x makes of the lambda's reading -/
def tLamP (P : Addr) (q : Str) (TT : (XK → Hp → VK → Prop) → Hp → VK → Prop) (t : XK → TE) : TE := fun σ H Q => TabS H P q ∧ ∀ H1, LamStep P q H H1 → TT (fun E H' Q' => t E σ H' Q') H1 Q
theorem pe_lamP {qq : Str} (hqq : X.env.qual ++ ("<lambda>" : Str) = qq) {TT : (XK → Hp → VK → Prop) → Hp → VK → Prop} {x a : Str} {g c P : Addr} {k : Nat} {pg : Arguments} {bg : List Stmt} {sg : Scope} {dV kV doc pm cdv ct oc : Value} {an od : Option Addr} {osl : Array (Option Value)} {Ng : List Str} {params : Arguments} {body : Expr} {scope : Scope} {t : XK → TE} {p lpos pos : Pos}
    (hg : Gl X x) (hm : X.mg x = some (.ref g)) (hk : PySem.W.keepIn X.K (.ref g) = true) (lk : X.K.lookup g = some ⟨oc, od, .func (PySem.W.fnOf x x pg bg sg dV kV doc pm an cdv ct), osl⟩) (hcg : PySem.W.codeIn X.K cdv x = true) (hb : L2.Binds X.K (PySem.W.fnOf x x pg bg sg dV kV doc pm an cdv ct) [a] []) (Sg : FnScope Ng [a] sg) (hNg : Ng[0]? = some a) (hva : Vis sg a)
    (hG : GivesTo X Ng x sg g cdv bg a qq TT) (TB : TabB X.base X.mg c P) (hcode : X.env.code = .ref c) (hr : Room (k + 2) X.A) (L : LamS X.env.scope scope) (hdef : defaultsOf params X.env = ([], []))
    (hbind : ∀ (q : Str) (cl : List (Str × Addr)) (pm cv ctv : Value), bindArgs (PySem.W.kla_fn "<lambda>" q params body scope cl pm cv ctv) ⟨[], []⟩ = pure [])
    (hbody : ∀ (A : Around) (outer : List PySem.Env) (s : Shared) (H : Hp) (E : XK) (f c' : Addr), Room k (A.deeper (lamEnv X scope s.heap.objs.size f c')) → PE (lamCx X A outer s H E scope f c') body (t E))
    (hdb : (x == ("__debug__" : Str)) = false := by decide) (hd : (a == ("__debug__" : Str)) = false := by decide) (hcd : (a == ("__classdict__" : Str)) = false := by decide) :
    PE X (.Call (.Name x p) [.Lambda params body scope lpos] [] pos) (tLamP P qq TT t) := by
  subst hqq
  refine ⟨fun pins s σ H Q I h => ?_⟩
  refine wpAny_Call_Name_kw (ld_glob I hg hm (PySem.W.callWith_K (h₀ := X.base) I.ok.mod.kin hk ?_ (by rfl) (by rfl)) hdb)
  show wpAny _ _ (spliced ((false, eval (.Lambda params body scope lpos) X.env) :: backTo pos (starEach [] X.env))) _ _ s
  refine Calls.spliced_cons (lam_makeP I TB hcode h.1 hdef (L.has I.ok) fun f c' pm' ctv H1 s' I1 st hf hfn hfr hco => Calls.spliced_nil ⟨I1.kIn, ?_⟩)
  have rc : codeAny (model X.prog X.w) X.A (.call (.ref g) ⟨[.ref f], []⟩) (CR C8.CX0 X.stack X.prog X.w H1 s' Q C8.E0) s' :=
    run_ofS (N := Ng) (ps := [a]) (us := [.ref f]) (vs := [.ref f]) lk hcg Sg hr I1.env0 (hb s' [.ref f] I1.kIn rfl) (.cons rfl .nil) rfl fun hr' => by
      obtain ⟨t', ht', hq'⟩ := hG f c' s' H1 Q (fun E H' Q' => t E σ H' Q') (fun W pn xe E p1 p2 tk hW => pe_act (i := 0) I1 L hf hfn hfr (hbind _ _ _ _ _) tk hW hr' (fun A outer s H hr2 => hbody A outer s H E f c' hr2) hNg hva hd hcd) hco (h.2 H1 st)
      exact ⟨t', ht'.nox, hq'⟩
  refine wpAny_call (codeAny_mono rc fun r s2 hq => ?_)
  cases r with
  | error e => exact (show False from hq).elim
  | ok fl =>
    cases fl with
    | ret u => exact I1.after hq
    | next => exact False.elim hq
    | brk => exact False.elim hq
    | cont => exact False.elim hq
end
end
end DX

namespace DX
open PySem PySem.Spec PyProof.Rows L2 ErX LamX
noncomputable section
/-! ### def x(a): try: return ("", a()) / except (x1, x2, x3) as n: suite -/
def whyB (a n x1 x2 x3 : Str) (j k1 k2 : Nat) (suite : List Stmt) (q : List Pos) : List Stmt := let p := fun i => q.getD i ⟨0, 0, 0, 0⟩
  [.Try [.Return (some (.Tuple [.Constant (.str "") j (p 0), .Call (.Name a (p 1)) [] [] (p 2)] k1 (p 3))) (p 4)] [.ExceptHandler (some (.Tuple [.Name x1 (p 5), .Name x2 (p 6), .Name x3 (p 7)] k2 (p 8))) (some n) suite (p 9)] [] [] (p 10)]
def TWhy (K : PySem.W.Frag) (cs : List Value) (ts : TS) : (XK → Hp → VK → Prop) → Hp → VK → Prop := fun tl H Q =>
  tl (fun cls d H' => ∀ σ' : L2.St, σ'.length = 2 → wTup K cs 1 ts { nx := fun _ H' => Q .non H', rt := Q } cls d σ' H') H (fun v H' => [V.str "", v].length ≤ sizeLine ∧ ∀ p, H' p = none → Q (.ref p) (upd H' p (.tup [.str "", v])))
theorem why_gives {X : Cx} {Ng : List Str} {x a n x1 x2 x3 q : Str} {sg : Scope} {g : Addr} {cdg c1 c2 c3 : Value} {j k1 k2 : Nat} {b₀ : Stmt} {suite : List Stmt} {qs : List Pos} {ts : TS} (hN : Ng.Nodup) (hl2 : Ng.length = 2) (hi : Ng[1]? = some n) (hln : sg.names.lookup n = some .local)
    (hc : ∀ s H, Names (cxOf C8.CX0 X.prog X.w X.K X.mg X.base Ng x sg g cdg X.A X.stack s H C8.E0).nox x1 c1 ∧ Names (cxOf C8.CX0 X.prog X.w X.K X.mg X.base Ng x sg g cdg X.A X.stack s H C8.E0).nox x2 c2 ∧ Names (cxOf C8.CX0 X.prog X.w X.K X.mg X.base Ng x sg g cdg X.A X.stack s H C8.E0).nox x3 c3)
    (hsu : ∀ (s : Shared) (H : Hp) (a' : Addr) (pn : List (Addr × Obj)), PSs ((cxOf C8.CX0 X.prog X.w X.K X.mg X.base Ng x sg g cdg X.A X.stack s H C8.E0).nox.suite a' pn) (b₀ :: suite) ts) (h0 : ∀ f : Addr, (L2.start Ng [V.ref f])[0]? = some (some (V.ref f))) :
    GivesTo X Ng x sg g cdg (whyB a n x1 x2 x3 j k1 k2 (b₀ :: suite) qs) a q (TWhy X.K [c1, c2, c3] ts) := by
  intro f c' s H Q tl act hco h
  obtain ⟨hc1, hc2, hc3⟩ := hc s H
  refine ⟨_, pss_one (ps_try_tup (X := (cxOf C8.CX0 X.prog X.w X.K X.mg X.base Ng x sg g cdg X.A X.stack s H C8.E0).nox) (i := 1)
      (tb := fun W D σ H => ∃ Ech : XK, (∀ cls d (σ' : L2.St) H', σ'.length = 2 → Ech cls d H' → W cls d σ' H') ∧ σ[0]? = some (some (.ref f)) ∧ H c' = some (CodeO c' q) ∧ tl Ech H (fun v H' => [V.str "", v].length ≤ sizeLine ∧ ∀ p, H' p = none → D.rt (.ref p) (upd H' p (.tup [.str "", v]))))
      rfl rfl hN hi hln hc1 hc2 hc3 (fun W pn xe tk _ => ?_) (hsu s H)), ?_⟩
  · refine ⟨fun pins s' σ H' D I h' => ?_⟩
    obtain ⟨Ech, hW, h1, h2, h3⟩ := h'
    have tk' : Takes ((cxOf C8.CX0 X.prog X.w X.K X.mg X.base Ng x sg g cdg X.A X.stack s H C8.E0).nox.tr pn xe) (fun cls d σ' H' => σ'.length = 2 → W cls d σ' H') := fun u s' ⟨a, B, sI, pins, σ, H, cls, d, e, I, nb, up, sky, na, os, ag, w⟩ =>
      tk u s' ⟨a, B, sI, pins, σ, H, cls, d, e, I, nb, up, sky, na, os, ag, w (by rw [I.len]; exact hl2)⟩
    have hp := act (fun cls d σ' H' => σ'.length = 2 → W cls d σ' H') pn xe Ech (qs.getD 1 ⟨0, 0, 0, 0⟩) (qs.getD 2 ⟨0, 0, 0, 0⟩) tk' fun cls d σ' H' he hl => hW cls d σ' H' hl he
    have hq := pss_one (ps_ret (pos := qs.getD 4 ⟨0, 0, 0, 0⟩) (pe_tup (x1 := k1) (pos := qs.getD 3 ⟨0, 0, 0, 0⟩) (pa_cons (pe_str (x := "") (j := j) (pos := qs.getD 0 ⟨0, 0, 0, 0⟩)) (pa_cons hp pa_nil))))
    refine hq.run pins s' σ H' D I ?_
    exact ⟨h1, h2, h3⟩
  · exact ⟨_, fun cls d σ' H' hl he => he σ' hl, h0 f, hco, h⟩
end
end DX

namespace DX
open PySem PySem.Spec PyProof.Rows L2 ErX LamX
noncomputable section
variable {K : PySem.W.Frag}
theorem lam_wd {F ρ : List Addr} {μ : Mu} {H H1 : Hp} {i : Nat} {P : Addr} {x q : Str} (w : Wd K F ρ μ H) (hi : ρ[i]? = some P) (hm : μ[i]? = some (.tbl x q)) (st : LamStep P q H H1) : Wd K F ρ μ H1 ∧ Grow ρ ρ H H1 := by
  rcases st with rfl | ⟨c', ps, more, hP, hc, rfl, ht, hall⟩
  · exact ⟨w, Grow.refl _ _⟩
  · have hPm : P ∈ ρ := List.mem_of_getElem? hi
    have nPc : P ≠ c' := ne_of_none hP hc
    have at_ : ∀ b o, b ≠ P → H b = some o → upd (upd H P (.tbl (ps ++ more))) c' (CodeO c' q) b = some o := fun b o hb e => by rw [upd_ne (ne_of_none e hc), upd_ne hb]; exact e
    have g : Grow ρ ρ H (upd (upd H P (.tbl (ps ++ more))) c' (CodeO c' q)) := ⟨fun b o n e => at_ b o (fun z => n (by rw [z]; exact hPm)) e, ⟨[], by simp⟩, fun _ h n => absurd h n⟩
    refine ⟨⟨fs_upd (fs_upd w.fs), w.len, w.nd, w.apart, fun j b m hj hmj => ?_⟩, g⟩
    by_cases c : i = j
    · subst c
      rw [hi] at hj
      cases hj
      rw [hm] at hmj
      cases hmj
      obtain ⟨ea, ps0, e0, _, r0⟩ := w.ok i _ _ hi hm
      rw [hP] at e0
      cases e0
      refine ⟨ea, ps ++ more, by rw [upd_ne nPc, upd_same], ht, fun pos cv hcv => ?_⟩
      rcases hall pos cv hcv with z | z
      · obtain ⟨c0, e1, e2, e3⟩ := r0 pos cv z
        exact ⟨c0, e1, e2, at_ _ _ (fun y => (not_app e2).2 (by rw [y]; exact hPm)) e3⟩
      · exact ⟨c', z, w.fresh2 hc, upd_same⟩
    · exact (w.ok j b m hj hmj).by_ g.move fun o e => at_ b o (fun z => c (nodup_at w.nd (by rw [← z] at hi; exact hi) hj)) e
/-- what the def makes of the lambda's end -/
def whyR (ok : List Str) (r : Res D) (Ts : DS) : Res D := match r with
  | .ok y μ => .ok (.tup [.str "", y]) μ
  | .exc e μ => grd (e.cls ∈ ok) (match Ts [none, some (.exn e.cls e.ns e.ds)] μ with
    | .rt d μ2 => .ok d μ2
    | _ => .bad)
  | .bad => .bad
def dWhy (i : Nat) (x q : Str) (ok : List Str) (Te : DE) (Ts : DS) : DE := fun η μ => match μ[i]? with
  | some (.tbl x' q') => grd (x' = x ∧ q' = q) (whyR ok (Te η μ) Ts)
  | _ => .bad
/-- why(lambda: e): i: where the table of x stands; ok: the classes of errors that the clause meets -/
def tLamW (K : PySem.W.Frag) (i : Nat) (x q : Str) (cs : List Value) (ok : List Str) (ts : TS) (h : ∀ c ∈ ok, PySem.W.exmAny K (.ref (He.ga K c)) cs = some true) (t : XK → TE) : TE := tLamP (He.cT K (x, none)).2 q (TWhy K cs ts) t
instance {E : L2.St → XK} {i : Nat} {x q : Str} {cs : List Value} {ok : List Str} {ts : TS} {hok : ∀ c ∈ ok, PySem.W.exmAny K (.ref (He.ga K c)) cs = some true} {t : XK → TE} {Te : DE} {Ts : DS} [b : ∀ E' : XK, SE K (fun _ => E') (t E') Te] [c : SS K EN ts Ts] : SE K E (tLamW K i x q cs ok ts hok t) (dWhy i x q ok Te Ts) := ⟨fun {X F σ H η ρ μ P Q} w e h o => by
  unfold dWhy at h
  cases cm : μ[i]? with
  | none => rw [cm] at h; exact h.elim
  | some m =>
    rw [cm] at h
    cases m with
    | tbl x' q' =>
      obtain ⟨⟨rfl, rfl⟩, h2⟩ := wp_grd h
      have il : i < ρ.length := by rw [w.len]; exact (List.getElem?_eq_some_iff.mp cm).1
      have hi : ρ[i]? = some ρ[i] := List.getElem?_eq_getElem il
      obtain ⟨ea, ps, eP, ht, ha⟩ := w.ok i _ _ hi cm
      rw [ea] at hi eP
      refine ⟨⟨ps, eP, ht, fun pos cv hcv => ?_⟩, fun H1 st => ?_⟩
      · obtain ⟨c0, e1, _, e3⟩ := ha pos cv hcv
        exact ⟨c0, e1, e3⟩
      obtain ⟨w1, g1⟩ := lam_wd w hi cm st
      have o1 := o.mono g1
      refine (b _).run (X := fun e' _ μ' => wp (grd (e'.cls ∈ ok) (match Ts [none, some (.exn e'.cls e'.ns e'.ds)] μ' with
        | .rt d μ2 => Res.ok d μ2
        | _ => .bad)) P fun _ _ => False) (P := fun y μ1 => P (.tup [.str "", y]) μ1) w1 ⟨e.toEnvOk0.mono g1, ?_⟩ ?_ ?_
      · intro σ' η' e' d H' ρ' μ' vs w' env' g' hd nd l qs hx σ2 hl2
        obtain ⟨hcl, hx⟩ := wp_grd hx
        refine ⟨hok _ hcl, _, _, rfl, rfl, fun a hna => ?_⟩
        have g2 := Grow.fresh (ρ := ρ') (H := H') (p := a) (o := exq a (He.ga K e'.cls) d) hna
        have hda : d ≠ a := ne_of_none hd hna
        have w2 := w'.lay (o := exq a (He.ga K e'.cls) d) hna
        refine c.run (X := X0) (η := [none, some (.exn e'.cls e'.ns e'.ds)]) (C := { nx := fun _ _ => False, rt := fun d μ2 => P d μ2 }) w2 ⟨⟨by rw [List.length_set, hl2]; rfl, fun j dj hj => ?_⟩, xout0⟩ ?_ ⟨fun _ _ _ _ _ _ _ _ z => z.elim, fun v H2 ρ2 dv μ2 w3 g3 q3 h3 => o1 v H2 ρ2 dv μ2 w3 ((g'.trans g2).trans g3) q3 h3, fun _ _ _ _ _ _ _ _ z => z.elim, fun _ _ _ _ _ _ _ _ z => z.elim⟩
        · match j, hj with
          | 0, hj => cases hj
          | 1, hj =>
            have ej : dj = .exn e'.cls e'.ns e'.ds := (Option.some.inj (Option.some.inj hj)).symm
            subst ej
            refine ⟨.ref a, List.getElem?_set_self (by omega), ?_⟩
            exact .exn (w'.fresh2 hna) nd upd_same (by rw [upd_ne hda]; exact hd) l (qs.mono g2)
          | j + 2, hj => cases hj
        · revert hx
          cases Ts [none, some (.exn e'.cls e'.ns e'.ds)] μ' <;> first | exact id | exact fun z => z.elim
      · revert h2
        unfold whyR
        cases Te η μ with
        | ok y μ1 => exact id
        | exc e' μ1 =>
          intro z
          obtain ⟨z1, z2⟩ := wp_grd z
          show wp (grd _ _) P _
          rw [grd_pos z1]
          revert z2
          cases Ts [none, some (.exn e'.cls e'.ns e'.ds)] μ1 <;> exact id
        | bad => exact id
      · intro v H' ρ' d μ' w' g' q' p
        refine ⟨by show 2 ≤ sizeLine; rw [sizeLine_eq]; decide, fun a hna => ?_⟩
        exact (o1.mono g').newT w' (.cons (.str "") (.one q')) p hna
    | _ => exact h.elim⟩
end
end DX

namespace DX
open PySem PySem.Spec PyProof.Rows L2
noncomputable section
variable {K : PySem.W.Frag}
/-! ### x == y by an own __eq__ of the class of both -/
def rOwn (C : Addr) (sp : Sp) : R2 := fun x y H Q => ∃ a dx fs b dy gs, x = .ref a ∧ y = .ref b ∧ H a = some (.ins C dx fs) ∧ H b = some (.ins C dy gs) ∧ sp [x, y] H (fun v H2 => (∃ z, v = .bl z) ∧ Q v H2) L2.E0
theorem op_eqOwn {X : Cx} {k : Nat} {C f : Addr} {sp : Sp} {CX : CXT} (hm : Meth X.K C "__eq__" f) (F : FnR X.prog X.w X.K X.mg X.base CX k f sp) (hr : Room k X.A) (hx : Passes CX X L2.E0) : OpR X (compareOp .Eq) (rOwn C sp) := by
  intro pins s σ H x y v u Q I rx ry hq
  obtain ⟨a, dx, fs, b, dy, gs, rfl, rfl, ea, eb, q⟩ := hq
  cases rx
  cases ry
  obtain ⟨mA, J, _⟩ := ins_get I.hok ea
  obtain ⟨mB, J', _⟩ := ins_get I.hok eb
  obtain ⟨od, J, _⟩ := J.look
  obtain ⟨od', J', _⟩ := J'.look
  obtain ⟨m, hF⟩ := I.fr
  show wpAny (model X.prog X.w) X.A (richCompare .Eq (.ref a) (.ref b)) (EP X pins σ Q) X.xe s
  refine PySem.W.cmp_K (op := .Eq) (tb := .ref C) hr.units0 hF I.ok.mod.kin J J'.type (by simp [PySem.W.notFirst]) hm.at_ hm.fn ?_
  refine wpAny_mono (run_below (vs := [.ref a, .ref b]) F hr rfl hx I (.cons rfl (.cons rfl .nil)) q) (fun v s' hv => ?_) fun _ _ z => z
  obtain ⟨y, H2, I2, ry, ⟨z, rfl⟩, q2⟩ := hv
  cases ry
  exact ⟨.bl z, H2, I2, rfl, q2⟩
/-- the same, with not equal: the plain != over an own == -/
def ownD (c : Str) (f : FS) (x y : D) (μ : Mu) : Res D := okO (ofC c μ x) fun _ => okO (ofC c μ y) fun _ => noX ((f [x, y] μ).bind fun r μ1 => match r with
  | .bl b => .ok (.bl b) μ1
  | _ => .bad)
instance {c : Str} {f : FS} : SR2 K (rOwn (He.ga K c) (spD K f)) (ownD c f) := ⟨fun {X F H ρ μ x y dx dy P Q} w hx hy h o => by
  obtain ⟨p, e1, h2⟩ := wp_okO h
  obtain ⟨p', e2, h3⟩ := wp_okO h2
  obtain ⟨ad, dx', vs, rfl, ea, l, qs⟩ := asI_at w hx (ofC_at e1)
  obtain ⟨bd, dy', vs', rfl, eb, l', qs'⟩ := asI_at w hy (ofC_at e2)
  refine ⟨ad, dx', _, bd, dy', _, rfl, rfl, ea, eb, F, ρ, _, μ, fun d μ1 => ∃ b, d = .bl b ∧ P d μ1, fun _ _ => False, w, .cons hx (.one hy), ?_, ?_, fun _ _ _ _ _ _ _ _ _ _ _ _ z => z.elim⟩
  · revert h3
    unfold noX
    cases f [dx, dy] μ with
    | ok d μ1 => cases d <;> first | exact fun z => ⟨_, rfl, z⟩ | exact fun z => z.elim
    | exc e μ1 => exact id
    | bad => exact id
  · intro v H' ρ' d μ' w' g' q' hp
    obtain ⟨b, rfl, hp⟩ := hp
    cases q'
    exact ⟨⟨b, rfl⟩, o _ _ _ _ _ w' g' (.bl b) hp⟩⟩
end
end DX

namespace DX
open PySem PySem.Spec PyProof.Rows L2 ErX LamX
noncomputable section
/-! ### own errors: what the top leaves of them -/
structure EIn where
  x : Str
  f : Str
  tag : Str
  p1 : Pos
  p2 : Pos
  k : Nat
  qs : List Pos
def EIn.at_ (K : PySem.W.Frag) (e : EIn) : Addr := He.ma K (He.ga K e.x) "__init__"
abbrev FnE : Type := Option (Str × Arguments × FuncBody × Scope × Addr × List Str × Value × Value × Addr)
def fnE (K : PySem.W.Frag) (a : Addr) : FnE := match K.lookup a with
  | some ⟨_, _, .func fd, _⟩ => some (fd.name, fd.params, fd.body, fd.scope, fd.globals, fd.closure.map (·.1), fd.defaults, fd.kwdefaults, fd.builtins)
  | _ => none
def EIn.val (e : EIn) : FnE := some ("__init__", erA e.f e.p1 e.p2, .stmts (erB e.f e.tag e.k e.qs), erS e.f, mainGlobals, ["__class__"], .none, .none, builtinsNs)
def ecB (K : PySem.W.Frag) (C : Addr) : Bool := match K.lookup C with
  | some ⟨.type t, _, .cls cd, sl⟩ => decide (t = "type") && (match cd.mro, sl.toList with
    | .ref C' :: bm, [_, _, _, _, some (.builtin n), _] => decide (C' = C) && (decide (n = "ValueError.__new__") && (!cd.hasDel && (cd.hasDict && PySem.HandSPX.refsVE bm)))
    | _, _ => false)
  | _ => false
theorem ecB_ok {K : PySem.W.Frag} {C : Addr} (h : ecB K C = true) : ∃ nm q N bs bm sn sub ab col dd k0 k1 k2 k3 k5, K.lookup C = some (excClassObj nm q C N bs bm true sn sub ab col dd k0 k1 k2 k3 k5 "ValueError.__new__") ∧ PySem.HandSPX.refsVE bm = true := by
  unfold ecB at h
  split at h
  · rename_i t dd cd sl ho
    obtain ⟨h0, h⟩ := He.ba h
    split at h
    · rename_i C' bm k0 k1 k2 k3 n k5 e1 e2
      obtain ⟨h1, h⟩ := He.ba h
      obtain ⟨h2, h⟩ := He.ba h
      obtain ⟨h3, h⟩ := He.ba h
      obtain ⟨h4, h5⟩ := He.ba h
      obtain ⟨c1, c2, c3, c4, c5, c6, c7, c8, c9, c10, c11⟩ := cd
      have e1 : c3 = .ref C' :: bm := e1
      have h3 : c11 = false := by simpa using h3
      have h4 : c6 = true := h4
      have hsl : sl = #[k0, k1, k2, k3, some (.builtin n), k5] := by
        rw [← Array.toArray_toList (xs := sl), e2]
      rw [of_decide_eq_true h0, e1, of_decide_eq_true h1, h3, h4, hsl, of_decide_eq_true h2] at ho
      exact ⟨c1, c5, c4, c2, bm, c7, c8, c9, c10, dd, k0, k1, k2, k3, k5, ho, h5⟩
    · cases h
  · cases h
def fileB (P : Program) (K : PySem.W.Frag) (c : Addr) : Bool := match K.lookup c with
  | some ⟨_, _, .fields vs, _⟩ => (match (vs[2]? : Option Value) with
    | some (.str file _) => (P.main.file : Str) == file
    | _ => false)
  | _ => false
def cellB (K : PySem.W.Frag) (cc C : Addr) : Bool := match K.lookup cc with
  | some ⟨_, _, .cell (some (.ref C')), _⟩ => decide (C' = C)
  | _ => false
def initB (P : Program) (K : PySem.W.Frag) (C fI : Addr) : Bool := match K.lookup fI with
  | some ⟨_, _, .func fd, _⟩ => (match fd.code, fd.closure with
    | .ref cda, [(_, cc)] => PySem.W.codeIn K (.ref cda) fd.qualname && (fileB P K cda && cellB K cc C)
    | _, _ => false)
  | _ => false
def fErr (P : Program) (e : EIn) : FB := fun K =>
  ecB K (He.ga K e.x) && (He.eqO (PySem.W.findIn K (.ref (He.ga K e.x)) "__setattr__") (some (some (.builtin "object.__setattr__"))) && (He.eqO (PySem.W.findIn K (.ref (He.ga K e.x)) e.f) (some none) && (He.eqO (PySem.W.findIn K (.ref (He.ga K e.x)) "tag") (some none) &&
  (He.eqO (PySem.W.findIn K (.ref (He.ga K e.x)) "__init__") (some (some (.ref (e.at_ K)))) && (decide (PySem.W.typeIn K (.ref (e.at_ K)) = some (.type "function")) && (PySem.W.keepIn K (.ref (He.ga K e.x)) && (decide (PySem.W.subIn K (.ref (He.ga K e.x)) (.type "BaseException") = some true) &&
  (decide (PySem.W.typeIn K (.ref (He.ga K e.x)) = some (.type "type")) && (initB P K (He.ga K e.x) (e.at_ K) && (He.eqO (PySem.W.ks_superIn K (He.ga K e.x) (He.ga K e.x) "__init__") (some (some (.builtin "ValueError.__init__"))) && (decide (PySem.W.mroIn K (He.ga K e.x) (.ref (He.ga K e.x)) = some true) &&
  (decide (PySem.W.subIn K (.ref (He.ga K e.x)) (.type "ValueError") = some true) && (He.eqO (PySem.W.nsIn K mainGlobals "super") (some none) && (He.eqO (PySem.W.nsIn K cStatics "thirdparty.any") (some none) && He.eqO (PySem.W.nsIn K mainGlobals e.x) (some (some (.ref (He.ga K e.x))))))))))))))))))
/-- what the text alone says -/
structure ErrP (P : Program) (e : EIn) : Prop where
  top : (P.main.scope.names.lookup ("super" : Str)).isSome = false
  f1 : e.f ≠ ("self" : Str)
  f2 : e.f ≠ ("tag" : Str)
  f3 : e.f ≠ ("__class__" : Str)
  f4 : e.f ≠ ("super" : Str)
  f5 : (e.f == ("__debug__" : Str)) = false
  bd : ∀ (qual : Str) (doc pm : Value) (an : Option Addr) (cd ct : Value) (cc : Addr) (u v : Value), bindArgs (PySem.W.ksFn "__init__" qual (erA e.f e.p1 e.p2) (erB e.f e.tag e.k e.qs) (erS e.f) .none .none doc pm an cd ct cc) ⟨[u, v], []⟩ = pure [((Str.ofString "self" : Str), u), (e.f, v)]
  ev : ∀ env : PySem.Env, ∃ pl, eval (supE e.f e.qs) env = (do
    let ov ← attributeBase (.Call (.Name "super" (e.qs.getD 0 ⟨0, 0, 0, 0⟩)) [] [] (e.qs.getD 1 ⟨0, 0, 0, 0⟩)) "__init__" env (eval (.Call (.Name "super" (e.qs.getD 0 ⟨0, 0, 0, 0⟩)) [] [] (e.qs.getD 1 ⟨0, 0, 0, 0⟩)) env)
    standAt (e.qs.getD 2 ⟨0, 0, 0, 0⟩).atName
    let (g, first) ← holding [ov] (getMethod ov "__init__" pl)
    callWith (e.qs.getD 4 ⟨0, 0, 0, 0⟩) g first (backTo (e.qs.getD 4 ⟨0, 0, 0, 0⟩) (starEach [.Name e.f (e.qs.getD 3 ⟨0, 0, 0, 0⟩)] env)) [])
theorem err_ok {P : Program} {K : PySem.W.Frag} {h : Heap} {mg : Str → Option Value} (X : K.In h) (G : h.Ns mainGlobals mg) {e : EIn} (hp : ErrP P e) (hv : fnE K (e.at_ K) = e.val) (hb : fErr P e K = true) : ErrT P K mg e.x e.f e.tag (He.ga K e.x) (e.at_ K) e.p1 e.p2 e.k e.qs := by
  obtain ⟨h1, hb⟩ := He.ba hb
  obtain ⟨h2, hb⟩ := He.ba hb
  obtain ⟨h3, hb⟩ := He.ba hb
  obtain ⟨h4, hb⟩ := He.ba hb
  obtain ⟨h5, hb⟩ := He.ba hb
  obtain ⟨h6, hb⟩ := He.ba hb
  obtain ⟨h7, hb⟩ := He.ba hb
  obtain ⟨h8, hb⟩ := He.ba hb
  obtain ⟨h9, hb⟩ := He.ba hb
  obtain ⟨h10, hb⟩ := He.ba hb
  obtain ⟨h11, hb⟩ := He.ba hb
  obtain ⟨h12, hb⟩ := He.ba hb
  obtain ⟨h13, hb⟩ := He.ba hb
  obtain ⟨h14, hb⟩ := He.ba hb
  obtain ⟨h15, h16⟩ := He.ba hb
  refine ⟨PySem.W.mg_of X G (He.eqO_ok h16), ecB_ok h1, He.eqO_ok h2, He.eqO_ok h3, He.eqO_ok h4, He.eqO_ok h5, of_decide_eq_true h6, h7, of_decide_eq_true h8, of_decide_eq_true h9, ?_, He.eqO_ok h11, of_decide_eq_true h12, of_decide_eq_true h13, PySem.W.mg_none_of X G (He.eqO_ok h14), He.eqO_ok h15, hp.top, hp.f1, hp.f2, hp.f3, hp.f4, hp.f5, hp.bd, hp.ev⟩
  unfold initB at h10
  unfold fnE at hv
  split at h10
  · rename_i oc od fd osl lk
    rw [lk] at hv
    obtain ⟨n1, n2, n3, n4, n5, n6, n7, n8, n9, n10, n11, n12, n13, n14, n15⟩ := fd
    have e2 : (some (n1, n3, n4, n5, n6, n7.map (·.1), n8, n9, n15) : FnE) = e.val := hv
    unfold EIn.val at e2
    simp only [Option.some.injEq, Prod.mk.injEq] at e2
    obtain ⟨rfl, rfl, rfl, rfl, rfl, e7, rfl, rfl, rfl⟩ := e2
    split at h10
    · rename_i cda z cc c1 c2
      obtain ⟨q1, h10⟩ := He.ba h10
      obtain ⟨q2, q3⟩ := He.ba h10
      have c1 : n13 = .ref cda := c1
      have c2 : n7 = [(z, cc)] := c2
      subst c1 c2
      have ez : z = "__class__" := by simpa using e7
      subst ez
      refine ⟨n2, oc, od, n10, n11, n12, cda, n14, osl, cc, lk, q1, ?_, ?_⟩
      · unfold fileB at q2
        split at q2
        · rename_i ccl cdd vs ccs hc
          split at q2
          · rename_i file tf hvs
            exact ⟨ccl, cdd, vs, ccs, file, tf, hc, hvs, q2⟩
          · cases q2
        · cases q2
      · unfold cellB at q3
        split at q3
        · rename_i cl cld C' csl hcc
          rw [of_decide_eq_true q3] at hcc
          exact ⟨cl, cld, csl, hcc⟩
        · cases q3
    · cases h10
  · cases h10
/-! fields of errors, the classes of a clause -/
def fExAt (x f : Str) : FB := fun K => He.eqO (PySem.W.findIn K (.ref (He.ga K x)) "__getattribute__") (some (some (.builtin "BaseException.__getattribute__"))) && (He.eqO (PySem.W.findIn K (.ref (He.ga K x)) "__getattr__") (some none) && (decide (PySem.W.subIn K (.ref (He.ga K x)) (.type "BaseException") = some true) &&
  (PySem.W.hasDictIn K (He.ga K x) && He.eqO (PySem.W.findIn K (.ref (He.ga K x)) f) (some none))))
theorem exAt_ok {K : PySem.W.Frag} {x f : Str} (h : fExAt x f K = true) : ExAt K (He.ga K x) f := by
  obtain ⟨h1, h⟩ := He.ba h
  obtain ⟨h2, h⟩ := He.ba h
  obtain ⟨h3, h⟩ := He.ba h
  obtain ⟨h4, h5⟩ := He.ba h
  exact ⟨He.eqO_ok h1, He.eqO_ok h2, of_decide_eq_true h3, h4, He.eqO_ok h5⟩
def fExm (x : Str) (cs : List Str) : FB := fun K => decide (PySem.W.exmAny K (.ref (He.ga K x)) (cs.map fun c => .ref (He.ga K c)) = some true)
theorem exm_ok {K : PySem.W.Frag} {x : Str} {cs : List Str} (h : fExm x cs K = true) : PySem.W.exmAny K (.ref (He.ga K x)) (cs.map fun c => .ref (He.ga K c)) = some true := of_decide_eq_true h
theorem all_nil {α : Type} {p : α → Prop} : ∀ c ∈ ([] : List α), p c := fun _ h => nomatch h
theorem all_cons {α : Type} {p : α → Prop} {a : α} {l : List α} (h : p a) (t : ∀ c ∈ l, p c) : ∀ c ∈ a :: l, p c := fun c hc => by
  rcases List.mem_cons.mp hc with rfl | hc
  · exact h
  · exact t c hc
/-! ### the hook: with tables and own errors -/
abbrev AlY : Type := He.AlD × List FnE × Bool
def obsY (n : Nat) (fa : List FB) (fn : List He5.DefA) (en : List EIn) (tf : List He.Defn) (g : Addr → Option Obj) : AlY :=
  (obsX fa fn (He.frT g (He5.asA g n)), en.map fun e => fnE (He.frT g (He5.asA g n)) (e.at_ (He.frT g (He5.asA g n))), He.tabsB g tf (He.frT g (He5.asA g n)))
def valY (fn : List He5.DefA) (en : List EIn) : AlY := (valX fn, en.map EIn.val, true)
structure SaysY (fa : List FB) (fn : List He5.DefA) (en : List EIn) (tf : List He.Defn) (h : Heap) (K : PySem.W.Frag) : Prop where
  x : SaysX fa fn K
  e : (en.map fun e => fnE K (e.at_ K)) = en.map EIn.val
  hd : ∀ p ∈ tf, PySem.W.codeHdIn K (He.cT K p).1 (He.cT K p).2 = true
  out : ∀ p ∈ tf, K.lookup (He.cT K p).2 = none
  empty : ∀ p ∈ tf, h.get? (He.cT K p).2 = some { cls := .none, data := .fields #[] }
theorem saysY_of {n : Nat} {fa : List FB} {fn : List He5.DefA} {en : List EIn} {tf : List He.Defn} {h : Heap} (e : obsY n fa fn en tf h.get? = valY fn en) : SaysY fa fn en tf h (He.frT h.get? (He5.asA h.get? n)) := by
  have e1 : obsX fa fn (He.frT h.get? (He5.asA h.get? n)) = valX fn := congrArg (fun z : AlY => z.1) e
  have e2 : (en.map fun e => fnE (He.frT h.get? (He5.asA h.get? n)) (e.at_ (He.frT h.get? (He5.asA h.get? n)))) = en.map EIn.val := congrArg (fun z : AlY => z.2.1) e
  have e3 : He.tabsB h.get? tf (He.frT h.get? (He5.asA h.get? n)) = true := congrArg (fun z : AlY => z.2.2) e
  have key : ∀ p ∈ tf, PySem.W.codeHdIn (He.frT h.get? (He5.asA h.get? n)) (He.cT (He.frT h.get? (He5.asA h.get? n)) p).1 (He.cT (He.frT h.get? (He5.asA h.get? n)) p).2 = true ∧ ∃ o, h.get? (He.cT (He.frT h.get? (He5.asA h.get? n)) p).2 = some o ∧ He.emptyTab o = true := fun p hp => by
    obtain ⟨h3, h4⟩ := He.ba (List.all_eq_true.mp e3 p hp)
    refine ⟨h3, ?_⟩
    cases q : h.get? (He.cT (He.frT h.get? (He5.asA h.get? n)) p).2 with
    | none =>
      rw [q] at h4
      cases h4
    | some o =>
      rw [q] at h4
      exact ⟨o, rfl, h4⟩
  exact ⟨e1, e2, fun p hp => (key p hp).1, fun p hp => by
    obtain ⟨_, o, q, z⟩ := key p hp
    exact He.frT_none q z, fun p hp => by
    obtain ⟨_, o, q, z⟩ := key p hp
    rw [q, He.emptyTab_eq z]⟩
def hookY (n : Nat) (fa : List FB) (fn : List He5.DefA) (en : List EIn) (tf : List He.Defn) : PySem.W.Hook where
  α := AlY
  obs := fun s => obsY n fa fn en tf s.heap.get?
  val := fun _ => valY fn en
  says := fun _ h => ∃ K : PySem.W.Frag, K.In h ∧ SaysY fa fn en tf h K
  of := fun _ _ e => ⟨_, He.frT_in, saysY_of e⟩
  keeps := fun _ _ _ ⟨K, hK, c⟩ k => ⟨K, PySem.W.Frag.In.keeps hK k, ⟨c.x, c.e, c.hd, c.out, fun p hp => k _ _ (c.empty p hp)⟩⟩
theorem obsY_eq {n : Nat} {fa : List FB} {fn : List He5.DefA} {en : List EIn} {tf : List He.Defn} {g : Addr → Option Obj} {s : Shared} (h : ∀ a, g a = s.heap.get? a) : obsY n fa fn en tf g = (hookY n fa fn en tf).obs s := by
  have e : g = s.heap.get? := funext h
  rw [e] <;> rfl
theorem SaysY.err {fa : List FB} {fn : List He5.DefA} {en : List EIn} {tf : List He.Defn} {h : Heap} {K : PySem.W.Frag} (c : SaysY fa fn en tf h K) (i : Nat) {e : EIn} (hi : en[i]? = some e := by rfl) : fnE K (e.at_ K) = e.val := by
  have e2 : (en.map fun e => fnE K (e.at_ K))[i]? = (en.map EIn.val)[i]? := by rw [c.e]
  rw [List.getElem?_map, List.getElem?_map, hi] at e2
  exact Option.some.inj e2
/-! ### the law's def: its code object is known -/
section
variable {P : Program} {w : World} {K : PySem.W.Frag} {mg : Str → Option Value} {base : Heap} {x qual : Str} {params : Arguments} {body : List Stmt} {scope : Scope} {fd : FuncData} {dvs : List V} {kws : List (Str × V)}
theorem fnOkDC {fin : Mu → Res D → Res D} (hf : Fnl fin) {N ps : List Str} {k : Nat} {T : DS} (Fu : FunD K x qual params body scope dvs kws (He.ga K x) fd) (S : FnScope N ps scope)
    (hbody : ∀ (A : Around) (outer : List PySem.Env) (s : Shared) (H : Hp) (E : XK), Room k (A.deeper (envOfC qual scope s.heap.objs.size (He.ga K x) (.ref (He.cT K (x, none)).1))) → ∃ t, PSs (cxOf (L2.CX P w) P w K mg base N qual scope (He.ga K x) (.ref (He.cT K (x, none)).1) A outer s H E) body t ∧ SS K (fun _ => E) t T) :
    FnOk P w K mg base (L2.CX P w) (k + 1) (He.ga K x) fd ps (spD K (defR fin ps.length N.length T)) := by
  obtain ⟨oc, od, dV, kV, doc, pm, an, cdv, ct, osl, efd, lk, hcd, hdf, hkw⟩ := Fu.ex
  obtain ⟨c, rfl⟩ := He.codeIn_ref hcd
  have ec : He.codeOf K (x, none) = c := He.codeOf_eq (K := K) (p := (x, none)) lk (by rw [efd])
  subst efd
  have e1 : (He.cT K (x, none)).1 = c := ec
  rw [e1] at hbody
  refine fn_of lk hcd S (fun vs H Q E h => ?_) (fun A outer s H vs Q E hr h => ?_)
  · obtain ⟨F, ρ, ds, μ, Q', X, _, q, hd, _⟩ := h
    unfold defR at hd
    split at hd
    · rename_i c
      exact q.len.trans c
    · exact hd.elim
  · obtain ⟨t, ht, hS⟩ := hbody A outer s H E hr
    obtain ⟨F, ρ, ds, μ, Q', X, wd, q, hd, o, xo⟩ := h
    unfold defR at hd
    split at hd
    · exact ⟨t, ht, body_ok hf wd q hd o xo⟩
    · exact hd.elim
end
/-- the law's promise, where the table of its code objects is the first thing that may change -/
theorem law_spT {K : PySem.W.Frag} {H : Hp} {a : Addr} {ns : List Int} {f : FS} {x q : Str} (hl : ∃ μ, f [.scr ns] [.tbl x q] = .ok (.bl true) μ) (hT : H (He.cT K (x, none)).2 = some (.tbl #[])) (h : SqL K H a (ns.map V.int)) : spD K f [.ref a] H (fun v _ => v = .bl true) L2.E0 := by
  obtain ⟨μ, e⟩ := hl
  have w : Wd K [] [(He.cT K (x, none)).2] [.tbl x q] H := by
    refine ⟨fun _ h => (nomatch h), rfl, by simp, fun _ _ h => (nomatch h), fun i b m hi hm => ?_⟩
    match i, hi, hm with
    | 0, hi, hm =>
      cases hi
      cases hm
      refine ⟨rfl, #[], hT, True.intro, fun pos cv hc => ?_⟩
      have z : codeAmong pos [] = some cv := hc
      simp [codeAmong] at z
    | i + 1, hi, hm => simp at hi
  refine ⟨[], [(He.cT K (x, none)).2], [.scr ns], [.tbl x q], fun d _ => d = .bl true, fun _ _ => False, w, .one (.scr ?_), ?_, ?_, fun _ _ _ _ _ _ _ _ _ _ _ _ z => z.elim⟩
  · rcases h with h | h
    · refine .inl ⟨?_, h⟩
      intro z
      have ez : a = (He.cT K (x, none)).2 := by simpa using z
      rw [ez] at h
      rcases h with h | ⟨o, h⟩
      · rw [hT] at h; cases h
      · rw [hT] at h; cases h
    · exact .inr h
  · rw [e]
    rfl
  · intro v H' ρ' d μ' _ _ q e
    subst e
    cases q
    rfl
/-! ### why(lambda: e) in the law -/
theorem roomH_suite {X : Cx} {k : Nat} {a : Addr} {pn : List (Addr × Obj)} (r : L2H.RoomH k X.A) : L2H.RoomH k (X.suite a pn).A := ⟨r.dp, r.un⟩
theorem pe_lamW {X : Cx} (K : PySem.W.Frag) (hK : X.K = K) (i : Nat) {xl q : Str} (hqq : X.env.qual ++ ("<lambda>" : Str) = q) {xw a n x1 x2 x3 : Str} {k : Nat} {pg : Arguments} {sg : Scope} {fd : FuncData} {j k1 k2 : Nat} {b₀ : Stmt} {suite : List Stmt} {qs : List Pos} {ts : TS} {ok : List Str} {c1 c2 c3 : Value}
    (Fu : FunD K xw xw pg (whyB a n x1 x2 x3 j k1 k2 (b₀ :: suite) qs) sg [] [] (He.ga K xw) fd) (hb : L2.Binds K fd [a] []) (Sg : FnScope [a, n] [a] sg) (hva : Vis sg a) (hln : sg.names.lookup n = some .local) (hne : [a, n].Nodup)
    (hg : Gl X xw) (hm : X.mg xw = some (.ref (He.ga K xw))) (hr : Room (k + 2) X.A)
    (hc : ∀ cdg s H, Names (cxOf C8.CX0 X.prog X.w K X.mg X.base [a, n] xw sg (He.ga K xw) cdg X.A X.stack s H C8.E0).nox x1 c1 ∧ Names (cxOf C8.CX0 X.prog X.w K X.mg X.base [a, n] xw sg (He.ga K xw) cdg X.A X.stack s H C8.E0).nox x2 c2 ∧ Names (cxOf C8.CX0 X.prog X.w K X.mg X.base [a, n] xw sg (He.ga K xw) cdg X.A X.stack s H C8.E0).nox x3 c3)
    (hsu : ∀ (cdg : Value) (s : Shared) (H : Hp) (a' : Addr) (pn : List (Addr × Obj)), L2H.RoomH (k + 1) ((cxOf C8.CX0 X.prog X.w K X.mg X.base [a, n] xw sg (He.ga K xw) cdg X.A X.stack s H C8.E0).nox.suite a' pn).A → PSs ((cxOf C8.CX0 X.prog X.w K X.mg X.base [a, n] xw sg (He.ga K xw) cdg X.A X.stack s H C8.E0).nox.suite a' pn) (b₀ :: suite) ts)
    (hok : ∀ c ∈ ok, PySem.W.exmAny K (.ref (He.ga K c)) [c1, c2, c3] = some true)
    (TB : TabB X.base X.mg (He.cT K (xl, none)).1 (He.cT K (xl, none)).2) (hcode : X.env.code = .ref (He.cT K (xl, none)).1)
    {params : Arguments} {body : Expr} {scope : Scope} {t : XK → TE} {p lpos pos : Pos} (L : LamS X.env.scope scope) (hdef : defaultsOf params X.env = ([], []))
    (hbind : ∀ (q : Str) (cl : List (Str × Addr)) (pm cv ctv : Value), bindArgs (PySem.W.kla_fn "<lambda>" q params body scope cl pm cv ctv) ⟨[], []⟩ = pure [])
    (hbody : ∀ (A : Around) (outer : List PySem.Env) (s : Shared) (H : Hp) (E : XK) (f c' : Addr), Room k (A.deeper (lamEnv X scope s.heap.objs.size f c')) → PE (lamCx X A outer s H E scope f c') body (t E))
    (hdb : (xw == ("__debug__" : Str)) = false := by decide) (hd : (a == ("__debug__" : Str)) = false := by decide) (hcd : (a == ("__classdict__" : Str)) = false := by decide) :
    PE X (.Call (.Name xw p) [.Lambda params body scope lpos] [] pos) (tLamW K i xl q [c1, c2, c3] ok ts hok t) := by
  subst hK
  obtain ⟨oc, od, dV, kV, doc, pm, an, cdv, ct, osl, rfl, lk, hcdv, hdf, hkw⟩ := Fu.ex
  have hk := Fu.kp
  refine pe_lamP hqq hg hm hk lk hcdv hb Sg rfl hva (why_gives hne rfl rfl hln (hc cdv) (fun s H a' pn => hsu cdv s H a' pn (roomH_suite (L2H.roomH_of (hr.deeper _)))) (fun f => rfl)) TB hcode hr L hdef hbind hbody hdb hd hcd
end
end DX

namespace DX
open PySem PySem.Spec PyProof.Rows L2
noncomputable section
/-! ### isinstance(x, C), C an own class -/
abbrev isiNs : List String := ["NoneType", "bool", "int", "str", "tuple", "list"]
structure IsiT (K : PySem.W.Frag) (C : Addr) : Prop where
  cl : Cls K C
  ha : PySem.W.findIn K (.ref C) "__class__" = some (some (.builtin "object.__class__"))
  hn : PySem.W.specialIn K (.builtin "object.__class__") "__get__" = some (some (.builtin "getset_descriptor.__get__"))
  htk : PySem.W.takesIn K (.builtin "object.__class__") = some true
  hm : PySem.W.mroIn K C (.type "object") = some true
  oth : ∀ n ∈ isiNs, PySem.W.kitOne K (.type n) (.ref C) = some false
def fIsi (x : Str) : FB := fun K => fCls x K && (He.eqO (PySem.W.findIn K (.ref (He.ga K x)) "__class__") (some (some (.builtin "object.__class__"))) && (He.eqO (PySem.W.specialIn K (.builtin "object.__class__") "__get__") (some (some (.builtin "getset_descriptor.__get__"))) &&
  (decide (PySem.W.takesIn K (.builtin "object.__class__") = some true) && (decide (PySem.W.mroIn K (He.ga K x) (.type "object") = some true) && isiNs.all fun n => decide (PySem.W.kitOne K (.type n) (.ref (He.ga K x)) = some false)))))
theorem isi_ok {K : PySem.W.Frag} {x : Str} (h : fIsi x K = true) : IsiT K (He.ga K x) := by
  obtain ⟨h1, h⟩ := He.ba h
  obtain ⟨h2, h⟩ := He.ba h
  obtain ⟨h3, h⟩ := He.ba h
  obtain ⟨h4, h⟩ := He.ba h
  obtain ⟨h5, h6⟩ := He.ba h
  exact ⟨He.cls_ok h1, He.eqO_ok h2, He.eqO_ok h3, of_decide_eq_true h4, of_decide_eq_true h5, fun n hn => of_decide_eq_true (List.all_eq_true.mp h6 n hn)⟩
def rIsiC (K : PySem.W.Frag) (c : Str) (T : IsiT K (He.ga K c)) : List V → Hp → VK → Prop := rIsi K
theorem call_isiC {X : Cx} (K : PySem.W.Frag) (hK : X.K = K) {c : Str} (T : IsiT K (He.ga K c)) : CallR X (.builtin "isinstance") (rIsiC K c T) := by subst hK; exact call_isi
def isiCD (c : Str) (ds : List D) (μ : Mu) : Res D := match ds with
  | [d, .cls c'] => grd (c' = c) (match ofC c μ d with
    | some _ => .ok (.bl true) μ
    | none => okO (tyName μ d) fun n => grd (n ∈ isiNs) (.ok (.bl false) μ))
  | _ => .bad
instance {K : PySem.W.Frag} {c : Str} {T : IsiT K (He.ga K c)} : SC K (rIsiC K c T) (isiCD c) := ⟨fun {X F H ρ μ vs ds P Q} w q h o => by
  unfold isiCD at h
  split at h
  · rename_i d c'
    obtain ⟨rfl, h⟩ := wp_grd h
    cases q with
    | cons qa qb =>
      cases qb with
      | cons qb qc =>
        cases qc
        cases qb
        split at h
        · rename_i p e1
          obtain ⟨ad, dx', us, rfl, ea, l, qs⟩ := asI_at w qa (ofC_at e1)
          exact ⟨_, _, _, _, true, rfl, .own _, .base (.ins ea T.cl T.ha T.hn T.htk T.hm), by unfold PySem.W.kitOne; rw [if_pos (by simp)], o.here w (.bl true) h⟩
        · obtain ⟨n, e1, h⟩ := wp_okO h
          obtain ⟨hn, h⟩ := wp_grd h
          exact ⟨_, _, _, _, false, rfl, .own _, tyName_at w qa e1, T.oth n hn, o.here w (.bl false) h⟩
  · exact h.elim⟩
end
end DX

/-! Own errors without fields; own +. -/
namespace ErX
open PySem PySem.W PySem.Calls PyProof.Rows PySem.HandSPX
def erA0 (p1 : Pos) : Arguments := { posonlyargs := [], args := [{ arg := "self", annotation := none, pos := p1 }], vararg := none, kwonlyargs := [], kw_defaults := [], kwarg := none, defaults := [] }
def supE0 (q : List Pos) : Expr := .Call (.Attribute (.Call (.Name "super" (q.getD 0 ⟨0, 0, 0, 0⟩)) [] [] (q.getD 1 ⟨0, 0, 0, 0⟩)) "__init__" (q.getD 2 ⟨0, 0, 0, 0⟩)) [] [] (q.getD 3 ⟨0, 0, 0, 0⟩)
def erB0 (tag : Str) (k : Nat) (q : List Pos) : List Stmt := let p := fun i => q.getD i ⟨0, 0, 0, 0⟩
  [.Expr (.Call (.Attribute (.Call (.Name "super" (p 0)) [] [] (p 1)) "__init__" (p 2)) [] [] (p 3)) (p 4),
   .Assign [.Attribute (.Name "self" (p 5)) "tag" (p 6)] (.Constant (.str tag) k (p 7)) (p 8)]
def erS0 : Scope := { kind := .function, names := [(Str.ofString "self", .local), (Str.ofString "__class__", .free), (Str.ofString "super", .globalImplicit)], isGenerator := false, isCoroutine := false, more := [] }
structure ErrT0 (P : Program) (K : Frag) (mg : Str → Option Value) (x tag : Str) (C fI : Addr) (p1 : Pos) (k : Nat) (qs : List Pos) : Prop where
  gC : mg x = some (.ref C)
  cls : ∃ nm q N bs bm sn sub ab col dd k0 k1 k2 k3 k5, K.lookup C = some (excClassObj nm q C N bs bm true sn sub ab col dd k0 k1 k2 k3 k5 "ValueError.__new__") ∧ refsVE bm = true
  sa : findIn K (.ref C) "__setattr__" = some (some (.builtin "object.__setattr__"))
  nT : findIn K (.ref C) "tag" = some none
  iC : findIn K (.ref C) "__init__" = some (some (.ref fI))
  tC : typeIn K (.ref fI) = some (.type "function")
  kC : keepIn K (.ref C) = true
  exC : subIn K (.ref C) (.type "BaseException") = some true
  tyC : typeIn K (.ref C) = some (.type "type")
  fn : ∃ (qual : Str) (oc : Value) (od : Option Addr) (doc pm : Value) (an : Option Addr) (cda : Addr) (ct : Value) (osl : Array (Option Value)) (cc : Addr),
    K.lookup fI = some ⟨oc, od, .func (ksFn "__init__" qual (erA0 p1) (erB0 tag k qs) erS0 .none .none doc pm an (.ref cda) ct cc), osl⟩ ∧ codeIn K (.ref cda) qual = true ∧
    (∃ ccl cdd vs ccs file tf, K.lookup cda = some ⟨ccl, cdd, .fields vs, ccs⟩ ∧ vs[2]? = some (.str file tf) ∧ ((P.main.file : Str) == file) = true) ∧ ∃ cl cld csl, K.lookup cc = some ⟨cl, cld, .cell (some (.ref C)), csl⟩
  sup : ks_superIn K C C "__init__" = some (some (.builtin "ValueError.__init__"))
  sub : mroIn K C (.ref C) = some true
  ve : subIn K (.ref C) (.type "ValueError") = some true
  nS : mg "super" = none
  op : nsIn K cStatics "thirdparty.any" = some none
  top : (P.main.scope.names.lookup ("super" : Str)).isSome = false
  bd : ∀ (qual : Str) (doc pm : Value) (an : Option Addr) (cd ct : Value) (cc : Addr) (u : Value), bindArgs (ksFn "__init__" qual (erA0 p1) (erB0 tag k qs) erS0 .none .none doc pm an cd ct cc) ⟨[u], []⟩ = pure [((Str.ofString "self" : Str), u)]
  ev : ∀ env : Env, ∃ pl, eval (supE0 qs) env = (do
    let ov ← attributeBase (.Call (.Name "super" (qs.getD 0 ⟨0, 0, 0, 0⟩)) [] [] (qs.getD 1 ⟨0, 0, 0, 0⟩)) "__init__" env (eval (.Call (.Name "super" (qs.getD 0 ⟨0, 0, 0, 0⟩)) [] [] (qs.getD 1 ⟨0, 0, 0, 0⟩)) env)
    standAt (qs.getD 2 ⟨0, 0, 0, 0⟩).atName
    let (g, first) ← holding [ov] (getMethod ov "__init__" pl)
    callWith (qs.getD 3 ⟨0, 0, 0, 0⟩) g first (backTo (qs.getD 3 ⟨0, 0, 0, 0⟩) (starEach [] env)) [])
structure InitEnd0 (h h' : Heap) (x C dx t1 : Addr) (u : Value) : Prop where
  keep : ∀ b o, b ≠ x → h.get? b = some o → h'.get? b = some o
  obj : h'.get? x = some { cls := .ref C, dict := some dx, data := .fields #[.ref t1, .none, .none, .none, .bool false, .none] }
  dbig : h.objs.size ≤ dx
  dne : dx ≠ x
  ns : h'.Ns1 dx (fun y => if y = "tag" then some u else none)
section
variable {prog : Program} {w : World} {A : Around} {E : Value → Shared → Prop} {R : Result → Shared → Prop} {s : Shared} {K : Frag} {mg mb : Str → Option Value} {C fI : Addr} {xn tag : Str} {p1 : Pos} {k : Nat} {qs : List Pos}
theorem er_init0 (T : ErrT0 prog K mg xn tag C fI p1 k qs) {x t0 : Addr} (X : K.In s.heap) (hlim : s.heap.NoLimit) (hg : s.heap.Ns mainGlobals mg) (hb : s.heap.Ns builtinsNs mb) (hbb : mb "super" = bootBuiltins "super") (hx : s.heap.get? x = some (excO C t0)) (hnx : K.lookup x = none) (hroom : A.depth < recursionLimit)
    (hq : ∀ h' tk dx t1 tt, InitEnd0 s.heap h' x C dx t1 (.str tag tt) → R (.ok (.ret .none)) { s with heap := h', toks := tk }) :
    codeAny (model prog w) A (.call (.ref fI) ⟨[.ref x], []⟩) R s := by
  obtain ⟨qual, oc, od, doc, pm, an, cda, ct, osl, cc, ho, hcd, ⟨ccl, cdd, vs, ccs, file, tf, hcode, hvs, hfile⟩, cl, cld, csl, hcell⟩ := T.fn
  obtain ⟨nm, q, N, bs, bm, sn, sub, ab, col, dd, k0, k1, k2, k3, k5, hC, hbm⟩ := T.cls
  have hcl : clsIn K C = some { name := nm, bases := bs, mro := .ref C :: bm, ns := N, qualname := q, hasDict := true, slotNames := sn, subclasses := sub, abstract := ab, collection := col, hasDel := false } := by unfold clsIn; rw [hC] <;> rfl
  have lS : erS0.names.lookup ("self" : Str) = some .local := by decide +kernel
  have lC : erS0.names.lookup ("__class__" : Str) = some .free := by decide +kernel
  have lU : erS0.names.lookup ("super" : Str) = some .globalImplicit := by decide +kernel
  have bS : (([(("self" : Str), Value.ref x)] : List (Str × Value)).reverse).lookup ("self" : Str) = some (Value.ref x) := by simp [List.lookup]
  refine ks_codeAny_call_defAt (binds := [("self", .ref x)]) hroom (X _ _ ho) rfl hlim (codeRec_of X hcd) rfl (BindsTo.of_eq (T.bd _ _ _ _ _ _ _ _)) ?_ ?_ (fun h₁ hn hk => ?_) rfl rfl rfl
  · intro y hy
    have hy : y ∈ erS0.names := hy
    simp only [erS0, List.mem_cons, List.not_mem_nil, or_false] at hy
    rcases hy with rfl | rfl | rfl <;> intro z <;> cases z
  · intro y hy
    simp only [List.mem_cons, List.not_mem_nil, or_false] at hy
    subst hy
    exact lS
  · have hxL : s.heap.objs.size ≠ x := Nat.ne_of_gt (Heap.lt_size hx)
    have X₁ : K.In h₁ := X.keeps hk
    have hx₁ := hk _ _ hx
    obtain ⟨pl, hev⟩ := T.ev (callEnv (ksFn "__init__" qual (erA0 p1) (erB0 tag k qs) erS0 .none .none doc pm an (.ref cda) ct cc) s.heap.objs.size fI)
    refine ks_wpAt_execs_cons (ks_wpAt_Expr_any (ks_wpAt_MethodCall ?_ hev))
    refine ks_wpAt_super_base (f := fI) (cc := cda) lU lC (by decide +kernel) rfl (X₁ _ _ ho) rfl rfl rfl (X₁ _ _ hcode) rfl hvs hfile T.top ?_
    refine ks_loadName_global rfl lU (loadGlobal_builtin (hg.keeps hk) T.nS (hb.keeps hk) (hbb.trans PyProof.Rows.Boot.«super») ⟨rfl, ?_⟩)
    refine wpAny_loadName_free rfl lC rfl ⟨_, X₁ _ _ hcell, rfl⟩ ?_
    refine wpAny_loadName_local rfl lS hn bS ?_
    refine ks_wpAny_isType_cls (X₁ _ _ hC) rfl ⟨rfl, ?_⟩
    obtain ⟨hp0, g, d, t, os⟩ := s
    refine ks_wpAny_call_super (X₁ _ _ hC) rfl hx₁ rfl (fun c z => by cases z) (looks_mroIn X₁ T.sub) (fun h₂ e2 k2 => ?_)
    have X₂ : K.In h₂ := X₁.keeps k2
    have hx₂ := k2 _ _ hx₁
    have xC : x ≠ C := fun z => by rw [z, hC] at hnx; cases hnx
    have sp := T.sup
    unfold ks_superIn at sp
    rw [hcl] at sp
    have I₂ : InstAt h₂ x (excO C t0) C none := ⟨hx₂, rfl, rfl, trivial⟩
    refine kxs_getMethod kxs_ValueError e2 (looks_opaque X₂ T.op) (l₀ := .ref C :: bm) (fun A Q E s kk qq => wpAny_bind ((looks_clsIn X₂ hcl) A _ E s kk (wpAny_pure qq))) rfl X₂ sp (I₂.type.andThen (looks_subIn X₂ T.ve)) xC (by decide +kernel) ?_
    have k3 : ∀ b o, h₂.get? b = some o → (h₂.push (kxs_mw "ValueError.__init__" x)).get? b = some o := fun b o e => Heap.get?_push_of_some _ e
    have hn3 : (h₂.push (kxs_mw "ValueError.__init__" x)).Ns hp0.objs.size (fun y => (([(("self" : Str), Value.ref x)] : List (Str × Value)).reverse).lookup y) := hn.keeps fun b o e => k3 b o (k2 b o e)
    refine kxs_callWith (i := "ValueError.__init__") (x := x) rfl (PyProof.Rows.evalArgs_empty ⟨Heap.get?_push_at rfl rfl, ?_⟩)
    refine call_mw (k3 _ _ (X₂ _ _ hC)) (k3 _ _ hx₂) (Heap.get?_push_at rfl rfl) (by show 0 ≤ sizeLine; exact Nat.zero_le _) (fun h₄ t1 k4 hx₄ => ?_)
    have k04 : ∀ b o, b ≠ x → hp0.get? b = some o → h₄.get? b = some o := fun b o hb e => k4 b o hb (k3 b o (k2 b o (hk b o e)))
    have X₄ : K.In h₄ := fun b o e => k04 b o (fun z => by rw [z, hnx] at e; cases e) (X b o e)
    have hn4 : h₄.Ns hp0.objs.size (fun y => (([(("self" : Str), Value.ref x)] : List (Str × Value)).reverse).lookup y) := by
      obtain ⟨o, es, ep, e, r⟩ := hn3
      exact ⟨o, es, ep, k4 _ _ hxL e, r⟩
    have lt4 : hp0.objs.size < h₄.objs.size := hn4.lt
    refine wpAt_of_wpAny (wpAny_execs_cons (plainObj_wpAny_Assign_Attribute (Calls.Constant_str (ldE (qual := qual) (cc := cc) (cd := .ref cda) hn4 bS ?_ rfl lS (by decide +kernel)))))
    refine set_plain X₄ (ox := excO C t1) (od := none) ⟨hx₄, rfl, rfl, trivial⟩ T.sa ?_
    refine exc_osa X₄ hx₄ hcl (show refsVE (.ref C :: bm) = true from hbm) rfl T.nT (fun h₅ tk₅ dx k₅ dn dne hx₅ hn₅ => ?_)
    refine wpAny_execs_nil (hq h₅ _ dx t1 _ ⟨fun b o hb e => k₅ b o hb (k04 b o hb e), hx₅, Nat.le_trans (Nat.le_of_lt lt4) dn, dne, hn₅⟩)
/-- an error that was made -/
structure Made0 (h h' : Heap) (e C d : Addr) (u : Value) : Prop where
  keep : ∀ b o, h.get? b = some o → h'.get? b = some o
  new : h.objs.size ≤ e
  obj : ∃ oe vs, h'.get? e = some oe ∧ oe.cls = .ref C ∧ oe.dict = some d ∧ oe.data = .fields vs ∧ vs[1]? = some .none
  dbig : h.objs.size ≤ d
  dne : d ≠ e
  ns : h'.Ns1 d (fun y => if y = "tag" then some u else none)
theorem er_made0 (T : ErrT0 prog K mg xn tag C fI p1 k qs) (X : K.In s.heap) (hlim : s.heap.NoLimit) (hg : s.heap.Ns mainGlobals mg) (hb : s.heap.Ns builtinsNs mb) (hbb : mb "super" = bootBuiltins "super") (hroom : A.depth + 1 < recursionLimit)
    (hq : ∀ h' tk e d tt, Made0 s.heap h' e C d (.str tag tt) → R (.ok (.ret (.ref e))) { s with heap := h', toks := tk }) : codeAny (model prog w) A (.call (.ref C) ⟨[], []⟩) R s := by
  obtain ⟨nm, q, N, bs, bm, sn, sub, ab, col, dd, k0, k1, k2, k3, k5, hC, hbm⟩ := T.cls
  obtain ⟨hp, g, dr, tk, os⟩ := s
  have up : ∀ b o, hp.get? b = some o → ((hp.push (kdv_tup [])).push (excO C hp.objs.size)).get? b = some o := fun b o e => Heap.get?_push_of_some _ (Heap.get?_push_of_some _ e)
  have hget : ((hp.push (kdv_tup [])).push (excO C hp.objs.size)).get? (hp.objs.size + 1) = some (excO C hp.objs.size) := by heap_get
  have hnx : K.lookup (hp.objs.size + 1) = none := by
    cases e : K.lookup (hp.objs.size + 1) with
    | none => rfl
    | some o =>
      have z := Heap.lt_size (X _ _ e)
      exact absurd (Nat.lt_of_succ_lt z) (Nat.lt_irrefl _)
  refine call_own F.excBase_ValueError (fun Y => refsVE_contains Y bm hbm) (X _ _ hC) (looks_findIn X T.iC) (fun self => bind_fn X self T.tC) (by show 0 ≤ sizeLine; exact Nat.zero_le _) ?_
  refine er_init0 (s := ⟨(hp.push (kdv_tup [])).push (excO C hp.objs.size), g, dr, tk, os⟩) T (X.keeps up) (hlim.keeps up) (hg.keeps up) (hb.keeps up) hbb hget hnx hroom fun h' tk' dx t1 tt M => ?_
  have old : ∀ b o, hp.get? b = some o → h'.get? b = some o := fun b o e => M.keep b o (Nat.ne_of_lt (Nat.lt_succ_of_lt (Heap.lt_size e))) (up b o e)
  have z : hp.objs.size + 1 + 1 ≤ dx := by
    have q := M.dbig
    first
      | (simpa only [Heap.size_push] using q)
      | exact q
  exact ⟨rfl, hq h' tk' (hp.objs.size + 1) dx tt ⟨old, Nat.le_succ _, ⟨_, _, M.obj, rfl, rfl, rfl, rfl⟩, Nat.le_trans (Nat.le_trans (Nat.le_succ _) (Nat.le_succ _)) z, M.dne, M.ns⟩⟩
end
end ErX
namespace DX
open PySem PySem.Spec PyProof.Rows L2 ErX
theorem relO_er0 {tag : Str} {tt : Tok} (y : Str) : RelO (List.lookup y [(("tag" : Str), V.str tag)]) (if y = "tag" then some (Value.str tag tt) else none) := by
  by_cases c : y = ("tag" : Str)
  · subst c
    rw [if_pos rfl]
    have q : List.lookup (Str.ofString "tag") [((Str.ofString "tag" : Str), V.str tag)] = some (V.str tag) := by simp [List.lookup]
    rw [q]
    exact ⟨tt, rfl⟩
  · rw [if_neg c]
    have hc : (y == (Str.ofString "tag")) = false := beq_eq_false_iff_ne.mpr c
    have q : List.lookup y [((Str.ofString "tag" : Str), V.str tag)] = none := by simp [List.lookup, hc]
    rw [q]
    trivial
section
variable {X : Cx} {C fI : Addr} {x tag : Str} {p1 : Pos} {kk : Nat} {qs : List Pos}
def tMkE0 (C : Addr) (tag : Str) : L2.St → Hp → XK → Prop := fun σ H Q => ∀ d, H d = none → Q (.ref C) (some d) (upd H d (.xd [(("tag" : Str), V.str tag)]))
theorem pmk_er0 {p pos : Pos} {k : Nat} (T : ErrT0 X.prog X.K X.mg x tag C fI p1 kk qs) (hr : Room k X.A) (hg : Gl X x) (hdb : (x == ("__debug__" : Str)) = false := by decide) :
    PMk X (.Call (.Name x p) [] [] pos) (tMkE0 C tag) := by
  intro pins s σ H Q I q1
  refine wpAny_Call_Name_kw (ld_glob I hg T.gC ?_ hdb)
  refine PySem.W.callWith_K0 I.kIn T.kC ?_
  show wpAny _ _ (call (.ref C) []) _ _ _
  obtain ⟨mb, hb, hbb⟩ := I.mod.blt
  have hlim := I.nolimit
  have hgl := I.mod.glob.keeps I.bk
  have hbl := hb.keeps I.bk
  obtain ⟨hp, g, dr, tk, os⟩ := s
  refine wpAny_call (er_made0 T I.kIn hlim hgl hbl (hbb _ (by decide +kernel)) (by have := hr.dp; omega) fun h' tk' e d tt M => ?_)
  show MkP X pins σ Q (.ref e) ⟨h', g, dr, tk', os⟩
  obtain ⟨oe, fv, hoe, hc, hd, hdat, h1⟩ := M.obj
  have hns := M.ns
  obtain ⟨G', g1, g2⟩ := restrict h' fun b => decide (b ≠ e)
  have gk : ∀ b, b ≠ e → G'.get? b = h'.get? b := fun b hb => g1 b (decide_eq_true hb)
  have ge : G'.get? e = none := g2 e (by simp)
  have old : ∀ b o, hp.get? b = some o → G'.get? b = some o := fun b o q => (gk b (Nat.ne_of_lt (Nat.lt_of_lt_of_le (Heap.lt_size q) M.new))).trans (M.keep b o q)
  have ob : ObjOk X.prog X.w (upd H d (.xd [(("tag" : Str), V.str tag)])) G' d (.xd [(("tag" : Str), V.str tag)]) := ⟨_, hns.at (fun o q => (gk d M.dne).trans q), fun y => relO_er0 y⟩
  have J : Inv X pins σ (upd H d (.xd [(("tag" : Str), V.str tag)])) ⟨G', g, dr, tk', os⟩ := I.laid (t' := tk') old M.dbig ob
  refine ⟨e, oe, fv, ⟨G', g, dr, tk', os⟩, _, .ref C, some d, rfl, J, fun b o q => ?_, ge, hoe, ⟨hc, hd⟩, hdat, h1, ?_, rfl, I.bare, raises_own T.exC T.tyC, q1 d (I.hok.fresh M.dbig)⟩
  · by_cases hb : b = e
    · have q' : G'.get? b = some o := q
      rw [hb, ge] at q'
      cases q'
    · exact (gk b hb).symm.trans q
  · rw [upd_ne (Ne.symm M.dne)]
    exact I.hok.fresh M.new
def tRaiseE0 (C : Addr) (tag : Str) (E : L2.St → XK) : TS := fun _ σ H => ∀ d, H d = none → E σ (.ref C) (some d) (upd H d (.xd [(("tag" : Str), V.str tag)]))
theorem ps_raiseE0 {E : L2.St → XK} {p pos pos2 : Pos} {k : Nat} (hc : X.calm = true) (tk : TkE X E) (T : ErrT0 X.prog X.K X.mg x tag C fI p1 kk qs) (hr : Room k X.A) (hg : Gl X x) (hdb : (x == ("__debug__" : Str)) = false := by decide) :
    PS X (.Raise (some (.Call (.Name x p) [] [] pos)) none pos2) (tRaiseE0 C tag E) := ps_raise hc tk (pmk_er0 T hr hg hdb)
end
section
variable {K : PySem.W.Frag} {E : L2.St → XK}
def dRaise0 (c tag : Str) : DS := fun η μ => .exc ⟨c, ["tag"], [.str tag]⟩ η μ
instance {c tag : Str} : SS K E (tRaiseE0 (He.ga K c) tag E) (dRaise0 c tag) := ⟨fun {X F B σ H η ρ μ D} w e h o => by
  intro d hd
  have g2 := Grow.fresh (ρ := ρ) (H := H) (p := d) (o := .xd [(("tag" : Str), V.str tag)]) hd
  exact e.xo σ η ⟨c, ["tag"], [.str tag]⟩ d _ ρ μ [V.str tag] (w.lay hd) (e.toEnvOk0.mono g2) g2 upd_same (w.fresh2 hd) rfl (.one (.str tag)) h⟩
end
/-! what the top leaves -/
noncomputable section
structure EIn0 where
  x : Str
  tag : Str
  p1 : Pos
  k : Nat
  qs : List Pos
def EIn0.at_ (K : PySem.W.Frag) (e : EIn0) : Addr := He.ma K (He.ga K e.x) "__init__"
def EIn0.val (e : EIn0) : FnE := some ("__init__", erA0 e.p1, .stmts (erB0 e.tag e.k e.qs), erS0, mainGlobals, ["__class__"], .none, .none, builtinsNs)
def fErr0 (P : Program) (e : EIn0) : FB := fun K =>
  ecB K (He.ga K e.x) && (He.eqO (PySem.W.findIn K (.ref (He.ga K e.x)) "__setattr__") (some (some (.builtin "object.__setattr__"))) && (He.eqO (PySem.W.findIn K (.ref (He.ga K e.x)) "tag") (some none) &&
  (He.eqO (PySem.W.findIn K (.ref (He.ga K e.x)) "__init__") (some (some (.ref (e.at_ K)))) && (decide (PySem.W.typeIn K (.ref (e.at_ K)) = some (.type "function")) && (PySem.W.keepIn K (.ref (He.ga K e.x)) && (decide (PySem.W.subIn K (.ref (He.ga K e.x)) (.type "BaseException") = some true) &&
  (decide (PySem.W.typeIn K (.ref (He.ga K e.x)) = some (.type "type")) && (initB P K (He.ga K e.x) (e.at_ K) && (He.eqO (PySem.W.ks_superIn K (He.ga K e.x) (He.ga K e.x) "__init__") (some (some (.builtin "ValueError.__init__"))) && (decide (PySem.W.mroIn K (He.ga K e.x) (.ref (He.ga K e.x)) = some true) &&
  (decide (PySem.W.subIn K (.ref (He.ga K e.x)) (.type "ValueError") = some true) && (He.eqO (PySem.W.nsIn K mainGlobals "super") (some none) && (He.eqO (PySem.W.nsIn K cStatics "thirdparty.any") (some none) && He.eqO (PySem.W.nsIn K mainGlobals e.x) (some (some (.ref (He.ga K e.x)))))))))))))))))
structure ErrP0 (P : Program) (e : EIn0) : Prop where
  top : (P.main.scope.names.lookup ("super" : Str)).isSome = false
  bd : ∀ (qual : Str) (doc pm : Value) (an : Option Addr) (cd ct : Value) (cc : Addr) (u : Value), bindArgs (PySem.W.ksFn "__init__" qual (erA0 e.p1) (erB0 e.tag e.k e.qs) erS0 .none .none doc pm an cd ct cc) ⟨[u], []⟩ = pure [((Str.ofString "self" : Str), u)]
  ev : ∀ env : PySem.Env, ∃ pl, eval (supE0 e.qs) env = (do
    let ov ← attributeBase (.Call (.Name "super" (e.qs.getD 0 ⟨0, 0, 0, 0⟩)) [] [] (e.qs.getD 1 ⟨0, 0, 0, 0⟩)) "__init__" env (eval (.Call (.Name "super" (e.qs.getD 0 ⟨0, 0, 0, 0⟩)) [] [] (e.qs.getD 1 ⟨0, 0, 0, 0⟩)) env)
    standAt (e.qs.getD 2 ⟨0, 0, 0, 0⟩).atName
    let (g, first) ← holding [ov] (getMethod ov "__init__" pl)
    callWith (e.qs.getD 3 ⟨0, 0, 0, 0⟩) g first (backTo (e.qs.getD 3 ⟨0, 0, 0, 0⟩) (starEach [] env)) [])
theorem err_ok0 {P : Program} {K : PySem.W.Frag} {h : Heap} {mg : Str → Option Value} (X : K.In h) (G : h.Ns mainGlobals mg) {e : EIn0} (hp : ErrP0 P e) (hv : fnE K (e.at_ K) = e.val) (hb : fErr0 P e K = true) : ErrT0 P K mg e.x e.tag (He.ga K e.x) (e.at_ K) e.p1 e.k e.qs := by
  obtain ⟨h1, hb⟩ := He.ba hb
  obtain ⟨h2, hb⟩ := He.ba hb
  obtain ⟨h4, hb⟩ := He.ba hb
  obtain ⟨h5, hb⟩ := He.ba hb
  obtain ⟨h6, hb⟩ := He.ba hb
  obtain ⟨h7, hb⟩ := He.ba hb
  obtain ⟨h8, hb⟩ := He.ba hb
  obtain ⟨h9, hb⟩ := He.ba hb
  obtain ⟨h10, hb⟩ := He.ba hb
  obtain ⟨h11, hb⟩ := He.ba hb
  obtain ⟨h12, hb⟩ := He.ba hb
  obtain ⟨h13, hb⟩ := He.ba hb
  obtain ⟨h14, hb⟩ := He.ba hb
  obtain ⟨h15, h16⟩ := He.ba hb
  refine ⟨PySem.W.mg_of X G (He.eqO_ok h16), ecB_ok h1, He.eqO_ok h2, He.eqO_ok h4, He.eqO_ok h5, of_decide_eq_true h6, h7, of_decide_eq_true h8, of_decide_eq_true h9, ?_, He.eqO_ok h11, of_decide_eq_true h12, of_decide_eq_true h13, PySem.W.mg_none_of X G (He.eqO_ok h14), He.eqO_ok h15, hp.top, hp.bd, hp.ev⟩
  unfold initB at h10
  unfold fnE at hv
  split at h10
  · rename_i oc od fd osl lk
    rw [lk] at hv
    obtain ⟨n1, n2, n3, n4, n5, n6, n7, n8, n9, n10, n11, n12, n13, n14, n15⟩ := fd
    have e2 : (some (n1, n3, n4, n5, n6, n7.map (·.1), n8, n9, n15) : FnE) = e.val := hv
    unfold EIn0.val at e2
    simp only [Option.some.injEq, Prod.mk.injEq] at e2
    obtain ⟨rfl, rfl, rfl, rfl, rfl, e7, rfl, rfl, rfl⟩ := e2
    split at h10
    · rename_i cda z cc c1 c2
      obtain ⟨q1, h10⟩ := He.ba h10
      obtain ⟨q2, q3⟩ := He.ba h10
      have c1 : n13 = .ref cda := c1
      have c2 : n7 = [(z, cc)] := c2
      subst c1 c2
      have ez : z = "__class__" := by simpa using e7
      subst ez
      refine ⟨n2, oc, od, n10, n11, n12, cda, n14, osl, cc, lk, q1, ?_, ?_⟩
      · unfold fileB at q2
        split at q2
        · rename_i ccl cdd vs ccs hc
          split at q2
          · rename_i file tf hvs
            exact ⟨ccl, cdd, vs, ccs, file, tf, hc, hvs, q2⟩
          · cases q2
        · cases q2
      · unfold cellB at q3
        split at q3
        · rename_i cl cld C' csl hcc
          rw [of_decide_eq_true q3] at hcc
          exact ⟨cl, cld, csl, hcc⟩
        · cases q3
    · cases h10
  · cases h10
/-! ### own + -/
def rOwnA (C : Addr) (sp : Sp) (E : XK) : R2 := fun x y H Q => ∃ a dx fs b dy gs, x = .ref a ∧ y = .ref b ∧ H a = some (.ins C dx fs) ∧ H b = some (.ins C dy gs) ∧ sp [x, y] H Q E
theorem relV_ni {y : V} (r : RelV y .notImplemented) : False := by
  cases y <;> first | (cases r; done) | (obtain ⟨_, z⟩ := r; cases z; done)
theorem op_addOwn {X : Cx} {k : Nat} {C f : Addr} {sp : Sp} {CX : CXT} {E : XK} (hs : PySem.W.selfFirst X.K C = true) (hm : Meth X.K C "__add__" f) (F : FnR X.prog X.w X.K X.mg X.base CX k f sp) (hr : Room k X.A) (hx : Passes CX X E) : OpR X (binaryOp .Add) (rOwnA C sp E) := by
  intro pins s σ H x y v u Q I rx ry hq
  obtain ⟨a, dx, fs, b, dy, gs, rfl, rfl, ea, eb, q⟩ := hq
  cases rx
  cases ry
  obtain ⟨mA, J, _⟩ := ins_get I.hok ea
  obtain ⟨mB, J', _⟩ := ins_get I.hok eb
  obtain ⟨od, J, _⟩ := J.look
  obtain ⟨od', J', _⟩ := J'.look
  obtain ⟨m, hF⟩ := I.fr
  refine PySem.W.binop_K (op := .Add) hF I.ok.mod.kin J J'.type hs hm.at_ hm.fn ?_
  refine wpAny_mono (run_below (vs := [.ref a, .ref b]) F hr rfl hx I (.cons rfl (.cons rfl .nil)) q) (fun v s' hv => ?_) fun _ _ z => z
  obtain ⟨y, H2, I2, ry, q2⟩ := hv
  cases v with
  | notImplemented => exact (relV_ni ry).elim
  | _ => exact ⟨y, H2, I2, ry, q2⟩
def tOpA (C : Addr) (sp : Sp) (E : XK) (ta tb : TE) : TE := tOp (rOwnA C sp E) ta tb
theorem pe_addOwn {X : Cx} {C : Addr} {sp : Sp} {E : XK} {a b : Expr} {ta tb : TE} {pos : Pos} (ho : OpR X (binaryOp .Add) (rOwnA C sp E)) (ha : PE X a ta) (hb : PE X b tb) : PE X (.BinOp a .Add b pos) (tOpA C sp E ta tb) := pe_op ho ha hb
def dAddOwn (c : Str) (f : FS) (Ta Tb : DE) : DE := fun η μ => (Ta η μ).bind fun x μ1 => (Tb η μ1).bind fun y μ2 => okO (ofC c μ2 x) fun _ => okO (ofC c μ2 y) fun _ => f [x, y] μ2
instance {K : PySem.W.Frag} {E : XK} {c : Str} {f : FS} {ta tb : TE} {Ta Tb : DE} [a : SE K (fun _ => E) ta Ta] [b : SE K (fun _ => E) tb Tb] : SE K (fun _ => E) (tOpA (He.ga K c) (spD K f) E ta tb) (dAddOwn c f Ta Tb) := ⟨fun {X F σ H η ρ μ P Q} w e h o =>
  a.run w e (wp_bind h) fun x H1 ρ1 dx μ1 w1 g1 q1 h1 => b.run w1 (e.mono g1) (wp_bind h1) fun y H2 ρ2 dy μ2 w2 g2 q2 h2 => by
    obtain ⟨p, e1, h3⟩ := wp_okO h2
    obtain ⟨p', e2, h4⟩ := wp_okO h3
    obtain ⟨ad, dx', vs, rfl, ea, l, qs⟩ := asI_at w2 (q1.mono g2) (ofC_at e1)
    obtain ⟨bd, dy', vs', rfl, eb, l', qs'⟩ := asI_at w2 q2 (ofC_at e2)
    exact ⟨ad, dx', _, bd, dy', _, rfl, rfl, ea, eb, F, ρ2, _, μ2, _, _, w2, .cons (q1.mono g2) (.one q2), h4, o.mono (g1.trans g2), ((e.mono g1).mono g2).xo0⟩⟩
end
end DX

namespace DX
open PySem PySem.Spec PyProof.Rows L2 ErX LamX
noncomputable section
/-! ### the hook: with tables and own errors of either shape -/
structure EO where
  at_ : PySem.W.Frag → Addr
  val : FnE
def EIn.eo (e : EIn) : EO := ⟨fun K => e.at_ K, e.val⟩
def EIn0.eo (e : EIn0) : EO := ⟨fun K => e.at_ K, e.val⟩
def obsZ (n : Nat) (fa : List FB) (fn : List He5.DefA) (en : List EO) (tf : List He.Defn) (g : Addr → Option Obj) : AlY :=
  (obsX fa fn (He.frT g (He5.asA g n)), en.map fun e => fnE (He.frT g (He5.asA g n)) (e.at_ (He.frT g (He5.asA g n))), He.tabsB g tf (He.frT g (He5.asA g n)))
def valZ (fn : List He5.DefA) (en : List EO) : AlY := (valX fn, en.map EO.val, true)
structure SaysZ (fa : List FB) (fn : List He5.DefA) (en : List EO) (tf : List He.Defn) (h : Heap) (K : PySem.W.Frag) : Prop where
  x : SaysX fa fn K
  e : (en.map fun e => fnE K (e.at_ K)) = en.map EO.val
  hd : ∀ p ∈ tf, PySem.W.codeHdIn K (He.cT K p).1 (He.cT K p).2 = true
  out : ∀ p ∈ tf, K.lookup (He.cT K p).2 = none
  empty : ∀ p ∈ tf, h.get? (He.cT K p).2 = some { cls := .none, data := .fields #[] }
theorem saysZ_of {n : Nat} {fa : List FB} {fn : List He5.DefA} {en : List EO} {tf : List He.Defn} {h : Heap} (e : obsZ n fa fn en tf h.get? = valZ fn en) : SaysZ fa fn en tf h (He.frT h.get? (He5.asA h.get? n)) := by
  have e1 : obsX fa fn (He.frT h.get? (He5.asA h.get? n)) = valX fn := congrArg (fun z : AlY => z.1) e
  have e2 : (en.map fun e => fnE (He.frT h.get? (He5.asA h.get? n)) (e.at_ (He.frT h.get? (He5.asA h.get? n)))) = en.map EO.val := congrArg (fun z : AlY => z.2.1) e
  have e3 : He.tabsB h.get? tf (He.frT h.get? (He5.asA h.get? n)) = true := congrArg (fun z : AlY => z.2.2) e
  have key : ∀ p ∈ tf, PySem.W.codeHdIn (He.frT h.get? (He5.asA h.get? n)) (He.cT (He.frT h.get? (He5.asA h.get? n)) p).1 (He.cT (He.frT h.get? (He5.asA h.get? n)) p).2 = true ∧ ∃ o, h.get? (He.cT (He.frT h.get? (He5.asA h.get? n)) p).2 = some o ∧ He.emptyTab o = true := fun p hp => by
    obtain ⟨h3, h4⟩ := He.ba (List.all_eq_true.mp e3 p hp)
    refine ⟨h3, ?_⟩
    cases q : h.get? (He.cT (He.frT h.get? (He5.asA h.get? n)) p).2 with
    | none =>
      rw [q] at h4
      cases h4
    | some o =>
      rw [q] at h4
      exact ⟨o, rfl, h4⟩
  exact ⟨e1, e2, fun p hp => (key p hp).1, fun p hp => by
    obtain ⟨_, o, q, z⟩ := key p hp
    exact He.frT_none q z, fun p hp => by
    obtain ⟨_, o, q, z⟩ := key p hp
    rw [q, He.emptyTab_eq z]⟩
def hookZ (n : Nat) (fa : List FB) (fn : List He5.DefA) (en : List EO) (tf : List He.Defn) : PySem.W.Hook where
  α := AlY
  obs := fun s => obsZ n fa fn en tf s.heap.get?
  val := fun _ => valZ fn en
  says := fun _ h => ∃ K : PySem.W.Frag, K.In h ∧ SaysZ fa fn en tf h K
  of := fun _ _ e => ⟨_, He.frT_in, saysZ_of e⟩
  keeps := fun _ _ _ ⟨K, hK, c⟩ k => ⟨K, PySem.W.Frag.In.keeps hK k, ⟨c.x, c.e, c.hd, c.out, fun p hp => k _ _ (c.empty p hp)⟩⟩
theorem obsZ_eq {n : Nat} {fa : List FB} {fn : List He5.DefA} {en : List EO} {tf : List He.Defn} {g : Addr → Option Obj} {s : Shared} (h : ∀ a, g a = s.heap.get? a) : obsZ n fa fn en tf g = (hookZ n fa fn en tf).obs s := by
  have e : g = s.heap.get? := funext h
  rw [e] <;> rfl
theorem SaysZ.err {fa : List FB} {fn : List He5.DefA} {en : List EO} {tf : List He.Defn} {h : Heap} {K : PySem.W.Frag} (c : SaysZ fa fn en tf h K) (i : Nat) {e : EO} (hi : en[i]? = some e := by rfl) : fnE K (e.at_ K) = e.val := by
  have e2 : (en.map fun e => fnE K (e.at_ K))[i]? = (en.map EO.val)[i]? := by rw [c.e]
  rw [List.getElem?_map, List.getElem?_map, hi] at e2
  exact Option.some.inj e2
def fSelf (x : Str) : FB := fun K => PySem.W.selfFirst K (He.ga K x)
theorem self_ok {K : PySem.W.Frag} {x : Str} (h : fSelf x K = true) : PySem.W.selfFirst K (He.ga K x) = true := h
end
end DX

namespace DX
open PySem PySem.Spec PyProof.Rows L2
noncomputable section
/-! ### xs[::-1], xs a list -/
theorem vals_revs : ∀ {xs : List V} {us : List Value}, Vals xs us → Vals xs.reverse us.reverse
  | _, _, .nil => .nil
  | _, _, .cons a t => by
    rw [List.reverse_cons, List.reverse_cons]
    exact (vals_revs t).append (.cons a .nil)
def tRevL (K : PySem.W.Frag) (te : TE) : TE := fun σ H Q => te σ H fun v H1 => ∃ (a : Addr) (xs : List V), v = .ref a ∧ SqL K H1 a xs ∧ ∀ q, H1 q = none → Q (.ref q) (upd H1 q (.lst xs.reverse))
theorem pe_revL {X : Cx} (K : PySem.W.Frag) (hK : X.K = K) {e k : Expr} {te : TE} {p2 pos : Pos} (he : PE X e te) (hk : PE X k (tUn rNegU (tC (.int 1)))) : PE X (.Subscript e (.Slice none none (some k) p2) pos) (tRevL K te) := by
  subst hK
  refine ⟨fun pins s σ H Q I h => ?_⟩
  refine Subscript_ (thn (he.run pins s σ H _ I h) fun v s1 ⟨x, H1, I1, r1, q1⟩ => ?_)
  obtain ⟨a, xs, rfl, hx, q⟩ := q1
  refine wpAny_Slice ?_
  rw [evalPart_none]
  refine wpAny_pure (wpAny_pure ?_)
  refine thn ((po_some hk).run pins s1 σ H1 (fun o H2 => o = some (-1) ∧ H2 = H1) I1 ⟨1, rfl, -1, rfl, rfl, rfl⟩) fun vk s2 ⟨o, H2, I2, pk, eo, eH⟩ => ?_
  subst eo eH
  have I4 : Inv X pins σ H2 { s2 with heap := s2.heap.push { cls := .type "slice", data := .fields #[.none, .none, vk] } } := I2.kept (t' := s2.toks) fun b ob q => Heap.get?_push_of_some _ q
  cases r1
  obtain ⟨its, r, ht, hz⟩ := I4.list hx
  have hlen := r.length
  show wpAny (model X.prog X.w) X.A (subscriptTail e (.Slice none none (some k) p2) (.ref a) (.ref s2.heap.objs.size)) (EP X pins σ Q) X.xe { s2 with heap := s2.heap.push { cls := .type "slice", data := .fields #[.none, .none, vk] } }
  refine tail_any (ops := [.ref a, .ref s2.heap.objs.size]) (id := "list.__getitem__") ht.isList.typeIs slot_list_getitem.lookup ?_ (by with_unfolding_all rfl)
  refine wpAny_getItem_list_slice ht.isList (Heap.IsSliceOf.new ..) .none .none pk (by simp) ?_ (by rw [List.size_toArray] <;> omega)
  rw [PySem.W.krv_pick]
  refine ⟨.ref _, _, I4.laid (t' := s2.toks) (o := .lst xs.reverse) (fun b ob q => Heap.get?_push_of_some _ q) (Nat.le_refl _) ?_, rfl, q _ (I4.hok.fresh (Nat.le_refl _))⟩
  exact ⟨by rw [List.length_reverse]; exact hz, _, 0, vals_revs r, Heap.get?_push_size _ rfl⟩
def dRevL (Ta : DE) : DE := fun η μ => (Ta η μ).bind fun x μ1 => okO (asL μ1 x) fun xs => .ok (.lst xs.reverse) μ1
instance {K : PySem.W.Frag} {E : L2.St → XK} {te : TE} {Ta : DE} [a : SE K E te Ta] : SE K E (tRevL K te) (dRevL Ta) := ⟨fun w e h o =>
  a.run w e (wp_bind h) fun x H1 ρ1 dx μ1 w1 g1 q1 h1 => by
    obtain ⟨xs, e1, h2⟩ := wp_okO h1
    obtain ⟨ad, vs, rfl, ea, qs⟩ := asL_at w1 q1 e1
    exact ⟨ad, vs, rfl, SqL.of ea, fun p hp => (o.mono g1).newL w1 qs.rev h2 hp⟩⟩
end
end DX

namespace DX
open PySem PySem.Spec PyProof.Rows L2
noncomputable section
/-! ### starred arguments -/
theorem pa_starK {X : Cx} (K : PySem.W.Frag) (hK : X.K = K) {e : Expr} {es : List Expr} {te : TE} {t : TA} {p : Pos} (he : PE X e te) (hr : PA X es t) (hs : starEach (.Starred e p :: es) X.env = (true, eval e X.env) :: starEach es X.env := by rfl) : PA X (.Starred e p :: es) (StX.tStar K te t) := by
  subst hK
  exact StX.pa_star he hr hs
def dStar (Te : DE) (T : DA) : DA := fun η μ => (Te η μ).bind fun x μ1 => okO (seqOf μ1 x) fun xs => (T η μ1).bind fun ys μ2 => .ok (xs ++ ys) μ2
theorem seqOf_st {K : PySem.W.Frag} {F ρ : List Addr} {μ : Mu} {H : Hp} (w : Wd K F ρ μ H) {v : V} {d : D} {xs : List D} (h : Dt K F ρ H v d) (e : seqOf μ d = some xs) : ∃ a vs, v = .ref a ∧ (SqT K H a vs ∨ SqL K H a vs) ∧ DtAll K F ρ H vs xs := by
  by_cases ct : ∃ ys, d = .tup ys
  · obtain ⟨ys, rfl⟩ := ct
    cases e
    cases h with
    | tup n e1 q => exact ⟨_, _, rfl, .inl (SqT.of e1), q⟩
  · have e' : asL μ d = some xs := by
      cases d <;> first | exact e | exact absurd ⟨_, rfl⟩ ct
    obtain ⟨a, vs, rfl, e1, q⟩ := asL_at w h e'
    exact ⟨a, vs, rfl, .inr (SqL.of e1), q⟩
instance {K : PySem.W.Frag} {E : L2.St → XK} {te : TE} {t : TA} {Te : DE} {T : DA} [a : SE K E te Te] [b : SA K E t T] : SA K E (StX.tStar K te t) (dStar Te T) := ⟨fun w e h o =>
  a.run w e (wp_bind h) fun x H1 ρ1 dx μ1 w1 g1 q1 h1 => by
    obtain ⟨xs, e1, h2⟩ := wp_okO h1
    obtain ⟨ad, vs, rfl, sq, qs⟩ := seqOf_st w1 q1 e1
    exact ⟨ad, vs, rfl, sq, b.run w1 (e.mono g1) (wp_bind h2) fun ys H2 ρ2 ds μ2 w2 g2 q2 h3 => o _ H2 ρ2 _ μ2 w2 (g1.trans g2) ((qs.mono g2).app q2) h3⟩⟩
theorem pe_makeStar {X : Cx} {CX : CXT} {k : Nat} {f C : Addr} {sp : Sp} {E : XK} {x : Str} {e : Expr} {es : List Expr} {t : TA} {p pos : Pos} (M : Mk X.K C f) (F : FnR X.prog X.w X.K X.mg X.base CX k f sp) (hr : Room (k + 1) X.A) (hg : Gl X x) (hm : X.mg x = some (.ref C)) (hx : Passes CX X E) (ha : PA X (e :: es) t) (hdb : (x == ("__debug__" : Str)) = false := by decide)
    (he : starEach (e :: es) X.env = (false, eval e X.env) :: starEach es X.env := by rfl) (hst : (backTo pos (starEach es X.env)).any (·.1) = true := by rfl) : PE X (.Call (.Name x p) (e :: es) [] pos) (StX.tMakeR C sp E t) := by
  refine ⟨fun pins s σ H Q I h => ?_⟩
  refine wpAny_Call_Name_kw (ld_glob I hg hm ?_ hdb)
  refine PySem.W.callWith_S2 (h₀ := X.base) I.ok.mod.kin M.kp (thn (ha.run pos pins s σ H _ I h) fun us s1 ⟨vs, H1, I1, r, q⟩ => ⟨I1.kIn, ?_⟩) he hst
  exact StX.run_makeR M F hr hx I1 r q
end
end DX

namespace DX
open PySem PySem.Spec PyProof.Rows L2
noncomputable section
/-! ### a call that changes nothing and hands back no thing: what may change is handed over as it stands -/
def scalar : D → Bool
  | .non => true
  | .bl _ => true
  | .int _ => true
  | .str _ => true
  | _ => false
theorem scalar_dt {K : PySem.W.Frag} {F F' ρ ρ' : List Addr} {H H' : Hp} {v : V} {d : D} (h : scalar d = true) (q : Dt K F ρ H v d) : Dt K F' ρ' H' v d := by
  cases q with
  | non => exact .non
  | bl b => exact .bl b
  | int b => exact .int b
  | str b => exact .str b
  | _ => cases h
def tCallP (sp : Sp) (E : L2.St → XK) (t : TA) : TE := tCallX sp E t
theorem pe_callP {X : Cx} {sp : Sp} {E : L2.St → XK} {t : TA} {e : Expr} (h : PE X e (tCallX sp E t)) : PE X e (tCallP sp E t) := h
def pureR (r : Res D) (μ : Mu) : Res D := match r with
  | .ok d [] => grd (scalar d = true) (.ok d μ)
  | _ => .bad
def dCallP (f : FS) (T : DA) : DE := fun η μ => (T η μ).bind fun ds μ1 => okO (ds.mapM (frz 0 μ1 8)) fun es => pureR (f es []) μ1
instance {K : PySem.W.Frag} {E : L2.St → XK} {f : FS} {t : TA} {T : DA} [a : SA K E t T] : SE K E (tCallP (spD K f) E t) (dCallP f T) := ⟨fun {X F σ H η ρ μ P Q} w e h o =>
  a.run w e (wp_bind h) fun vs H1 ρ1 ds μ1 w1 g1 q1 h1 => by
    obtain ⟨es, em, h2⟩ := wp_okO h1
    have q2 : DtAll K F [] H1 vs es := mapM_ok (fun d d' v hd q => by
      have z := frz_ok (n := 0) w1 8 d d' v hd q
      rw [List.take_zero] at z
      exact z) ds es em q1
    have w0 : Wd K F [] [] H1 := ⟨w1.fs, rfl, List.Pairwise.nil, fun _ h => (nomatch h), fun i a m h => by simp at h⟩
    refine ⟨F, [], es, [], fun d μ' => μ' = [] ∧ scalar d = true ∧ P d μ1, fun _ _ => False, w0, q2, ?_, ?_, fun _ _ _ _ _ _ _ _ _ _ _ _ z => z.elim⟩
    · revert h2
      unfold pureR
      cases f es [] with
      | ok d ν =>
        cases ν with
        | nil => exact fun z => ⟨rfl, (wp_grd z).1, (wp_grd z).2⟩
        | cons m r => exact fun z => z.elim
      | exc e ν => exact fun z => z.elim
      | bad => exact fun z => z.elim
    · intro v H' ρ' d μ' w' g' q' hp
      obtain ⟨rfl, hs, hp⟩ := hp
      have keep : ∀ x u, H1 x = some u → H' x = some u := fun x u e => g'.keep x u (by simp) e
      have g2 : Grow ρ1 ρ1 H1 H' := ⟨fun x u _ e => keep x u e, ⟨[], by simp⟩, fun _ h n => absurd h n⟩
      have w2 : Wd K F ρ1 μ1 H' := w1.move (fun x hx => by
        obtain ⟨u, e⟩ := w1.fs x hx
        exact ⟨u, keep x u e⟩) w1.apart (fun a u _ e => keep a u e) g2.move
      exact (o.mono g1) v H' ρ1 d μ1 w2 g2 (scalar_dt hs q') hp⟩
end
end DX

namespace DX
open PySem PySem.Spec PyProof.Rows L2
noncomputable section
def boolR (r : Res D) : Res D := noX (r.bind fun d μ1 => match d with
  | .bl b => .ok (.bl b) μ1
  | _ => .bad)
theorem boolR_wp {r : Res D} {P : D → Mu → Prop} {X : Exn → Mu → Prop} (h : wp (boolR r) P X) : wp r (fun d μ1 => ∃ b, d = .bl b ∧ P d μ1) fun _ _ => False := by
  revert h
  unfold boolR noX
  cases r with
  | ok d μ1 => cases d <;> first | exact fun z => ⟨_, rfl, z⟩ | exact fun z => z.elim
  | exc e μ1 => exact id
  | bad => exact id
/-! ### x in y, y of an own class -/
def rInOwn (C : Addr) (sp : Sp) : R2 := fun x y H Q => ∃ b dy gs, y = .ref b ∧ H b = some (.ins C dy gs) ∧ sp [y, x] H (fun v H2 => (∃ z, v = .bl z) ∧ Q v H2) L2.E0
theorem op_inOwn {X : Cx} {k : Nat} {C f : Addr} {sp : Sp} {CX : CXT} (hm : Meth X.K C "__contains__" f) (F : FnR X.prog X.w X.K X.mg X.base CX k f sp) (hr : Room k X.A) (hx : Passes CX X L2.E0) : OpR X (compareOp .In) (rInOwn C sp) := by
  intro pins s σ H x y v u Q I rx ry hq
  obtain ⟨b, dy, gs, rfl, eb, q⟩ := hq
  cases ry
  obtain ⟨mB, J, _⟩ := ins_get I.hok eb
  obtain ⟨od, J, _⟩ := J.look
  obtain ⟨m, hF⟩ := I.fr
  refine PySem.W.in_K hF I.ok.mod.kin J hm.at_ hm.fn ?_
  refine wpAny_mono (run_below (vs := [.ref b, x]) F hr rfl hx I (.cons rfl (.cons rx .nil)) q) (fun v s' hv => ?_) fun _ _ z => z
  obtain ⟨y, H2, I2, ry, ⟨z, rfl⟩, q2⟩ := hv
  cases ry
  exact wpAny_truthy_bool ⟨.bl z, H2, I2, rfl, q2⟩
def inOwnD (c : Str) (f : FS) (x y : D) (μ : Mu) : Res D := okO (ofC c μ y) fun _ => boolR (f [y, x] μ)
instance {K : PySem.W.Frag} {c : Str} {f : FS} : SR2 K (rInOwn (He.ga K c) (spD K f)) (inOwnD c f) := ⟨fun {X F H ρ μ x y dx dy P Q} w hx hy h o => by
  obtain ⟨p, e1, h2⟩ := wp_okO h
  obtain ⟨bd, dy', vs', rfl, eb, l', qs'⟩ := asI_at w hy (ofC_at e1)
  refine ⟨bd, dy', _, rfl, eb, F, ρ, _, μ, fun d μ1 => ∃ b, d = .bl b ∧ P d μ1, fun _ _ => False, w, .cons hy (.one hx), boolR_wp h2, ?_, fun _ _ _ _ _ _ _ _ _ _ _ _ z => z.elim⟩
  intro v H' ρ' d μ' w' g' q' hp
  obtain ⟨b, rfl, hp⟩ := hp
  cases q'
  exact ⟨⟨b, rfl⟩, o _ _ _ _ _ w' g' (.bl b) hp⟩⟩
/-! ### x == y by an own __eq__ of x's class; y of this class, or a list -/
def rOwnE (C : Addr) (sp : Sp) : R2 := fun x y H Q => ∃ a dx fs b, x = .ref a ∧ y = .ref b ∧ H a = some (.ins C dx fs) ∧ ((∃ dy gs, H b = some (.ins C dy gs)) ∨ ∃ xs, H b = some (.lst xs)) ∧ sp [x, y] H (fun v H2 => (∃ z, v = .bl z) ∧ Q v H2) L2.E0
theorem op_eqOwnE {X : Cx} {k : Nat} {C f : Addr} {sp : Sp} {CX : CXT} (hn : PySem.W.notFirst X.K C (.type "list") = true) (hm : Meth X.K C "__eq__" f) (F : FnR X.prog X.w X.K X.mg X.base CX k f sp) (hr : Room k X.A) (hx : Passes CX X L2.E0) : OpR X (compareOp .Eq) (rOwnE C sp) := by
  intro pins s σ H x y v u Q I rx ry hq
  obtain ⟨a, dx, fs, b, rfl, rfl, ea, eb, q⟩ := hq
  cases rx
  cases ry
  obtain ⟨mA, J, _⟩ := ins_get I.hok ea
  obtain ⟨od, J, _⟩ := J.look
  obtain ⟨m, hF⟩ := I.fr
  have fin : wpAny (model X.prog X.w) X.A (call (.ref f) [.ref a, .ref b]) (PySem.W.CmpBack (EP X pins σ Q)) X.xe s := by
    refine wpAny_mono (run_below (vs := [.ref a, .ref b]) F hr rfl hx I (.cons rfl (.cons rfl .nil)) q) (fun v s' hv => ?_) fun _ _ z => z
    obtain ⟨y, H2, I2, ry, ⟨z, rfl⟩, q2⟩ := hv
    cases ry
    exact ⟨.bl z, H2, I2, rfl, q2⟩
  show wpAny (model X.prog X.w) X.A (richCompare .Eq (.ref a) (.ref b)) (EP X pins σ Q) X.xe s
  rcases eb with ⟨dy, gs, eb⟩ | ⟨xs, eb⟩
  · obtain ⟨mB, J', _⟩ := ins_get I.hok eb
    obtain ⟨od', J', _⟩ := J'.look
    exact PySem.W.cmp_K (op := .Eq) (tb := .ref C) hr.units0 hF I.ok.mod.kin J J'.type (by simp [PySem.W.notFirst]) hm.at_ hm.fn fin
  · obtain ⟨_, _, n, _, h1⟩ := (show ObjOk X.prog X.w H s.heap b (.lst xs) from I.hok b _ eb)
    have L : PySem.W.Looks (model X.prog X.w) s.heap (typeOf (.ref b)) (.type "list") := fun A Q E s k q => wpAny_typeOf_ref (k _ _ h1) q
    exact PySem.W.cmp_K (op := .Eq) (tb := .type "list") hr.units0 hF I.ok.mod.kin J L hn hm.at_ hm.fn fin
def ownED (c : Str) (f : FS) (x y : D) (μ : Mu) : Res D := okO (ofC c μ x) fun _ => grd ((∃ p, ofC c μ y = some p) ∨ ∃ xs, asL μ y = some xs) (boolR (f [x, y] μ))
instance {K : PySem.W.Frag} {c : Str} {f : FS} : SR2 K (rOwnE (He.ga K c) (spD K f)) (ownED c f) := ⟨fun {X F H ρ μ x y dx dy P Q} w hx hy h o => by
  obtain ⟨p, e1, h2⟩ := wp_okO h
  obtain ⟨hor, h3⟩ := wp_grd h2
  obtain ⟨ad, dx', vs, rfl, ea, l, qs⟩ := asI_at w hx (ofC_at e1)
  have fin : spD K f [.ref ad, y] H (fun v H2 => (∃ z, v = .bl z) ∧ Q v H2) L2.E0 := by
    refine ⟨F, ρ, _, μ, fun d μ1 => ∃ b, d = .bl b ∧ P d μ1, fun _ _ => False, w, .cons hx (.one hy), boolR_wp h3, ?_, fun _ _ _ _ _ _ _ _ _ _ _ _ z => z.elim⟩
    intro v H' ρ' d μ' w' g' q' hp
    obtain ⟨b, rfl, hp⟩ := hp
    cases q'
    exact ⟨⟨b, rfl⟩, o _ _ _ _ _ w' g' (.bl b) hp⟩
  rcases hor with ⟨p', e2⟩ | ⟨xs, e2⟩
  · obtain ⟨bd, dy', vs', rfl, eb, l', qs'⟩ := asI_at w hy (ofC_at e2)
    exact ⟨ad, dx', _, bd, rfl, rfl, ea, .inl ⟨_, _, eb⟩, fin⟩
  · obtain ⟨bd, vs', rfl, eb, qs'⟩ := asL_at w hy e2
    exact ⟨ad, dx', _, bd, rfl, rfl, ea, .inr ⟨_, eb⟩, fin⟩⟩
def fNotL (x : Str) : FB := fun K => PySem.W.notFirst K (He.ga K x) (.type "list")
theorem notL_ok {K : PySem.W.Frag} {x : Str} (h : fNotL x K = true) : PySem.W.notFirst K (He.ga K x) (.type "list") = true := h
/-! ### x != y by an own __eq__ -/
structure NeT (K : PySem.W.Frag) (C f : Addr) : Prop where
  cls : ∃ nm q N bs hdct sn sub ab col dd k0 k1 k2 k3 k5 newId, K.lookup C = some (excClassObj nm q C N bs [.type "object"] hdct sn sub ab col dd k0 k1 k2 k3 k5 newId) ∧ PySem.W.nsOkIn K N = true ∧ PySem.W.nsIn K N "__eq__" = some (some (.ref f)) ∧ PySem.W.nsIn K N "__ne__" = some none
  fn : PySem.W.typeIn K (.ref f) = some (.type "function")
def neB (K : PySem.W.Frag) (C f : Addr) : Bool := match K.lookup C with
  | some ⟨.type t, _, .cls cd, sl⟩ => decide (t = "type") && (match cd.mro, sl.toList with
    | .ref C' :: bm, [_, _, _, _, some (.builtin _), _] => decide (C' = C) && (decide (bm = [.type "object"]) && (!cd.hasDel && (PySem.W.nsOkIn K cd.ns && (He.eqO (PySem.W.nsIn K cd.ns "__eq__") (some (some (.ref f))) && He.eqO (PySem.W.nsIn K cd.ns "__ne__") (some none)))))
    | _, _ => false)
  | _ => false
def fNe (x : Str) : FB := fun K => neB K (He.ga K x) (He.ma K (He.ga K x) "__eq__") && decide (PySem.W.typeIn K (.ref (He.ma K (He.ga K x) "__eq__")) = some (.type "function"))
theorem ne_ok {K : PySem.W.Frag} {x : Str} (h : fNe x K = true) : NeT K (He.ga K x) (He.ma K (He.ga K x) "__eq__") := by
  obtain ⟨hA, hB⟩ := He.ba h
  refine ⟨?_, of_decide_eq_true hB⟩
  unfold neB at hA
  split at hA
  · rename_i t dd cd sl ho
    obtain ⟨h0, hC⟩ := He.ba hA
    split at hC
    · rename_i C' bm k0 k1 k2 k3 n k5 e1 e2
      obtain ⟨h1, hC⟩ := He.ba hC
      obtain ⟨h2, hC⟩ := He.ba hC
      obtain ⟨h3, hC⟩ := He.ba hC
      obtain ⟨h4, hC⟩ := He.ba hC
      obtain ⟨h5, h6⟩ := He.ba hC
      obtain ⟨c1, c2, c3, c4, c5, c6, c7, c8, c9, c10, c11⟩ := cd
      have e1 : c3 = .ref C' :: bm := e1
      have h3 : c11 = false := by simpa using h3
      have hsl : sl = #[k0, k1, k2, k3, some (.builtin n), k5] := by
        rw [← Array.toArray_toList (xs := sl), e2]
      rw [of_decide_eq_true h0, e1, of_decide_eq_true h1, of_decide_eq_true h2, h3, hsl] at ho
      exact ⟨c1, c5, c4, c2, c6, c7, c8, c9, c10, dd, k0, k1, k2, k3, k5, n, ho, h4, He.eqO_ok h5, He.eqO_ok h6⟩
    · cases hC
  · cases hA
theorem ns_of' {K : PySem.W.Frag} {h : Heap} {N : Addr} {mg : Str → Option Value} {n : Str} {v : Value} (X : K.In h) (G : h.Ns N mg) (e : PySem.W.nsIn K N n = some (some v)) : mg n = some v := by
  obtain ⟨o, es, ep, ho, hd, _, hf⟩ := G
  unfold PySem.W.nsIn at e
  split at e
  · rename_i c d es' n' sl q
    have z := X _ _ q
    rw [ho] at z
    cases z
    cases hd
    split at e
    · rename_i en he
      cases e
      rw [← hf]
      unfold nsFind findBy
      rw [← Array.find?_toList, he]
      rfl
    · split at e <;> cases e
  · cases e
theorem op_neOwn {X : Cx} {k : Nat} {C f : Addr} {sp : Sp} {CX : CXT} (T : NeT X.K C f) (F : FnR X.prog X.w X.K X.mg X.base CX k f sp) (hr : Room (k + 1) X.A) (hx : Passes CX X L2.E0) : OpR X (compareOp .NotEq) (fun x y H Q => rOwn C sp x y H fun v H2 => ∃ z, v = .bl z ∧ Q (.bl (!z)) H2) := by
  intro pins s σ H x y v u Q I rx ry hq
  obtain ⟨a, dx, fs, b, dy, gs, rfl, rfl, ea, eb, q⟩ := hq
  cases rx
  cases ry
  obtain ⟨mA, J, _⟩ := ins_get I.hok ea
  obtain ⟨mB, J', _⟩ := ins_get I.hok eb
  obtain ⟨od, J, _⟩ := J.look
  obtain ⟨od', J', _⟩ := J'.look
  obtain ⟨nm, qn, N, bs, hdct, sn, sub, ab, col, dd, k0, k1, k2, k3, k5, newId, hC, n1, n2, n3⟩ := T.cls
  obtain ⟨of, hf, hfc⟩ : ∃ of : Obj, s.heap.get? f = some of ∧ of.cls = .type "function" := by
    have e : (X.K.lookup f).map (fun x => x.cls) = some (.type "function") := T.fn
    cases c : X.K.lookup f with
    | none => rw [c] at e; cases e
    | some o =>
      rw [c] at e
      exact ⟨o, I.kIn _ _ c, Option.some.inj e⟩
  have KX := I.kIn
  have hns : s.heap.Ns N (s.heap.nsMap N) := .of_isNs (PySem.W.isNs_of_in KX n1)
  have OW : s.heap.OwnEqNoNe a C f "object" [.type "object"] := ⟨_, of, nm, qn, N, bs, hdct, sn, sub, ab, col, dd, k0, k1, k2, k3, k5, newId, _, _, J.1, J.2, KX _ _ hC, hns, ns_of' KX hns n2, hf, hfc, PySem.F.cmp_object.mro, PySem.F.cmp_object.eq.lookup, PySem.W.ns_none_of KX hns n3⟩
  have hu : X.A.units + 1 < cLine := by have := hr.un; omega
  obtain ⟨hp, g, d, t, os⟩ := s
  refine compareOp_ne_ownEq PySem.F.cmp_object OW J'.1 J'.2 hu ?_
  refine wpAny_mono (run_below (vs := [.ref a, .ref b]) F hr.in1 rfl hx I (.cons rfl (.cons rfl .nil)) q) (fun v s' hv => ?_) fun _ _ z => z
  obtain ⟨y, H2, I2, ry, _, z, rfl, q2⟩ := hv
  cases ry
  exact ⟨z, rfl, .bl (!z), H2, I2, rfl, q2⟩
end
end DX

namespace DX
open PySem PySem.Spec PyProof.Rows L2
noncomputable section
def rNeOwn (C : Addr) (sp : Sp) : R2 := fun x y H Q => rOwn C sp x y H fun v H2 => ∃ z, v = .bl z ∧ Q (.bl (!z)) H2
theorem op_neOwn' {X : Cx} {k : Nat} {C f : Addr} {sp : Sp} {CX : CXT} (T : NeT X.K C f) (F : FnR X.prog X.w X.K X.mg X.base CX k f sp) (hr : Room (k + 1) X.A) (hx : Passes CX X L2.E0) : OpR X (compareOp .NotEq) (rNeOwn C sp) := op_neOwn T F hr hx
def neOwnD (c : Str) (f : FS) (x y : D) (μ : Mu) : Res D := okO (ofC c μ x) fun _ => okO (ofC c μ y) fun _ => (boolR (f [x, y] μ)).bind fun d μ1 => onB d fun b => .ok (.bl (!b)) μ1
instance {K : PySem.W.Frag} {c : Str} {f : FS} : SR2 K (rNeOwn (He.ga K c) (spD K f)) (neOwnD c f) := ⟨fun {X F H ρ μ x y dx dy P Q} w hx hy h o => by
  obtain ⟨p, e1, h2⟩ := wp_okO h
  obtain ⟨p', e2, h3⟩ := wp_okO h2
  obtain ⟨ad, dx', vs, rfl, ea, l, qs⟩ := asI_at w hx (ofC_at e1)
  obtain ⟨bd, dy', vs', rfl, eb, l', qs'⟩ := asI_at w hy (ofC_at e2)
  refine ⟨ad, dx', _, bd, dy', _, rfl, rfl, ea, eb, F, ρ, _, μ, fun d μ1 => ∃ b, d = .bl b ∧ P (.bl (!b)) μ1, fun _ _ => False, w, .cons hx (.one hy), ?_, ?_, fun _ _ _ _ _ _ _ _ _ _ _ _ z => z.elim⟩
  · refine wp_mono (boolR_wp (wp_bind h3)) (fun d μ1 hd => ?_) fun _ _ z => z
    obtain ⟨b, rfl, z⟩ := hd
    exact ⟨b, rfl, z⟩
  · intro v H' ρ' d μ' w' g' q' hp
    obtain ⟨b, rfl, hp⟩ := hp
    cases q'
    exact ⟨⟨b, rfl⟩, b, rfl, o _ _ _ _ _ w' g' (.bl _) hp⟩⟩
/-! ### repr(x) by an own __repr__ -/
def tStrOf (t : TE) : TE := fun σ H Q => t σ H fun v H2 => ∃ z : Str, v = .str z ∧ Q v H2
def dStrOf (T : DE) : DE := fun η μ => (T η μ).bind fun d μ1 => match d with
  | .str z => .ok (.str z) μ1
  | _ => .bad
instance {K : PySem.W.Frag} {E : L2.St → XK} {t : TE} {T : DE} [a : SE K E t T] : SE K E (tStrOf t) (dStrOf T) := ⟨fun w e h o =>
  a.run w e (wp_bind h) fun x H1 ρ1 dx μ1 w1 g1 q1 h1 => by
    split at h1
    · cases q1
      exact ⟨_, rfl, (o.mono g1).here w1 (.str _) h1⟩
    · exact h1.elim⟩
theorem pe_reprOwn {X : Cx} {k : Nat} {C f : Addr} {sp : Sp} {E : XK} {CX : CXT} {o : Expr} {ta : TE} {p pos : Pos} (c : Cls X.K C) (hm : Meth X.K C "__repr__" f) (F : FnR X.prog X.w X.K X.mg X.base CX k f sp) (hr : Room (k + 1) X.A) (hx : Passes CX X E) (hg : Gl X "repr") (hmg : X.mg "repr" = none) (he : PE X o ta)
    (hs : starEach [o] X.env = (false, eval o X.env) :: starEach [] X.env := by rfl) (hpl : (backTo pos (starEach [] X.env)).any (·.1) = false := by rfl) :
    PE X (.Call (.Name "repr" p) [o] [] pos) (tStrOf (tMethR C "__repr__" sp E ta tNil)) := by
  refine ⟨fun pins s σ H Q I h => ?_⟩
  refine wpAny_Call_Name_kw (ld_blt I hg hmg (show bootBuiltins "repr" = some (.builtin "repr") by decide +kernel) ?_)
  refine PyProof.Rows.callWith_builtin1 (thn ((pa_cons he pa_nil hs).run pos pins s σ H (fun vs H1 => match vs with
    | [x] => ∃ a dx fs, x = .ref a ∧ H1 a = some (.ins C dx fs) ∧ fs.lookup ("__repr__" : Str) = none ∧ sp [x] H1 (fun v H2 => ∃ z : Str, v = .str z ∧ Q v H2) E
    | _ => False) I h) fun us s1 ⟨vs, H1, I1, r1, q1⟩ => ?_) hs hpl
  match vs, r1, q1 with
  | [x], r1, q1 =>
    obtain ⟨a, dx, fs, rfl, ea, _, q⟩ := q1
    obtain ⟨u, rfl, ru⟩ := vals1 r1
    cases ru
    obtain ⟨mA, J, _⟩ := ins_get I1.hok ea
    obtain ⟨od, J, _⟩ := J.look
    obtain ⟨m, hF⟩ := I1.fr
    refine PySem.W.repr_K (by have := hr.in1.un; omega) hF I1.ok.mod.kin J hm.at_ hm.fn (wpAny_mono (run_below (vs := [.ref a]) F hr.in1 rfl hx I1 (.cons rfl .nil) q) (fun v s' hv => ?_) fun _ _ z => z)
    obtain ⟨y, H2, I2, ry, n, rfl, q2⟩ := hv
    obtain ⟨t, rfl⟩ := ry
    exact ⟨.str n, H2, I2, ⟨t, rfl⟩, q2⟩
/-! ### xs.clear() -/
theorem pe_clearK {X : Cx} (K : PySem.W.Frag) (hK : X.K = K) {o : Expr} {apos cpos : Pos} {to : TE} (ho : PE X o to)
    (hbase : attributeBase o "clear" X.env (eval o X.env) = eval o X.env := by rfl) (hline : (apos.endLine == cpos.line) = true := by rfl) : PE X (.Call (.Attribute o "clear" apos) [] [] cpos) (tBM0 K "list" rClear to) := by
  subst hK
  exact pe_bm0 PySem.F.plainAttrs_list PySem.F.slot_list_clear PySem.F.type_list_clear mt_clear ho hbase hline
def dClear (To : DE) : DE := fun η μ => (To η μ).bind fun x μ1 => match x with
  | .cell a => match μ1[a]? with
    | some (.lst _) => .ok .non (μ1.set a (.lst []))
    | _ => .bad
  | _ => .bad
instance {K : PySem.W.Frag} {E : L2.St → XK} {to : TE} {To : DE} [a : SE K E to To] : SE K E (tBM0 K "list" rClear to) (dClear To) := ⟨fun {X F σ H η ρ μ P Q} w e h o =>
  a.run w e (wp_bind h) fun x H1 ρ1 dx μ1 w1 g1 q1 h1 => by
    split at h1
    · rename_i i
      cases q1 with
      | @cell _ ad hi =>
        split at h1
        · rename_i ys c
          obtain ⟨vs0, e0, q0⟩ := w1.ok _ _ _ hi c
          have gp := Grow.put (ρ := ρ1) (H := H1) (a := ad) (o := .lst []) (List.mem_of_getElem? hi)
          exact ⟨.inl ⟨rfl, _, SqL.of e0⟩, ad, vs0, rfl, rfl, e0, (o.mono (g1.trans gp)).here (w1.put (m := .lst []) hi ⟨_, upd_same, .nil⟩) .non h1⟩
        · exact h1.elim
    · exact h1.elim⟩
end
end DX

/-! a lambda with one parameter that has a whole number as its default and is not used: x(lambda y=0: e) -/
namespace DX
open PySem PySem.Spec PyProof.Rows L2 ErX LamX
noncomputable section
abbrev ldObj (q : Str) (params : Arguments) (body : Expr) (scope : Scope) (cl : List (Str × Addr)) (t : Addr) (doc pm : Value) (c' : Addr) (ctv : Value) : Obj := PySem.W.kdv_obj "<lambda>" q params (.expr body) scope cl (.ref t) doc pm c' ctv
structure LamD (sc scope : Scope) (N : List Str) (x : Str) : Prop where
  kind : scope.kind = .function
  co : scope.isCoroutine = false
  gen : scope.isGenerator = false
  own : ∀ y ∈ scope.names, (y.2 = .local → y.1 = x) ∧ y.2 ≠ .cell
  free : ∀ y ∈ scope.names, y.2 = .free → sc.names.lookup y.1 = some .cell ∨ sc.names.lookup y.1 = some .free
  lx : scope.names.lookup x = some .local
  nx : x ∉ N
def lamDB (sc scope : Scope) (N : List Str) (x : Str) : Bool :=
  decide (scope.kind = .function) && !scope.isCoroutine && !scope.isGenerator && (scope.names.all fun y => (!decide (y.2 = .local) || decide (y.1 = x)) && !decide (y.2 = .cell) && (!decide (y.2 = .free) || decide (sc.names.lookup y.1 = some .cell) || decide (sc.names.lookup y.1 = some .free))) && decide (scope.names.lookup x = some .local) && decide (x ∉ N)
theorem lamD_by {sc scope : Scope} {N : List Str} {x : Str} (h : lamDB sc scope N x = true) : LamD sc scope N x := by
  unfold lamDB at h
  simp only [Bool.and_eq_true, Bool.or_eq_true, Bool.not_eq_true', decide_eq_true_eq, decide_eq_false_iff_not, List.all_eq_true] at h
  obtain ⟨⟨⟨⟨⟨h1, h2⟩, h3⟩, h4⟩, h5⟩, h6⟩ := h
  refine ⟨h1, h2, h3, fun y hy => ⟨fun e => ?_, (h4 y hy).1.2⟩, fun y hy e => ?_, h5, h6⟩
  · rcases (h4 y hy).1.1 with z | z
    · exact absurd e z
    · exact z
  · rcases (h4 y hy).2 with (z | z) | z
    · exact absurd e z
    · exact .inl z
    · exact .inr z
theorem LamD.has {X : Cx} {scope : Scope} {N : List Str} {x : Str} (L : LamD X.env.scope scope N x) (ok : X.Ok) : ∀ y ∈ scope.names, y.2 = .free → ∃ c, X.env.cells.lookup y.1 = some c := fun y hy e => by
  rcases L.free y hy e with k | k
  · exact ok.has _ (.inl k)
  · exact ok.has _ (.inr k)
section
variable {X : Cx} {pins : List (Addr × Obj)} {σ : L2.St} {H : Hp} {s : Shared}
theorem lam_tailD {c P t : Addr} {u : Value} {params : Arguments} {body : Expr} {scope : Scope} {pos : Pos} {line : Nat} {E : Value → Shared → Prop} {Q : Value → Shared → Prop} (I2 : Inv X pins σ H s) (TB : TabB X.base X.mg c P) (hcode : X.env.code = .ref c) (hT : TabS H P (X.env.qual ++ "<lambda>")) (hfree : ∀ y ∈ scope.names, y.2 = .free → ∃ c, X.env.cells.lookup y.1 = some c)
    (t1 : s.heap.get? t = some (PySem.W.kdv_tup [u])) (t2 : H t = none) (t3 : t ∉ frs X.stack)
    (h : ∀ (f c' : Addr) (doc pm ctv : Value) (H1 : Hp) (s' : Shared), Inv X pins σ H1 s' → LamStep P (X.env.qual ++ "<lambda>") H H1 → s'.heap.get? f = some (ldObj (X.env.qual ++ "<lambda>") params body scope (cloFrom X.env.cells scope.names []) t doc pm c' ctv) →
      H1 f = none → f ∉ frs X.stack → s'.heap.get? t = some (PySem.W.kdv_tup [u]) → H1 t = none → t ∉ frs X.stack → H1 c' = some (CodeO c' (X.env.qual ++ "<lambda>")) → Q (.ref f) s') : wpAny (model X.prog X.w) X.A (makeTail "<lambda>" (X.env.qual ++ "<lambda>") params (.expr body) scope X.env (.ref t) .none none pos line) Q E s := by
  obtain ⟨ps, hP, ht, ha⟩ := hT
  have nofr2 : ∀ f, s.heap.objs.size ≤ f → f ∉ frs X.stack := fun f hf z => by
    rcases List.mem_cons.mp (I2.stkSub _ z) with e | e
    · exact absurd (Nat.lt_of_lt_of_le I2.lt hf) (by rw [e]; exact Nat.lt_irrefl _)
    · exact I2.nofs hf e
  have hP' : s.heap.get? P = some { cls := .none, data := .fields ps } := I2.hok P _ hP
  cases hc : codeAmong pos ps.toList with
  | some cv =>
    obtain ⟨c', rfl, hco⟩ := ha pos cv hc
    refine PySem.W.kdv_makeTailHit (mg := X.mg) (c := c) (P := P) (ps := ps) (closure_ok hfree) I2.ok.glob (I2.mod.glob.keeps I2.bk) hcode (TB.code.keeps I2.bk) hP' ht hc (TB.bm.keeps I2.bk) fun ctv doc h' tk hx hsz => ?_
    exact h h'.objs.size c' doc ((X.mg "__name__").getD .none) ctv H _ (I2.kept fun b o e => Heap.get?_push_of_some _ (hx b o e)) (.inl rfl) (Heap.get?_push_size _ rfl) (I2.hok.fresh hsz) (nofr2 _ hsz) (Heap.get?_push_of_some _ (hx _ _ t1)) t2 t3 hco
  | none =>
    refine PySem.W.kdv_makeTail (mg := X.mg) (c := c) (P := P) (ps := ps) (closure_ok hfree) I2.ok.glob (I2.mod.glob.keeps I2.bk) hcode (TB.code.keeps I2.bk) hP' ht hc TB.gP (TB.bm.keeps I2.bk) fun c' ctv doc h' tk hx hge hlt hrec htb => ?_
    obtain ⟨c2, oc, vs, t', e2, hoc, hd, hv⟩ := hrec
    cases e2
    have hsz : s.heap.objs.size ≤ h'.objs.size := Nat.le_trans hge (Nat.le_of_lt hlt)
    have nC : H c' = none := I2.hok.fresh hge
    have ntP : t ≠ P := fun z => by rw [z, hP] at t2; cases t2
    have eL : (ps ++ #[rawInt pos.line, rawInt pos.col, .ref c']).toList = ps.toList ++ [rawInt pos.line, rawInt pos.col, .ref c'] := by simp
    have I1 := inv_table (t' := tk) (more := #[rawInt pos.line, rawInt pos.col, .ref c']) (h' := h'.push (ldObj (X.env.qual ++ "<lambda>") params body scope (cloFrom X.env.cells scope.names []) t doc ((X.mg "__name__").getD .none) c' ctv)) I2 hP
      (fun b o hb e => Heap.get?_push_of_some _ (hx b o hb e)) (Heap.get?_push_of_some _ htb) hge ⟨oc, vs, t', Heap.get?_push_of_some _ hoc, hd, hv⟩
    refine h h'.objs.size c' doc ((X.mg "__name__").getD .none) ctv _ _ I1 (.inr ⟨c', ps, _, hP, nC, rfl, by rw [eL]; exact PySem.TriplesOk_snoc _ _ _ _ ht, fun p' cv hcv => ?_⟩) (Heap.get?_push_size _ rfl) ?_ (nofr2 _ hsz) (Heap.get?_push_of_some _ (hx _ _ ntP t1)) ?_ t3 upd_same
    · rw [eL] at hcv
      exact among_app _ ht hcv
    · have n2 : h'.objs.size ≠ P := Nat.ne_of_gt (Nat.lt_of_lt_of_le (Heap.lt_size hP') hsz)
      rw [upd_ne (Nat.ne_of_gt hlt), upd_ne n2]
      exact I2.hok.fresh hsz
    · rw [upd_ne (Nat.ne_of_lt (Nat.lt_of_lt_of_le (Heap.lt_size t1) hge)), upd_ne ntP]
      exact t2
theorem lam_makeD {c P : Addr} {params : Arguments} {body : Expr} {scope : Scope} {pos : Pos} {E : Value → Shared → Prop} {Q : Value → Shared → Prop} {i : Int} {j : Nat} {dp : Pos} (I : Inv X pins σ H s) (TB : TabB X.base X.mg c P) (hcode : X.env.code = .ref c) (hT : TabS H P (X.env.qual ++ "<lambda>"))
    (hdf : params.defaults = [.Constant (.int i) j dp]) (hk0 : params.kw_defaults = []) (hfree : ∀ y ∈ scope.names, y.2 = .free → ∃ c, X.env.cells.lookup y.1 = some c)
    (h : ∀ (t : Addr) (u : Value) (f c' : Addr) (doc pm ctv : Value) (H1 : Hp) (s' : Shared), Inv X pins σ H1 s' → LamStep P (X.env.qual ++ "<lambda>") H H1 → s'.heap.get? f = some (ldObj (X.env.qual ++ "<lambda>") params body scope (cloFrom X.env.cells scope.names []) t doc pm c' ctv) →
      H1 f = none → f ∉ frs X.stack → s'.heap.get? t = some (PySem.W.kdv_tup [u]) → H1 t = none → t ∉ frs X.stack → H1 c' = some (CodeO c' (X.env.qual ++ "<lambda>")) → Q (.ref f) s') : wpAny (model X.prog X.w) X.A (eval (.Lambda params body scope pos) X.env) Q E s := by
  refine PySem.W.kdv_lam (by rw [hdf]; rfl) hk0 ?_
  rw [hdf]
  refine PySem.W.kdv_all1 (wpAny_Constant_int (PySem.W.kdv_all0 ?_))
  rw [makeFunction_eq]
  simp only [List.zip_nil_right, List.filterMap_nil, List.isEmpty_nil, if_true, pure_bind, List.isEmpty_cons, Bool.false_eq_true, if_false]
  refine wpAny_bind (wpAny_newTextTuple ?_)
  have I0 := I.tok (s.toks + 1)
  refine lam_tailD (I0.kept fun b o e => Heap.get?_push_of_some _ e) TB hcode hT hfree (Heap.get?_push_size _ rfl) (I.hok.fresh (Nat.le_refl _)) ?_ fun f c' doc pm ctv H1 s' => h _ _ f c' doc pm ctv H1 s'
  intro z
  rcases List.mem_cons.mp (I.stkSub _ z) with e | e
  · exact absurd I.lt (by rw [← e]; exact Nat.lt_irrefl _)
  · exact I.nofs (Nat.le_refl _) e
end
end
end DX

/-! the call of such a lambda -/
namespace DX
open PySem PySem.Spec PyProof.Rows L2 ErX LamX
noncomputable section
section
variable {X : Cx} {pins : List (Addr × Obj)} {σ : L2.St} {H HZ : Hp} {s s1 : Shared}
theorem lam_startD {A : Around} {outer : List PySem.Env} {E : XK} {scope : Scope} {x : Str} {m : Str → Option Value} {f c' : Addr} {h₁ : Heap} {tk : Nat} (I : Inv X pins σ H s) (L : LamD X.env.scope scope X.N x) (e0 : Env0 X.prog X.w X.K X.mg X.base A outer s1 HZ) (hd : A.handled = none)
    (un : Un (frs X.stack) [] H HZ s.heap s1.heap) (hns : h₁.Ns s1.heap.objs.size m) (kp : ∀ b o, s1.heap.get? b = some o → h₁.get? b = some o) :
    Inv (lamCx X A outer s1 HZ E scope f c') [] σ HZ { s1 with heap := h₁, toks := tk } := by
  have hfree := L.has I.ok
  have cm : ∀ {y c}, (cloFrom X.env.cells scope.names []).lookup y = some c → X.env.cells.lookup y = some c := fun {y c} e => by
    rcases cloFrom_mem (PySem.mem_of_lookup e) with hm | ⟨h1, h2⟩
    · cases hm
    · obtain ⟨c1, hc⟩ := hfree _ h1 rfl
      have hc : X.env.cells.lookup y = some c1 := hc
      have e2 : c = c1 := by
        rw [h2, hc] <;> rfl
      rw [e2]
      exact hc
  have look : ∀ {y}, scope.names.lookup y = some .free → ∃ c, (cloFrom X.env.cells scope.names []).lookup y = some c := fun {y} hl => by
    have hy : (y, NameKind.free) ∈ scope.names := PySem.mem_of_lookup hl
    exact mem_lookup (cloFrom_has (cells := X.env.cells) (acc := []) hy)
  have cellK : ∀ {c : Addr} {v : Option Value}, H c = none → s.heap.IsCell c v → h₁.IsCell c v := fun {c v} n ⟨o, ho, hd⟩ => by
    obtain ⟨sl, q⟩ := un.any ho n (by simp)
    exact ⟨_, kp _ _ q, hd⟩
  have noA : ∀ b : Addr, b ∉ (lamCx X A outer s1 HZ E scope f c').ex := fun b z => absurd (show b ∈ ([] : List Addr) from z) (by simp)
  refine ⟨⟨e0.mod, L.kind, rfl, rfl, Nat.le_refl _, fun y z c e1 e2 => I.ok.inj y z c (cm e1) (cm e2), fun y hy => ?_, fun y c z _ => ?_, fun _ => hd, Around.frames_deeper e0.frames, .inr ⟨rfl, rfl⟩, fun b z => absurd z (noA b), e0.bs, e0.bsz, fun b _ _ => noA b,
      fun b z => absurd z (noA b), e0.funs, e0.frf⟩,
    rfl, e0.bare, Un.kept kp, ⟨_, hns, fun i y v e1 e2 e3 => ?_⟩, fun y c e => ?_, e0.hok.fresh (Nat.le_refl _), fun y c e => ?_, fun q hq => absurd (show q ∈ ([] : List (Addr × Obj)) ++ [] from hq) (by simp), e0.hok.kept kp, I.len⟩
  · have hy : scope.names.lookup y = some .cell ∨ scope.names.lookup y = some .free := hy
    rcases hy with hy | hy
    · exact absurd rfl (L.own _ (PySem.mem_of_lookup hy)).2
    · exact look hy
  · have z : false = true := z
    cases z
  · have e3 : Vis scope y := e3
    rcases e3 with k | k | k
    · have e := (L.own _ (PySem.mem_of_lookup k)).1 rfl
      have e1 : X.N[i]? = some y := e1
      exact absurd (by have e : y = x := e; rw [← e]; exact List.mem_of_getElem? e1) L.nx
    · exact absurd rfl (L.own _ (PySem.mem_of_lookup k)).2
    · obtain ⟨m, hn, hl⟩ := I.loc
      have hvis : Vis X.env.scope y := (L.free _ (PySem.mem_of_lookup k) rfl).elim (fun k => .inr (.inl k)) (fun k => .inr (.inr k))
      obtain ⟨w', r, q⟩ := hl i y v e1 e2 hvis
      obtain ⟨c2, h2⟩ := look k
      refine ⟨w', r, .inr ⟨.inr k, c2, h2, ?_⟩⟩
      have c1 := cm h2
      rcases q with ⟨k', _⟩ | ⟨_, c3, e', z⟩
      · have k' : X.env.scope.names.lookup y = some .local := k'
        rcases L.free _ (PySem.mem_of_lookup k) rfl with k2 | k2 <;> rw [show X.env.scope.names.lookup y = _ from k2] at k' <;> cases k'
      · rw [c1] at e'
        cases e'
        exact cellK (I.freeC y _ c1) z
  · obtain ⟨w', z⟩ := I.cell y c (cm e)
    exact ⟨w', cellK (I.freeC y c (cm e)) z⟩
  · obtain ⟨v, o, ho, hd⟩ := I.cell y c (cm e)
    exact un.free c o ho (I.freeC y c (cm e)) (by simp)
/-- a(), in the def that got the lambda -/
theorem pe_actD {CXg : CXT} {Eg : XK} {Ng : List Str} {qg : Str} {sg : Scope} {g f c' t : Addr} {u doc cdg pm ctv : Value} {params : Arguments} {body : Expr} {scope : Scope} {x : Str} {k i : Nat} {a : Str} {pn : List (Addr × Obj)} {xe : Value → Shared → Prop} {W : WX} {E : XK} {tb : TE} {p1 p2 : Pos}
    (I : Inv X pins σ H s) (L : LamD X.env.scope scope X.N x) (hf : s.heap.get? f = some (ldObj (X.env.qual ++ "<lambda>") params body scope (cloFrom X.env.cells scope.names []) t doc pm c' ctv)) (hfn : H f = none) (hfr : f ∉ frs X.stack) (ht : s.heap.get? t = some (PySem.W.kdv_tup [u])) (htn : H t = none) (htr : t ∉ frs X.stack)
    (hbind : ∀ s : Shared, s.heap.get? t = some (PySem.W.kdv_tup [u]) → BindsTo s (PySem.W.kdv_fn "<lambda>" (X.env.qual ++ "<lambda>") params (.expr body) scope (cloFrom X.env.cells scope.names []) (.ref t) doc pm (.ref c') ctv) ⟨[], []⟩ [(x, u)])
    (tk : Takes ((cxOf CXg X.prog X.w X.K X.mg X.base Ng qg sg g cdg X.A X.stack s H Eg).tr pn xe) W) (hW : ∀ cls d σ' H', E cls d H' → W cls d σ' H') (hr : Room (k + 1) (X.A.deeper (envOfC qg sg s.heap.objs.size g cdg)))
    (hbody : ∀ (A : Around) (outer : List PySem.Env) (s : Shared) (H : Hp), Room k (A.deeper (lamEnv X scope s.heap.objs.size f c')) → PE (lamCx X A outer s H E scope f c') body tb)
    (hN : Ng[i]? = some a) (hv : Vis sg a) (hd : (a == ("__debug__" : Str)) = false := by decide) (hcd : (a == ("__classdict__" : Str)) = false := by decide) :
    PE ((cxOf CXg X.prog X.w X.K X.mg X.base Ng qg sg g cdg X.A X.stack s H Eg).tr pn xe) (.Call (.Name a p1) [] [] p2)
      (fun σZ HZ Q => σZ[i]? = some (some (.ref f)) ∧ HZ c' = some (CodeO c' (X.env.qual ++ "<lambda>")) ∧ tb σ HZ Q) := by
  refine ⟨fun pinsZ sZ σZ HZ Q IZ h => ?_⟩
  obtain ⟨hs, hc, ht'⟩ := h
  refine wpAny_Call_Name_kw (thn ((pe_var (pos := p1) (i := i) hN hv hd hcd).run pinsZ sZ σZ HZ (fun v H1 => v = .ref f ∧ H1 = HZ) IZ ⟨.ref f, hs, rfl, rfl⟩) fun u1 s1 ⟨v, H1, I1, r1, q1⟩ => ?_)
  obtain ⟨ev, eH⟩ := q1
  subst ev
  rw [eH] at I1
  obtain rfl : u1 = Value.ref f := r1
  have of1 : s1.heap.get? f = some (ldObj (X.env.qual ++ "<lambda>") params body scope (cloFrom X.env.cells scope.names []) t doc pm c' ctv) := I1.base.keep f _ hf hfn hfr (fun z => nomatch (show f ∈ ([] : List Addr) from z))
  have ot1 : s1.heap.get? t = some (PySem.W.kdv_tup [u]) := I1.base.keep t _ ht htn htr (fun z => nomatch (show t ∈ ([] : List Addr) from z))
  refine PySem.W.callWith_F0 ⟨_, _, _, _, of1⟩ ?_
  have un : Un (frs X.stack) [] H HZ s.heap s1.heap := I1.base
  obtain ⟨⟨oc, vs, t0, hoc, hdc, hvc⟩, _, _⟩ := I1.hok c' _ hc
  have rc : codeAny (model X.prog X.w) (X.A.deeper (envOfC qg sg s.heap.objs.size g cdg)) (.call (.ref f) ⟨[], []⟩) (CR (L2.CX X.prog X.w) (envOfC qg sg s.heap.objs.size g cdg :: X.stack) X.prog X.w HZ s1 Q E) s1 := by
    refine PySem.W.kla_callFunE hr.depth of1 rfl L.co L.gen rfl ⟨c', oc, vs, t0, rfl, hoc, hdc, hvc⟩ (hbind s1 ot1 _ _ _ _ ?_)
    refine wpAny_newFunctionEnv (fun y hy => (L.own y hy).2) (fun y hy => by rw [List.mem_singleton.mp hy]; exact L.lx) (fun h₁ hns hsb => ⟨I1.nolimit.fresh _ hsb, ?_⟩) L.kind
    show codeAny _ _ (.expr body (lamEnv X scope s1.heap.objs.size f c')) _ _
    have kp : ∀ b o, s1.heap.get? b = some o → h₁.get? b = some o := fun b o e => hsb.extBut b o (Nat.ne_of_lt (Heap.lt_size e)) (Heap.get?_push_of_some _ e)
    have J : Inv (lamCx X (X.A.deeper (envOfC qg sg s.heap.objs.size g cdg)) (envOfC qg sg s.heap.objs.size g cdg :: X.stack) s1 HZ E scope f c') [] σ HZ { s1 with heap := h₁, toks := s1.toks + [(x, u)].length } :=
      lam_startD I L I1.env0 hr.hd un hns kp
    refine PySem.W.kla_codeExpr (wpAny_mono ((hbody _ _ s1 HZ (hr.deeper _)).run [] _ _ HZ Q J ht') (fun v s' hq => ?_) fun e s' hq => hq)
    obtain ⟨w', H', J', rv, q⟩ := hq
    exact ⟨w', H', J'.os, J'.bare, J'.base, J'.hok, rv, q⟩
  have hx : Passes (L2.CX X.prog X.w) ((cxOf CXg X.prog X.w X.K X.mg X.base Ng qg sg g cdg X.A X.stack s H Eg).tr pn xe) E := passes_call tk hW
  refine wpAny_call (codeAny_mono rc fun r s' hq => ?_)
  cases r with
  | error e => exact hx pinsZ σZ HZ s1 e s' I1 hq
  | ok fl =>
    cases fl with
    | ret u => exact I1.after hq
    | next => exact False.elim hq
    | brk => exact False.elim hq
    | cont => exact False.elim hq
theorem pe_lamD {qq : Str} (hqq : X.env.qual ++ ("<lambda>" : Str) = qq) {TT : (XK → Hp → VK → Prop) → Hp → VK → Prop} {xn x a : Str} {g c P : Addr} {k : Nat} {pg : Arguments} {bg : List Stmt} {sg : Scope} {dV kV doc pm cdv ct oc : Value} {an od : Option Addr} {osl : Array (Option Value)} {Ng : List Str} {params : Arguments} {body : Expr} {scope : Scope} {t : XK → TE} {p lpos pos : Pos} {iv : Int} {j : Nat} {dp : Pos}
    (hg : Gl X x) (hm : X.mg x = some (.ref g)) (hk : PySem.W.keepIn X.K (.ref g) = true) (lk : X.K.lookup g = some ⟨oc, od, .func (PySem.W.fnOf x x pg bg sg dV kV doc pm an cdv ct), osl⟩) (hcg : PySem.W.codeIn X.K cdv x = true) (hb : L2.Binds X.K (PySem.W.fnOf x x pg bg sg dV kV doc pm an cdv ct) [a] []) (Sg : FnScope Ng [a] sg) (hNg : Ng[0]? = some a) (hva : Vis sg a)
    (hG : GivesTo X Ng x sg g cdv bg a qq TT) (TB : TabB X.base X.mg c P) (hcode : X.env.code = .ref c) (hr : Room (k + 2) X.A) (L : LamD X.env.scope scope X.N xn) (hdf : params.defaults = [.Constant (.int iv) j dp]) (hk0 : params.kw_defaults = [])
    (hbind : ∀ (s : Shared) (q : Str) (cl : List (Str × Addr)) (t : Addr) (u doc pm cv ctv : Value), s.heap.get? t = some (PySem.W.kdv_tup [u]) → BindsTo s (PySem.W.kdv_fn "<lambda>" q params (.expr body) scope cl (.ref t) doc pm cv ctv) ⟨[], []⟩ [(xn, u)])
    (hbody : ∀ (A : Around) (outer : List PySem.Env) (s : Shared) (H : Hp) (E : XK) (f c' : Addr), Room k (A.deeper (lamEnv X scope s.heap.objs.size f c')) → PE (lamCx X A outer s H E scope f c') body (t E))
    (hdb : (x == ("__debug__" : Str)) = false := by decide) (hd : (a == ("__debug__" : Str)) = false := by decide) (hcd : (a == ("__classdict__" : Str)) = false := by decide) :
    PE X (.Call (.Name x p) [.Lambda params body scope lpos] [] pos) (tLamP P qq TT t) := by
  subst hqq
  refine ⟨fun pins s σ H Q I h => ?_⟩
  refine wpAny_Call_Name_kw (ld_glob I hg hm (PySem.W.callWith_K (h₀ := X.base) I.ok.mod.kin hk ?_ (by rfl) (by rfl)) hdb)
  show wpAny _ _ (spliced ((false, eval (.Lambda params body scope lpos) X.env) :: backTo pos (starEach [] X.env))) _ _ s
  refine Calls.spliced_cons (lam_makeD I TB hcode h.1 hdf hk0 (L.has I.ok) fun td u f c' doc' pm' ctv H1 s' I1 st hf hfn hfr ht htn htr hco => Calls.spliced_nil ⟨I1.kIn, ?_⟩)
  have rc : codeAny (model X.prog X.w) X.A (.call (.ref g) ⟨[.ref f], []⟩) (CR C8.CX0 X.stack X.prog X.w H1 s' Q C8.E0) s' :=
    run_ofS (N := Ng) (ps := [a]) (us := [.ref f]) (vs := [.ref f]) lk hcg Sg hr I1.env0 (hb s' [.ref f] I1.kIn rfl) (.cons rfl .nil) rfl fun hr' => by
      obtain ⟨t', ht', hq'⟩ := hG f c' s' H1 Q (fun E H' Q' => t E σ H' Q') (fun W pn xe E p1 p2 tk hW => pe_actD (i := 0) I1 L hf hfn hfr ht htn htr (fun s hs => hbind s _ _ _ _ _ _ _ _ hs) tk hW hr' (fun A outer s H hr2 => hbody A outer s H E f c' hr2) hNg hva hd hcd) hco (h.2 H1 st)
      exact ⟨t', ht'.nox, hq'⟩
  refine wpAny_call (codeAny_mono rc fun r s2 hq => ?_)
  cases r with
  | error e => exact (show False from hq).elim
  | ok fl =>
    cases fl with
    | ret u => exact I1.after hq
    | next => exact False.elim hq
    | brk => exact False.elim hq
    | cont => exact False.elim hq
end
/-- why(lambda y=0: e) -/
theorem pe_lamWD {X : Cx} (K : PySem.W.Frag) (hK : X.K = K) (i : Nat) {xl q : Str} (hqq : X.env.qual ++ ("<lambda>" : Str) = q) {xn xw a n x1 x2 x3 : Str} {k : Nat} {pg : Arguments} {sg : Scope} {fd : FuncData} {j k1 k2 : Nat} {b₀ : Stmt} {suite : List Stmt} {qs : List Pos} {ts : TS} {ok : List Str} {c1 c2 c3 : Value}
    (Fu : FunD K xw xw pg (whyB a n x1 x2 x3 j k1 k2 (b₀ :: suite) qs) sg [] [] (He.ga K xw) fd) (hb : L2.Binds K fd [a] []) (Sg : FnScope [a, n] [a] sg) (hva : Vis sg a) (hln : sg.names.lookup n = some .local) (hne : [a, n].Nodup)
    (hg : Gl X xw) (hm : X.mg xw = some (.ref (He.ga K xw))) (hr : Room (k + 2) X.A)
    (hc : ∀ cdg s H, Names (cxOf C8.CX0 X.prog X.w K X.mg X.base [a, n] xw sg (He.ga K xw) cdg X.A X.stack s H C8.E0).nox x1 c1 ∧ Names (cxOf C8.CX0 X.prog X.w K X.mg X.base [a, n] xw sg (He.ga K xw) cdg X.A X.stack s H C8.E0).nox x2 c2 ∧ Names (cxOf C8.CX0 X.prog X.w K X.mg X.base [a, n] xw sg (He.ga K xw) cdg X.A X.stack s H C8.E0).nox x3 c3)
    (hsu : ∀ (cdg : Value) (s : Shared) (H : Hp) (a' : Addr) (pn : List (Addr × Obj)), L2H.RoomH (k + 1) ((cxOf C8.CX0 X.prog X.w K X.mg X.base [a, n] xw sg (He.ga K xw) cdg X.A X.stack s H C8.E0).nox.suite a' pn).A → PSs ((cxOf C8.CX0 X.prog X.w K X.mg X.base [a, n] xw sg (He.ga K xw) cdg X.A X.stack s H C8.E0).nox.suite a' pn) (b₀ :: suite) ts)
    (hok : ∀ c ∈ ok, PySem.W.exmAny K (.ref (He.ga K c)) [c1, c2, c3] = some true)
    (TB : TabB X.base X.mg (He.cT K (xl, none)).1 (He.cT K (xl, none)).2) (hcode : X.env.code = .ref (He.cT K (xl, none)).1)
    {params : Arguments} {body : Expr} {scope : Scope} {t : XK → TE} {p lpos pos : Pos} {iv : Int} {jd : Nat} {dp : Pos} (L : LamD X.env.scope scope X.N xn) (hdf : params.defaults = [.Constant (.int iv) jd dp]) (hk0 : params.kw_defaults = [])
    (hbind : ∀ (s : Shared) (q : Str) (cl : List (Str × Addr)) (t : Addr) (u doc pm cv ctv : Value), s.heap.get? t = some (PySem.W.kdv_tup [u]) → BindsTo s (PySem.W.kdv_fn "<lambda>" q params (.expr body) scope cl (.ref t) doc pm cv ctv) ⟨[], []⟩ [(xn, u)])
    (hbody : ∀ (A : Around) (outer : List PySem.Env) (s : Shared) (H : Hp) (E : XK) (f c' : Addr), Room k (A.deeper (lamEnv X scope s.heap.objs.size f c')) → PE (lamCx X A outer s H E scope f c') body (t E))
    (hdb : (xw == ("__debug__" : Str)) = false := by decide) (hd : (a == ("__debug__" : Str)) = false := by decide) (hcd : (a == ("__classdict__" : Str)) = false := by decide) :
    PE X (.Call (.Name xw p) [.Lambda params body scope lpos] [] pos) (tLamW K i xl q [c1, c2, c3] ok ts hok t) := by
  subst hK
  obtain ⟨oc, od, dV, kV, doc, pm, an, cdv, ct, osl, rfl, lk, hcdv, hdf', hkw⟩ := Fu.ex
  have hk := Fu.kp
  exact pe_lamD hqq hg hm hk lk hcdv hb Sg rfl hva (why_gives hne rfl rfl hln (hc cdv) (fun s H a' pn => hsu cdv s H a' pn (roomH_suite (L2H.roomH_of (hr.deeper _)))) (fun f => rfl)) TB hcode hr L hdf hk0 hbind hbody hdb hd hcd
end
end DX

namespace DX
open PySem L2
noncomputable section
/-! ### running -/
section
variable {α β : Type} {a : α} {μ : Mu} {f : α → Mu → Res β} {g : α → Mu → SR} {k : Env → Mu → SR} {η : Env} {d : D} {e : Exn}
theorem bind_ok : (Res.ok a μ).bind f = f a μ := rfl
theorem bind_bad : (Res.bad : Res α).bind f = .bad := rfl
theorem to_ok : (Res.ok a μ).to η g = g a μ := rfl
theorem then_nx : (SR.nx η μ).then k = k η μ := rfl
theorem then_rt : (SR.rt d μ).then k = .rt d μ := rfl
theorem then_ct : (SR.ct η μ).then k = .ct η μ := rfl
theorem then_bk : (SR.bk η μ).then k = .bk η μ := rfl
theorem turn_nx : (SR.nx η μ).turn k = k η μ := rfl
theorem turn_ct : (SR.ct η μ).turn k = k η μ := rfl
theorem turn_rt : (SR.rt d μ).turn k = .rt d μ := rfl
theorem turn_bk : (SR.bk η μ).turn k = .nx η μ := rfl
theorem run_rt : (SR.rt d μ).run = .ok d μ := rfl
theorem run_nx : (SR.nx η μ).run = .ok .non μ := rfl
theorem onB_bl {b : Bool} {k : Bool → Res α} : onB (.bl b) k = k b := rfl
theorem okO_some {o : α} {k : α → Res β} : okO (some o) k = k o := rfl
theorem noX_ok : noX (Res.ok a μ) = .ok a μ := rfl
theorem look_0 {x : Option D} {r : Env} : look (x :: r) 0 = x := rfl
theorem look_s {x : Option D} {r : Env} {i : Nat} : look (x :: r) (i + 1) = look r i := rfl
theorem fz_same {μ0 : Mu} (h : μ.length ≤ μ0.length) : fz μ0 (.ok d μ) = .ok d μ := if_pos h
end
theorem env0_cons {n : Nat} {d : D} {ds : List D} : env0 (n + 1) (d :: ds) = some d :: env0 n ds := by
  unfold env0
  rw [List.map_cons, List.cons_append, List.length_cons, Nat.add_sub_add_right]
theorem env0_nil {n : Nat} : env0 n [] = List.replicate n none := rfl
section
variable {i j : Int} {μ : Mu}
theorem addD_int : addD (.int i) (.int j) μ = .ok (.int (i + j)) μ := rfl
theorem subD_int : subD (.int i) (.int j) μ = .ok (.int (i - j)) μ := rfl
theorem ltD_int : ltD (.int i) (.int j) μ = .ok (.bl (decide (i < j))) μ := rfl
theorem cmpD_int {f : Int → Int → Bool} : cmpD f (.int i) (.int j) μ = .ok (.bl (f i j)) μ := rfl
theorem mulD_int (h : CMul i j) : mulD (.int i) (.int j) μ = .ok (.int (i * j)) μ := grd_pos (.inl h)
theorem modD_int (h : 0 < j) : modD (.int i) (.int j) μ = .ok (.int (i % j)) μ := if_pos h
theorem divD_int (h : 0 < j) (h2 : j < 2 ^ 63) : divD (.int i) (.int j) μ = .ok (.int (i / j)) μ := by
  show (if 0 < j then _ else _) = _
  rw [if_pos h]
  refine grd_pos ?_
  have h3 : j.natAbs < 2 ^ 63 := by omega
  have h4 : j.natAbs.log2 < 63 := by
    rw [Nat.log2_lt (by omega)]
    exact h3
  omega
theorem intD_int : intD [.int i] μ = .ok (.int i) μ := rfl
end
theorem at4_0 {a b c d : D} : atI [a, b, c, d] 0 = some a := rfl
theorem at4_1 {a b c d : D} : atI [a, b, c, d] 1 = some b := rfl
theorem at4_2 {a b c d : D} : atI [a, b, c, d] 2 = some c := rfl
theorem at4_3 {a b c d : D} : atI [a, b, c, d] 3 = some d := rfl
theorem ixD_cell {μ : Mu} {b : Nat} {xs : List D} {i : Int} (h : μ[b]? = some (.lst xs)) : ixD (.cell b) (.int i) μ = okO (atI xs i) fun d => .ok d μ := by
  show okO (asL μ (.cell b)) _ = _
  have e : asL μ (.cell b) = some xs := by simp only [asL, h]
  rw [e]
  rfl
theorem ixD_lst {μ : Mu} {xs : List D} {i : Int} : ixD (.lst xs) (.int i) μ = okO (atI xs i) fun d => .ok d μ := rfl
theorem ixD_tup {μ : Mu} {xs : List D} {i : Int} : ixD (.tup xs) (.int i) μ = okO (atI xs i) fun d => .ok d μ := rfl
theorem dSet_4 {μ : Mu} {b : Nat} {x0 x1 x2 x3 v : D} {k : Int} {j : Nat} (h : μ[b]? = some (.lst [x0, x1, x2, x3])) (hj : ixN 4 k = some j) : dSet (.cell b) (.int k) v μ = .ok () (μ.set b (.lst ([x0, x1, x2, x3].set j v))) := by
  simp only [dSet, h, List.length_cons, List.length_nil]
  rw [show ixN (0 + 1 + 1 + 1 + 1) k = some j from hj]
theorem lenD_lst {μ : Mu} {xs : List D} : lenD [.lst xs] μ = .ok (.int xs.length) μ := rfl
theorem lenD_tup {μ : Mu} {xs : List D} : lenD [.tup xs] μ = .ok (.int xs.length) μ := rfl
theorem atI_pos {α : Type} {xs : List α} {i : Int} (h0 : 0 ≤ i) (h1 : i < (xs.length : Int)) : ∃ x, atI xs i = some x ∧ x ∈ xs ∧ xs[i.toNat]? = some x := by
  have hk : i.toNat < xs.length := by omega
  have e : xs[i.toNat]? = some xs[i.toNat] := List.getElem?_eq_getElem hk
  refine ⟨xs[i.toNat], ?_, List.getElem_mem hk, e⟩
  have q := atI_nat e
  have z : ((i.toNat : Nat) : Int) = i := by omega
  rw [z] at q
  exact q
/-! ### comprehensions and loops -/
theorem lcR_inv {G : DG} {C : DTs} {Te : DE} {η : Env} (I : List D → List D → Mu → Prop)
    (hs : ∀ x r acc μ, I (x :: r) acc μ → ∃ z μ', ((G x η μ).bind fun η' μ' => (C η' μ').bind fun b μ2 => if b = true then Te η' μ2 else .bad) = .ok z μ' ∧ I r (acc ++ [z]) μ') :
    ∀ its acc μ, I its acc μ → ∃ acc' μ', lcR G C Te η its acc μ = .ok acc' μ' ∧ I [] acc' μ'
  | [], acc, μ, h => ⟨acc, μ, rfl, h⟩
  | x :: r, acc, μ, h => by
    obtain ⟨z, μ1, e, h1⟩ := hs x r acc μ h
    obtain ⟨acc', μ', e', h'⟩ := lcR_inv I hs r _ _ h1
    refine ⟨acc', μ', ?_, h'⟩
    rw [← e']
    show ((G x η μ).bind fun η' μ' => (C η' μ').bind fun b μ2 => if b = true then (Te η' μ2).bind fun z μ3 => lcR G C Te η r (acc ++ [z]) μ3 else lcR G C Te η r acc μ2) = _
    cases hG : G x η μ with
    | ok η1 μa =>
      rw [hG] at e
      simp only [bind_ok] at e ⊢
      cases hC : C η1 μa with
      | ok b μb =>
        rw [hC] at e
        simp only [bind_ok] at e ⊢
        cases b with
        | true =>
          simp only [if_true] at e ⊢
          rw [e]
          rfl
        | false => simp at e
      | exc _ _ => rw [hC] at e; cases e
      | bad => rw [hC] at e; cases e
    | exc _ _ => rw [hG] at e; cases e
    | bad => rw [hG] at e; cases e
theorem lcR_map {G : DG} {Te : DE} {η : Env} {μ : Mu} (f : D → D) : ∀ (its acc : List D), (∀ x ∈ its, ((G x η μ).bind fun η' μ' => Te η' μ') = .ok (f x) μ) → lcR G dYes Te η its acc μ = .ok (acc ++ its.map f) μ
  | [], acc, _ => by rw [List.map_nil, List.append_nil]; rfl
  | x :: r, acc, h => by
    have e := h x List.mem_cons_self
    show ((G x η μ).bind fun η' μ' => (dYes η' μ').bind fun b μ2 => if b = true then (Te η' μ2).bind fun z μ3 => lcR G dYes Te η r (acc ++ [z]) μ3 else lcR G dYes Te η r acc μ2) = _
    cases hG : G x η μ with
    | ok η1 μa =>
      rw [hG] at e
      simp only [bind_ok, dYes, if_true] at e ⊢
      rw [e, bind_ok, lcR_map f r _ fun y hy => h y (List.mem_cons_of_mem _ hy), List.map_cons, List.append_assoc]
      rfl
    | exc _ _ => rw [hG] at e; cases e
    | bad => rw [hG] at e; cases e
/-- with a test -/
theorem lcR_filter {G : DG} {C : DTs} {Te : DE} {η : Env} {μ : Mu} (k : D → Bool) (f : D → D) : ∀ (its acc : List D), (∀ x ∈ its, ∃ η', G x η μ = .ok η' μ ∧ C η' μ = .ok (k x) μ ∧ (k x = true → Te η' μ = .ok (f x) μ)) → lcR G C Te η its acc μ = .ok (acc ++ (its.filter k).map f) μ
  | [], acc, _ => by rw [List.filter_nil, List.map_nil, List.append_nil]; rfl
  | x :: r, acc, h => by
    obtain ⟨η', e1, e2, e3⟩ := h x List.mem_cons_self
    have ih := fun acc => lcR_filter k f r acc fun y hy => h y (List.mem_cons_of_mem _ hy)
    show ((G x η μ).bind fun η' μ' => (C η' μ').bind fun b μ2 => if b = true then (Te η' μ2).bind fun z μ3 => lcR G C Te η r (acc ++ [z]) μ3 else lcR G C Te η r acc μ2) = _
    rw [e1, bind_ok, e2, bind_ok]
    cases c : k x with
    | true => rw [if_pos rfl, e3 c, bind_ok, ih, List.filter_cons_of_pos c, List.map_cons, List.append_assoc]; rfl
    | false => rw [if_neg Bool.false_ne_true, ih, List.filter_cons_of_neg (by rw [c]; exact Bool.false_ne_true)]
/-- a for by what holds between its turns -/
theorem forR_inv {G : DG} {T : DS} (I : List D → Env → Mu → Prop) (hs : ∀ x r η μ, I (x :: r) η μ → ∃ η' μ', ((G x η μ).to η fun η1 μ1 => (T η1 μ1).turn .nx) = .nx η' μ' ∧ (∀ k, ((G x η μ).to η fun η1 μ1 => (T η1 μ1).turn k) = k η' μ') ∧ I r η' μ') :
    ∀ its η μ, I its η μ → ∃ η' μ', forR G T its η μ = .nx η' μ' ∧ I [] η' μ'
  | [], η, μ, h => ⟨η, μ, rfl, h⟩
  | x :: r, η, μ, h => by
    obtain ⟨η1, μ1, _, e, h1⟩ := hs x r η μ h
    obtain ⟨η', μ', e', h'⟩ := forR_inv I hs r _ _ h1
    exact ⟨η', μ', (e _).trans e', h'⟩
/-- .. where each turn goes on -/
theorem forR_go {G : DG} {T : DS} (I : List D → Env → Mu → Prop) (hs : ∀ x r η μ, I (x :: r) η μ → ∃ η1 μ1 η' μ', G x η μ = .ok η1 μ1 ∧ (T η1 μ1 = .nx η' μ' ∨ T η1 μ1 = .ct η' μ') ∧ I r η' μ') :
    ∀ its η μ, I its η μ → ∃ η' μ', forR G T its η μ = .nx η' μ' ∧ I [] η' μ' :=
  forR_inv I fun x r η μ h => by
    obtain ⟨η1, μ1, η', μ', e1, e2, h'⟩ := hs x r η μ h
    refine ⟨η', μ', ?_, fun k => ?_, h'⟩
    · rw [e1, to_ok]
      rcases e2 with e2 | e2 <;> rw [e2] <;> rfl
    · rw [e1, to_ok]
      rcases e2 with e2 | e2 <;> rw [e2] <;> rfl
/-- a while by what holds between its turns, and a measure -/
theorem whileR_go {C : DTs} {T : DS} (I : Env → Mu → Prop) (J : Env → Mu → Prop) (m : Env → Mu → Nat) (hs : ∀ η μ, I η μ → (C η μ = .ok false μ ∧ J η μ) ∨ ∃ μ1 η' μ', C η μ = .ok true μ1 ∧ (T η μ1 = .nx η' μ' ∨ T η μ1 = .ct η' μ') ∧ I η' μ' ∧ m η' μ' < m η μ) :
    ∀ n η μ, I η μ → m η μ < n → ∃ η' μ', whileR C T n η μ = .nx η' μ' ∧ J η' μ'
  | 0, η, μ, _, h => absurd h (Nat.not_lt_zero _)
  | n + 1, η, μ, h, hn => by
    rcases hs η μ h with ⟨e, j⟩ | ⟨μ1, η', μ', e1, e2, h', hm⟩
    · exact ⟨η, μ, by show (C η μ).to η _ = _; rw [e, to_ok]; rfl, j⟩
    · obtain ⟨η2, μ2, e3, j⟩ := whileR_go I J m hs n η' μ' h' (by omega)
      refine ⟨η2, μ2, ?_, j⟩
      show (C η μ).to η _ = _
      rw [e1, to_ok, if_pos rfl]
      rcases e2 with e2 | e2
      · rw [e2, turn_nx, e3]
      · rw [e2, turn_ct, e3]
theorem cut_take {α : Type} (xs : List α) {k : Int} (h : 0 ≤ k) : cut xs none (some k) = xs.take k.toNat := by
  have e : HT.sIx xs.length xs.length (some k) = min k.toNat xs.length := by
    have e : ((k.toNat : Nat) : Int) = k := by omega
    have q := HT.sIx_nat xs.length xs.length k.toNat
    rw [e] at q
    exact q
  unfold cut
  rw [HT.sIx_none, e, List.drop_zero, Nat.sub_zero]
  by_cases c : k.toNat ≤ xs.length
  · rw [Nat.min_eq_left c]
  · rw [Nat.min_eq_right (by omega), List.take_length, List.take_of_length_le (by omega)]
theorem cut_drop {α : Type} (xs : List α) {k : Int} (h : 0 ≤ k) : cut xs (some k) none = xs.drop k.toNat := by
  have e : HT.sIx xs.length 0 (some k) = min k.toNat xs.length := by
    have e : ((k.toNat : Nat) : Int) = k := by omega
    have q := HT.sIx_nat xs.length 0 k.toNat
    rw [e] at q
    exact q
  unfold cut
  rw [HT.sIx_none, e]
  by_cases c : k.toNat ≤ xs.length
  · rw [Nat.min_eq_left c]
    exact List.take_of_length_le (by rw [List.length_drop]; exact Nat.le_refl _)
  · rw [Nat.min_eq_right (by omega), List.drop_length, List.drop_eq_nil_of_le (by omega)]
    exact List.take_nil
mutual
theorem plain_mono : ∀ (n m : Nat) (d : D), n ≤ m → plain n d = true → plain m d = true
  | n, m, .non, _, _ => plain_non
  | n, m, .bl _, _, _ => plain_bl
  | n, m, .int _, _, _ => plain_int
  | n, m, .str s, _, h => by rw [plain_str] at h ⊢; exact h
  | 0, m, .tup xs, _, h => absurd h plain_tup0
  | 0, m, .lst xs, _, h => absurd h plain_lst0
  | n + 1, 0, .tup xs, l, h => absurd l (by omega)
  | n + 1, 0, .lst xs, l, h => absurd l (by omega)
  | n + 1, m + 1, .tup xs, l, h => plain_tup_of (plain_tup h).1 (plains_mono n m xs (by omega) (plain_tup h).2)
  | n + 1, m + 1, .lst xs, l, h => plain_lst_of (plain_lst h).1 (plains_mono n m xs (by omega) (plain_lst h).2)
  | n, m, .ty _, _, h => by cases n <;> simp [plain] at h
  | n, m, .cls _, _, h => by cases n <;> simp [plain] at h
  | n, m, .cell _, _, h => by cases n <;> simp [plain] at h
  | n, m, .obj _ _ _, _, h => by cases n <;> simp [plain] at h
  | n, m, .scr _, _, h => by cases n <;> simp [plain] at h
  | n, m, .fn _, _, h => by cases n <;> simp [plain] at h
  | n, m, .dK _ _, _, h => by cases n <;> simp [plain] at h
  | n, m, .dT _ _, _, h => by cases n <;> simp [plain] at h
  | n, m, .exn _ _ _, _, h => by cases n <;> simp [plain] at h
theorem plains_mono : ∀ (n m : Nat) (ds : List D), n ≤ m → plains n ds = true → plains m ds = true
  | n, m, [], _, _ => plains_nil
  | n, m, x :: r, l, h => by
    rw [plains_cons, Bool.and_eq_true] at h ⊢
    exact ⟨plain_mono n m x l h.1, plains_mono n m r l h.2⟩
end
theorem eqP_refl {d : D} (h : plain 60 d = true) : eqP d d = true := SeqAt.eqv_refl _ (plain_shape 60 d h).1
theorem eqD_plain {x y : D} {μ : Mu} (hx : plain 60 x = true) (hy : plain 60 y = true) : eqD x y μ = .ok (.bl (eqP x y)) μ := by
  unfold eqD
  rw [der_plain hx, der_plain hy]
  exact grd_pos ⟨hx, hy⟩
theorem neD_plain {x y : D} {μ : Mu} (hx : plain 60 x = true) (hy : plain 60 y = true) : neD x y μ = .ok (.bl (!eqP x y)) μ := by
  unfold neD
  rw [der_plain hx, der_plain hy]
  exact grd_pos ⟨hx, hy⟩
theorem eqD_refl {d : D} {μ : Mu} (h : plain 60 d = true) : eqD d d μ = .ok (.bl true) μ := by rw [eqD_plain h h, eqP_refl h]
theorem eqD_bl {a b : Bool} {μ : Mu} : eqD (.bl a) (.bl b) μ = .ok (.bl (a == b)) μ := by
  rw [eqD_plain plain_bl plain_bl]
  cases a <;> cases b <;> rfl
theorem neD_bl {a b : Bool} {μ : Mu} : neD (.bl a) (.bl b) μ = .ok (.bl (!(a == b))) μ := by
  rw [neD_plain plain_bl plain_bl]
  cases a <;> cases b <;> rfl
theorem eqD_int {a b : Int} {μ : Mu} : eqD (.int a) (.int b) μ = .ok (.bl (a == b)) μ := by
  rw [eqD_plain plain_int plain_int]
  rfl
theorem neD_int {a b : Int} {μ : Mu} : neD (.int a) (.int b) μ = .ok (.bl (!(a == b))) μ := by
  rw [neD_plain plain_int plain_int]
  rfl
theorem eqD_str {a b : Str} {μ : Mu} (ha : PyData.strOk a = true) (hb : PyData.strOk b = true) : eqD (.str a) (.str b) μ = .ok (.bl (a == b)) μ := by
  rw [eqD_plain (by rw [plain_str]; exact ha) (by rw [plain_str]; exact hb)]
  rfl
theorem neD_str {a b : Str} {μ : Mu} (ha : PyData.strOk a = true) (hb : PyData.strOk b = true) : neD (.str a) (.str b) μ = .ok (.bl (!(a == b))) μ := by
  rw [neD_plain (by rw [plain_str]; exact ha) (by rw [plain_str]; exact hb)]
  rfl
theorem kb_nb : kindB "NoneType" "bool" = some false := by decide +kernel
theorem kb_ni : kindB "NoneType" "int" = some false := by decide +kernel
theorem kb_ns : kindB "NoneType" "str" = some false := by decide +kernel
theorem kb_nt : kindB "NoneType" "tuple" = some false := by decide +kernel
theorem kb_nl : kindB "NoneType" "list" = some false := by decide +kernel
theorem kb_bb : kindB "bool" "bool" = some true := by decide +kernel
theorem kb_bi : kindB "bool" "int" = some true := by decide +kernel
theorem kb_bs : kindB "bool" "str" = some false := by decide +kernel
theorem kb_bt : kindB "bool" "tuple" = some false := by decide +kernel
theorem kb_bl : kindB "bool" "list" = some false := by decide +kernel
theorem kb_ib : kindB "int" "bool" = some false := by decide +kernel
theorem kb_ii : kindB "int" "int" = some true := by decide +kernel
theorem kb_is : kindB "int" "str" = some false := by decide +kernel
theorem kb_it : kindB "int" "tuple" = some false := by decide +kernel
theorem kb_il : kindB "int" "list" = some false := by decide +kernel
theorem kb_sb : kindB "str" "bool" = some false := by decide +kernel
theorem kb_si : kindB "str" "int" = some false := by decide +kernel
theorem kb_ss : kindB "str" "str" = some true := by decide +kernel
theorem kb_st : kindB "str" "tuple" = some false := by decide +kernel
theorem kb_sl : kindB "str" "list" = some false := by decide +kernel
theorem kb_tb : kindB "tuple" "bool" = some false := by decide +kernel
theorem kb_ti : kindB "tuple" "int" = some false := by decide +kernel
theorem kb_ts : kindB "tuple" "str" = some false := by decide +kernel
theorem kb_tt : kindB "tuple" "tuple" = some true := by decide +kernel
theorem kb_tl : kindB "tuple" "list" = some false := by decide +kernel
theorem kb_lb : kindB "list" "bool" = some false := by decide +kernel
theorem kb_li : kindB "list" "int" = some false := by decide +kernel
theorem kb_ls : kindB "list" "str" = some false := by decide +kernel
theorem kb_lt : kindB "list" "tuple" = some false := by decide +kernel
theorem kb_ll : kindB "list" "list" = some true := by decide +kernel
end
end DX

namespace DX
open PySem L2
noncomputable section
theorem isi_int_int {i : Int} {μ : Mu} : isiD [.int i, .ty "int"] μ = .ok (.bl true) μ := by simp only [isiD, tyName, okO_some, kb_ii]
theorem isi_int_bool {i : Int} {μ : Mu} : isiD [.int i, .ty "bool"] μ = .ok (.bl false) μ := by simp only [isiD, tyName, okO_some, kb_ib]
theorem isi_int_str {i : Int} {μ : Mu} : isiD [.int i, .ty "str"] μ = .ok (.bl false) μ := by simp only [isiD, tyName, okO_some, kb_is]
theorem isi_int_tuple {i : Int} {μ : Mu} : isiD [.int i, .ty "tuple"] μ = .ok (.bl false) μ := by simp only [isiD, tyName, okO_some, kb_it]
theorem isi_int_list {i : Int} {μ : Mu} : isiD [.int i, .ty "list"] μ = .ok (.bl false) μ := by simp only [isiD, tyName, okO_some, kb_il]
theorem isi_bl_int {i : Bool} {μ : Mu} : isiD [.bl i, .ty "int"] μ = .ok (.bl true) μ := by simp only [isiD, tyName, okO_some, kb_bi]
theorem isi_bl_bool {i : Bool} {μ : Mu} : isiD [.bl i, .ty "bool"] μ = .ok (.bl true) μ := by simp only [isiD, tyName, okO_some, kb_bb]
theorem isi_bl_str {i : Bool} {μ : Mu} : isiD [.bl i, .ty "str"] μ = .ok (.bl false) μ := by simp only [isiD, tyName, okO_some, kb_bs]
theorem isi_bl_tuple {i : Bool} {μ : Mu} : isiD [.bl i, .ty "tuple"] μ = .ok (.bl false) μ := by simp only [isiD, tyName, okO_some, kb_bt]
theorem isi_bl_list {i : Bool} {μ : Mu} : isiD [.bl i, .ty "list"] μ = .ok (.bl false) μ := by simp only [isiD, tyName, okO_some, kb_bl]
theorem isi_str_int {i : Str} {μ : Mu} : isiD [.str i, .ty "int"] μ = .ok (.bl false) μ := by simp only [isiD, tyName, okO_some, kb_si]
theorem isi_str_bool {i : Str} {μ : Mu} : isiD [.str i, .ty "bool"] μ = .ok (.bl false) μ := by simp only [isiD, tyName, okO_some, kb_sb]
theorem isi_str_str {i : Str} {μ : Mu} : isiD [.str i, .ty "str"] μ = .ok (.bl true) μ := by simp only [isiD, tyName, okO_some, kb_ss]
theorem isi_str_tuple {i : Str} {μ : Mu} : isiD [.str i, .ty "tuple"] μ = .ok (.bl false) μ := by simp only [isiD, tyName, okO_some, kb_st]
theorem isi_str_list {i : Str} {μ : Mu} : isiD [.str i, .ty "list"] μ = .ok (.bl false) μ := by simp only [isiD, tyName, okO_some, kb_sl]
theorem isi_tup_int {i : List D} {μ : Mu} : isiD [.tup i, .ty "int"] μ = .ok (.bl false) μ := by simp only [isiD, tyName, okO_some, kb_ti]
theorem isi_tup_bool {i : List D} {μ : Mu} : isiD [.tup i, .ty "bool"] μ = .ok (.bl false) μ := by simp only [isiD, tyName, okO_some, kb_tb]
theorem isi_tup_str {i : List D} {μ : Mu} : isiD [.tup i, .ty "str"] μ = .ok (.bl false) μ := by simp only [isiD, tyName, okO_some, kb_ts]
theorem isi_tup_tuple {i : List D} {μ : Mu} : isiD [.tup i, .ty "tuple"] μ = .ok (.bl true) μ := by simp only [isiD, tyName, okO_some, kb_tt]
theorem isi_tup_list {i : List D} {μ : Mu} : isiD [.tup i, .ty "list"] μ = .ok (.bl false) μ := by simp only [isiD, tyName, okO_some, kb_tl]
theorem isi_lst_int {i : List D} {μ : Mu} : isiD [.lst i, .ty "int"] μ = .ok (.bl false) μ := by simp only [isiD, tyName, okO_some, kb_li]
theorem isi_lst_bool {i : List D} {μ : Mu} : isiD [.lst i, .ty "bool"] μ = .ok (.bl false) μ := by simp only [isiD, tyName, okO_some, kb_lb]
theorem isi_lst_str {i : List D} {μ : Mu} : isiD [.lst i, .ty "str"] μ = .ok (.bl false) μ := by simp only [isiD, tyName, okO_some, kb_ls]
theorem isi_lst_tuple {i : List D} {μ : Mu} : isiD [.lst i, .ty "tuple"] μ = .ok (.bl false) μ := by simp only [isiD, tyName, okO_some, kb_lt]
theorem isi_lst_list {i : List D} {μ : Mu} : isiD [.lst i, .ty "list"] μ = .ok (.bl true) μ := by simp only [isiD, tyName, okO_some, kb_ll]
theorem isi_non_int  {μ : Mu} : isiD [.non, .ty "int"] μ = .ok (.bl false) μ := by simp only [isiD, tyName, okO_some, kb_ni]
theorem isi_non_bool  {μ : Mu} : isiD [.non, .ty "bool"] μ = .ok (.bl false) μ := by simp only [isiD, tyName, okO_some, kb_nb]
theorem isi_non_str  {μ : Mu} : isiD [.non, .ty "str"] μ = .ok (.bl false) μ := by simp only [isiD, tyName, okO_some, kb_ns]
theorem isi_non_tuple  {μ : Mu} : isiD [.non, .ty "tuple"] μ = .ok (.bl false) μ := by simp only [isiD, tyName, okO_some, kb_nt]
theorem isi_non_list  {μ : Mu} : isiD [.non, .ty "list"] μ = .ok (.bl false) μ := by simp only [isiD, tyName, okO_some, kb_nl]
theorem chk_c {n : Nat} {α : Type} {r : Res α} (h : n ≤ 16777216) : chk n r = r := if_pos h
theorem defR_ok {fin : Mu → Res D → Res D} {np n : Nat} {T : DS} {ds : List D} {μ : Mu} (h : ds.length = np) : defR fin np n T ds μ = fin μ (T (env0 n ds) μ).run := if_pos h
theorem append_ok {To : DE} {T : DA} {η : Env} {μ μ1 μ2 : Mu} {a : Nat} {ys xs : List D} {d : D} (h1 : To η μ = .ok (.cell a) μ1) (h2 : μ1[a]? = some (.lst ys)) (h3 : T η μ1 = .ok [d] μ2) (h4 : μ2[a]? = some (.lst xs)) (h5 : xs.length < 16777216) :
    dAppend To T η μ = .ok .non (μ2.set a (.lst (xs ++ [d]))) := by
  simp only [dAppend, h1, bind_ok, h2, h3, h4]
  exact grd_pos h5
theorem last_get {ν : Mu} {m : MO} {n : Nat} (h : ν.length = n) : (ν ++ [m])[n]? = some m := by
  rw [← h, List.getElem?_append_right (Nat.le_refl _), Nat.sub_self]
  rfl
theorem last_set {ν : Mu} {m m' : MO} {n : Nat} (h : ν.length = n) : (ν ++ [m]).set n m' = ν ++ [m'] := by
  rw [← h, List.set_append_right _ _ (Nat.le_refl _), Nat.sub_self]
  rfl
theorem mul_tup {xs : List D} {k : Int} {μ : Mu} (h0 : xs ≠ []) (h1 : -1000 ≤ k) (h2 : k ≤ 1000) (h3 : xs.length ≤ 1000) : mulD (.tup xs) (.int k) μ = .ok (.tup (List.replicate k.toNat xs).flatten) μ := grd_pos ⟨h0, h1, h2, h3⟩
theorem add_tup {xs ys : List D} {μ : Mu} (h : xs.length + ys.length ≤ 16777216) : addD (.tup xs) (.tup ys) μ = .ok (.tup (xs ++ ys)) μ := if_pos h
theorem slD_tup {xs : List D} {lo hi : Option Int} {μ : Mu} : slD (.tup xs) lo hi μ = .ok (.tup (cut xs lo hi)) μ := rfl
theorem slD_lst {xs : List D} {lo hi : Option Int} {μ : Mu} : slD (.lst xs) lo hi μ = .ok (.lst (cut xs lo hi)) μ := rfl
theorem rep_ints (k : Nat) (n : Int) : (List.replicate k [D.int n]).flatten = (List.replicate k n).map D.int := by
  induction k with
  | zero => rfl
  | succ k ih => rw [List.replicate_succ, List.flatten_cons, ih, List.replicate_succ]; rfl
theorem at_0 {α : Type} {x : α} {r : List α} : atI (x :: r) 0 = some x := atI_nat (xs := x :: r) (j := 0) rfl
theorem still_lst {xs : List D} : still (.lst xs) = some xs := rfl
theorem still_tup {xs : List D} : still (.tup xs) = some xs := rfl
theorem items_lst {xs : List D} : itemsOf (.lst xs) = some xs := rfl
theorem items_tup {xs : List D} : itemsOf (.tup xs) = some xs := rfl
/-! ### slots -/
theorem look_getD : ∀ (η : Env) (i : Nat), look η i = (η[i]?).getD none
  | [], i => rfl
  | x :: r, 0 => rfl
  | x :: r, i + 1 => by rw [List.getElem?_cons_succ]; exact look_getD r i
theorem look_eq {η : Env} {i : Nat} {x : Option D} (h : i < η.length) : look (η.set i x) i = x := by
  rw [look_getD, List.getElem?_set_self h]
  rfl
theorem look_ne {η : Env} {i j : Nat} {x : Option D} (h : i ≠ j) : look (η.set i x) j = look η j := by
  rw [look_getD, look_getD, List.getElem?_set_ne h]
/-! ### iD -/
def iD (xs : List Int) : List D := xs.map D.int
theorem ints_len {xs : List Int} : (iD xs).length = xs.length := List.length_map _
theorem ints_app {xs ys : List Int} : iD xs ++ iD ys = iD (xs ++ ys) := (List.map_append ..).symm
theorem ints_mem {xs : List Int} {x : D} (h : x ∈ iD xs) : ∃ n ∈ xs, x = .int n := by
  obtain ⟨n, h1, h2⟩ := List.mem_map.mp h
  exact ⟨n, h1, h2.symm⟩
theorem ints_of {xs : List Int} : intsOf (iD xs) = some xs := intsOf_map xs
theorem plain_itup {n : Nat} {xs : List Int} (h : xs.length ≤ 100000) : plain (n + 1) (.tup (iD xs)) = true := plain_ints h
theorem plain_ilst {n : Nat} {xs : List Int} (h : xs.length ≤ 100000) : plain (n + 1) (.lst (iD xs)) = true := plain_lst_of (by rw [ints_len]; exact h) (plains_ints xs)
theorem toPs_map : ∀ ds : List D, toPs ds = ds.map toP
  | [] => rfl
  | d :: r => by simp [toPs, toPs_map r]
theorem atI_ints {xs : List Int} {i : Int} (h0 : 0 ≤ i) (h1 : i < (xs.length : Int)) : ∃ n, atI (iD xs) i = some (.int n) ∧ n ∈ xs ∧ xs[i.toNat]? = some n := by
  obtain ⟨x, e1, e2, e3⟩ := atI_pos (xs := iD xs) h0 (by rw [ints_len]; exact h1)
  obtain ⟨n, hn, rfl⟩ := ints_mem e2
  refine ⟨n, e1, hn, ?_⟩
  unfold iD at e3
  rw [List.getElem?_map] at e3
  cases c : xs[i.toNat]? with
  | none => rw [c] at e3; cases e3
  | some m => rw [c] at e3; cases e3; rfl
/-- equality of iD' rows -/
theorem eqvs_ints : ∀ xs ys : List Int, PyData.eqvAll (toPs (iD xs)) (toPs (iD ys)) = decide (xs = ys)
  | [], [] => rfl
  | [], y :: ys => rfl
  | x :: xs, [] => rfl
  | x :: xs, y :: ys => by
    show (PyData.eqv (.int x) (.int y) && PyData.eqvAll (toPs (iD xs)) (toPs (iD ys))) = _
    rw [eqvs_ints xs ys]
    have e : PyData.eqv (.int x) (.int y) = (x == y) := rfl
    rw [e]
    by_cases c : x = y
    · subst c
      simp
    · simp [c]
theorem eqP_itup {xs ys : List Int} : eqP (.tup (iD xs)) (.tup (iD ys)) = decide (xs = ys) := eqvs_ints xs ys
theorem eqP_ilst {xs ys : List Int} : eqP (.lst (iD xs)) (.lst (iD ys)) = decide (xs = ys) := eqvs_ints xs ys
theorem eqD_itup {xs ys : List Int} {μ : Mu} (h1 : xs.length ≤ 100000) (h2 : ys.length ≤ 100000) : eqD (.tup (iD xs)) (.tup (iD ys)) μ = .ok (.bl (decide (xs = ys))) μ := by
  rw [eqD_plain (plain_itup h1) (plain_itup h2), eqP_itup]
theorem neD_itup {xs ys : List Int} {μ : Mu} (h1 : xs.length ≤ 100000) (h2 : ys.length ≤ 100000) : neD (.tup (iD xs)) (.tup (iD ys)) μ = .ok (.bl (!decide (xs = ys))) μ := by
  rw [neD_plain (plain_itup h1) (plain_itup h2), eqP_itup]
theorem eqD_ilst {xs ys : List Int} {μ : Mu} (h1 : xs.length ≤ 100000) (h2 : ys.length ≤ 100000) : eqD (.lst (iD xs)) (.lst (iD ys)) μ = .ok (.bl (decide (xs = ys))) μ := by
  rw [eqD_plain (plain_ilst h1) (plain_ilst h2), eqP_ilst]
theorem neD_ilst {xs ys : List Int} {μ : Mu} (h1 : xs.length ≤ 100000) (h2 : ys.length ≤ 100000) : neD (.lst (iD xs)) (.lst (iD ys)) μ = .ok (.bl (!decide (xs = ys))) μ := by
  rw [neD_plain (plain_ilst h1) (plain_ilst h2), eqP_ilst]
/-! ### comprehensions -/
theorem lc_map {W : DA} {G : DG} {Te : DE} {vs : List Nat} {η : Env} {μ μ1 : Mu} {its : List D} (f : D → D) (hW : W η μ = .ok its μ1) (hl : its.length ≤ 16777216) (h : ∀ x ∈ its, ((G x (wipeD η vs) μ1).bind fun η' μ' => Te η' μ') = .ok (f x) μ1) :
    dLc W G dYes Te vs η μ = .ok (.lst (its.map f)) μ1 := by
  unfold dLc lcW
  rw [hW, bind_ok, chk_c hl, lcR_map f its [] h, noX_ok, bind_ok, List.nil_append]
theorem lc_inv {W : DA} {G : DG} {Te : DE} {vs : List Nat} {η : Env} {μ μ1 : Mu} {its : List D} (I : List D → List D → Mu → Prop) (hW : W η μ = .ok its μ1) (hl : its.length ≤ 16777216)
    (hs : ∀ x r acc μ, I (x :: r) acc μ → ∃ z μ', ((G x (wipeD η vs) μ).bind fun η' μ' => Te η' μ') = .ok z μ' ∧ I r (acc ++ [z]) μ') (h0 : I its [] μ1) :
    ∃ zs μ', dLc W G dYes Te vs η μ = .ok (.lst zs) μ' ∧ I [] zs μ' := by
  obtain ⟨acc, μ', e, h⟩ := lcR_inv (G := G) (C := dYes) (Te := Te) (η := wipeD η vs) I (fun x r acc μ hI => by
    obtain ⟨z, μ', e, h'⟩ := hs x r acc μ hI
    refine ⟨z, μ', ?_, h'⟩
    rw [← e]
    cases G x (wipeD η vs) μ with
    | ok η1 μa => rfl
    | exc _ _ => rfl
    | bad => rfl) its [] μ1 h0
  refine ⟨acc, μ', ?_, h⟩
  unfold dLc lcW
  rw [hW, bind_ok, chk_c hl, e, noX_ok, bind_ok]
theorem zip_ints {xs ys : List Int} {x : D} (h : x ∈ zipD2 (iD xs) (iD ys)) : ∃ a b, x = .tup [.int a, .int b] ∧ (a, b) ∈ xs.zip ys := by
  unfold zipD2 iD at h
  rw [List.zipWith_map, List.zipWith_eq_zipWith_take_min] at h
  obtain ⟨i, hi, e⟩ := List.mem_iff_getElem.mp h
  rw [List.getElem_zipWith] at e
  refine ⟨_, _, e.symm, ?_⟩
  rw [List.getElem_take, List.getElem_take]
  rw [List.length_zipWith, List.length_take, List.length_take] at hi
  refine List.mem_iff_getElem.mpr ⟨i, by rw [List.length_zip]; omega, ?_⟩
  rw [List.getElem_zip]
/-- [f a b for a, b in zip(xs, ys)] -/
theorem lc_zip {A B : DE} {i j : Nat} {Te : DE} {η : Env} {μ μ1 μ2 : Mu} {d1 d2 : D} {xs ys : List Int} (f : Int → Int → D) (hA : A η μ = .ok d1 μ1) (hB : B η μ1 = .ok d2 μ2) (h1 : still d1 = some (iD xs)) (h2 : still d2 = some (iD ys)) (hl : xs.length ≤ 16777216)
    (h : ∀ a b, (a, b) ∈ xs.zip ys → Te ((((η.set j none).set i none).set i (some (.int a))).set j (some (.int b))) μ2 = .ok (f a b) μ2) :
    dLc (dZip2 (dCons A (dCons B dNil))) (dGTup 2 (dGCons (dName i) (dGCons (dName j) dGNil))) dYes Te [i, j] η μ = .ok (.lst (List.zipWith f xs ys)) μ2 := by
  have e : (zipD2 (iD xs) (iD ys)).map (fun x => match x with | .tup [.int a, .int b] => f a b | _ => .non) = List.zipWith f xs ys := by
    unfold zipD2 iD
    rw [List.zipWith_map, List.map_zipWith]
  rw [← e]
  refine lc_map _ ?_ ?_ fun x hx => ?_
  · simp only [dZip2, dCons, dNil, hA, hB, bind_ok, h1, h2, okO_some]
  · rw [zipD2_len, ints_len]; omega
  · obtain ⟨a, b, rfl, hm⟩ := zip_ints hx
    have q := h a b hm
    simp only [dGTup, dGCons, dGNil, dName, List.length_cons, List.length_nil, if_true, bind_ok, wipeD]
    exact q
theorem zip3_ints {xs ys zs : List Int} {x : D} (h : x ∈ zipD3 (iD xs) (iD ys) (iD zs)) : ∃ a b c, x = .tup [.int a, .int b, .int c] ∧ (a, b, c) ∈ xs.zip (ys.zip zs) := by
  unfold zipD3 iD at h
  obtain ⟨i, hi, e⟩ := List.mem_iff_getElem.mp h
  simp only [List.getElem_zipWith, List.getElem_map] at e
  refine ⟨_, _, _, e.symm, ?_⟩
  simp only [List.length_zipWith, List.length_map] at hi
  refine List.mem_iff_getElem.mpr ⟨i, by simp only [List.length_zip]; omega, ?_⟩
  simp only [List.getElem_zip]
def zip3W {α β γ δ : Type} (f : α → β → γ → δ) (xs : List α) (ys : List β) (zs : List γ) : List δ := List.zipWith (fun x p => f x p.1 p.2) xs (ys.zip zs)
theorem lc_zip3 {A B C : DE} {i j k : Nat} {Te : DE} {η : Env} {μ μ1 μ2 μ3 : Mu} {d1 d2 d3 : D} {xs ys zs : List Int} (f : Int → Int → Int → D) (hA : A η μ = .ok d1 μ1) (hB : B η μ1 = .ok d2 μ2) (hC : C η μ2 = .ok d3 μ3) (h1 : still d1 = some (iD xs)) (h2 : still d2 = some (iD ys)) (h3 : still d3 = some (iD zs)) (hl : xs.length ≤ 16777216)
    (h : ∀ a b c, (a, b, c) ∈ xs.zip (ys.zip zs) → Te ((((((η.set k none).set j none).set i none).set i (some (.int a))).set j (some (.int b))).set k (some (.int c))) μ3 = .ok (f a b c) μ3) :
    dLc (dZip3 (dCons A (dCons B (dCons C dNil)))) (dGTup 3 (dGCons (dName i) (dGCons (dName j) (dGCons (dName k) dGNil)))) dYes Te [i, j, k] η μ = .ok (.lst (zip3W f xs ys zs)) μ3 := by
  have e : (zipD3 (iD xs) (iD ys) (iD zs)).map (fun x => match x with | .tup [.int a, .int b, .int c] => f a b c | _ => .non) = zip3W f xs ys zs := by
    clear h hA hB hC h1 h2 h3 hl
    unfold zipD3 iD zip3W
    induction xs generalizing ys zs with
    | nil => simp
    | cons x xs ih =>
      cases ys with
      | nil => simp
      | cons y ys =>
        cases zs with
        | nil => simp
        | cons z zs =>
          simp only [List.map_cons, List.zipWith_cons_cons, List.zip_cons_cons]
          rw [ih]
  rw [← e]
  refine lc_map _ ?_ ?_ fun x hx => ?_
  · simp only [dZip3, dCons, dNil, hA, hB, hC, bind_ok, h1, h2, h3, okO_some]
  · rw [zipD3_len, ints_len]; omega
  · obtain ⟨a, b, c, rfl, hm⟩ := zip3_ints hx
    have q := h a b c hm
    simp only [dGTup, dGCons, dGNil, dName, List.length_cons, List.length_nil, if_true, bind_ok, wipeD]
    exact q
/-- [f x for x in xs] -/
theorem lc_seq {S : DE} {i : Nat} {Te : DE} {η : Env} {μ μ1 : Mu} {d : D} {xs : List D} (f : D → D) (hS : S η μ = .ok d μ1) (hi : itemsOf d = some xs) (hl : xs.length ≤ 16777216) (h : ∀ x ∈ xs, Te ((η.set i none).set i (some x)) μ1 = .ok (f x) μ1) :
    dLc (dSeqI S) (dName i) dYes Te [i] η μ = .ok (.lst (xs.map f)) μ1 := by
  refine lc_map f ?_ hl fun x hx => ?_
  · simp only [dSeqI, hS, bind_ok, hi, okO_some]
  · simp only [dName, bind_ok, wipeD]
    exact h x hx
theorem range_mem {i : Int} {n : Nat} {x : D} (h : x ∈ rangeD i n) : ∃ k : Nat, k < n ∧ x = .int (i + k) := by
  obtain ⟨k, hk, e⟩ := List.mem_iff_getElem.mp h
  rw [range_len] at hk
  refine ⟨k, hk, ?_⟩
  rw [← e]
  have q := range_get (i := i) hk
  rw [List.getElem?_eq_getElem (by rw [range_len]; exact hk)] at q
  exact Option.some.inj q
theorem rng_ok {T : DA} {η : Env} {μ μ1 : Mu} {n : Int} (h : T η μ = .ok [.int n] μ1) (h1 : -(2 ^ 62) ≤ n) (h2 : n < 2 ^ 62) : dRng1 T η μ = .ok (rangeD 0 n.toNat) μ1 := by
  simp only [dRng1, h, bind_ok]
  exact grd_pos ⟨h1, h2⟩
/-! ### what no longer changes -/
mutual
def clean : D → Bool
  | .tup xs => cleans xs
  | .lst xs => cleans xs
  | .cell _ => false
  | .obj _ _ ds => cleans ds
  | .dK _ ds => cleans ds
  | .dT _ ds => cleans ds
  | .exn _ _ ds => cleans ds
  | .non => true
  | .bl _ => true
  | .int _ => true
  | .str _ => true
  | .ty _ => true
  | .cls _ => true
  | .fn _ => true
  | .scr _ => true
def cleans : List D → Bool
  | [] => true
  | x :: r => clean x && cleans r
end
mutual
theorem clean_nn {n : Nat} : ∀ d : D, clean d = true → nn n d = true
  | .tup xs, h => by simp only [nn]; exact cleans_nn xs (by simpa [clean] using h)
  | .lst xs, h => by simp only [nn]; exact cleans_nn xs (by simpa [clean] using h)
  | .cell _, h => by simp [clean] at h
  | .obj _ _ ds, h => by simp only [nn]; exact cleans_nn ds (by simpa [clean] using h)
  | .dK _ ds, h => by simp only [nn]; exact cleans_nn ds (by simpa [clean] using h)
  | .dT _ ds, h => by simp only [nn]; exact cleans_nn ds (by simpa [clean] using h)
  | .exn _ _ ds, h => by simp only [nn]; exact cleans_nn ds (by simpa [clean] using h)
  | .non, _ => by simp [nn]
  | .bl _, _ => by simp [nn]
  | .int _, _ => by simp [nn]
  | .str _, _ => by simp [nn]
  | .ty _, _ => by simp [nn]
  | .cls _, _ => by simp [nn]
  | .fn _, _ => by simp [nn]
  | .scr _, _ => by simp [nn]
theorem cleans_nn {n : Nat} : ∀ ds : List D, cleans ds = true → nns n ds = true
  | [], _ => by simp [nns]
  | x :: r, h => by
    simp only [cleans, Bool.and_eq_true] at h
    simp only [nns, Bool.and_eq_true]
    exact ⟨clean_nn x h.1, cleans_nn r h.2⟩
end
theorem cleans_of : ∀ {xs : List D}, (∀ x ∈ xs, clean x = true) → cleans xs = true
  | [], _ => by simp [cleans]
  | x :: r, h => by
    simp only [cleans, Bool.and_eq_true]
    exact ⟨h x List.mem_cons_self, cleans_of fun y hy => h y (List.mem_cons_of_mem _ hy)⟩
theorem cleans_mem : ∀ {xs : List D}, cleans xs = true → ∀ x ∈ xs, clean x = true
  | [], _, x, hx => by cases hx
  | y :: r, h, x, hx => by
    simp only [cleans, Bool.and_eq_true] at h
    rcases List.mem_cons.mp hx with rfl | hx
    · exact h.1
    · exact cleans_mem h.2 x hx
mutual
theorem plain_clean : ∀ (n : Nat) (d : D), plain n d = true → clean d = true
  | n, .non, _ => by simp [clean]
  | n, .bl _, _ => by simp [clean]
  | n, .int _, _ => by simp [clean]
  | n, .str s, h => by simp [clean]
  | 0, .tup xs, h => absurd h plain_tup0
  | 0, .lst xs, h => absurd h plain_lst0
  | n + 1, .tup xs, h => by simp only [clean]; exact plains_clean n xs (plain_tup h).2
  | n + 1, .lst xs, h => by simp only [clean]; exact plains_clean n xs (plain_lst h).2
  | n, .ty _, h => by cases n <;> simp [plain] at h
  | n, .cls _, h => by cases n <;> simp [plain] at h
  | n, .cell _, h => by cases n <;> simp [plain] at h
  | n, .obj _ _ _, h => by cases n <;> simp [plain] at h
  | n, .scr _, h => by cases n <;> simp [plain] at h
  | n, .fn _, h => by cases n <;> simp [plain] at h
  | n, .dK _ _, h => by cases n <;> simp [plain] at h
  | n, .dT _ _, h => by cases n <;> simp [plain] at h
  | n, .exn _ _ _, h => by cases n <;> simp [plain] at h
theorem plains_clean : ∀ (n : Nat) (ds : List D), plains n ds = true → cleans ds = true
  | n, [], _ => by simp [cleans]
  | n, x :: r, h => by
    rw [plains_cons, Bool.and_eq_true] at h
    simp only [cleans, Bool.and_eq_true]
    exact ⟨plain_clean n x h.1, plains_clean n r h.2⟩
end
def cleanM : MO → Bool
  | .lst xs => cleans xs
  | .ins _ _ xs => cleans xs
  | .dK _ xs => cleans xs
  | .dT _ xs => cleans xs
  | .tbl _ _ => true
def Clean (μ : Mu) : Prop := ∀ m ∈ μ, cleanM m = true
theorem cleanM_nn {n : Nat} {m : MO} (h : cleanM m = true) : nnM n m = true := by
  cases m <;> first | exact cleans_nn _ h | rfl
theorem Clean.set {μ : Mu} {i : Nat} {m : MO} (h : Clean μ) (hm : cleanM m = true) : Clean (μ.set i m) := fun x hx => by
  rcases List.mem_or_eq_of_mem_set hx with h1 | h1
  · exact h x h1
  · rw [h1]; exact hm
theorem mapM_some {f : D → Option D} : ∀ {xs : List D}, (∀ x ∈ xs, f x = some x) → xs.mapM f = some xs
  | [], _ => rfl
  | x :: r, h => by
    rw [List.mapM_cons, h x List.mem_cons_self, mapM_some fun y hy => h y (List.mem_cons_of_mem _ hy)]
    rfl
theorem frz_clean {n k : Nat} {μ : Mu} {d : D} (h : clean d = true) : frz n μ k d = some d := by
  cases k <;> simp only [frz, clean_nn d h, if_true]
theorem keep_clean {μ0 μ1 ν : Mu} (hl : μ1.length = μ0.length) (h : Clean μ1) : keepMu μ0 (μ1 ++ ν) = true := by
  unfold keepMu
  rw [← hl, List.take_left, Bool.or_eq_true]
  refine .inr (List.all_eq_true.mpr fun m hm => cleanM_nn (h m hm))
theorem fz_val {μ0 μ1 ν : Mu} {d : D} (hl : μ1.length = μ0.length) (h : Clean μ1) (hd : clean d = true) : fz μ0 (.ok d (μ1 ++ ν)) = .ok d μ1 := by
  unfold fz
  simp only
  by_cases c : (μ1 ++ ν).length ≤ μ0.length
  · rw [if_pos c]
    have e : ν = [] := by
      rw [List.length_append] at c
      exact List.length_eq_zero_iff.mp (by omega)
    rw [e, List.append_nil]
  · rw [if_neg c, if_pos (keep_clean hl h), frz_clean hd, okO_some, ← hl, List.take_left]
theorem fz_lst {μ0 μ1 ν : Mu} {xs : List D} (hl : μ1.length = μ0.length) (h : Clean μ1) (hx : cleans xs = true) : fz μ0 (.ok (.cell μ0.length) (μ1 ++ .lst xs :: ν)) = .ok (.lst xs) μ1 := by
  unfold fz
  simp only
  rw [if_neg (by rw [List.length_append, List.length_cons]; omega), if_pos (keep_clean hl h)]
  have e : (μ1 ++ .lst xs :: ν)[μ0.length]? = some (.lst xs) := by
    rw [← hl, List.getElem?_append_right (Nat.le_refl _), Nat.sub_self]
    rfl
  have e2 : frz μ0.length (μ1 ++ .lst xs :: ν) 8 (.cell μ0.length) = some (.lst xs) := by
    unfold frz
    rw [if_neg (by simp [nn])]
    simp only [e]
    rw [mapM_some fun x hx' => frz_clean (k := 7) (cleans_mem hx x hx')]
    rfl
  rw [e2, okO_some, ← hl, List.take_left]
theorem fz_obj {μ0 μ1 ν : Mu} {c : Str} {ns : List Str} {xs : List D} (hl : μ1.length = μ0.length) (h : Clean μ1) (hx : cleans xs = true) : fz μ0 (.ok (.cell μ0.length) (μ1 ++ .ins c ns xs :: ν)) = .ok (.obj c ns xs) μ1 := by
  unfold fz
  simp only
  rw [if_neg (by rw [List.length_append, List.length_cons]; omega), if_pos (keep_clean hl h)]
  have e : (μ1 ++ .ins c ns xs :: ν)[μ0.length]? = some (.ins c ns xs) := by
    rw [← hl, List.getElem?_append_right (Nat.le_refl _), Nat.sub_self]
    rfl
  have e2 : frz μ0.length (μ1 ++ .ins c ns xs :: ν) 8 (.cell μ0.length) = some (.obj c ns xs) := by
    unfold frz
    rw [if_neg (by simp [nn])]
    simp only [e]
    rw [mapM_some fun x hx' => frz_clean (k := 7) (cleans_mem hx x hx')]
    rfl
  rw [e2, okO_some, ← hl, List.take_left]
end
end DX

namespace DX
open PySem L2
noncomputable section
/-! ### texts by their signs -/
def wS (cs : List Nat) : Str := ⟨cs.toArray⟩
def sD (cs : List Nat) : D := .str (wS cs)
theorem wS_len {a : List Nat} : (wS a).length = a.length := by simp [wS, Str.length]
theorem wS_app {a b : List Nat} : wS a ++ wS b = wS (a ++ b) := by
  show Str.append (wS a) (wS b) = _
  simp [wS, Str.append]
theorem wS_inj {a b : List Nat} (h : wS a = wS b) : a = b := by
  have e := congrArg (fun s : Str => s.cps.toList) h
  simpa [wS] using e
theorem wS_of (s : Str) : wS s.cps.toList = s := by simp [wS]
theorem wS_cps {a : List Nat} : (wS a).cps.toList = a := by simp [wS]
theorem sD_add {a b : List Nat} {μ : Mu} (h : a.length + b.length ≤ 16777216) : addD (sD a) (sD b) μ = .ok (sD (a ++ b)) μ := by
  show chk ((wS a).length + (wS b).length) _ = _
  rw [chk_c (by rw [wS_len, wS_len]; exact h), wS_app]
  rfl
theorem sD_ix {a : List Nat} {i : Int} {μ : Mu} (h : a.length ≤ 16777216) : ixD (sD a) (.int i) μ = okO (atI a i) fun c => .ok (sD [c]) μ := by
  show chk (wS a).length (okO (atI (wS a).cps.toList i) _) = _
  rw [chk_c (by rw [wS_len]; exact h), wS_cps]
  rfl
theorem sD_len {a : List Nat} {μ : Mu} (h : a.length ≤ 16777216) : lenD [sD a] μ = .ok (.int a.length) μ := by
  show chk (wS a).length (Res.ok (D.int (wS a).length) μ) = _
  rw [chk_c (by rw [wS_len]; exact h), wS_len]
theorem sD_sl {a : List Nat} {lo hi : Option Int} {μ : Mu} (h : a.length ≤ 16777216) : slD (sD a) lo hi μ = .ok (sD (cut a lo hi)) μ := by
  show chk (wS a).length (Res.ok (D.str (cutS (wS a) lo hi)) μ) = _
  rw [chk_c (by rw [wS_len]; exact h)]
  have e : cutS (wS a) lo hi = wS (cut a lo hi) := by
    unfold cutS cut
    rw [wS_len, wS_cps]
    rfl
  rw [e]
  rfl
theorem sD_items {a : List Nat} : itemsOf (sD a) = some (a.map fun c => sD [c]) := by
  show some ((wS a).cps.toList.map _) = _
  rw [wS_cps]
  rfl
theorem sD_in {c : Nat} {z : List Nat} {f : Bool → Bool} {μ : Mu} : inSC f (sD [c]) (sD z) μ = .ok (.bl (f (decide (c ∈ z)))) μ := by
  show Res.ok (D.bl (f (strIn ⟨#[c]⟩ (wS z)))) μ = _
  rw [strIn_one, wS_cps]
theorem strsOf_sD : ∀ ws : List (List Nat), strsOf (ws.map sD) = some (ws.map wS)
  | [] => rfl
  | w :: r => by
    show (strsOf (r.map sD)).map (wS w :: ·) = _
    rw [strsOf_sD r]
    rfl
theorem wS_join (a : List Nat) (ws : List (List Nat)) : Txt.join (wS a) (ws.map wS) = wS (TL.joinL a ws) := SX.join_S a ws
theorem sD_join {a : List Nat} {ws : List (List Nat)} {μ : Mu} (h : (ws.map List.length).sum + ws.length * a.length ≤ 16777216) : joinD (wS a) (.lst (ws.map sD)) μ = .ok (sD (TL.joinL a ws)) μ := by
  unfold joinD
  simp only [seqOf, asL, okO_some, strsOf_sD]
  rw [grd_pos, wS_join]
  · rfl
  · rw [List.map_map, List.length_map, wS_len]
    have e : (fun x => x.length) ∘ wS = List.length := by
      funext w
      exact wS_len
    rw [e]
    exact h
theorem joinL_nil : ∀ ws : List (List Nat), TL.joinL [] ws = ws.flatten
  | [] => rfl
  | [w] => by simp [TL.joinL]
  | w :: v :: r => by
    have := joinL_nil (v :: r)
    simp only [TL.joinL, List.flatten_cons] at this ⊢
    rw [this]
    simp
def Sg (cs : List Nat) : Prop := ∀ c ∈ cs, c < 1114112
theorem Sg.ok {a : List Nat} (h : Sg a) : PyData.strOk (wS a) = true := by
  unfold PyData.strOk wS
  rw [List.all_toArray, List.all_eq_true]
  exact fun c hc => decide_eq_true (h c hc)
theorem sD_plain {n : Nat} {a : List Nat} (h : Sg a) : plain n (sD a) = true := by
  show plain n (.str (wS a)) = true
  rw [plain_str]
  exact h.ok
theorem sD_eqP {a b : List Nat} : eqP (sD a) (sD b) = decide (a = b) := by
  show (wS a == wS b) = _
  by_cases c : a = b
  · subst c; simp
  · have : wS a ≠ wS b := fun h => c (wS_inj h)
    rw [beq_eq_false_iff_ne.mpr this, decide_eq_false c]
theorem sD_eq {a b : List Nat} {μ : Mu} (ha : Sg a) (hb : Sg b) : eqD (sD a) (sD b) μ = .ok (.bl (decide (a = b))) μ := by
  rw [eqD_plain (sD_plain ha) (sD_plain hb), sD_eqP]
theorem sD_ne {a b : List Nat} {μ : Mu} (ha : Sg a) (hb : Sg b) : neD (sD a) (sD b) μ = .ok (.bl (!decide (a = b))) μ := by
  rw [neD_plain (sD_plain ha) (sD_plain hb), sD_eqP]
theorem foldl_app : ∀ (n : Nat) (a : List Nat) (acc : List Nat), (List.replicate n a.toArray).foldl (· ++ ·) acc.toArray = (acc ++ (List.replicate n a).flatten).toArray
  | 0, a, acc => by simp
  | n + 1, a, acc => by
    rw [List.replicate_succ, List.foldl_cons, List.append_toArray, foldl_app n a (acc ++ a), List.replicate_succ, List.flatten_cons, List.append_assoc]
theorem wS_rep (n : Nat) (a : List Nat) : strRep n (wS a) = wS (List.replicate n a).flatten := by
  unfold strRep wS
  have := foldl_app n a []
  simp only [List.nil_append] at this
  exact congrArg Str.mk this
theorem sD_mul {a : List Nat} {k : Int} {μ : Mu} (h1 : -1000 ≤ k) (h2 : k ≤ 1000) (h3 : a.length ≤ 1000) : mulD (sD a) (.int k) μ = .ok (sD (List.replicate k.toNat a).flatten) μ := by
  show grd (-1000 ≤ k ∧ k ≤ 1000 ∧ (wS a).length ≤ 1000) (Res.ok (D.str (strRep k.toNat (wS a))) μ) = _
  rw [grd_pos ⟨h1, h2, by rw [wS_len]; exact h3⟩, wS_rep]
  rfl
abbrev abc : List Nat := [97, 98, 99, 100, 101, 102, 103, 104, 105, 106, 107, 108, 109, 110, 111, 112, 113, 114, 115, 116, 117, 118, 119, 120, 121, 122]
theorem lit_abc : D.str "abcdefghijklmnopqrstuvwxyz" = sD abc := by
  have : ("abcdefghijklmnopqrstuvwxyz" : Str) = wS abc := by decide +kernel
  unfold sD
  rw [← this]
theorem lit_e : ("" : Str) = wS [] := by decide +kernel
theorem abc_at {i : Int} (h0 : 0 ≤ i) (h1 : i < 26) : atI abc i = some (97 + i.toNat) := by
  obtain ⟨k, rfl⟩ : ∃ k : Nat, i = k := ⟨i.toNat, by omega⟩
  have hk : k < 26 := by omega
  rw [Int.toNat_natCast]
  refine atI_nat ?_
  have : ∀ k : Fin 26, abc[k.val]? = some (97 + k.val) := by decide
  exact this ⟨k, hk⟩
end
end DX

namespace Lw
open PySem L2 DX
noncomputable section
def top (i : Nat) : Stmt := PySem.Challenge.pw_evenbarter_k05_barters_of_markets.main.body.getD i (.Pass ⟨0, 0, 0, 0⟩)
def meth (i j : Nat) : Stmt := match top i with
  | .ClassDef _ _ _ b _ _ _ _ _ _ _ => b.getD j (.Pass ⟨0, 0, 0, 0⟩)
  | s => s
/-! ### what each def does to data -/
def Q1_is_thing : DE := (dOp inSD (dVar 1) (dC (.str "abcdefghijklmnopqrstuvwxyz")))
def L1_is_thing : DE := (dLc (dSeqI (dVar 0)) (dName 1) dYes Q1_is_thing [1])
def T_is_thing : DS := (dRet (dAndV (dChain (cmpD fLe) (cmpD fLe) (dC (.int 1)) (dCB lenD (dCons (dVar 0) dNil)) (dC (.int 6))) (dCB allD (dCons L1_is_thing dNil))))
def f_is_thing : FS := defR fz 1 2 T_is_thing
def B1_check_things : DS := (dIf (dOr (dB (dOp eqD (dVar 1) (dC (.int 4)))) (dOr (dNot (dB (dCB f_is_thing (dCons (dVar 2) dNil)))) (dB (dOp inD (dVar 2) (dSl slD (dVar 0) dNoPart (dPart (dVar 1))))))) (dRaise "InvalidThing" "at" "InvalidThing" (dCons (dVar 1) dNil)) dNext)
def T_check_things : DS := (dSeq (dFor (dEnum (dCons (dVar 0) dNil)) (dGTup 2 (dGCons (dName 1) (dGCons (dName 2) dGNil)))
    B1_check_things)
  (dIf (dB (dOp eqD (dCB lenD (dCons (dVar 0) dNil)) (dC (.int 0)))) (dRaise "InvalidThing" "at" "InvalidThing" (dCons (dC (.int 0)) dNil)) dNext))
def f_check_things : FS := defR fz 1 3 T_check_things
def T_is_count : DS := (dRet (dAndV (dCB isiD (dCons (dVar 0) (dCons (dC (.ty "int")) dNil))) (dAndV (dNotV (dCB isiD (dCons (dVar 0) (dCons (dC (.ty "bool")) dNil)))) (dChain (cmpD fLe) (cmpD fLe) (dC (.int 0)) (dVar 0) (dVar 1)))))
def f_is_count : FS := defR fz 2 2 T_is_count
def Q1_is_bundle : DE := (dCB f_is_count (dCons (dVar 3) (dCons (dVar 2) dNil)))
def L1_is_bundle : DE := (dLc (dSeqI (dVar 0)) (dName 3) dYes Q1_is_bundle [3])
def T_is_bundle : DS := (dRet (dAndV (dOp eqD (dCB lenD (dCons (dVar 0) dNil)) (dVar 1)) (dCB allD (dCons L1_is_bundle dNil))))
def f_is_bundle : FS := defR fz 3 4 T_is_bundle
def Q1_is_barter : DE := (dCB isiD (dCons (dVar 2) (dCons (dC (.ty "tuple")) dNil)))
def L1_is_barter : DE := (dLc (dSeqI (dVar 0)) (dName 2) dYes Q1_is_barter [2])
def Q2_is_barter : DE := (dCB f_is_bundle (dCons (dVar 2) (dCons (dVar 1) (dCons (dC (.int 9)) dNil))))
def L2_is_barter : DE := (dLc (dSeqI (dVar 0)) (dName 2) dYes Q2_is_barter [2])
def T_is_barter : DS := (dSeq (dIf (dOr (dB (dOp neD (dCB lenD (dCons (dVar 0) dNil)) (dC (.int 2)))) (dNot (dB (dCB allD (dCons L1_is_barter dNil))))) (dRet (dC (.bl false))) dNext)
  (dRet (dAndV (dCB allD (dCons L2_is_barter dNil)) (dOp neD (dOp ixD (dVar 0) (dC (.int 0))) (dOp ixD (dVar 0) (dC (.int 1)))))))
def f_is_barter : FS := defR fz 2 3 T_is_barter
def B1_Market_init : DS := (dIf (dOr (dB (dOp eqD (dVar 3) (dC (.int 8)))) (dNot (dB (dCB f_is_barter (dCons (dVar 4) (dCons (dCB lenD (dCons (dVar 1) dNil)) dNil)))))) (dRaise "InvalidBarter" "at" "InvalidBarter" (dCons (dVar 3) dNil)) dNext)
def T_Market_init : DS := (dSeq (dDrop (dCB f_check_things (dCons (dCB listD (dCons (dVar 1) dNil)) dNil)))
  (dSeq (dFor (dEnum (dCons (dVar 2) dNil)) (dGTup 2 (dGCons (dName 3) (dGCons (dName 4) dGNil)))
    B1_Market_init)
  (dSeq (dFldS "Market" (dVar 0) (dCB listD (dCons (dVar 1) dNil)) "thing_row")
  (dFldS "Market" (dVar 0) (dCB listD (dCons (dVar 2) dNil)) "barter_row"))))
def f_Market_init : FS := starR 2 (defR fz 3 5 T_Market_init)
def T_Market_len : DS := (dRet (dCB lenD (dCons (dFld "Market" (dVar 0) "barter_row") dNil)))
def f_Market_len : FS := defR fz 1 1 T_Market_len
def T_Market_barters : DS := (dRet (dCB listD (dCons (dFld "Market" (dVar 0) "barter_row") dNil)))
def f_Market_barters : FS := defR fz 1 1 T_Market_barters
def T_law_draw : DS := (dSeq (dIf (dAnd (dB (dOp ltD (dOp ixD (dVar 0) (dC (.int 2))) (dC (.int 1)))) (dB (dOp ltD (dOp ixD (dVar 0) (dC (.int 1))) (dCB lenD (dCons (dOp ixD (dVar 0) (dC (.int 0))) dNil))))) (dSeq (dAsg (dOp ixD (dOp ixD (dVar 0) (dC (.int 0))) (dOp ixD (dVar 0) (dC (.int 1)))) (dName 2))
  (dSeq (dAsg (dOp addD (dOp ixD (dVar 0) (dC (.int 1))) (dC (.int 1))) (dGSub (dVar 0) (dC (.int 1))))
  (dIf (dB (dOp (cmpD fGe) (dVar 2) (dOp powD (dC (.int 10)) (dC (.int 18))))) (dAsg (dVar 2) (dGSub (dVar 0) (dC (.int 2)))) (dAsg (dOp modD (dCB intD (dCons (dOp addD (dOp addD (dOp mulD (dOp ixD (dVar 0) (dC (.int 3))) (dC (.int 40692))) (dOp mulD (dVar 2) (dC (.int 48271)))) (dC (.int 17))) dNil)) (dC (.int 2147483647))) (dGSub (dVar 0) (dC (.int 3))))))) dNext)
  (dSeq (dIf (dB (dOp (cmpD fGt) (dOp ixD (dVar 0) (dC (.int 2))) (dC (.int 0)))) (dSeq (dAsg (dOp modD (dCB intD (dCons (dOp ixD (dVar 0) (dC (.int 2))) dNil)) (dVar 1)) (dName 3))
  (dSeq (dAsg (dOp divD (dOp ixD (dVar 0) (dC (.int 2))) (dVar 1)) (dGSub (dVar 0) (dC (.int 2))))
  (dRet (dVar 3)))) dNext)
  (dSeq (dAsg (dOp modD (dCB intD (dCons (dOp addD (dOp mulD (dOp ixD (dVar 0) (dC (.int 3))) (dC (.int 16807))) (dC (.int 11))) dNil)) (dC (.int 2147483647))) (dGSub (dVar 0) (dC (.int 3))))
  (dRet (dOp modD (dCB intD (dCons (dOp divD (dOp modD (dCB intD (dCons (dOp mulD (dOp ixD (dVar 0) (dC (.int 3))) (dOp ixD (dVar 0) (dC (.int 3)))) dNil)) (dC (.int 998244353))) (dC (.int 7))) dNil)) (dVar 1))))))
def f_law_draw : FS := defR fz 2 4 T_law_draw
def T_law_any : DS := (dRet (dOp ixD (dVar 1) (dCB f_law_draw (dCons (dVar 0) (dCons (dCB lenD (dCons (dVar 1) dNil)) dNil)))))
def f_law_any : FS := defR fz 2 2 T_law_any
def Q1_law_plus : DE := (dOp addD (dVar 2) (dVar 3))
def L1_law_plus : DE := (dLc (dZip2 (dCons (dVar 0) (dCons (dVar 1) dNil))) (dGTup 2 (dGCons (dName 2) (dGCons (dName 3) dGNil))) dYes Q1_law_plus [2, 3])
def T_law_plus : DS := (dRet (dCB tupD (dCons L1_law_plus dNil)))
def f_law_plus : FS := defR fz 2 4 T_law_plus
def Q1_law_some_bundle : DE := (dCB f_law_draw (dCons (dVar 0) (dCons (dOp addD (dVar 2) (dC (.int 1))) dNil)))
def L1_law_some_bundle : DE := (dLc (dRng1 (dCons (dVar 1) dNil)) (dName 3) dYes Q1_law_some_bundle [3])
def T_law_some_bundle : DS := (dRet (dCB tupD (dCons L1_law_some_bundle dNil)))
def f_law_some_bundle : FS := defR fz 3 4 T_law_some_bundle
def B1_law_barters : DS := (dSeq (dPar 6 7 (dCons (dCB f_law_some_bundle (dCons (dVar 0) (dCons (dVar 1) (dCons (dVar 3) dNil)))) (dCons (dCB f_law_some_bundle (dCons (dVar 0) (dCons (dVar 1) (dCons (dVar 3) dNil)))) dNil)))
  (dSeq (dIf (dB (dOp eqD (dVar 6) (dVar 7))) (dAsg (dIfE (dB (dOp ltD (dOp ixD (dVar 6) (dC (.int 0))) (dC (.int 9)))) (dCB f_law_plus (dCons (dVar 6) (dCons (dOp addD (dTup (dCons (dC (.int 1)) dNil)) (dOp mulD (dTup (dCons (dC (.int 0)) dNil)) (dOp subD (dVar 1) (dC (.int 1))))) dNil))) (dOp addD (dTup (dCons (dC (.int 0)) dNil)) (dSl slD (dVar 6) (dPart (dC (.int 1))) dNoPart))) (dName 7)) dNext)
  (dDrop (dAppend (dVar 4) (dCons (dTup (dCons (dVar 6) (dCons (dVar 7) dNil))) dNil)))))
def T_law_barters : DS := (dSeq (dAsg (dLstM dNil) (dName 4))
  (dSeq (dFor (dRng1 (dCons (dVar 2) dNil)) (dName 5)
    B1_law_barters)
  (dRet (dVar 4))))
def f_law_barters : FS := defR kp 4 8 T_law_barters
def Q1_law_begin : DE := (dCB intD (dCons (dVar 1) dNil))
def L1_law_begin : DE := (dLc (dSeqI (dSl slD (dVar 0) dNoPart (dPart (dC (.int 63))))) (dName 1) dYes Q1_law_begin [1])
def B1_law_begin : DS := (dAsg (dOp modD (dCB intD (dCons (dOp addD (dOp mulD (dVar 3) (dC (.int 69621))) (dVar 1)) dNil)) (dC (.int 2147483629))) (dName 3))
def T_law_begin : DS := (dSeq (dAsg L1_law_begin (dName 2))
  (dSeq (dAsg (dOp addD (dC (.int 3824)) (dOp mulD (dC (.int 61)) (dCB lenD (dCons (dVar 2) dNil)))) (dName 3))
  (dSeq (dFor (dSeqI (dVar 2)) (dName 1)
    B1_law_begin)
  (dRet (dLstM (dCons (dVar 2) (dCons (dC (.int 0)) (dCons (dC (.int 0)) (dCons (dVar 3) dNil)))))))))
def f_law_begin : FS := defR kp 1 4 T_law_begin
def T_law_bent_bundle : DS := (dSeq (dAsg (dCB f_law_draw (dCons (dVar 0) (dCons (dCB lenD (dCons (dVar 1) dNil)) dNil))) (dName 3))
  (dSeq (dAsg (dCB f_law_any (dCons (dVar 0) (dCons (dLst (dCons (dUn negD (dC (.int 1))) (dCons (dOp addD (dVar 2) (dC (.int 1))) (dCons (dVar 2) (dCons (dOp powD (dC (.int 10)) (dC (.int 9))) (dCons (dC (.bl true)) (dCons (dC .non) (dCons (dC (.str "a")) (dCons (dC (.int 0)) dNil))))))))) dNil))) (dName 4))
  (dRet (dCB f_law_any (dCons (dVar 0) (dCons (dLst (dCons (dOp addD (dOp addD (dSl slD (dVar 1) dNoPart (dPart (dVar 3))) (dTup (dCons (dVar 4) dNil))) (dSl slD (dVar 1) (dPart (dOp addD (dVar 3) (dC (.int 1)))) dNoPart)) (dCons (dOp addD (dVar 1) (dTup (dCons (dC (.int 0)) dNil))) (dCons (dSl slD (dVar 1) (dPart (dC (.int 1))) dNoPart) (dCons (dTup dNil) dNil))))) dNil))))))
def f_law_bent_bundle : FS := defR fz 3 5 T_law_bent_bundle
def T_law_bent_barter : DS := (dSeq (dAsg (dVar 1) (dGTup 2 (dGCons (dName 2) (dGCons (dName 3) dGNil))))
  (dSeq (dAsg (dCB f_law_bent_bundle (dCons (dVar 0) (dCons (dVar 2) (dCons (dC (.int 9)) dNil)))) (dName 4))
  (dSeq (dAsg (dLst (dCons (dTup (dCons (dVar 4) (dCons (dVar 3) dNil))) (dCons (dTup (dCons (dVar 2) (dCons (dVar 4) dNil))) (dCons (dTup (dCons (dVar 2) (dCons (dVar 2) dNil))) (dCons (dTup (dCons (dVar 2) dNil)) (dCons (dTup dNil) (dCons (dTup (dCons (dVar 2) (dCons (dVar 3) (dCons (dVar 2) dNil)))) (dCons (dTup (dCons (dC .non) (dCons (dVar 3) dNil))) dNil)))))))) (dName 5))
  (dRet (dCB f_law_any (dCons (dVar 0) (dCons (dOp addD (dVar 5) (dLst (dCons (dTup (dCons (dVar 2) (dCons (dC (.str "ab")) dNil))) (dCons (dTup (dCons (dVar 3) (dCons (dVar 2) dNil))) dNil)))) dNil)))))))
def f_law_bent_barter : FS := defR fz 2 6 T_law_bent_barter
def T_law_field : DS := (dSeq (dIf (dB (dOp inD (dFldX ["InvalidThing", "InvalidBarter"] (dVar 0) "tag") (dTup (dCons (dC (.str "InvalidThing")) (dCons (dC (.str "InvalidBarter")) (dCons (dC (.str "InvalidBundle")) (dCons (dC (.str "ParseError")) (dCons (dC (.str "NotBalanced")) dNil)))))))) (dRet (dFldX ["InvalidThing", "InvalidBarter"] (dVar 0) "at")) dNext)
  (dSeq (dIf (dB (dOp inD (dFldX ["InvalidThing", "InvalidBarter"] (dVar 0) "tag") (dTup (dCons (dC (.str "TooLarge")) (dCons (dC (.str "TooLong")) (dCons (dC (.str "TooWide")) (dCons (dC (.str "CapacityExceeded")) dNil))))))) (dRet (dFldX [] (dVar 0) "limit")) dNext)
  (dSeq (dIf (dB (dOp inD (dFldX ["InvalidThing", "InvalidBarter"] (dVar 0) "tag") (dTup (dCons (dC (.str "InvalidNumber")) (dCons (dC (.str "InvalidLimit")) dNil))))) (dRet (dFldX [] (dVar 0) "given")) dNext)
  (dSeq (dIf (dB (dOp inD (dFldX ["InvalidThing", "InvalidBarter"] (dVar 0) "tag") (dTup (dCons (dC (.str "InvalidName")) (dCons (dC (.str "DuplicateName")) (dCons (dC (.str "DuplicatePin")) (dCons (dC (.str "UnknownPin")) (dCons (dC (.str "UnknownName")) dNil)))))))) (dRet (dFldX [] (dVar 0) "name")) dNext)
  (dSeq (dIf (dB (dOp eqD (dFldX ["InvalidThing", "InvalidBarter"] (dVar 0) "tag") (dC (.str "UnknownThing")))) (dRet (dFldX [] (dVar 0) "word")) dNext)
  (dSeq (dIf (dB (dOp eqD (dFldX ["InvalidThing", "InvalidBarter"] (dVar 0) "tag") (dC (.str "UnknownIndex")))) (dRet (dFldX [] (dVar 0) "index")) dNext)
  (dSeq (dIf (dB (dOp eqD (dFldX ["InvalidThing", "InvalidBarter"] (dVar 0) "tag") (dC (.str "NoRoom")))) (dRet (dFldX [] (dVar 0) "room")) dNext)
  (dSeq (dIf (dB (dOp eqD (dFldX ["InvalidThing", "InvalidBarter"] (dVar 0) "tag") (dC (.str "NotEven")))) (dRet (dFldX [] (dVar 0) "rests")) dNext)
  (dSeq (dIf (dB (dOp eqD (dFldX ["InvalidThing", "InvalidBarter"] (dVar 0) "tag") (dC (.str "Endless")))) (dRet (dFldX [] (dVar 0) "thing")) dNext)
  (dSeq (dIf (dB (dOp eqD (dFldX ["InvalidThing", "InvalidBarter"] (dVar 0) "tag") (dC (.str "InvalidCommand")))) (dRet (dFldX [] (dVar 0) "first")) dNext)
  (dRet (dIfE (dB (dOp eqD (dFldX ["InvalidThing", "InvalidBarter"] (dVar 0) "tag") (dC (.str "Broken")))) (dTup (dCons (dFldX [] (dVar 0) "name") (dCons (dFldX [] (dVar 0) "one") (dCons (dFldX [] (dVar 0) "other") dNil)))) (dC .non)))))))))))))
def f_law_field : FS := defR fz 1 1 T_law_field
def Q1_law_is_bundle : DE := (dAndV (dCB isiD (dCons (dVar 3) (dCons (dC (.ty "int")) dNil))) (dAndV (dNotV (dCB isiD (dCons (dVar 3) (dCons (dC (.ty "bool")) dNil)))) (dChain (cmpD fLe) (cmpD fLe) (dC (.int 0)) (dVar 3) (dVar 2))))
def L1_law_is_bundle : DE := (dLc (dSeqI (dVar 0)) (dName 3) dYes Q1_law_is_bundle [3])
def T_law_is_bundle : DS := (dSeq (dIf (dOr (dNot (dB (dCB isiD (dCons (dVar 0) (dCons (dC (.ty "tuple")) dNil))))) (dB (dOp neD (dCB lenD (dCons (dVar 0) dNil)) (dVar 1)))) (dRet (dC (.bl false))) dNext)
  (dRet (dCB allD (dCons L1_law_is_bundle dNil))))
def f_law_is_bundle : FS := defR fz 3 4 T_law_is_bundle
def Q1_law_is_barter : DE := (dCB f_law_is_bundle (dCons (dVar 2) (dCons (dVar 1) (dCons (dC (.int 9)) dNil))))
def L1_law_is_barter : DE := (dLc (dSeqI (dVar 0)) (dName 2) dYes Q1_law_is_barter [2])
def T_law_is_barter : DS := (dSeq (dIf (dOr (dB (dOp neD (dCB lenD (dCons (dVar 0) dNil)) (dC (.int 2)))) (dNot (dB (dCB allD (dCons L1_law_is_barter dNil))))) (dRet (dC (.bl false))) dNext)
  (dRet (dOp neD (dOp ixD (dVar 0) (dC (.int 0))) (dOp ixD (dVar 0) (dC (.int 1))))))
def f_law_is_barter : FS := defR fz 2 3 T_law_is_barter
def T_law_made : DS := (dSeq (dIf (dB (dOp eqD (dCB lenD (dCons (dVar 1) dNil)) (dC (.int 0)))) (dRet (dMake fz "Market" f_Market_init (dCons (dVar 0) dNil))) dNext)
  (dSeq (dIf (dB (dOp eqD (dCB lenD (dCons (dVar 1) dNil)) (dC (.int 1)))) (dRet (dMake fz "Market" f_Market_init (dCons (dVar 0) (dCons (dOp ixD (dVar 1) (dC (.int 0))) dNil)))) dNext)
  (dSeq (dIf (dB (dOp eqD (dCB lenD (dCons (dVar 1) dNil)) (dC (.int 2)))) (dRet (dMake fz "Market" f_Market_init (dCons (dVar 0) (dCons (dOp ixD (dVar 1) (dC (.int 0))) (dCons (dOp ixD (dVar 1) (dC (.int 1))) dNil))))) dNext)
  (dSeq (dIf (dB (dOp eqD (dCB lenD (dCons (dVar 1) dNil)) (dC (.int 3)))) (dRet (dMake fz "Market" f_Market_init (dCons (dVar 0) (dCons (dOp ixD (dVar 1) (dC (.int 0))) (dCons (dOp ixD (dVar 1) (dC (.int 1))) (dCons (dOp ixD (dVar 1) (dC (.int 2))) dNil)))))) dNext)
  (dSeq (dAsg (dSl slD (dVar 1) dNoPart (dPart (dC (.int 4)))) (dGUnl 4 (dGCons (dName 2) (dGCons (dName 3) (dGCons (dName 4) (dGCons (dName 5) dGNil))))))
  (dSeq (dIf (dB (dOp eqD (dCB lenD (dCons (dVar 1) dNil)) (dC (.int 4)))) (dRet (dMake fz "Market" f_Market_init (dCons (dVar 0) (dCons (dVar 2) (dCons (dVar 3) (dCons (dVar 4) (dCons (dVar 5) dNil))))))) dNext)
  (dSeq (dAsg (dSl slD (dOp addD (dSl slD (dVar 1) (dPart (dC (.int 4))) dNoPart) (dSl slD (dVar 1) dNoPart (dPart (dC (.int 4))))) dNoPart (dPart (dC (.int 4)))) (dGUnl 4 (dGCons (dName 6) (dGCons (dName 7) (dGCons (dName 8) (dGCons (dName 9) dGNil))))))
  (dSeq (dIf (dB (dOp eqD (dCB lenD (dCons (dVar 1) dNil)) (dC (.int 8)))) (dRet (dMake fz "Market" f_Market_init (dCons (dVar 0) (dCons (dVar 2) (dCons (dVar 3) (dCons (dVar 4) (dCons (dVar 5) (dCons (dVar 6) (dCons (dVar 7) (dCons (dVar 8) (dCons (dVar 9) dNil))))))))))) dNext)
  (dRet (dMake fz "Market" f_Market_init (dCons (dVar 0) (dCons (dVar 2) (dCons (dVar 3) (dCons (dVar 4) (dCons (dVar 5) (dCons (dVar 6) (dCons (dVar 7) (dCons (dVar 8) (dCons (dVar 9) (dCons (dOp ixD (dVar 1) (dUn negD (dC (.int 1)))) dNil))))))))))))))))))))
def f_law_made : FS := defR fz 2 10 T_law_made
def T_law_same (g_law_same : FS) : DS := (dSeq (dIf (dOr (dB (dIsN (dVar 1))) (dB (dIsN (dVar 0)))) (dRet (dAndV (dIsN (dVar 0)) (dIsN (dVar 1)))) dNext)
  (dSeq (dIf (dOr (dB (dCB isiD (dCons (dVar 1) (dCons (dC (.ty "bool")) dNil)))) (dB (dCB isiD (dCons (dVar 0) (dCons (dC (.ty "bool")) dNil))))) (dRet (dAndV (dCB isiD (dCons (dVar 1) (dCons (dC (.ty "bool")) dNil))) (dAndV (dCB isiD (dCons (dVar 0) (dCons (dC (.ty "bool")) dNil))) (dOp eqD (dVar 0) (dVar 1))))) dNext)
  (dSeq (dIf (dOr (dB (dCB isiD (dCons (dVar 1) (dCons (dC (.ty "int")) dNil)))) (dB (dCB isiD (dCons (dVar 1) (dCons (dC (.ty "str")) dNil))))) (dSeq (dAsg (dAndV (dOp eqD (dCB isiD (dCons (dVar 0) (dCons (dC (.ty "int")) dNil))) (dCB isiD (dCons (dVar 1) (dCons (dC (.ty "int")) dNil)))) (dOp eqD (dCB isiD (dCons (dVar 0) (dCons (dC (.ty "str")) dNil))) (dCB isiD (dCons (dVar 1) (dCons (dC (.ty "str")) dNil))))) (dName 2))
  (dRet (dAndV (dVar 2) (dOp eqD (dVar 0) (dVar 1))))) dNext)
  (dSeq (dIf (dOr (dB (dOp neD (dCB isiD (dCons (dVar 1) (dCons (dC (.ty "list")) dNil))) (dCB isiD (dCons (dVar 0) (dCons (dC (.ty "list")) dNil))))) (dB (dOp neD (dCB isiD (dCons (dVar 1) (dCons (dC (.ty "tuple")) dNil))) (dCB isiD (dCons (dVar 0) (dCons (dC (.ty "tuple")) dNil)))))) (dRet (dC (.bl false))) dNext)
  (dRet (dAndV (dOp eqD (dCB lenD (dCons (dVar 0) dNil)) (dCB lenD (dCons (dVar 1) dNil))) (dCB allD (dCons (dLc (dZip2 (dCons (dVar 0) (dCons (dVar 1) dNil))) (dGTup 2 (dGCons (dName 3) (dGCons (dName 4) dGNil))) dYes (dCB g_law_same (dCons (dVar 3) (dCons (dVar 4) dNil))) [3, 4]) dNil))))))))
def f_law_same : Nat → FS
  | 0 => fun _ _ => .bad
  | n + 1 => defR fz 2 5 (T_law_same (f_law_same n))
def Q1_law_some_things : DE := (dOp ixD (dVar 2) (dCB f_law_draw (dCons (dVar 0) (dCons (dC (.int 26)) dNil))))
def L1_law_some_things : DE := (dLc (dRng1 (dCons (dCB f_law_draw (dCons (dVar 0) (dCons (dC (.int 6)) dNil))) dNil)) (dName 8) dYes Q1_law_some_things [8])
def Q2_law_some_things : DE := (dOp addD (dOp addD (dSl slD (dVar 3) dNoPart (dPart (dVar 4))) (dOp ixD (dVar 2) (dOp modD (dCB intD (dCons (dOp addD (dVar 5) (dOp mulD (dC (.int 7)) (dVar 8))) dNil)) (dC (.int 26))))) (dSl slD (dVar 3) (dPart (dVar 4)) dNoPart))
def L2_law_some_things : DE := (dLc (dRng1 (dCons (dVar 1) dNil)) (dName 8) dYes Q2_law_some_things [8])
def Q3_law_some_things : DE := (dOp ixD (dLst (dCons (dVar 7) (dCons (dOp addD (dVar 7) (dVar 7)) (dCons (dOp addD (dOp ixD (dVar 2) (dOp modD (dCB intD (dCons (dOp addD (dVar 5) (dC (.int 9))) dNil)) (dC (.int 26)))) (dSl slD (dVar 3) dNoPart (dPart (dC (.int 3))))) (dCons (dOp addD (dOp mulD (dVar 7) (dC (.int 4))) (dOp ixD (dVar 2) (dOp modD (dCB intD (dCons (dOp addD (dVar 5) (dC (.int 5))) dNil)) (dC (.int 26))))) dNil))))) (dVar 8))
def L3_law_some_things : DE := (dLc (dRng1 (dCons (dVar 1) dNil)) (dName 8) dYes Q3_law_some_things [8])
def T_law_some_things : DS := (dSeq (dAsg (dC (.str "abcdefghijklmnopqrstuvwxyz")) (dName 2))
  (dSeq (dAsg (dM1 joinD (dC (.str "")) L1_law_some_things) (dName 3))
  (dSeq (dAsg (dTup (dCons (dCB f_law_draw (dCons (dVar 0) (dCons (dOp addD (dCB lenD (dCons (dVar 3) dNil)) (dC (.int 1))) dNil))) (dCons (dCB f_law_draw (dCons (dVar 0) (dCons (dC (.int 26)) dNil))) (dCons (dCB f_law_draw (dCons (dVar 0) (dCons (dC (.int 2)) dNil))) dNil)))) (dGTup 3 (dGCons (dName 4) (dGCons (dName 5) (dGCons (dName 6) dGNil)))))
  (dSeq (dIf (dB (dOp eqD (dVar 6) (dC (.int 0)))) (dRet L2_law_some_things) dNext)
  (dSeq (dAsg (dOp ixD (dVar 2) (dVar 5)) (dName 7))
  (dRet L3_law_some_things))))))
def f_law_some_things : FS := defR fz 2 9 T_law_some_things
def U_law_why : DS := (dRet (dTup (dCons (dFldX ["InvalidThing", "InvalidBarter"] (dVar 1) "tag") (dCons (dCB f_law_field (dCons (dVar 1) dNil)) dNil))))
def B1_law : DS := (dIf (dB (dOp neD (dVar 10) (dLst dNil))) (dSeq (dAsg (dCB f_law_draw (dCons (dVar 1) (dCons (dCB lenD (dCons (dVar 10) dNil)) dNil))) (dName 7))
  (dAsg (dCB f_law_bent_barter (dCons (dVar 1) (dCons (dOp ixD (dVar 5) (dVar 7)) dNil))) (dGSub (dVar 10) (dVar 7)))) dNext)
def W1_law : DTs := (dOr (dB (dOp eqD (dVar 12) (dC (.int 8)))) (dNot (dB (dCB f_law_is_barter (dCons (dOp ixD (dVar 10) (dVar 12)) (dCons (dVar 3) dNil))))))
def Q1_law : DE := (dVar 12)
def L1_law : DE := (dLc (dRng1 (dCons (dCB lenD (dCons (dVar 10) dNil)) dNil)) (dName 12) W1_law Q1_law [12])
def Y1_law : DE := (dCB f_law_made (dCons (dVar 11) (dCons (dVar 10) dNil)))
def S1_law : DS := (dSeq (dAsg L1_law (dName 8))
  (dSeq (dAsg (dWhy 0 "law" "law.<locals>.<lambda>" ["InvalidThing", "InvalidBarter"] Y1_law U_law_why) (dName 9))
  (dIf (dB (dOp neD (dVar 8) (dLst dNil))) (dIf (dB (dOp neD (dVar 9) (dTup (dCons (dC (.str "InvalidBarter")) (dCons (dOp ixD (dVar 8) (dC (.int 0))) dNil))))) (dRet (dC (.bl false))) dNext) (dIf (dOr (dB (dOp neD (dOp ixD (dVar 9) (dC (.int 0))) (dC (.str "")))) (dNot (dB (dCallP (f_law_same 12) (dCons (dLst (dCons (dMeth "Market" "barters" f_Market_barters (dOp ixD (dVar 9) (dC (.int 1))) dNil) (dCons (dLenOf (dMeth "Market" "__len__" f_Market_len (dOp ixD (dVar 9) (dC (.int 1))) dNil)) dNil))) (dCons (dLst (dCons (dVar 10) (dCons (dCB lenD (dCons (dVar 10) dNil)) dNil))) dNil)))))) (dRet (dC (.bl false))) dNext))))
def B2_law : DS := (dSeq (dAsg (dOp addD (dC (.int 1)) (dCB f_law_draw (dCons (dVar 1) (dCons (dC (.int 4)) dNil)))) (dName 3))
  (dSeq (dAsg (dTup (dCons (dCB f_law_some_things (dCons (dVar 1) (dCons (dVar 3) dNil))) (dCons (dCB f_law_any (dCons (dVar 1) (dCons (dLst (dCons (dC (.int 0)) (dCons (dC (.int 1)) (dCons (dC (.int 2)) (dCons (dC (.int 3)) (dCons (dC (.int 4)) (dCons (dC (.int 8)) (dCons (dC (.int 9)) dNil)))))))) dNil))) dNil))) (dGTup 2 (dGCons (dName 11) (dGCons (dName 4) dGNil))))
  (dSeq (dAsg (dCB f_law_barters (dCons (dVar 1) (dCons (dVar 3) (dCons (dVar 4) (dCons (dC (.int 9)) dNil))))) (dName 10))
  (dSeq (dAsg (dCB listD (dCons (dVar 10) dNil)) (dName 5))
  (dSeq (dFor (dRng1 (dCons (dCB f_law_draw (dCons (dVar 1) (dCons (dC (.int 3)) dNil))) dNil)) (dName 6)
    B1_law)
  S1_law)))))
def Y2_law : DE := (dMake fz "Market" f_Market_init (dCons (dLst (dCons (dC (.str "a")) dNil)) (dCons (dTup (dCons (dTup (dCons (dC (.int 9)) dNil)) (dCons (dTup (dCons (dC (.int 0)) dNil)) dNil))) dNil)))
def Y3_law : DE := (dMake fz "Market" f_Market_init (dCons (dLst (dCons (dC (.str "a")) (dCons (dC (.str "A")) dNil))) (dCons (dTup dNil) dNil)))
def S2_law : DS := (dSeq (dAsg (dLst (dCons (dWhy 0 "law" "law.<locals>.<lambda>" ["InvalidThing", "InvalidBarter"] Y3_law U_law_why) (dCons (dWhy 0 "law" "law.<locals>.<lambda>" ["InvalidThing", "InvalidBarter"] Y2_law U_law_why) dNil))) (dName 9))
  (dRet (dAndV (dOp eqD (dOp ixD (dVar 9) (dC (.int 0))) (dTup (dCons (dC (.str "InvalidThing")) (dCons (dC (.int 1)) dNil)))) (dAndV (dOp eqD (dOp ixD (dOp ixD (dVar 9) (dC (.int 1))) (dC (.int 0))) (dC (.str ""))) (dOp eqD (dC (.int 8)) (dC (.int 8)))))))
def T_law : DS := (dSeq (dAsg (dCB f_law_begin (dCons (dVar 0) dNil)) (dName 1))
  (dSeq (dFor (dRng1 (dCons (dC (.int 4)) dNil)) (dName 2)
    B2_law)
  S2_law))
def f_law : FS := defR fz 1 13 T_law
abbrev s_is_thing : Stmt := top 22
abbrev s_check_things : Stmt := top 33
abbrev s_is_count : Stmt := top 13
abbrev s_is_bundle : Stmt := top 14
abbrev s_is_barter : Stmt := top 31
abbrev s_Market_init : Stmt := meth 34 2
abbrev s_Market_len : Stmt := meth 34 6
abbrev s_Market_barters : Stmt := meth 34 13
abbrev s_law_draw : Stmt := top 37
abbrev s_law_any : Stmt := top 38
abbrev s_law_plus : Stmt := top 42
abbrev s_law_some_bundle : Stmt := top 43
abbrev s_law_barters : Stmt := top 45
abbrev s_law_begin : Stmt := top 36
abbrev s_law_bent_bundle : Stmt := top 48
abbrev s_law_bent_barter : Stmt := top 49
abbrev s_law_field : Stmt := top 40
abbrev s_law_is_bundle : Stmt := top 46
abbrev s_law_is_barter : Stmt := top 47
abbrev s_law_made : Stmt := top 50
abbrev s_law_same : Stmt := top 39
abbrev s_law_some_things : Stmt := top 44
abbrev s_law : Stmt := top 51
abbrev s_law_why : Stmt := top 41
def whySuite : List Stmt → List Stmt
  | [.Try _ [.ExceptHandler _ _ b _] _ _ _] => b
  | _ => []
abbrev b0_why : Stmt := (whySuite (defBody s_law_why)).headD (.Pass ⟨0, 0, 0, 0⟩)
theorem why_body : defBody s_law_why = whyB "_law_ask" "_law_e" "BarterError" "Missing" "NothingLeft" 0 0 0 (b0_why :: []) [⟨296, 16, 296, 18⟩, ⟨296, 20, 296, 28⟩, ⟨296, 20, 296, 30⟩, ⟨296, 15, 296, 31⟩, ⟨296, 8, 296, 31⟩, ⟨297, 12, 297, 23⟩, ⟨297, 25, 297, 32⟩, ⟨297, 34, 297, 45⟩, ⟨297, 11, 297, 46⟩, ⟨297, 4, 298, 47⟩, ⟨295, 4, 298, 47⟩] := by rfl
end
end Lw

namespace Lw
open PySem L2 DX
/-! ### the law's helpers: its box -/
def Box (m : MO) : Prop := ∃ (cells : List Int) (i j m' : Int), m = .lst [.lst (cells.map D.int), .int i, .int j, .int m'] ∧ cells.length ≤ 63 ∧ 0 ≤ i ∧ 0 ≤ j ∧ 0 ≤ m' ∧ m' < 2147483647
def HasBox (b : Nat) (μ : Mu) : Prop := ∃ m, μ[b]? = some m ∧ Box m
theorem HasBox.lt {b : Nat} {μ : Mu} (h : HasBox b μ) : b < μ.length := by
  obtain ⟨m, e, _⟩ := h
  exact (List.getElem?_eq_some_iff.mp e).1
theorem HasBox.put {b : Nat} {μ : Mu} {m : MO} (h : HasBox b μ) (k : Box m) : HasBox b (μ.set b m) := ⟨m, List.getElem?_set_self h.lt, k⟩
noncomputable def T_last : DS := (dSeq (dAsg (dOp modD (dCB intD (dCons (dOp addD (dOp mulD (dOp ixD (dVar 0) (dC (.int 3))) (dC (.int 16807))) (dC (.int 11))) dNil)) (dC (.int 2147483647))) (dGSub (dVar 0) (dC (.int 3))))
  (dRet (dOp modD (dCB intD (dCons (dOp divD (dOp modD (dCB intD (dCons (dOp mulD (dOp ixD (dVar 0) (dC (.int 3))) (dOp ixD (dVar 0) (dC (.int 3)))) dNil)) (dC (.int 998244353))) (dC (.int 7))) dNil)) (dVar 1))))
noncomputable def T_mid : DS := (dSeq (dIf (dB (dOp (cmpD fGt) (dOp ixD (dVar 0) (dC (.int 2))) (dC (.int 0)))) (dSeq (dAsg (dOp modD (dCB intD (dCons (dOp ixD (dVar 0) (dC (.int 2))) dNil)) (dVar 1)) (dName 3))
  (dSeq (dAsg (dOp divD (dOp ixD (dVar 0) (dC (.int 2))) (dVar 1)) (dGSub (dVar 0) (dC (.int 2))))
  (dRet (dVar 3)))) dNext)
  T_last)
theorem draw_ok {b : Nat} {μ : Mu} {many : Int} (hb : HasBox b μ) (h1 : 1 ≤ many) (h2 : many < 1073741824) :
    ∃ n m, f_law_draw [.cell b, .int many] μ = .ok (.int n) (μ.set b m) ∧ 0 ≤ n ∧ n < many ∧ Box m := by
  have hlt := hb.lt
  obtain ⟨mo, hm, cells, i, j, m, rfl, hl, hi, hj, hm0, hm1⟩ := hb
  have get : ∀ {ν : Mu} {x : MO}, ν.length = μ.length → (ν.set b x)[b]? = some x := fun e => List.getElem?_set_self (by omega)
  -- the last part, from any box
  have last : ∀ (i j m : Int) (x2 x3 : Option D) (ν : Mu), ν.length = μ.length → ν[b]? = some (.lst [.lst (cells.map D.int), .int i, .int j, .int m]) → 0 ≤ i → 0 ≤ j → 0 ≤ m → m < 2147483647 → (∀ x, ν.set b x = μ.set b x) →
      ∃ n mo, fz μ (SR.run (T_last [some (.cell b), some (.int many), x2, x3] ν)) = .ok (.int n) (μ.set b mo) ∧ 0 ≤ n ∧ n < many ∧ Box mo := by
    intro i j m x2 x3 ν hν hb2 hi hj hm hm2 hp
    have q1 := Int.emod_nonneg (m * 16807 + 11) (show (2147483647 : Int) ≠ 0 by decide)
    have q2 := Int.emod_lt_of_pos (m * 16807 + 11) (show (0 : Int) < 2147483647 by decide)
    have c1 : CMul m 16807 := .inr ⟨by decide, by decide⟩
    have c2 : CMul ((m * 16807 + 11) % 2147483647) ((m * 16807 + 11) % 2147483647) := .inl ⟨by omega, by omega⟩
    simp only [T_last, dSeq, dAsg, dRet, dOp, dVar, dC, dCB, dCons, dNil, dGSub, look_0, look_s, bind_ok, to_ok, then_nx, ixD_cell hb2, at4_3, okO_some, mulD_int c1, addD_int, intD_int, modD_int (show (0 : Int) < 2147483647 by decide), dSet_4 hb2 (show ixN 4 3 = some 3 from rfl), List.set_cons_succ, List.set_cons_zero]
    simp only [hp, ixD_cell (get (ν := μ) rfl), at4_3, okO_some, bind_ok, mulD_int c2, intD_int, modD_int (show (0 : Int) < 998244353 by decide), divD_int (show (0 : Int) < 7 by decide) (by decide), modD_int (show 0 < many by omega), run_rt, to_ok, hp]
    rw [fz_same (by rw [List.length_set]; exact Nat.le_refl _)]
    exact ⟨_, _, rfl, Int.emod_nonneg _ (by omega), Int.emod_lt_of_pos _ (by omega), cells, i, j, _, rfl, hl, hi, hj, q1, q2⟩
  have mid : ∀ (i j m : Int) (x2 x3 : Option D) (ν : Mu), ν.length = μ.length → ν[b]? = some (.lst [.lst (cells.map D.int), .int i, .int j, .int m]) → 0 ≤ i → 0 ≤ j → 0 ≤ m → m < 2147483647 → (∀ x, ν.set b x = μ.set b x) →
      ∃ n mo, fz μ (SR.run (T_mid [some (.cell b), some (.int many), x2, x3] ν)) = .ok (.int n) (μ.set b mo) ∧ 0 ≤ n ∧ n < many ∧ Box mo := by
    intro i j m x2 x3 ν hν hb2 hi hj hm hm2 hp
    by_cases c : 0 < j
    · simp only [T_mid, dSeq, dIf, dB, dAsg, dRet, dOp, dVar, dC, dCB, dCons, dNil, dGSub, dName, look_0, look_s, bind_ok, to_ok, then_nx, then_rt, ixD_cell hb2, at4_2, okO_some, cmpD_int, fGt, decide_eq_true c, onB_bl, if_true, intD_int, modD_int (show 0 < many by omega), divD_int (show 0 < many by omega) (show many < 2 ^ 63 by omega), dSet_4 hb2 (show ixN 4 2 = some 2 from rfl), List.set_cons_succ, List.set_cons_zero, run_rt, hp]
      rw [fz_same (by rw [List.length_set]; exact Nat.le_refl _)]
      exact ⟨_, _, rfl, Int.emod_nonneg _ (by omega), Int.emod_lt_of_pos _ (by omega), cells, i, _, m, rfl, hl, hi, Int.ediv_nonneg hj (by omega), hm, hm2⟩
    · have e := last i j m x2 x3 ν hν hb2 hi hj hm hm2 hp
      simp only [T_mid, dSeq, dIf, dB, dOp, dVar, dC, look_0, look_s, bind_ok, to_ok, then_nx, ixD_cell hb2, at4_2, okO_some, cmpD_int, fGt, decide_eq_false c, onB_bl, Bool.false_eq_true, if_false, dNext]
      exact e
  show ∃ n m, fz μ (SR.run (dSeq _ T_mid [some (.cell b), some (.int many), none, none] μ)) = .ok (.int n) (μ.set b m) ∧ 0 ≤ n ∧ n < many ∧ Box m
  by_cases c1 : j < 1
  · by_cases c2 : i < (cells.length : Int)
    · obtain ⟨cell, hc⟩ : ∃ cell, atI (cells.map D.int) i = some (.int cell) := by
        obtain ⟨x, e1, e2, _⟩ := atI_pos (xs := cells.map D.int) hi (by rw [List.length_map]; exact c2)
        obtain ⟨n, _, rfl⟩ := List.mem_map.mp e2
        exact ⟨n, e1⟩
      have pw : powD (.int 10) (.int 18) = fun μ => .ok (.int (10 ^ 18)) μ := by
        funext μ
        exact grd_pos ⟨by decide, by decide, by decide⟩
      by_cases c3 : (10 : Int) ^ 18 ≤ cell
      · simp only [dSeq, dIf, dB, dAnd, dAsg, dOp, dVar, dC, dCB, dCons, dNil, dGSub, dName, look_0, look_s, bind_ok, to_ok, then_nx, ixD_cell hm, ixD_lst, at4_0, at4_1, at4_2, okO_some, ltD_int, lenD_lst, List.length_map, decide_eq_true c1, decide_eq_true c2, onB_bl, if_true, hc, addD_int, dSet_4 hm (show ixN 4 1 = some 1 from rfl), List.set_cons_succ, List.set_cons_zero, pw, cmpD_int, fGe, decide_eq_true c3, dSet_4 (get rfl) (show ixN 4 2 = some 2 from rfl)]
        exact mid (i + 1) cell m _ _ _ (by rw [List.length_set, List.length_set]) (get (by rw [List.length_set])) (by omega) (Int.le_trans (by decide) c3) hm0 hm1 (fun x => by rw [List.set_set, List.set_set])
      · have c4 : CMul m 40692 := .inr ⟨by decide, by decide⟩
        have c5 : CMul cell 48271 := .inr ⟨by decide, by decide⟩
        simp only [dSeq, dIf, dB, dAnd, dAsg, dOp, dVar, dC, dCB, dCons, dNil, dGSub, dName, look_0, look_s, bind_ok, to_ok, then_nx, ixD_cell hm, ixD_lst, at4_0, at4_1, at4_2, at4_3, okO_some, ltD_int, lenD_lst, List.length_map, decide_eq_true c1, decide_eq_true c2, onB_bl, if_true, hc, addD_int, dSet_4 hm (show ixN 4 1 = some 1 from rfl), List.set_cons_succ, List.set_cons_zero, pw, cmpD_int, fGe, decide_eq_false c3, Bool.false_eq_true, if_false, ixD_cell (get rfl), mulD_int c4, mulD_int c5, intD_int, modD_int (show (0 : Int) < 2147483647 by decide), dSet_4 (get rfl) (show ixN 4 3 = some 3 from rfl)]
        exact mid (i + 1) j _ _ _ _ (by rw [List.length_set, List.length_set]) (get (by rw [List.length_set])) (by omega) hj (Int.emod_nonneg _ (by decide)) (Int.emod_lt_of_pos _ (by decide)) (fun x => by rw [List.set_set, List.set_set])
    · simp only [dSeq, dIf, dB, dAnd, dOp, dVar, dC, dCB, dCons, dNil, look_0, look_s, bind_ok, to_ok, then_nx, ixD_cell hm, at4_0, at4_1, at4_2, okO_some, ltD_int, lenD_lst, List.length_map, decide_eq_true c1, decide_eq_false c2, onB_bl, if_true, Bool.false_eq_true, if_false, dNext]
      exact mid i j m none none μ rfl hm hi hj hm0 hm1 (fun _ => rfl)
  · simp only [dSeq, dIf, dB, dAnd, dOp, dVar, dC, look_0, look_s, bind_ok, to_ok, then_nx, ixD_cell hm, at4_2, okO_some, ltD_int, decide_eq_false c1, onB_bl, Bool.false_eq_true, if_false, dNext]
    exact mid i j m none none μ rfl hm hi hj hm0 hm1 (fun _ => rfl)
theorem any_ok {b : Nat} {μ : Mu} {r : D} {xs : List D} (hb : HasBox b μ) (hr : r = .lst xs ∨ r = .tup xs) (hne : xs ≠ []) (hl : xs.length < 1000000) :
    ∃ d m, f_law_any [.cell b, r] μ = .ok d (μ.set b m) ∧ d ∈ xs ∧ Box m := by
  have h1 : 0 < xs.length := List.length_pos_iff.mpr hne
  obtain ⟨n, m, e, n0, n1, hm⟩ := draw_ok (many := (xs.length : Int)) hb (by omega) (by omega)
  obtain ⟨x, e1, e2, _⟩ := atI_pos (xs := xs) n0 n1
  refine ⟨x, m, ?_, e2, hm⟩
  show fz μ (SR.run (T_law_any [some (.cell b), some r] μ)) = _
  rcases hr with rfl | rfl
  · simp only [T_law_any, dRet, dOp, dVar, dCB, dCons, dNil, look_0, look_s, bind_ok, to_ok, lenD_lst, e, ixD_lst, e1, okO_some, run_rt]
    exact fz_same (by rw [List.length_set]; exact Nat.le_refl _)
  · simp only [T_law_any, dRet, dOp, dVar, dCB, dCons, dNil, look_0, look_s, bind_ok, to_ok, lenD_tup, e, ixD_tup, e1, okO_some, run_rt]
    exact fz_same (by rw [List.length_set]; exact Nat.le_refl _)
theorem begin_ok (ns : List Int) (μ : Mu) : ∃ m, f_law_begin [.scr ns] μ = .ok (.cell μ.length) (μ ++ [m]) ∧ Box m := by
  have hl : (cut ns none (some 63)).length ≤ 63 := by
    rw [cut_take ns (by decide), List.length_take]
    exact Nat.min_le_left _ _
  have e1 : (cut ns none (some 63)).length ≤ 16777216 := by omega
  have fin := forR_go (G := dName 1) (T := B1_law_begin)
    (fun r η μ' => μ' = μ ∧ (∀ x ∈ r, ∃ n, x = D.int n) ∧ ∃ x1 m, η = [some (.scr ns), x1, some (.lst ((cut ns none (some 63)).map D.int)), some (.int m)] ∧ 0 ≤ m ∧ m < 2147483647)
    (fun x r η μ' ⟨h1, h2, x1, m, h3, h4, h5⟩ => by
      subst h1 h3
      obtain ⟨n, rfl⟩ := h2 x List.mem_cons_self
      have c : CMul m 69621 := .inr ⟨by decide, by decide⟩
      have q := Int.emod_lt_of_pos (m * 69621 + n) (show (0 : Int) < 2147483629 by decide)
      refine ⟨_, _, _, _, rfl, .inl ?_, rfl, fun y hy => h2 y (List.mem_cons_of_mem _ hy), some (.int n), (m * 69621 + n) % 2147483629, rfl, Int.emod_nonneg _ (by decide), by omega⟩
      simp only [B1_law_begin, dAsg, dOp, dVar, dC, dCB, dCons, dNil, dName, look_0, look_s, bind_ok, to_ok, List.set_cons_succ, List.set_cons_zero, mulD_int c, addD_int, intD_int, modD_int (show (0 : Int) < 2147483629 by decide)])
    ((cut ns none (some 63)).map D.int) [some (.scr ns), none, some (.lst ((cut ns none (some 63)).map D.int)), some (.int (3824 + 61 * ((cut ns none (some 63)).length : Int)))] μ
    ⟨rfl, fun x hx => by obtain ⟨n, _, rfl⟩ := List.mem_map.mp hx; exact ⟨n, rfl⟩, _, _, rfl, by omega, by omega⟩
  obtain ⟨η', μ', e2, rfl, _, x1, m, rfl, m0, m1⟩ := fin
  refine ⟨.lst [.lst ((cut ns none (some 63)).map D.int), .int 0, .int 0, .int m], ?_, _, 0, 0, m, rfl, hl, by decide, by decide, m0, m1⟩
  show kp μ' (SR.run (T_law_begin [some (.scr ns), none, none, none] μ')) = _
  have c61 : CMul 61 ((cut ns none (some 63)).length : Int) := .inl ⟨by decide, by decide⟩
  have lc : lcR (dName 1) dYes Q1_law_begin [some (.scr ns), none, none, none] ((cut ns none (some 63)).map D.int) [] μ' = .ok ((cut ns none (some 63)).map D.int) μ' := by
    have z := lcR_map (G := dName 1) (Te := Q1_law_begin) (η := [some (.scr ns), none, none, none]) (μ := μ') (fun x => x) ((cut ns none (some 63)).map D.int) [] (fun x hx => by
      obtain ⟨n, _, rfl⟩ := List.mem_map.mp hx
      rfl)
    rw [z, List.nil_append, List.map_id']
  have sl : slD (.scr ns) none (some 63) μ' = .ok (.lst ((cut ns none (some 63)).map D.int)) μ' := rfl
  simp only [T_law_begin, L1_law_begin, dSeq, dAsg, dLc, lcW, dSeqI, dSl, dVar, dC, dNoPart, dPart, look_0, look_s, bind_ok, to_ok, sl, itemsOf, okO_some, chk_pos e1, wipeD, List.set_cons_succ, List.set_cons_zero, lc, noX_ok, then_nx, dName, dOp, dCB, dCons, dNil, lenD_lst, List.length_map, mulD_int c61, addD_int, dFor, e2, dRet, dLstM, List.length_cons, List.length_nil, chk_c (show (0 + 1 + 1 + 1 + 1 : Nat) ≤ 16777216 by decide), to_ok, run_rt]
  rfl
theorem zipD2_self {xs : List D} {x : D} (h : x ∈ zipD2 xs xs) : ∃ y ∈ xs, x = .tup [y, y] := by
  unfold zipD2 at h
  obtain ⟨i, hi, e⟩ := List.mem_iff_getElem.mp h
  rw [List.getElem_zipWith] at e
  exact ⟨_, List.getElem_mem _, e.symm⟩
theorem same_ok : ∀ (n : Nat) (d : D) (μ : Mu), plain n d = true → n ≤ 60 → f_law_same (n + 1) [d, d] μ = .ok (.bl true) μ := by
  intro n
  induction n with
  | zero =>
    intro d μ h hn
    have h60 := plain_mono 0 60 d hn h
    have e := eqD_refl (μ := μ) h60
    show fz μ (SR.run (T_law_same (f_law_same 0) [some d, some d, none, none, none] μ)) = _
    cases d with
    | tup xs => exact absurd h plain_tup0
    | lst xs => exact absurd h plain_lst0
    | non => exact fz_same (Nat.le_refl _)
    | bl b =>
      simp only [T_law_same, dSeq, dIf, dOr, dB, dIsN, dVar, look_0, look_s, bind_ok, isN, onB_bl, Bool.false_eq_true, if_false, to_ok, dNext, then_nx, dCB, dCons, dC, dNil, isiD, tyName, kb_bb, kb_ib, kb_sb, kb_tb, kb_lb, kb_bi, kb_ii, kb_si, kb_ti, kb_li, kb_is, kb_ss, kb_ts, kb_ls, kb_tl, kb_ll, kb_tt, kb_lt, okO_some, if_true, dRet, dAndV, dOp, eqD_bl, dAsg, dName, List.set_cons_succ, List.set_cons_zero, beq_self_eq_true, e, then_rt, run_rt]
      exact fz_same (Nat.le_refl _)
    | int i =>
      simp only [T_law_same, dSeq, dIf, dOr, dB, dIsN, dVar, look_0, look_s, bind_ok, isN, onB_bl, Bool.false_eq_true, if_false, to_ok, dNext, then_nx, dCB, dCons, dC, dNil, isiD, tyName, kb_bb, kb_ib, kb_sb, kb_tb, kb_lb, kb_bi, kb_ii, kb_si, kb_ti, kb_li, kb_is, kb_ss, kb_ts, kb_ls, kb_tl, kb_ll, kb_tt, kb_lt, okO_some, if_true, dRet, dAndV, dOp, eqD_bl, dAsg, dName, List.set_cons_succ, List.set_cons_zero, beq_self_eq_true, e, then_rt, run_rt]
      exact fz_same (Nat.le_refl _)
    | str z =>
      simp only [T_law_same, dSeq, dIf, dOr, dB, dIsN, dVar, look_0, look_s, bind_ok, isN, onB_bl, Bool.false_eq_true, if_false, to_ok, dNext, then_nx, dCB, dCons, dC, dNil, isiD, tyName, kb_bb, kb_ib, kb_sb, kb_tb, kb_lb, kb_bi, kb_ii, kb_si, kb_ti, kb_li, kb_is, kb_ss, kb_ts, kb_ls, kb_tl, kb_ll, kb_tt, kb_lt, okO_some, if_true, dRet, dAndV, dOp, eqD_bl, dAsg, dName, List.set_cons_succ, List.set_cons_zero, beq_self_eq_true, e, then_rt, run_rt]
      exact fz_same (Nat.le_refl _)
    | _ => simp [DX.plain] at h
  | succ n ih =>
    intro d μ h hn
    have h60 := plain_mono (n + 1) 60 d hn h
    have e := eqD_refl (μ := μ) h60
    show fz μ (SR.run (T_law_same (f_law_same (n + 1)) [some d, some d, none, none, none] μ)) = _
    have all : ∀ (a b : Option D) (xs : List D), plains n xs = true → lcR (dGTup 2 (dGCons (dName 3) (dGCons (dName 4) dGNil))) dYes (dCB (f_law_same (n + 1)) (dCons (dVar 3) (dCons (dVar 4) dNil))) [a, b, none, none, none] (zipD2 xs xs) [] μ = .ok ((List.replicate xs.length true).map D.bl) μ := by
      intro a b xs hs
      rw [lcR_map (fun _ => .bl true) _ _ fun x hx => ?_]
      · rw [List.nil_append, List.map_const', zipD2_len, Nat.min_self, List.map_replicate]
      · obtain ⟨y, hy, rfl⟩ := zipD2_self hx
        have z := ih y μ (plains_mem hs y hy) (by omega)
        simp only [dGTup, dGCons, dGNil, dName, List.length_cons, List.length_nil, if_true, bind_ok, List.set_cons_succ, List.set_cons_zero, dCB, dCons, dVar, look_0, look_s, dNil, z]
    have fin : ∀ k : Nat, (List.replicate k true).all id = true := fun k => by simp
    cases d with
    | tup xs =>
      obtain ⟨hl, hs⟩ := plain_tup h
      simp only [T_law_same, dSeq, dIf, dOr, dB, dIsN, dVar, look_0, look_s, bind_ok, isN, onB_bl, Bool.false_eq_true, if_false, to_ok, dNext, then_nx, dCB, dCons, dC, dNil, isiD, tyName, kb_bb, kb_ib, kb_sb, kb_tb, kb_lb, kb_bi, kb_ii, kb_si, kb_ti, kb_li, kb_is, kb_ss, kb_ts, kb_ls, kb_tl, kb_ll, kb_tt, kb_lt, okO_some, if_true, dRet, dAndV, dOp, eqD_bl, dAsg, dName, List.set_cons_succ, List.set_cons_zero, beq_self_eq_true, neD_bl, beq_self_eq_true, Bool.not_true, lenD_tup, eqD_int, dLc, lcW, dZip2, still, okO_some, chk_pos (show (zipD2 xs xs).length ≤ 16777216 by rw [zipD2_len]; omega), wipeD, List.set_cons_succ, List.set_cons_zero, all _ _ xs hs, noX_ok, allD, asL, blsOf_map, fin, then_rt, run_rt]
      exact fz_same (Nat.le_refl _)
    | lst xs =>
      obtain ⟨hl, hs⟩ := plain_lst h
      simp only [T_law_same, dSeq, dIf, dOr, dB, dIsN, dVar, look_0, look_s, bind_ok, isN, onB_bl, Bool.false_eq_true, if_false, to_ok, dNext, then_nx, dCB, dCons, dC, dNil, isiD, tyName, kb_bb, kb_ib, kb_sb, kb_tb, kb_lb, kb_bi, kb_ii, kb_si, kb_ti, kb_li, kb_is, kb_ss, kb_ts, kb_ls, kb_tl, kb_ll, kb_tt, kb_lt, okO_some, if_true, dRet, dAndV, dOp, eqD_bl, dAsg, dName, List.set_cons_succ, List.set_cons_zero, beq_self_eq_true, neD_bl, beq_self_eq_true, Bool.not_true, lenD_lst, eqD_int, dLc, lcW, dZip2, still, okO_some, chk_pos (show (zipD2 xs xs).length ≤ 16777216 by rw [zipD2_len]; omega), wipeD, List.set_cons_succ, List.set_cons_zero, all _ _ xs hs, noX_ok, allD, asL, blsOf_map, fin, then_rt, run_rt]
      exact fz_same (Nat.le_refl _)
    | non => exact fz_same (Nat.le_refl _)
    | bl b =>
      simp only [T_law_same, dSeq, dIf, dOr, dB, dIsN, dVar, look_0, look_s, bind_ok, isN, onB_bl, Bool.false_eq_true, if_false, to_ok, dNext, then_nx, dCB, dCons, dC, dNil, isiD, tyName, kb_bb, kb_ib, kb_sb, kb_tb, kb_lb, kb_bi, kb_ii, kb_si, kb_ti, kb_li, kb_is, kb_ss, kb_ts, kb_ls, kb_tl, kb_ll, kb_tt, kb_lt, okO_some, if_true, dRet, dAndV, dOp, eqD_bl, dAsg, dName, List.set_cons_succ, List.set_cons_zero, beq_self_eq_true, e, then_rt, run_rt]
      exact fz_same (Nat.le_refl _)
    | int i =>
      simp only [T_law_same, dSeq, dIf, dOr, dB, dIsN, dVar, look_0, look_s, bind_ok, isN, onB_bl, Bool.false_eq_true, if_false, to_ok, dNext, then_nx, dCB, dCons, dC, dNil, isiD, tyName, kb_bb, kb_ib, kb_sb, kb_tb, kb_lb, kb_bi, kb_ii, kb_si, kb_ti, kb_li, kb_is, kb_ss, kb_ts, kb_ls, kb_tl, kb_ll, kb_tt, kb_lt, okO_some, if_true, dRet, dAndV, dOp, eqD_bl, dAsg, dName, List.set_cons_succ, List.set_cons_zero, beq_self_eq_true, e, then_rt, run_rt]
      exact fz_same (Nat.le_refl _)
    | str z =>
      simp only [T_law_same, dSeq, dIf, dOr, dB, dIsN, dVar, look_0, look_s, bind_ok, isN, onB_bl, Bool.false_eq_true, if_false, to_ok, dNext, then_nx, dCB, dCons, dC, dNil, isiD, tyName, kb_bb, kb_ib, kb_sb, kb_tb, kb_lb, kb_bi, kb_ii, kb_si, kb_ti, kb_li, kb_is, kb_ss, kb_ts, kb_ls, kb_tl, kb_ll, kb_tt, kb_lt, okO_some, if_true, dRet, dAndV, dOp, eqD_bl, dAsg, dName, List.set_cons_succ, List.set_cons_zero, beq_self_eq_true, e, then_rt, run_rt]
      exact fz_same (Nat.le_refl _)
    | _ => simp [DX.plain] at h
/-! ### how the store goes on -/
theorem Box.clean {m : MO} (h : Box m) : cleanM m = true := by
  obtain ⟨cells, i, j, m', rfl, _⟩ := h
  have h1 : cleans (cells.map D.int) = true := cleans_of fun x hx => by
    obtain ⟨n, _, rfl⟩ := List.mem_map.mp hx
    simp [DX.clean]
  simp [cleanM, cleans, DX.clean, h1]
def Nx (b : Nat) (μ μ' : Mu) : Prop := μ' = μ ∨ ∃ m, Box m ∧ μ' = μ.set b m
section
variable {b : Nat} {μ μ' μ2 ν : Mu}
theorem Nx.refl : Nx b μ μ := .inl rfl
theorem Nx.trans (h : Nx b μ μ') (k : Nx b μ' μ2) : Nx b μ μ2 := by
  rcases k with rfl | ⟨m, hm, rfl⟩
  · exact h
  · rcases h with rfl | ⟨m', _, rfl⟩
    · exact .inr ⟨m, hm, rfl⟩
    · exact .inr ⟨m, hm, by rw [List.set_set]⟩
theorem Nx.box (h : Nx b μ μ') (hb : HasBox b μ) : HasBox b μ' := by
  rcases h with rfl | ⟨m, hm, rfl⟩
  · exact hb
  · exact hb.put hm
theorem Nx.len (h : Nx b μ μ') : μ'.length = μ.length := by
  rcases h with rfl | ⟨m, hm, rfl⟩
  · rfl
  · exact List.length_set
theorem Nx.clean (h : Nx b μ μ') (hc : Clean μ) : Clean μ' := by
  rcases h with rfl | ⟨m, hm, rfl⟩
  · exact hc
  · exact hc.set hm.clean
theorem Nx.app (h : Nx b (μ ++ ν) μ') (hb : b < μ.length) : ∃ μ1, μ' = μ1 ++ ν ∧ Nx b μ μ1 := by
  rcases h with rfl | ⟨m, hm, rfl⟩
  · exact ⟨μ, rfl, .inl rfl⟩
  · exact ⟨μ.set b m, by rw [List.set_append_left _ _ hb], .inr ⟨m, hm, rfl⟩⟩
theorem HasBox.app (h : HasBox b μ) : HasBox b (μ ++ ν) := by
  obtain ⟨m, e, hm⟩ := h
  exact ⟨m, by rw [List.getElem?_append_left (List.getElem?_eq_some_iff.mp e).1]; exact e, hm⟩
theorem fz_nx {d : D} (h : Nx b μ μ') : fz μ (.ok d μ') = .ok d μ' := fz_same (by rw [h.len]; exact Nat.le_refl _)
theorem draw_nx {many : Int} (hb : HasBox b μ) (h1 : 1 ≤ many) (h2 : many < 1073741824) : ∃ n μ', f_law_draw [.cell b, .int many] μ = .ok (.int n) μ' ∧ 0 ≤ n ∧ n < many ∧ Nx b μ μ' := by
  obtain ⟨n, m, e, n0, n1, hm⟩ := draw_ok hb h1 h2
  exact ⟨n, _, e, n0, n1, .inr ⟨m, hm, rfl⟩⟩
theorem begin_nx (ns : List Int) : ∃ m, f_law_begin [.scr ns] [] = .ok (.cell 0) [m] ∧ HasBox 0 [m] ∧ Clean [m] := by
  obtain ⟨m, e, hm⟩ := begin_ok ns []
  exact ⟨m, e, ⟨m, rfl, hm⟩, fun x hx => by
    rw [List.mem_singleton.mp hx]
    exact hm.clean⟩
end
end Lw

namespace Lw
open PySem L2 DX
/-! ### drawn bundles and barters -/
theorem some_bundle_ok {b : Nat} {μ : Mu} {w : Nat} {cap : Int} (hb : HasBox b μ) (hw : w ≤ 1000) (h0 : 0 ≤ cap) (h1 : cap < 1000000) :
    ∃ xs μ', f_law_some_bundle [.cell b, .int w, .int cap] μ = .ok (.tup (iD xs)) μ' ∧ xs.length = w ∧ (∀ x ∈ xs, 0 ≤ x ∧ x ≤ cap) ∧ Nx b μ μ' := by
  have hr : dRng1 (dCons (dVar 1) dNil) [some (.cell b), some (.int w), some (.int cap), none] μ = .ok (rangeD 0 ((w : Int)).toNat) μ := rng_ok rfl (by omega) (by omega)
  rw [Int.toNat_natCast] at hr
  obtain ⟨zs, μ', e, xs, rfl, hl, hx, hn⟩ := lc_inv (G := dName 3) (Te := Q1_law_some_bundle) (vs := [3]) (η := [some (.cell b), some (.int w), some (.int cap), none]) (fun r acc μ' => ∃ xs, acc = iD xs ∧ r.length + xs.length = w ∧ (∀ x ∈ xs, 0 ≤ x ∧ x ≤ cap) ∧ Nx b μ μ') hr (by rw [range_len]; omega)
    (fun x r acc μ1 hI => by
      obtain ⟨xs, rfl, hl, hx, hn⟩ := hI
      obtain ⟨n, μ2, e, n0, n1, hn2⟩ := draw_nx (many := cap + 1) (hn.box hb) (by omega) (by omega)
      refine ⟨.int n, μ2, ?_, xs ++ [n], ?_, ?_, ?_, hn.trans hn2⟩
      · simp only [dSeq, dIf, dB, dAnd, dOr, dNot, dAsg, dOp, dVar, dC, dCB, dCons, dNil, dName, dRet, dRetN, dDrop, dNext, dIfE, dAndV, dOrV, dNotV, dUn, dSl, dNoPart, dPart, dPar, dPar3, dTup, dLst, dGTup, dGCons, dGNil, dChain, dIsN, dNotN, isN, dCont, dBreak, dGSub, dSeqI, items_lst, items_tup, dZip2, dZip3, dEnum, still_lst, still_tup, dFor, dFld, dLenOf, dM1, look_0, look_s, bind_ok, to_ok, then_nx, then_rt, then_ct, then_bk, turn_nx, turn_ct, turn_rt, turn_bk, run_rt, run_nx, onB_bl, okO_some, noX_ok, addD_int, subD_int, ltD_int, cmpD_int, fLe, fGe, fGt, intD_int, if_true, if_false, Bool.false_eq_true, Bool.not_true, Bool.not_false, List.set_cons_succ, List.set_cons_zero, ixD_lst, ixD_tup, lenD_lst, lenD_tup, List.length_cons, List.length_nil, isi_int_int, isi_int_bool, isi_int_str, isi_int_tuple, isi_int_list, isi_bl_int, isi_bl_bool, isi_bl_str, isi_bl_tuple, isi_bl_list, isi_str_int, isi_str_bool, isi_str_str, isi_str_tuple, isi_str_list, isi_tup_int, isi_tup_bool, isi_tup_str, isi_tup_tuple, isi_tup_list, isi_lst_int, isi_lst_bool, isi_lst_str, isi_lst_tuple, isi_lst_list, isi_non_int, isi_non_bool, isi_non_str, isi_non_tuple, isi_non_list, wipeD, dNever, chk_c, decide_true, decide_false, Q1_law_some_bundle, e]
      · rw [← ints_app]; rfl
      · rw [List.length_append]; simp only [List.length_cons, List.length_nil] at hl ⊢; omega
      · intro y hy
        rcases List.mem_append.mp hy with hy | hy
        · exact hx y hy
        · rw [List.mem_singleton.mp hy]; omega)
    ⟨[], rfl, by rw [range_len]; rfl, (fun x hx => by cases hx), .refl⟩
  have hl' : xs.length = w := by rw [← hl]; simp
  refine ⟨xs, μ', ?_, hl', hx, hn⟩
  have e0 : f_law_some_bundle [.cell b, .int w, .int cap] μ = fz μ (SR.run (T_law_some_bundle [some (.cell b), some (.int w), some (.int cap), none] μ)) := defR_ok rfl
  rw [e0]
  have e' : L1_law_some_bundle [some (.cell b), some (.int w), some (.int cap), none] μ = .ok (.lst (iD xs)) μ' := e
  simp only [dSeq, dIf, dB, dAnd, dOr, dNot, dAsg, dOp, dVar, dC, dCB, dCons, dNil, dName, dRet, dRetN, dDrop, dNext, dIfE, dAndV, dOrV, dNotV, dUn, dSl, dNoPart, dPart, dPar, dPar3, dTup, dLst, dGTup, dGCons, dGNil, dChain, dIsN, dNotN, isN, dCont, dBreak, dGSub, dSeqI, items_lst, items_tup, dZip2, dZip3, dEnum, still_lst, still_tup, dFor, dFld, dLenOf, dM1, look_0, look_s, bind_ok, to_ok, then_nx, then_rt, then_ct, then_bk, turn_nx, turn_ct, turn_rt, turn_bk, run_rt, run_nx, onB_bl, okO_some, noX_ok, addD_int, subD_int, ltD_int, cmpD_int, fLe, fGe, fGt, intD_int, if_true, if_false, Bool.false_eq_true, Bool.not_true, Bool.not_false, List.set_cons_succ, List.set_cons_zero, ixD_lst, ixD_tup, lenD_lst, lenD_tup, List.length_cons, List.length_nil, isi_int_int, isi_int_bool, isi_int_str, isi_int_tuple, isi_int_list, isi_bl_int, isi_bl_bool, isi_bl_str, isi_bl_tuple, isi_bl_list, isi_str_int, isi_str_bool, isi_str_str, isi_str_tuple, isi_str_list, isi_tup_int, isi_tup_bool, isi_tup_str, isi_tup_tuple, isi_tup_list, isi_lst_int, isi_lst_bool, isi_lst_str, isi_lst_tuple, isi_lst_list, isi_non_int, isi_non_bool, isi_non_str, isi_non_tuple, isi_non_list, wipeD, dNever, chk_c, decide_true, decide_false, T_law_some_bundle, e', tupD, asL]
  exact fz_nx hn
end Lw

namespace Lw
open PySem L2 DX
/-! ### drawn names of things -/
def Low (cs : List Nat) : Prop := ∀ c ∈ cs, 97 ≤ c ∧ c ≤ 122
def Nm (cs : List Nat) : Prop := 1 ≤ cs.length ∧ cs.length ≤ 6 ∧ Low cs
theorem Low.sg {cs : List Nat} (h : Low cs) : Sg cs := fun c hc => by have := h c hc; omega
theorem Low.app {a b : List Nat} (h : Low a) (k : Low b) : Low (a ++ b) := fun c hc => (List.mem_append.mp hc).elim (h c) (k c)
theorem Low.take {a : List Nat} (h : Low a) (n : Nat) : Low (a.take n) := fun c hc => h c (List.mem_of_mem_take hc)
theorem Low.drop {a : List Nat} (h : Low a) (n : Nat) : Low (a.drop n) := fun c hc => h c (List.mem_of_mem_drop hc)
theorem low_one {i : Int} (h0 : 0 ≤ i) (h1 : i < 26) : Low [97 + i.toNat] := fun c hc => by rw [List.mem_singleton.mp hc]; omega
theorem nodup_range {h : Nat → List Nat} {n : Nat} (hh : ∀ i j, i < j → j < n → h i ≠ h j) : ((List.range n).map h).Nodup :=
  List.pairwise_map.mpr (List.pairwise_lt_range.imp_of_mem fun ha hb hij => hh _ _ hij (List.mem_range.mp hb))
theorem range_map {n : Nat} {f : D → D} {h : Nat → List Nat} (hf : ∀ k, k < n → f (.int (0 + (k : Nat))) = sD (h k)) : (rangeD 0 n).map f = ((List.range n).map h).map sD := by
  unfold rangeD
  rw [List.map_map, List.map_map]
  exact List.map_congr_left fun k hk => hf k (List.mem_range.mp hk)
theorem stem_ok {b : Nat} {μ : Mu} {x1 x3 x4 x5 x6 x7 x8 : Option D} (hb : HasBox b μ) :
    ∃ cs μ', L1_law_some_things [some (.cell b), x1, some (sD abc), x3, x4, x5, x6, x7, x8] μ = .ok (.lst (cs.map fun c => sD [c])) μ' ∧ cs.length ≤ 5 ∧ Low cs ∧ Nx b μ μ' := by
  obtain ⟨n, μ1, e1, n0, n1, k1⟩ := draw_nx (many := 6) hb (by decide) (by decide)
  have hr : dRng1 (dCons (dCB f_law_draw (dCons (dVar 0) (dCons (dC (.int 6)) dNil))) dNil) [some (.cell b), x1, some (sD abc), x3, x4, x5, x6, x7, x8] μ = .ok (rangeD 0 n.toNat) μ1 := rng_ok (by simp only [dSeq, dIf, dB, dAnd, dOr, dNot, dAsg, dOp, dVar, dC, dCB, dCons, dNil, dName, dRet, dRetN, dDrop, dNext, dIfE, dAndV, dOrV, dNotV, dUn, dSl, dNoPart, dPart, dPar, dPar3, dTup, dLst, dGTup, dGCons, dGNil, dChain, dIsN, dNotN, isN, dCont, dBreak, dGSub, dSeqI, items_lst, items_tup, dZip2, dZip3, dEnum, still_lst, still_tup, dFor, dFld, dLenOf, dM1, look_0, look_s, bind_ok, to_ok, then_nx, then_rt, then_ct, then_bk, turn_nx, turn_ct, turn_rt, turn_bk, run_rt, run_nx, onB_bl, okO_some, noX_ok, addD_int, subD_int, ltD_int, cmpD_int, fLe, fGe, fGt, intD_int, if_true, if_false, Bool.false_eq_true, Bool.not_true, Bool.not_false, List.set_cons_succ, List.set_cons_zero, ixD_lst, ixD_tup, lenD_lst, lenD_tup, List.length_cons, List.length_nil, isi_int_int, isi_int_bool, isi_int_str, isi_int_tuple, isi_int_list, isi_bl_int, isi_bl_bool, isi_bl_str, isi_bl_tuple, isi_bl_list, isi_str_int, isi_str_bool, isi_str_str, isi_str_tuple, isi_str_list, isi_tup_int, isi_tup_bool, isi_tup_str, isi_tup_tuple, isi_tup_list, isi_lst_int, isi_lst_bool, isi_lst_str, isi_lst_tuple, isi_lst_list, isi_non_int, isi_non_bool, isi_non_str, isi_non_tuple, isi_non_list, wipeD, dNever, chk_c, decide_true, decide_false, e1]) (by omega) (by omega)
  obtain ⟨zs, μ', e, xs, rfl, hl, hx, hn⟩ := lc_inv (G := dName 8) (Te := Q1_law_some_things) (vs := [8]) (η := [some (.cell b), x1, some (sD abc), x3, x4, x5, x6, x7, x8]) (fun r acc μ' => ∃ cs, acc = cs.map (fun c => sD [c]) ∧ r.length + cs.length ≤ 5 ∧ Low cs ∧ Nx b μ μ') hr (by rw [range_len]; omega)
    (fun x r acc μ2 hI => by
      obtain ⟨cs, rfl, hl, hx, hn⟩ := hI
      obtain ⟨m, μ3, e2, m0, m1, k3⟩ := draw_nx (many := 26) (hn.box hb) (by decide) (by decide)
      refine ⟨sD [97 + m.toNat], μ3, ?_, cs ++ [97 + m.toNat], ?_, ?_, ?_, hn.trans k3⟩
      · simp only [dSeq, dIf, dB, dAnd, dOr, dNot, dAsg, dOp, dVar, dC, dCB, dCons, dNil, dName, dRet, dRetN, dDrop, dNext, dIfE, dAndV, dOrV, dNotV, dUn, dSl, dNoPart, dPart, dPar, dPar3, dTup, dLst, dGTup, dGCons, dGNil, dChain, dIsN, dNotN, isN, dCont, dBreak, dGSub, dSeqI, items_lst, items_tup, dZip2, dZip3, dEnum, still_lst, still_tup, dFor, dFld, dLenOf, dM1, look_0, look_s, bind_ok, to_ok, then_nx, then_rt, then_ct, then_bk, turn_nx, turn_ct, turn_rt, turn_bk, run_rt, run_nx, onB_bl, okO_some, noX_ok, addD_int, subD_int, ltD_int, cmpD_int, fLe, fGe, fGt, intD_int, if_true, if_false, Bool.false_eq_true, Bool.not_true, Bool.not_false, List.set_cons_succ, List.set_cons_zero, ixD_lst, ixD_tup, lenD_lst, lenD_tup, List.length_cons, List.length_nil, isi_int_int, isi_int_bool, isi_int_str, isi_int_tuple, isi_int_list, isi_bl_int, isi_bl_bool, isi_bl_str, isi_bl_tuple, isi_bl_list, isi_str_int, isi_str_bool, isi_str_str, isi_str_tuple, isi_str_list, isi_tup_int, isi_tup_bool, isi_tup_str, isi_tup_tuple, isi_tup_list, isi_lst_int, isi_lst_bool, isi_lst_str, isi_lst_tuple, isi_lst_list, isi_non_int, isi_non_bool, isi_non_str, isi_non_tuple, isi_non_list, wipeD, dNever, chk_c, decide_true, decide_false, Q1_law_some_things, e2, sD_ix (show abc.length ≤ 16777216 by decide), abc_at m0 m1]
      · rw [List.map_append]; rfl
      · rw [List.length_append]; simp only [List.length_cons, List.length_nil] at hl ⊢; omega
      · exact hx.app (low_one m0 m1))
    ⟨[], rfl, by rw [range_len, List.length_nil]; omega, (fun c hc => by cases hc), k1⟩
  exact ⟨xs, μ', e, by simpa using hl, hx, hn⟩
theorem way0_ok {b w : Nat} {μ : Mu} {cs : List Nat} {spot first : Int} {x6 x7 x8 : Option D} (hw : w ≤ 4) (hl : cs.length ≤ 5) (hc : Low cs) (s0 : 0 ≤ spot) (f0 : 0 ≤ first) (f1 : first < 26) :
    ∃ ws : List (List Nat), L2_law_some_things [some (.cell b), some (.int w), some (sD abc), some (sD cs), some (.int spot), some (.int first), x6, x7, x8] μ = .ok (.lst (ws.map sD)) μ ∧ ws.length = w ∧ (∀ x ∈ ws, Nm x) ∧ ws.Nodup := by
  have hr : dRng1 (dCons (dVar 1) dNil) [some (.cell b), some (.int w), some (sD abc), some (sD cs), some (.int spot), some (.int first), x6, x7, x8] μ = .ok (rangeD 0 ((w : Int)).toNat) μ := rng_ok rfl (by omega) (by omega)
  rw [Int.toNat_natCast] at hr
  let g : Nat → List Nat := fun k => cs.take spot.toNat ++ [97 + ((first + 7 * (k : Int)) % 26).toNat] ++ cs.drop spot.toNat
  let f : D → D := fun x => match x with
    | .int i => sD (g i.toNat)
    | _ => .non
  have e := lc_map (G := dName 8) (Te := Q2_law_some_things) (vs := [8]) f hr (by rw [range_len]; omega) fun x hx => by
    obtain ⟨k, hk, rfl⟩ := range_mem hx
    have m0 := Int.emod_nonneg (first + 7 * (0 + (k : Int))) (show (26 : Int) ≠ 0 by decide)
    have m1 := Int.emod_lt_of_pos (first + 7 * (0 + (k : Int))) (show (0 : Int) < 26 by decide)
    have c7 : CMul 7 (0 + (k : Int)) := .inl ⟨by decide, by decide⟩
    have l1 : (cs.take spot.toNat).length ≤ 5 := by rw [List.length_take]; omega
    have l2 : (cs.drop spot.toNat).length ≤ 5 := by rw [List.length_drop]; omega
    simp only [dSeq, dIf, dB, dAnd, dOr, dNot, dAsg, dOp, dVar, dC, dCB, dCons, dNil, dName, dRet, dRetN, dDrop, dNext, dIfE, dAndV, dOrV, dNotV, dUn, dSl, dNoPart, dPart, dPar, dPar3, dTup, dLst, dGTup, dGCons, dGNil, dChain, dIsN, dNotN, isN, dCont, dBreak, dGSub, dSeqI, items_lst, items_tup, dZip2, dZip3, dEnum, still_lst, still_tup, dFor, dFld, dLenOf, dM1, look_0, look_s, bind_ok, to_ok, then_nx, then_rt, then_ct, then_bk, turn_nx, turn_ct, turn_rt, turn_bk, run_rt, run_nx, onB_bl, okO_some, noX_ok, addD_int, subD_int, ltD_int, cmpD_int, fLe, fGe, fGt, intD_int, if_true, if_false, Bool.false_eq_true, Bool.not_true, Bool.not_false, List.set_cons_succ, List.set_cons_zero, ixD_lst, ixD_tup, lenD_lst, lenD_tup, List.length_cons, List.length_nil, isi_int_int, isi_int_bool, isi_int_str, isi_int_tuple, isi_int_list, isi_bl_int, isi_bl_bool, isi_bl_str, isi_bl_tuple, isi_bl_list, isi_str_int, isi_str_bool, isi_str_str, isi_str_tuple, isi_str_list, isi_tup_int, isi_tup_bool, isi_tup_str, isi_tup_tuple, isi_tup_list, isi_lst_int, isi_lst_bool, isi_lst_str, isi_lst_tuple, isi_lst_list, isi_non_int, isi_non_bool, isi_non_str, isi_non_tuple, isi_non_list, wipeD, dNever, chk_c, decide_true, decide_false, Q2_law_some_things, sD_sl (show cs.length ≤ 16777216 by omega), cut_take cs s0, cut_drop cs s0, mulD_int c7, modD_int (show (0 : Int) < 26 by decide), sD_ix (show abc.length ≤ 16777216 by decide), abc_at m0 m1, sD_add (show (cs.take spot.toNat).length + [97 + ((first + 7 * (0 + (k : Int))) % 26).toNat].length ≤ 16777216 by simp only [List.length_cons, List.length_nil]; omega)]
    rw [sD_add (by rw [List.length_append]; simp only [List.length_cons, List.length_nil]; omega)]
    have ek : (0 + (k : Int)).toNat = k := by omega
    show _ = Res.ok (sD (g (0 + (k : Int)).toNat)) μ
    rw [ek, Int.zero_add]
  rw [range_map (h := g) fun k hk => by
    have ek : (0 + (k : Int)).toNat = k := by omega
    show sD (g (0 + (k : Int)).toNat) = _
    rw [ek]] at e
  refine ⟨_, e, by simp, fun x hx => ?_, nodup_range fun i j hij hj he => ?_⟩
  · obtain ⟨k, _, rfl⟩ := List.mem_map.mp hx
    have m0 := Int.emod_nonneg (first + 7 * (k : Int)) (show (26 : Int) ≠ 0 by decide)
    have m1 := Int.emod_lt_of_pos (first + 7 * (k : Int)) (show (0 : Int) < 26 by decide)
    refine ⟨?_, ?_, ((hc.take _).app (low_one m0 m1)).app (hc.drop _)⟩
    · simp only [g, List.length_append, List.length_cons]; omega
    · simp only [g, List.length_append, List.length_cons, List.length_nil, List.length_take, List.length_drop]; omega
  · have e1 := List.append_cancel_right he
    have e2 := List.append_cancel_left e1
    have e3 : 97 + ((first + 7 * (i : Int)) % 26).toNat = 97 + ((first + 7 * (j : Int)) % 26).toNat := (List.cons.inj e2).1
    omega
theorem way1_ok {b w : Nat} {μ : Mu} {cs : List Nat} {first : Int} {x4 x6 x8 : Option D} (hw : w ≤ 4) (hl : cs.length ≤ 5) (hc : Low cs) (f0 : 0 ≤ first) (f1 : first < 26) :
    ∃ ws : List (List Nat), L3_law_some_things [some (.cell b), some (.int w), some (sD abc), some (sD cs), x4, some (.int first), x6, some (sD [97 + first.toNat]), x8] μ = .ok (.lst (ws.map sD)) μ ∧ ws.length = w ∧ (∀ x ∈ ws, Nm x) ∧ ws.Nodup := by
  have hr : dRng1 (dCons (dVar 1) dNil) [some (.cell b), some (.int w), some (sD abc), some (sD cs), x4, some (.int first), x6, some (sD [97 + first.toNat]), x8] μ = .ok (rangeD 0 ((w : Int)).toNat) μ := rng_ok rfl (by omega) (by omega)
  rw [Int.toNat_natCast] at hr
  have a0 := Int.emod_nonneg (first + 9) (show (26 : Int) ≠ 0 by decide)
  have a1 := Int.emod_lt_of_pos (first + 9) (show (0 : Int) < 26 by decide)
  have b0 := Int.emod_nonneg (first + 5) (show (26 : Int) ≠ 0 by decide)
  have b1 := Int.emod_lt_of_pos (first + 5) (show (0 : Int) < 26 by decide)
  have l3 : (cs.take 3).length ≤ 3 := by rw [List.length_take]; omega
  let p := 97 + first.toNat
  let q := 97 + ((first + 9) % 26).toNat
  let r := 97 + ((first + 5) % 26).toNat
  let ws4 : List (List Nat) := [[p], [p] ++ [p], [q] ++ cs.take 3, (List.replicate (4 : Int).toNat [p]).flatten ++ [r]]
  let g : Nat → List Nat := fun k => ws4.getD k []
  let f : D → D := fun x => match x with
    | .int i => sD (g i.toNat)
    | _ => .non
  have e := lc_map (G := dName 8) (Te := Q3_law_some_things) (vs := [8]) f hr (by rw [range_len]; omega) fun x hx => by
    obtain ⟨k, hk, rfl⟩ := range_mem hx
    simp only [dSeq, dIf, dB, dAnd, dOr, dNot, dAsg, dOp, dVar, dC, dCB, dCons, dNil, dName, dRet, dRetN, dDrop, dNext, dIfE, dAndV, dOrV, dNotV, dUn, dSl, dNoPart, dPart, dPar, dPar3, dTup, dLst, dGTup, dGCons, dGNil, dChain, dIsN, dNotN, isN, dCont, dBreak, dGSub, dSeqI, items_lst, items_tup, dZip2, dZip3, dEnum, still_lst, still_tup, dFor, dFld, dLenOf, dM1, look_0, look_s, bind_ok, to_ok, then_nx, then_rt, then_ct, then_bk, turn_nx, turn_ct, turn_rt, turn_bk, run_rt, run_nx, onB_bl, okO_some, noX_ok, addD_int, subD_int, ltD_int, cmpD_int, fLe, fGe, fGt, intD_int, if_true, if_false, Bool.false_eq_true, Bool.not_true, Bool.not_false, List.set_cons_succ, List.set_cons_zero, ixD_lst, ixD_tup, lenD_lst, lenD_tup, List.length_cons, List.length_nil, isi_int_int, isi_int_bool, isi_int_str, isi_int_tuple, isi_int_list, isi_bl_int, isi_bl_bool, isi_bl_str, isi_bl_tuple, isi_bl_list, isi_str_int, isi_str_bool, isi_str_str, isi_str_tuple, isi_str_list, isi_tup_int, isi_tup_bool, isi_tup_str, isi_tup_tuple, isi_tup_list, isi_lst_int, isi_lst_bool, isi_lst_str, isi_lst_tuple, isi_lst_list, isi_non_int, isi_non_bool, isi_non_str, isi_non_tuple, isi_non_list, wipeD, dNever, chk_c, decide_true, decide_false, Q3_law_some_things, sD_sl (show cs.length ≤ 16777216 by omega), cut_take cs (show (0 : Int) ≤ 3 by decide), modD_int (show (0 : Int) < 26 by decide), sD_ix (show abc.length ≤ 16777216 by decide), abc_at a0 a1, abc_at b0 b1, sD_mul (a := [97 + first.toNat]) (show (-1000 : Int) ≤ 4 by decide) (show (4 : Int) ≤ 1000 by decide) (show (1 : Nat) ≤ 1000 by decide), sD_add (a := [97 + first.toNat]) (b := [97 + first.toNat]) (show (1 + 1 : Nat) ≤ 16777216 by decide)]
    have l4 : ([97 + ((first + 9) % 26).toNat] : List Nat).length + (cs.take (Int.toNat 3)).length ≤ 16777216 := by
      have : (cs.take (Int.toNat 3)).length ≤ 3 := l3
      simp only [List.length_cons, List.length_nil]; omega
    simp only [dSeq, dIf, dB, dAnd, dOr, dNot, dAsg, dOp, dVar, dC, dCB, dCons, dNil, dName, dRet, dRetN, dDrop, dNext, dIfE, dAndV, dOrV, dNotV, dUn, dSl, dNoPart, dPart, dPar, dPar3, dTup, dLst, dGTup, dGCons, dGNil, dChain, dIsN, dNotN, isN, dCont, dBreak, dGSub, dSeqI, items_lst, items_tup, dZip2, dZip3, dEnum, still_lst, still_tup, dFor, dFld, dLenOf, dM1, look_0, look_s, bind_ok, to_ok, then_nx, then_rt, then_ct, then_bk, turn_nx, turn_ct, turn_rt, turn_bk, run_rt, run_nx, onB_bl, okO_some, noX_ok, addD_int, subD_int, ltD_int, cmpD_int, fLe, fGe, fGt, intD_int, if_true, if_false, Bool.false_eq_true, Bool.not_true, Bool.not_false, List.set_cons_succ, List.set_cons_zero, ixD_lst, ixD_tup, lenD_lst, lenD_tup, List.length_cons, List.length_nil, isi_int_int, isi_int_bool, isi_int_str, isi_int_tuple, isi_int_list, isi_bl_int, isi_bl_bool, isi_bl_str, isi_bl_tuple, isi_bl_list, isi_str_int, isi_str_bool, isi_str_str, isi_str_tuple, isi_str_list, isi_tup_int, isi_tup_bool, isi_tup_str, isi_tup_tuple, isi_tup_list, isi_lst_int, isi_lst_bool, isi_lst_str, isi_lst_tuple, isi_lst_list, isi_non_int, isi_non_bool, isi_non_str, isi_non_tuple, isi_non_list, wipeD, dNever, chk_c, decide_true, decide_false, sD_add l4, sD_add (a := (List.replicate (4 : Int).toNat [97 + first.toNat]).flatten) (b := [97 + ((first + 5) % 26).toNat]) (show (4 + 1 : Nat) ≤ 16777216 by decide), chk_c (show (0 + 1 + 1 + 1 + 1 : Nat) ≤ 16777216 by decide)]
    have hk4 : k = 0 ∨ k = 1 ∨ k = 2 ∨ k = 3 := by omega
    rcases hk4 with rfl | rfl | rfl | rfl <;> rfl
  rw [range_map (h := g) fun k hk => by
    have ek : (0 + (k : Int)).toNat = k := by omega
    show sD (g (0 + (k : Int)).toNat) = _
    rw [ek]] at e
  have nm : ∀ x ∈ ws4, Nm x := by
    have hp : Low [p] := low_one f0 f1
    have hq : Low [q] := low_one a0 a1
    have hr' : Low [r] := low_one b0 b1
    intro x hx
    simp only [ws4, List.mem_cons, List.not_mem_nil, or_false] at hx
    rcases hx with rfl | rfl | rfl | rfl
    · exact ⟨by simp, by simp, hp⟩
    · exact ⟨by simp, by simp, hp.app hp⟩
    · refine ⟨by simp, ?_, hq.app (hc.take 3)⟩
      rw [List.length_append]; simp only [List.length_cons, List.length_nil]; omega
    · refine ⟨by simp, by simp, ?_⟩
      exact Low.app (hp.app (hp.app (hp.app hp))) hr'
  refine ⟨_, e, by simp, fun x hx => ?_, nodup_range fun i j hij hj he => ?_⟩
  · obtain ⟨k, hk, rfl⟩ := List.mem_map.mp hx
    have hk' : k < 4 := by have := List.mem_range.mp hk; omega
    refine nm _ ?_
    have hk4 : k = 0 ∨ k = 1 ∨ k = 2 ∨ k = 3 := by omega
    rcases hk4 with rfl | rfl | rfl | rfl <;> simp [g, ws4]
  · have hpq : p ≠ q := by show 97 + first.toNat ≠ 97 + ((first + 9) % 26).toNat; omega
    have h3 : (i = 0 ∧ j = 1) ∨ (i = 0 ∧ j = 2) ∨ (i = 0 ∧ j = 3) ∨ (i = 1 ∧ j = 2) ∨ (i = 1 ∧ j = 3) ∨ (i = 2 ∧ j = 3) := by omega
    rcases h3 with ⟨rfl, rfl⟩ | ⟨rfl, rfl⟩ | ⟨rfl, rfl⟩ | ⟨rfl, rfl⟩ | ⟨rfl, rfl⟩ | ⟨rfl, rfl⟩
    · have := congrArg List.length he; simp [g, ws4] at this
    · exact hpq (List.cons.inj (show p :: [] = q :: cs.take 3 from he)).1
    · have := congrArg List.length he; simp [g, ws4] at this
    · exact hpq (List.cons.inj (show p :: [p] = q :: cs.take 3 from he)).1
    · have := congrArg List.length he; simp [g, ws4] at this
    · exact hpq (List.cons.inj (show q :: cs.take 3 = p :: [p, p, p, r] from he)).1.symm
theorem flat_one : ∀ cs : List Nat, (cs.map fun c => [c]).flatten = cs
  | [] => rfl
  | c :: r => by rw [List.map_cons, List.flatten_cons, flat_one r]; rfl
theorem sum_one : ∀ cs : List Nat, (cs.map (List.length ∘ fun c => [c])).sum = cs.length
  | [] => rfl
  | c :: r => by rw [List.map_cons, List.sum_cons, sum_one r, List.length_cons]; simp only [Function.comp, List.length_cons, List.length_nil]; omega
theorem some_things_ok {b w : Nat} {μ : Mu} (hb : HasBox b μ) (hw : w ≤ 4) :
    ∃ (ws : List (List Nat)) (μ' : Mu), f_law_some_things [.cell b, .int w] μ = .ok (.lst (ws.map sD)) μ' ∧ ws.length = w ∧ (∀ x ∈ ws, Nm x) ∧ ws.Nodup ∧ Nx b μ μ' := by
  obtain ⟨cs, μ1, e1, cl, cc, k1⟩ := stem_ok (x1 := some (.int w)) (x3 := none) (x4 := none) (x5 := none) (x6 := none) (x7 := none) (x8 := none) hb
  have ej : joinD (wS []) (.lst (cs.map fun c => sD [c])) μ1 = .ok (sD cs) μ1 := by
    have e : cs.map (fun c => sD [c]) = (cs.map fun c => [c]).map sD := by rw [List.map_map]; rfl
    rw [e, sD_join, joinL_nil]
    · rw [flat_one]
    · rw [List.map_map, List.length_map, sum_one]
      simp only [List.length_nil]
      omega
  obtain ⟨spot, μ2, e2, s0, s1, k2⟩ := draw_nx (many := (cs.length : Int) + 1) (k1.box hb) (by omega) (by omega)
  obtain ⟨first, μ3, e3, f0, f1, k3⟩ := draw_nx (many := 26) ((k1.trans k2).box hb) (by decide) (by decide)
  obtain ⟨way, μ4, e4, y0, y1, k4⟩ := draw_nx (many := 2) (((k1.trans k2).trans k3).box hb) (by decide) (by decide)
  have kk := ((k1.trans k2).trans k3).trans k4
  have e0 : f_law_some_things [.cell b, .int w] μ = fz μ (SR.run (T_law_some_things [some (.cell b), some (.int w), none, none, none, none, none, none, none] μ)) := defR_ok rfl
  by_cases c : way = 0
  · obtain ⟨ws, ew, h1, h2, h3⟩ := way0_ok (b := b) (w := w) (μ := μ4) (x6 := some (.int way)) (x7 := none) (x8 := none) hw cl cc s0 f0 f1
    refine ⟨ws, μ4, ?_, h1, h2, h3, kk⟩
    rw [e0]
    subst c
    simp only [dSeq, dIf, dB, dAnd, dOr, dNot, dAsg, dOp, dVar, dC, dCB, dCons, dNil, dName, dRet, dRetN, dDrop, dNext, dIfE, dAndV, dOrV, dNotV, dUn, dSl, dNoPart, dPart, dPar, dPar3, dTup, dLst, dGTup, dGCons, dGNil, dChain, dIsN, dNotN, isN, dCont, dBreak, dGSub, dSeqI, items_lst, items_tup, dZip2, dZip3, dEnum, still_lst, still_tup, dFor, dFld, dLenOf, dM1, look_0, look_s, bind_ok, to_ok, then_nx, then_rt, then_ct, then_bk, turn_nx, turn_ct, turn_rt, turn_bk, run_rt, run_nx, onB_bl, okO_some, noX_ok, addD_int, subD_int, ltD_int, cmpD_int, fLe, fGe, fGt, intD_int, if_true, if_false, Bool.false_eq_true, Bool.not_true, Bool.not_false, List.set_cons_succ, List.set_cons_zero, ixD_lst, ixD_tup, lenD_lst, lenD_tup, List.length_cons, List.length_nil, isi_int_int, isi_int_bool, isi_int_str, isi_int_tuple, isi_int_list, isi_bl_int, isi_bl_bool, isi_bl_str, isi_bl_tuple, isi_bl_list, isi_str_int, isi_str_bool, isi_str_str, isi_str_tuple, isi_str_list, isi_tup_int, isi_tup_bool, isi_tup_str, isi_tup_tuple, isi_tup_list, isi_lst_int, isi_lst_bool, isi_lst_str, isi_lst_tuple, isi_lst_list, isi_non_int, isi_non_bool, isi_non_str, isi_non_tuple, isi_non_list, wipeD, dNever, chk_c, decide_true, decide_false, T_law_some_things, lit_abc, lit_e, e1, ej, sD_len (show cs.length ≤ 16777216 by omega), e2, e3, e4, chk_c (show (0 + 1 + 1 + 1 : Nat) ≤ 16777216 by decide), eqD_int, beq_self_eq_true, ew]
    exact fz_nx kk
  · obtain ⟨ws, ew, h1, h2, h3⟩ := way1_ok (b := b) (w := w) (μ := μ4) (x4 := some (.int spot)) (x6 := some (.int way)) (x8 := none) hw cl cc f0 f1
    refine ⟨ws, μ4, ?_, h1, h2, h3, kk⟩
    rw [e0]
    have cb : (way == 0) = false := beq_eq_false_iff_ne.mpr c
    simp only [dSeq, dIf, dB, dAnd, dOr, dNot, dAsg, dOp, dVar, dC, dCB, dCons, dNil, dName, dRet, dRetN, dDrop, dNext, dIfE, dAndV, dOrV, dNotV, dUn, dSl, dNoPart, dPart, dPar, dPar3, dTup, dLst, dGTup, dGCons, dGNil, dChain, dIsN, dNotN, isN, dCont, dBreak, dGSub, dSeqI, items_lst, items_tup, dZip2, dZip3, dEnum, still_lst, still_tup, dFor, dFld, dLenOf, dM1, look_0, look_s, bind_ok, to_ok, then_nx, then_rt, then_ct, then_bk, turn_nx, turn_ct, turn_rt, turn_bk, run_rt, run_nx, onB_bl, okO_some, noX_ok, addD_int, subD_int, ltD_int, cmpD_int, fLe, fGe, fGt, intD_int, if_true, if_false, Bool.false_eq_true, Bool.not_true, Bool.not_false, List.set_cons_succ, List.set_cons_zero, ixD_lst, ixD_tup, lenD_lst, lenD_tup, List.length_cons, List.length_nil, isi_int_int, isi_int_bool, isi_int_str, isi_int_tuple, isi_int_list, isi_bl_int, isi_bl_bool, isi_bl_str, isi_bl_tuple, isi_bl_list, isi_str_int, isi_str_bool, isi_str_str, isi_str_tuple, isi_str_list, isi_tup_int, isi_tup_bool, isi_tup_str, isi_tup_tuple, isi_tup_list, isi_lst_int, isi_lst_bool, isi_lst_str, isi_lst_tuple, isi_lst_list, isi_non_int, isi_non_bool, isi_non_str, isi_non_tuple, isi_non_list, wipeD, dNever, chk_c, decide_true, decide_false, T_law_some_things, lit_abc, lit_e, e1, ej, sD_len (show cs.length ≤ 16777216 by omega), e2, e3, e4, chk_c (show (0 + 1 + 1 + 1 : Nat) ≤ 16777216 by decide), eqD_int, cb, sD_ix (show abc.length ≤ 16777216 by decide), abc_at f0 f1, ew]
    exact fz_nx kk
end Lw

namespace Lw
open PySem L2 DX
/-- a barter: two different bundles of the width w, counts up to g -/
def Bt (w : Nat) (g : Int) (p : List Int × List Int) : Prop := p.1.length = w ∧ p.2.length = w ∧ p.1 ≠ p.2 ∧ (∀ x ∈ p.1, 0 ≤ x ∧ x ≤ g) ∧ ∀ x ∈ p.2, 0 ≤ x ∧ x ≤ g
def bD (p : List Int × List Int) : D := .tup [.tup (iD p.1), .tup (iD p.2)]
def rowD (ps : List (List Int × List Int)) : List D := ps.map bD
theorem bD_plain {n : Nat} {p : List Int × List Int} (h1 : p.1.length ≤ 100000) (h2 : p.2.length ≤ 100000) : DX.plain (n + 2) (bD p) = true := by
  refine plain_tup_of (show (2 : Nat) ≤ 100000 by decide) ?_
  rw [plains_cons, plains_cons, plains_nil, plain_itup h1, plain_itup h2]
  rfl

/-! ### bundles, barters, things of a market -/
theorem is_count_ok {x most : Int} {μ : Mu} : f_is_count [.int x, .int most] μ = .ok (.bl (decide (0 ≤ x) && decide (x ≤ most))) μ := by
  have e0 : f_is_count [.int x, .int most] μ = fz μ (SR.run (T_is_count [some (.int x), some (.int most)] μ)) := defR_ok rfl
  rw [e0]
  by_cases c : 0 ≤ x
  · simp only [dSeq, dIf, dB, dAnd, dOr, dNot, dAsg, dOp, dVar, dC, dCB, dCons, dNil, dName, dRet, dRetN, dDrop, dNext, dIfE, dAndV, dOrV, dNotV, dUn, dSl, dNoPart, dPart, dPar, dPar3, dTup, dLst, dGTup, dGCons, dGNil, dChain, dIsN, dNotN, isN, dCont, dBreak, dGSub, dSeqI, items_lst, items_tup, dZip2, dZip3, dEnum, still_lst, still_tup, dFor, dFld, dLenOf, dM1, look_0, look_s, bind_ok, to_ok, then_nx, then_rt, then_ct, then_bk, turn_nx, turn_ct, turn_rt, turn_bk, run_rt, run_nx, onB_bl, okO_some, noX_ok, addD_int, subD_int, ltD_int, cmpD_int, fLe, fGe, fGt, intD_int, if_true, if_false, Bool.false_eq_true, Bool.not_true, Bool.not_false, List.set_cons_succ, List.set_cons_zero, ixD_lst, ixD_tup, lenD_lst, lenD_tup, List.length_cons, List.length_nil, isi_int_int, isi_int_bool, isi_int_str, isi_int_tuple, isi_int_list, isi_bl_int, isi_bl_bool, isi_bl_str, isi_bl_tuple, isi_bl_list, isi_str_int, isi_str_bool, isi_str_str, isi_str_tuple, isi_str_list, isi_tup_int, isi_tup_bool, isi_tup_str, isi_tup_tuple, isi_tup_list, isi_lst_int, isi_lst_bool, isi_lst_str, isi_lst_tuple, isi_lst_list, isi_non_int, isi_non_bool, isi_non_str, isi_non_tuple, isi_non_list, wipeD, dNever, chk_c, decide_true, decide_false, T_is_count, decide_eq_true c, Bool.true_and]
    exact fz_same (Nat.le_refl _)
  · simp only [dSeq, dIf, dB, dAnd, dOr, dNot, dAsg, dOp, dVar, dC, dCB, dCons, dNil, dName, dRet, dRetN, dDrop, dNext, dIfE, dAndV, dOrV, dNotV, dUn, dSl, dNoPart, dPart, dPar, dPar3, dTup, dLst, dGTup, dGCons, dGNil, dChain, dIsN, dNotN, isN, dCont, dBreak, dGSub, dSeqI, items_lst, items_tup, dZip2, dZip3, dEnum, still_lst, still_tup, dFor, dFld, dLenOf, dM1, look_0, look_s, bind_ok, to_ok, then_nx, then_rt, then_ct, then_bk, turn_nx, turn_ct, turn_rt, turn_bk, run_rt, run_nx, onB_bl, okO_some, noX_ok, addD_int, subD_int, ltD_int, cmpD_int, fLe, fGe, fGt, intD_int, if_true, if_false, Bool.false_eq_true, Bool.not_true, Bool.not_false, List.set_cons_succ, List.set_cons_zero, ixD_lst, ixD_tup, lenD_lst, lenD_tup, List.length_cons, List.length_nil, isi_int_int, isi_int_bool, isi_int_str, isi_int_tuple, isi_int_list, isi_bl_int, isi_bl_bool, isi_bl_str, isi_bl_tuple, isi_bl_list, isi_str_int, isi_str_bool, isi_str_str, isi_str_tuple, isi_str_list, isi_tup_int, isi_tup_bool, isi_tup_str, isi_tup_tuple, isi_tup_list, isi_lst_int, isi_lst_bool, isi_lst_str, isi_lst_tuple, isi_lst_list, isi_non_int, isi_non_bool, isi_non_str, isi_non_tuple, isi_non_list, wipeD, dNever, chk_c, decide_true, decide_false, T_is_count, decide_eq_false c, Bool.false_and]
    exact fz_same (Nat.le_refl _)
def inB (most : Int) (xs : List Int) : Bool := xs.all fun x => decide (0 ≤ x) && decide (x ≤ most)
theorem inB_of {most : Int} {xs : List Int} (h : ∀ x ∈ xs, 0 ≤ x ∧ x ≤ most) : inB most xs = true := List.all_eq_true.mpr fun x hx => by
  have := h x hx
  simp [this.1, this.2]
theorem bls_map {α : Type} (f : α → Bool) (xs : List α) : blsOf (xs.map fun x => D.bl (f x)) = some (xs.map f) := by
  have := blsOf_map (xs.map f)
  rw [List.map_map] at this
  exact this
theorem all_map {α : Type} (f : α → Bool) (xs : List α) : (xs.map f).all id = xs.all f := by rw [List.all_map]; rfl
theorem is_bundle_ok {xs : List Int} {w : Nat} {most : Int} {μ : Mu} (hl : xs.length ≤ 16777216) : f_is_bundle [.tup (iD xs), .int w, .int most] μ = .ok (.bl (decide (xs.length = w) && inB most xs)) μ := by
  have e0 : f_is_bundle [.tup (iD xs), .int w, .int most] μ = fz μ (SR.run (T_is_bundle [some (.tup (iD xs)), some (.int w), some (.int most), none] μ)) := defR_ok rfl
  rw [e0]
  have el : L1_is_bundle [some (.tup (iD xs)), some (.int w), some (.int most), none] μ = .ok (.lst (xs.map fun x => D.bl (decide (0 ≤ x) && decide (x ≤ most)))) μ := by
    have z := lc_seq (i := 3) (Te := Q1_is_bundle) (η := [some (.tup (iD xs)), some (.int w), some (.int most), none]) (μ := μ) (S := dVar 0) (d := .tup (iD xs)) (xs := iD xs) (fun x => match x with | .int x => D.bl (decide (0 ≤ x) && decide (x ≤ most)) | _ => .non) rfl rfl (by rw [ints_len]; exact hl) fun x hx => by
      obtain ⟨n, _, rfl⟩ := ints_mem hx
      simp only [dSeq, dIf, dB, dAnd, dOr, dNot, dAsg, dOp, dVar, dC, dCB, dCons, dNil, dName, dRet, dRetN, dDrop, dNext, dIfE, dAndV, dOrV, dNotV, dUn, dSl, dNoPart, dPart, dPar, dPar3, dTup, dLst, dGTup, dGCons, dGNil, dChain, dIsN, dNotN, isN, dCont, dBreak, dGSub, dSeqI, items_lst, items_tup, dZip2, dZip3, dEnum, still_lst, still_tup, dFor, dFld, dLenOf, dM1, look_0, look_s, bind_ok, to_ok, then_nx, then_rt, then_ct, then_bk, turn_nx, turn_ct, turn_rt, turn_bk, run_rt, run_nx, onB_bl, okO_some, noX_ok, addD_int, subD_int, ltD_int, cmpD_int, fLe, fGe, fGt, intD_int, if_true, if_false, Bool.false_eq_true, Bool.not_true, Bool.not_false, List.set_cons_succ, List.set_cons_zero, ixD_lst, ixD_tup, lenD_lst, lenD_tup, List.length_cons, List.length_nil, isi_int_int, isi_int_bool, isi_int_str, isi_int_tuple, isi_int_list, isi_bl_int, isi_bl_bool, isi_bl_str, isi_bl_tuple, isi_bl_list, isi_str_int, isi_str_bool, isi_str_str, isi_str_tuple, isi_str_list, isi_tup_int, isi_tup_bool, isi_tup_str, isi_tup_tuple, isi_tup_list, isi_lst_int, isi_lst_bool, isi_lst_str, isi_lst_tuple, isi_lst_list, isi_non_int, isi_non_bool, isi_non_str, isi_non_tuple, isi_non_list, wipeD, dNever, chk_c, decide_true, decide_false, Q1_is_bundle, is_count_ok]
    unfold iD at z
    rw [List.map_map] at z
    exact z
  by_cases c : xs.length = w
  · have cb : ((xs.length : Int) == (w : Int)) = true := by rw [c]; exact beq_self_eq_true _
    simp only [dSeq, dIf, dB, dAnd, dOr, dNot, dAsg, dOp, dVar, dC, dCB, dCons, dNil, dName, dRet, dRetN, dDrop, dNext, dIfE, dAndV, dOrV, dNotV, dUn, dSl, dNoPart, dPart, dPar, dPar3, dTup, dLst, dGTup, dGCons, dGNil, dChain, dIsN, dNotN, isN, dCont, dBreak, dGSub, dSeqI, items_lst, items_tup, dZip2, dZip3, dEnum, still_lst, still_tup, dFor, dFld, dLenOf, dM1, look_0, look_s, bind_ok, to_ok, then_nx, then_rt, then_ct, then_bk, turn_nx, turn_ct, turn_rt, turn_bk, run_rt, run_nx, onB_bl, okO_some, noX_ok, addD_int, subD_int, ltD_int, cmpD_int, fLe, fGe, fGt, intD_int, if_true, if_false, Bool.false_eq_true, Bool.not_true, Bool.not_false, List.set_cons_succ, List.set_cons_zero, ixD_lst, ixD_tup, lenD_lst, lenD_tup, List.length_cons, List.length_nil, isi_int_int, isi_int_bool, isi_int_str, isi_int_tuple, isi_int_list, isi_bl_int, isi_bl_bool, isi_bl_str, isi_bl_tuple, isi_bl_list, isi_str_int, isi_str_bool, isi_str_str, isi_str_tuple, isi_str_list, isi_tup_int, isi_tup_bool, isi_tup_str, isi_tup_tuple, isi_tup_list, isi_lst_int, isi_lst_bool, isi_lst_str, isi_lst_tuple, isi_lst_list, isi_non_int, isi_non_bool, isi_non_str, isi_non_tuple, isi_non_list, wipeD, dNever, chk_c, decide_true, decide_false, T_is_bundle, ints_len, eqD_int, cb, el, allD, asL, bls_map, all_map, decide_eq_true c, Bool.true_and]
    exact fz_same (Nat.le_refl _)
  · have cb : ((xs.length : Int) == (w : Int)) = false := beq_eq_false_iff_ne.mpr (by omega)
    simp only [dSeq, dIf, dB, dAnd, dOr, dNot, dAsg, dOp, dVar, dC, dCB, dCons, dNil, dName, dRet, dRetN, dDrop, dNext, dIfE, dAndV, dOrV, dNotV, dUn, dSl, dNoPart, dPart, dPar, dPar3, dTup, dLst, dGTup, dGCons, dGNil, dChain, dIsN, dNotN, isN, dCont, dBreak, dGSub, dSeqI, items_lst, items_tup, dZip2, dZip3, dEnum, still_lst, still_tup, dFor, dFld, dLenOf, dM1, look_0, look_s, bind_ok, to_ok, then_nx, then_rt, then_ct, then_bk, turn_nx, turn_ct, turn_rt, turn_bk, run_rt, run_nx, onB_bl, okO_some, noX_ok, addD_int, subD_int, ltD_int, cmpD_int, fLe, fGe, fGt, intD_int, if_true, if_false, Bool.false_eq_true, Bool.not_true, Bool.not_false, List.set_cons_succ, List.set_cons_zero, ixD_lst, ixD_tup, lenD_lst, lenD_tup, List.length_cons, List.length_nil, isi_int_int, isi_int_bool, isi_int_str, isi_int_tuple, isi_int_list, isi_bl_int, isi_bl_bool, isi_bl_str, isi_bl_tuple, isi_bl_list, isi_str_int, isi_str_bool, isi_str_str, isi_str_tuple, isi_str_list, isi_tup_int, isi_tup_bool, isi_tup_str, isi_tup_tuple, isi_tup_list, isi_lst_int, isi_lst_bool, isi_lst_str, isi_lst_tuple, isi_lst_list, isi_non_int, isi_non_bool, isi_non_str, isi_non_tuple, isi_non_list, wipeD, dNever, chk_c, decide_true, decide_false, T_is_bundle, ints_len, eqD_int, cb, decide_eq_false c, Bool.false_and]
    exact fz_same (Nat.le_refl _)
theorem is_bundle_true {xs : List Int} {w : Nat} {most : Int} {μ : Mu} (hw : xs.length = w) (hl : w ≤ 16777216) (hx : ∀ x ∈ xs, 0 ≤ x ∧ x ≤ most) : f_is_bundle [.tup (iD xs), .int w, .int most] μ = .ok (.bl true) μ := by
  rw [is_bundle_ok (by omega), decide_eq_true hw, inB_of hx]
  rfl
theorem is_barter_true {p : List Int × List Int} {w : Nat} {μ : Mu} (h : Bt w 9 p) (hw : w ≤ 1000) : f_is_barter [bD p, .int w] μ = .ok (.bl true) μ := by
  obtain ⟨l, r⟩ := p
  obtain ⟨h1, h2, h3, h4, h5⟩ := h
  have h1 : l.length = w := h1
  have h2 : r.length = w := h2
  have e0 : f_is_barter [bD (l, r), .int w] μ = fz μ (SR.run (T_is_barter [some (bD (l, r)), some (.int w), none] μ)) := defR_ok rfl
  rw [e0]
  have el : L1_is_barter [some (bD (l, r)), some (.int w), none] μ = .ok (.lst [.bl true, .bl true]) μ := lc_seq (i := 2) (Te := Q1_is_barter) (S := dVar 0) (d := bD (l, r)) (xs := [.tup (iD l), .tup (iD r)]) (fun x => D.bl true) rfl rfl (show (2 : Nat) ≤ 16777216 by decide) fun x hx => by
    have : ∃ z, x = .tup z := by
      rcases List.mem_cons.mp hx with rfl | hx
      · exact ⟨_, rfl⟩
      · rw [List.mem_singleton.mp hx]; exact ⟨_, rfl⟩
    obtain ⟨z, rfl⟩ := this
    simp only [dSeq, dIf, dB, dAnd, dOr, dNot, dAsg, dOp, dVar, dC, dCB, dCons, dNil, dName, dRet, dRetN, dDrop, dNext, dIfE, dAndV, dOrV, dNotV, dUn, dSl, dNoPart, dPart, dPar, dPar3, dTup, dLst, dGTup, dGCons, dGNil, dChain, dIsN, dNotN, isN, dCont, dBreak, dGSub, dSeqI, items_lst, items_tup, dZip2, dZip3, dEnum, still_lst, still_tup, dFor, dFld, dLenOf, dM1, look_0, look_s, bind_ok, to_ok, then_nx, then_rt, then_ct, then_bk, turn_nx, turn_ct, turn_rt, turn_bk, run_rt, run_nx, onB_bl, okO_some, noX_ok, addD_int, subD_int, ltD_int, cmpD_int, fLe, fGe, fGt, intD_int, if_true, if_false, Bool.false_eq_true, Bool.not_true, Bool.not_false, List.set_cons_succ, List.set_cons_zero, ixD_lst, ixD_tup, lenD_lst, lenD_tup, List.length_cons, List.length_nil, isi_int_int, isi_int_bool, isi_int_str, isi_int_tuple, isi_int_list, isi_bl_int, isi_bl_bool, isi_bl_str, isi_bl_tuple, isi_bl_list, isi_str_int, isi_str_bool, isi_str_str, isi_str_tuple, isi_str_list, isi_tup_int, isi_tup_bool, isi_tup_str, isi_tup_tuple, isi_tup_list, isi_lst_int, isi_lst_bool, isi_lst_str, isi_lst_tuple, isi_lst_list, isi_non_int, isi_non_bool, isi_non_str, isi_non_tuple, isi_non_list, wipeD, dNever, chk_c, decide_true, decide_false, Q1_is_barter]
  have e2 : L2_is_barter [some (bD (l, r)), some (.int w), none] μ = .ok (.lst [.bl true, .bl true]) μ := lc_seq (i := 2) (Te := Q2_is_barter) (S := dVar 0) (d := bD (l, r)) (xs := [.tup (iD l), .tup (iD r)]) (fun x => D.bl true) rfl rfl (show (2 : Nat) ≤ 16777216 by decide) fun x hx => by
    rcases List.mem_cons.mp hx with rfl | hx
    · simp only [dSeq, dIf, dB, dAnd, dOr, dNot, dAsg, dOp, dVar, dC, dCB, dCons, dNil, dName, dRet, dRetN, dDrop, dNext, dIfE, dAndV, dOrV, dNotV, dUn, dSl, dNoPart, dPart, dPar, dPar3, dTup, dLst, dGTup, dGCons, dGNil, dChain, dIsN, dNotN, isN, dCont, dBreak, dGSub, dSeqI, items_lst, items_tup, dZip2, dZip3, dEnum, still_lst, still_tup, dFor, dFld, dLenOf, dM1, look_0, look_s, bind_ok, to_ok, then_nx, then_rt, then_ct, then_bk, turn_nx, turn_ct, turn_rt, turn_bk, run_rt, run_nx, onB_bl, okO_some, noX_ok, addD_int, subD_int, ltD_int, cmpD_int, fLe, fGe, fGt, intD_int, if_true, if_false, Bool.false_eq_true, Bool.not_true, Bool.not_false, List.set_cons_succ, List.set_cons_zero, ixD_lst, ixD_tup, lenD_lst, lenD_tup, List.length_cons, List.length_nil, isi_int_int, isi_int_bool, isi_int_str, isi_int_tuple, isi_int_list, isi_bl_int, isi_bl_bool, isi_bl_str, isi_bl_tuple, isi_bl_list, isi_str_int, isi_str_bool, isi_str_str, isi_str_tuple, isi_str_list, isi_tup_int, isi_tup_bool, isi_tup_str, isi_tup_tuple, isi_tup_list, isi_lst_int, isi_lst_bool, isi_lst_str, isi_lst_tuple, isi_lst_list, isi_non_int, isi_non_bool, isi_non_str, isi_non_tuple, isi_non_list, wipeD, dNever, chk_c, decide_true, decide_false, Q2_is_barter, is_bundle_true h1 (show w ≤ 16777216 by omega) h4]
    · rw [List.mem_singleton.mp hx]
      simp only [dSeq, dIf, dB, dAnd, dOr, dNot, dAsg, dOp, dVar, dC, dCB, dCons, dNil, dName, dRet, dRetN, dDrop, dNext, dIfE, dAndV, dOrV, dNotV, dUn, dSl, dNoPart, dPart, dPar, dPar3, dTup, dLst, dGTup, dGCons, dGNil, dChain, dIsN, dNotN, isN, dCont, dBreak, dGSub, dSeqI, items_lst, items_tup, dZip2, dZip3, dEnum, still_lst, still_tup, dFor, dFld, dLenOf, dM1, look_0, look_s, bind_ok, to_ok, then_nx, then_rt, then_ct, then_bk, turn_nx, turn_ct, turn_rt, turn_bk, run_rt, run_nx, onB_bl, okO_some, noX_ok, addD_int, subD_int, ltD_int, cmpD_int, fLe, fGe, fGt, intD_int, if_true, if_false, Bool.false_eq_true, Bool.not_true, Bool.not_false, List.set_cons_succ, List.set_cons_zero, ixD_lst, ixD_tup, lenD_lst, lenD_tup, List.length_cons, List.length_nil, isi_int_int, isi_int_bool, isi_int_str, isi_int_tuple, isi_int_list, isi_bl_int, isi_bl_bool, isi_bl_str, isi_bl_tuple, isi_bl_list, isi_str_int, isi_str_bool, isi_str_str, isi_str_tuple, isi_str_list, isi_tup_int, isi_tup_bool, isi_tup_str, isi_tup_tuple, isi_tup_list, isi_lst_int, isi_lst_bool, isi_lst_str, isi_lst_tuple, isi_lst_list, isi_non_int, isi_non_bool, isi_non_str, isi_non_tuple, isi_non_list, wipeD, dNever, chk_c, decide_true, decide_false, Q2_is_barter, is_bundle_true h2 (show w ≤ 16777216 by omega) h5]
  have h3' : l ≠ r := h3
  have lb : lenD [bD (l, r)] μ = .ok (.int 2) μ := rfl
  have a0 : ixD (bD (l, r)) (.int 0) μ = .ok (.tup (iD l)) μ := rfl
  have a1 : ixD (bD (l, r)) (.int 1) μ = .ok (.tup (iD r)) μ := rfl
  have bt : blsOf [D.bl true, D.bl true] = some [true, true] := rfl
  have ba : [true, true].all id = true := rfl
  have n2 : neD (.int 2) (.int 2) μ = .ok (.bl false) μ := by rw [neD_int]; rfl
  simp only [dSeq, dIf, dB, dAnd, dOr, dNot, dAsg, dOp, dVar, dC, dCB, dCons, dNil, dName, dRet, dRetN, dDrop, dNext, dIfE, dAndV, dOrV, dNotV, dUn, dSl, dNoPart, dPart, dPar, dPar3, dTup, dLst, dGTup, dGCons, dGNil, dChain, dIsN, dNotN, isN, dCont, dBreak, dGSub, dSeqI, items_lst, items_tup, dZip2, dZip3, dEnum, still_lst, still_tup, dFor, dFld, dLenOf, dM1, look_0, look_s, bind_ok, to_ok, then_nx, then_rt, then_ct, then_bk, turn_nx, turn_ct, turn_rt, turn_bk, run_rt, run_nx, onB_bl, okO_some, noX_ok, addD_int, subD_int, ltD_int, cmpD_int, fLe, fGe, fGt, intD_int, if_true, if_false, Bool.false_eq_true, Bool.not_true, Bool.not_false, List.set_cons_succ, List.set_cons_zero, ixD_lst, ixD_tup, lenD_lst, lenD_tup, List.length_cons, List.length_nil, isi_int_int, isi_int_bool, isi_int_str, isi_int_tuple, isi_int_list, isi_bl_int, isi_bl_bool, isi_bl_str, isi_bl_tuple, isi_bl_list, isi_str_int, isi_str_bool, isi_str_str, isi_str_tuple, isi_str_list, isi_tup_int, isi_tup_bool, isi_tup_str, isi_tup_tuple, isi_tup_list, isi_lst_int, isi_lst_bool, isi_lst_str, isi_lst_tuple, isi_lst_list, isi_non_int, isi_non_bool, isi_non_str, isi_non_tuple, isi_non_list, wipeD, dNever, chk_c, decide_true, decide_false, T_is_barter, lb, n2, el, e2, allD, asL, bt, ba, a0, a1, neD_itup (show l.length ≤ 100000 by omega) (show r.length ≤ 100000 by omega), decide_eq_false h3']
  exact fz_same (Nat.le_refl _)
theorem lit_small : ("abcdefghijklmnopqrstuvwxyz" : Str) = wS abc := by decide +kernel
theorem low_mem {c : Nat} (h : 97 ≤ c ∧ c ≤ 122) : c ∈ abc := by
  have : ∀ k : Fin 26, 97 + k.val ∈ abc := by decide
  have q := this ⟨c - 97, by omega⟩
  have e : 97 + (c - 97) = c := by omega
  simpa [e] using q
theorem is_thing_true {cs : List Nat} {μ : Mu} (h : Nm cs) : f_is_thing [sD cs] μ = .ok (.bl true) μ := by
  obtain ⟨h1, h2, h3⟩ := h
  have e0 : f_is_thing [sD cs] μ = fz μ (SR.run (T_is_thing [some (sD cs), none] μ)) := defR_ok rfl
  rw [e0]
  have el : L1_is_thing [some (sD cs), none] μ = .ok (.lst (cs.map fun _ => D.bl true)) μ := by
    have z := lc_seq (i := 1) (Te := Q1_is_thing) (η := [some (sD cs), none]) (μ := μ) (S := dVar 0) (d := sD cs) (xs := cs.map fun c => sD [c]) (fun x => D.bl true) rfl sD_items (by rw [List.length_map]; omega) fun x hx => by
      obtain ⟨c, hc, rfl⟩ := List.mem_map.mp hx
      have := low_mem (h3 c hc)
      simp only [dSeq, dIf, dB, dAnd, dOr, dNot, dAsg, dOp, dVar, dC, dCB, dCons, dNil, dName, dRet, dRetN, dDrop, dNext, dIfE, dAndV, dOrV, dNotV, dUn, dSl, dNoPart, dPart, dPar, dPar3, dTup, dLst, dGTup, dGCons, dGNil, dChain, dIsN, dNotN, isN, dCont, dBreak, dGSub, dSeqI, items_lst, items_tup, dZip2, dZip3, dEnum, still_lst, still_tup, dFor, dFld, dLenOf, dM1, look_0, look_s, bind_ok, to_ok, then_nx, then_rt, then_ct, then_bk, turn_nx, turn_ct, turn_rt, turn_bk, run_rt, run_nx, onB_bl, okO_some, noX_ok, addD_int, subD_int, ltD_int, cmpD_int, fLe, fGe, fGt, intD_int, if_true, if_false, Bool.false_eq_true, Bool.not_true, Bool.not_false, List.set_cons_succ, List.set_cons_zero, ixD_lst, ixD_tup, lenD_lst, lenD_tup, List.length_cons, List.length_nil, isi_int_int, isi_int_bool, isi_int_str, isi_int_tuple, isi_int_list, isi_bl_int, isi_bl_bool, isi_bl_str, isi_bl_tuple, isi_bl_list, isi_str_int, isi_str_bool, isi_str_str, isi_str_tuple, isi_str_list, isi_tup_int, isi_tup_bool, isi_tup_str, isi_tup_tuple, isi_tup_list, isi_lst_int, isi_lst_bool, isi_lst_str, isi_lst_tuple, isi_lst_list, isi_non_int, isi_non_bool, isi_non_str, isi_non_tuple, isi_non_list, wipeD, dNever, chk_c, decide_true, decide_false, Q1_is_thing, lit_abc, sD_in, decide_eq_true this, id]
    rw [List.map_map] at z
    exact z
  have c1 : (1 : Int) ≤ cs.length := by omega
  have c2 : (cs.length : Int) ≤ 6 := by omega
  have ea : (cs.map fun _ => true).all id = true := List.all_eq_true.mpr fun b hb => by
    obtain ⟨_, _, rfl⟩ := List.mem_map.mp hb
    rfl
  simp only [dSeq, dIf, dB, dAnd, dOr, dNot, dAsg, dOp, dVar, dC, dCB, dCons, dNil, dName, dRet, dRetN, dDrop, dNext, dIfE, dAndV, dOrV, dNotV, dUn, dSl, dNoPart, dPart, dPar, dPar3, dTup, dLst, dGTup, dGCons, dGNil, dChain, dIsN, dNotN, isN, dCont, dBreak, dGSub, dSeqI, items_lst, items_tup, dZip2, dZip3, dEnum, still_lst, still_tup, dFor, dFld, dLenOf, dM1, look_0, look_s, bind_ok, to_ok, then_nx, then_rt, then_ct, then_bk, turn_nx, turn_ct, turn_rt, turn_bk, run_rt, run_nx, onB_bl, okO_some, noX_ok, addD_int, subD_int, ltD_int, cmpD_int, fLe, fGe, fGt, intD_int, if_true, if_false, Bool.false_eq_true, Bool.not_true, Bool.not_false, List.set_cons_succ, List.set_cons_zero, ixD_lst, ixD_tup, lenD_lst, lenD_tup, List.length_cons, List.length_nil, isi_int_int, isi_int_bool, isi_int_str, isi_int_tuple, isi_int_list, isi_bl_int, isi_bl_bool, isi_bl_str, isi_bl_tuple, isi_bl_list, isi_str_int, isi_str_bool, isi_str_str, isi_str_tuple, isi_str_list, isi_tup_int, isi_tup_bool, isi_tup_str, isi_tup_tuple, isi_tup_list, isi_lst_int, isi_lst_bool, isi_lst_str, isi_lst_tuple, isi_lst_list, isi_non_int, isi_non_bool, isi_non_str, isi_non_tuple, isi_non_list, wipeD, dNever, chk_c, decide_true, decide_false, T_is_thing, sD_len (show cs.length ≤ 16777216 by omega), decide_eq_true c1, decide_eq_true c2, el, allD, asL, bls_map (fun _ => true), ea]
  exact fz_same (Nat.le_refl _)
def wsD (ws : List (List Nat)) : List D := ws.map sD
theorem wsD_plain {n : Nat} {ws : List (List Nat)} (hl : ws.length ≤ 100000) (h : ∀ w ∈ ws, Sg w) : DX.plain (n + 1) (.lst (wsD ws)) = true := by
  refine plain_lst_of (by unfold wsD; rw [List.length_map]; exact hl) (plains_of fun x hx => ?_)
  obtain ⟨w, hw, rfl⟩ := List.mem_map.mp hx
  exact sD_plain (h w hw)
theorem any_sD {x : List Nat} : ∀ ws : List (List Nat), ((wsD ws).any fun z => eqP z (sD x)) = decide (x ∈ ws)
  | [] => by simp [wsD]
  | w :: r => by
    have ih := any_sD (x := x) r
    unfold wsD at ih ⊢
    rw [List.map_cons, List.any_cons, ih, sD_eqP]
    by_cases c : w = x
    · subst c; simp
    · have c' : x ≠ w := fun z => c z.symm
      simp [c, c']
theorem inD_sD {x : List Nat} {ws : List (List Nat)} {μ : Mu} (hx : Sg x) (hl : ws.length ≤ 100000) (h : ∀ w ∈ ws, Sg w) : inD (sD x) (.lst (wsD ws)) μ = .ok (.bl (decide (x ∈ ws))) μ := by
  have p1 : DX.plain 60 (sD x) = true := sD_plain hx
  have p2 : DX.plain 60 (.lst (wsD ws)) = true := wsD_plain (n := 59) hl h
  unfold inD
  rw [der_plain p1, der_plain p2]
  show grd (DX.plain 60 (sD x) = true ∧ DX.plain 60 (.lst (wsD ws)) = true) (Res.ok (D.bl (id ((wsD ws).any fun z => eqP z (sD x)))) μ) = _
  rw [grd_pos ⟨p1, p2⟩, any_sD]
  rfl
/-- names of things: some, at most four, each good, no two alike -/
structure Tg (ws : List (List Nat)) : Prop where
  one : 1 ≤ ws.length
  four : ws.length ≤ 4
  nm : ∀ w ∈ ws, Nm w
  nd : ws.Nodup
theorem Tg.sg {ws : List (List Nat)} (h : Tg ws) : ∀ w ∈ ws, Sg w := fun w hw => (h.nm w hw).2.2.sg
theorem check_things_ok {ws : List (List Nat)} {μ : Mu} (h : Tg ws) : f_check_things [.lst (wsD ws)] μ = .ok .non μ := by
  have e0 : f_check_things [.lst (wsD ws)] μ = fz μ (SR.run (T_check_things [some (.lst (wsD ws)), none, none] μ)) := defR_ok rfl
  rw [e0]
  have h4 := h.four
  obtain ⟨η', μ', e, k, hr, rfl, x1, x2, rfl⟩ := forR_go (G := dGTup 2 (dGCons (dName 1) (dGCons (dName 2) dGNil))) (T := B1_check_things) (fun r η μ' => ∃ k, r = enumFrom k (wsD (ws.drop k)) ∧ μ' = μ ∧ ∃ x1 x2, η = [some (.lst (wsD ws)), x1, x2])
    (fun x r η μ' hI => by
      obtain ⟨k, hr, rfl, x1, x2, rfl⟩ := hI
      have hk : k < ws.length := by
        rcases Nat.lt_or_ge k ws.length with q | q
        · exact q
        · rw [List.drop_of_length_le q] at hr; cases hr
      rw [List.drop_eq_getElem_cons hk] at hr
      obtain ⟨rfl, rfl⟩ := List.cons.inj (show x :: r = .tup [.int k, sD ws[k]] :: enumFrom (k + 1) (wsD (ws.drop (k + 1))) from hr)
      have hm : ws[k] ∈ ws := List.getElem_mem hk
      have hn : ¬ ws[k] ∈ ws.take k := fun hin => by
        have nd := h.nd
        rw [← List.take_append_drop k ws] at nd
        exact (List.nodup_append.mp nd).2.2 _ hin _ (by rw [List.drop_eq_getElem_cons hk]; exact List.mem_cons_self) rfl
      have k4 : ((k : Int) == 4) = false := beq_eq_false_iff_ne.mpr (by omega)
      have ec : cut (wsD ws) none (some (k : Int)) = wsD (ws.take k) := by
        rw [cut_take _ (by omega), Int.toNat_natCast]
        unfold wsD
        rw [List.map_take]
      have ei : inD (sD ws[k]) (.lst (wsD (ws.take k))) μ' = .ok (.bl (decide (ws[k] ∈ ws.take k))) μ' := inD_sD (h.sg _ hm) (by rw [List.length_take]; omega) fun w hw => h.sg w (List.mem_of_mem_take hw)
      refine ⟨[some (.lst (wsD ws)), some (.int k), some (sD ws[k])], μ', _, _, by simp only [dSeq, dIf, dB, dAnd, dOr, dNot, dAsg, dOp, dVar, dC, dCB, dCons, dNil, dName, dRet, dRetN, dDrop, dNext, dIfE, dAndV, dOrV, dNotV, dUn, dSl, dNoPart, dPart, dPar, dPar3, dTup, dLst, dGTup, dGCons, dGNil, dChain, dIsN, dNotN, isN, dCont, dBreak, dGSub, dSeqI, items_lst, items_tup, dZip2, dZip3, dEnum, still_lst, still_tup, dFor, dFld, dLenOf, dM1, look_0, look_s, bind_ok, to_ok, then_nx, then_rt, then_ct, then_bk, turn_nx, turn_ct, turn_rt, turn_bk, run_rt, run_nx, onB_bl, okO_some, noX_ok, addD_int, subD_int, ltD_int, cmpD_int, fLe, fGe, fGt, intD_int, if_true, if_false, Bool.false_eq_true, Bool.not_true, Bool.not_false, List.set_cons_succ, List.set_cons_zero, ixD_lst, ixD_tup, lenD_lst, lenD_tup, List.length_cons, List.length_nil, isi_int_int, isi_int_bool, isi_int_str, isi_int_tuple, isi_int_list, isi_bl_int, isi_bl_bool, isi_bl_str, isi_bl_tuple, isi_bl_list, isi_str_int, isi_str_bool, isi_str_str, isi_str_tuple, isi_str_list, isi_tup_int, isi_tup_bool, isi_tup_str, isi_tup_tuple, isi_tup_list, isi_lst_int, isi_lst_bool, isi_lst_str, isi_lst_tuple, isi_lst_list, isi_non_int, isi_non_bool, isi_non_str, isi_non_tuple, isi_non_list, wipeD, dNever, chk_c, decide_true, decide_false], .inl ?_, k + 1, rfl, rfl, some (.int k), some (sD ws[k]), rfl⟩
      simp only [dSeq, dIf, dB, dAnd, dOr, dNot, dAsg, dOp, dVar, dC, dCB, dCons, dNil, dName, dRet, dRetN, dDrop, dNext, dIfE, dAndV, dOrV, dNotV, dUn, dSl, dNoPart, dPart, dPar, dPar3, dTup, dLst, dGTup, dGCons, dGNil, dChain, dIsN, dNotN, isN, dCont, dBreak, dGSub, dSeqI, items_lst, items_tup, dZip2, dZip3, dEnum, still_lst, still_tup, dFor, dFld, dLenOf, dM1, look_0, look_s, bind_ok, to_ok, then_nx, then_rt, then_ct, then_bk, turn_nx, turn_ct, turn_rt, turn_bk, run_rt, run_nx, onB_bl, okO_some, noX_ok, addD_int, subD_int, ltD_int, cmpD_int, fLe, fGe, fGt, intD_int, if_true, if_false, Bool.false_eq_true, Bool.not_true, Bool.not_false, List.set_cons_succ, List.set_cons_zero, ixD_lst, ixD_tup, lenD_lst, lenD_tup, List.length_cons, List.length_nil, isi_int_int, isi_int_bool, isi_int_str, isi_int_tuple, isi_int_list, isi_bl_int, isi_bl_bool, isi_bl_str, isi_bl_tuple, isi_bl_list, isi_str_int, isi_str_bool, isi_str_str, isi_str_tuple, isi_str_list, isi_tup_int, isi_tup_bool, isi_tup_str, isi_tup_tuple, isi_tup_list, isi_lst_int, isi_lst_bool, isi_lst_str, isi_lst_tuple, isi_lst_list, isi_non_int, isi_non_bool, isi_non_str, isi_non_tuple, isi_non_list, wipeD, dNever, chk_c, decide_true, decide_false, B1_check_things, eqD_int, k4, is_thing_true (h.nm _ hm), slD_lst, ec, ei, decide_eq_false hn])
    (enumFrom 0 (wsD ws)) [some (.lst (wsD ws)), none, none] μ ⟨0, rfl, rfl, none, none, rfl⟩
  have l0 : ((ws.length : Int) == 0) = false := beq_eq_false_iff_ne.mpr (by have := h.one; omega)
  have wl : (wsD ws).length = ws.length := List.length_map _
  simp only [dSeq, dIf, dB, dAnd, dOr, dNot, dAsg, dOp, dVar, dC, dCB, dCons, dNil, dName, dRet, dRetN, dDrop, dNext, dIfE, dAndV, dOrV, dNotV, dUn, dSl, dNoPart, dPart, dPar, dPar3, dTup, dLst, dGTup, dGCons, dGNil, dChain, dIsN, dNotN, isN, dCont, dBreak, dGSub, dSeqI, items_lst, items_tup, dZip2, dZip3, dEnum, still_lst, still_tup, dFor, dFld, dLenOf, dM1, look_0, look_s, bind_ok, to_ok, then_nx, then_rt, then_ct, then_bk, turn_nx, turn_ct, turn_rt, turn_bk, run_rt, run_nx, onB_bl, okO_some, noX_ok, addD_int, subD_int, ltD_int, cmpD_int, fLe, fGe, fGt, intD_int, if_true, if_false, Bool.false_eq_true, Bool.not_true, Bool.not_false, List.set_cons_succ, List.set_cons_zero, ixD_lst, ixD_tup, lenD_lst, lenD_tup, List.length_cons, List.length_nil, isi_int_int, isi_int_bool, isi_int_str, isi_int_tuple, isi_int_list, isi_bl_int, isi_bl_bool, isi_bl_str, isi_bl_tuple, isi_bl_list, isi_str_int, isi_str_bool, isi_str_str, isi_str_tuple, isi_str_list, isi_tup_int, isi_tup_bool, isi_tup_str, isi_tup_tuple, isi_tup_list, isi_lst_int, isi_lst_bool, isi_lst_str, isi_lst_tuple, isi_lst_list, isi_non_int, isi_non_bool, isi_non_str, isi_non_tuple, isi_non_list, wipeD, dNever, chk_c, decide_true, decide_false, T_check_things, e, wl, eqD_int, l0]
  exact fz_same (Nat.le_refl _)
/-- a market -/
abbrev FN : List Str := ["thing_row", "barter_row"]
def mkD (ws : List (List Nat)) (ps : List (List Int × List Int)) : D := .obj "Market" FN [.lst (wsD ws), .lst (rowD ps)]
theorem ne_tb : ("barter_row" : Str) ≠ "thing_row" := by decide +kernel
theorem ne_bt : ("thing_row" : Str) ≠ "barter_row" := by decide +kernel
theorem ofC_mk {ws : List (List Nat)} {ps : List (List Int × List Int)} {μ : Mu} : ofC "Market" μ (mkD ws ps) = some (FN, [.lst (wsD ws), .lst (rowD ps)]) := by
  unfold ofC mkD
  simp only [asI, if_true]
theorem get_th {a b : D} : getF "thing_row" FN [a, b] = some a := by simp only [getF, if_true]
theorem get_ba {a b : D} : getF "barter_row" FN [a, b] = some b := by simp only [getF, FN, if_neg ne_tb, if_true]
theorem wsD_clean {ws : List (List Nat)} : cleans (wsD ws) = true := cleans_of fun x hx => by
  obtain ⟨w, hw, rfl⟩ := List.mem_map.mp hx
  simp [sD, DX.clean]
theorem iD_clean {xs : List Int} : cleans (iD xs) = true := cleans_of fun x hx => by
  obtain ⟨w, hw, rfl⟩ := List.mem_map.mp hx
  simp [DX.clean]
theorem rowD_clean {ps : List (List Int × List Int)} : cleans (rowD ps) = true := cleans_of fun x hx => by
  obtain ⟨w, hw, rfl⟩ := List.mem_map.mp hx
  simp [bD, DX.clean, cleans, iD_clean]
theorem mkD_clean {ws : List (List Nat)} {ps : List (List Int × List Int)} : DX.clean (mkD ws ps) = true := by simp [mkD, DX.clean, cleans, wsD_clean, rowD_clean]
theorem setF_new {μ : Mu} {n : Nat} {y : D} {c f : Str} {ns : List Str} {ds : List D} (hn : μ.length = n) (hs : ns.length < 1000) : setF c f (.cell n) y (μ ++ [.ins c ns ds]) = .ok () (μ ++ [.ins c (putN f ns) (putD f y ns ds)]) := by
  unfold setF
  simp only [last_get hn, last_set hn]
  exact grd_pos ⟨trivial, hs⟩
theorem init_ok {ws : List (List Nat)} {n : Nat} {μ : Mu} (hn : μ.length = n) (h : Tg ws) : f_Market_init [.cell n, .lst (wsD ws)] (μ ++ [.ins "Market" [] []]) = .ok .non (μ ++ [.ins "Market" FN [.lst (wsD ws), .lst (rowD [])]]) := by
  have e0 : f_Market_init [.cell n, .lst (wsD ws)] (μ ++ [.ins "Market" [] []]) = fz (μ ++ [.ins "Market" [] []]) (SR.run (T_Market_init [some (.cell n), some (.lst (wsD ws)), some (.tup []), none, none] (μ ++ [.ins "Market" [] []]))) := by
    show starR 2 (defR fz 3 5 T_Market_init) _ _ = _
    unfold starR
    rw [if_pos ⟨by simp, by simp⟩]
    exact defR_ok rfl
  rw [e0]
  have p1 : putN "barter_row" ["thing_row"] = FN := by simp only [putN, if_neg ne_bt]
  have p2 : putD "barter_row" (.lst []) ["thing_row"] [.lst (wsD ws)] = [.lst (wsD ws), .lst (rowD [])] := by simp only [putD, if_neg ne_bt]; rfl
  have s1 := setF_new (μ := μ) (n := n) (y := .lst (wsD ws)) (c := "Market") (f := "thing_row") (ns := []) (ds := []) hn (by decide)
  have s2 := setF_new (μ := μ) (n := n) (y := .lst []) (c := "Market") (f := "barter_row") (ns := ["thing_row"]) (ds := [.lst (wsD ws)]) hn (show (1 : Nat) < 1000 by decide)
  rw [p1, p2] at s2
  have s1' : setF "Market" "thing_row" (.cell n) (.lst (wsD ws)) (μ ++ [.ins "Market" [] []]) = .ok () (μ ++ [.ins "Market" ["thing_row"] [.lst (wsD ws)]]) := s1
  simp only [dSeq, dIf, dB, dAnd, dOr, dNot, dAsg, dOp, dVar, dC, dCB, dCons, dNil, dName, dRet, dRetN, dDrop, dNext, dIfE, dAndV, dOrV, dNotV, dUn, dSl, dNoPart, dPart, dPar, dPar3, dTup, dLst, dGTup, dGCons, dGNil, dChain, dIsN, dNotN, isN, dCont, dBreak, dGSub, dSeqI, items_lst, items_tup, dZip2, dZip3, dEnum, still_lst, still_tup, dFor, dFld, dLenOf, dM1, look_0, look_s, bind_ok, to_ok, then_nx, then_rt, then_ct, then_bk, turn_nx, turn_ct, turn_rt, turn_bk, run_rt, run_nx, onB_bl, okO_some, noX_ok, addD_int, subD_int, ltD_int, cmpD_int, fLe, fGe, fGt, intD_int, if_true, if_false, Bool.false_eq_true, Bool.not_true, Bool.not_false, List.set_cons_succ, List.set_cons_zero, ixD_lst, ixD_tup, lenD_lst, lenD_tup, List.length_cons, List.length_nil, isi_int_int, isi_int_bool, isi_int_str, isi_int_tuple, isi_int_list, isi_bl_int, isi_bl_bool, isi_bl_str, isi_bl_tuple, isi_bl_list, isi_str_int, isi_str_bool, isi_str_str, isi_str_tuple, isi_str_list, isi_tup_int, isi_tup_bool, isi_tup_str, isi_tup_tuple, isi_tup_list, isi_lst_int, isi_lst_bool, isi_lst_str, isi_lst_tuple, isi_lst_list, isi_non_int, isi_non_bool, isi_non_str, isi_non_tuple, isi_non_list, wipeD, dNever, chk_c, decide_true, decide_false, T_Market_init, listD, seqOf, asL, check_things_ok h, enumFrom, forR, dFldS, s1', s2]
  exact fz_same (by rw [List.length_append, List.length_append]; exact Nat.le_refl _)
theorem make_ok {ws : List (List Nat)} {μ : Mu} {T : DA} {η : DX.Env} {μ0 : Mu} (hT : T η μ0 = .ok [.lst (wsD ws)] μ) (hc : Clean μ) (h : Tg ws) : dMake fz "Market" f_Market_init T η μ0 = .ok (mkD ws []) μ := by
  unfold dMake
  rw [hT, bind_ok, init_ok rfl h, bind_ok]
  exact fz_obj rfl hc (by simp [cleans, DX.clean, wsD_clean, rowD_clean])
end Lw

namespace Lw
open PySem L2 DX
theorem plus_ok {xs ys : List Int} {μ : Mu} (hl : xs.length ≤ 16777216) : f_law_plus [.tup (iD xs), .tup (iD ys)] μ = .ok (.tup (iD (List.zipWith (· + ·) xs ys))) μ := by
  have e : L1_law_plus [some (.tup (iD xs)), some (.tup (iD ys)), none, none] μ = .ok (.lst (List.zipWith (fun a b => .int (a + b)) xs ys)) μ := lc_zip (fun a b => .int (a + b)) rfl rfl rfl rfl hl fun a b _ => by simp only [dSeq, dIf, dB, dAnd, dOr, dNot, dAsg, dOp, dVar, dC, dCB, dCons, dNil, dName, dRet, dRetN, dDrop, dNext, dIfE, dAndV, dOrV, dNotV, dUn, dSl, dNoPart, dPart, dPar, dPar3, dTup, dLst, dGTup, dGCons, dGNil, dChain, dIsN, dNotN, isN, dCont, dBreak, dGSub, dSeqI, items_lst, items_tup, dZip2, dZip3, dEnum, still_lst, still_tup, dFor, dFld, dLenOf, dM1, look_0, look_s, bind_ok, to_ok, then_nx, then_rt, then_ct, then_bk, turn_nx, turn_ct, turn_rt, turn_bk, run_rt, run_nx, onB_bl, okO_some, noX_ok, addD_int, subD_int, ltD_int, cmpD_int, fLe, fGe, fGt, intD_int, if_true, if_false, Bool.false_eq_true, Bool.not_true, Bool.not_false, List.set_cons_succ, List.set_cons_zero, ixD_lst, ixD_tup, lenD_lst, lenD_tup, List.length_cons, List.length_nil, isi_int_int, isi_int_bool, isi_int_str, isi_int_tuple, isi_int_list, isi_bl_int, isi_bl_bool, isi_bl_str, isi_bl_tuple, isi_bl_list, isi_str_int, isi_str_bool, isi_str_str, isi_str_tuple, isi_str_list, isi_tup_int, isi_tup_bool, isi_tup_str, isi_tup_tuple, isi_tup_list, isi_lst_int, isi_lst_bool, isi_lst_str, isi_lst_tuple, isi_lst_list, isi_non_int, isi_non_bool, isi_non_str, isi_non_tuple, isi_non_list, wipeD, dNever, chk_c, decide_true, decide_false, Q1_law_plus]
  have e2 : List.zipWith (fun a b => D.int (a + b)) xs ys = iD (List.zipWith (· + ·) xs ys) := by rw [iD, List.map_zipWith]
  rw [e2] at e
  show fz μ (SR.run (T_law_plus [some (.tup (iD xs)), some (.tup (iD ys)), none, none] μ)) = _
  simp only [dSeq, dIf, dB, dAnd, dOr, dNot, dAsg, dOp, dVar, dC, dCB, dCons, dNil, dName, dRet, dRetN, dDrop, dNext, dIfE, dAndV, dOrV, dNotV, dUn, dSl, dNoPart, dPart, dPar, dPar3, dTup, dLst, dGTup, dGCons, dGNil, dChain, dIsN, dNotN, isN, dCont, dBreak, dGSub, dSeqI, items_lst, items_tup, dZip2, dZip3, dEnum, still_lst, still_tup, dFor, dFld, dLenOf, dM1, look_0, look_s, bind_ok, to_ok, then_nx, then_rt, then_ct, then_bk, turn_nx, turn_ct, turn_rt, turn_bk, run_rt, run_nx, onB_bl, okO_some, noX_ok, addD_int, subD_int, ltD_int, cmpD_int, fLe, fGe, fGt, intD_int, if_true, if_false, Bool.false_eq_true, Bool.not_true, Bool.not_false, List.set_cons_succ, List.set_cons_zero, ixD_lst, ixD_tup, lenD_lst, lenD_tup, List.length_cons, List.length_nil, isi_int_int, isi_int_bool, isi_int_str, isi_int_tuple, isi_int_list, isi_bl_int, isi_bl_bool, isi_bl_str, isi_bl_tuple, isi_bl_list, isi_str_int, isi_str_bool, isi_str_str, isi_str_tuple, isi_str_list, isi_tup_int, isi_tup_bool, isi_tup_str, isi_tup_tuple, isi_tup_list, isi_lst_int, isi_lst_bool, isi_lst_str, isi_lst_tuple, isi_lst_list, isi_non_int, isi_non_bool, isi_non_str, isi_non_tuple, isi_non_list, wipeD, dNever, chk_c, decide_true, decide_false, T_law_plus, e, tupD, asL]
  exact fz_same (Nat.le_refl _)
theorem zip_first {a : Int} {l : List Int} (w : Nat) (hw : l.length = w) : List.zipWith (· + ·) (a :: l) (1 :: List.replicate w 0) = (a + 1) :: l := by
  rw [List.zipWith_cons_cons]
  congr 1
  subst hw
  induction l with
  | nil => rfl
  | cons x r ih => rw [List.length_cons, List.replicate_succ, List.zipWith_cons_cons, ih, Int.add_zero]
theorem bart_step {b w : Nat} {μ : Mu} {cap many : Int} {n : Nat} {x5 x6 x7 : Option D} {ν : Mu} {ps : List (List Int × List Int)} (hb : HasBox b ν) (hw0 : 1 ≤ w) (hw : w ≤ 1000) (h0 : 0 ≤ cap) (h1 : cap ≤ 9) (hn : ν.length = n) (hps : ps.length < 1000000) :
    ∃ y6 y7 ν' p, B1_law_barters [some (.cell b), some (.int w), some (.int many), some (.int cap), some (.cell n), x5, x6, x7] (ν ++ [.lst (rowD ps)]) = .nx [some (.cell b), some (.int w), some (.int many), some (.int cap), some (.cell n), x5, y6, y7] (ν' ++ [.lst (rowD (ps ++ [p]))]) ∧ Nx b ν ν' ∧ Bt w 9 p := by
  obtain ⟨l, μ1, e1, l1, l2, k1⟩ := some_bundle_ok (cap := cap) (w := w) (hb.app (ν := [.lst (rowD ps)])) hw h0 (by omega)
  obtain ⟨ν1, rfl, q1⟩ := k1.app hb.lt
  obtain ⟨r, μ2, e2, r1, r2, k2⟩ := some_bundle_ok (cap := cap) (w := w) ((q1.box hb).app (ν := [.lst (rowD ps)])) hw h0 (by omega)
  obtain ⟨ν2, rfl, q2⟩ := k2.app (q1.box hb).lt
  have hn2 : ν2.length = n := by rw [q2.len, q1.len, hn]
  have hrow : (rowD ps).length < 16777216 := by unfold rowD; rw [List.length_map]; omega
  have fin : ∀ (y : List Int), Bt w 9 (l, y) → ∃ y6 y7 ν' p, (dDrop (dAppend (dVar 4) (dCons (dTup (dCons (dVar 6) (dCons (dVar 7) dNil))) dNil))) [some (.cell b), some (.int w), some (.int many), some (.int cap), some (.cell n), x5, some (.tup (iD l)), some (.tup (iD y))] (ν2 ++ [.lst (rowD ps)]) = .nx [some (.cell b), some (.int w), some (.int many), some (.int cap), some (.cell n), x5, y6, y7] (ν' ++ [.lst (rowD (ps ++ [p]))]) ∧ Nx b ν ν' ∧ Bt w 9 p := by
    intro y hy
    refine ⟨some (.tup (iD l)), some (.tup (iD y)), ν2, (l, y), ?_, q1.trans q2, hy⟩
    have et : dCons (dTup (dCons (dVar 6) (dCons (dVar 7) dNil))) dNil [some (.cell b), some (.int w), some (.int many), some (.int cap), some (.cell n), x5, some (.tup (iD l)), some (.tup (iD y))] (ν2 ++ [.lst (rowD ps)]) = .ok [bD (l, y)] (ν2 ++ [.lst (rowD ps)]) := by
      simp only [dSeq, dIf, dB, dAnd, dOr, dNot, dAsg, dOp, dVar, dC, dCB, dCons, dNil, dName, dRet, dRetN, dDrop, dNext, dIfE, dAndV, dOrV, dNotV, dUn, dSl, dNoPart, dPart, dPar, dPar3, dTup, dLst, dGTup, dGCons, dGNil, dChain, dIsN, dNotN, isN, dCont, dBreak, dGSub, dSeqI, items_lst, items_tup, dZip2, dZip3, dEnum, still_lst, still_tup, dFor, dFld, dLenOf, dM1, look_0, look_s, bind_ok, to_ok, then_nx, then_rt, then_ct, then_bk, turn_nx, turn_ct, turn_rt, turn_bk, run_rt, run_nx, onB_bl, okO_some, noX_ok, addD_int, subD_int, ltD_int, cmpD_int, fLe, fGe, fGt, intD_int, if_true, if_false, Bool.false_eq_true, Bool.not_true, Bool.not_false, List.set_cons_succ, List.set_cons_zero, ixD_lst, ixD_tup, lenD_lst, lenD_tup, List.length_cons, List.length_nil, isi_int_int, isi_int_bool, isi_int_str, isi_int_tuple, isi_int_list, isi_bl_int, isi_bl_bool, isi_bl_str, isi_bl_tuple, isi_bl_list, isi_str_int, isi_str_bool, isi_str_str, isi_str_tuple, isi_str_list, isi_tup_int, isi_tup_bool, isi_tup_str, isi_tup_tuple, isi_tup_list, isi_lst_int, isi_lst_bool, isi_lst_str, isi_lst_tuple, isi_lst_list, isi_non_int, isi_non_bool, isi_non_str, isi_non_tuple, isi_non_list, wipeD, dNever, chk_c, decide_true, decide_false, chk_c (show (0 + 1 + 1 : Nat) ≤ 16777216 by decide), bD]
    have ea := append_ok (To := dVar 4) (T := dCons (dTup (dCons (dVar 6) (dCons (dVar 7) dNil))) dNil) (η := [some (.cell b), some (.int w), some (.int many), some (.int cap), some (.cell n), x5, some (.tup (iD l)), some (.tup (iD y))]) (μ := ν2 ++ [.lst (rowD ps)]) rfl (last_get hn2) (d := bD (l, y)) et (last_get hn2) hrow
    rw [last_set hn2] at ea
    have er : rowD ps ++ [bD (l, y)] = rowD (ps ++ [(l, y)]) := by unfold rowD; rw [List.map_append]; rfl
    rw [er] at ea
    simp only [dDrop, ea, to_ok]
  obtain ⟨a, l', rfl⟩ : ∃ a l', l = a :: l' := by
    cases l with
    | nil => simp at l1; omega
    | cons a l' => exact ⟨a, l', rfl⟩
  have ha := l2 a List.mem_cons_self
  have hl' : l'.length = w - 1 := by simp only [List.length_cons] at l1; omega
  by_cases c : a :: l' = r
  · by_cases c9 : a < 9
    · have ep := plus_ok (xs := a :: l') (ys := 1 :: List.replicate (w - 1) 0) (μ := ν2 ++ [.lst (rowD ps)]) (by omega)
      rw [zip_first _ hl'] at ep
      have em := mul_tup (xs := [.int 0]) (k := (w : Int) - 1) (μ := ν2 ++ [.lst (rowD ps)]) (by simp) (by omega) (by omega) (by decide)
      have ew : ((w : Int) - 1).toNat = w - 1 := by omega
      rw [ew, rep_ints] at em
      have ea : addD (.tup [.int 1]) (.tup ((List.replicate (w - 1) (0 : Int)).map D.int)) (ν2 ++ [.lst (rowD ps)]) = .ok (.tup (iD (1 :: List.replicate (w - 1) 0))) (ν2 ++ [.lst (rowD ps)]) := add_tup (by rw [List.length_map, List.length_replicate]; simp only [List.length_cons, List.length_nil]; omega)
      have ex : atI (iD (a :: l')) 0 = some (.int a) := at_0
      obtain ⟨y6, y7, ν', p, e9, z⟩ := fin ((a + 1) :: l') ⟨l1, l1, (fun h => by have := (List.cons.inj (show a :: l' = (a + 1) :: l' from h)).1; omega), fun x hx => by have := l2 x hx; omega, fun x hx => by
        rcases List.mem_cons.mp hx with rfl | hx
        · omega
        · have := l2 x (List.mem_cons_of_mem _ hx); omega⟩
      refine ⟨y6, y7, ν', p, ?_, z⟩
      rw [← e9]
      simp only [dSeq, dIf, dB, dAnd, dOr, dNot, dAsg, dOp, dVar, dC, dCB, dCons, dNil, dName, dRet, dRetN, dDrop, dNext, dIfE, dAndV, dOrV, dNotV, dUn, dSl, dNoPart, dPart, dPar, dPar3, dTup, dLst, dGTup, dGCons, dGNil, dChain, dIsN, dNotN, isN, dCont, dBreak, dGSub, dSeqI, items_lst, items_tup, dZip2, dZip3, dEnum, still_lst, still_tup, dFor, dFld, dLenOf, dM1, look_0, look_s, bind_ok, to_ok, then_nx, then_rt, then_ct, then_bk, turn_nx, turn_ct, turn_rt, turn_bk, run_rt, run_nx, onB_bl, okO_some, noX_ok, addD_int, subD_int, ltD_int, cmpD_int, fLe, fGe, fGt, intD_int, if_true, if_false, Bool.false_eq_true, Bool.not_true, Bool.not_false, List.set_cons_succ, List.set_cons_zero, ixD_lst, ixD_tup, lenD_lst, lenD_tup, List.length_cons, List.length_nil, isi_int_int, isi_int_bool, isi_int_str, isi_int_tuple, isi_int_list, isi_bl_int, isi_bl_bool, isi_bl_str, isi_bl_tuple, isi_bl_list, isi_str_int, isi_str_bool, isi_str_str, isi_str_tuple, isi_str_list, isi_tup_int, isi_tup_bool, isi_tup_str, isi_tup_tuple, isi_tup_list, isi_lst_int, isi_lst_bool, isi_lst_str, isi_lst_tuple, isi_lst_list, isi_non_int, isi_non_bool, isi_non_str, isi_non_tuple, isi_non_list, wipeD, dNever, chk_c, decide_true, decide_false, B1_law_barters, e1, e2, eqD_itup (show (a :: l').length ≤ 100000 by omega) (show r.length ≤ 100000 by omega), decide_eq_true c, ex, decide_eq_true c9, em, ea, ep, chk_c (show (1 : Nat) ≤ 16777216 by decide)]
    · obtain ⟨y6, y7, ν', p, e9, z⟩ := fin (0 :: l') ⟨l1, l1, (fun h => by have := (List.cons.inj (show a :: l' = 0 :: l' from h)).1; omega), fun x hx => by have := l2 x hx; omega, fun x hx => by
        rcases List.mem_cons.mp hx with rfl | hx
        · omega
        · have := l2 x (List.mem_cons_of_mem _ hx); omega⟩
      refine ⟨y6, y7, ν', p, ?_, z⟩
      have ex : atI (iD (a :: l')) 0 = some (.int a) := at_0
      have ec : cut (iD (a :: l')) (some 1) none = iD l' := by rw [cut_drop _ (by decide)]; rfl
      have ea : addD (.tup [.int 0]) (.tup (iD l')) (ν2 ++ [.lst (rowD ps)]) = .ok (.tup (iD (0 :: l'))) (ν2 ++ [.lst (rowD ps)]) := add_tup (by rw [ints_len]; simp only [List.length_cons, List.length_nil]; omega)
      rw [← e9]
      simp only [dSeq, dIf, dB, dAnd, dOr, dNot, dAsg, dOp, dVar, dC, dCB, dCons, dNil, dName, dRet, dRetN, dDrop, dNext, dIfE, dAndV, dOrV, dNotV, dUn, dSl, dNoPart, dPart, dPar, dPar3, dTup, dLst, dGTup, dGCons, dGNil, dChain, dIsN, dNotN, isN, dCont, dBreak, dGSub, dSeqI, items_lst, items_tup, dZip2, dZip3, dEnum, still_lst, still_tup, dFor, dFld, dLenOf, dM1, look_0, look_s, bind_ok, to_ok, then_nx, then_rt, then_ct, then_bk, turn_nx, turn_ct, turn_rt, turn_bk, run_rt, run_nx, onB_bl, okO_some, noX_ok, addD_int, subD_int, ltD_int, cmpD_int, fLe, fGe, fGt, intD_int, if_true, if_false, Bool.false_eq_true, Bool.not_true, Bool.not_false, List.set_cons_succ, List.set_cons_zero, ixD_lst, ixD_tup, lenD_lst, lenD_tup, List.length_cons, List.length_nil, isi_int_int, isi_int_bool, isi_int_str, isi_int_tuple, isi_int_list, isi_bl_int, isi_bl_bool, isi_bl_str, isi_bl_tuple, isi_bl_list, isi_str_int, isi_str_bool, isi_str_str, isi_str_tuple, isi_str_list, isi_tup_int, isi_tup_bool, isi_tup_str, isi_tup_tuple, isi_tup_list, isi_lst_int, isi_lst_bool, isi_lst_str, isi_lst_tuple, isi_lst_list, isi_non_int, isi_non_bool, isi_non_str, isi_non_tuple, isi_non_list, wipeD, dNever, chk_c, decide_true, decide_false, B1_law_barters, e1, e2, eqD_itup (show (a :: l').length ≤ 100000 by omega) (show r.length ≤ 100000 by omega), decide_eq_true c, ex, decide_eq_false c9, slD_tup, ec, ea, chk_c (show (1 : Nat) ≤ 16777216 by decide)]
  · obtain ⟨y6, y7, ν', p, e9, z⟩ := fin r ⟨l1, r1, c, fun x hx => by have := l2 x hx; omega, fun x hx => by have := r2 x hx; omega⟩
    refine ⟨y6, y7, ν', p, ?_, z⟩
    rw [← e9]
    simp only [dSeq, dIf, dB, dAnd, dOr, dNot, dAsg, dOp, dVar, dC, dCB, dCons, dNil, dName, dRet, dRetN, dDrop, dNext, dIfE, dAndV, dOrV, dNotV, dUn, dSl, dNoPart, dPart, dPar, dPar3, dTup, dLst, dGTup, dGCons, dGNil, dChain, dIsN, dNotN, isN, dCont, dBreak, dGSub, dSeqI, items_lst, items_tup, dZip2, dZip3, dEnum, still_lst, still_tup, dFor, dFld, dLenOf, dM1, look_0, look_s, bind_ok, to_ok, then_nx, then_rt, then_ct, then_bk, turn_nx, turn_ct, turn_rt, turn_bk, run_rt, run_nx, onB_bl, okO_some, noX_ok, addD_int, subD_int, ltD_int, cmpD_int, fLe, fGe, fGt, intD_int, if_true, if_false, Bool.false_eq_true, Bool.not_true, Bool.not_false, List.set_cons_succ, List.set_cons_zero, ixD_lst, ixD_tup, lenD_lst, lenD_tup, List.length_cons, List.length_nil, isi_int_int, isi_int_bool, isi_int_str, isi_int_tuple, isi_int_list, isi_bl_int, isi_bl_bool, isi_bl_str, isi_bl_tuple, isi_bl_list, isi_str_int, isi_str_bool, isi_str_str, isi_str_tuple, isi_str_list, isi_tup_int, isi_tup_bool, isi_tup_str, isi_tup_tuple, isi_tup_list, isi_lst_int, isi_lst_bool, isi_lst_str, isi_lst_tuple, isi_lst_list, isi_non_int, isi_non_bool, isi_non_str, isi_non_tuple, isi_non_list, wipeD, dNever, chk_c, decide_true, decide_false, B1_law_barters, e1, e2, eqD_itup (show (a :: l').length ≤ 100000 by omega) (show r.length ≤ 100000 by omega), decide_eq_false c]
end Lw

namespace Lw
open PySem L2 DX
/-! ### the law's store: the table of its lambdas, the box, whatever else -/
abbrev lq : Str := "law.<locals>.<lambda>"
structure Iv (μ : Mu) : Prop where
  box : HasBox 1 μ
  cl : Clean μ
  tb : μ[0]? = some (.tbl "law" lq)
theorem Iv.nx {μ μ' : Mu} (h : Iv μ) (k : Nx 1 μ μ') : Iv μ' := ⟨k.box h.box, k.clean h.cl, by
  rcases k with rfl | ⟨m, _, rfl⟩
  · exact h.tb
  · rw [List.getElem?_set_ne (by decide)]
    exact h.tb⟩
theorem clean_app {μ ν : Mu} (h : Clean μ) (k : Clean ν) : Clean (μ ++ ν) := fun m hm => (List.mem_append.mp hm).elim (h m) (k m)
theorem clean_one {m : MO} (h : cleanM m = true) : Clean [m] := fun x hx => by rw [List.mem_singleton.mp hx]; exact h
theorem Iv.app {μ ν : Mu} (h : Iv μ) (k : Clean ν) : Iv (μ ++ ν) := ⟨h.box.app, clean_app h.cl k, by
  rw [List.getElem?_append_left (List.getElem?_eq_some_iff.mp h.tb).1]
  exact h.tb⟩
theorem Iv.set {μ : Mu} {i : Nat} {m : MO} (h : Iv μ) (hi : 2 ≤ i) (k : cleanM m = true) : Iv (μ.set i m) := ⟨by
  obtain ⟨m', e, hm⟩ := h.box
  exact ⟨m', by rw [List.getElem?_set_ne (by omega)]; exact e, hm⟩, h.cl.set k, by
  rw [List.getElem?_set_ne (by omega)]
  exact h.tb⟩
theorem Iv.two {μ : Mu} (h : Iv μ) : 2 ≤ μ.length := h.box.lt
theorem begin_iv (ns : List Int) : ∃ μ, f_law_begin [.scr ns] [.tbl "law" lq] = .ok (.cell 1) μ ∧ Iv μ := by
  obtain ⟨m, e, hm⟩ := begin_ok ns [.tbl "law" lq]
  refine ⟨_, e, ⟨m, rfl, hm⟩, fun x hx => ?_, rfl⟩
  rcases List.mem_cons.mp hx with rfl | hx
  · rfl
  · rw [List.mem_singleton.mp hx]; exact hm.clean
theorem why_ok {ok : List Str} {Te : DE} {Ts : DS} {η : DX.Env} {μ μ' : Mu} {y : D} (h : Iv μ) (e : Te η μ = .ok y μ') : dWhy 0 "law" lq ok Te Ts η μ = .ok (.tup [.str "", y]) μ' := by
  unfold dWhy
  rw [h.tb]
  show grd _ _ = _
  rw [grd_pos ⟨rfl, rfl⟩, e]
  rfl
theorem why_exc {ok : List Str} {Te : DE} {Ts : DS} {η : DX.Env} {μ μ' μ2 : Mu} {e : Exn} {d : D} (h : Iv μ) (e1 : Te η μ = .exc e μ') (e2 : e.cls ∈ ok) (e3 : Ts [none, some (.exn e.cls e.ns e.ds)] μ' = .rt d μ2) : dWhy 0 "law" lq ok Te Ts η μ = .ok d μ2 := by
  unfold dWhy
  rw [h.tb]
  show grd _ _ = _
  rw [grd_pos ⟨rfl, rfl⟩, e1]
  show grd _ _ = _
  rw [grd_pos e2, e3]
/-! ### loops that end with an error -/
section
variable {G : DG} {T : DS} {μ : Mu} {its : List D} {I : Nat → DX.Env → Prop}
theorem forR_all (hs : ∀ i x η, its[i]? = some x → I i η → ∃ η1 η', G x η μ = .ok η1 μ ∧ (T η1 μ = .nx η' μ ∨ T η1 μ = .ct η' μ) ∧ I (i + 1) η') :
    ∀ k η, I k η → k ≤ its.length → ∃ η', forR G T (its.drop k) η μ = .nx η' μ ∧ I its.length η' := by
  intro k η h hk
  obtain ⟨n, hn⟩ : ∃ n, n = its.length - k := ⟨_, rfl⟩
  induction n generalizing k η with
  | zero =>
    have e : k = its.length := by omega
    subst e
    rw [List.drop_length]
    exact ⟨η, rfl, h⟩
  | succ n ih =>
    have hlt : k < its.length := by omega
    obtain ⟨η1, η', e1, e2, h'⟩ := hs k its[k] η (List.getElem?_eq_getElem hlt) h
    obtain ⟨η2, e3, h2⟩ := ih (k + 1) η' h' (by omega) (by omega)
    refine ⟨η2, ?_, h2⟩
    rw [List.drop_eq_getElem_cons hlt]
    show (G its[k] η μ).to η _ = _
    rw [e1, to_ok]
    rcases e2 with e2 | e2
    · rw [e2, turn_nx]; exact e3
    · rw [e2, turn_ct]; exact e3
/-- the first j turns go on, the next one ends -/
theorem forR_end {r : SR} (hr : ∀ k, r.turn k = r) {j : Nat} (hj : j < its.length) (hs : ∀ i x η, i < j → its[i]? = some x → I i η → ∃ η1 η', G x η μ = .ok η1 μ ∧ (T η1 μ = .nx η' μ ∨ T η1 μ = .ct η' μ) ∧ I (i + 1) η')
    (he : ∀ x η, its[j]? = some x → I j η → ∃ η1, G x η μ = .ok η1 μ ∧ T η1 μ = r) :
    ∀ k η, I k η → k ≤ j → forR G T (its.drop k) η μ = r := by
  intro k η h hk
  obtain ⟨n, hn⟩ : ∃ n, n = j - k := ⟨_, rfl⟩
  induction n generalizing k η with
  | zero =>
    have e : k = j := by omega
    subst e
    obtain ⟨η1, e1, e2⟩ := he its[k] η (List.getElem?_eq_getElem hj) h
    rw [List.drop_eq_getElem_cons hj]
    show (G its[k] η μ).to η _ = _
    rw [e1, to_ok, e2, hr]
  | succ n ih =>
    have hlt : k < its.length := by omega
    obtain ⟨η1, η', e1, e2, h'⟩ := hs k its[k] η (by omega) (List.getElem?_eq_getElem hlt) h
    have e3 := ih (k + 1) η' h' (by omega) (by omega)
    rw [List.drop_eq_getElem_cons hlt]
    show (G its[k] η μ).to η _ = _
    rw [e1, to_ok]
    rcases e2 with e2 | e2
    · rw [e2, turn_nx]; exact e3
    · rw [e2, turn_ct]; exact e3
/-- .. with an error that the turn tells -/
theorem forR_exc {e : Exn} {j : Nat} (hj : j < its.length) (hs : ∀ i x η, i < j → its[i]? = some x → I i η → ∃ η1 η', G x η μ = .ok η1 μ ∧ (T η1 μ = .nx η' μ ∨ T η1 μ = .ct η' μ) ∧ I (i + 1) η')
    (he : ∀ x η, its[j]? = some x → I j η → ∃ η1 η', G x η μ = .ok η1 μ ∧ T η1 μ = .exc e η' μ) :
    ∀ k η, I k η → k ≤ j → ∃ η', forR G T (its.drop k) η μ = .exc e η' μ := by
  intro k η h hk
  obtain ⟨n, hn⟩ : ∃ n, n = j - k := ⟨_, rfl⟩
  induction n generalizing k η with
  | zero =>
    have e : k = j := by omega
    subst e
    obtain ⟨η1, η', e1, e2⟩ := he its[k] η (List.getElem?_eq_getElem hj) h
    refine ⟨η', ?_⟩
    rw [List.drop_eq_getElem_cons hj]
    show (G its[k] η μ).to η _ = _
    rw [e1, to_ok, e2]
    rfl
  | succ n ih =>
    have hlt : k < its.length := by omega
    obtain ⟨η1, η', e1, e2, h'⟩ := hs k its[k] η (by omega) (List.getElem?_eq_getElem hlt) h
    obtain ⟨η2, e3⟩ := ih (k + 1) η' h' (by omega) (by omega)
    refine ⟨η2, ?_⟩
    rw [List.drop_eq_getElem_cons hlt]
    show (G its[k] η μ).to η _ = _
    rw [e1, to_ok]
    rcases e2 with e2 | e2
    · rw [e2, turn_nx]; exact e3
    · rw [e2, turn_ct]; exact e3
end
theorem then_exc {e : Exn} {η : DX.Env} {μ : Mu} {k : DX.Env → Mu → SR} : (SR.exc e η μ).then k = .exc e η μ := rfl
theorem run_exc {e : Exn} {η : DX.Env} {μ : Mu} : (SR.exc e η μ).run = .exc e μ := rfl
theorem to_exc {α : Type} {e : Exn} {η : DX.Env} {μ : Mu} {k : α → Mu → SR} : (Res.exc e μ : Res α).to η k = .exc e η μ := rfl
theorem bind_exc {α β : Type} {e : Exn} {μ : Mu} {k : α → Mu → Res β} : (Res.exc e μ : Res α).bind k = .exc e μ := rfl
theorem fz_exc_same {e : Exn} {μ μ0 : Mu} (h : μ.length ≤ μ0.length) : fz μ0 (.exc e μ) = .exc e μ := if_pos h
theorem enum_get {xs : List D} : ∀ (k i : Nat), (enumFrom k xs)[i]? = xs[i]?.map fun x => .tup [.int ((k + i : Nat) : Int), x] := by
  induction xs with
  | nil => intro k i; simp [enumFrom]
  | cons x r ih =>
    intro k i
    cases i with
    | zero => simp [enumFrom]
    | succ i =>
      show (enumFrom (k + 1) r)[i]? = _
      rw [ih (k + 1) i]
      have e : k + 1 + i = k + (i + 1) := by omega
      rw [e]
      rfl
theorem enum_len {xs : List D} : ∀ k : Nat, (enumFrom k xs).length = xs.length := by
  induction xs with
  | nil => intro k; rfl
  | cons x r ih => intro k; show (enumFrom (k + 1) r).length + 1 = _; rw [ih]; rfl
/-! ### errors -/
theorem any_lits {s : Str} : ∀ ss : List Str, ((ss.map D.str).any fun z => eqP z (.str s)) = ss.any fun z => z == s
  | [] => rfl
  | x :: r => by
    rw [List.map_cons, List.any_cons, List.any_cons, any_lits r]
    rfl
theorem inD_lits {s : Str} {ss : List Str} {μ : Mu} (h1 : PyData.strOk s = true) (h2 : ss.all PyData.strOk = true) (hl : ss.length ≤ 1000) : inD (.str s) (.tup (ss.map D.str)) μ = .ok (.bl (ss.any fun z => z == s)) μ := by
  have p1 : DX.plain 60 (.str s) = true := by rw [plain_str]; exact h1
  have p2 : DX.plain 60 (.tup (ss.map D.str)) = true := plain_tup_of (n := 59) (by rw [List.length_map]; omega) (plains_of fun x hx => by
    obtain ⟨z, hz, rfl⟩ := List.mem_map.mp hx
    rw [plain_str]
    exact List.all_eq_true.mp h2 z hz)
  unfold inD
  rw [der_plain p1, der_plain p2]
  show grd (DX.plain 60 (.str s) = true ∧ DX.plain 60 (.tup (ss.map D.str)) = true) (Res.ok (D.bl (id ((ss.map D.str).any fun z => eqP z (.str s)))) μ) = _
  rw [grd_pos ⟨p1, p2⟩, any_lits]
  rfl
theorem getF_tag {f : Str} {a b : D} : getF "tag" ["tag", f] [a, b] = some a := by simp only [getF, if_true]
theorem getF_own {f : Str} {a b : D} (h : ("tag" : Str) ≠ f) : getF f ["tag", f] [a, b] = some b := by
  simp only [getF]
  first
    | (rw [if_neg h]; simp)
    | (rw [if_neg (Ne.symm h)]; simp)
end Lw

namespace Lw
open PySem L2 DX
/-! ### things: which texts are, and what check_things says -/
theorem mem_abc {c : Nat} : c ∈ abc ↔ 97 ≤ c ∧ c ≤ 122 := by
  constructor
  · intro h
    have : ∀ c ∈ abc, 97 ≤ c ∧ c ≤ 122 := by decide
    exact this c h
  · exact low_mem
def thB (cs : List Nat) : Bool := decide (1 ≤ cs.length) && (decide (cs.length ≤ 6) && cs.all fun c => decide (c ∈ abc))
theorem thB_nm {cs : List Nat} : thB cs = true ↔ Nm cs := by
  unfold thB Nm Low
  simp only [Bool.and_eq_true, decide_eq_true_eq, List.all_eq_true, mem_abc]
def inAbc (x : D) : D := match x with
  | .str s => .bl (decide (s.cps.toList.headD 0 ∈ abc))
  | _ => .non
theorem is_thing_ok {cs : List Nat} {μ : Mu} (hl : cs.length ≤ 1000) : f_is_thing [sD cs] μ = .ok (.bl (thB cs)) μ := by
  have e0 : f_is_thing [sD cs] μ = fz μ (SR.run (T_is_thing [some (sD cs), none] μ)) := defR_ok rfl
  rw [e0]
  have el : L1_is_thing [some (sD cs), none] μ = .ok (.lst (cs.map fun c => D.bl (decide (c ∈ abc)))) μ := by
    have z := lc_seq (i := 1) (Te := Q1_is_thing) (η := [some (sD cs), none]) (μ := μ) (S := dVar 0) (d := sD cs) (xs := cs.map fun c => sD [c]) inAbc rfl sD_items (by rw [List.length_map]; omega) fun x hx => by
      obtain ⟨c, hc, rfl⟩ := List.mem_map.mp hx
      simp only [dSeq, dIf, dB, dAnd, dOr, dNot, dAsg, dOp, dVar, dC, dCB, dCons, dNil, dName, dRet, dRetN, dDrop, dNext, dIfE, dAndV, dOrV, dNotV, dUn, dSl, dNoPart, dPart, dPar, dPar3, dTup, dLst, dGTup, dGCons, dGNil, dChain, dIsN, dNotN, isN, dCont, dBreak, dGSub, dSeqI, items_lst, items_tup, dZip2, dZip3, dEnum, still_lst, still_tup, dFor, dFld, dLenOf, dM1, look_0, look_s, bind_ok, to_ok, then_nx, then_rt, then_ct, then_bk, turn_nx, turn_ct, turn_rt, turn_bk, run_rt, run_nx, onB_bl, okO_some, noX_ok, addD_int, subD_int, ltD_int, cmpD_int, fLe, fGe, fGt, intD_int, if_true, if_false, Bool.false_eq_true, Bool.not_true, Bool.not_false, List.set_cons_succ, List.set_cons_zero, ixD_lst, ixD_tup, lenD_lst, lenD_tup, List.length_cons, List.length_nil, isi_int_int, isi_int_bool, isi_int_str, isi_int_tuple, isi_int_list, isi_bl_int, isi_bl_bool, isi_bl_str, isi_bl_tuple, isi_bl_list, isi_str_int, isi_str_bool, isi_str_str, isi_str_tuple, isi_str_list, isi_tup_int, isi_tup_bool, isi_tup_str, isi_tup_tuple, isi_tup_list, isi_lst_int, isi_lst_bool, isi_lst_str, isi_lst_tuple, isi_lst_list, isi_non_int, isi_non_bool, isi_non_str, isi_non_tuple, isi_non_list, wipeD, dNever, chk_c, decide_true, decide_false, Q1_is_thing, lit_abc, sD_in, id]
      rfl
    rw [List.map_map] at z
    exact z
  have ea : ((cs.map fun c => decide (c ∈ abc)).all id) = cs.all fun c => decide (c ∈ abc) := all_map _ _
  unfold thB
  by_cases c1 : 1 ≤ cs.length
  · have c1' : (1 : Int) ≤ cs.length := by omega
    by_cases c2 : cs.length ≤ 6
    · have c2' : (cs.length : Int) ≤ 6 := by omega
      simp only [dSeq, dIf, dB, dAnd, dOr, dNot, dAsg, dOp, dVar, dC, dCB, dCons, dNil, dName, dRet, dRetN, dDrop, dNext, dIfE, dAndV, dOrV, dNotV, dUn, dSl, dNoPart, dPart, dPar, dPar3, dTup, dLst, dGTup, dGCons, dGNil, dChain, dIsN, dNotN, isN, dCont, dBreak, dGSub, dSeqI, items_lst, items_tup, dZip2, dZip3, dEnum, still_lst, still_tup, dFor, dFld, dLenOf, dM1, look_0, look_s, bind_ok, to_ok, then_nx, then_rt, then_ct, then_bk, turn_nx, turn_ct, turn_rt, turn_bk, run_rt, run_nx, onB_bl, okO_some, noX_ok, addD_int, subD_int, ltD_int, cmpD_int, fLe, fGe, fGt, intD_int, if_true, if_false, Bool.false_eq_true, Bool.not_true, Bool.not_false, List.set_cons_succ, List.set_cons_zero, ixD_lst, ixD_tup, lenD_lst, lenD_tup, List.length_cons, List.length_nil, isi_int_int, isi_int_bool, isi_int_str, isi_int_tuple, isi_int_list, isi_bl_int, isi_bl_bool, isi_bl_str, isi_bl_tuple, isi_bl_list, isi_str_int, isi_str_bool, isi_str_str, isi_str_tuple, isi_str_list, isi_tup_int, isi_tup_bool, isi_tup_str, isi_tup_tuple, isi_tup_list, isi_lst_int, isi_lst_bool, isi_lst_str, isi_lst_tuple, isi_lst_list, isi_non_int, isi_non_bool, isi_non_str, isi_non_tuple, isi_non_list, wipeD, dNever, chk_c, decide_true, decide_false, T_is_thing, sD_len (show cs.length ≤ 16777216 by omega), decide_eq_true c1', decide_eq_true c2', decide_eq_true c1, decide_eq_true c2, el, allD, asL, bls_map (fun c => decide (c ∈ abc)), ea, Bool.true_and]
      exact fz_same (Nat.le_refl _)
    · have c2' : ¬ (cs.length : Int) ≤ 6 := by omega
      simp only [dSeq, dIf, dB, dAnd, dOr, dNot, dAsg, dOp, dVar, dC, dCB, dCons, dNil, dName, dRet, dRetN, dDrop, dNext, dIfE, dAndV, dOrV, dNotV, dUn, dSl, dNoPart, dPart, dPar, dPar3, dTup, dLst, dGTup, dGCons, dGNil, dChain, dIsN, dNotN, isN, dCont, dBreak, dGSub, dSeqI, items_lst, items_tup, dZip2, dZip3, dEnum, still_lst, still_tup, dFor, dFld, dLenOf, dM1, look_0, look_s, bind_ok, to_ok, then_nx, then_rt, then_ct, then_bk, turn_nx, turn_ct, turn_rt, turn_bk, run_rt, run_nx, onB_bl, okO_some, noX_ok, addD_int, subD_int, ltD_int, cmpD_int, fLe, fGe, fGt, intD_int, if_true, if_false, Bool.false_eq_true, Bool.not_true, Bool.not_false, List.set_cons_succ, List.set_cons_zero, ixD_lst, ixD_tup, lenD_lst, lenD_tup, List.length_cons, List.length_nil, isi_int_int, isi_int_bool, isi_int_str, isi_int_tuple, isi_int_list, isi_bl_int, isi_bl_bool, isi_bl_str, isi_bl_tuple, isi_bl_list, isi_str_int, isi_str_bool, isi_str_str, isi_str_tuple, isi_str_list, isi_tup_int, isi_tup_bool, isi_tup_str, isi_tup_tuple, isi_tup_list, isi_lst_int, isi_lst_bool, isi_lst_str, isi_lst_tuple, isi_lst_list, isi_non_int, isi_non_bool, isi_non_str, isi_non_tuple, isi_non_list, wipeD, dNever, chk_c, decide_true, decide_false, T_is_thing, sD_len (show cs.length ≤ 16777216 by omega), decide_eq_true c1', decide_eq_false c2', decide_eq_true c1, decide_eq_false c2, Bool.true_and, Bool.false_and]
      exact fz_same (Nat.le_refl _)
  · have c1' : ¬ (1 : Int) ≤ cs.length := by omega
    simp only [dSeq, dIf, dB, dAnd, dOr, dNot, dAsg, dOp, dVar, dC, dCB, dCons, dNil, dName, dRet, dRetN, dDrop, dNext, dIfE, dAndV, dOrV, dNotV, dUn, dSl, dNoPart, dPart, dPar, dPar3, dTup, dLst, dGTup, dGCons, dGNil, dChain, dIsN, dNotN, isN, dCont, dBreak, dGSub, dSeqI, items_lst, items_tup, dZip2, dZip3, dEnum, still_lst, still_tup, dFor, dFld, dLenOf, dM1, look_0, look_s, bind_ok, to_ok, then_nx, then_rt, then_ct, then_bk, turn_nx, turn_ct, turn_rt, turn_bk, run_rt, run_nx, onB_bl, okO_some, noX_ok, addD_int, subD_int, ltD_int, cmpD_int, fLe, fGe, fGt, intD_int, if_true, if_false, Bool.false_eq_true, Bool.not_true, Bool.not_false, List.set_cons_succ, List.set_cons_zero, ixD_lst, ixD_tup, lenD_lst, lenD_tup, List.length_cons, List.length_nil, isi_int_int, isi_int_bool, isi_int_str, isi_int_tuple, isi_int_list, isi_bl_int, isi_bl_bool, isi_bl_str, isi_bl_tuple, isi_bl_list, isi_str_int, isi_str_bool, isi_str_str, isi_str_tuple, isi_str_list, isi_tup_int, isi_tup_bool, isi_tup_str, isi_tup_tuple, isi_tup_list, isi_lst_int, isi_lst_bool, isi_lst_str, isi_lst_tuple, isi_lst_list, isi_non_int, isi_non_bool, isi_non_str, isi_non_tuple, isi_non_list, wipeD, dNever, chk_c, decide_true, decide_false, T_is_thing, sD_len (show cs.length ≤ 16777216 by omega), decide_eq_false c1', decide_eq_false c1, Bool.false_and]
    exact fz_same (Nat.le_refl _)
/-- texts that may be handed as things -/
def Wf (ws : List (List Nat)) : Prop := ws.length ≤ 1000 ∧ ∀ w ∈ ws, Sg w ∧ w.length ≤ 1000
theorem Wf.sg {ws : List (List Nat)} (h : Wf ws) : ∀ w ∈ ws, Sg w := fun w hw => (h.2 w hw).1
theorem gD {ws : List (List Nat)} {k : Nat} (h : k < ws.length) : ws.getD k [] = ws[k] := by
  rw [List.getD_eq_getElem?_getD, List.getElem?_eq_getElem h]
  rfl
def at_ (ws : List (List Nat)) (k : Nat) : List Nat := ws.getD k []
theorem at_mem {ws : List (List Nat)} {k : Nat} (h : k < ws.length) : at_ ws k ∈ ws := by
  unfold at_
  rw [gD h]
  exact List.getElem_mem h
theorem at_get {ws : List (List Nat)} {k : Nat} (h : k < ws.length) : ws[k]? = some (at_ ws k) := by
  unfold at_
  rw [gD h, List.getElem?_eq_getElem h]
def badAt (ws : List (List Nat)) (k : Nat) : Bool := decide (k = 4) || (!thB (at_ ws k) || decide (at_ ws k ∈ ws.take k))
theorem tg_of {ws : List (List Nat)} (hne : ws ≠ []) (h : ∀ k, k < ws.length → badAt ws k = false) : Tg ws := by
  have key : ∀ k, k < ws.length → k ≠ 4 ∧ Nm (at_ ws k) ∧ at_ ws k ∉ ws.take k := fun k hk => by
    have z := h k hk
    unfold badAt at z
    simp only [Bool.or_eq_false_iff, decide_eq_false_iff_not, Bool.not_eq_false'] at z
    exact ⟨z.1, thB_nm.mp z.2.1, z.2.2⟩
  refine ⟨List.length_pos_iff.mpr hne, ?_, fun w hw => ?_, ?_⟩
  · rcases Nat.lt_or_ge 4 ws.length with q | q
    · exact absurd rfl (key 4 q).1
    · exact q
  · obtain ⟨k, hk, e⟩ := List.mem_iff_getElem.mp hw
    have z := (key k hk).2.1
    unfold at_ at z
    rw [gD hk, e] at z
    exact z
  · rw [List.nodup_iff_pairwise_ne, List.pairwise_iff_getElem]
    intro i j hi hj hij e
    have z := (key j hj).2.2
    unfold at_ at z
    rw [gD hj, ← e] at z
    exact z (List.mem_take_iff_getElem.mpr ⟨i, by omega, rfl⟩)
abbrev eIT (k : Int) : Exn := ⟨"InvalidThing", ["tag", "at"], [.str "InvalidThing", .int k]⟩
theorem ct_turn {ws : List (List Nat)} {μ : Mu} {k : Nat} (hk : k < ws.length) (hw : Wf ws) :
    B1_check_things [some (.lst (wsD ws)), some (.int k), some (sD (at_ ws k))] μ = if badAt ws k = true then .exc (eIT k) [some (.lst (wsD ws)), some (.int k), some (sD (at_ ws k))] μ else .nx [some (.lst (wsD ws)), some (.int k), some (sD (at_ ws k))] μ := by
  have hm := at_mem hk
  have ec : cut (wsD ws) none (some (k : Int)) = wsD (ws.take k) := by
    rw [cut_take _ (by omega), Int.toNat_natCast]
    unfold wsD
    rw [List.map_take]
  have hl := hw.1
  have ei : inD (sD (at_ ws k)) (.lst (wsD (ws.take k))) μ = .ok (.bl (decide (at_ ws k ∈ ws.take k))) μ := inD_sD (hw.sg _ hm) (by rw [List.length_take]; omega) fun w hw' => hw.sg w (List.mem_of_mem_take hw')
  have it := is_thing_ok (μ := μ) (hw.2 _ hm).2
  unfold badAt
  by_cases c1 : k = 4
  · have k4 : ((k : Int) == 4) = true := beq_iff_eq.mpr (by omega)
    simp only [dSeq, dIf, dB, dAnd, dOr, dNot, dAsg, dOp, dVar, dC, dCB, dCons, dNil, dName, dRet, dRetN, dDrop, dNext, dIfE, dAndV, dOrV, dNotV, dUn, dSl, dNoPart, dPart, dPar, dPar3, dTup, dLst, dGTup, dGCons, dGNil, dChain, dIsN, dNotN, isN, dCont, dBreak, dGSub, dSeqI, items_lst, items_tup, dZip2, dZip3, dEnum, still_lst, still_tup, dFor, dFld, dLenOf, dM1, look_0, look_s, bind_ok, to_ok, then_nx, then_rt, then_ct, then_bk, turn_nx, turn_ct, turn_rt, turn_bk, run_rt, run_nx, onB_bl, okO_some, noX_ok, addD_int, subD_int, ltD_int, cmpD_int, fLe, fGe, fGt, intD_int, if_true, if_false, Bool.false_eq_true, Bool.not_true, Bool.not_false, List.set_cons_succ, List.set_cons_zero, ixD_lst, ixD_tup, lenD_lst, lenD_tup, List.length_cons, List.length_nil, isi_int_int, isi_int_bool, isi_int_str, isi_int_tuple, isi_int_list, isi_bl_int, isi_bl_bool, isi_bl_str, isi_bl_tuple, isi_bl_list, isi_str_int, isi_str_bool, isi_str_str, isi_str_tuple, isi_str_list, isi_tup_int, isi_tup_bool, isi_tup_str, isi_tup_tuple, isi_tup_list, isi_lst_int, isi_lst_bool, isi_lst_str, isi_lst_tuple, isi_lst_list, isi_non_int, isi_non_bool, isi_non_str, isi_non_tuple, isi_non_list, wipeD, dNever, chk_c, decide_true, decide_false, B1_check_things, eqD_int, k4, decide_eq_true c1, Bool.true_or, dRaise]
  · have k4 : ((k : Int) == 4) = false := beq_eq_false_iff_ne.mpr (by omega)
    cases c2 : thB (at_ ws k) with
    | false =>
      simp only [dSeq, dIf, dB, dAnd, dOr, dNot, dAsg, dOp, dVar, dC, dCB, dCons, dNil, dName, dRet, dRetN, dDrop, dNext, dIfE, dAndV, dOrV, dNotV, dUn, dSl, dNoPart, dPart, dPar, dPar3, dTup, dLst, dGTup, dGCons, dGNil, dChain, dIsN, dNotN, isN, dCont, dBreak, dGSub, dSeqI, items_lst, items_tup, dZip2, dZip3, dEnum, still_lst, still_tup, dFor, dFld, dLenOf, dM1, look_0, look_s, bind_ok, to_ok, then_nx, then_rt, then_ct, then_bk, turn_nx, turn_ct, turn_rt, turn_bk, run_rt, run_nx, onB_bl, okO_some, noX_ok, addD_int, subD_int, ltD_int, cmpD_int, fLe, fGe, fGt, intD_int, if_true, if_false, Bool.false_eq_true, Bool.not_true, Bool.not_false, List.set_cons_succ, List.set_cons_zero, ixD_lst, ixD_tup, lenD_lst, lenD_tup, List.length_cons, List.length_nil, isi_int_int, isi_int_bool, isi_int_str, isi_int_tuple, isi_int_list, isi_bl_int, isi_bl_bool, isi_bl_str, isi_bl_tuple, isi_bl_list, isi_str_int, isi_str_bool, isi_str_str, isi_str_tuple, isi_str_list, isi_tup_int, isi_tup_bool, isi_tup_str, isi_tup_tuple, isi_tup_list, isi_lst_int, isi_lst_bool, isi_lst_str, isi_lst_tuple, isi_lst_list, isi_non_int, isi_non_bool, isi_non_str, isi_non_tuple, isi_non_list, wipeD, dNever, chk_c, decide_true, decide_false, B1_check_things, eqD_int, k4, decide_eq_false c1, Bool.false_or, it, c2, Bool.true_or, dRaise]
    | true =>
      by_cases c3 : at_ ws k ∈ ws.take k
      · simp only [dSeq, dIf, dB, dAnd, dOr, dNot, dAsg, dOp, dVar, dC, dCB, dCons, dNil, dName, dRet, dRetN, dDrop, dNext, dIfE, dAndV, dOrV, dNotV, dUn, dSl, dNoPart, dPart, dPar, dPar3, dTup, dLst, dGTup, dGCons, dGNil, dChain, dIsN, dNotN, isN, dCont, dBreak, dGSub, dSeqI, items_lst, items_tup, dZip2, dZip3, dEnum, still_lst, still_tup, dFor, dFld, dLenOf, dM1, look_0, look_s, bind_ok, to_ok, then_nx, then_rt, then_ct, then_bk, turn_nx, turn_ct, turn_rt, turn_bk, run_rt, run_nx, onB_bl, okO_some, noX_ok, addD_int, subD_int, ltD_int, cmpD_int, fLe, fGe, fGt, intD_int, if_true, if_false, Bool.false_eq_true, Bool.not_true, Bool.not_false, List.set_cons_succ, List.set_cons_zero, ixD_lst, ixD_tup, lenD_lst, lenD_tup, List.length_cons, List.length_nil, isi_int_int, isi_int_bool, isi_int_str, isi_int_tuple, isi_int_list, isi_bl_int, isi_bl_bool, isi_bl_str, isi_bl_tuple, isi_bl_list, isi_str_int, isi_str_bool, isi_str_str, isi_str_tuple, isi_str_list, isi_tup_int, isi_tup_bool, isi_tup_str, isi_tup_tuple, isi_tup_list, isi_lst_int, isi_lst_bool, isi_lst_str, isi_lst_tuple, isi_lst_list, isi_non_int, isi_non_bool, isi_non_str, isi_non_tuple, isi_non_list, wipeD, dNever, chk_c, decide_true, decide_false, B1_check_things, eqD_int, k4, decide_eq_false c1, Bool.false_or, it, c2, slD_lst, ec, ei, decide_eq_true c3, dRaise]
      · simp only [dSeq, dIf, dB, dAnd, dOr, dNot, dAsg, dOp, dVar, dC, dCB, dCons, dNil, dName, dRet, dRetN, dDrop, dNext, dIfE, dAndV, dOrV, dNotV, dUn, dSl, dNoPart, dPart, dPar, dPar3, dTup, dLst, dGTup, dGCons, dGNil, dChain, dIsN, dNotN, isN, dCont, dBreak, dGSub, dSeqI, items_lst, items_tup, dZip2, dZip3, dEnum, still_lst, still_tup, dFor, dFld, dLenOf, dM1, look_0, look_s, bind_ok, to_ok, then_nx, then_rt, then_ct, then_bk, turn_nx, turn_ct, turn_rt, turn_bk, run_rt, run_nx, onB_bl, okO_some, noX_ok, addD_int, subD_int, ltD_int, cmpD_int, fLe, fGe, fGt, intD_int, if_true, if_false, Bool.false_eq_true, Bool.not_true, Bool.not_false, List.set_cons_succ, List.set_cons_zero, ixD_lst, ixD_tup, lenD_lst, lenD_tup, List.length_cons, List.length_nil, isi_int_int, isi_int_bool, isi_int_str, isi_int_tuple, isi_int_list, isi_bl_int, isi_bl_bool, isi_bl_str, isi_bl_tuple, isi_bl_list, isi_str_int, isi_str_bool, isi_str_str, isi_str_tuple, isi_str_list, isi_tup_int, isi_tup_bool, isi_tup_str, isi_tup_tuple, isi_tup_list, isi_lst_int, isi_lst_bool, isi_lst_str, isi_lst_tuple, isi_lst_list, isi_non_int, isi_non_bool, isi_non_str, isi_non_tuple, isi_non_list, wipeD, dNever, chk_c, decide_true, decide_false, B1_check_things, eqD_int, k4, decide_eq_false c1, Bool.false_or, it, c2, slD_lst, ec, ei, decide_eq_false c3]
theorem check_things_exc {ws : List (List Nat)} {μ : Mu} {j : Nat} (hw : Wf ws) (hj : j < ws.length) (hb : badAt ws j = true) (hf : ∀ i, i < j → badAt ws i = false) : f_check_things [.lst (wsD ws)] μ = .exc (eIT j) μ := by
  have e0 : f_check_things [.lst (wsD ws)] μ = fz μ (SR.run (T_check_things [some (.lst (wsD ws)), none, none] μ)) := defR_ok rfl
  rw [e0]
  have wl : (wsD ws).length = ws.length := List.length_map _
  have get : ∀ i x, (enumFrom 0 (wsD ws))[i]? = some x → i < ws.length ∧ x = .tup [.int i, sD (at_ ws i)] := fun i x e => by
    rw [enum_get] at e
    rcases Nat.lt_or_ge i ws.length with q | q
    · unfold wsD at e
      rw [List.getElem?_map, at_get q] at e
      refine ⟨q, ?_⟩
      have := (Option.some.inj e).symm
      rw [this, Nat.zero_add]
    · rw [List.getElem?_eq_none (by rw [wl]; exact q)] at e
      cases e
  obtain ⟨η', e⟩ := forR_exc (G := dGTup 2 (dGCons (dName 1) (dGCons (dName 2) dGNil))) (T := B1_check_things) (μ := μ) (its := enumFrom 0 (wsD ws)) (I := fun _ η => ∃ x1 x2, η = [some (.lst (wsD ws)), x1, x2]) (e := eIT j) (j := j) (by rw [enum_len, wl]; exact hj)
    (fun i x η hi hx hI => by
      obtain ⟨hl, rfl⟩ := get i x hx
      obtain ⟨x1, x2, rfl⟩ := hI
      refine ⟨[some (.lst (wsD ws)), some (.int i), some (sD (at_ ws i))], [some (.lst (wsD ws)), some (.int i), some (sD (at_ ws i))], by simp only [dSeq, dIf, dB, dAnd, dOr, dNot, dAsg, dOp, dVar, dC, dCB, dCons, dNil, dName, dRet, dRetN, dDrop, dNext, dIfE, dAndV, dOrV, dNotV, dUn, dSl, dNoPart, dPart, dPar, dPar3, dTup, dLst, dGTup, dGCons, dGNil, dChain, dIsN, dNotN, isN, dCont, dBreak, dGSub, dSeqI, items_lst, items_tup, dZip2, dZip3, dEnum, still_lst, still_tup, dFor, dFld, dLenOf, dM1, look_0, look_s, bind_ok, to_ok, then_nx, then_rt, then_ct, then_bk, turn_nx, turn_ct, turn_rt, turn_bk, run_rt, run_nx, onB_bl, okO_some, noX_ok, addD_int, subD_int, ltD_int, cmpD_int, fLe, fGe, fGt, intD_int, if_true, if_false, Bool.false_eq_true, Bool.not_true, Bool.not_false, List.set_cons_succ, List.set_cons_zero, ixD_lst, ixD_tup, lenD_lst, lenD_tup, List.length_cons, List.length_nil, isi_int_int, isi_int_bool, isi_int_str, isi_int_tuple, isi_int_list, isi_bl_int, isi_bl_bool, isi_bl_str, isi_bl_tuple, isi_bl_list, isi_str_int, isi_str_bool, isi_str_str, isi_str_tuple, isi_str_list, isi_tup_int, isi_tup_bool, isi_tup_str, isi_tup_tuple, isi_tup_list, isi_lst_int, isi_lst_bool, isi_lst_str, isi_lst_tuple, isi_lst_list, isi_non_int, isi_non_bool, isi_non_str, isi_non_tuple, isi_non_list, wipeD, dNever, chk_c, decide_true, decide_false], .inl ?_, some (.int i), some (sD (at_ ws i)), rfl⟩
      rw [ct_turn hl hw, hf i hi]
      rfl)
    (fun x η hx hI => by
      obtain ⟨hl, rfl⟩ := get j x hx
      obtain ⟨x1, x2, rfl⟩ := hI
      refine ⟨[some (.lst (wsD ws)), some (.int j), some (sD (at_ ws j))], [some (.lst (wsD ws)), some (.int j), some (sD (at_ ws j))], by simp only [dSeq, dIf, dB, dAnd, dOr, dNot, dAsg, dOp, dVar, dC, dCB, dCons, dNil, dName, dRet, dRetN, dDrop, dNext, dIfE, dAndV, dOrV, dNotV, dUn, dSl, dNoPart, dPart, dPar, dPar3, dTup, dLst, dGTup, dGCons, dGNil, dChain, dIsN, dNotN, isN, dCont, dBreak, dGSub, dSeqI, items_lst, items_tup, dZip2, dZip3, dEnum, still_lst, still_tup, dFor, dFld, dLenOf, dM1, look_0, look_s, bind_ok, to_ok, then_nx, then_rt, then_ct, then_bk, turn_nx, turn_ct, turn_rt, turn_bk, run_rt, run_nx, onB_bl, okO_some, noX_ok, addD_int, subD_int, ltD_int, cmpD_int, fLe, fGe, fGt, intD_int, if_true, if_false, Bool.false_eq_true, Bool.not_true, Bool.not_false, List.set_cons_succ, List.set_cons_zero, ixD_lst, ixD_tup, lenD_lst, lenD_tup, List.length_cons, List.length_nil, isi_int_int, isi_int_bool, isi_int_str, isi_int_tuple, isi_int_list, isi_bl_int, isi_bl_bool, isi_bl_str, isi_bl_tuple, isi_bl_list, isi_str_int, isi_str_bool, isi_str_str, isi_str_tuple, isi_str_list, isi_tup_int, isi_tup_bool, isi_tup_str, isi_tup_tuple, isi_tup_list, isi_lst_int, isi_lst_bool, isi_lst_str, isi_lst_tuple, isi_lst_list, isi_non_int, isi_non_bool, isi_non_str, isi_non_tuple, isi_non_list, wipeD, dNever, chk_c, decide_true, decide_false], ?_⟩
      rw [ct_turn hl hw, hb]
      rfl)
    0 [some (.lst (wsD ws)), none, none] ⟨none, none, rfl⟩ (Nat.zero_le _)
  rw [List.drop_zero] at e
  simp only [dSeq, dIf, dB, dAnd, dOr, dNot, dAsg, dOp, dVar, dC, dCB, dCons, dNil, dName, dRet, dRetN, dDrop, dNext, dIfE, dAndV, dOrV, dNotV, dUn, dSl, dNoPart, dPart, dPar, dPar3, dTup, dLst, dGTup, dGCons, dGNil, dChain, dIsN, dNotN, isN, dCont, dBreak, dGSub, dSeqI, items_lst, items_tup, dZip2, dZip3, dEnum, still_lst, still_tup, dFor, dFld, dLenOf, dM1, look_0, look_s, bind_ok, to_ok, then_nx, then_rt, then_ct, then_bk, turn_nx, turn_ct, turn_rt, turn_bk, run_rt, run_nx, onB_bl, okO_some, noX_ok, addD_int, subD_int, ltD_int, cmpD_int, fLe, fGe, fGt, intD_int, if_true, if_false, Bool.false_eq_true, Bool.not_true, Bool.not_false, List.set_cons_succ, List.set_cons_zero, ixD_lst, ixD_tup, lenD_lst, lenD_tup, List.length_cons, List.length_nil, isi_int_int, isi_int_bool, isi_int_str, isi_int_tuple, isi_int_list, isi_bl_int, isi_bl_bool, isi_bl_str, isi_bl_tuple, isi_bl_list, isi_str_int, isi_str_bool, isi_str_str, isi_str_tuple, isi_str_list, isi_tup_int, isi_tup_bool, isi_tup_str, isi_tup_tuple, isi_tup_list, isi_lst_int, isi_lst_bool, isi_lst_str, isi_lst_tuple, isi_lst_list, isi_non_int, isi_non_bool, isi_non_str, isi_non_tuple, isi_non_list, wipeD, dNever, chk_c, decide_true, decide_false, T_check_things, e, then_exc, run_exc]
  exact fz_exc_same (Nat.le_refl _)
theorem check_things_nil {μ : Mu} : f_check_things [.lst (wsD [])] μ = .exc (eIT 0) μ := by
  have e0 : f_check_things [.lst (wsD [])] μ = fz μ (SR.run (T_check_things [some (.lst []), none, none] μ)) := defR_ok rfl
  rw [e0]
  have z : (((0 : Nat) : Int) == 0) = true := rfl
  simp only [dSeq, dIf, dB, dAnd, dOr, dNot, dAsg, dOp, dVar, dC, dCB, dCons, dNil, dName, dRet, dRetN, dDrop, dNext, dIfE, dAndV, dOrV, dNotV, dUn, dSl, dNoPart, dPart, dPar, dPar3, dTup, dLst, dGTup, dGCons, dGNil, dChain, dIsN, dNotN, isN, dCont, dBreak, dGSub, dSeqI, items_lst, items_tup, dZip2, dZip3, dEnum, still_lst, still_tup, dFor, dFld, dLenOf, dM1, look_0, look_s, bind_ok, to_ok, then_nx, then_rt, then_ct, then_bk, turn_nx, turn_ct, turn_rt, turn_bk, run_rt, run_nx, onB_bl, okO_some, noX_ok, addD_int, subD_int, ltD_int, cmpD_int, fLe, fGe, fGt, intD_int, if_true, if_false, Bool.false_eq_true, Bool.not_true, Bool.not_false, List.set_cons_succ, List.set_cons_zero, ixD_lst, ixD_tup, lenD_lst, lenD_tup, List.length_cons, List.length_nil, isi_int_int, isi_int_bool, isi_int_str, isi_int_tuple, isi_int_list, isi_bl_int, isi_bl_bool, isi_bl_str, isi_bl_tuple, isi_bl_list, isi_str_int, isi_str_bool, isi_str_str, isi_str_tuple, isi_str_list, isi_tup_int, isi_tup_bool, isi_tup_str, isi_tup_tuple, isi_tup_list, isi_lst_int, isi_lst_bool, isi_lst_str, isi_lst_tuple, isi_lst_list, isi_non_int, isi_non_bool, isi_non_str, isi_non_tuple, isi_non_list, wipeD, dNever, chk_c, decide_true, decide_false, T_check_things, enumFrom, forR, eqD_int, z, dRaise, run_exc]
  exact fz_exc_same (Nat.le_refl _)
/-! ### Market(things) -/
theorem init_any {ws : List (List Nat)} {n : Nat} {μ : Mu} {d : D} (hn : μ.length = n) (hd : ∀ ν, seqOf (μ ++ ν) d = some (wsD ws)) (h : Tg ws) : f_Market_init [.cell n, d] (μ ++ [.ins "Market" [] []]) = .ok .non (μ ++ [.ins "Market" FN [.lst (wsD ws), .lst (rowD [])]]) := by
  have e0 : f_Market_init [.cell n, d] (μ ++ [.ins "Market" [] []]) = fz (μ ++ [.ins "Market" [] []]) (SR.run (T_Market_init [some (.cell n), some d, some (.tup []), none, none] (μ ++ [.ins "Market" [] []]))) := by
    show starR 2 (defR fz 3 5 T_Market_init) _ _ = _
    unfold starR
    rw [if_pos ⟨by simp, by simp⟩]
    exact defR_ok rfl
  rw [e0]
  have p1 : putN "barter_row" ["thing_row"] = FN := by simp only [putN, if_neg ne_bt]
  have p2 : putD "barter_row" (.lst []) ["thing_row"] [.lst (wsD ws)] = [.lst (wsD ws), .lst (rowD [])] := by simp only [putD, if_neg ne_bt]; rfl
  have s1 := setF_new (μ := μ) (n := n) (y := .lst (wsD ws)) (c := "Market") (f := "thing_row") (ns := []) (ds := []) hn (by decide)
  have s2 := setF_new (μ := μ) (n := n) (y := .lst []) (c := "Market") (f := "barter_row") (ns := ["thing_row"]) (ds := [.lst (wsD ws)]) hn (show (1 : Nat) < 1000 by decide)
  rw [p1, p2] at s2
  have s1' : setF "Market" "thing_row" (.cell n) (.lst (wsD ws)) (μ ++ [.ins "Market" [] []]) = .ok () (μ ++ [.ins "Market" ["thing_row"] [.lst (wsD ws)]]) := s1
  have l1 : ∀ ν, listD [d] (μ ++ ν) = .ok (.lst (wsD ws)) (μ ++ ν) := fun ν => by unfold listD; simp only [hd, okO_some]
  have l2 : ∀ ν : Mu, listD [.tup []] ν = .ok (.lst []) ν := fun ν => rfl
  simp only [dSeq, dIf, dB, dAnd, dOr, dNot, dAsg, dOp, dVar, dC, dCB, dCons, dNil, dName, dRet, dRetN, dDrop, dNext, dIfE, dAndV, dOrV, dNotV, dUn, dSl, dNoPart, dPart, dPar, dPar3, dTup, dLst, dGTup, dGCons, dGNil, dChain, dIsN, dNotN, isN, dCont, dBreak, dGSub, dSeqI, items_lst, items_tup, dZip2, dZip3, dEnum, still_lst, still_tup, dFor, dFld, dLenOf, dM1, look_0, look_s, bind_ok, to_ok, then_nx, then_rt, then_ct, then_bk, turn_nx, turn_ct, turn_rt, turn_bk, run_rt, run_nx, onB_bl, okO_some, noX_ok, addD_int, subD_int, ltD_int, cmpD_int, fLe, fGe, fGt, intD_int, if_true, if_false, Bool.false_eq_true, Bool.not_true, Bool.not_false, List.set_cons_succ, List.set_cons_zero, ixD_lst, ixD_tup, lenD_lst, lenD_tup, List.length_cons, List.length_nil, isi_int_int, isi_int_bool, isi_int_str, isi_int_tuple, isi_int_list, isi_bl_int, isi_bl_bool, isi_bl_str, isi_bl_tuple, isi_bl_list, isi_str_int, isi_str_bool, isi_str_str, isi_str_tuple, isi_str_list, isi_tup_int, isi_tup_bool, isi_tup_str, isi_tup_tuple, isi_tup_list, isi_lst_int, isi_lst_bool, isi_lst_str, isi_lst_tuple, isi_lst_list, isi_non_int, isi_non_bool, isi_non_str, isi_non_tuple, isi_non_list, wipeD, dNever, chk_c, decide_true, decide_false, T_Market_init, l1, l2, check_things_ok h, enumFrom, forR, dFldS, s1', s2]
  exact fz_same (by rw [List.length_append, List.length_append]; exact Nat.le_refl _)
theorem init_exc {ws : List (List Nat)} {n : Nat} {μ : Mu} {d : D} {e : Exn} (hd : ∀ ν, seqOf (μ ++ ν) d = some (wsD ws)) (h : ∀ μ, f_check_things [.lst (wsD ws)] μ = .exc e μ) : f_Market_init [.cell n, d] (μ ++ [.ins "Market" [] []]) = .exc e (μ ++ [.ins "Market" [] []]) := by
  have e0 : f_Market_init [.cell n, d] (μ ++ [.ins "Market" [] []]) = fz (μ ++ [.ins "Market" [] []]) (SR.run (T_Market_init [some (.cell n), some d, some (.tup []), none, none] (μ ++ [.ins "Market" [] []]))) := by
    show starR 2 (defR fz 3 5 T_Market_init) _ _ = _
    unfold starR
    rw [if_pos ⟨by simp, by simp⟩]
    exact defR_ok rfl
  rw [e0]
  have l1 : ∀ ν, listD [d] (μ ++ ν) = .ok (.lst (wsD ws)) (μ ++ ν) := fun ν => by unfold listD; simp only [hd, okO_some]
  simp only [dSeq, dIf, dB, dAnd, dOr, dNot, dAsg, dOp, dVar, dC, dCB, dCons, dNil, dName, dRet, dRetN, dDrop, dNext, dIfE, dAndV, dOrV, dNotV, dUn, dSl, dNoPart, dPart, dPar, dPar3, dTup, dLst, dGTup, dGCons, dGNil, dChain, dIsN, dNotN, isN, dCont, dBreak, dGSub, dSeqI, items_lst, items_tup, dZip2, dZip3, dEnum, still_lst, still_tup, dFor, dFld, dLenOf, dM1, look_0, look_s, bind_ok, to_ok, then_nx, then_rt, then_ct, then_bk, turn_nx, turn_ct, turn_rt, turn_bk, run_rt, run_nx, onB_bl, okO_some, noX_ok, addD_int, subD_int, ltD_int, cmpD_int, fLe, fGe, fGt, intD_int, if_true, if_false, Bool.false_eq_true, Bool.not_true, Bool.not_false, List.set_cons_succ, List.set_cons_zero, ixD_lst, ixD_tup, lenD_lst, lenD_tup, List.length_cons, List.length_nil, isi_int_int, isi_int_bool, isi_int_str, isi_int_tuple, isi_int_list, isi_bl_int, isi_bl_bool, isi_bl_str, isi_bl_tuple, isi_bl_list, isi_str_int, isi_str_bool, isi_str_str, isi_str_tuple, isi_str_list, isi_tup_int, isi_tup_bool, isi_tup_str, isi_tup_tuple, isi_tup_list, isi_lst_int, isi_lst_bool, isi_lst_str, isi_lst_tuple, isi_lst_list, isi_non_int, isi_non_bool, isi_non_str, isi_non_tuple, isi_non_list, wipeD, dNever, chk_c, decide_true, decide_false, T_Market_init, l1, h, to_exc, then_exc, run_exc]
  exact fz_exc_same (Nat.le_refl _)
theorem make_any {ws : List (List Nat)} {μ : Mu} {T : DA} {η : DX.Env} {μ0 : Mu} {d : D} (hT : T η μ0 = .ok [d] μ) (hd : ∀ ν, seqOf (μ ++ ν) d = some (wsD ws)) (hc : Clean μ) (h : Tg ws) : dMake fz "Market" f_Market_init T η μ0 = .ok (mkD ws []) μ := by
  unfold dMake
  rw [hT, bind_ok, init_any rfl hd h, bind_ok]
  exact fz_obj rfl hc (by simp [cleans, DX.clean, wsD_clean, rowD_clean])
theorem make_exc {ws : List (List Nat)} {μ : Mu} {T : DA} {η : DX.Env} {μ0 : Mu} {d : D} {e : Exn} (hT : T η μ0 = .ok [d] μ) (hd : ∀ ν, seqOf (μ ++ ν) d = some (wsD ws)) (h : ∀ μ, f_check_things [.lst (wsD ws)] μ = .exc e μ) : dMake fz "Market" f_Market_init T η μ0 = .exc e (μ ++ [.ins "Market" [] []]) := by
  unfold dMake
  rw [hT, bind_ok, init_exc hd h, bind_exc]
theorem seq_cell {μ ν : Mu} {i : Nat} {xs : List D} (h : μ[i]? = some (.lst xs)) : seqOf (μ ++ ν) (.cell i) = some xs := by
  show asL (μ ++ ν) (.cell i) = some xs
  unfold asL
  simp only [List.getElem?_append_left (List.getElem?_eq_some_iff.mp h).1, h]
end Lw

namespace Lw
open PySem L2 DX
/-! ### more about running -/
theorem add_ls {xs ys : List D} {μ : Mu} (h : xs.length + ys.length ≤ 16777216) : addD (.lst xs) (.lst ys) μ = .ok (.lst (xs ++ ys)) μ := by
  show addL μ (.lst xs) (.lst ys) = _
  simp only [addL, asL]
  exact chk_c h
theorem lc_filter {W : DA} {G : DG} {C : DTs} {Te : DE} {vs : List Nat} {η : DX.Env} {μ μ1 : Mu} {its : List D} (k : D → Bool) (f : D → D) (hW : W η μ = .ok its μ1) (hl : its.length ≤ 16777216) (h : ∀ x ∈ its, ∃ η', G x (wipeD η vs) μ1 = .ok η' μ1 ∧ C η' μ1 = .ok (k x) μ1 ∧ (k x = true → Te η' μ1 = .ok (f x) μ1)) :
    dLc W G C Te vs η μ = .ok (.lst ((its.filter k).map f)) μ1 := by
  unfold dLc lcW
  rw [hW, bind_ok, chk_c hl, lcR_filter k f its [] h, noX_ok, bind_ok, List.nil_append]
theorem eqP_nil {xs : List D} : eqP (.lst xs) (.lst []) = xs.isEmpty := by cases xs <;> rfl
theorem plain_nil {n : Nat} : DX.plain (n + 1) (.lst []) = true := plain_lst_of (by simp) plains_nil
theorem eqD_nil {xs : List D} {μ : Mu} (h : DX.plain 60 (.lst xs) = true) : eqD (.lst xs) (.lst []) μ = .ok (.bl xs.isEmpty) μ := by rw [eqD_plain h (plain_nil (n := 59)), eqP_nil]
theorem neD_nil {xs : List D} {μ : Mu} (h : DX.plain 60 (.lst xs) = true) : neD (.lst xs) (.lst []) μ = .ok (.bl !xs.isEmpty) μ := by rw [neD_plain h (plain_nil (n := 59)), eqP_nil]
theorem neD_refl {d : D} {μ : Mu} (h : DX.plain 60 d = true) : neD d d μ = .ok (.bl false) μ := by rw [neD_plain h h, eqP_refl h]; rfl
theorem negD_int {i : Int} {μ : Mu} : negD (.int i) μ = .ok (.int (-i)) μ := rfl
theorem at_last {α : Type} {xs : List α} (h : xs ≠ []) : atI xs (-1) = some (xs.getLast h) := by
  have := atI_last xs.dropLast (xs.getLast h)
  rw [List.dropLast_concat_getLast h] at this
  exact this
/-- the store at a law's end -/
theorem law_end {μ : Mu} (h : Iv μ) : fz [.tbl "law" lq] (.ok (.bl true) μ) = .ok (.bl true) (μ.take 1) := by
  have e : μ = μ.take 1 ++ μ.drop 1 := (List.take_append_drop 1 μ).symm
  have l := h.two
  have q := fz_val (μ0 := [.tbl "law" lq]) (μ1 := μ.take 1) (ν := μ.drop 1) (d := .bl true) (by rw [List.length_take]; simp only [List.length_cons, List.length_nil]; omega) (fun m hm => h.cl m (List.mem_of_mem_take hm)) (by simp [DX.clean])
  rw [List.take_append_drop] at q
  exact q
end Lw

namespace Lw
open PySem L2 DX
/-! ### rows of barters; lists that may change, as they stand -/
mutual
theorem dr_clean {μ : Mu} : ∀ (k : Nat) (d : D), DX.clean d = true → dr μ k d = d
  | 0, d, _ => by cases d <;> rfl
  | k + 1, .tup xs, h => by
    show D.tup (xs.map (dr μ k)) = _
    rw [drs_clean k xs (by simpa [DX.clean] using h)]
  | k + 1, .lst xs, h => by
    show D.lst (xs.map (dr μ k)) = _
    rw [drs_clean k xs (by simpa [DX.clean] using h)]
  | k + 1, .cell i, h => by simp [DX.clean] at h
  | k + 1, .non, h => rfl
  | k + 1, .bl _, h => rfl
  | k + 1, .int _, h => rfl
  | k + 1, .str _, h => rfl
  | k + 1, .ty _, h => rfl
  | k + 1, .cls _, h => rfl
  | k + 1, .fn _, h => rfl
  | k + 1, .obj _ _ _, h => rfl
  | k + 1, .scr _, h => rfl
  | k + 1, .dK _ _, h => rfl
  | k + 1, .dT _ _, h => rfl
  | k + 1, .exn _ _ _, h => rfl
theorem drs_clean {μ : Mu} : ∀ (k : Nat) (xs : List D), cleans xs = true → xs.map (dr μ k) = xs
  | k, [], _ => rfl
  | k, x :: r, h => by
    have h' : DX.clean x = true ∧ cleans r = true := by simpa [cleans] using h
    rw [List.map_cons, dr_clean k x h'.1, drs_clean k r h'.2]
end
theorem der_cl {μ : Mu} {i : Nat} {xs : List D} (h : μ[i]? = some (.lst xs)) (hc : cleans xs = true) : der μ (.cell i) = .lst xs := by
  unfold der
  rw [if_neg (by simp [DX.plain])]
  unfold dr
  simp only [h]
  rw [drs_clean 7 xs hc]
theorem eqP_pair {a b c d : D} : eqP (.tup [a, b]) (.tup [c, d]) = (eqP a c && (eqP b d && true)) := rfl
theorem eqP_bD {p q : List Int × List Int} : eqP (bD p) (bD q) = decide (p = q) := by
  obtain ⟨a, b⟩ := p
  obtain ⟨c, d⟩ := q
  show eqP (.tup [.tup (iD a), .tup (iD b)]) (.tup [.tup (iD c), .tup (iD d)]) = _
  rw [eqP_pair, eqP_itup, eqP_itup, Bool.and_true]
  by_cases h1 : a = c <;> by_cases h2 : b = d <;> simp [h1, h2]
/-- bundles of a bounded width -/
def Rw (ps : List (List Int × List Int)) : Prop := ps.length ≤ 1000 ∧ ∀ p ∈ ps, p.1.length ≤ 1000 ∧ p.2.length ≤ 1000
theorem Rw.plain {n : Nat} {ps : List (List Int × List Int)} (h : Rw ps) : DX.plain (n + 3) (.lst (rowD ps)) = true :=
  plain_lst_of (by unfold rowD; rw [List.length_map]; have := h.1; omega) (plains_of fun x hx => by
    obtain ⟨p, hp, rfl⟩ := List.mem_map.mp hx
    have := h.2 p hp
    exact bD_plain (by omega) (by omega))
theorem Rw.of {w : Nat} {g : Int} {ps : List (List Int × List Int)} (hl : ps.length ≤ 1000) (hw : w ≤ 1000) (h : ∀ p ∈ ps, Bt w g p) : Rw ps := ⟨hl, fun p hp => by have := h p hp; exact ⟨by rw [this.1]; omega, by rw [this.2.1]; omega⟩⟩
theorem Rw.app {ps qs : List (List Int × List Int)} (h : Rw ps) (k : Rw qs) (hl : ps.length + qs.length ≤ 1000) : Rw (ps ++ qs) := ⟨by rw [List.length_append]; omega, fun p hp => (List.mem_append.mp hp).elim (h.2 p) (k.2 p)⟩
theorem any_bD {p : List Int × List Int} : ∀ ps : List (List Int × List Int), ((rowD ps).any fun z => eqP z (bD p)) = decide (p ∈ ps)
  | [] => by simp [rowD]
  | q :: r => by
    have ih := any_bD (p := p) r
    unfold rowD at ih ⊢
    rw [List.map_cons, List.any_cons, ih, eqP_bD]
    by_cases c : q = p
    · subst c; simp
    · have c' : p ≠ q := fun z => c z.symm
      simp [c, c']
theorem inC_row {f : Bool → Bool} {p : List Int × List Int} {ps : List (List Int × List Int)} {μ : Mu} (hp : p.1.length ≤ 1000 ∧ p.2.length ≤ 1000) (h : Rw ps) : inC f (bD p) (.lst (rowD ps)) μ = .ok (.bl (f (decide (p ∈ ps)))) μ := by
  show grd (DX.plain 60 (bD p) = true ∧ DX.plain 60 (.lst (rowD ps)) = true) (Res.ok (D.bl (f ((rowD ps).any fun z => eqP z (bD p)))) μ) = _
  rw [grd_pos ⟨bD_plain (n := 58) (by omega) (by omega), h.plain (n := 57)⟩, any_bD]
theorem notIn_row {p : List Int × List Int} {ps : List (List Int × List Int)} {μ : Mu} (hp : p.1.length ≤ 1000 ∧ p.2.length ≤ 1000) (h : Rw ps) : notInD (bD p) (.lst (rowD ps)) μ = .ok (.bl (!decide (p ∈ ps))) μ := by
  unfold notInD
  rw [der_plain (bD_plain (n := 58) (by omega) (by omega)), der_plain (h.plain (n := 57)), inC_row hp h]
theorem in_row {p : List Int × List Int} {ps : List (List Int × List Int)} {μ : Mu} (hp : p.1.length ≤ 1000 ∧ p.2.length ≤ 1000) (h : Rw ps) : inD (bD p) (.lst (rowD ps)) μ = .ok (.bl (decide (p ∈ ps))) μ := by
  unfold inD
  rw [der_plain (bD_plain (n := 58) (by omega) (by omega)), der_plain (h.plain (n := 57)), inC_row hp h]
  rfl
theorem notIn_cell {p : List Int × List Int} {ps : List (List Int × List Int)} {μ : Mu} {i : Nat} (hi : μ[i]? = some (.lst (rowD ps))) (hp : p.1.length ≤ 1000 ∧ p.2.length ≤ 1000) (h : Rw ps) : notInD (bD p) (.cell i) μ = .ok (.bl (!decide (p ∈ ps))) μ := by
  unfold notInD
  rw [der_plain (bD_plain (n := 58) (by omega) (by omega)), der_cl hi rowD_clean, inC_row hp h]
theorem eqvs_strs : ∀ ws vs : List (List Nat), PyData.eqvAll (toPs (wsD ws)) (toPs (wsD vs)) = decide (ws = vs)
  | [], [] => by simp [wsD, toPs, PyData.eqvAll]
  | [], v :: r => by simp [wsD, toPs, PyData.eqvAll]
  | w :: r, [] => by simp [wsD, toPs, PyData.eqvAll]
  | w :: r, v :: s => by
    have ih := eqvs_strs r s
    have e : PyData.eqvAll (toPs (wsD (w :: r))) (toPs (wsD (v :: s))) = (eqP (sD w) (sD v) && PyData.eqvAll (toPs (wsD r)) (toPs (wsD s))) := rfl
    rw [e, ih, sD_eqP]
    by_cases h1 : w = v <;> by_cases h2 : r = s <;> simp [h1, h2]
theorem eqP_ws {ws vs : List (List Nat)} : eqP (.lst (wsD ws)) (.lst (wsD vs)) = decide (ws = vs) := eqvs_strs ws vs
theorem neD_ws {ws vs : List (List Nat)} {μ : Mu} (h1 : ws.length ≤ 1000) (h2 : vs.length ≤ 1000) (k1 : ∀ w ∈ ws, Sg w) (k2 : ∀ w ∈ vs, Sg w) : neD (.lst (wsD ws)) (.lst (wsD vs)) μ = .ok (.bl (!decide (ws = vs))) μ := by
  rw [neD_plain (wsD_plain (n := 59) (by omega) k1) (wsD_plain (n := 59) (by omega) k2), eqP_ws]
end Lw

namespace Lw
open PySem L2 DX
theorem nodup_len {α : Type} [DecidableEq α] : ∀ (xs ys : List α), xs.Nodup → xs ⊆ ys → xs.length ≤ ys.length
  | [], ys, _, _ => Nat.zero_le _
  | x :: r, ys, h, s => by
    have hx : x ∈ ys := s List.mem_cons_self
    obtain ⟨h1, h2⟩ := List.nodup_cons.mp h
    have ih := nodup_len r (ys.erase x) h2 fun y hy => (List.mem_erase_of_ne (fun (e : y = x) => h1 (by rw [← e]; exact hy))).mpr (s (List.mem_cons_of_mem _ hy))
    rw [List.length_erase_of_mem hx] at ih
    have := List.length_pos_of_mem hx
    rw [List.length_cons]
    omega
/-! ### a strange name -/
def odd5 : List (List Nat) := [[112], [113], [114], [115], [116]]
theorem tg_rev {ws : List (List Nat)} (h : Tg ws) : Tg ws.reverse := ⟨by rw [List.length_reverse]; exact h.one, by rw [List.length_reverse]; exact h.four, fun w hw => h.nm w (List.mem_reverse.mp hw), List.pairwise_reverse.mpr (h.nd.imp fun z e => z e.symm)⟩
theorem tg_last {ws : List (List Nat)} {s : List Nat} (h : Tg ws) (hs : s ∉ ws) (hn : Nm s) : Tg (ws.dropLast ++ [s]) := by
  have sub : ∀ w ∈ ws.dropLast, w ∈ ws := fun w hw => (List.dropLast_sublist ws).subset hw
  have h1 := h.one
  have h4 := h.four
  refine ⟨by rw [List.length_append, List.length_dropLast]; simp only [List.length_cons, List.length_nil]; omega, by rw [List.length_append, List.length_dropLast]; simp only [List.length_cons, List.length_nil]; omega, fun w hw => ?_, ?_⟩
  · rcases List.mem_append.mp hw with z | z
    · exact h.nm w (sub w z)
    · rw [List.mem_singleton.mp z]; exact hn
  · rw [List.nodup_append]
    refine ⟨h.nd.sublist (List.dropLast_sublist ws), by simp, fun a ha b hb e => ?_⟩
    rw [List.mem_singleton.mp hb] at e
    exact hs (e ▸ sub a ha)
theorem cut_init {xs : List D} : cut xs none (some (-1)) = xs.dropLast := by
  unfold cut
  rw [HT.sIx_none, List.drop_zero, Nat.sub_zero]
  have e : HT.sIx xs.length xs.length (some (-1)) = xs.length - 1 := by
    unfold HT.sIx
    simp only
    rw [if_pos (by decide)]
    omega
  rw [e, List.dropLast_eq_take]
theorem frz_cell {μ : Mu} {n k : Nat} {xs : List D} (h : μ[n]? = some (.lst xs)) (hc : cleans xs = true) : frz 0 μ (k + 1) (.cell n) = some (.lst xs) := by
  unfold frz
  rw [if_neg (by simp [nn])]
  simp only [h]
  rw [mapM_some fun x hx => frz_clean (cleans_mem hc x hx)]
  rfl
theorem frz_lst {μ : Mu} {k : Nat} {xs ys : List D} (hn : nns 0 xs = false) (h : xs.mapM (frz 0 μ k) = some ys) : frz 0 μ (k + 1) (.lst xs) = some (.lst ys) := by
  unfold frz
  rw [if_neg (by simp [nn, hn])]
  simp only [h]
  rfl
theorem pure_true {μ : Mu} : pureR (.ok (.bl true) []) μ = .ok (.bl true) μ := grd_pos rfl
end Lw

namespace Lw
open PySem L2 DX
/-! ### tuples that may be no bundles and no barters -/
def FlatA (x : D) : Prop := (∃ i, x = .int i) ∨ (∃ b, x = .bl b) ∨ x = .non ∨ ∃ s, x = .str s ∧ PyData.strOk s = true
def goodA (x : D) : Bool := match x with
  | .int i => decide (0 ≤ i) && decide (i ≤ 9)
  | _ => false
theorem FlatA.plain {n : Nat} {x : D} (h : FlatA x) : DX.plain n x = true := by
  rcases h with ⟨i, rfl⟩ | ⟨b, rfl⟩ | rfl | ⟨s, rfl, h⟩
  · exact plain_int
  · exact plain_bl
  · exact plain_non
  · rw [plain_str]; exact h
/-- a part of what may be a barter -/
def Pt (p : D) : Prop := (∃ xs, p = .tup xs ∧ xs.length ≤ 1000 ∧ ∀ x ∈ xs, FlatA x) ∨ p = .non ∨ ∃ s, p = .str s ∧ PyData.strOk s = true
theorem Pt.plain {n : Nat} {p : D} (h : Pt p) : DX.plain (n + 1) p = true := by
  rcases h with ⟨xs, rfl, hl, h⟩ | rfl | ⟨s, rfl, h⟩
  · exact plain_tup_of (by omega) (plains_of fun x hx => (h x hx).plain)
  · exact plain_non
  · rw [plain_str]; exact h
def goodP (w : Nat) (p : D) : Bool := match p with
  | .tup xs => decide (xs.length = w) && xs.all goodA
  | _ => false
def goodC (w : Nat) (c : D) : Bool := match c with
  | .tup [p, q] => goodP w p && (goodP w q && !eqP p q)
  | _ => false
def Cd (c : D) : Prop := ∃ ps, c = .tup ps ∧ ps.length ≤ 10 ∧ ∀ p ∈ ps, Pt p
theorem Cd.plain {n : Nat} {c : D} (h : Cd c) : DX.plain (n + 2) c = true := by
  obtain ⟨ps, rfl, hl, h⟩ := h
  exact plain_tup_of (by omega) (plains_of fun x hx => (h x hx).plain)
theorem Cd.clean {c : D} (h : Cd c) : DX.clean c = true := plain_clean 2 _ (h.plain (n := 0))
theorem pt_ints {xs : List Int} (h : xs.length ≤ 1000) : Pt (.tup (iD xs)) := .inl ⟨_, rfl, by rw [ints_len]; exact h, fun x hx => by
  obtain ⟨n, _, rfl⟩ := ints_mem hx
  exact .inl ⟨n, rfl⟩⟩
theorem cd_bD {p : List Int × List Int} (h1 : p.1.length ≤ 1000) (h2 : p.2.length ≤ 1000) : Cd (bD p) := ⟨_, rfl, by simp, fun x hx => by
  rcases List.mem_cons.mp hx with rfl | hx
  · exact pt_ints h1
  · rw [List.mem_singleton.mp hx]; exact pt_ints h2⟩
theorem is_count_any {x : D} {μ : Mu} (h : FlatA x) : f_is_count [x, .int 9] μ = .ok (.bl (goodA x)) μ := by
  rcases h with ⟨i, rfl⟩ | ⟨b, rfl⟩ | rfl | ⟨s, rfl, h⟩
  · exact is_count_ok
  all_goals
    refine (defR_ok rfl : _ = fz μ (SR.run (T_is_count [_, _] μ))).trans ?_
    simp only [dSeq, dIf, dB, dAnd, dOr, dNot, dAsg, dOp, dVar, dC, dCB, dCons, dNil, dName, dRet, dRetN, dDrop, dNext, dIfE, dAndV, dOrV, dNotV, dUn, dSl, dNoPart, dPart, dPar, dPar3, dTup, dLst, dGTup, dGCons, dGNil, dChain, dIsN, dNotN, isN, dCont, dBreak, dGSub, dSeqI, items_lst, items_tup, dZip2, dZip3, dEnum, still_lst, still_tup, dFor, dFld, dLenOf, dM1, look_0, look_s, bind_ok, to_ok, then_nx, then_rt, then_ct, then_bk, turn_nx, turn_ct, turn_rt, turn_bk, run_rt, run_nx, onB_bl, okO_some, noX_ok, addD_int, subD_int, ltD_int, cmpD_int, fLe, fGe, fGt, intD_int, if_true, if_false, Bool.false_eq_true, Bool.not_true, Bool.not_false, List.set_cons_succ, List.set_cons_zero, ixD_lst, ixD_tup, lenD_lst, lenD_tup, List.length_cons, List.length_nil, isi_int_int, isi_int_bool, isi_int_str, isi_int_tuple, isi_int_list, isi_bl_int, isi_bl_bool, isi_bl_str, isi_bl_tuple, isi_bl_list, isi_str_int, isi_str_bool, isi_str_str, isi_str_tuple, isi_str_list, isi_tup_int, isi_tup_bool, isi_tup_str, isi_tup_tuple, isi_tup_list, isi_lst_int, isi_lst_bool, isi_lst_str, isi_lst_tuple, isi_lst_list, isi_non_int, isi_non_bool, isi_non_str, isi_non_tuple, isi_non_list, wipeD, dNever, chk_c, decide_true, decide_false, T_is_count, goodA]
    exact fz_same (Nat.le_refl _)
theorem is_bundle_any {xs : List D} {w : Nat} {μ : Mu} (hl : xs.length ≤ 1000) (h : ∀ x ∈ xs, FlatA x) : f_is_bundle [.tup xs, .int w, .int 9] μ = .ok (.bl (goodP w (.tup xs))) μ := by
  have e0 : f_is_bundle [.tup xs, .int w, .int 9] μ = fz μ (SR.run (T_is_bundle [some (.tup xs), some (.int w), some (.int 9), none] μ)) := defR_ok rfl
  rw [e0]
  have el : L1_is_bundle [some (.tup xs), some (.int w), some (.int 9), none] μ = .ok (.lst (xs.map fun x => D.bl (goodA x))) μ :=
    lc_seq (i := 3) (Te := Q1_is_bundle) (η := [some (.tup xs), some (.int w), some (.int 9), none]) (μ := μ) (S := dVar 0) (d := .tup xs) (xs := xs) (fun x => D.bl (goodA x)) rfl rfl (by omega) fun x hx => by
      simp only [dSeq, dIf, dB, dAnd, dOr, dNot, dAsg, dOp, dVar, dC, dCB, dCons, dNil, dName, dRet, dRetN, dDrop, dNext, dIfE, dAndV, dOrV, dNotV, dUn, dSl, dNoPart, dPart, dPar, dPar3, dTup, dLst, dGTup, dGCons, dGNil, dChain, dIsN, dNotN, isN, dCont, dBreak, dGSub, dSeqI, items_lst, items_tup, dZip2, dZip3, dEnum, still_lst, still_tup, dFor, dFld, dLenOf, dM1, look_0, look_s, bind_ok, to_ok, then_nx, then_rt, then_ct, then_bk, turn_nx, turn_ct, turn_rt, turn_bk, run_rt, run_nx, onB_bl, okO_some, noX_ok, addD_int, subD_int, ltD_int, cmpD_int, fLe, fGe, fGt, intD_int, if_true, if_false, Bool.false_eq_true, Bool.not_true, Bool.not_false, List.set_cons_succ, List.set_cons_zero, ixD_lst, ixD_tup, lenD_lst, lenD_tup, List.length_cons, List.length_nil, isi_int_int, isi_int_bool, isi_int_str, isi_int_tuple, isi_int_list, isi_bl_int, isi_bl_bool, isi_bl_str, isi_bl_tuple, isi_bl_list, isi_str_int, isi_str_bool, isi_str_str, isi_str_tuple, isi_str_list, isi_tup_int, isi_tup_bool, isi_tup_str, isi_tup_tuple, isi_tup_list, isi_lst_int, isi_lst_bool, isi_lst_str, isi_lst_tuple, isi_lst_list, isi_non_int, isi_non_bool, isi_non_str, isi_non_tuple, isi_non_list, wipeD, dNever, chk_c, decide_true, decide_false, Q1_is_bundle, is_count_any (h x hx)]
  unfold goodP
  by_cases c : xs.length = w
  · have cb : ((xs.length : Int) == (w : Int)) = true := by rw [c]; exact beq_self_eq_true _
    simp only [dSeq, dIf, dB, dAnd, dOr, dNot, dAsg, dOp, dVar, dC, dCB, dCons, dNil, dName, dRet, dRetN, dDrop, dNext, dIfE, dAndV, dOrV, dNotV, dUn, dSl, dNoPart, dPart, dPar, dPar3, dTup, dLst, dGTup, dGCons, dGNil, dChain, dIsN, dNotN, isN, dCont, dBreak, dGSub, dSeqI, items_lst, items_tup, dZip2, dZip3, dEnum, still_lst, still_tup, dFor, dFld, dLenOf, dM1, look_0, look_s, bind_ok, to_ok, then_nx, then_rt, then_ct, then_bk, turn_nx, turn_ct, turn_rt, turn_bk, run_rt, run_nx, onB_bl, okO_some, noX_ok, addD_int, subD_int, ltD_int, cmpD_int, fLe, fGe, fGt, intD_int, if_true, if_false, Bool.false_eq_true, Bool.not_true, Bool.not_false, List.set_cons_succ, List.set_cons_zero, ixD_lst, ixD_tup, lenD_lst, lenD_tup, List.length_cons, List.length_nil, isi_int_int, isi_int_bool, isi_int_str, isi_int_tuple, isi_int_list, isi_bl_int, isi_bl_bool, isi_bl_str, isi_bl_tuple, isi_bl_list, isi_str_int, isi_str_bool, isi_str_str, isi_str_tuple, isi_str_list, isi_tup_int, isi_tup_bool, isi_tup_str, isi_tup_tuple, isi_tup_list, isi_lst_int, isi_lst_bool, isi_lst_str, isi_lst_tuple, isi_lst_list, isi_non_int, isi_non_bool, isi_non_str, isi_non_tuple, isi_non_list, wipeD, dNever, chk_c, decide_true, decide_false, T_is_bundle, eqD_int, cb, el, allD, asL, bls_map, all_map, decide_eq_true c, Bool.true_and]
    exact fz_same (Nat.le_refl _)
  · have cb : ((xs.length : Int) == (w : Int)) = false := beq_eq_false_iff_ne.mpr (by omega)
    simp only [dSeq, dIf, dB, dAnd, dOr, dNot, dAsg, dOp, dVar, dC, dCB, dCons, dNil, dName, dRet, dRetN, dDrop, dNext, dIfE, dAndV, dOrV, dNotV, dUn, dSl, dNoPart, dPart, dPar, dPar3, dTup, dLst, dGTup, dGCons, dGNil, dChain, dIsN, dNotN, isN, dCont, dBreak, dGSub, dSeqI, items_lst, items_tup, dZip2, dZip3, dEnum, still_lst, still_tup, dFor, dFld, dLenOf, dM1, look_0, look_s, bind_ok, to_ok, then_nx, then_rt, then_ct, then_bk, turn_nx, turn_ct, turn_rt, turn_bk, run_rt, run_nx, onB_bl, okO_some, noX_ok, addD_int, subD_int, ltD_int, cmpD_int, fLe, fGe, fGt, intD_int, if_true, if_false, Bool.false_eq_true, Bool.not_true, Bool.not_false, List.set_cons_succ, List.set_cons_zero, ixD_lst, ixD_tup, lenD_lst, lenD_tup, List.length_cons, List.length_nil, isi_int_int, isi_int_bool, isi_int_str, isi_int_tuple, isi_int_list, isi_bl_int, isi_bl_bool, isi_bl_str, isi_bl_tuple, isi_bl_list, isi_str_int, isi_str_bool, isi_str_str, isi_str_tuple, isi_str_list, isi_tup_int, isi_tup_bool, isi_tup_str, isi_tup_tuple, isi_tup_list, isi_lst_int, isi_lst_bool, isi_lst_str, isi_lst_tuple, isi_lst_list, isi_non_int, isi_non_bool, isi_non_str, isi_non_tuple, isi_non_list, wipeD, dNever, chk_c, decide_true, decide_false, T_is_bundle, eqD_int, cb, decide_eq_false c, Bool.false_and]
    exact fz_same (Nat.le_refl _)
theorem law_is_bundle_any {p : D} {w : Nat} {μ : Mu} (h : Pt p) : f_law_is_bundle [p, .int w, .int 9] μ = .ok (.bl (goodP w p)) μ := by
  have e0 : f_law_is_bundle [p, .int w, .int 9] μ = fz μ (SR.run (T_law_is_bundle [some p, some (.int w), some (.int 9), none] μ)) := defR_ok rfl
  rw [e0]
  rcases h with ⟨xs, rfl, hl, h⟩ | rfl | ⟨s, rfl, h⟩
  · have el : L1_law_is_bundle [some (.tup xs), some (.int w), some (.int 9), none] μ = .ok (.lst (xs.map fun x => D.bl (goodA x))) μ :=
      lc_seq (i := 3) (Te := Q1_law_is_bundle) (η := [some (.tup xs), some (.int w), some (.int 9), none]) (μ := μ) (S := dVar 0) (d := .tup xs) (xs := xs) (fun x => D.bl (goodA x)) rfl rfl (by omega) fun x hx => by
        rcases h x hx with ⟨i, rfl⟩ | ⟨b, rfl⟩ | rfl | ⟨s, rfl, _⟩
        · by_cases c : 0 ≤ i
          · simp only [dSeq, dIf, dB, dAnd, dOr, dNot, dAsg, dOp, dVar, dC, dCB, dCons, dNil, dName, dRet, dRetN, dDrop, dNext, dIfE, dAndV, dOrV, dNotV, dUn, dSl, dNoPart, dPart, dPar, dPar3, dTup, dLst, dGTup, dGCons, dGNil, dChain, dIsN, dNotN, isN, dCont, dBreak, dGSub, dSeqI, items_lst, items_tup, dZip2, dZip3, dEnum, still_lst, still_tup, dFor, dFld, dLenOf, dM1, look_0, look_s, bind_ok, to_ok, then_nx, then_rt, then_ct, then_bk, turn_nx, turn_ct, turn_rt, turn_bk, run_rt, run_nx, onB_bl, okO_some, noX_ok, addD_int, subD_int, ltD_int, cmpD_int, fLe, fGe, fGt, intD_int, if_true, if_false, Bool.false_eq_true, Bool.not_true, Bool.not_false, List.set_cons_succ, List.set_cons_zero, ixD_lst, ixD_tup, lenD_lst, lenD_tup, List.length_cons, List.length_nil, isi_int_int, isi_int_bool, isi_int_str, isi_int_tuple, isi_int_list, isi_bl_int, isi_bl_bool, isi_bl_str, isi_bl_tuple, isi_bl_list, isi_str_int, isi_str_bool, isi_str_str, isi_str_tuple, isi_str_list, isi_tup_int, isi_tup_bool, isi_tup_str, isi_tup_tuple, isi_tup_list, isi_lst_int, isi_lst_bool, isi_lst_str, isi_lst_tuple, isi_lst_list, isi_non_int, isi_non_bool, isi_non_str, isi_non_tuple, isi_non_list, wipeD, dNever, chk_c, decide_true, decide_false, Q1_law_is_bundle, goodA, decide_eq_true c, Bool.true_and]
          · simp only [dSeq, dIf, dB, dAnd, dOr, dNot, dAsg, dOp, dVar, dC, dCB, dCons, dNil, dName, dRet, dRetN, dDrop, dNext, dIfE, dAndV, dOrV, dNotV, dUn, dSl, dNoPart, dPart, dPar, dPar3, dTup, dLst, dGTup, dGCons, dGNil, dChain, dIsN, dNotN, isN, dCont, dBreak, dGSub, dSeqI, items_lst, items_tup, dZip2, dZip3, dEnum, still_lst, still_tup, dFor, dFld, dLenOf, dM1, look_0, look_s, bind_ok, to_ok, then_nx, then_rt, then_ct, then_bk, turn_nx, turn_ct, turn_rt, turn_bk, run_rt, run_nx, onB_bl, okO_some, noX_ok, addD_int, subD_int, ltD_int, cmpD_int, fLe, fGe, fGt, intD_int, if_true, if_false, Bool.false_eq_true, Bool.not_true, Bool.not_false, List.set_cons_succ, List.set_cons_zero, ixD_lst, ixD_tup, lenD_lst, lenD_tup, List.length_cons, List.length_nil, isi_int_int, isi_int_bool, isi_int_str, isi_int_tuple, isi_int_list, isi_bl_int, isi_bl_bool, isi_bl_str, isi_bl_tuple, isi_bl_list, isi_str_int, isi_str_bool, isi_str_str, isi_str_tuple, isi_str_list, isi_tup_int, isi_tup_bool, isi_tup_str, isi_tup_tuple, isi_tup_list, isi_lst_int, isi_lst_bool, isi_lst_str, isi_lst_tuple, isi_lst_list, isi_non_int, isi_non_bool, isi_non_str, isi_non_tuple, isi_non_list, wipeD, dNever, chk_c, decide_true, decide_false, Q1_law_is_bundle, goodA, decide_eq_false c, Bool.false_and]
        all_goals simp only [dSeq, dIf, dB, dAnd, dOr, dNot, dAsg, dOp, dVar, dC, dCB, dCons, dNil, dName, dRet, dRetN, dDrop, dNext, dIfE, dAndV, dOrV, dNotV, dUn, dSl, dNoPart, dPart, dPar, dPar3, dTup, dLst, dGTup, dGCons, dGNil, dChain, dIsN, dNotN, isN, dCont, dBreak, dGSub, dSeqI, items_lst, items_tup, dZip2, dZip3, dEnum, still_lst, still_tup, dFor, dFld, dLenOf, dM1, look_0, look_s, bind_ok, to_ok, then_nx, then_rt, then_ct, then_bk, turn_nx, turn_ct, turn_rt, turn_bk, run_rt, run_nx, onB_bl, okO_some, noX_ok, addD_int, subD_int, ltD_int, cmpD_int, fLe, fGe, fGt, intD_int, if_true, if_false, Bool.false_eq_true, Bool.not_true, Bool.not_false, List.set_cons_succ, List.set_cons_zero, ixD_lst, ixD_tup, lenD_lst, lenD_tup, List.length_cons, List.length_nil, isi_int_int, isi_int_bool, isi_int_str, isi_int_tuple, isi_int_list, isi_bl_int, isi_bl_bool, isi_bl_str, isi_bl_tuple, isi_bl_list, isi_str_int, isi_str_bool, isi_str_str, isi_str_tuple, isi_str_list, isi_tup_int, isi_tup_bool, isi_tup_str, isi_tup_tuple, isi_tup_list, isi_lst_int, isi_lst_bool, isi_lst_str, isi_lst_tuple, isi_lst_list, isi_non_int, isi_non_bool, isi_non_str, isi_non_tuple, isi_non_list, wipeD, dNever, chk_c, decide_true, decide_false, Q1_law_is_bundle, goodA]
    unfold goodP
    by_cases c : xs.length = w
    · have cb : ((xs.length : Int) == (w : Int)) = true := by rw [c]; exact beq_self_eq_true _
      simp only [dSeq, dIf, dB, dAnd, dOr, dNot, dAsg, dOp, dVar, dC, dCB, dCons, dNil, dName, dRet, dRetN, dDrop, dNext, dIfE, dAndV, dOrV, dNotV, dUn, dSl, dNoPart, dPart, dPar, dPar3, dTup, dLst, dGTup, dGCons, dGNil, dChain, dIsN, dNotN, isN, dCont, dBreak, dGSub, dSeqI, items_lst, items_tup, dZip2, dZip3, dEnum, still_lst, still_tup, dFor, dFld, dLenOf, dM1, look_0, look_s, bind_ok, to_ok, then_nx, then_rt, then_ct, then_bk, turn_nx, turn_ct, turn_rt, turn_bk, run_rt, run_nx, onB_bl, okO_some, noX_ok, addD_int, subD_int, ltD_int, cmpD_int, fLe, fGe, fGt, intD_int, if_true, if_false, Bool.false_eq_true, Bool.not_true, Bool.not_false, List.set_cons_succ, List.set_cons_zero, ixD_lst, ixD_tup, lenD_lst, lenD_tup, List.length_cons, List.length_nil, isi_int_int, isi_int_bool, isi_int_str, isi_int_tuple, isi_int_list, isi_bl_int, isi_bl_bool, isi_bl_str, isi_bl_tuple, isi_bl_list, isi_str_int, isi_str_bool, isi_str_str, isi_str_tuple, isi_str_list, isi_tup_int, isi_tup_bool, isi_tup_str, isi_tup_tuple, isi_tup_list, isi_lst_int, isi_lst_bool, isi_lst_str, isi_lst_tuple, isi_lst_list, isi_non_int, isi_non_bool, isi_non_str, isi_non_tuple, isi_non_list, wipeD, dNever, chk_c, decide_true, decide_false, T_law_is_bundle, neD_int, cb, el, allD, asL, bls_map, all_map, decide_eq_true c, Bool.true_and]
      exact fz_same (Nat.le_refl _)
    · have cb : ((xs.length : Int) == (w : Int)) = false := beq_eq_false_iff_ne.mpr (by omega)
      simp only [dSeq, dIf, dB, dAnd, dOr, dNot, dAsg, dOp, dVar, dC, dCB, dCons, dNil, dName, dRet, dRetN, dDrop, dNext, dIfE, dAndV, dOrV, dNotV, dUn, dSl, dNoPart, dPart, dPar, dPar3, dTup, dLst, dGTup, dGCons, dGNil, dChain, dIsN, dNotN, isN, dCont, dBreak, dGSub, dSeqI, items_lst, items_tup, dZip2, dZip3, dEnum, still_lst, still_tup, dFor, dFld, dLenOf, dM1, look_0, look_s, bind_ok, to_ok, then_nx, then_rt, then_ct, then_bk, turn_nx, turn_ct, turn_rt, turn_bk, run_rt, run_nx, onB_bl, okO_some, noX_ok, addD_int, subD_int, ltD_int, cmpD_int, fLe, fGe, fGt, intD_int, if_true, if_false, Bool.false_eq_true, Bool.not_true, Bool.not_false, List.set_cons_succ, List.set_cons_zero, ixD_lst, ixD_tup, lenD_lst, lenD_tup, List.length_cons, List.length_nil, isi_int_int, isi_int_bool, isi_int_str, isi_int_tuple, isi_int_list, isi_bl_int, isi_bl_bool, isi_bl_str, isi_bl_tuple, isi_bl_list, isi_str_int, isi_str_bool, isi_str_str, isi_str_tuple, isi_str_list, isi_tup_int, isi_tup_bool, isi_tup_str, isi_tup_tuple, isi_tup_list, isi_lst_int, isi_lst_bool, isi_lst_str, isi_lst_tuple, isi_lst_list, isi_non_int, isi_non_bool, isi_non_str, isi_non_tuple, isi_non_list, wipeD, dNever, chk_c, decide_true, decide_false, T_law_is_bundle, neD_int, cb, decide_eq_false c, Bool.false_and]
      exact fz_same (Nat.le_refl _)
  · simp only [dSeq, dIf, dB, dAnd, dOr, dNot, dAsg, dOp, dVar, dC, dCB, dCons, dNil, dName, dRet, dRetN, dDrop, dNext, dIfE, dAndV, dOrV, dNotV, dUn, dSl, dNoPart, dPart, dPar, dPar3, dTup, dLst, dGTup, dGCons, dGNil, dChain, dIsN, dNotN, isN, dCont, dBreak, dGSub, dSeqI, items_lst, items_tup, dZip2, dZip3, dEnum, still_lst, still_tup, dFor, dFld, dLenOf, dM1, look_0, look_s, bind_ok, to_ok, then_nx, then_rt, then_ct, then_bk, turn_nx, turn_ct, turn_rt, turn_bk, run_rt, run_nx, onB_bl, okO_some, noX_ok, addD_int, subD_int, ltD_int, cmpD_int, fLe, fGe, fGt, intD_int, if_true, if_false, Bool.false_eq_true, Bool.not_true, Bool.not_false, List.set_cons_succ, List.set_cons_zero, ixD_lst, ixD_tup, lenD_lst, lenD_tup, List.length_cons, List.length_nil, isi_int_int, isi_int_bool, isi_int_str, isi_int_tuple, isi_int_list, isi_bl_int, isi_bl_bool, isi_bl_str, isi_bl_tuple, isi_bl_list, isi_str_int, isi_str_bool, isi_str_str, isi_str_tuple, isi_str_list, isi_tup_int, isi_tup_bool, isi_tup_str, isi_tup_tuple, isi_tup_list, isi_lst_int, isi_lst_bool, isi_lst_str, isi_lst_tuple, isi_lst_list, isi_non_int, isi_non_bool, isi_non_str, isi_non_tuple, isi_non_list, wipeD, dNever, chk_c, decide_true, decide_false, T_law_is_bundle, goodP]
    exact fz_same (Nat.le_refl _)
  · simp only [dSeq, dIf, dB, dAnd, dOr, dNot, dAsg, dOp, dVar, dC, dCB, dCons, dNil, dName, dRet, dRetN, dDrop, dNext, dIfE, dAndV, dOrV, dNotV, dUn, dSl, dNoPart, dPart, dPar, dPar3, dTup, dLst, dGTup, dGCons, dGNil, dChain, dIsN, dNotN, isN, dCont, dBreak, dGSub, dSeqI, items_lst, items_tup, dZip2, dZip3, dEnum, still_lst, still_tup, dFor, dFld, dLenOf, dM1, look_0, look_s, bind_ok, to_ok, then_nx, then_rt, then_ct, then_bk, turn_nx, turn_ct, turn_rt, turn_bk, run_rt, run_nx, onB_bl, okO_some, noX_ok, addD_int, subD_int, ltD_int, cmpD_int, fLe, fGe, fGt, intD_int, if_true, if_false, Bool.false_eq_true, Bool.not_true, Bool.not_false, List.set_cons_succ, List.set_cons_zero, ixD_lst, ixD_tup, lenD_lst, lenD_tup, List.length_cons, List.length_nil, isi_int_int, isi_int_bool, isi_int_str, isi_int_tuple, isi_int_list, isi_bl_int, isi_bl_bool, isi_bl_str, isi_bl_tuple, isi_bl_list, isi_str_int, isi_str_bool, isi_str_str, isi_str_tuple, isi_str_list, isi_tup_int, isi_tup_bool, isi_tup_str, isi_tup_tuple, isi_tup_list, isi_lst_int, isi_lst_bool, isi_lst_str, isi_lst_tuple, isi_lst_list, isi_non_int, isi_non_bool, isi_non_str, isi_non_tuple, isi_non_list, wipeD, dNever, chk_c, decide_true, decide_false, T_law_is_bundle, goodP]
    exact fz_same (Nat.le_refl _)
end Lw

namespace Lw
open PySem L2 DX
def tupB (p : D) : Bool := match p with
  | .tup _ => true
  | _ => false
theorem Pt.tup {p : D} (h : Pt p) (k : tupB p = true) : ∃ xs, p = .tup xs ∧ xs.length ≤ 1000 ∧ ∀ x ∈ xs, FlatA x := by
  rcases h with h | rfl | ⟨s, rfl, _⟩
  · exact h
  · cases k
  · cases k
theorem goodP_tup {w : Nat} {p : D} (h : goodP w p = true) : tupB p = true := by
  cases p <;> first | rfl | cases h
theorem goodC_ne {w : Nat} : ∀ {ps : List D}, ps.length ≠ 2 → goodC w (.tup ps) = false
  | [], _ => rfl
  | [_], _ => rfl
  | [_, _], h => absurd rfl h
  | _ :: _ :: _ :: _, _ => rfl
theorem two_of {ps : List D} (h : ps.length = 2) : ∃ p q, ps = [p, q] := by
  match ps, h with
  | [p, q], _ => exact ⟨p, q, rfl⟩
theorem neD_pts {p q : D} {μ : Mu} (hp : Pt p) (hq : Pt q) : neD p q μ = .ok (.bl (!eqP p q)) μ := neD_plain (hp.plain (n := 59)) (hq.plain (n := 59))
theorem is_barter_any {ps : List D} {w : Nat} {μ : Mu} (hl : ps.length ≤ 10) (h : ∀ p ∈ ps, Pt p) : f_is_barter [.tup ps, .int w] μ = .ok (.bl (goodC w (.tup ps))) μ := by
  have e0 : f_is_barter [.tup ps, .int w] μ = fz μ (SR.run (T_is_barter [some (.tup ps), some (.int w), none] μ)) := defR_ok rfl
  rw [e0]
  by_cases c : ps.length = 2
  · obtain ⟨p, q, rfl⟩ := two_of c
    have hp := h p List.mem_cons_self
    have hq := h q (List.mem_cons_of_mem _ List.mem_cons_self)
    have el : L1_is_barter [some (.tup [p, q]), some (.int w), none] μ = .ok (.lst [.bl (tupB p), .bl (tupB q)]) μ := lc_seq (i := 2) (Te := Q1_is_barter) (S := dVar 0) (d := .tup [p, q]) (xs := [p, q]) (fun x => D.bl (tupB x)) rfl rfl (show (2 : Nat) ≤ 16777216 by decide) fun x hx => by
      rcases h x hx with ⟨z, rfl, _⟩ | rfl | ⟨s, rfl, _⟩ <;> simp only [dSeq, dIf, dB, dAnd, dOr, dNot, dAsg, dOp, dVar, dC, dCB, dCons, dNil, dName, dRet, dRetN, dDrop, dNext, dIfE, dAndV, dOrV, dNotV, dUn, dSl, dNoPart, dPart, dPar, dPar3, dTup, dLst, dGTup, dGCons, dGNil, dChain, dIsN, dNotN, isN, dCont, dBreak, dGSub, dSeqI, items_lst, items_tup, dZip2, dZip3, dEnum, still_lst, still_tup, dFor, dFld, dLenOf, dM1, look_0, look_s, bind_ok, to_ok, then_nx, then_rt, then_ct, then_bk, turn_nx, turn_ct, turn_rt, turn_bk, run_rt, run_nx, onB_bl, okO_some, noX_ok, addD_int, subD_int, ltD_int, cmpD_int, fLe, fGe, fGt, intD_int, if_true, if_false, Bool.false_eq_true, Bool.not_true, Bool.not_false, List.set_cons_succ, List.set_cons_zero, ixD_lst, ixD_tup, lenD_lst, lenD_tup, List.length_cons, List.length_nil, isi_int_int, isi_int_bool, isi_int_str, isi_int_tuple, isi_int_list, isi_bl_int, isi_bl_bool, isi_bl_str, isi_bl_tuple, isi_bl_list, isi_str_int, isi_str_bool, isi_str_str, isi_str_tuple, isi_str_list, isi_tup_int, isi_tup_bool, isi_tup_str, isi_tup_tuple, isi_tup_list, isi_lst_int, isi_lst_bool, isi_lst_str, isi_lst_tuple, isi_lst_list, isi_non_int, isi_non_bool, isi_non_str, isi_non_tuple, isi_non_list, wipeD, dNever, chk_c, decide_true, decide_false, Q1_is_barter, tupB]
    have lb : lenD [.tup [p, q]] μ = .ok (.int 2) μ := rfl
    have a0 : atI [p, q] 0 = some p := rfl
    have a1 : atI [p, q] 1 = some q := rfl
    have n2 : neD (.int 2) (.int 2) μ = .ok (.bl false) μ := by rw [neD_int]; rfl
    have bt : ∀ a b : Bool, blsOf [D.bl a, D.bl b] = some [a, b] := fun a b => rfl
    have ba : ∀ a b : Bool, [a, b].all id = (a && b) := fun a b => by cases a <;> cases b <;> rfl
    cases c1 : (tupB p && tupB q) with
    | false =>
      have g : goodC w (.tup [p, q]) = false := by
        show (goodP w p && (goodP w q && !eqP p q)) = false
        cases d1 : goodP w p with
        | false => rfl
        | true =>
          cases d2 : goodP w q with
          | false => rfl
          | true => rw [goodP_tup d1, goodP_tup d2] at c1; cases c1
      rw [g]
      simp only [dSeq, dIf, dB, dAnd, dOr, dNot, dAsg, dOp, dVar, dC, dCB, dCons, dNil, dName, dRet, dRetN, dDrop, dNext, dIfE, dAndV, dOrV, dNotV, dUn, dSl, dNoPart, dPart, dPar, dPar3, dTup, dLst, dGTup, dGCons, dGNil, dChain, dIsN, dNotN, isN, dCont, dBreak, dGSub, dSeqI, items_lst, items_tup, dZip2, dZip3, dEnum, still_lst, still_tup, dFor, dFld, dLenOf, dM1, look_0, look_s, bind_ok, to_ok, then_nx, then_rt, then_ct, then_bk, turn_nx, turn_ct, turn_rt, turn_bk, run_rt, run_nx, onB_bl, okO_some, noX_ok, addD_int, subD_int, ltD_int, cmpD_int, fLe, fGe, fGt, intD_int, if_true, if_false, Bool.false_eq_true, Bool.not_true, Bool.not_false, List.set_cons_succ, List.set_cons_zero, ixD_lst, ixD_tup, lenD_lst, lenD_tup, List.length_cons, List.length_nil, isi_int_int, isi_int_bool, isi_int_str, isi_int_tuple, isi_int_list, isi_bl_int, isi_bl_bool, isi_bl_str, isi_bl_tuple, isi_bl_list, isi_str_int, isi_str_bool, isi_str_str, isi_str_tuple, isi_str_list, isi_tup_int, isi_tup_bool, isi_tup_str, isi_tup_tuple, isi_tup_list, isi_lst_int, isi_lst_bool, isi_lst_str, isi_lst_tuple, isi_lst_list, isi_non_int, isi_non_bool, isi_non_str, isi_non_tuple, isi_non_list, wipeD, dNever, chk_c, decide_true, decide_false, T_is_barter, lb, n2, el, allD, asL, bt, ba, c1]
      exact fz_same (Nat.le_refl _)
    | true =>
      have t1 : tupB p = true := (Bool.and_eq_true_iff.mp c1).1
      have t2 : tupB q = true := (Bool.and_eq_true_iff.mp c1).2
      obtain ⟨xs, rfl, xl, xh⟩ := hp.tup t1
      obtain ⟨ys, rfl, yl, yh⟩ := hq.tup t2
      have e2 : L2_is_barter [some (.tup [.tup xs, .tup ys]), some (.int w), none] μ = .ok (.lst [.bl (goodP w (.tup xs)), .bl (goodP w (.tup ys))]) μ := lc_seq (i := 2) (Te := Q2_is_barter) (S := dVar 0) (d := .tup [.tup xs, .tup ys]) (xs := [.tup xs, .tup ys]) (fun x => D.bl (goodP w x)) rfl rfl (show (2 : Nat) ≤ 16777216 by decide) fun x hx => by
        rcases List.mem_cons.mp hx with rfl | hx
        · simp only [dSeq, dIf, dB, dAnd, dOr, dNot, dAsg, dOp, dVar, dC, dCB, dCons, dNil, dName, dRet, dRetN, dDrop, dNext, dIfE, dAndV, dOrV, dNotV, dUn, dSl, dNoPart, dPart, dPar, dPar3, dTup, dLst, dGTup, dGCons, dGNil, dChain, dIsN, dNotN, isN, dCont, dBreak, dGSub, dSeqI, items_lst, items_tup, dZip2, dZip3, dEnum, still_lst, still_tup, dFor, dFld, dLenOf, dM1, look_0, look_s, bind_ok, to_ok, then_nx, then_rt, then_ct, then_bk, turn_nx, turn_ct, turn_rt, turn_bk, run_rt, run_nx, onB_bl, okO_some, noX_ok, addD_int, subD_int, ltD_int, cmpD_int, fLe, fGe, fGt, intD_int, if_true, if_false, Bool.false_eq_true, Bool.not_true, Bool.not_false, List.set_cons_succ, List.set_cons_zero, ixD_lst, ixD_tup, lenD_lst, lenD_tup, List.length_cons, List.length_nil, isi_int_int, isi_int_bool, isi_int_str, isi_int_tuple, isi_int_list, isi_bl_int, isi_bl_bool, isi_bl_str, isi_bl_tuple, isi_bl_list, isi_str_int, isi_str_bool, isi_str_str, isi_str_tuple, isi_str_list, isi_tup_int, isi_tup_bool, isi_tup_str, isi_tup_tuple, isi_tup_list, isi_lst_int, isi_lst_bool, isi_lst_str, isi_lst_tuple, isi_lst_list, isi_non_int, isi_non_bool, isi_non_str, isi_non_tuple, isi_non_list, wipeD, dNever, chk_c, decide_true, decide_false, Q2_is_barter, is_bundle_any xl xh]
        · rw [List.mem_singleton.mp hx]
          simp only [dSeq, dIf, dB, dAnd, dOr, dNot, dAsg, dOp, dVar, dC, dCB, dCons, dNil, dName, dRet, dRetN, dDrop, dNext, dIfE, dAndV, dOrV, dNotV, dUn, dSl, dNoPart, dPart, dPar, dPar3, dTup, dLst, dGTup, dGCons, dGNil, dChain, dIsN, dNotN, isN, dCont, dBreak, dGSub, dSeqI, items_lst, items_tup, dZip2, dZip3, dEnum, still_lst, still_tup, dFor, dFld, dLenOf, dM1, look_0, look_s, bind_ok, to_ok, then_nx, then_rt, then_ct, then_bk, turn_nx, turn_ct, turn_rt, turn_bk, run_rt, run_nx, onB_bl, okO_some, noX_ok, addD_int, subD_int, ltD_int, cmpD_int, fLe, fGe, fGt, intD_int, if_true, if_false, Bool.false_eq_true, Bool.not_true, Bool.not_false, List.set_cons_succ, List.set_cons_zero, ixD_lst, ixD_tup, lenD_lst, lenD_tup, List.length_cons, List.length_nil, isi_int_int, isi_int_bool, isi_int_str, isi_int_tuple, isi_int_list, isi_bl_int, isi_bl_bool, isi_bl_str, isi_bl_tuple, isi_bl_list, isi_str_int, isi_str_bool, isi_str_str, isi_str_tuple, isi_str_list, isi_tup_int, isi_tup_bool, isi_tup_str, isi_tup_tuple, isi_tup_list, isi_lst_int, isi_lst_bool, isi_lst_str, isi_lst_tuple, isi_lst_list, isi_non_int, isi_non_bool, isi_non_str, isi_non_tuple, isi_non_list, wipeD, dNever, chk_c, decide_true, decide_false, Q2_is_barter, is_bundle_any yl yh]
      have g : goodC w (.tup [.tup xs, .tup ys]) = (goodP w (.tup xs) && (goodP w (.tup ys) && !eqP (.tup xs) (.tup ys))) := rfl
      have ne := neD_pts (μ := μ) hp hq
      rw [g, ← Bool.and_assoc]
      cases c2 : (goodP w (.tup xs) && goodP w (.tup ys)) with
      | false =>
        simp only [dSeq, dIf, dB, dAnd, dOr, dNot, dAsg, dOp, dVar, dC, dCB, dCons, dNil, dName, dRet, dRetN, dDrop, dNext, dIfE, dAndV, dOrV, dNotV, dUn, dSl, dNoPart, dPart, dPar, dPar3, dTup, dLst, dGTup, dGCons, dGNil, dChain, dIsN, dNotN, isN, dCont, dBreak, dGSub, dSeqI, items_lst, items_tup, dZip2, dZip3, dEnum, still_lst, still_tup, dFor, dFld, dLenOf, dM1, look_0, look_s, bind_ok, to_ok, then_nx, then_rt, then_ct, then_bk, turn_nx, turn_ct, turn_rt, turn_bk, run_rt, run_nx, onB_bl, okO_some, noX_ok, addD_int, subD_int, ltD_int, cmpD_int, fLe, fGe, fGt, intD_int, if_true, if_false, Bool.false_eq_true, Bool.not_true, Bool.not_false, List.set_cons_succ, List.set_cons_zero, ixD_lst, ixD_tup, lenD_lst, lenD_tup, List.length_cons, List.length_nil, isi_int_int, isi_int_bool, isi_int_str, isi_int_tuple, isi_int_list, isi_bl_int, isi_bl_bool, isi_bl_str, isi_bl_tuple, isi_bl_list, isi_str_int, isi_str_bool, isi_str_str, isi_str_tuple, isi_str_list, isi_tup_int, isi_tup_bool, isi_tup_str, isi_tup_tuple, isi_tup_list, isi_lst_int, isi_lst_bool, isi_lst_str, isi_lst_tuple, isi_lst_list, isi_non_int, isi_non_bool, isi_non_str, isi_non_tuple, isi_non_list, wipeD, dNever, chk_c, decide_true, decide_false, T_is_barter, lb, n2, el, e2, allD, asL, bt, ba, c1, c2, Bool.false_and]
        exact fz_same (Nat.le_refl _)
      | true =>
        simp only [dSeq, dIf, dB, dAnd, dOr, dNot, dAsg, dOp, dVar, dC, dCB, dCons, dNil, dName, dRet, dRetN, dDrop, dNext, dIfE, dAndV, dOrV, dNotV, dUn, dSl, dNoPart, dPart, dPar, dPar3, dTup, dLst, dGTup, dGCons, dGNil, dChain, dIsN, dNotN, isN, dCont, dBreak, dGSub, dSeqI, items_lst, items_tup, dZip2, dZip3, dEnum, still_lst, still_tup, dFor, dFld, dLenOf, dM1, look_0, look_s, bind_ok, to_ok, then_nx, then_rt, then_ct, then_bk, turn_nx, turn_ct, turn_rt, turn_bk, run_rt, run_nx, onB_bl, okO_some, noX_ok, addD_int, subD_int, ltD_int, cmpD_int, fLe, fGe, fGt, intD_int, if_true, if_false, Bool.false_eq_true, Bool.not_true, Bool.not_false, List.set_cons_succ, List.set_cons_zero, ixD_lst, ixD_tup, lenD_lst, lenD_tup, List.length_cons, List.length_nil, isi_int_int, isi_int_bool, isi_int_str, isi_int_tuple, isi_int_list, isi_bl_int, isi_bl_bool, isi_bl_str, isi_bl_tuple, isi_bl_list, isi_str_int, isi_str_bool, isi_str_str, isi_str_tuple, isi_str_list, isi_tup_int, isi_tup_bool, isi_tup_str, isi_tup_tuple, isi_tup_list, isi_lst_int, isi_lst_bool, isi_lst_str, isi_lst_tuple, isi_lst_list, isi_non_int, isi_non_bool, isi_non_str, isi_non_tuple, isi_non_list, wipeD, dNever, chk_c, decide_true, decide_false, T_is_barter, lb, n2, el, e2, allD, asL, bt, ba, c1, c2, a0, a1, ne, Bool.true_and]
        exact fz_same (Nat.le_refl _)
  · have cb : ((ps.length : Int) == 2) = false := beq_eq_false_iff_ne.mpr (by omega)
    rw [goodC_ne c]
    simp only [dSeq, dIf, dB, dAnd, dOr, dNot, dAsg, dOp, dVar, dC, dCB, dCons, dNil, dName, dRet, dRetN, dDrop, dNext, dIfE, dAndV, dOrV, dNotV, dUn, dSl, dNoPart, dPart, dPar, dPar3, dTup, dLst, dGTup, dGCons, dGNil, dChain, dIsN, dNotN, isN, dCont, dBreak, dGSub, dSeqI, items_lst, items_tup, dZip2, dZip3, dEnum, still_lst, still_tup, dFor, dFld, dLenOf, dM1, look_0, look_s, bind_ok, to_ok, then_nx, then_rt, then_ct, then_bk, turn_nx, turn_ct, turn_rt, turn_bk, run_rt, run_nx, onB_bl, okO_some, noX_ok, addD_int, subD_int, ltD_int, cmpD_int, fLe, fGe, fGt, intD_int, if_true, if_false, Bool.false_eq_true, Bool.not_true, Bool.not_false, List.set_cons_succ, List.set_cons_zero, ixD_lst, ixD_tup, lenD_lst, lenD_tup, List.length_cons, List.length_nil, isi_int_int, isi_int_bool, isi_int_str, isi_int_tuple, isi_int_list, isi_bl_int, isi_bl_bool, isi_bl_str, isi_bl_tuple, isi_bl_list, isi_str_int, isi_str_bool, isi_str_str, isi_str_tuple, isi_str_list, isi_tup_int, isi_tup_bool, isi_tup_str, isi_tup_tuple, isi_tup_list, isi_lst_int, isi_lst_bool, isi_lst_str, isi_lst_tuple, isi_lst_list, isi_non_int, isi_non_bool, isi_non_str, isi_non_tuple, isi_non_list, wipeD, dNever, chk_c, decide_true, decide_false, T_is_barter, neD_int, cb]
    exact fz_same (Nat.le_refl _)
theorem law_is_barter_any {ps : List D} {w : Nat} {μ : Mu} (hl : ps.length ≤ 10) (h : ∀ p ∈ ps, Pt p) : f_law_is_barter [.tup ps, .int w] μ = .ok (.bl (goodC w (.tup ps))) μ := by
  have e0 : f_law_is_barter [.tup ps, .int w] μ = fz μ (SR.run (T_law_is_barter [some (.tup ps), some (.int w), none] μ)) := defR_ok rfl
  rw [e0]
  by_cases c : ps.length = 2
  · obtain ⟨p, q, rfl⟩ := two_of c
    have hp := h p List.mem_cons_self
    have hq := h q (List.mem_cons_of_mem _ List.mem_cons_self)
    have el : L1_law_is_barter [some (.tup [p, q]), some (.int w), none] μ = .ok (.lst [.bl (goodP w p), .bl (goodP w q)]) μ := lc_seq (i := 2) (Te := Q1_law_is_barter) (S := dVar 0) (d := .tup [p, q]) (xs := [p, q]) (fun x => D.bl (goodP w x)) rfl rfl (show (2 : Nat) ≤ 16777216 by decide) fun x hx => by
      simp only [dSeq, dIf, dB, dAnd, dOr, dNot, dAsg, dOp, dVar, dC, dCB, dCons, dNil, dName, dRet, dRetN, dDrop, dNext, dIfE, dAndV, dOrV, dNotV, dUn, dSl, dNoPart, dPart, dPar, dPar3, dTup, dLst, dGTup, dGCons, dGNil, dChain, dIsN, dNotN, isN, dCont, dBreak, dGSub, dSeqI, items_lst, items_tup, dZip2, dZip3, dEnum, still_lst, still_tup, dFor, dFld, dLenOf, dM1, look_0, look_s, bind_ok, to_ok, then_nx, then_rt, then_ct, then_bk, turn_nx, turn_ct, turn_rt, turn_bk, run_rt, run_nx, onB_bl, okO_some, noX_ok, addD_int, subD_int, ltD_int, cmpD_int, fLe, fGe, fGt, intD_int, if_true, if_false, Bool.false_eq_true, Bool.not_true, Bool.not_false, List.set_cons_succ, List.set_cons_zero, ixD_lst, ixD_tup, lenD_lst, lenD_tup, List.length_cons, List.length_nil, isi_int_int, isi_int_bool, isi_int_str, isi_int_tuple, isi_int_list, isi_bl_int, isi_bl_bool, isi_bl_str, isi_bl_tuple, isi_bl_list, isi_str_int, isi_str_bool, isi_str_str, isi_str_tuple, isi_str_list, isi_tup_int, isi_tup_bool, isi_tup_str, isi_tup_tuple, isi_tup_list, isi_lst_int, isi_lst_bool, isi_lst_str, isi_lst_tuple, isi_lst_list, isi_non_int, isi_non_bool, isi_non_str, isi_non_tuple, isi_non_list, wipeD, dNever, chk_c, decide_true, decide_false, Q1_law_is_barter, law_is_bundle_any (h x hx)]
    have lb : lenD [.tup [p, q]] μ = .ok (.int 2) μ := rfl
    have a0 : atI [p, q] 0 = some p := rfl
    have a1 : atI [p, q] 1 = some q := rfl
    have n2 : neD (.int 2) (.int 2) μ = .ok (.bl false) μ := by rw [neD_int]; rfl
    have bt : ∀ a b : Bool, blsOf [D.bl a, D.bl b] = some [a, b] := fun a b => rfl
    have ba : ∀ a b : Bool, [a, b].all id = (a && b) := fun a b => by cases a <;> cases b <;> rfl
    have g : goodC w (.tup [p, q]) = (goodP w p && (goodP w q && !eqP p q)) := rfl
    have ne := neD_pts (μ := μ) hp hq
    rw [g, ← Bool.and_assoc]
    cases c2 : (goodP w p && goodP w q) with
    | false =>
      simp only [dSeq, dIf, dB, dAnd, dOr, dNot, dAsg, dOp, dVar, dC, dCB, dCons, dNil, dName, dRet, dRetN, dDrop, dNext, dIfE, dAndV, dOrV, dNotV, dUn, dSl, dNoPart, dPart, dPar, dPar3, dTup, dLst, dGTup, dGCons, dGNil, dChain, dIsN, dNotN, isN, dCont, dBreak, dGSub, dSeqI, items_lst, items_tup, dZip2, dZip3, dEnum, still_lst, still_tup, dFor, dFld, dLenOf, dM1, look_0, look_s, bind_ok, to_ok, then_nx, then_rt, then_ct, then_bk, turn_nx, turn_ct, turn_rt, turn_bk, run_rt, run_nx, onB_bl, okO_some, noX_ok, addD_int, subD_int, ltD_int, cmpD_int, fLe, fGe, fGt, intD_int, if_true, if_false, Bool.false_eq_true, Bool.not_true, Bool.not_false, List.set_cons_succ, List.set_cons_zero, ixD_lst, ixD_tup, lenD_lst, lenD_tup, List.length_cons, List.length_nil, isi_int_int, isi_int_bool, isi_int_str, isi_int_tuple, isi_int_list, isi_bl_int, isi_bl_bool, isi_bl_str, isi_bl_tuple, isi_bl_list, isi_str_int, isi_str_bool, isi_str_str, isi_str_tuple, isi_str_list, isi_tup_int, isi_tup_bool, isi_tup_str, isi_tup_tuple, isi_tup_list, isi_lst_int, isi_lst_bool, isi_lst_str, isi_lst_tuple, isi_lst_list, isi_non_int, isi_non_bool, isi_non_str, isi_non_tuple, isi_non_list, wipeD, dNever, chk_c, decide_true, decide_false, T_law_is_barter, lb, n2, el, allD, asL, bt, ba, c2, Bool.false_and]
      exact fz_same (Nat.le_refl _)
    | true =>
      simp only [dSeq, dIf, dB, dAnd, dOr, dNot, dAsg, dOp, dVar, dC, dCB, dCons, dNil, dName, dRet, dRetN, dDrop, dNext, dIfE, dAndV, dOrV, dNotV, dUn, dSl, dNoPart, dPart, dPar, dPar3, dTup, dLst, dGTup, dGCons, dGNil, dChain, dIsN, dNotN, isN, dCont, dBreak, dGSub, dSeqI, items_lst, items_tup, dZip2, dZip3, dEnum, still_lst, still_tup, dFor, dFld, dLenOf, dM1, look_0, look_s, bind_ok, to_ok, then_nx, then_rt, then_ct, then_bk, turn_nx, turn_ct, turn_rt, turn_bk, run_rt, run_nx, onB_bl, okO_some, noX_ok, addD_int, subD_int, ltD_int, cmpD_int, fLe, fGe, fGt, intD_int, if_true, if_false, Bool.false_eq_true, Bool.not_true, Bool.not_false, List.set_cons_succ, List.set_cons_zero, ixD_lst, ixD_tup, lenD_lst, lenD_tup, List.length_cons, List.length_nil, isi_int_int, isi_int_bool, isi_int_str, isi_int_tuple, isi_int_list, isi_bl_int, isi_bl_bool, isi_bl_str, isi_bl_tuple, isi_bl_list, isi_str_int, isi_str_bool, isi_str_str, isi_str_tuple, isi_str_list, isi_tup_int, isi_tup_bool, isi_tup_str, isi_tup_tuple, isi_tup_list, isi_lst_int, isi_lst_bool, isi_lst_str, isi_lst_tuple, isi_lst_list, isi_non_int, isi_non_bool, isi_non_str, isi_non_tuple, isi_non_list, wipeD, dNever, chk_c, decide_true, decide_false, T_law_is_barter, lb, n2, el, allD, asL, bt, ba, c2, a0, a1, ne, Bool.true_and]
      exact fz_same (Nat.le_refl _)
  · have cb : ((ps.length : Int) == 2) = false := beq_eq_false_iff_ne.mpr (by omega)
    rw [goodC_ne c]
    simp only [dSeq, dIf, dB, dAnd, dOr, dNot, dAsg, dOp, dVar, dC, dCB, dCons, dNil, dName, dRet, dRetN, dDrop, dNext, dIfE, dAndV, dOrV, dNotV, dUn, dSl, dNoPart, dPart, dPar, dPar3, dTup, dLst, dGTup, dGCons, dGNil, dChain, dIsN, dNotN, isN, dCont, dBreak, dGSub, dSeqI, items_lst, items_tup, dZip2, dZip3, dEnum, still_lst, still_tup, dFor, dFld, dLenOf, dM1, look_0, look_s, bind_ok, to_ok, then_nx, then_rt, then_ct, then_bk, turn_nx, turn_ct, turn_rt, turn_bk, run_rt, run_nx, onB_bl, okO_some, noX_ok, addD_int, subD_int, ltD_int, cmpD_int, fLe, fGe, fGt, intD_int, if_true, if_false, Bool.false_eq_true, Bool.not_true, Bool.not_false, List.set_cons_succ, List.set_cons_zero, ixD_lst, ixD_tup, lenD_lst, lenD_tup, List.length_cons, List.length_nil, isi_int_int, isi_int_bool, isi_int_str, isi_int_tuple, isi_int_list, isi_bl_int, isi_bl_bool, isi_bl_str, isi_bl_tuple, isi_bl_list, isi_str_int, isi_str_bool, isi_str_str, isi_str_tuple, isi_str_list, isi_tup_int, isi_tup_bool, isi_tup_str, isi_tup_tuple, isi_tup_list, isi_lst_int, isi_lst_bool, isi_lst_str, isi_lst_tuple, isi_lst_list, isi_non_int, isi_non_bool, isi_non_str, isi_non_tuple, isi_non_list, wipeD, dNever, chk_c, decide_true, decide_false, T_law_is_barter, neD_int, cb]
    exact fz_same (Nat.le_refl _)
theorem is_barter_cd {c : D} {w : Nat} {μ : Mu} (h : Cd c) : f_is_barter [c, .int w] μ = .ok (.bl (goodC w c)) μ := by
  obtain ⟨ps, rfl, hl, h⟩ := h
  exact is_barter_any hl h
theorem law_is_barter_cd {c : D} {w : Nat} {μ : Mu} (h : Cd c) : f_law_is_barter [c, .int w] μ = .ok (.bl (goodC w c)) μ := by
  obtain ⟨ps, rfl, hl, h⟩ := h
  exact law_is_barter_any hl h
end Lw

namespace Lw
open PySem L2 DX
/-! ### a market of any candidates -/
abbrev eIB (k : Int) : Exn := ⟨"InvalidBarter", ["tag", "at"], [.str "InvalidBarter", .int k]⟩
def badC (w : Nat) (cs : List D) (k : Nat) : Bool := decide (k = 8) || !goodC w (cs.getD k .non)
def mkC (ws : List (List Nat)) (cs : List D) : D := .obj "Market" FN [.lst (wsD ws), .lst cs]
def Cds (cs : List D) : Prop := cs.length ≤ 100 ∧ ∀ c ∈ cs, Cd c
theorem Cds.clean {cs : List D} (h : Cds cs) : cleans cs = true := cleans_of fun x hx => (h.2 x hx).clean
theorem Cds.plain {n : Nat} {cs : List D} (h : Cds cs) : DX.plain (n + 3) (.lst cs) = true := plain_lst_of (by have := h.1; omega) (plains_of fun x hx => (h.2 x hx).plain)
theorem ofC_mkC {ws : List (List Nat)} {cs : List D} {μ : Mu} : ofC "Market" μ (mkC ws cs) = some (FN, [.lst (wsD ws), .lst cs]) := by
  unfold ofC mkC
  simp only [asI, if_true]
theorem mkC_clean {ws : List (List Nat)} {cs : List D} (h : cleans cs = true) : DX.clean (mkC ws cs) = true := by simp [mkC, DX.clean, cleans, wsD_clean, h]
theorem barters_c {ws : List (List Nat)} {cs : List D} {μ : Mu} : f_Market_barters [mkC ws cs] μ = .ok (.lst cs) μ := by
  have e0 : f_Market_barters [mkC ws cs] μ = fz μ (SR.run (T_Market_barters [some (mkC ws cs)] μ)) := defR_ok rfl
  rw [e0]
  simp only [dSeq, dIf, dB, dAnd, dOr, dNot, dAsg, dOp, dVar, dC, dCB, dCons, dNil, dName, dRet, dRetN, dDrop, dNext, dIfE, dAndV, dOrV, dNotV, dUn, dSl, dNoPart, dPart, dPar, dPar3, dTup, dLst, dGTup, dGCons, dGNil, dChain, dIsN, dNotN, isN, dCont, dBreak, dGSub, dSeqI, items_lst, items_tup, dZip2, dZip3, dEnum, still_lst, still_tup, dFor, dFld, dLenOf, dM1, look_0, look_s, bind_ok, to_ok, then_nx, then_rt, then_ct, then_bk, turn_nx, turn_ct, turn_rt, turn_bk, run_rt, run_nx, onB_bl, okO_some, noX_ok, addD_int, subD_int, ltD_int, cmpD_int, fLe, fGe, fGt, intD_int, if_true, if_false, Bool.false_eq_true, Bool.not_true, Bool.not_false, List.set_cons_succ, List.set_cons_zero, ixD_lst, ixD_tup, lenD_lst, lenD_tup, List.length_cons, List.length_nil, isi_int_int, isi_int_bool, isi_int_str, isi_int_tuple, isi_int_list, isi_bl_int, isi_bl_bool, isi_bl_str, isi_bl_tuple, isi_bl_list, isi_str_int, isi_str_bool, isi_str_str, isi_str_tuple, isi_str_list, isi_tup_int, isi_tup_bool, isi_tup_str, isi_tup_tuple, isi_tup_list, isi_lst_int, isi_lst_bool, isi_lst_str, isi_lst_tuple, isi_lst_list, isi_non_int, isi_non_bool, isi_non_str, isi_non_tuple, isi_non_list, wipeD, dNever, chk_c, decide_true, decide_false, T_Market_barters, ofC_mkC, get_ba, listD, seqOf, asL]
  exact fz_same (Nat.le_refl _)
theorem len_c {ws : List (List Nat)} {cs : List D} {μ : Mu} : f_Market_len [mkC ws cs] μ = .ok (.int cs.length) μ := by
  have e0 : f_Market_len [mkC ws cs] μ = fz μ (SR.run (T_Market_len [some (mkC ws cs)] μ)) := defR_ok rfl
  rw [e0]
  simp only [dSeq, dIf, dB, dAnd, dOr, dNot, dAsg, dOp, dVar, dC, dCB, dCons, dNil, dName, dRet, dRetN, dDrop, dNext, dIfE, dAndV, dOrV, dNotV, dUn, dSl, dNoPart, dPart, dPar, dPar3, dTup, dLst, dGTup, dGCons, dGNil, dChain, dIsN, dNotN, isN, dCont, dBreak, dGSub, dSeqI, items_lst, items_tup, dZip2, dZip3, dEnum, still_lst, still_tup, dFor, dFld, dLenOf, dM1, look_0, look_s, bind_ok, to_ok, then_nx, then_rt, then_ct, then_bk, turn_nx, turn_ct, turn_rt, turn_bk, run_rt, run_nx, onB_bl, okO_some, noX_ok, addD_int, subD_int, ltD_int, cmpD_int, fLe, fGe, fGt, intD_int, if_true, if_false, Bool.false_eq_true, Bool.not_true, Bool.not_false, List.set_cons_succ, List.set_cons_zero, ixD_lst, ixD_tup, lenD_lst, lenD_tup, List.length_cons, List.length_nil, isi_int_int, isi_int_bool, isi_int_str, isi_int_tuple, isi_int_list, isi_bl_int, isi_bl_bool, isi_bl_str, isi_bl_tuple, isi_bl_list, isi_str_int, isi_str_bool, isi_str_str, isi_str_tuple, isi_str_list, isi_tup_int, isi_tup_bool, isi_tup_str, isi_tup_tuple, isi_tup_list, isi_lst_int, isi_lst_bool, isi_lst_str, isi_lst_tuple, isi_lst_list, isi_non_int, isi_non_bool, isi_non_str, isi_non_tuple, isi_non_list, wipeD, dNever, chk_c, decide_true, decide_false, T_Market_len, ofC_mkC, get_ba]
  exact fz_same (Nat.le_refl _)
theorem init_turnC {n : Nat} {ws : List (List Nat)} {cs : List D} {k : Nat} {c : D} {μ : Mu} (hc : Cd c) (hk : cs[k]? = some c) :
    B1_Market_init [some (.cell n), some (.lst (wsD ws)), some (.tup cs), some (.int k), some c] μ = if badC ws.length cs k = true then .exc (eIB k) [some (.cell n), some (.lst (wsD ws)), some (.tup cs), some (.int k), some c] μ else .nx [some (.cell n), some (.lst (wsD ws)), some (.tup cs), some (.int k), some c] μ := by
  have wl : (wsD ws).length = ws.length := List.length_map _
  have ec : cs.getD k .non = c := by rw [List.getD_eq_getElem?_getD, hk]; rfl
  have ib := is_barter_cd (w := ws.length) (μ := μ) hc
  unfold badC
  rw [ec]
  by_cases c1 : k = 8
  · have k8 : ((k : Int) == 8) = true := beq_iff_eq.mpr (by omega)
    simp only [dSeq, dIf, dB, dAnd, dOr, dNot, dAsg, dOp, dVar, dC, dCB, dCons, dNil, dName, dRet, dRetN, dDrop, dNext, dIfE, dAndV, dOrV, dNotV, dUn, dSl, dNoPart, dPart, dPar, dPar3, dTup, dLst, dGTup, dGCons, dGNil, dChain, dIsN, dNotN, isN, dCont, dBreak, dGSub, dSeqI, items_lst, items_tup, dZip2, dZip3, dEnum, still_lst, still_tup, dFor, dFld, dLenOf, dM1, look_0, look_s, bind_ok, to_ok, then_nx, then_rt, then_ct, then_bk, turn_nx, turn_ct, turn_rt, turn_bk, run_rt, run_nx, onB_bl, okO_some, noX_ok, addD_int, subD_int, ltD_int, cmpD_int, fLe, fGe, fGt, intD_int, if_true, if_false, Bool.false_eq_true, Bool.not_true, Bool.not_false, List.set_cons_succ, List.set_cons_zero, ixD_lst, ixD_tup, lenD_lst, lenD_tup, List.length_cons, List.length_nil, isi_int_int, isi_int_bool, isi_int_str, isi_int_tuple, isi_int_list, isi_bl_int, isi_bl_bool, isi_bl_str, isi_bl_tuple, isi_bl_list, isi_str_int, isi_str_bool, isi_str_str, isi_str_tuple, isi_str_list, isi_tup_int, isi_tup_bool, isi_tup_str, isi_tup_tuple, isi_tup_list, isi_lst_int, isi_lst_bool, isi_lst_str, isi_lst_tuple, isi_lst_list, isi_non_int, isi_non_bool, isi_non_str, isi_non_tuple, isi_non_list, wipeD, dNever, chk_c, decide_true, decide_false, B1_Market_init, eqD_int, k8, decide_eq_true c1, Bool.true_or, dRaise]
  · have k8 : ((k : Int) == 8) = false := beq_eq_false_iff_ne.mpr (by omega)
    cases c2 : goodC ws.length c with
    | false =>
      simp only [dSeq, dIf, dB, dAnd, dOr, dNot, dAsg, dOp, dVar, dC, dCB, dCons, dNil, dName, dRet, dRetN, dDrop, dNext, dIfE, dAndV, dOrV, dNotV, dUn, dSl, dNoPart, dPart, dPar, dPar3, dTup, dLst, dGTup, dGCons, dGNil, dChain, dIsN, dNotN, isN, dCont, dBreak, dGSub, dSeqI, items_lst, items_tup, dZip2, dZip3, dEnum, still_lst, still_tup, dFor, dFld, dLenOf, dM1, look_0, look_s, bind_ok, to_ok, then_nx, then_rt, then_ct, then_bk, turn_nx, turn_ct, turn_rt, turn_bk, run_rt, run_nx, onB_bl, okO_some, noX_ok, addD_int, subD_int, ltD_int, cmpD_int, fLe, fGe, fGt, intD_int, if_true, if_false, Bool.false_eq_true, Bool.not_true, Bool.not_false, List.set_cons_succ, List.set_cons_zero, ixD_lst, ixD_tup, lenD_lst, lenD_tup, List.length_cons, List.length_nil, isi_int_int, isi_int_bool, isi_int_str, isi_int_tuple, isi_int_list, isi_bl_int, isi_bl_bool, isi_bl_str, isi_bl_tuple, isi_bl_list, isi_str_int, isi_str_bool, isi_str_str, isi_str_tuple, isi_str_list, isi_tup_int, isi_tup_bool, isi_tup_str, isi_tup_tuple, isi_tup_list, isi_lst_int, isi_lst_bool, isi_lst_str, isi_lst_tuple, isi_lst_list, isi_non_int, isi_non_bool, isi_non_str, isi_non_tuple, isi_non_list, wipeD, dNever, chk_c, decide_true, decide_false, B1_Market_init, eqD_int, k8, wl, ib, c2, decide_eq_false c1, Bool.false_or, dRaise]
    | true =>
      simp only [dSeq, dIf, dB, dAnd, dOr, dNot, dAsg, dOp, dVar, dC, dCB, dCons, dNil, dName, dRet, dRetN, dDrop, dNext, dIfE, dAndV, dOrV, dNotV, dUn, dSl, dNoPart, dPart, dPar, dPar3, dTup, dLst, dGTup, dGCons, dGNil, dChain, dIsN, dNotN, isN, dCont, dBreak, dGSub, dSeqI, items_lst, items_tup, dZip2, dZip3, dEnum, still_lst, still_tup, dFor, dFld, dLenOf, dM1, look_0, look_s, bind_ok, to_ok, then_nx, then_rt, then_ct, then_bk, turn_nx, turn_ct, turn_rt, turn_bk, run_rt, run_nx, onB_bl, okO_some, noX_ok, addD_int, subD_int, ltD_int, cmpD_int, fLe, fGe, fGt, intD_int, if_true, if_false, Bool.false_eq_true, Bool.not_true, Bool.not_false, List.set_cons_succ, List.set_cons_zero, ixD_lst, ixD_tup, lenD_lst, lenD_tup, List.length_cons, List.length_nil, isi_int_int, isi_int_bool, isi_int_str, isi_int_tuple, isi_int_list, isi_bl_int, isi_bl_bool, isi_bl_str, isi_bl_tuple, isi_bl_list, isi_str_int, isi_str_bool, isi_str_str, isi_str_tuple, isi_str_list, isi_tup_int, isi_tup_bool, isi_tup_str, isi_tup_tuple, isi_tup_list, isi_lst_int, isi_lst_bool, isi_lst_str, isi_lst_tuple, isi_lst_list, isi_non_int, isi_non_bool, isi_non_str, isi_non_tuple, isi_non_list, wipeD, dNever, chk_c, decide_true, decide_false, B1_Market_init, eqD_int, k8, wl, ib, c2, decide_eq_false c1, Bool.false_or]
theorem cs_get {cs : List D} {i : Nat} {x : D} (e : (enumFrom 0 cs)[i]? = some x) : ∃ c, cs[i]? = some c ∧ x = .tup [.int i, c] := by
  rw [enum_get] at e
  cases c : cs[i]? with
  | none => rw [c] at e; cases e
  | some p =>
    rw [c] at e
    exact ⟨p, rfl, by rw [← Option.some.inj e, Nat.zero_add]⟩
theorem initEC {n : Nat} {ws : List (List Nat)} {cs : List D} {μ : Mu} (hl : cs.length ≤ 900) : f_Market_init (.cell n :: .lst (wsD ws) :: cs) μ = fz μ (SR.run (T_Market_init [some (.cell n), some (.lst (wsD ws)), some (.tup cs), none, none] μ)) := by
  show starR 2 (defR fz 3 5 T_Market_init) _ _ = _
  unfold starR
  rw [if_pos ⟨by simp, by simp only [List.length_cons]; omega⟩]
  exact defR_ok rfl
theorem init_cs {n : Nat} {ws : List (List Nat)} {cs : List D} {μ : Mu} (hn : μ.length = n) (h : Tg ws) (hc : Cds cs) (hg : ∀ k, k < cs.length → badC ws.length cs k = false) :
    f_Market_init (.cell n :: .lst (wsD ws) :: cs) (μ ++ [.ins "Market" [] []]) = .ok .non (μ ++ [.ins "Market" FN [.lst (wsD ws), .lst cs]]) := by
  rw [initEC (by have := hc.1; omega)]
  have h4 := h.four
  have p1 : putN "barter_row" ["thing_row"] = FN := by simp only [putN, if_neg ne_bt]
  have p2 : putD "barter_row" (.lst cs) ["thing_row"] [.lst (wsD ws)] = [.lst (wsD ws), .lst cs] := by simp only [putD, if_neg ne_bt]
  have s1 := setF_new (μ := μ) (n := n) (y := .lst (wsD ws)) (c := "Market") (f := "thing_row") (ns := []) (ds := []) hn (by decide)
  have s2 := setF_new (μ := μ) (n := n) (y := .lst cs) (c := "Market") (f := "barter_row") (ns := ["thing_row"]) (ds := [.lst (wsD ws)]) hn (show (1 : Nat) < 1000 by decide)
  rw [p1, p2] at s2
  have s1' : setF "Market" "thing_row" (.cell n) (.lst (wsD ws)) (μ ++ [.ins "Market" [] []]) = .ok () (μ ++ [.ins "Market" ["thing_row"] [.lst (wsD ws)]]) := s1
  have l1 : ∀ ν : Mu, listD [.lst (wsD ws)] ν = .ok (.lst (wsD ws)) ν := fun ν => rfl
  have l2 : ∀ ν : Mu, listD [.tup cs] ν = .ok (.lst cs) ν := fun ν => rfl
  obtain ⟨η', e, x3, x4, rfl⟩ := forR_all (G := dGTup 2 (dGCons (dName 3) (dGCons (dName 4) dGNil))) (T := B1_Market_init) (μ := μ ++ [.ins "Market" [] []]) (its := enumFrom 0 cs) (I := fun _ η => ∃ x3 x4, η = [some (.cell n), some (.lst (wsD ws)), some (.tup cs), x3, x4])
    (fun i x η hx hI => by
      obtain ⟨c, hi, rfl⟩ := cs_get hx
      obtain ⟨x3, x4, rfl⟩ := hI
      have il := (List.getElem?_eq_some_iff.mp hi).1
      have it := init_turnC (n := n) (ws := ws) (μ := μ ++ [.ins "Market" [] []]) (hc.2 c (List.mem_of_getElem? hi)) hi
      rw [hg i il, if_neg (by simp)] at it
      exact ⟨[some (.cell n), some (.lst (wsD ws)), some (.tup cs), some (.int i), some c], _, by simp only [dSeq, dIf, dB, dAnd, dOr, dNot, dAsg, dOp, dVar, dC, dCB, dCons, dNil, dName, dRet, dRetN, dDrop, dNext, dIfE, dAndV, dOrV, dNotV, dUn, dSl, dNoPart, dPart, dPar, dPar3, dTup, dLst, dGTup, dGCons, dGNil, dChain, dIsN, dNotN, isN, dCont, dBreak, dGSub, dSeqI, items_lst, items_tup, dZip2, dZip3, dEnum, still_lst, still_tup, dFor, dFld, dLenOf, dM1, look_0, look_s, bind_ok, to_ok, then_nx, then_rt, then_ct, then_bk, turn_nx, turn_ct, turn_rt, turn_bk, run_rt, run_nx, onB_bl, okO_some, noX_ok, addD_int, subD_int, ltD_int, cmpD_int, fLe, fGe, fGt, intD_int, if_true, if_false, Bool.false_eq_true, Bool.not_true, Bool.not_false, List.set_cons_succ, List.set_cons_zero, ixD_lst, ixD_tup, lenD_lst, lenD_tup, List.length_cons, List.length_nil, isi_int_int, isi_int_bool, isi_int_str, isi_int_tuple, isi_int_list, isi_bl_int, isi_bl_bool, isi_bl_str, isi_bl_tuple, isi_bl_list, isi_str_int, isi_str_bool, isi_str_str, isi_str_tuple, isi_str_list, isi_tup_int, isi_tup_bool, isi_tup_str, isi_tup_tuple, isi_tup_list, isi_lst_int, isi_lst_bool, isi_lst_str, isi_lst_tuple, isi_lst_list, isi_non_int, isi_non_bool, isi_non_str, isi_non_tuple, isi_non_list, wipeD, dNever, chk_c, decide_true, decide_false], .inl it, _, _, rfl⟩)
    0 [some (.cell n), some (.lst (wsD ws)), some (.tup cs), none, none] ⟨none, none, rfl⟩ (Nat.zero_le _)
  rw [List.drop_zero] at e
  simp only [dSeq, dIf, dB, dAnd, dOr, dNot, dAsg, dOp, dVar, dC, dCB, dCons, dNil, dName, dRet, dRetN, dDrop, dNext, dIfE, dAndV, dOrV, dNotV, dUn, dSl, dNoPart, dPart, dPar, dPar3, dTup, dLst, dGTup, dGCons, dGNil, dChain, dIsN, dNotN, isN, dCont, dBreak, dGSub, dSeqI, items_lst, items_tup, dZip2, dZip3, dEnum, still_lst, still_tup, dFor, dFld, dLenOf, dM1, look_0, look_s, bind_ok, to_ok, then_nx, then_rt, then_ct, then_bk, turn_nx, turn_ct, turn_rt, turn_bk, run_rt, run_nx, onB_bl, okO_some, noX_ok, addD_int, subD_int, ltD_int, cmpD_int, fLe, fGe, fGt, intD_int, if_true, if_false, Bool.false_eq_true, Bool.not_true, Bool.not_false, List.set_cons_succ, List.set_cons_zero, ixD_lst, ixD_tup, lenD_lst, lenD_tup, List.length_cons, List.length_nil, isi_int_int, isi_int_bool, isi_int_str, isi_int_tuple, isi_int_list, isi_bl_int, isi_bl_bool, isi_bl_str, isi_bl_tuple, isi_bl_list, isi_str_int, isi_str_bool, isi_str_str, isi_str_tuple, isi_str_list, isi_tup_int, isi_tup_bool, isi_tup_str, isi_tup_tuple, isi_tup_list, isi_lst_int, isi_lst_bool, isi_lst_str, isi_lst_tuple, isi_lst_list, isi_non_int, isi_non_bool, isi_non_str, isi_non_tuple, isi_non_list, wipeD, dNever, chk_c, decide_true, decide_false, T_Market_init, l1, l2, check_things_ok h, e, dFldS, s1', s2]
  exact fz_same (by rw [List.length_append, List.length_append]; exact Nat.le_refl _)
theorem init_csX {n : Nat} {ws : List (List Nat)} {cs : List D} {μ : Mu} {j : Nat} (h : Tg ws) (hc : Cds cs) (hj : j < cs.length) (hb : badC ws.length cs j = true) (hg : ∀ k, k < j → badC ws.length cs k = false) :
    f_Market_init (.cell n :: .lst (wsD ws) :: cs) μ = .exc (eIB j) μ := by
  rw [initEC (by have := hc.1; omega)]
  have h4 := h.four
  have l1 : ∀ ν : Mu, listD [.lst (wsD ws)] ν = .ok (.lst (wsD ws)) ν := fun ν => rfl
  obtain ⟨η', e⟩ := forR_exc (G := dGTup 2 (dGCons (dName 3) (dGCons (dName 4) dGNil))) (T := B1_Market_init) (μ := μ) (its := enumFrom 0 cs) (I := fun _ η => ∃ x3 x4, η = [some (.cell n), some (.lst (wsD ws)), some (.tup cs), x3, x4]) (e := eIB j) (j := j) (by rw [enum_len]; exact hj)
    (fun i x η hi hx hI => by
      obtain ⟨c, hip, rfl⟩ := cs_get hx
      obtain ⟨x3, x4, rfl⟩ := hI
      have it := init_turnC (n := n) (ws := ws) (μ := μ) (hc.2 c (List.mem_of_getElem? hip)) hip
      rw [hg i hi, if_neg (by simp)] at it
      exact ⟨[some (.cell n), some (.lst (wsD ws)), some (.tup cs), some (.int i), some c], _, by simp only [dSeq, dIf, dB, dAnd, dOr, dNot, dAsg, dOp, dVar, dC, dCB, dCons, dNil, dName, dRet, dRetN, dDrop, dNext, dIfE, dAndV, dOrV, dNotV, dUn, dSl, dNoPart, dPart, dPar, dPar3, dTup, dLst, dGTup, dGCons, dGNil, dChain, dIsN, dNotN, isN, dCont, dBreak, dGSub, dSeqI, items_lst, items_tup, dZip2, dZip3, dEnum, still_lst, still_tup, dFor, dFld, dLenOf, dM1, look_0, look_s, bind_ok, to_ok, then_nx, then_rt, then_ct, then_bk, turn_nx, turn_ct, turn_rt, turn_bk, run_rt, run_nx, onB_bl, okO_some, noX_ok, addD_int, subD_int, ltD_int, cmpD_int, fLe, fGe, fGt, intD_int, if_true, if_false, Bool.false_eq_true, Bool.not_true, Bool.not_false, List.set_cons_succ, List.set_cons_zero, ixD_lst, ixD_tup, lenD_lst, lenD_tup, List.length_cons, List.length_nil, isi_int_int, isi_int_bool, isi_int_str, isi_int_tuple, isi_int_list, isi_bl_int, isi_bl_bool, isi_bl_str, isi_bl_tuple, isi_bl_list, isi_str_int, isi_str_bool, isi_str_str, isi_str_tuple, isi_str_list, isi_tup_int, isi_tup_bool, isi_tup_str, isi_tup_tuple, isi_tup_list, isi_lst_int, isi_lst_bool, isi_lst_str, isi_lst_tuple, isi_lst_list, isi_non_int, isi_non_bool, isi_non_str, isi_non_tuple, isi_non_list, wipeD, dNever, chk_c, decide_true, decide_false], .inl it, _, _, rfl⟩)
    (fun x η hx hI => by
      obtain ⟨c, hip, rfl⟩ := cs_get hx
      obtain ⟨x3, x4, rfl⟩ := hI
      have it := init_turnC (n := n) (ws := ws) (μ := μ) (hc.2 c (List.mem_of_getElem? hip)) hip
      rw [hb, if_pos rfl] at it
      exact ⟨[some (.cell n), some (.lst (wsD ws)), some (.tup cs), some (.int j), some c], _, by simp only [dSeq, dIf, dB, dAnd, dOr, dNot, dAsg, dOp, dVar, dC, dCB, dCons, dNil, dName, dRet, dRetN, dDrop, dNext, dIfE, dAndV, dOrV, dNotV, dUn, dSl, dNoPart, dPart, dPar, dPar3, dTup, dLst, dGTup, dGCons, dGNil, dChain, dIsN, dNotN, isN, dCont, dBreak, dGSub, dSeqI, items_lst, items_tup, dZip2, dZip3, dEnum, still_lst, still_tup, dFor, dFld, dLenOf, dM1, look_0, look_s, bind_ok, to_ok, then_nx, then_rt, then_ct, then_bk, turn_nx, turn_ct, turn_rt, turn_bk, run_rt, run_nx, onB_bl, okO_some, noX_ok, addD_int, subD_int, ltD_int, cmpD_int, fLe, fGe, fGt, intD_int, if_true, if_false, Bool.false_eq_true, Bool.not_true, Bool.not_false, List.set_cons_succ, List.set_cons_zero, ixD_lst, ixD_tup, lenD_lst, lenD_tup, List.length_cons, List.length_nil, isi_int_int, isi_int_bool, isi_int_str, isi_int_tuple, isi_int_list, isi_bl_int, isi_bl_bool, isi_bl_str, isi_bl_tuple, isi_bl_list, isi_str_int, isi_str_bool, isi_str_str, isi_str_tuple, isi_str_list, isi_tup_int, isi_tup_bool, isi_tup_str, isi_tup_tuple, isi_tup_list, isi_lst_int, isi_lst_bool, isi_lst_str, isi_lst_tuple, isi_lst_list, isi_non_int, isi_non_bool, isi_non_str, isi_non_tuple, isi_non_list, wipeD, dNever, chk_c, decide_true, decide_false], it⟩)
    0 [some (.cell n), some (.lst (wsD ws)), some (.tup cs), none, none] ⟨none, none, rfl⟩ (Nat.zero_le _)
  rw [List.drop_zero] at e
  simp only [dSeq, dIf, dB, dAnd, dOr, dNot, dAsg, dOp, dVar, dC, dCB, dCons, dNil, dName, dRet, dRetN, dDrop, dNext, dIfE, dAndV, dOrV, dNotV, dUn, dSl, dNoPart, dPart, dPar, dPar3, dTup, dLst, dGTup, dGCons, dGNil, dChain, dIsN, dNotN, isN, dCont, dBreak, dGSub, dSeqI, items_lst, items_tup, dZip2, dZip3, dEnum, still_lst, still_tup, dFor, dFld, dLenOf, dM1, look_0, look_s, bind_ok, to_ok, then_nx, then_rt, then_ct, then_bk, turn_nx, turn_ct, turn_rt, turn_bk, run_rt, run_nx, onB_bl, okO_some, noX_ok, addD_int, subD_int, ltD_int, cmpD_int, fLe, fGe, fGt, intD_int, if_true, if_false, Bool.false_eq_true, Bool.not_true, Bool.not_false, List.set_cons_succ, List.set_cons_zero, ixD_lst, ixD_tup, lenD_lst, lenD_tup, List.length_cons, List.length_nil, isi_int_int, isi_int_bool, isi_int_str, isi_int_tuple, isi_int_list, isi_bl_int, isi_bl_bool, isi_bl_str, isi_bl_tuple, isi_bl_list, isi_str_int, isi_str_bool, isi_str_str, isi_str_tuple, isi_str_list, isi_tup_int, isi_tup_bool, isi_tup_str, isi_tup_tuple, isi_tup_list, isi_lst_int, isi_lst_bool, isi_lst_str, isi_lst_tuple, isi_lst_list, isi_non_int, isi_non_bool, isi_non_str, isi_non_tuple, isi_non_list, wipeD, dNever, chk_c, decide_true, decide_false, T_Market_init, l1, check_things_ok h, e, then_exc, run_exc]
  exact fz_exc_same (Nat.le_refl _)
theorem make_cs {ws : List (List Nat)} {cs : List D} {μ : Mu} {T : DA} {η : DX.Env} (hT : T η μ = .ok (.lst (wsD ws) :: cs) μ) (hcl : Clean μ) (h : Tg ws) (hc : Cds cs) (hg : ∀ k, k < cs.length → badC ws.length cs k = false) : dMake fz "Market" f_Market_init T η μ = .ok (mkC ws cs) μ := by
  unfold dMake
  rw [hT, bind_ok, init_cs rfl h hc hg, bind_ok]
  exact fz_obj rfl hcl (by simp [cleans, DX.clean, wsD_clean, hc.clean])
theorem make_csX {ws : List (List Nat)} {cs : List D} {μ : Mu} {T : DA} {η : DX.Env} {j : Nat} (hT : T η μ = .ok (.lst (wsD ws) :: cs) μ) (h : Tg ws) (hc : Cds cs) (hj : j < cs.length) (hb : badC ws.length cs j = true) (hg : ∀ k, k < j → badC ws.length cs k = false) : dMake fz "Market" f_Market_init T η μ = .exc (eIB j) (μ ++ [.ins "Market" [] []]) := by
  unfold dMake
  rw [hT, bind_ok, init_csX h hc hj hb hg, bind_exc]
theorem fz_exc_drop {μ0 μ1 ν : Mu} {e : Exn} (hl : μ1.length = μ0.length) (h : Clean μ1) (he : cleans e.ds = true) : fz μ0 (.exc e (μ1 ++ ν)) = .exc e μ1 := by
  by_cases c : ν = []
  · subst c
    rw [List.append_nil]
    exact fz_exc_same (by omega)
  · have hp : 0 < ν.length := List.length_pos_iff.mpr c
    show (if (μ1 ++ ν).length ≤ μ0.length then _ else _) = _
    rw [if_neg (by rw [List.length_append]; omega), if_pos (keep_clean hl h)]
    have z : e.ds.mapM (frz μ0.length (μ1 ++ ν) 8) = some e.ds := mapM_some fun x hx => frz_clean (cleans_mem he x hx)
    rw [z]
    show Res.exc ⟨e.cls, e.ns, e.ds⟩ ((μ1 ++ ν).take μ0.length) = _
    rw [← hl, List.take_left]
/-! ### the law's own making -/
theorem lenD_cell {μ : Mu} {n : Nat} {xs : List D} (h : μ[n]? = some (.lst xs)) : lenD [.cell n] μ = .ok (.int xs.length) μ := by
  unfold lenD
  simp only [seqOf, asL, h, okO_some]
theorem slD_cell {μ : Mu} {n : Nat} {xs : List D} {lo hi : Option Int} (h : μ[n]? = some (.lst xs)) : slD (.cell n) lo hi μ = .ok (.lst (cut xs lo hi)) μ := by
  unfold slD
  simp only [asL, h, okO_some]
theorem run_mk {η : DX.Env} {r : Res D} : SR.run (r.to η fun d μ1 => .rt d μ1) = r := by cases r <;> rfl
theorem run_mkT {η : DX.Env} {r : Res D} {k : DX.Env → Mu → SR} : SR.run ((r.to η fun d μ1 => .rt d μ1).then k) = r := by cases r <;> rfl
theorem unl4 {a b c d : Nat} {x0 x1 x2 x3 : D} {η : DX.Env} {μ : Mu} : dGUnl 4 (dGCons (dName a) (dGCons (dName b) (dGCons (dName c) (dGCons (dName d) dGNil)))) (.lst [x0, x1, x2, x3]) η μ = .ok ((((η.set a (some x0)).set b (some x1)).set c (some x2)).set d (some x3)) μ := rfl
theorem made_ok {μ : Mu} {n : Nat} {ws : List (List Nat)} {cs : List D} (hn : μ[n]? = some (.lst cs)) (hl : cs.length ∈ [0, 1, 2, 3, 4, 8, 9]) :
    ∃ T : DA, ∃ η, T η μ = .ok (.lst (wsD ws) :: cs) μ ∧ f_law_made [.lst (wsD ws), .cell n] μ = fz μ (dMake fz "Market" f_Market_init T η μ) := by
  have e0 : f_law_made [.lst (wsD ws), .cell n] μ = fz μ (SR.run (T_law_made [some (.lst (wsD ws)), some (.cell n), none, none, none, none, none, none, none, none] μ)) := defR_ok rfl
  rw [e0]
  have ix : ∀ i, ixD (.cell n) (.int i) μ = okO (atI cs i) fun d => .ok d μ := fun i => ixD_cell hn
  have sl : ∀ lo hi, slD (.cell n) lo hi μ = .ok (.lst (cut cs lo hi)) μ := fun lo hi => slD_cell hn
  have le := lenD_cell hn
  match cs, hl with
  | [], _ =>
    have le : lenD [.cell n] μ = .ok (.int 0) μ := le
    have q0 : eqD (.int 0) (.int 0) μ = .ok (.bl true) μ := by rw [eqD_int]; rfl
    refine ⟨(dCons (dVar 0) dNil), [some (.lst (wsD ws)), some (.cell n), none, none, none, none, none, none, none, none], ?_, ?_⟩
    · simp only [dSeq, dIf, dB, dAnd, dOr, dNot, dAsg, dOp, dVar, dC, dCB, dCons, dNil, dName, dRet, dRetN, dDrop, dNext, dIfE, dAndV, dOrV, dNotV, dUn, dSl, dNoPart, dPart, dPar, dPar3, dTup, dLst, dGTup, dGCons, dGNil, dChain, dIsN, dNotN, isN, dCont, dBreak, dGSub, dSeqI, items_lst, items_tup, dZip2, dZip3, dEnum, still_lst, still_tup, dFor, dFld, dLenOf, dM1, look_0, look_s, bind_ok, to_ok, then_nx, then_rt, then_ct, then_bk, turn_nx, turn_ct, turn_rt, turn_bk, run_rt, run_nx, onB_bl, okO_some, noX_ok, addD_int, subD_int, ltD_int, cmpD_int, fLe, fGe, fGt, intD_int, if_true, if_false, Bool.false_eq_true, Bool.not_true, Bool.not_false, List.set_cons_succ, List.set_cons_zero, ixD_lst, ixD_tup, lenD_lst, lenD_tup, List.length_cons, List.length_nil, isi_int_int, isi_int_bool, isi_int_str, isi_int_tuple, isi_int_list, isi_bl_int, isi_bl_bool, isi_bl_str, isi_bl_tuple, isi_bl_list, isi_str_int, isi_str_bool, isi_str_str, isi_str_tuple, isi_str_list, isi_tup_int, isi_tup_bool, isi_tup_str, isi_tup_tuple, isi_tup_list, isi_lst_int, isi_lst_bool, isi_lst_str, isi_lst_tuple, isi_lst_list, isi_non_int, isi_non_bool, isi_non_str, isi_non_tuple, isi_non_list, wipeD, dNever, chk_c, decide_true, decide_false, ix]
    · simp only [dSeq, dIf, dB, dAnd, dOr, dNot, dAsg, dOp, dVar, dC, dCB, dCons, dNil, dName, dRet, dRetN, dDrop, dNext, dIfE, dAndV, dOrV, dNotV, dUn, dSl, dNoPart, dPart, dPar, dPar3, dTup, dLst, dGTup, dGCons, dGNil, dChain, dIsN, dNotN, isN, dCont, dBreak, dGSub, dSeqI, items_lst, items_tup, dZip2, dZip3, dEnum, still_lst, still_tup, dFor, dFld, dLenOf, dM1, look_0, look_s, bind_ok, to_ok, then_nx, then_rt, then_ct, then_bk, turn_nx, turn_ct, turn_rt, turn_bk, run_rt, run_nx, onB_bl, okO_some, noX_ok, addD_int, subD_int, ltD_int, cmpD_int, fLe, fGe, fGt, intD_int, if_true, if_false, Bool.false_eq_true, Bool.not_true, Bool.not_false, List.set_cons_succ, List.set_cons_zero, ixD_lst, ixD_tup, lenD_lst, lenD_tup, List.length_cons, List.length_nil, isi_int_int, isi_int_bool, isi_int_str, isi_int_tuple, isi_int_list, isi_bl_int, isi_bl_bool, isi_bl_str, isi_bl_tuple, isi_bl_list, isi_str_int, isi_str_bool, isi_str_str, isi_str_tuple, isi_str_list, isi_tup_int, isi_tup_bool, isi_tup_str, isi_tup_tuple, isi_tup_list, isi_lst_int, isi_lst_bool, isi_lst_str, isi_lst_tuple, isi_lst_list, isi_non_int, isi_non_bool, isi_non_str, isi_non_tuple, isi_non_list, wipeD, dNever, chk_c, decide_true, decide_false, T_law_made, le, q0, sl, unl4]
      rw [run_mkT]
  | [x0], _ =>
    have le : lenD [.cell n] μ = .ok (.int 1) μ := le
    have q0 : eqD (.int 1) (.int 0) μ = .ok (.bl false) μ := by rw [eqD_int]; rfl
    have q1 : eqD (.int 1) (.int 1) μ = .ok (.bl true) μ := by rw [eqD_int]; rfl
    have a0 : atI [x0] 0 = some x0 := rfl
    refine ⟨(dCons (dVar 0) (dCons (dOp ixD (dVar 1) (dC (.int 0))) dNil)), [some (.lst (wsD ws)), some (.cell n), none, none, none, none, none, none, none, none], ?_, ?_⟩
    · simp only [dSeq, dIf, dB, dAnd, dOr, dNot, dAsg, dOp, dVar, dC, dCB, dCons, dNil, dName, dRet, dRetN, dDrop, dNext, dIfE, dAndV, dOrV, dNotV, dUn, dSl, dNoPart, dPart, dPar, dPar3, dTup, dLst, dGTup, dGCons, dGNil, dChain, dIsN, dNotN, isN, dCont, dBreak, dGSub, dSeqI, items_lst, items_tup, dZip2, dZip3, dEnum, still_lst, still_tup, dFor, dFld, dLenOf, dM1, look_0, look_s, bind_ok, to_ok, then_nx, then_rt, then_ct, then_bk, turn_nx, turn_ct, turn_rt, turn_bk, run_rt, run_nx, onB_bl, okO_some, noX_ok, addD_int, subD_int, ltD_int, cmpD_int, fLe, fGe, fGt, intD_int, if_true, if_false, Bool.false_eq_true, Bool.not_true, Bool.not_false, List.set_cons_succ, List.set_cons_zero, ixD_lst, ixD_tup, lenD_lst, lenD_tup, List.length_cons, List.length_nil, isi_int_int, isi_int_bool, isi_int_str, isi_int_tuple, isi_int_list, isi_bl_int, isi_bl_bool, isi_bl_str, isi_bl_tuple, isi_bl_list, isi_str_int, isi_str_bool, isi_str_str, isi_str_tuple, isi_str_list, isi_tup_int, isi_tup_bool, isi_tup_str, isi_tup_tuple, isi_tup_list, isi_lst_int, isi_lst_bool, isi_lst_str, isi_lst_tuple, isi_lst_list, isi_non_int, isi_non_bool, isi_non_str, isi_non_tuple, isi_non_list, wipeD, dNever, chk_c, decide_true, decide_false, ix, a0]
    · simp only [dSeq, dIf, dB, dAnd, dOr, dNot, dAsg, dOp, dVar, dC, dCB, dCons, dNil, dName, dRet, dRetN, dDrop, dNext, dIfE, dAndV, dOrV, dNotV, dUn, dSl, dNoPart, dPart, dPar, dPar3, dTup, dLst, dGTup, dGCons, dGNil, dChain, dIsN, dNotN, isN, dCont, dBreak, dGSub, dSeqI, items_lst, items_tup, dZip2, dZip3, dEnum, still_lst, still_tup, dFor, dFld, dLenOf, dM1, look_0, look_s, bind_ok, to_ok, then_nx, then_rt, then_ct, then_bk, turn_nx, turn_ct, turn_rt, turn_bk, run_rt, run_nx, onB_bl, okO_some, noX_ok, addD_int, subD_int, ltD_int, cmpD_int, fLe, fGe, fGt, intD_int, if_true, if_false, Bool.false_eq_true, Bool.not_true, Bool.not_false, List.set_cons_succ, List.set_cons_zero, ixD_lst, ixD_tup, lenD_lst, lenD_tup, List.length_cons, List.length_nil, isi_int_int, isi_int_bool, isi_int_str, isi_int_tuple, isi_int_list, isi_bl_int, isi_bl_bool, isi_bl_str, isi_bl_tuple, isi_bl_list, isi_str_int, isi_str_bool, isi_str_str, isi_str_tuple, isi_str_list, isi_tup_int, isi_tup_bool, isi_tup_str, isi_tup_tuple, isi_tup_list, isi_lst_int, isi_lst_bool, isi_lst_str, isi_lst_tuple, isi_lst_list, isi_non_int, isi_non_bool, isi_non_str, isi_non_tuple, isi_non_list, wipeD, dNever, chk_c, decide_true, decide_false, T_law_made, le, q0, q1, sl, unl4]
      rw [run_mkT]
  | [x0, x1], _ =>
    have le : lenD [.cell n] μ = .ok (.int 2) μ := le
    have q0 : eqD (.int 2) (.int 0) μ = .ok (.bl false) μ := by rw [eqD_int]; rfl
    have q1 : eqD (.int 2) (.int 1) μ = .ok (.bl false) μ := by rw [eqD_int]; rfl
    have q2 : eqD (.int 2) (.int 2) μ = .ok (.bl true) μ := by rw [eqD_int]; rfl
    have a0 : atI [x0, x1] 0 = some x0 := rfl
    have a1 : atI [x0, x1] 1 = some x1 := rfl
    refine ⟨(dCons (dVar 0) (dCons (dOp ixD (dVar 1) (dC (.int 0))) (dCons (dOp ixD (dVar 1) (dC (.int 1))) dNil))), [some (.lst (wsD ws)), some (.cell n), none, none, none, none, none, none, none, none], ?_, ?_⟩
    · simp only [dSeq, dIf, dB, dAnd, dOr, dNot, dAsg, dOp, dVar, dC, dCB, dCons, dNil, dName, dRet, dRetN, dDrop, dNext, dIfE, dAndV, dOrV, dNotV, dUn, dSl, dNoPart, dPart, dPar, dPar3, dTup, dLst, dGTup, dGCons, dGNil, dChain, dIsN, dNotN, isN, dCont, dBreak, dGSub, dSeqI, items_lst, items_tup, dZip2, dZip3, dEnum, still_lst, still_tup, dFor, dFld, dLenOf, dM1, look_0, look_s, bind_ok, to_ok, then_nx, then_rt, then_ct, then_bk, turn_nx, turn_ct, turn_rt, turn_bk, run_rt, run_nx, onB_bl, okO_some, noX_ok, addD_int, subD_int, ltD_int, cmpD_int, fLe, fGe, fGt, intD_int, if_true, if_false, Bool.false_eq_true, Bool.not_true, Bool.not_false, List.set_cons_succ, List.set_cons_zero, ixD_lst, ixD_tup, lenD_lst, lenD_tup, List.length_cons, List.length_nil, isi_int_int, isi_int_bool, isi_int_str, isi_int_tuple, isi_int_list, isi_bl_int, isi_bl_bool, isi_bl_str, isi_bl_tuple, isi_bl_list, isi_str_int, isi_str_bool, isi_str_str, isi_str_tuple, isi_str_list, isi_tup_int, isi_tup_bool, isi_tup_str, isi_tup_tuple, isi_tup_list, isi_lst_int, isi_lst_bool, isi_lst_str, isi_lst_tuple, isi_lst_list, isi_non_int, isi_non_bool, isi_non_str, isi_non_tuple, isi_non_list, wipeD, dNever, chk_c, decide_true, decide_false, ix, a0, a1]
    · simp only [dSeq, dIf, dB, dAnd, dOr, dNot, dAsg, dOp, dVar, dC, dCB, dCons, dNil, dName, dRet, dRetN, dDrop, dNext, dIfE, dAndV, dOrV, dNotV, dUn, dSl, dNoPart, dPart, dPar, dPar3, dTup, dLst, dGTup, dGCons, dGNil, dChain, dIsN, dNotN, isN, dCont, dBreak, dGSub, dSeqI, items_lst, items_tup, dZip2, dZip3, dEnum, still_lst, still_tup, dFor, dFld, dLenOf, dM1, look_0, look_s, bind_ok, to_ok, then_nx, then_rt, then_ct, then_bk, turn_nx, turn_ct, turn_rt, turn_bk, run_rt, run_nx, onB_bl, okO_some, noX_ok, addD_int, subD_int, ltD_int, cmpD_int, fLe, fGe, fGt, intD_int, if_true, if_false, Bool.false_eq_true, Bool.not_true, Bool.not_false, List.set_cons_succ, List.set_cons_zero, ixD_lst, ixD_tup, lenD_lst, lenD_tup, List.length_cons, List.length_nil, isi_int_int, isi_int_bool, isi_int_str, isi_int_tuple, isi_int_list, isi_bl_int, isi_bl_bool, isi_bl_str, isi_bl_tuple, isi_bl_list, isi_str_int, isi_str_bool, isi_str_str, isi_str_tuple, isi_str_list, isi_tup_int, isi_tup_bool, isi_tup_str, isi_tup_tuple, isi_tup_list, isi_lst_int, isi_lst_bool, isi_lst_str, isi_lst_tuple, isi_lst_list, isi_non_int, isi_non_bool, isi_non_str, isi_non_tuple, isi_non_list, wipeD, dNever, chk_c, decide_true, decide_false, T_law_made, le, q0, q1, q2, sl, unl4]
      rw [run_mkT]
  | [x0, x1, x2], _ =>
    have le : lenD [.cell n] μ = .ok (.int 3) μ := le
    have q0 : eqD (.int 3) (.int 0) μ = .ok (.bl false) μ := by rw [eqD_int]; rfl
    have q1 : eqD (.int 3) (.int 1) μ = .ok (.bl false) μ := by rw [eqD_int]; rfl
    have q2 : eqD (.int 3) (.int 2) μ = .ok (.bl false) μ := by rw [eqD_int]; rfl
    have q3 : eqD (.int 3) (.int 3) μ = .ok (.bl true) μ := by rw [eqD_int]; rfl
    have a0 : atI [x0, x1, x2] 0 = some x0 := rfl
    have a1 : atI [x0, x1, x2] 1 = some x1 := rfl
    have a2 : atI [x0, x1, x2] 2 = some x2 := rfl
    refine ⟨(dCons (dVar 0) (dCons (dOp ixD (dVar 1) (dC (.int 0))) (dCons (dOp ixD (dVar 1) (dC (.int 1))) (dCons (dOp ixD (dVar 1) (dC (.int 2))) dNil)))), [some (.lst (wsD ws)), some (.cell n), none, none, none, none, none, none, none, none], ?_, ?_⟩
    · simp only [dSeq, dIf, dB, dAnd, dOr, dNot, dAsg, dOp, dVar, dC, dCB, dCons, dNil, dName, dRet, dRetN, dDrop, dNext, dIfE, dAndV, dOrV, dNotV, dUn, dSl, dNoPart, dPart, dPar, dPar3, dTup, dLst, dGTup, dGCons, dGNil, dChain, dIsN, dNotN, isN, dCont, dBreak, dGSub, dSeqI, items_lst, items_tup, dZip2, dZip3, dEnum, still_lst, still_tup, dFor, dFld, dLenOf, dM1, look_0, look_s, bind_ok, to_ok, then_nx, then_rt, then_ct, then_bk, turn_nx, turn_ct, turn_rt, turn_bk, run_rt, run_nx, onB_bl, okO_some, noX_ok, addD_int, subD_int, ltD_int, cmpD_int, fLe, fGe, fGt, intD_int, if_true, if_false, Bool.false_eq_true, Bool.not_true, Bool.not_false, List.set_cons_succ, List.set_cons_zero, ixD_lst, ixD_tup, lenD_lst, lenD_tup, List.length_cons, List.length_nil, isi_int_int, isi_int_bool, isi_int_str, isi_int_tuple, isi_int_list, isi_bl_int, isi_bl_bool, isi_bl_str, isi_bl_tuple, isi_bl_list, isi_str_int, isi_str_bool, isi_str_str, isi_str_tuple, isi_str_list, isi_tup_int, isi_tup_bool, isi_tup_str, isi_tup_tuple, isi_tup_list, isi_lst_int, isi_lst_bool, isi_lst_str, isi_lst_tuple, isi_lst_list, isi_non_int, isi_non_bool, isi_non_str, isi_non_tuple, isi_non_list, wipeD, dNever, chk_c, decide_true, decide_false, ix, a0, a1, a2]
    · simp only [dSeq, dIf, dB, dAnd, dOr, dNot, dAsg, dOp, dVar, dC, dCB, dCons, dNil, dName, dRet, dRetN, dDrop, dNext, dIfE, dAndV, dOrV, dNotV, dUn, dSl, dNoPart, dPart, dPar, dPar3, dTup, dLst, dGTup, dGCons, dGNil, dChain, dIsN, dNotN, isN, dCont, dBreak, dGSub, dSeqI, items_lst, items_tup, dZip2, dZip3, dEnum, still_lst, still_tup, dFor, dFld, dLenOf, dM1, look_0, look_s, bind_ok, to_ok, then_nx, then_rt, then_ct, then_bk, turn_nx, turn_ct, turn_rt, turn_bk, run_rt, run_nx, onB_bl, okO_some, noX_ok, addD_int, subD_int, ltD_int, cmpD_int, fLe, fGe, fGt, intD_int, if_true, if_false, Bool.false_eq_true, Bool.not_true, Bool.not_false, List.set_cons_succ, List.set_cons_zero, ixD_lst, ixD_tup, lenD_lst, lenD_tup, List.length_cons, List.length_nil, isi_int_int, isi_int_bool, isi_int_str, isi_int_tuple, isi_int_list, isi_bl_int, isi_bl_bool, isi_bl_str, isi_bl_tuple, isi_bl_list, isi_str_int, isi_str_bool, isi_str_str, isi_str_tuple, isi_str_list, isi_tup_int, isi_tup_bool, isi_tup_str, isi_tup_tuple, isi_tup_list, isi_lst_int, isi_lst_bool, isi_lst_str, isi_lst_tuple, isi_lst_list, isi_non_int, isi_non_bool, isi_non_str, isi_non_tuple, isi_non_list, wipeD, dNever, chk_c, decide_true, decide_false, T_law_made, le, q0, q1, q2, q3, sl, unl4]
      rw [run_mkT]
  | [x0, x1, x2, x3], _ =>
    have le : lenD [.cell n] μ = .ok (.int 4) μ := le
    have q0 : eqD (.int 4) (.int 0) μ = .ok (.bl false) μ := by rw [eqD_int]; rfl
    have q1 : eqD (.int 4) (.int 1) μ = .ok (.bl false) μ := by rw [eqD_int]; rfl
    have q2 : eqD (.int 4) (.int 2) μ = .ok (.bl false) μ := by rw [eqD_int]; rfl
    have q3 : eqD (.int 4) (.int 3) μ = .ok (.bl false) μ := by rw [eqD_int]; rfl
    have q4 : eqD (.int 4) (.int 4) μ = .ok (.bl true) μ := by rw [eqD_int]; rfl
    have c4 : cut [x0, x1, x2, x3] none (some 4) = [x0, x1, x2, x3] := rfl
    refine ⟨(dCons (dVar 0) (dCons (dVar 2) (dCons (dVar 3) (dCons (dVar 4) (dCons (dVar 5) dNil))))), [some (.lst (wsD ws)), some (.cell n), some x0, some x1, some x2, some x3, none, none, none, none], ?_, ?_⟩
    · simp only [dSeq, dIf, dB, dAnd, dOr, dNot, dAsg, dOp, dVar, dC, dCB, dCons, dNil, dName, dRet, dRetN, dDrop, dNext, dIfE, dAndV, dOrV, dNotV, dUn, dSl, dNoPart, dPart, dPar, dPar3, dTup, dLst, dGTup, dGCons, dGNil, dChain, dIsN, dNotN, isN, dCont, dBreak, dGSub, dSeqI, items_lst, items_tup, dZip2, dZip3, dEnum, still_lst, still_tup, dFor, dFld, dLenOf, dM1, look_0, look_s, bind_ok, to_ok, then_nx, then_rt, then_ct, then_bk, turn_nx, turn_ct, turn_rt, turn_bk, run_rt, run_nx, onB_bl, okO_some, noX_ok, addD_int, subD_int, ltD_int, cmpD_int, fLe, fGe, fGt, intD_int, if_true, if_false, Bool.false_eq_true, Bool.not_true, Bool.not_false, List.set_cons_succ, List.set_cons_zero, ixD_lst, ixD_tup, lenD_lst, lenD_tup, List.length_cons, List.length_nil, isi_int_int, isi_int_bool, isi_int_str, isi_int_tuple, isi_int_list, isi_bl_int, isi_bl_bool, isi_bl_str, isi_bl_tuple, isi_bl_list, isi_str_int, isi_str_bool, isi_str_str, isi_str_tuple, isi_str_list, isi_tup_int, isi_tup_bool, isi_tup_str, isi_tup_tuple, isi_tup_list, isi_lst_int, isi_lst_bool, isi_lst_str, isi_lst_tuple, isi_lst_list, isi_non_int, isi_non_bool, isi_non_str, isi_non_tuple, isi_non_list, wipeD, dNever, chk_c, decide_true, decide_false, ix]
    · simp only [dSeq, dIf, dB, dAnd, dOr, dNot, dAsg, dOp, dVar, dC, dCB, dCons, dNil, dName, dRet, dRetN, dDrop, dNext, dIfE, dAndV, dOrV, dNotV, dUn, dSl, dNoPart, dPart, dPar, dPar3, dTup, dLst, dGTup, dGCons, dGNil, dChain, dIsN, dNotN, isN, dCont, dBreak, dGSub, dSeqI, items_lst, items_tup, dZip2, dZip3, dEnum, still_lst, still_tup, dFor, dFld, dLenOf, dM1, look_0, look_s, bind_ok, to_ok, then_nx, then_rt, then_ct, then_bk, turn_nx, turn_ct, turn_rt, turn_bk, run_rt, run_nx, onB_bl, okO_some, noX_ok, addD_int, subD_int, ltD_int, cmpD_int, fLe, fGe, fGt, intD_int, if_true, if_false, Bool.false_eq_true, Bool.not_true, Bool.not_false, List.set_cons_succ, List.set_cons_zero, ixD_lst, ixD_tup, lenD_lst, lenD_tup, List.length_cons, List.length_nil, isi_int_int, isi_int_bool, isi_int_str, isi_int_tuple, isi_int_list, isi_bl_int, isi_bl_bool, isi_bl_str, isi_bl_tuple, isi_bl_list, isi_str_int, isi_str_bool, isi_str_str, isi_str_tuple, isi_str_list, isi_tup_int, isi_tup_bool, isi_tup_str, isi_tup_tuple, isi_tup_list, isi_lst_int, isi_lst_bool, isi_lst_str, isi_lst_tuple, isi_lst_list, isi_non_int, isi_non_bool, isi_non_str, isi_non_tuple, isi_non_list, wipeD, dNever, chk_c, decide_true, decide_false, T_law_made, le, q0, q1, q2, q3, q4, c4, sl, unl4]
      rw [run_mkT]
  | [x0, x1, x2, x3, x4, x5, x6, x7], _ =>
    have le : lenD [.cell n] μ = .ok (.int 8) μ := le
    have q0 : eqD (.int 8) (.int 0) μ = .ok (.bl false) μ := by rw [eqD_int]; rfl
    have q1 : eqD (.int 8) (.int 1) μ = .ok (.bl false) μ := by rw [eqD_int]; rfl
    have q2 : eqD (.int 8) (.int 2) μ = .ok (.bl false) μ := by rw [eqD_int]; rfl
    have q3 : eqD (.int 8) (.int 3) μ = .ok (.bl false) μ := by rw [eqD_int]; rfl
    have q4 : eqD (.int 8) (.int 4) μ = .ok (.bl false) μ := by rw [eqD_int]; rfl
    have q8 : eqD (.int 8) (.int 8) μ = .ok (.bl true) μ := by rw [eqD_int]; rfl
    have c4 : cut [x0, x1, x2, x3, x4, x5, x6, x7] none (some 4) = [x0, x1, x2, x3] := rfl
    have c5 : cut [x0, x1, x2, x3, x4, x5, x6, x7] (some 4) none = [x4, x5, x6, x7] := rfl
    have ad : addD (.lst [x4, x5, x6, x7]) (.lst [x0, x1, x2, x3]) μ = .ok (.lst [x4, x5, x6, x7, x0, x1, x2, x3]) μ := add_ls (by simp)
    have c6 : cut [x4, x5, x6, x7, x0, x1, x2, x3] none (some 4) = [x4, x5, x6, x7] := rfl
    refine ⟨(dCons (dVar 0) (dCons (dVar 2) (dCons (dVar 3) (dCons (dVar 4) (dCons (dVar 5) (dCons (dVar 6) (dCons (dVar 7) (dCons (dVar 8) (dCons (dVar 9) dNil))))))))), [some (.lst (wsD ws)), some (.cell n), some x0, some x1, some x2, some x3, some x4, some x5, some x6, some x7], ?_, ?_⟩
    · simp only [dSeq, dIf, dB, dAnd, dOr, dNot, dAsg, dOp, dVar, dC, dCB, dCons, dNil, dName, dRet, dRetN, dDrop, dNext, dIfE, dAndV, dOrV, dNotV, dUn, dSl, dNoPart, dPart, dPar, dPar3, dTup, dLst, dGTup, dGCons, dGNil, dChain, dIsN, dNotN, isN, dCont, dBreak, dGSub, dSeqI, items_lst, items_tup, dZip2, dZip3, dEnum, still_lst, still_tup, dFor, dFld, dLenOf, dM1, look_0, look_s, bind_ok, to_ok, then_nx, then_rt, then_ct, then_bk, turn_nx, turn_ct, turn_rt, turn_bk, run_rt, run_nx, onB_bl, okO_some, noX_ok, addD_int, subD_int, ltD_int, cmpD_int, fLe, fGe, fGt, intD_int, if_true, if_false, Bool.false_eq_true, Bool.not_true, Bool.not_false, List.set_cons_succ, List.set_cons_zero, ixD_lst, ixD_tup, lenD_lst, lenD_tup, List.length_cons, List.length_nil, isi_int_int, isi_int_bool, isi_int_str, isi_int_tuple, isi_int_list, isi_bl_int, isi_bl_bool, isi_bl_str, isi_bl_tuple, isi_bl_list, isi_str_int, isi_str_bool, isi_str_str, isi_str_tuple, isi_str_list, isi_tup_int, isi_tup_bool, isi_tup_str, isi_tup_tuple, isi_tup_list, isi_lst_int, isi_lst_bool, isi_lst_str, isi_lst_tuple, isi_lst_list, isi_non_int, isi_non_bool, isi_non_str, isi_non_tuple, isi_non_list, wipeD, dNever, chk_c, decide_true, decide_false, ix]
    · simp only [dSeq, dIf, dB, dAnd, dOr, dNot, dAsg, dOp, dVar, dC, dCB, dCons, dNil, dName, dRet, dRetN, dDrop, dNext, dIfE, dAndV, dOrV, dNotV, dUn, dSl, dNoPart, dPart, dPar, dPar3, dTup, dLst, dGTup, dGCons, dGNil, dChain, dIsN, dNotN, isN, dCont, dBreak, dGSub, dSeqI, items_lst, items_tup, dZip2, dZip3, dEnum, still_lst, still_tup, dFor, dFld, dLenOf, dM1, look_0, look_s, bind_ok, to_ok, then_nx, then_rt, then_ct, then_bk, turn_nx, turn_ct, turn_rt, turn_bk, run_rt, run_nx, onB_bl, okO_some, noX_ok, addD_int, subD_int, ltD_int, cmpD_int, fLe, fGe, fGt, intD_int, if_true, if_false, Bool.false_eq_true, Bool.not_true, Bool.not_false, List.set_cons_succ, List.set_cons_zero, ixD_lst, ixD_tup, lenD_lst, lenD_tup, List.length_cons, List.length_nil, isi_int_int, isi_int_bool, isi_int_str, isi_int_tuple, isi_int_list, isi_bl_int, isi_bl_bool, isi_bl_str, isi_bl_tuple, isi_bl_list, isi_str_int, isi_str_bool, isi_str_str, isi_str_tuple, isi_str_list, isi_tup_int, isi_tup_bool, isi_tup_str, isi_tup_tuple, isi_tup_list, isi_lst_int, isi_lst_bool, isi_lst_str, isi_lst_tuple, isi_lst_list, isi_non_int, isi_non_bool, isi_non_str, isi_non_tuple, isi_non_list, wipeD, dNever, chk_c, decide_true, decide_false, T_law_made, le, q0, q1, q2, q3, q4, q8, c4, c5, ad, slD_lst, c6, sl, unl4]
      rw [run_mkT]
  | [x0, x1, x2, x3, x4, x5, x6, x7, x8], _ =>
    have le : lenD [.cell n] μ = .ok (.int 9) μ := le
    have q0 : eqD (.int 9) (.int 0) μ = .ok (.bl false) μ := by rw [eqD_int]; rfl
    have q1 : eqD (.int 9) (.int 1) μ = .ok (.bl false) μ := by rw [eqD_int]; rfl
    have q2 : eqD (.int 9) (.int 2) μ = .ok (.bl false) μ := by rw [eqD_int]; rfl
    have q3 : eqD (.int 9) (.int 3) μ = .ok (.bl false) μ := by rw [eqD_int]; rfl
    have q4 : eqD (.int 9) (.int 4) μ = .ok (.bl false) μ := by rw [eqD_int]; rfl
    have q8 : eqD (.int 9) (.int 8) μ = .ok (.bl false) μ := by rw [eqD_int]; rfl
    have al : atI [x0, x1, x2, x3, x4, x5, x6, x7, x8] (-1) = some x8 := rfl
    have c4 : cut [x0, x1, x2, x3, x4, x5, x6, x7, x8] none (some 4) = [x0, x1, x2, x3] := rfl
    have c5 : cut [x0, x1, x2, x3, x4, x5, x6, x7, x8] (some 4) none = [x4, x5, x6, x7, x8] := rfl
    have ad : addD (.lst [x4, x5, x6, x7, x8]) (.lst [x0, x1, x2, x3]) μ = .ok (.lst [x4, x5, x6, x7, x8, x0, x1, x2, x3]) μ := add_ls (by simp)
    have c6 : cut [x4, x5, x6, x7, x8, x0, x1, x2, x3] none (some 4) = [x4, x5, x6, x7] := rfl
    refine ⟨(dCons (dVar 0) (dCons (dVar 2) (dCons (dVar 3) (dCons (dVar 4) (dCons (dVar 5) (dCons (dVar 6) (dCons (dVar 7) (dCons (dVar 8) (dCons (dVar 9) (dCons (dOp ixD (dVar 1) (dUn negD (dC (.int 1)))) dNil)))))))))), [some (.lst (wsD ws)), some (.cell n), some x0, some x1, some x2, some x3, some x4, some x5, some x6, some x7], ?_, ?_⟩
    · simp only [dSeq, dIf, dB, dAnd, dOr, dNot, dAsg, dOp, dVar, dC, dCB, dCons, dNil, dName, dRet, dRetN, dDrop, dNext, dIfE, dAndV, dOrV, dNotV, dUn, dSl, dNoPart, dPart, dPar, dPar3, dTup, dLst, dGTup, dGCons, dGNil, dChain, dIsN, dNotN, isN, dCont, dBreak, dGSub, dSeqI, items_lst, items_tup, dZip2, dZip3, dEnum, still_lst, still_tup, dFor, dFld, dLenOf, dM1, look_0, look_s, bind_ok, to_ok, then_nx, then_rt, then_ct, then_bk, turn_nx, turn_ct, turn_rt, turn_bk, run_rt, run_nx, onB_bl, okO_some, noX_ok, addD_int, subD_int, ltD_int, cmpD_int, fLe, fGe, fGt, intD_int, if_true, if_false, Bool.false_eq_true, Bool.not_true, Bool.not_false, List.set_cons_succ, List.set_cons_zero, ixD_lst, ixD_tup, lenD_lst, lenD_tup, List.length_cons, List.length_nil, isi_int_int, isi_int_bool, isi_int_str, isi_int_tuple, isi_int_list, isi_bl_int, isi_bl_bool, isi_bl_str, isi_bl_tuple, isi_bl_list, isi_str_int, isi_str_bool, isi_str_str, isi_str_tuple, isi_str_list, isi_tup_int, isi_tup_bool, isi_tup_str, isi_tup_tuple, isi_tup_list, isi_lst_int, isi_lst_bool, isi_lst_str, isi_lst_tuple, isi_lst_list, isi_non_int, isi_non_bool, isi_non_str, isi_non_tuple, isi_non_list, wipeD, dNever, chk_c, decide_true, decide_false, ix, al, negD_int]
    · simp only [dSeq, dIf, dB, dAnd, dOr, dNot, dAsg, dOp, dVar, dC, dCB, dCons, dNil, dName, dRet, dRetN, dDrop, dNext, dIfE, dAndV, dOrV, dNotV, dUn, dSl, dNoPart, dPart, dPar, dPar3, dTup, dLst, dGTup, dGCons, dGNil, dChain, dIsN, dNotN, isN, dCont, dBreak, dGSub, dSeqI, items_lst, items_tup, dZip2, dZip3, dEnum, still_lst, still_tup, dFor, dFld, dLenOf, dM1, look_0, look_s, bind_ok, to_ok, then_nx, then_rt, then_ct, then_bk, turn_nx, turn_ct, turn_rt, turn_bk, run_rt, run_nx, onB_bl, okO_some, noX_ok, addD_int, subD_int, ltD_int, cmpD_int, fLe, fGe, fGt, intD_int, if_true, if_false, Bool.false_eq_true, Bool.not_true, Bool.not_false, List.set_cons_succ, List.set_cons_zero, ixD_lst, ixD_tup, lenD_lst, lenD_tup, List.length_cons, List.length_nil, isi_int_int, isi_int_bool, isi_int_str, isi_int_tuple, isi_int_list, isi_bl_int, isi_bl_bool, isi_bl_str, isi_bl_tuple, isi_bl_list, isi_str_int, isi_str_bool, isi_str_str, isi_str_tuple, isi_str_list, isi_tup_int, isi_tup_bool, isi_tup_str, isi_tup_tuple, isi_tup_list, isi_lst_int, isi_lst_bool, isi_lst_str, isi_lst_tuple, isi_lst_list, isi_non_int, isi_non_bool, isi_non_str, isi_non_tuple, isi_non_list, wipeD, dNever, chk_c, decide_true, decide_false, T_law_made, le, q0, q1, q2, q3, q4, q8, c4, c5, ad, slD_lst, c6, sl, unl4]
      rw [run_mk]
end Lw

namespace Lw
open PySem L2 DX
/-! ### bent ones -/
def oddB : List D := [.int (-1), .int 10, .int 9, .int (10 ^ 9), .bl true, .non, .str "a", .int 0]
theorem oddB_flat : ∀ x ∈ oddB, FlatA x := by
  intro x hx
  simp only [oddB, List.mem_cons, List.not_mem_nil, or_false] at hx
  rcases hx with rfl | rfl | rfl | rfl | rfl | rfl | rfl | rfl
  · exact .inl ⟨_, rfl⟩
  · exact .inl ⟨_, rfl⟩
  · exact .inl ⟨_, rfl⟩
  · exact .inl ⟨_, rfl⟩
  · exact .inr (.inl ⟨_, rfl⟩)
  · exact .inr (.inr (.inl rfl))
  · exact .inr (.inr (.inr ⟨_, rfl, by decide +kernel⟩))
  · exact .inl ⟨_, rfl⟩
theorem iD_flat {l : List Int} : ∀ x ∈ iD l, FlatA x := fun x hx => by
  obtain ⟨n, _, rfl⟩ := ints_mem hx
  exact .inl ⟨n, rfl⟩
theorem pow9 {μ : Mu} : powD (.int 10) (.int 9) μ = .ok (.int (10 ^ 9)) μ := grd_pos ⟨by decide, by decide, by decide⟩
theorem bent_bundle_ok {b : Nat} {μ : Mu} {l : List Int} (hb : HasBox b μ) (h1 : 1 ≤ l.length) (h2 : l.length ≤ 900) : ∃ p μ', f_law_bent_bundle [.cell b, .tup (iD l), .int 9] μ = .ok p μ' ∧ Pt p ∧ Nx b μ μ' := by
  have e0 : f_law_bent_bundle [.cell b, .tup (iD l), .int 9] μ = fz μ (SR.run (T_law_bent_bundle [some (.cell b), some (.tup (iD l)), some (.int 9), none, none] μ)) := defR_ok rfl
  obtain ⟨k, μ1, e1, k0, k1, n1⟩ := draw_nx (many := (l.length : Int)) hb (by omega) (by omega)
  obtain ⟨o, m2, e2, ho, hm2⟩ := any_ok (b := b) (μ := μ1) (r := .lst oddB) (xs := oddB) (n1.box hb) (.inl rfl) (by simp [oddB]) (by simp [oddB])
  have n2 : Nx b μ (μ1.set b m2) := n1.trans (.inr ⟨m2, hm2, rfl⟩)
  have fo := oddB_flat o ho
  generalize hμ2 : μ1.set b m2 = μ2 at e2 n2
  have c1 : cut (iD l) none (some k) = (iD l).take k.toNat := cut_take _ k0
  have c2 : cut (iD l) (some (k + 1)) none = (iD l).drop (k + 1).toNat := cut_drop _ (by omega)
  have c3 : cut (iD l) (some 1) none = (iD l).drop 1 := cut_drop _ (by decide)
  have il : (iD l).length = l.length := ints_len
  have a1 : ∀ ν : Mu, addD (.tup ((iD l).take k.toNat)) (.tup [o]) ν = .ok (.tup ((iD l).take k.toNat ++ [o])) ν := fun ν => add_tup (by rw [List.length_take]; simp only [List.length_cons, List.length_nil]; omega)
  have a2 : ∀ ν : Mu, addD (.tup ((iD l).take k.toNat ++ [o])) (.tup ((iD l).drop (k + 1).toNat)) ν = .ok (.tup ((iD l).take k.toNat ++ [o] ++ (iD l).drop (k + 1).toNat)) ν := fun ν => add_tup (by rw [List.length_append, List.length_take, List.length_drop]; simp only [List.length_cons, List.length_nil]; omega)
  have a3 : ∀ ν : Mu, addD (.tup (iD l)) (.tup [.int 0]) ν = .ok (.tup (iD l ++ [.int 0])) ν := fun ν => add_tup (by simp only [List.length_cons, List.length_nil]; omega)
  let ys : List D := [.tup ((iD l).take k.toNat ++ [o] ++ (iD l).drop (k + 1).toNat), .tup (iD l ++ [.int 0]), .tup ((iD l).drop 1), .tup []]
  obtain ⟨p, m3, e3, hp, hm3⟩ := any_ok (b := b) (μ := μ2) (r := .lst ys) (xs := ys) (n2.box hb) (.inl rfl) (by simp [ys]) (by simp [ys])
  refine ⟨p, _, ?_, ?_, n2.trans (.inr ⟨m3, hm3, rfl⟩)⟩
  · rw [e0]
    have e2' : f_law_any [.cell b, .lst [.int (-1), .int (9 + 1), .int 9, .int (10 ^ 9), .bl true, .non, .str "a", .int 0]] μ1 = .ok o μ2 := e2
    have e3' : f_law_any [.cell b, .lst [.tup ((iD l).take k.toNat ++ [o] ++ (iD l).drop (k + 1).toNat), .tup (iD l ++ [.int 0]), .tup ((iD l).drop 1), .tup []]] μ2 = .ok p (μ2.set b m3) := e3
    simp only [dSeq, dIf, dB, dAnd, dOr, dNot, dAsg, dOp, dVar, dC, dCB, dCons, dNil, dName, dRet, dRetN, dDrop, dNext, dIfE, dAndV, dOrV, dNotV, dUn, dSl, dNoPart, dPart, dPar, dPar3, dTup, dLst, dGTup, dGCons, dGNil, dChain, dIsN, dNotN, isN, dCont, dBreak, dGSub, dSeqI, items_lst, items_tup, dZip2, dZip3, dEnum, still_lst, still_tup, dFor, dFld, dLenOf, dM1, look_0, look_s, bind_ok, to_ok, then_nx, then_rt, then_ct, then_bk, turn_nx, turn_ct, turn_rt, turn_bk, run_rt, run_nx, onB_bl, okO_some, noX_ok, addD_int, subD_int, ltD_int, cmpD_int, fLe, fGe, fGt, intD_int, if_true, if_false, Bool.false_eq_true, Bool.not_true, Bool.not_false, List.set_cons_succ, List.set_cons_zero, ixD_lst, ixD_tup, lenD_lst, lenD_tup, List.length_cons, List.length_nil, isi_int_int, isi_int_bool, isi_int_str, isi_int_tuple, isi_int_list, isi_bl_int, isi_bl_bool, isi_bl_str, isi_bl_tuple, isi_bl_list, isi_str_int, isi_str_bool, isi_str_str, isi_str_tuple, isi_str_list, isi_tup_int, isi_tup_bool, isi_tup_str, isi_tup_tuple, isi_tup_list, isi_lst_int, isi_lst_bool, isi_lst_str, isi_lst_tuple, isi_lst_list, isi_non_int, isi_non_bool, isi_non_str, isi_non_tuple, isi_non_list, wipeD, dNever, chk_c, decide_true, decide_false, T_law_bent_bundle, il, e1, negD_int, pow9, e2', slD_tup, c1, c2, c3, a1, a2, a3, e3', chk_c (show (0 + 1 + 1 + 1 + 1 + 1 + 1 + 1 + 1 : Nat) ≤ 16777216 by decide), chk_c (show (0 + 1 + 1 + 1 + 1 : Nat) ≤ 16777216 by decide), chk_c (show (0 + 1 : Nat) ≤ 16777216 by decide), chk_c (show (0 : Nat) ≤ 16777216 by decide)]
    exact fz_nx (n2.trans (.inr ⟨m3, hm3, rfl⟩))
  · simp only [ys, List.mem_cons, List.not_mem_nil, or_false] at hp
    rcases hp with rfl | rfl | rfl | rfl
    · refine .inl ⟨_, rfl, by rw [List.length_append, List.length_append, List.length_take, List.length_drop]; simp only [List.length_cons, List.length_nil]; omega, fun x hx => ?_⟩
      rcases List.mem_append.mp hx with hx | hx
      · rcases List.mem_append.mp hx with hx | hx
        · exact iD_flat x (List.mem_of_mem_take hx)
        · rw [List.mem_singleton.mp hx]; exact fo
      · exact iD_flat x (List.mem_of_mem_drop hx)
    · refine .inl ⟨_, rfl, by rw [List.length_append]; simp only [List.length_cons, List.length_nil]; omega, fun x hx => ?_⟩
      rcases List.mem_append.mp hx with hx | hx
      · exact iD_flat x hx
      · rw [List.mem_singleton.mp hx]; exact .inl ⟨_, rfl⟩
    · exact .inl ⟨_, rfl, by rw [List.length_drop]; omega, fun x hx => iD_flat x (List.mem_of_mem_drop hx)⟩
    · exact .inl ⟨_, rfl, by simp, fun x hx => by cases hx⟩
theorem bent_barter_ok {b : Nat} {μ : Mu} {p : List Int × List Int} (hb : HasBox b μ) (h1 : 1 ≤ p.1.length) (h2 : p.1.length ≤ 900) (h3 : p.2.length ≤ 900) : ∃ c μ', f_law_bent_barter [.cell b, bD p] μ = .ok c μ' ∧ Cd c ∧ Nx b μ μ' := by
  obtain ⟨l, r⟩ := p
  have e0 : f_law_bent_barter [.cell b, bD (l, r)] μ = fz μ (SR.run (T_law_bent_barter [some (.cell b), some (.tup [.tup (iD l), .tup (iD r)]), none, none, none, none] μ)) := defR_ok rfl
  obtain ⟨z, μ1, e1, hz, n1⟩ := bent_bundle_ok (l := l) hb h1 h2
  have pl : Pt (.tup (iD l)) := pt_ints (show l.length ≤ 1000 from Nat.le_trans h2 (by decide))
  have pr : Pt (.tup (iD r)) := pt_ints (show r.length ≤ 1000 from Nat.le_trans h3 (by decide))
  let ys : List D := [.tup [z, .tup (iD r)], .tup [.tup (iD l), z], .tup [.tup (iD l), .tup (iD l)], .tup [.tup (iD l)], .tup [], .tup [.tup (iD l), .tup (iD r), .tup (iD l)], .tup [.non, .tup (iD r)], .tup [.tup (iD l), .str "ab"], .tup [.tup (iD r), .tup (iD l)]]
  obtain ⟨c, m3, e3, hc, hm3⟩ := any_ok (b := b) (μ := μ1) (r := .lst ys) (xs := ys) (n1.box hb) (.inl rfl) (by simp [ys]) (by simp [ys])
  refine ⟨c, _, ?_, ?_, n1.trans (.inr ⟨m3, hm3, rfl⟩)⟩
  · rw [e0]
    have ea : addD (.lst [.tup [z, .tup (iD r)], .tup [.tup (iD l), z], .tup [.tup (iD l), .tup (iD l)], .tup [.tup (iD l)], .tup [], .tup [.tup (iD l), .tup (iD r), .tup (iD l)], .tup [.non, .tup (iD r)]]) (.lst [.tup [.tup (iD l), .str "ab"], .tup [.tup (iD r), .tup (iD l)]]) μ1 = .ok (.lst ys) μ1 := add_ls (by simp)
    simp only [dSeq, dIf, dB, dAnd, dOr, dNot, dAsg, dOp, dVar, dC, dCB, dCons, dNil, dName, dRet, dRetN, dDrop, dNext, dIfE, dAndV, dOrV, dNotV, dUn, dSl, dNoPart, dPart, dPar, dPar3, dTup, dLst, dGTup, dGCons, dGNil, dChain, dIsN, dNotN, isN, dCont, dBreak, dGSub, dSeqI, items_lst, items_tup, dZip2, dZip3, dEnum, still_lst, still_tup, dFor, dFld, dLenOf, dM1, look_0, look_s, bind_ok, to_ok, then_nx, then_rt, then_ct, then_bk, turn_nx, turn_ct, turn_rt, turn_bk, run_rt, run_nx, onB_bl, okO_some, noX_ok, addD_int, subD_int, ltD_int, cmpD_int, fLe, fGe, fGt, intD_int, if_true, if_false, Bool.false_eq_true, Bool.not_true, Bool.not_false, List.set_cons_succ, List.set_cons_zero, ixD_lst, ixD_tup, lenD_lst, lenD_tup, List.length_cons, List.length_nil, isi_int_int, isi_int_bool, isi_int_str, isi_int_tuple, isi_int_list, isi_bl_int, isi_bl_bool, isi_bl_str, isi_bl_tuple, isi_bl_list, isi_str_int, isi_str_bool, isi_str_str, isi_str_tuple, isi_str_list, isi_tup_int, isi_tup_bool, isi_tup_str, isi_tup_tuple, isi_tup_list, isi_lst_int, isi_lst_bool, isi_lst_str, isi_lst_tuple, isi_lst_list, isi_non_int, isi_non_bool, isi_non_str, isi_non_tuple, isi_non_list, wipeD, dNever, chk_c, decide_true, decide_false, T_law_bent_barter, e1, chk_c (show (0 + 1 + 1 + 1 + 1 + 1 + 1 + 1 : Nat) ≤ 16777216 by decide), chk_c (show (0 + 1 + 1 + 1 : Nat) ≤ 16777216 by decide), chk_c (show (0 + 1 + 1 : Nat) ≤ 16777216 by decide), chk_c (show (0 + 1 : Nat) ≤ 16777216 by decide), chk_c (show (0 : Nat) ≤ 16777216 by decide), ea, e3]
    exact fz_nx (n1.trans (.inr ⟨m3, hm3, rfl⟩))
  · have of : ∀ ps : List D, ps.length ≤ 10 → (∀ p ∈ ps, Pt p) → Cd (.tup ps) := fun ps hl h => ⟨ps, rfl, hl, h⟩
    have q1 : ∀ p ∈ ([] : List D), Pt p := fun p hp => by cases hp
    have qc : ∀ {a : D} {l : List D}, Pt a → (∀ p ∈ l, Pt p) → ∀ p ∈ a :: l, Pt p := fun ha hl p hp => by
      rcases List.mem_cons.mp hp with rfl | hp
      · exact ha
      · exact hl p hp
    simp only [ys, List.mem_cons, List.not_mem_nil, or_false] at hc
    rcases hc with rfl | rfl | rfl | rfl | rfl | rfl | rfl | rfl | rfl
    · exact of _ (by simp) (qc hz (qc pr q1))
    · exact of _ (by simp) (qc pl (qc hz q1))
    · exact of _ (by simp) (qc pl (qc pl q1))
    · exact of _ (by simp) (qc pl q1)
    · exact of _ (by simp) q1
    · exact of _ (by simp) (qc pl (qc pr (qc pl q1)))
    · exact of _ (by simp) (qc (.inr (.inl rfl)) (qc pr q1))
    · exact of _ (by simp) (qc pl (qc (.inr (.inr ⟨_, rfl, by decide +kernel⟩)) q1))
    · exact of _ (by simp) (qc pr (qc pl q1))
end Lw

namespace Lw
open PySem L2 DX
theorem barters_kp {b w : Nat} {μ : Mu} {cap : Int} {many : Nat} (hb : HasBox b μ) (hc : Clean μ) (hw0 : 1 ≤ w) (hw : w ≤ 1000) (h0 : 0 ≤ cap) (h1 : cap ≤ 9) (hm : many ≤ 1000) :
    ∃ ps μ', f_law_barters [.cell b, .int w, .int many, .int cap] μ = .ok (.cell μ.length) (μ' ++ [.lst (rowD ps)]) ∧ ps.length = many ∧ (∀ p ∈ ps, Bt w 9 p) ∧ Nx b μ μ' := by
  have hr : dRng1 (dCons (dVar 2) dNil) [some (.cell b), some (.int w), some (.int many), some (.int cap), some (.cell μ.length), none, none, none] (μ ++ [.lst (rowD [])]) = .ok (rangeD 0 ((many : Int)).toNat) (μ ++ [.lst (rowD [])]) := rng_ok rfl (by omega) (by omega)
  rw [Int.toNat_natCast] at hr
  obtain ⟨η', μ', e, x5, x6, x7, ps, ν, rfl, rfl, hn, hps, hl⟩ := forR_go (G := dName 5) (T := B1_law_barters) (fun r η μ' => ∃ x5 x6 x7 ps ν, η = [some (.cell b), some (.int w), some (.int many), some (.int cap), some (.cell μ.length), x5, x6, x7] ∧ μ' = ν ++ [.lst (rowD ps)] ∧ Nx b μ ν ∧ (∀ p ∈ ps, Bt w 9 p) ∧ r.length + ps.length = many)
    (fun x r η μ' hI => by
      obtain ⟨x5, x6, x7, ps, ν, rfl, rfl, hn, hps, hl⟩ := hI
      simp only [List.length_cons] at hl
      obtain ⟨y6, y7, ν', p, e, hn', hp⟩ := bart_step (μ := μ) (many := many) (x5 := some x) (x6 := x6) (x7 := x7) (hn.box hb) hw0 hw h0 h1 (n := μ.length) hn.len (ps := ps) (by omega)
      refine ⟨_, _, _, _, rfl, .inl e, some x, y6, y7, ps ++ [p], ν', rfl, rfl, hn.trans hn', fun q hq => ?_, ?_⟩
      · rcases List.mem_append.mp hq with hq | hq
        · exact hps q hq
        · rw [List.mem_singleton.mp hq]; exact hp
      · rw [List.length_append]; simp only [List.length_cons, List.length_nil]; omega)
    (rangeD 0 many) [some (.cell b), some (.int w), some (.int many), some (.int cap), some (.cell μ.length), none, none, none] (μ ++ [.lst (rowD [])]) ⟨none, none, none, [], μ, rfl, rfl, .refl, (fun p hp => by cases hp), by rw [range_len]; rfl⟩
  refine ⟨ps, ν, ?_, by simpa using hl, hps, hn⟩
  have e0 : f_law_barters [.cell b, .int w, .int many, .int cap] μ = kp μ (SR.run (T_law_barters [some (.cell b), some (.int w), some (.int many), some (.int cap), none, none, none, none] μ)) := defR_ok rfl
  rw [e0]
  have hcl : cleans (rowD ps) = true := cleans_of fun x hx => by
    obtain ⟨p, hp, rfl⟩ := List.mem_map.mp hx
    have := hps p hp
    exact plain_clean 2 _ (bD_plain (n := 0) (by rw [this.1]; omega) (by rw [this.2.1]; omega))
  have hr' : dRng1 (dCons (dVar 2) dNil) [some (.cell b), some (.int w), some (.int many), some (.int cap), some (.cell μ.length), none, none, none] (μ ++ [.lst []]) = .ok (rangeD 0 many) (μ ++ [.lst []]) := hr
  have e' : forR (dName 5) B1_law_barters (rangeD 0 many) [some (.cell b), some (.int w), some (.int many), some (.int cap), some (.cell μ.length), none, none, none] (μ ++ [.lst []]) = _ := e
  simp only [dSeq, dIf, dB, dAnd, dOr, dNot, dAsg, dOp, dVar, dC, dCB, dCons, dNil, dName, dRet, dRetN, dDrop, dNext, dIfE, dAndV, dOrV, dNotV, dUn, dSl, dNoPart, dPart, dPar, dPar3, dTup, dLst, dGTup, dGCons, dGNil, dChain, dIsN, dNotN, isN, dCont, dBreak, dGSub, dSeqI, items_lst, items_tup, dZip2, dZip3, dEnum, still_lst, still_tup, dFor, dFld, dLenOf, dM1, look_0, look_s, bind_ok, to_ok, then_nx, then_rt, then_ct, then_bk, turn_nx, turn_ct, turn_rt, turn_bk, run_rt, run_nx, onB_bl, okO_some, noX_ok, addD_int, subD_int, ltD_int, cmpD_int, fLe, fGe, fGt, intD_int, if_true, if_false, Bool.false_eq_true, Bool.not_true, Bool.not_false, List.set_cons_succ, List.set_cons_zero, ixD_lst, ixD_tup, lenD_lst, lenD_tup, List.length_cons, List.length_nil, isi_int_int, isi_int_bool, isi_int_str, isi_int_tuple, isi_int_list, isi_bl_int, isi_bl_bool, isi_bl_str, isi_bl_tuple, isi_bl_list, isi_str_int, isi_str_bool, isi_str_str, isi_str_tuple, isi_str_list, isi_tup_int, isi_tup_bool, isi_tup_str, isi_tup_tuple, isi_tup_list, isi_lst_int, isi_lst_bool, isi_lst_str, isi_lst_tuple, isi_lst_list, isi_non_int, isi_non_bool, isi_non_str, isi_non_tuple, isi_non_list, wipeD, dNever, chk_c, decide_true, decide_false, T_law_barters, dLstM, chk_c (show (0 : Nat) ≤ 16777216 by decide), hr', e']
  rfl
end Lw

namespace Lw
open PySem L2 DX
theorem field_InvalidThing {x : D} {μ : Mu} : f_law_field [.exn "InvalidThing" ["tag", "at"] [.str "InvalidThing", x]] μ = .ok (x) μ := by
  have e0 : f_law_field [.exn "InvalidThing" ["tag", "at"] [.str "InvalidThing", x]] μ = fz μ (SR.run (T_law_field [some (.exn "InvalidThing" ["tag", "at"] [.str "InvalidThing", x])] μ)) := defR_ok rfl
  rw [e0]
  have g : ("InvalidThing" : Str) ∈ (["InvalidThing", "InvalidBarter"] : List Str) := by decide +kernel
  have g2 : ("InvalidThing" : Str) ∈ (["InvalidThing", "InvalidBarter"] : List Str) := by decide +kernel
  have i0 : inD (.str "InvalidThing") (.tup [.str "InvalidThing", .str "InvalidBarter", .str "InvalidBundle", .str "ParseError", .str "NotBalanced"]) μ = .ok (.bl true) μ := (inD_lits (s := "InvalidThing") (ss := ["InvalidThing", "InvalidBarter", "InvalidBundle", "ParseError", "NotBalanced"]) (μ := μ) (by decide +kernel) (by decide +kernel) (by decide)).trans (by rw [show ((["InvalidThing", "InvalidBarter", "InvalidBundle", "ParseError", "NotBalanced"] : List Str).any fun z => z == ("InvalidThing" : Str)) = true by decide +kernel])
  simp only [dSeq, dIf, dB, dAnd, dOr, dNot, dAsg, dOp, dVar, dC, dCB, dCons, dNil, dName, dRet, dRetN, dDrop, dNext, dIfE, dAndV, dOrV, dNotV, dUn, dSl, dNoPart, dPart, dPar, dPar3, dTup, dLst, dGTup, dGCons, dGNil, dChain, dIsN, dNotN, isN, dCont, dBreak, dGSub, dSeqI, items_lst, items_tup, dZip2, dZip3, dEnum, still_lst, still_tup, dFor, dFld, dLenOf, dM1, look_0, look_s, bind_ok, to_ok, then_nx, then_rt, then_ct, then_bk, turn_nx, turn_ct, turn_rt, turn_bk, run_rt, run_nx, onB_bl, okO_some, noX_ok, addD_int, subD_int, ltD_int, cmpD_int, fLe, fGe, fGt, intD_int, if_true, if_false, Bool.false_eq_true, Bool.not_true, Bool.not_false, List.set_cons_succ, List.set_cons_zero, ixD_lst, ixD_tup, lenD_lst, lenD_tup, List.length_cons, List.length_nil, isi_int_int, isi_int_bool, isi_int_str, isi_int_tuple, isi_int_list, isi_bl_int, isi_bl_bool, isi_bl_str, isi_bl_tuple, isi_bl_list, isi_str_int, isi_str_bool, isi_str_str, isi_str_tuple, isi_str_list, isi_tup_int, isi_tup_bool, isi_tup_str, isi_tup_tuple, isi_tup_list, isi_lst_int, isi_lst_bool, isi_lst_str, isi_lst_tuple, isi_lst_list, isi_non_int, isi_non_bool, isi_non_str, isi_non_tuple, isi_non_list, wipeD, dNever, chk_c, decide_true, decide_false, T_law_field, dFldX, grd_pos g, grd_pos g2, getF_tag, getF_own (show ("tag" : Str) ≠ "at" by decide +kernel), i0, chk_c (show (0 + 1 + 1 + 1 + 1 + 1 : Nat) ≤ 16777216 by decide)]
  exact fz_same (Nat.le_refl _)
theorem why_InvalidThing {x : D} {μ : Mu} : U_law_why [none, some (.exn "InvalidThing" ["tag", "at"] [.str "InvalidThing", x])] μ = .rt (.tup [.str "InvalidThing", x]) μ := by
  have g : ("InvalidThing" : Str) ∈ (["InvalidThing", "InvalidBarter"] : List Str) := by decide +kernel
  simp only [dSeq, dIf, dB, dAnd, dOr, dNot, dAsg, dOp, dVar, dC, dCB, dCons, dNil, dName, dRet, dRetN, dDrop, dNext, dIfE, dAndV, dOrV, dNotV, dUn, dSl, dNoPart, dPart, dPar, dPar3, dTup, dLst, dGTup, dGCons, dGNil, dChain, dIsN, dNotN, isN, dCont, dBreak, dGSub, dSeqI, items_lst, items_tup, dZip2, dZip3, dEnum, still_lst, still_tup, dFor, dFld, dLenOf, dM1, look_0, look_s, bind_ok, to_ok, then_nx, then_rt, then_ct, then_bk, turn_nx, turn_ct, turn_rt, turn_bk, run_rt, run_nx, onB_bl, okO_some, noX_ok, addD_int, subD_int, ltD_int, cmpD_int, fLe, fGe, fGt, intD_int, if_true, if_false, Bool.false_eq_true, Bool.not_true, Bool.not_false, List.set_cons_succ, List.set_cons_zero, ixD_lst, ixD_tup, lenD_lst, lenD_tup, List.length_cons, List.length_nil, isi_int_int, isi_int_bool, isi_int_str, isi_int_tuple, isi_int_list, isi_bl_int, isi_bl_bool, isi_bl_str, isi_bl_tuple, isi_bl_list, isi_str_int, isi_str_bool, isi_str_str, isi_str_tuple, isi_str_list, isi_tup_int, isi_tup_bool, isi_tup_str, isi_tup_tuple, isi_tup_list, isi_lst_int, isi_lst_bool, isi_lst_str, isi_lst_tuple, isi_lst_list, isi_non_int, isi_non_bool, isi_non_str, isi_non_tuple, isi_non_list, wipeD, dNever, chk_c, decide_true, decide_false, U_law_why, dFldX, grd_pos g, getF_tag, field_InvalidThing, chk_c (show (0 + 1 + 1 : Nat) ≤ 16777216 by decide)]
theorem field_InvalidBarter {x : D} {μ : Mu} : f_law_field [.exn "InvalidBarter" ["tag", "at"] [.str "InvalidBarter", x]] μ = .ok (x) μ := by
  have e0 : f_law_field [.exn "InvalidBarter" ["tag", "at"] [.str "InvalidBarter", x]] μ = fz μ (SR.run (T_law_field [some (.exn "InvalidBarter" ["tag", "at"] [.str "InvalidBarter", x])] μ)) := defR_ok rfl
  rw [e0]
  have g : ("InvalidBarter" : Str) ∈ (["InvalidThing", "InvalidBarter"] : List Str) := by decide +kernel
  have g2 : ("InvalidBarter" : Str) ∈ (["InvalidThing", "InvalidBarter"] : List Str) := by decide +kernel
  have i0 : inD (.str "InvalidBarter") (.tup [.str "InvalidThing", .str "InvalidBarter", .str "InvalidBundle", .str "ParseError", .str "NotBalanced"]) μ = .ok (.bl true) μ := (inD_lits (s := "InvalidBarter") (ss := ["InvalidThing", "InvalidBarter", "InvalidBundle", "ParseError", "NotBalanced"]) (μ := μ) (by decide +kernel) (by decide +kernel) (by decide)).trans (by rw [show ((["InvalidThing", "InvalidBarter", "InvalidBundle", "ParseError", "NotBalanced"] : List Str).any fun z => z == ("InvalidBarter" : Str)) = true by decide +kernel])
  simp only [dSeq, dIf, dB, dAnd, dOr, dNot, dAsg, dOp, dVar, dC, dCB, dCons, dNil, dName, dRet, dRetN, dDrop, dNext, dIfE, dAndV, dOrV, dNotV, dUn, dSl, dNoPart, dPart, dPar, dPar3, dTup, dLst, dGTup, dGCons, dGNil, dChain, dIsN, dNotN, isN, dCont, dBreak, dGSub, dSeqI, items_lst, items_tup, dZip2, dZip3, dEnum, still_lst, still_tup, dFor, dFld, dLenOf, dM1, look_0, look_s, bind_ok, to_ok, then_nx, then_rt, then_ct, then_bk, turn_nx, turn_ct, turn_rt, turn_bk, run_rt, run_nx, onB_bl, okO_some, noX_ok, addD_int, subD_int, ltD_int, cmpD_int, fLe, fGe, fGt, intD_int, if_true, if_false, Bool.false_eq_true, Bool.not_true, Bool.not_false, List.set_cons_succ, List.set_cons_zero, ixD_lst, ixD_tup, lenD_lst, lenD_tup, List.length_cons, List.length_nil, isi_int_int, isi_int_bool, isi_int_str, isi_int_tuple, isi_int_list, isi_bl_int, isi_bl_bool, isi_bl_str, isi_bl_tuple, isi_bl_list, isi_str_int, isi_str_bool, isi_str_str, isi_str_tuple, isi_str_list, isi_tup_int, isi_tup_bool, isi_tup_str, isi_tup_tuple, isi_tup_list, isi_lst_int, isi_lst_bool, isi_lst_str, isi_lst_tuple, isi_lst_list, isi_non_int, isi_non_bool, isi_non_str, isi_non_tuple, isi_non_list, wipeD, dNever, chk_c, decide_true, decide_false, T_law_field, dFldX, grd_pos g, grd_pos g2, getF_tag, getF_own (show ("tag" : Str) ≠ "at" by decide +kernel), i0, chk_c (show (0 + 1 + 1 + 1 + 1 + 1 : Nat) ≤ 16777216 by decide)]
  exact fz_same (Nat.le_refl _)
theorem why_InvalidBarter {x : D} {μ : Mu} : U_law_why [none, some (.exn "InvalidBarter" ["tag", "at"] [.str "InvalidBarter", x])] μ = .rt (.tup [.str "InvalidBarter", x]) μ := by
  have g : ("InvalidBarter" : Str) ∈ (["InvalidThing", "InvalidBarter"] : List Str) := by decide +kernel
  simp only [dSeq, dIf, dB, dAnd, dOr, dNot, dAsg, dOp, dVar, dC, dCB, dCons, dNil, dName, dRet, dRetN, dDrop, dNext, dIfE, dAndV, dOrV, dNotV, dUn, dSl, dNoPart, dPart, dPar, dPar3, dTup, dLst, dGTup, dGCons, dGNil, dChain, dIsN, dNotN, isN, dCont, dBreak, dGSub, dSeqI, items_lst, items_tup, dZip2, dZip3, dEnum, still_lst, still_tup, dFor, dFld, dLenOf, dM1, look_0, look_s, bind_ok, to_ok, then_nx, then_rt, then_ct, then_bk, turn_nx, turn_ct, turn_rt, turn_bk, run_rt, run_nx, onB_bl, okO_some, noX_ok, addD_int, subD_int, ltD_int, cmpD_int, fLe, fGe, fGt, intD_int, if_true, if_false, Bool.false_eq_true, Bool.not_true, Bool.not_false, List.set_cons_succ, List.set_cons_zero, ixD_lst, ixD_tup, lenD_lst, lenD_tup, List.length_cons, List.length_nil, isi_int_int, isi_int_bool, isi_int_str, isi_int_tuple, isi_int_list, isi_bl_int, isi_bl_bool, isi_bl_str, isi_bl_tuple, isi_bl_list, isi_str_int, isi_str_bool, isi_str_str, isi_str_tuple, isi_str_list, isi_tup_int, isi_tup_bool, isi_tup_str, isi_tup_tuple, isi_tup_list, isi_lst_int, isi_lst_bool, isi_lst_str, isi_lst_tuple, isi_lst_list, isi_non_int, isi_non_bool, isi_non_str, isi_non_tuple, isi_non_list, wipeD, dNever, chk_c, decide_true, decide_false, U_law_why, dFldX, grd_pos g, getF_tag, field_InvalidBarter, chk_c (show (0 + 1 + 1 : Nat) ≤ 16777216 by decide)]
end Lw

namespace Lw
open PySem L2 DX
def Fx (η : DX.Env) : Prop := look η 1 = some (.cell 1) ∧ η.length = 13
theorem Fx.set {η : DX.Env} {i : Nat} {x : Option D} (h : Fx η) (hi : i ≠ 1) : Fx (η.set i x) := ⟨(look_ne hi).trans h.1, by rw [List.length_set]; exact h.2⟩
theorem Nx.get {b n : Nat} {μ μ' : Mu} (h : Nx b μ μ') (hn : n ≠ b) : μ'[n]? = μ[n]? := by
  rcases h with rfl | ⟨m, _, rfl⟩
  · rfl
  · exact List.getElem?_set_ne (fun z => hn z.symm)
theorem dSet_at {μ : Mu} {b : Nat} {xs : List D} {k : Int} {v : D} (h : μ[b]? = some (.lst xs)) (h0 : 0 ≤ k) (h1 : k < xs.length) : dSet (.cell b) (.int k) v μ = .ok () (μ.set b (.lst (xs.set k.toNat v))) := by
  have hj : ixN xs.length k = some k.toNat := by
    unfold ixN
    rw [if_pos h0, if_pos h1]
  simp only [dSet, h, hj]
/-- what a turn has drawn -/
structure St (η : DX.Env) (μ : Mu) (ws : List (List Nat)) (ps : List (List Int × List Int)) (n : Nat) (cs : List D) : Prop where
  f : Fx η
  iv : Iv μ
  l3 : look η 3 = some (.int ws.length)
  l5 : look η 5 = some (.lst (rowD ps))
  l10 : look η 10 = some (.cell n)
  l11 : look η 11 = some (.lst (wsD ws))
  n2 : 2 ≤ n
  at_ : μ[n]? = some (.lst cs)
  cds : Cds cs
  len : cs.length = ps.length
  bt : ∀ p ∈ ps, Bt ws.length 9 p
  tg : Tg ws
  many : cs.length ∈ [0, 1, 2, 3, 4, 8, 9]
section
variable {η : DX.Env} {μ : Mu} {ws : List (List Nat)} {ps : List (List Int × List Int)} {n : Nat} {cs : List D}
theorem ne_cell (hn : μ[n]? = some (.lst cs)) (hc : Cds cs) : neD (.cell n) (.lst []) μ = .ok (.bl !cs.isEmpty) μ := by
  unfold neD
  rw [der_cl hn hc.clean, der_plain (plain_nil (n := 59))]
  show grd (DX.plain 60 (.lst cs) = true ∧ DX.plain 60 (.lst []) = true) (Res.ok (D.bl (!eqP (.lst cs) (.lst []))) μ) = _
  rw [grd_pos ⟨hc.plain (n := 57), plain_nil (n := 59)⟩, eqP_nil]
theorem bend_ok (s : St η μ ws ps n cs) : ∃ η' μ' cs', B1_law η μ = .nx η' μ' ∧ St η' μ' ws ps n cs' := by
  have hlen := s.f.2
  have ne := ne_cell s.at_ s.cds
  by_cases c : cs = []
  · subst c
    refine ⟨η, μ, [], ?_, s⟩
    have ne' : neD (.cell n) (.lst []) μ = .ok (.bl false) μ := ne
    simp (disch := first | decide | (simp only [List.length_set, hlen]; decide)) only [dSeq, dIf, dB, dAnd, dOr, dNot, dAsg, dOp, dVar, dC, dCB, dCons, dNil, dName, dRet, dRetN, dDrop, dNext, dIfE, dAndV, dOrV, dNotV, dUn, dSl, dNoPart, dPart, dPar, dPar3, dTup, dLst, dGTup, dGCons, dGNil, dChain, dIsN, dNotN, isN, dCont, dBreak, dGSub, dSeqI, items_lst, items_tup, dZip2, dZip3, dEnum, still_lst, still_tup, dFor, dFld, dLenOf, dM1, look_0, look_s, bind_ok, to_ok, then_nx, then_rt, then_ct, then_bk, turn_nx, turn_ct, turn_rt, turn_bk, run_rt, run_nx, onB_bl, okO_some, noX_ok, addD_int, subD_int, ltD_int, cmpD_int, fLe, fGe, fGt, intD_int, if_true, if_false, Bool.false_eq_true, Bool.not_true, Bool.not_false, List.set_cons_succ, List.set_cons_zero, ixD_lst, ixD_tup, lenD_lst, lenD_tup, List.length_cons, List.length_nil, isi_int_int, isi_int_bool, isi_int_str, isi_int_tuple, isi_int_list, isi_bl_int, isi_bl_bool, isi_bl_str, isi_bl_tuple, isi_bl_list, isi_str_int, isi_str_bool, isi_str_str, isi_str_tuple, isi_str_list, isi_tup_int, isi_tup_bool, isi_tup_str, isi_tup_tuple, isi_tup_list, isi_lst_int, isi_lst_bool, isi_lst_str, isi_lst_tuple, isi_lst_list, isi_non_int, isi_non_bool, isi_non_str, isi_non_tuple, isi_non_list, wipeD, dNever, chk_c, decide_true, decide_false, look_ne, look_eq, B1_law, s.l10, chk_c (show (0 : Nat) ≤ 16777216 by decide), ne']
  · have cl : 0 < cs.length := List.length_pos_iff.mpr c
    have ne' : neD (.cell n) (.lst []) μ = .ok (.bl true) μ := by
      rw [ne]
      cases cs with
      | nil => exact absurd rfl c
      | cons a b => rfl
    have c100 := s.cds.1
    obtain ⟨k, μ1, e1, k0, k1, n1⟩ := draw_nx (many := (cs.length : Int)) s.iv.box (by omega) (by omega)
    have hI1 := s.iv.nx n1
    have g1 : μ1[n]? = some (.lst cs) := (n1.get (by have := s.n2; omega)).trans s.at_
    have hk : k.toNat < ps.length := by have := s.len; omega
    have hp : ps[k.toNat] ∈ ps := List.getElem_mem hk
    have hb := s.bt _ hp
    have w4 := s.tg.four
    have w1 := s.tg.one
    obtain ⟨d, μ2, e2, hd, n2⟩ := bent_barter_ok (p := ps[k.toNat]) hI1.box (by rw [hb.1]; omega) (by rw [hb.1]; omega) (by rw [hb.2.1]; omega)
    have hI2 := hI1.nx n2
    have g2 : μ2[n]? = some (.lst cs) := (n2.get (by have := s.n2; omega)).trans g1
    have ea : atI (rowD ps) ((k.toNat : Nat) : Int) = some (bD ps[k.toNat]) := atI_nat (by unfold rowD; rw [List.getElem?_map, List.getElem?_eq_getElem hk]; rfl)
    rw [Int.toNat_of_nonneg k0] at ea
    have es := dSet_at (v := d) g2 k0 k1
    have hl : (μ2.set n (.lst (cs.set k.toNat d)))[n]? = some (.lst (cs.set k.toNat d)) := List.getElem?_set_self (List.getElem?_eq_some_iff.mp g2).1
    have hcd : Cds (cs.set k.toNat d) := ⟨by rw [List.length_set]; exact c100, fun x hx => by
      rcases List.mem_or_eq_of_mem_set hx with h1 | h1
      · exact s.cds.2 x h1
      · rw [h1]; exact hd⟩
    have hI3 : Iv (μ2.set n (.lst (cs.set k.toNat d))) := hI2.set s.n2 hcd.clean
    refine ⟨η.set 7 (some (.int k)), _, cs.set k.toNat d, ?_, s.f.set (by decide), hI3, (look_ne (by decide)).trans s.l3, (look_ne (by decide)).trans s.l5, (look_ne (by decide)).trans s.l10, (look_ne (by decide)).trans s.l11, s.n2, hl, hcd, by rw [List.length_set]; exact s.len, s.bt, s.tg, by rw [List.length_set]; exact s.many⟩
    have le := lenD_cell s.at_
    simp (disch := first | decide | (simp only [List.length_set, hlen]; decide)) only [dSeq, dIf, dB, dAnd, dOr, dNot, dAsg, dOp, dVar, dC, dCB, dCons, dNil, dName, dRet, dRetN, dDrop, dNext, dIfE, dAndV, dOrV, dNotV, dUn, dSl, dNoPart, dPart, dPar, dPar3, dTup, dLst, dGTup, dGCons, dGNil, dChain, dIsN, dNotN, isN, dCont, dBreak, dGSub, dSeqI, items_lst, items_tup, dZip2, dZip3, dEnum, still_lst, still_tup, dFor, dFld, dLenOf, dM1, look_0, look_s, bind_ok, to_ok, then_nx, then_rt, then_ct, then_bk, turn_nx, turn_ct, turn_rt, turn_bk, run_rt, run_nx, onB_bl, okO_some, noX_ok, addD_int, subD_int, ltD_int, cmpD_int, fLe, fGe, fGt, intD_int, if_true, if_false, Bool.false_eq_true, Bool.not_true, Bool.not_false, List.set_cons_succ, List.set_cons_zero, ixD_lst, ixD_tup, lenD_lst, lenD_tup, List.length_cons, List.length_nil, isi_int_int, isi_int_bool, isi_int_str, isi_int_tuple, isi_int_list, isi_bl_int, isi_bl_bool, isi_bl_str, isi_bl_tuple, isi_bl_list, isi_str_int, isi_str_bool, isi_str_str, isi_str_tuple, isi_str_list, isi_tup_int, isi_tup_bool, isi_tup_str, isi_tup_tuple, isi_tup_list, isi_lst_int, isi_lst_bool, isi_lst_str, isi_lst_tuple, isi_lst_list, isi_non_int, isi_non_bool, isi_non_str, isi_non_tuple, isi_non_list, wipeD, dNever, chk_c, decide_true, decide_false, look_ne, look_eq, B1_law, s.l10, chk_c (show (0 : Nat) ≤ 16777216 by decide), ne', s.f.1, le, e1, s.l5, ea, e2, es]
theorem bad_ok (s : St η μ ws ps n cs) : L1_law η μ = .ok (.lst (((List.range cs.length).filter (badC ws.length cs)).map fun k => D.int (k : Nat))) μ := by
  have hlen := s.f.2
  have c100 := s.cds.1
  have le := lenD_cell s.at_
  have hr : dRng1 (dCons (dCB lenD (dCons (dVar 10) dNil)) dNil) η μ = .ok (rangeD 0 ((cs.length : Int)).toNat) μ := rng_ok (by simp only [dSeq, dIf, dB, dAnd, dOr, dNot, dAsg, dOp, dVar, dC, dCB, dCons, dNil, dName, dRet, dRetN, dDrop, dNext, dIfE, dAndV, dOrV, dNotV, dUn, dSl, dNoPart, dPart, dPar, dPar3, dTup, dLst, dGTup, dGCons, dGNil, dChain, dIsN, dNotN, isN, dCont, dBreak, dGSub, dSeqI, items_lst, items_tup, dZip2, dZip3, dEnum, still_lst, still_tup, dFor, dFld, dLenOf, dM1, look_0, look_s, bind_ok, to_ok, then_nx, then_rt, then_ct, then_bk, turn_nx, turn_ct, turn_rt, turn_bk, run_rt, run_nx, onB_bl, okO_some, noX_ok, addD_int, subD_int, ltD_int, cmpD_int, fLe, fGe, fGt, intD_int, if_true, if_false, Bool.false_eq_true, Bool.not_true, Bool.not_false, List.set_cons_succ, List.set_cons_zero, ixD_lst, ixD_tup, lenD_lst, lenD_tup, List.length_cons, List.length_nil, isi_int_int, isi_int_bool, isi_int_str, isi_int_tuple, isi_int_list, isi_bl_int, isi_bl_bool, isi_bl_str, isi_bl_tuple, isi_bl_list, isi_str_int, isi_str_bool, isi_str_str, isi_str_tuple, isi_str_list, isi_tup_int, isi_tup_bool, isi_tup_str, isi_tup_tuple, isi_tup_list, isi_lst_int, isi_lst_bool, isi_lst_str, isi_lst_tuple, isi_lst_list, isi_non_int, isi_non_bool, isi_non_str, isi_non_tuple, isi_non_list, wipeD, dNever, chk_c, decide_true, decide_false, s.l10, le]) (by omega) (by omega)
  rw [Int.toNat_natCast] at hr
  have z := lc_filter (G := dName 12) (C := W1_law) (Te := Q1_law) (vs := [12]) (η := η) (μ := μ) (fun x => match x with | .int i => badC ws.length cs i.toNat | _ => false) (fun x => x) hr (by rw [range_len]; omega) fun x hx => by
    obtain ⟨k, hk, rfl⟩ := range_mem hx
    have ek : (0 + (k : Int)) = (k : Int) := by omega
    rw [ek]
    refine ⟨(η.set 12 none).set 12 (some (.int k)), rfl, ?_, fun _ => ?_⟩
    · have gd : cs.getD k .non = cs[k] := by rw [List.getD_eq_getElem?_getD, List.getElem?_eq_getElem hk]; rfl
      have hd := s.cds.2 cs[k] (List.getElem_mem hk)
      have ib := law_is_barter_cd (w := ws.length) (μ := μ) hd
      have ea : atI cs (k : Int) = some cs[k] := atI_nat (List.getElem?_eq_getElem hk)
      have ix : ixD (.cell n) (.int (k : Int)) μ = .ok cs[k] μ := by rw [ixD_cell s.at_, ea, okO_some]
      show W1_law _ μ = .ok (badC ws.length cs ((k : Int)).toNat) μ
      rw [Int.toNat_natCast]
      unfold badC
      rw [gd]
      by_cases c1 : k = 8
      · have k8 : ((k : Int) == 8) = true := beq_iff_eq.mpr (by omega)
        simp (disch := first | decide | (simp only [List.length_set, hlen]; decide)) only [dSeq, dIf, dB, dAnd, dOr, dNot, dAsg, dOp, dVar, dC, dCB, dCons, dNil, dName, dRet, dRetN, dDrop, dNext, dIfE, dAndV, dOrV, dNotV, dUn, dSl, dNoPart, dPart, dPar, dPar3, dTup, dLst, dGTup, dGCons, dGNil, dChain, dIsN, dNotN, isN, dCont, dBreak, dGSub, dSeqI, items_lst, items_tup, dZip2, dZip3, dEnum, still_lst, still_tup, dFor, dFld, dLenOf, dM1, look_0, look_s, bind_ok, to_ok, then_nx, then_rt, then_ct, then_bk, turn_nx, turn_ct, turn_rt, turn_bk, run_rt, run_nx, onB_bl, okO_some, noX_ok, addD_int, subD_int, ltD_int, cmpD_int, fLe, fGe, fGt, intD_int, if_true, if_false, Bool.false_eq_true, Bool.not_true, Bool.not_false, List.set_cons_succ, List.set_cons_zero, ixD_lst, ixD_tup, lenD_lst, lenD_tup, List.length_cons, List.length_nil, isi_int_int, isi_int_bool, isi_int_str, isi_int_tuple, isi_int_list, isi_bl_int, isi_bl_bool, isi_bl_str, isi_bl_tuple, isi_bl_list, isi_str_int, isi_str_bool, isi_str_str, isi_str_tuple, isi_str_list, isi_tup_int, isi_tup_bool, isi_tup_str, isi_tup_tuple, isi_tup_list, isi_lst_int, isi_lst_bool, isi_lst_str, isi_lst_tuple, isi_lst_list, isi_non_int, isi_non_bool, isi_non_str, isi_non_tuple, isi_non_list, wipeD, dNever, chk_c, decide_true, decide_false, look_ne, look_eq, W1_law, eqD_int, k8, decide_eq_true c1, Bool.true_or]
      · have k8 : ((k : Int) == 8) = false := beq_eq_false_iff_ne.mpr (by omega)
        simp (disch := first | decide | (simp only [List.length_set, hlen]; decide)) only [dSeq, dIf, dB, dAnd, dOr, dNot, dAsg, dOp, dVar, dC, dCB, dCons, dNil, dName, dRet, dRetN, dDrop, dNext, dIfE, dAndV, dOrV, dNotV, dUn, dSl, dNoPart, dPart, dPar, dPar3, dTup, dLst, dGTup, dGCons, dGNil, dChain, dIsN, dNotN, isN, dCont, dBreak, dGSub, dSeqI, items_lst, items_tup, dZip2, dZip3, dEnum, still_lst, still_tup, dFor, dFld, dLenOf, dM1, look_0, look_s, bind_ok, to_ok, then_nx, then_rt, then_ct, then_bk, turn_nx, turn_ct, turn_rt, turn_bk, run_rt, run_nx, onB_bl, okO_some, noX_ok, addD_int, subD_int, ltD_int, cmpD_int, fLe, fGe, fGt, intD_int, if_true, if_false, Bool.false_eq_true, Bool.not_true, Bool.not_false, List.set_cons_succ, List.set_cons_zero, ixD_lst, ixD_tup, lenD_lst, lenD_tup, List.length_cons, List.length_nil, isi_int_int, isi_int_bool, isi_int_str, isi_int_tuple, isi_int_list, isi_bl_int, isi_bl_bool, isi_bl_str, isi_bl_tuple, isi_bl_list, isi_str_int, isi_str_bool, isi_str_str, isi_str_tuple, isi_str_list, isi_tup_int, isi_tup_bool, isi_tup_str, isi_tup_tuple, isi_tup_list, isi_lst_int, isi_lst_bool, isi_lst_str, isi_lst_tuple, isi_lst_list, isi_non_int, isi_non_bool, isi_non_str, isi_non_tuple, isi_non_list, wipeD, dNever, chk_c, decide_true, decide_false, look_ne, look_eq, W1_law, eqD_int, k8, decide_eq_false c1, Bool.false_or, s.l10, ix, s.l3, ib]
    · simp (disch := first | decide | (simp only [List.length_set, hlen]; decide)) only [dSeq, dIf, dB, dAnd, dOr, dNot, dAsg, dOp, dVar, dC, dCB, dCons, dNil, dName, dRet, dRetN, dDrop, dNext, dIfE, dAndV, dOrV, dNotV, dUn, dSl, dNoPart, dPart, dPar, dPar3, dTup, dLst, dGTup, dGCons, dGNil, dChain, dIsN, dNotN, isN, dCont, dBreak, dGSub, dSeqI, items_lst, items_tup, dZip2, dZip3, dEnum, still_lst, still_tup, dFor, dFld, dLenOf, dM1, look_0, look_s, bind_ok, to_ok, then_nx, then_rt, then_ct, then_bk, turn_nx, turn_ct, turn_rt, turn_bk, run_rt, run_nx, onB_bl, okO_some, noX_ok, addD_int, subD_int, ltD_int, cmpD_int, fLe, fGe, fGt, intD_int, if_true, if_false, Bool.false_eq_true, Bool.not_true, Bool.not_false, List.set_cons_succ, List.set_cons_zero, ixD_lst, ixD_tup, lenD_lst, lenD_tup, List.length_cons, List.length_nil, isi_int_int, isi_int_bool, isi_int_str, isi_int_tuple, isi_int_list, isi_bl_int, isi_bl_bool, isi_bl_str, isi_bl_tuple, isi_bl_list, isi_str_int, isi_str_bool, isi_str_str, isi_str_tuple, isi_str_list, isi_tup_int, isi_tup_bool, isi_tup_str, isi_tup_tuple, isi_tup_list, isi_lst_int, isi_lst_bool, isi_lst_str, isi_lst_tuple, isi_lst_list, isi_non_int, isi_non_bool, isi_non_str, isi_non_tuple, isi_non_list, wipeD, dNever, chk_c, decide_true, decide_false, look_ne, look_eq, Q1_law]
  show dLc _ _ _ _ _ η μ = _
  rw [z]
  congr 2
  rw [List.map_id']
  unfold rangeD
  rw [List.filter_map]
  congr 1
  · funext k
    show D.int (0 + (k : Int)) = _
    rw [Int.zero_add]
  · refine List.filter_congr fun k _ => ?_
    show badC ws.length cs (0 + (k : Int)).toNat = _
    rw [Int.zero_add, Int.toNat_natCast]
end
end Lw

namespace Lw
open PySem L2 DX
section
variable {η : DX.Env} {μ : Mu} {ws : List (List Nat)} {ps : List (List Int × List Int)} {n : Nat} {cs : List D}
theorem ltup_plain {n : Nat} {s : Str} {k : Int} (h : PyData.strOk s = true) : DX.plain (n + 1) (.tup [.str s, .int k]) = true := plain_tup_of (by simp) (by rw [plains_cons, plains_cons, plains_nil, plain_str, plain_int, h]; rfl)
theorem S1_ok (s : St η μ ws ps n cs) : ∃ η', S1_law η μ = .nx η' μ ∧ Fx η' := by
  have hlen := s.f.2
  have c100 := s.cds.1
  let bad := (List.range cs.length).filter (badC ws.length cs)
  let bD' : List D := bad.map fun k => D.int (k : Nat)
  have eb : L1_law η μ = .ok (.lst bD') μ := bad_ok s
  have hbl : bad.length ≤ 100 := Nat.le_trans (List.length_filter_le _ _) (by rw [List.length_range]; exact c100)
  have pb : DX.plain 60 (.lst bD') = true := plain_lst_of (n := 59) (by show (bad.map _).length ≤ _; rw [List.length_map]; omega) (plains_of fun x hx => by
    obtain ⟨k, _, rfl⟩ := List.mem_map.mp hx
    exact plain_int)
  have ne8 := neD_nil (μ := μ) pb
  obtain ⟨η1, hη1⟩ : ∃ η1, η1 = η.set 8 (some (.lst bD')) := ⟨_, rfl⟩
  have f1 : Fx η1 := by rw [hη1]; exact s.f.set (by decide)
  have hlen1 := f1.2
  obtain ⟨T, η0, eT, em⟩ := made_ok (ws := ws) s.at_ s.many
  have q10 : look η1 10 = some (.cell n) := by rw [hη1]; exact (look_ne (by decide)).trans s.l10
  have q11 : look η1 11 = some (.lst (wsD ws)) := by rw [hη1]; exact (look_ne (by decide)).trans s.l11
  have ey : Y1_law η1 μ = fz μ (dMake fz "Market" f_Market_init T η0 μ) := by
    rw [← em]
    simp only [dSeq, dIf, dB, dAnd, dOr, dNot, dAsg, dOp, dVar, dC, dCB, dCons, dNil, dName, dRet, dRetN, dDrop, dNext, dIfE, dAndV, dOrV, dNotV, dUn, dSl, dNoPart, dPart, dPar, dPar3, dTup, dLst, dGTup, dGCons, dGNil, dChain, dIsN, dNotN, isN, dCont, dBreak, dGSub, dSeqI, items_lst, items_tup, dZip2, dZip3, dEnum, still_lst, still_tup, dFor, dFld, dLenOf, dM1, look_0, look_s, bind_ok, to_ok, then_nx, then_rt, then_ct, then_bk, turn_nx, turn_ct, turn_rt, turn_bk, run_rt, run_nx, onB_bl, okO_some, noX_ok, addD_int, subD_int, ltD_int, cmpD_int, fLe, fGe, fGt, intD_int, if_true, if_false, Bool.false_eq_true, Bool.not_true, Bool.not_false, List.set_cons_succ, List.set_cons_zero, ixD_lst, ixD_tup, lenD_lst, lenD_tup, List.length_cons, List.length_nil, isi_int_int, isi_int_bool, isi_int_str, isi_int_tuple, isi_int_list, isi_bl_int, isi_bl_bool, isi_bl_str, isi_bl_tuple, isi_bl_list, isi_str_int, isi_str_bool, isi_str_str, isi_str_tuple, isi_str_list, isi_tup_int, isi_tup_bool, isi_tup_str, isi_tup_tuple, isi_tup_list, isi_lst_int, isi_lst_bool, isi_lst_str, isi_lst_tuple, isi_lst_list, isi_non_int, isi_non_bool, isi_non_str, isi_non_tuple, isi_non_list, wipeD, dNever, chk_c, decide_true, decide_false, Y1_law, q10, q11]
  have l8 : ∀ told, look (η1.set 9 (some told)) 8 = some (.lst bD') := fun told => (look_ne (by decide)).trans (by rw [hη1]; exact look_eq (by rw [hlen]; decide))
  have l9 : ∀ told, look (η1.set 9 (some told)) 9 = some told := fun told => look_eq (by rw [hlen1]; decide)
  have l10 : ∀ told, look (η1.set 9 (some told)) 10 = some (.cell n) := fun told => (look_ne (by decide)).trans q10
  cases hb : bad with
  | cons j r =>
    have hj : j ∈ bad := by rw [hb]; exact List.mem_cons_self
    obtain ⟨j1, j2⟩ := List.mem_filter.mp hj
    have hjl := List.mem_range.mp j1
    have hfirst : ∀ i, i < j → badC ws.length cs i = false := fun i hi => by
      cases hbi : badC ws.length cs i with
      | false => rfl
      | true =>
        have hm : i ∈ bad := List.mem_filter.mpr ⟨List.mem_range.mpr (by omega), hbi⟩
        have pw : bad.Pairwise (· < ·) := List.pairwise_lt_range.filter _
        rw [hb] at hm pw
        rcases List.mem_cons.mp hm with e | hm
        · omega
        · have := (List.pairwise_cons.mp pw).1 i hm; omega
    have ex : Y1_law η1 μ = .exc (eIB j) μ := by
      rw [ey, make_csX eT s.tg s.cds hjl j2 hfirst]
      exact fz_exc_drop rfl s.iv.cl (by simp [cleans, DX.clean])
    have ew := why_exc (ok := ["InvalidThing", "InvalidBarter"]) (Te := Y1_law) (Ts := U_law_why) s.iv ex (show ("InvalidBarter" : Str) ∈ (["InvalidThing", "InvalidBarter"] : List Str) by decide +kernel) why_InvalidBarter
    have a0 : atI bD' 0 = some (.int (j : Nat)) := by
      show atI (bad.map _) 0 = _
      rw [hb, List.map_cons]
      exact at_0
    have ee : bD'.isEmpty = false := by
      show (bad.map _).isEmpty = false
      rw [hb]; rfl
    rw [ee] at ne8
    have ne9 := neD_refl (d := .tup [.str "InvalidBarter", .int (j : Nat)]) (μ := μ) (ltup_plain (by decide +kernel))
    refine ⟨η1.set 9 (some (.tup [.str "InvalidBarter", .int (j : Nat)])), ?_, f1.set (by decide)⟩
    have k8 := l8 (.tup [.str "InvalidBarter", .int (j : Nat)])
    have k9 := l9 (.tup [.str "InvalidBarter", .int (j : Nat)])
    simp only [S1_law, dSeq, dAsg, eb, to_ok, dName, then_nx]
    rw [← hη1]
    show SR.then (Res.to (dWhy 0 "law" lq ["InvalidThing", "InvalidBarter"] Y1_law U_law_why η1 μ) η1 _) _ = _
    rw [ew, to_ok, then_nx]
    simp only [dSeq, dIf, dB, dAnd, dOr, dNot, dAsg, dOp, dVar, dC, dCB, dCons, dNil, dName, dRet, dRetN, dDrop, dNext, dIfE, dAndV, dOrV, dNotV, dUn, dSl, dNoPart, dPart, dPar, dPar3, dTup, dLst, dGTup, dGCons, dGNil, dChain, dIsN, dNotN, isN, dCont, dBreak, dGSub, dSeqI, items_lst, items_tup, dZip2, dZip3, dEnum, still_lst, still_tup, dFor, dFld, dLenOf, dM1, look_0, look_s, bind_ok, to_ok, then_nx, then_rt, then_ct, then_bk, turn_nx, turn_ct, turn_rt, turn_bk, run_rt, run_nx, onB_bl, okO_some, noX_ok, addD_int, subD_int, ltD_int, cmpD_int, fLe, fGe, fGt, intD_int, if_true, if_false, Bool.false_eq_true, Bool.not_true, Bool.not_false, List.set_cons_succ, List.set_cons_zero, ixD_lst, ixD_tup, lenD_lst, lenD_tup, List.length_cons, List.length_nil, isi_int_int, isi_int_bool, isi_int_str, isi_int_tuple, isi_int_list, isi_bl_int, isi_bl_bool, isi_bl_str, isi_bl_tuple, isi_bl_list, isi_str_int, isi_str_bool, isi_str_str, isi_str_tuple, isi_str_list, isi_tup_int, isi_tup_bool, isi_tup_str, isi_tup_tuple, isi_tup_list, isi_lst_int, isi_lst_bool, isi_lst_str, isi_lst_tuple, isi_lst_list, isi_non_int, isi_non_bool, isi_non_str, isi_non_tuple, isi_non_list, wipeD, dNever, chk_c, decide_true, decide_false, k8, k9, chk_c (show (0 : Nat) ≤ 16777216 by decide), ne8, a0, chk_c (show (0 + 1 + 1 : Nat) ≤ 16777216 by decide), ne9]
  | nil =>
    have hg : ∀ k, k < cs.length → badC ws.length cs k = false := fun k hk => by
      cases hbi : badC ws.length cs k with
      | false => rfl
      | true =>
        have hm : k ∈ bad := List.mem_filter.mpr ⟨List.mem_range.mpr hk, hbi⟩
        rw [hb] at hm
        cases hm
    have ex : Y1_law η1 μ = .ok (mkC ws cs) μ := by
      rw [ey, make_cs eT s.iv.cl s.tg s.cds hg]
      exact fz_same (Nat.le_refl _)
    have ew := why_ok (ok := ["InvalidThing", "InvalidBarter"]) (Te := Y1_law) (Ts := U_law_why) s.iv ex
    have ee : bD'.isEmpty = true := by
      show (bad.map _).isEmpty = true
      rw [hb]; rfl
    rw [ee] at ne8
    refine ⟨η1.set 9 (some (.tup [.str "", mkC ws cs])), ?_, f1.set (by decide)⟩
    have k8 := l8 (.tup [.str "", mkC ws cs])
    have k9 := l9 (.tup [.str "", mkC ws cs])
    have k10 := l10 (.tup [.str "", mkC ws cs])
    have ne : neD (.str "") (.str "") μ = .ok (.bl false) μ := neD_refl (by decide +kernel)
    have a0 : ∀ x y : D, atI [x, y] 0 = some x := fun x y => rfl
    have a1 : ∀ x y : D, atI [x, y] 1 = some y := fun x y => rfl
    have nb : ("barters" : Str) ∉ FN := by decide +kernel
    have nl : ("__len__" : Str) ∉ FN := by decide +kernel
    have le := lenD_cell s.at_
    have f1 : frz 0 μ 8 (.lst [.lst cs, .int cs.length]) = some (.lst [.lst cs, .int cs.length]) := frz_clean (by simp [DX.clean, cleans, s.cds.clean])
    have f2 : frz 0 μ 8 (.lst [.cell n, .int cs.length]) = some (.lst [.lst cs, .int cs.length]) := by
      refine frz_lst (by simp [nns, nn]) ?_
      rw [List.mapM_cons, frz_cell s.at_ s.cds.clean, List.mapM_cons, frz_clean (by simp [DX.clean])]
      rfl
    have em2 : ([.lst [.lst cs, .int cs.length], .lst [.cell n, .int cs.length]] : List D).mapM (frz 0 μ 8) = some [.lst [.lst cs, .int cs.length], .lst [.lst cs, .int cs.length]] := by
      rw [List.mapM_cons, f1, List.mapM_cons, f2]
      rfl
    have gl : (0 ≤ (cs.length : Int) ∧ (cs.length : Int) < 2 ^ 63) := ⟨by omega, by omega⟩
    have sm : f_law_same 12 [.lst [.lst cs, .int cs.length], .lst [.lst cs, .int cs.length]] [] = .ok (.bl true) [] := same_ok 11 (.lst [.lst cs, .int cs.length]) [] (plain_lst_of (n := 10) (by simp) (by rw [plains_cons, plains_cons, plains_nil, s.cds.plain (n := 7), plain_int]; rfl)) (by decide)
    simp only [S1_law, dSeq, dAsg, eb, to_ok, dName, then_nx]
    rw [← hη1]
    show SR.then (Res.to (dWhy 0 "law" lq ["InvalidThing", "InvalidBarter"] Y1_law U_law_why η1 μ) η1 _) _ = _
    rw [ew, to_ok, then_nx]
    simp only [dSeq, dIf, dB, dAnd, dOr, dNot, dAsg, dOp, dVar, dC, dCB, dCons, dNil, dName, dRet, dRetN, dDrop, dNext, dIfE, dAndV, dOrV, dNotV, dUn, dSl, dNoPart, dPart, dPar, dPar3, dTup, dLst, dGTup, dGCons, dGNil, dChain, dIsN, dNotN, isN, dCont, dBreak, dGSub, dSeqI, items_lst, items_tup, dZip2, dZip3, dEnum, still_lst, still_tup, dFor, dFld, dLenOf, dM1, look_0, look_s, bind_ok, to_ok, then_nx, then_rt, then_ct, then_bk, turn_nx, turn_ct, turn_rt, turn_bk, run_rt, run_nx, onB_bl, okO_some, noX_ok, addD_int, subD_int, ltD_int, cmpD_int, fLe, fGe, fGt, intD_int, if_true, if_false, Bool.false_eq_true, Bool.not_true, Bool.not_false, List.set_cons_succ, List.set_cons_zero, ixD_lst, ixD_tup, lenD_lst, lenD_tup, List.length_cons, List.length_nil, isi_int_int, isi_int_bool, isi_int_str, isi_int_tuple, isi_int_list, isi_bl_int, isi_bl_bool, isi_bl_str, isi_bl_tuple, isi_bl_list, isi_str_int, isi_str_bool, isi_str_str, isi_str_tuple, isi_str_list, isi_tup_int, isi_tup_bool, isi_tup_str, isi_tup_tuple, isi_tup_list, isi_lst_int, isi_lst_bool, isi_lst_str, isi_lst_tuple, isi_lst_list, isi_non_int, isi_non_bool, isi_non_str, isi_non_tuple, isi_non_list, wipeD, dNever, chk_c, decide_true, decide_false, k8, k9, k10, chk_c (show (0 : Nat) ≤ 16777216 by decide), ne8, a0, a1, ne, dCallP, dMeth, dLenOf, ofC_mkC, grd_pos nb, grd_pos nl, barters_c, len_c, grd_pos gl, le, chk_c (show (0 + 1 + 1 : Nat) ≤ 16777216 by decide), em2, sm, pure_true]
end
end Lw

namespace Lw
open PySem L2 DX
theorem lit_of {s : Str} {cs : List Nat} (h : s = wS cs) : D.str s = sD cs := by rw [h]; rfl
theorem seq_nx {A B : DS} {η η' : DX.Env} {μ μ' : Mu} (h : A η μ = .nx η' μ') : dSeq A B η μ = B η' μ' := by simp only [dSeq, h, then_nx]
section
variable {η : DX.Env} {μ : Mu}
theorem turn_ok (f : Fx η) (hI : Iv μ) : ∃ η' μ', B2_law η μ = .nx η' μ' ∧ Fx η' ∧ Iv μ' := by
  have hlen := f.2
  obtain ⟨w0, μ1, e1, a0, a1, k1⟩ := draw_nx (many := 4) hI.box (by decide) (by decide)
  obtain ⟨w, rfl⟩ : ∃ w : Nat, w0 = (w : Int) := ⟨w0.toNat, by omega⟩
  have hI1 := hI.nx k1
  have ew : (1 : Int) + (w : Int) = ((1 + w : Nat) : Int) := by omega
  obtain ⟨ws, μ2, e2, wl, wn, wd, k2⟩ := some_things_ok (b := 1) (w := 1 + w) hI1.box (by omega)
  have hI2 := hI1.nx k2
  have tg : Tg ws := ⟨by omega, by omega, wn, wd⟩
  let ks : List D := [.int 0, .int 1, .int 2, .int 3, .int 4, .int 8, .int 9]
  obtain ⟨d, m3, e3, hd, hm3⟩ := any_ok (b := 1) (μ := μ2) (r := .lst ks) (xs := ks) hI2.box (.inl rfl) (by simp [ks]) (by simp [ks])
  have k3 : Nx 1 μ2 (μ2.set 1 m3) := .inr ⟨m3, hm3, rfl⟩
  have hI3 := hI2.nx k3
  generalize μ2.set 1 m3 = μ3 at e3 k3 hI3
  obtain ⟨many, rfl, hmany⟩ : ∃ many : Nat, d = .int (many : Int) ∧ many ∈ [0, 1, 2, 3, 4, 8, 9] := by
    simp only [ks, List.mem_cons, List.not_mem_nil, or_false] at hd
    rcases hd with rfl | rfl | rfl | rfl | rfl | rfl | rfl
    · exact ⟨0, rfl, by decide⟩
    · exact ⟨1, rfl, by decide⟩
    · exact ⟨2, rfl, by decide⟩
    · exact ⟨3, rfl, by decide⟩
    · exact ⟨4, rfl, by decide⟩
    · exact ⟨8, rfl, by decide⟩
    · exact ⟨9, rfl, by decide⟩
  have hm9 : many ≤ 9 := by
    simp only [List.mem_cons, List.not_mem_nil, or_false] at hmany
    omega
  obtain ⟨ps, μ4, e4, pl, pb, k4⟩ := barters_kp (b := 1) (w := 1 + w) (cap := 9) (many := many) hI3.box hI3.cl (by omega) (by omega) (by decide) (by decide) (by omega)
  have hI4 : Iv (μ4 ++ [.lst (rowD ps)]) := (hI3.nx k4).app (clean_one rowD_clean)
  have n4 : μ4.length = μ3.length := k4.len
  have g4 : (μ4 ++ [.lst (rowD ps)])[μ3.length]? = some (.lst (rowD ps)) := last_get n4
  have n2 : 2 ≤ μ3.length := hI3.two
  generalize hn : μ3.length = n at e4 g4 n2
  generalize μ4 ++ [.lst (rowD ps)] = μ5 at e4 hI4 g4
  obtain ⟨c, μ6, e6, c0, c1, k6⟩ := draw_nx (many := 3) hI4.box (by decide) (by decide)
  have hI6 := hI4.nx k6
  have g6 : μ6[n]? = some (.lst (rowD ps)) := (k6.get (by omega)).trans g4
  have rl : (rowD ps).length = ps.length := List.length_map _
  have hc : Cds (rowD ps) := ⟨by rw [rl]; omega, fun x hx => by
    obtain ⟨p, hp, rfl⟩ := List.mem_map.mp hx
    have := pb p hp
    exact cd_bD (by rw [this.1]; omega) (by rw [this.2.1]; omega)⟩
  let η1 := ((((η.set 3 (some (.int ((1 + w : Nat) : Int)))).set 11 (some (.lst (wsD ws)))).set 4 (some (.int (many : Int)))).set 10 (some (.cell n))).set 5 (some (.lst (rowD ps)))
  have fA : Fx η1 := ((((f.set (by decide)).set (by decide)).set (by decide)).set (by decide)).set (by decide)
  have s0 : St η1 μ6 ws ps n (rowD ps) := ⟨fA, hI6, by simp (disch := first | decide | (simp only [List.length_set, hlen]; decide)) only [dSeq, dIf, dB, dAnd, dOr, dNot, dAsg, dOp, dVar, dC, dCB, dCons, dNil, dName, dRet, dRetN, dDrop, dNext, dIfE, dAndV, dOrV, dNotV, dUn, dSl, dNoPart, dPart, dPar, dPar3, dTup, dLst, dGTup, dGCons, dGNil, dChain, dIsN, dNotN, isN, dCont, dBreak, dGSub, dSeqI, items_lst, items_tup, dZip2, dZip3, dEnum, still_lst, still_tup, dFor, dFld, dLenOf, dM1, look_0, look_s, bind_ok, to_ok, then_nx, then_rt, then_ct, then_bk, turn_nx, turn_ct, turn_rt, turn_bk, run_rt, run_nx, onB_bl, okO_some, noX_ok, addD_int, subD_int, ltD_int, cmpD_int, fLe, fGe, fGt, intD_int, if_true, if_false, Bool.false_eq_true, Bool.not_true, Bool.not_false, List.set_cons_succ, List.set_cons_zero, ixD_lst, ixD_tup, lenD_lst, lenD_tup, List.length_cons, List.length_nil, isi_int_int, isi_int_bool, isi_int_str, isi_int_tuple, isi_int_list, isi_bl_int, isi_bl_bool, isi_bl_str, isi_bl_tuple, isi_bl_list, isi_str_int, isi_str_bool, isi_str_str, isi_str_tuple, isi_str_list, isi_tup_int, isi_tup_bool, isi_tup_str, isi_tup_tuple, isi_tup_list, isi_lst_int, isi_lst_bool, isi_lst_str, isi_lst_tuple, isi_lst_list, isi_non_int, isi_non_bool, isi_non_str, isi_non_tuple, isi_non_list, wipeD, dNever, chk_c, decide_true, decide_false, look_ne, look_eq, η1, wl], by simp (disch := first | decide | (simp only [List.length_set, hlen]; decide)) only [dSeq, dIf, dB, dAnd, dOr, dNot, dAsg, dOp, dVar, dC, dCB, dCons, dNil, dName, dRet, dRetN, dDrop, dNext, dIfE, dAndV, dOrV, dNotV, dUn, dSl, dNoPart, dPart, dPar, dPar3, dTup, dLst, dGTup, dGCons, dGNil, dChain, dIsN, dNotN, isN, dCont, dBreak, dGSub, dSeqI, items_lst, items_tup, dZip2, dZip3, dEnum, still_lst, still_tup, dFor, dFld, dLenOf, dM1, look_0, look_s, bind_ok, to_ok, then_nx, then_rt, then_ct, then_bk, turn_nx, turn_ct, turn_rt, turn_bk, run_rt, run_nx, onB_bl, okO_some, noX_ok, addD_int, subD_int, ltD_int, cmpD_int, fLe, fGe, fGt, intD_int, if_true, if_false, Bool.false_eq_true, Bool.not_true, Bool.not_false, List.set_cons_succ, List.set_cons_zero, ixD_lst, ixD_tup, lenD_lst, lenD_tup, List.length_cons, List.length_nil, isi_int_int, isi_int_bool, isi_int_str, isi_int_tuple, isi_int_list, isi_bl_int, isi_bl_bool, isi_bl_str, isi_bl_tuple, isi_bl_list, isi_str_int, isi_str_bool, isi_str_str, isi_str_tuple, isi_str_list, isi_tup_int, isi_tup_bool, isi_tup_str, isi_tup_tuple, isi_tup_list, isi_lst_int, isi_lst_bool, isi_lst_str, isi_lst_tuple, isi_lst_list, isi_non_int, isi_non_bool, isi_non_str, isi_non_tuple, isi_non_list, wipeD, dNever, chk_c, decide_true, decide_false, look_ne, look_eq, η1], by simp (disch := first | decide | (simp only [List.length_set, hlen]; decide)) only [dSeq, dIf, dB, dAnd, dOr, dNot, dAsg, dOp, dVar, dC, dCB, dCons, dNil, dName, dRet, dRetN, dDrop, dNext, dIfE, dAndV, dOrV, dNotV, dUn, dSl, dNoPart, dPart, dPar, dPar3, dTup, dLst, dGTup, dGCons, dGNil, dChain, dIsN, dNotN, isN, dCont, dBreak, dGSub, dSeqI, items_lst, items_tup, dZip2, dZip3, dEnum, still_lst, still_tup, dFor, dFld, dLenOf, dM1, look_0, look_s, bind_ok, to_ok, then_nx, then_rt, then_ct, then_bk, turn_nx, turn_ct, turn_rt, turn_bk, run_rt, run_nx, onB_bl, okO_some, noX_ok, addD_int, subD_int, ltD_int, cmpD_int, fLe, fGe, fGt, intD_int, if_true, if_false, Bool.false_eq_true, Bool.not_true, Bool.not_false, List.set_cons_succ, List.set_cons_zero, ixD_lst, ixD_tup, lenD_lst, lenD_tup, List.length_cons, List.length_nil, isi_int_int, isi_int_bool, isi_int_str, isi_int_tuple, isi_int_list, isi_bl_int, isi_bl_bool, isi_bl_str, isi_bl_tuple, isi_bl_list, isi_str_int, isi_str_bool, isi_str_str, isi_str_tuple, isi_str_list, isi_tup_int, isi_tup_bool, isi_tup_str, isi_tup_tuple, isi_tup_list, isi_lst_int, isi_lst_bool, isi_lst_str, isi_lst_tuple, isi_lst_list, isi_non_int, isi_non_bool, isi_non_str, isi_non_tuple, isi_non_list, wipeD, dNever, chk_c, decide_true, decide_false, look_ne, look_eq, η1], by simp (disch := first | decide | (simp only [List.length_set, hlen]; decide)) only [dSeq, dIf, dB, dAnd, dOr, dNot, dAsg, dOp, dVar, dC, dCB, dCons, dNil, dName, dRet, dRetN, dDrop, dNext, dIfE, dAndV, dOrV, dNotV, dUn, dSl, dNoPart, dPart, dPar, dPar3, dTup, dLst, dGTup, dGCons, dGNil, dChain, dIsN, dNotN, isN, dCont, dBreak, dGSub, dSeqI, items_lst, items_tup, dZip2, dZip3, dEnum, still_lst, still_tup, dFor, dFld, dLenOf, dM1, look_0, look_s, bind_ok, to_ok, then_nx, then_rt, then_ct, then_bk, turn_nx, turn_ct, turn_rt, turn_bk, run_rt, run_nx, onB_bl, okO_some, noX_ok, addD_int, subD_int, ltD_int, cmpD_int, fLe, fGe, fGt, intD_int, if_true, if_false, Bool.false_eq_true, Bool.not_true, Bool.not_false, List.set_cons_succ, List.set_cons_zero, ixD_lst, ixD_tup, lenD_lst, lenD_tup, List.length_cons, List.length_nil, isi_int_int, isi_int_bool, isi_int_str, isi_int_tuple, isi_int_list, isi_bl_int, isi_bl_bool, isi_bl_str, isi_bl_tuple, isi_bl_list, isi_str_int, isi_str_bool, isi_str_str, isi_str_tuple, isi_str_list, isi_tup_int, isi_tup_bool, isi_tup_str, isi_tup_tuple, isi_tup_list, isi_lst_int, isi_lst_bool, isi_lst_str, isi_lst_tuple, isi_lst_list, isi_non_int, isi_non_bool, isi_non_str, isi_non_tuple, isi_non_list, wipeD, dNever, chk_c, decide_true, decide_false, look_ne, look_eq, η1], n2, g6, hc, rl, fun p hp => by rw [wl]; exact pb p hp, tg, by rw [rl, pl]; exact hmany⟩
  obtain ⟨η7, μ7, e7, cs, s7⟩ := forR_go (G := dName 6) (T := B1_law) (fun r η μ => ∃ cs, St η μ ws ps n cs)
    (fun x r η μ hI => by
      obtain ⟨cs, s⟩ := hI
      have s' : St (η.set 6 (some x)) μ ws ps n cs := ⟨s.f.set (by decide), s.iv, (look_ne (by decide)).trans s.l3, (look_ne (by decide)).trans s.l5, (look_ne (by decide)).trans s.l10, (look_ne (by decide)).trans s.l11, s.n2, s.at_, s.cds, s.len, s.bt, s.tg, s.many⟩
      obtain ⟨η', μ', cs', e, s''⟩ := bend_ok s'
      exact ⟨_, _, η', μ', rfl, .inl e, cs', s''⟩)
    (rangeD 0 c.toNat) η1 μ6 ⟨rowD ps, s0⟩
  obtain ⟨η8, e8, f8⟩ := S1_ok s7
  refine ⟨η8, μ7, ?_, f8, s7.iv⟩
  have e3' : f_law_any [.cell 1, .lst [.int 0, .int 1, .int 2, .int 3, .int 4, .int 8, .int 9]] μ2 = .ok (.int (many : Int)) μ3 := e3
  have e2' : f_law_some_things [.cell 1, .int ((1 + w : Nat) : Int)] μ1 = .ok (.lst (wsD ws)) μ2 := e2
  have hr : dRng1 (dCons (dCB f_law_draw (dCons (dVar 1) (dCons (dC (.int 3)) dNil))) dNil) η1 μ5 = .ok (rangeD 0 c.toNat) μ6 := rng_ok (by simp only [dSeq, dIf, dB, dAnd, dOr, dNot, dAsg, dOp, dVar, dC, dCB, dCons, dNil, dName, dRet, dRetN, dDrop, dNext, dIfE, dAndV, dOrV, dNotV, dUn, dSl, dNoPart, dPart, dPar, dPar3, dTup, dLst, dGTup, dGCons, dGNil, dChain, dIsN, dNotN, isN, dCont, dBreak, dGSub, dSeqI, items_lst, items_tup, dZip2, dZip3, dEnum, still_lst, still_tup, dFor, dFld, dLenOf, dM1, look_0, look_s, bind_ok, to_ok, then_nx, then_rt, then_ct, then_bk, turn_nx, turn_ct, turn_rt, turn_bk, run_rt, run_nx, onB_bl, okO_some, noX_ok, addD_int, subD_int, ltD_int, cmpD_int, fLe, fGe, fGt, intD_int, if_true, if_false, Bool.false_eq_true, Bool.not_true, Bool.not_false, List.set_cons_succ, List.set_cons_zero, ixD_lst, ixD_tup, lenD_lst, lenD_tup, List.length_cons, List.length_nil, isi_int_int, isi_int_bool, isi_int_str, isi_int_tuple, isi_int_list, isi_bl_int, isi_bl_bool, isi_bl_str, isi_bl_tuple, isi_bl_list, isi_str_int, isi_str_bool, isi_str_str, isi_str_tuple, isi_str_list, isi_tup_int, isi_tup_bool, isi_tup_str, isi_tup_tuple, isi_tup_list, isi_lst_int, isi_lst_bool, isi_lst_str, isi_lst_tuple, isi_lst_list, isi_non_int, isi_non_bool, isi_non_str, isi_non_tuple, isi_non_list, wipeD, dNever, chk_c, decide_true, decide_false, fA.1, e6]) (by omega) (by omega)
  have ll : listD [.cell n] μ5 = .ok (.lst (rowD ps)) μ5 := by
    unfold listD
    simp only [seqOf, asL, g4, okO_some]
  have t1 : dAsg (dOp addD (dC (.int 1)) (dCB f_law_draw (dCons (dVar 1) (dCons (dC (.int 4)) dNil)))) (dName 3) η μ = .nx (η.set 3 (some (.int ((1 + w : Nat) : Int)))) μ1 := by
    simp only [dSeq, dIf, dB, dAnd, dOr, dNot, dAsg, dOp, dVar, dC, dCB, dCons, dNil, dName, dRet, dRetN, dDrop, dNext, dIfE, dAndV, dOrV, dNotV, dUn, dSl, dNoPart, dPart, dPar, dPar3, dTup, dLst, dGTup, dGCons, dGNil, dChain, dIsN, dNotN, isN, dCont, dBreak, dGSub, dSeqI, items_lst, items_tup, dZip2, dZip3, dEnum, still_lst, still_tup, dFor, dFld, dLenOf, dM1, look_0, look_s, bind_ok, to_ok, then_nx, then_rt, then_ct, then_bk, turn_nx, turn_ct, turn_rt, turn_bk, run_rt, run_nx, onB_bl, okO_some, noX_ok, addD_int, subD_int, ltD_int, cmpD_int, fLe, fGe, fGt, intD_int, if_true, if_false, Bool.false_eq_true, Bool.not_true, Bool.not_false, List.set_cons_succ, List.set_cons_zero, ixD_lst, ixD_tup, lenD_lst, lenD_tup, List.length_cons, List.length_nil, isi_int_int, isi_int_bool, isi_int_str, isi_int_tuple, isi_int_list, isi_bl_int, isi_bl_bool, isi_bl_str, isi_bl_tuple, isi_bl_list, isi_str_int, isi_str_bool, isi_str_str, isi_str_tuple, isi_str_list, isi_tup_int, isi_tup_bool, isi_tup_str, isi_tup_tuple, isi_tup_list, isi_lst_int, isi_lst_bool, isi_lst_str, isi_lst_tuple, isi_lst_list, isi_non_int, isi_non_bool, isi_non_str, isi_non_tuple, isi_non_list, wipeD, dNever, chk_c, decide_true, decide_false, f.1, e1, ew]
  have t2 : ∀ ν : DX.Env, look ν 1 = some (.cell 1) → look ν 3 = some (.int ((1 + w : Nat) : Int)) → dAsg (dTup (dCons (dCB f_law_some_things (dCons (dVar 1) (dCons (dVar 3) dNil))) (dCons (dCB f_law_any (dCons (dVar 1) (dCons (dLst (dCons (dC (.int 0)) (dCons (dC (.int 1)) (dCons (dC (.int 2)) (dCons (dC (.int 3)) (dCons (dC (.int 4)) (dCons (dC (.int 8)) (dCons (dC (.int 9)) dNil)))))))) dNil))) dNil))) (dGTup 2 (dGCons (dName 11) (dGCons (dName 4) dGNil))) ν μ1 = .nx ((ν.set 11 (some (.lst (wsD ws)))).set 4 (some (.int (many : Int)))) μ3 := fun ν h1 h3 => by
    simp only [dSeq, dIf, dB, dAnd, dOr, dNot, dAsg, dOp, dVar, dC, dCB, dCons, dNil, dName, dRet, dRetN, dDrop, dNext, dIfE, dAndV, dOrV, dNotV, dUn, dSl, dNoPart, dPart, dPar, dPar3, dTup, dLst, dGTup, dGCons, dGNil, dChain, dIsN, dNotN, isN, dCont, dBreak, dGSub, dSeqI, items_lst, items_tup, dZip2, dZip3, dEnum, still_lst, still_tup, dFor, dFld, dLenOf, dM1, look_0, look_s, bind_ok, to_ok, then_nx, then_rt, then_ct, then_bk, turn_nx, turn_ct, turn_rt, turn_bk, run_rt, run_nx, onB_bl, okO_some, noX_ok, addD_int, subD_int, ltD_int, cmpD_int, fLe, fGe, fGt, intD_int, if_true, if_false, Bool.false_eq_true, Bool.not_true, Bool.not_false, List.set_cons_succ, List.set_cons_zero, ixD_lst, ixD_tup, lenD_lst, lenD_tup, List.length_cons, List.length_nil, isi_int_int, isi_int_bool, isi_int_str, isi_int_tuple, isi_int_list, isi_bl_int, isi_bl_bool, isi_bl_str, isi_bl_tuple, isi_bl_list, isi_str_int, isi_str_bool, isi_str_str, isi_str_tuple, isi_str_list, isi_tup_int, isi_tup_bool, isi_tup_str, isi_tup_tuple, isi_tup_list, isi_lst_int, isi_lst_bool, isi_lst_str, isi_lst_tuple, isi_lst_list, isi_non_int, isi_non_bool, isi_non_str, isi_non_tuple, isi_non_list, wipeD, dNever, chk_c, decide_true, decide_false, h1, h3, e2', e3', chk_c (show (0 + 1 + 1 + 1 + 1 + 1 + 1 + 1 : Nat) ≤ 16777216 by decide), chk_c (show (0 + 1 + 1 : Nat) ≤ 16777216 by decide)]
  have t3 : ∀ ν : DX.Env, look ν 1 = some (.cell 1) → look ν 3 = some (.int ((1 + w : Nat) : Int)) → look ν 4 = some (.int (many : Int)) → dAsg (dCB f_law_barters (dCons (dVar 1) (dCons (dVar 3) (dCons (dVar 4) (dCons (dC (.int 9)) dNil))))) (dName 10) ν μ3 = .nx (ν.set 10 (some (.cell n))) μ5 := fun ν h1 h3 h4 => by
    simp only [dSeq, dIf, dB, dAnd, dOr, dNot, dAsg, dOp, dVar, dC, dCB, dCons, dNil, dName, dRet, dRetN, dDrop, dNext, dIfE, dAndV, dOrV, dNotV, dUn, dSl, dNoPart, dPart, dPar, dPar3, dTup, dLst, dGTup, dGCons, dGNil, dChain, dIsN, dNotN, isN, dCont, dBreak, dGSub, dSeqI, items_lst, items_tup, dZip2, dZip3, dEnum, still_lst, still_tup, dFor, dFld, dLenOf, dM1, look_0, look_s, bind_ok, to_ok, then_nx, then_rt, then_ct, then_bk, turn_nx, turn_ct, turn_rt, turn_bk, run_rt, run_nx, onB_bl, okO_some, noX_ok, addD_int, subD_int, ltD_int, cmpD_int, fLe, fGe, fGt, intD_int, if_true, if_false, Bool.false_eq_true, Bool.not_true, Bool.not_false, List.set_cons_succ, List.set_cons_zero, ixD_lst, ixD_tup, lenD_lst, lenD_tup, List.length_cons, List.length_nil, isi_int_int, isi_int_bool, isi_int_str, isi_int_tuple, isi_int_list, isi_bl_int, isi_bl_bool, isi_bl_str, isi_bl_tuple, isi_bl_list, isi_str_int, isi_str_bool, isi_str_str, isi_str_tuple, isi_str_list, isi_tup_int, isi_tup_bool, isi_tup_str, isi_tup_tuple, isi_tup_list, isi_lst_int, isi_lst_bool, isi_lst_str, isi_lst_tuple, isi_lst_list, isi_non_int, isi_non_bool, isi_non_str, isi_non_tuple, isi_non_list, wipeD, dNever, chk_c, decide_true, decide_false, h1, h3, h4, e4]
  have t4 : ∀ ν : DX.Env, look ν 10 = some (.cell n) → dAsg (dCB listD (dCons (dVar 10) dNil)) (dName 5) ν μ5 = .nx (ν.set 5 (some (.lst (rowD ps)))) μ5 := fun ν h => by
    simp only [dSeq, dIf, dB, dAnd, dOr, dNot, dAsg, dOp, dVar, dC, dCB, dCons, dNil, dName, dRet, dRetN, dDrop, dNext, dIfE, dAndV, dOrV, dNotV, dUn, dSl, dNoPart, dPart, dPar, dPar3, dTup, dLst, dGTup, dGCons, dGNil, dChain, dIsN, dNotN, isN, dCont, dBreak, dGSub, dSeqI, items_lst, items_tup, dZip2, dZip3, dEnum, still_lst, still_tup, dFor, dFld, dLenOf, dM1, look_0, look_s, bind_ok, to_ok, then_nx, then_rt, then_ct, then_bk, turn_nx, turn_ct, turn_rt, turn_bk, run_rt, run_nx, onB_bl, okO_some, noX_ok, addD_int, subD_int, ltD_int, cmpD_int, fLe, fGe, fGt, intD_int, if_true, if_false, Bool.false_eq_true, Bool.not_true, Bool.not_false, List.set_cons_succ, List.set_cons_zero, ixD_lst, ixD_tup, lenD_lst, lenD_tup, List.length_cons, List.length_nil, isi_int_int, isi_int_bool, isi_int_str, isi_int_tuple, isi_int_list, isi_bl_int, isi_bl_bool, isi_bl_str, isi_bl_tuple, isi_bl_list, isi_str_int, isi_str_bool, isi_str_str, isi_str_tuple, isi_str_list, isi_tup_int, isi_tup_bool, isi_tup_str, isi_tup_tuple, isi_tup_list, isi_lst_int, isi_lst_bool, isi_lst_str, isi_lst_tuple, isi_lst_list, isi_non_int, isi_non_bool, isi_non_str, isi_non_tuple, isi_non_list, wipeD, dNever, chk_c, decide_true, decide_false, h, ll]
  have t5 : dFor (dRng1 (dCons (dCB f_law_draw (dCons (dVar 1) (dCons (dC (.int 3)) dNil))) dNil)) (dName 6) B1_law η1 μ5 = .nx η7 μ7 := by
    simp only [dFor, hr, to_ok, e7]
  unfold B2_law
  rw [seq_nx t1, seq_nx (t2 _ (by simp (disch := first | decide | (simp only [List.length_set, hlen]; decide)) only [dSeq, dIf, dB, dAnd, dOr, dNot, dAsg, dOp, dVar, dC, dCB, dCons, dNil, dName, dRet, dRetN, dDrop, dNext, dIfE, dAndV, dOrV, dNotV, dUn, dSl, dNoPart, dPart, dPar, dPar3, dTup, dLst, dGTup, dGCons, dGNil, dChain, dIsN, dNotN, isN, dCont, dBreak, dGSub, dSeqI, items_lst, items_tup, dZip2, dZip3, dEnum, still_lst, still_tup, dFor, dFld, dLenOf, dM1, look_0, look_s, bind_ok, to_ok, then_nx, then_rt, then_ct, then_bk, turn_nx, turn_ct, turn_rt, turn_bk, run_rt, run_nx, onB_bl, okO_some, noX_ok, addD_int, subD_int, ltD_int, cmpD_int, fLe, fGe, fGt, intD_int, if_true, if_false, Bool.false_eq_true, Bool.not_true, Bool.not_false, List.set_cons_succ, List.set_cons_zero, ixD_lst, ixD_tup, lenD_lst, lenD_tup, List.length_cons, List.length_nil, isi_int_int, isi_int_bool, isi_int_str, isi_int_tuple, isi_int_list, isi_bl_int, isi_bl_bool, isi_bl_str, isi_bl_tuple, isi_bl_list, isi_str_int, isi_str_bool, isi_str_str, isi_str_tuple, isi_str_list, isi_tup_int, isi_tup_bool, isi_tup_str, isi_tup_tuple, isi_tup_list, isi_lst_int, isi_lst_bool, isi_lst_str, isi_lst_tuple, isi_lst_list, isi_non_int, isi_non_bool, isi_non_str, isi_non_tuple, isi_non_list, wipeD, dNever, chk_c, decide_true, decide_false, look_ne, look_eq, f.1]) (by simp (disch := first | decide | (simp only [List.length_set, hlen]; decide)) only [dSeq, dIf, dB, dAnd, dOr, dNot, dAsg, dOp, dVar, dC, dCB, dCons, dNil, dName, dRet, dRetN, dDrop, dNext, dIfE, dAndV, dOrV, dNotV, dUn, dSl, dNoPart, dPart, dPar, dPar3, dTup, dLst, dGTup, dGCons, dGNil, dChain, dIsN, dNotN, isN, dCont, dBreak, dGSub, dSeqI, items_lst, items_tup, dZip2, dZip3, dEnum, still_lst, still_tup, dFor, dFld, dLenOf, dM1, look_0, look_s, bind_ok, to_ok, then_nx, then_rt, then_ct, then_bk, turn_nx, turn_ct, turn_rt, turn_bk, run_rt, run_nx, onB_bl, okO_some, noX_ok, addD_int, subD_int, ltD_int, cmpD_int, fLe, fGe, fGt, intD_int, if_true, if_false, Bool.false_eq_true, Bool.not_true, Bool.not_false, List.set_cons_succ, List.set_cons_zero, ixD_lst, ixD_tup, lenD_lst, lenD_tup, List.length_cons, List.length_nil, isi_int_int, isi_int_bool, isi_int_str, isi_int_tuple, isi_int_list, isi_bl_int, isi_bl_bool, isi_bl_str, isi_bl_tuple, isi_bl_list, isi_str_int, isi_str_bool, isi_str_str, isi_str_tuple, isi_str_list, isi_tup_int, isi_tup_bool, isi_tup_str, isi_tup_tuple, isi_tup_list, isi_lst_int, isi_lst_bool, isi_lst_str, isi_lst_tuple, isi_lst_list, isi_non_int, isi_non_bool, isi_non_str, isi_non_tuple, isi_non_list, wipeD, dNever, chk_c, decide_true, decide_false, look_ne, look_eq])), seq_nx (t3 _ (by simp (disch := first | decide | (simp only [List.length_set, hlen]; decide)) only [dSeq, dIf, dB, dAnd, dOr, dNot, dAsg, dOp, dVar, dC, dCB, dCons, dNil, dName, dRet, dRetN, dDrop, dNext, dIfE, dAndV, dOrV, dNotV, dUn, dSl, dNoPart, dPart, dPar, dPar3, dTup, dLst, dGTup, dGCons, dGNil, dChain, dIsN, dNotN, isN, dCont, dBreak, dGSub, dSeqI, items_lst, items_tup, dZip2, dZip3, dEnum, still_lst, still_tup, dFor, dFld, dLenOf, dM1, look_0, look_s, bind_ok, to_ok, then_nx, then_rt, then_ct, then_bk, turn_nx, turn_ct, turn_rt, turn_bk, run_rt, run_nx, onB_bl, okO_some, noX_ok, addD_int, subD_int, ltD_int, cmpD_int, fLe, fGe, fGt, intD_int, if_true, if_false, Bool.false_eq_true, Bool.not_true, Bool.not_false, List.set_cons_succ, List.set_cons_zero, ixD_lst, ixD_tup, lenD_lst, lenD_tup, List.length_cons, List.length_nil, isi_int_int, isi_int_bool, isi_int_str, isi_int_tuple, isi_int_list, isi_bl_int, isi_bl_bool, isi_bl_str, isi_bl_tuple, isi_bl_list, isi_str_int, isi_str_bool, isi_str_str, isi_str_tuple, isi_str_list, isi_tup_int, isi_tup_bool, isi_tup_str, isi_tup_tuple, isi_tup_list, isi_lst_int, isi_lst_bool, isi_lst_str, isi_lst_tuple, isi_lst_list, isi_non_int, isi_non_bool, isi_non_str, isi_non_tuple, isi_non_list, wipeD, dNever, chk_c, decide_true, decide_false, look_ne, look_eq, f.1]) (by simp (disch := first | decide | (simp only [List.length_set, hlen]; decide)) only [dSeq, dIf, dB, dAnd, dOr, dNot, dAsg, dOp, dVar, dC, dCB, dCons, dNil, dName, dRet, dRetN, dDrop, dNext, dIfE, dAndV, dOrV, dNotV, dUn, dSl, dNoPart, dPart, dPar, dPar3, dTup, dLst, dGTup, dGCons, dGNil, dChain, dIsN, dNotN, isN, dCont, dBreak, dGSub, dSeqI, items_lst, items_tup, dZip2, dZip3, dEnum, still_lst, still_tup, dFor, dFld, dLenOf, dM1, look_0, look_s, bind_ok, to_ok, then_nx, then_rt, then_ct, then_bk, turn_nx, turn_ct, turn_rt, turn_bk, run_rt, run_nx, onB_bl, okO_some, noX_ok, addD_int, subD_int, ltD_int, cmpD_int, fLe, fGe, fGt, intD_int, if_true, if_false, Bool.false_eq_true, Bool.not_true, Bool.not_false, List.set_cons_succ, List.set_cons_zero, ixD_lst, ixD_tup, lenD_lst, lenD_tup, List.length_cons, List.length_nil, isi_int_int, isi_int_bool, isi_int_str, isi_int_tuple, isi_int_list, isi_bl_int, isi_bl_bool, isi_bl_str, isi_bl_tuple, isi_bl_list, isi_str_int, isi_str_bool, isi_str_str, isi_str_tuple, isi_str_list, isi_tup_int, isi_tup_bool, isi_tup_str, isi_tup_tuple, isi_tup_list, isi_lst_int, isi_lst_bool, isi_lst_str, isi_lst_tuple, isi_lst_list, isi_non_int, isi_non_bool, isi_non_str, isi_non_tuple, isi_non_list, wipeD, dNever, chk_c, decide_true, decide_false, look_ne, look_eq]) (by simp (disch := first | decide | (simp only [List.length_set, hlen]; decide)) only [dSeq, dIf, dB, dAnd, dOr, dNot, dAsg, dOp, dVar, dC, dCB, dCons, dNil, dName, dRet, dRetN, dDrop, dNext, dIfE, dAndV, dOrV, dNotV, dUn, dSl, dNoPart, dPart, dPar, dPar3, dTup, dLst, dGTup, dGCons, dGNil, dChain, dIsN, dNotN, isN, dCont, dBreak, dGSub, dSeqI, items_lst, items_tup, dZip2, dZip3, dEnum, still_lst, still_tup, dFor, dFld, dLenOf, dM1, look_0, look_s, bind_ok, to_ok, then_nx, then_rt, then_ct, then_bk, turn_nx, turn_ct, turn_rt, turn_bk, run_rt, run_nx, onB_bl, okO_some, noX_ok, addD_int, subD_int, ltD_int, cmpD_int, fLe, fGe, fGt, intD_int, if_true, if_false, Bool.false_eq_true, Bool.not_true, Bool.not_false, List.set_cons_succ, List.set_cons_zero, ixD_lst, ixD_tup, lenD_lst, lenD_tup, List.length_cons, List.length_nil, isi_int_int, isi_int_bool, isi_int_str, isi_int_tuple, isi_int_list, isi_bl_int, isi_bl_bool, isi_bl_str, isi_bl_tuple, isi_bl_list, isi_str_int, isi_str_bool, isi_str_str, isi_str_tuple, isi_str_list, isi_tup_int, isi_tup_bool, isi_tup_str, isi_tup_tuple, isi_tup_list, isi_lst_int, isi_lst_bool, isi_lst_str, isi_lst_tuple, isi_lst_list, isi_non_int, isi_non_bool, isi_non_str, isi_non_tuple, isi_non_list, wipeD, dNever, chk_c, decide_true, decide_false, look_ne, look_eq])), seq_nx (t4 _ (by simp (disch := first | decide | (simp only [List.length_set, hlen]; decide)) only [dSeq, dIf, dB, dAnd, dOr, dNot, dAsg, dOp, dVar, dC, dCB, dCons, dNil, dName, dRet, dRetN, dDrop, dNext, dIfE, dAndV, dOrV, dNotV, dUn, dSl, dNoPart, dPart, dPar, dPar3, dTup, dLst, dGTup, dGCons, dGNil, dChain, dIsN, dNotN, isN, dCont, dBreak, dGSub, dSeqI, items_lst, items_tup, dZip2, dZip3, dEnum, still_lst, still_tup, dFor, dFld, dLenOf, dM1, look_0, look_s, bind_ok, to_ok, then_nx, then_rt, then_ct, then_bk, turn_nx, turn_ct, turn_rt, turn_bk, run_rt, run_nx, onB_bl, okO_some, noX_ok, addD_int, subD_int, ltD_int, cmpD_int, fLe, fGe, fGt, intD_int, if_true, if_false, Bool.false_eq_true, Bool.not_true, Bool.not_false, List.set_cons_succ, List.set_cons_zero, ixD_lst, ixD_tup, lenD_lst, lenD_tup, List.length_cons, List.length_nil, isi_int_int, isi_int_bool, isi_int_str, isi_int_tuple, isi_int_list, isi_bl_int, isi_bl_bool, isi_bl_str, isi_bl_tuple, isi_bl_list, isi_str_int, isi_str_bool, isi_str_str, isi_str_tuple, isi_str_list, isi_tup_int, isi_tup_bool, isi_tup_str, isi_tup_tuple, isi_tup_list, isi_lst_int, isi_lst_bool, isi_lst_str, isi_lst_tuple, isi_lst_list, isi_non_int, isi_non_bool, isi_non_str, isi_non_tuple, isi_non_list, wipeD, dNever, chk_c, decide_true, decide_false, look_ne, look_eq]))]
  exact (seq_nx t5).trans e8
end
theorem init_thX {n : Nat} {ws : List (List Nat)} {cs : List D} {μ : Mu} {e : Exn} (hl : cs.length ≤ 900) (h : ∀ μ, f_check_things [.lst (wsD ws)] μ = .exc e μ) : f_Market_init (.cell n :: .lst (wsD ws) :: cs) μ = .exc e μ := by
  rw [initEC hl]
  have l1 : ∀ ν : Mu, listD [.lst (wsD ws)] ν = .ok (.lst (wsD ws)) ν := fun ν => rfl
  simp only [dSeq, dIf, dB, dAnd, dOr, dNot, dAsg, dOp, dVar, dC, dCB, dCons, dNil, dName, dRet, dRetN, dDrop, dNext, dIfE, dAndV, dOrV, dNotV, dUn, dSl, dNoPart, dPart, dPar, dPar3, dTup, dLst, dGTup, dGCons, dGNil, dChain, dIsN, dNotN, isN, dCont, dBreak, dGSub, dSeqI, items_lst, items_tup, dZip2, dZip3, dEnum, still_lst, still_tup, dFor, dFld, dLenOf, dM1, look_0, look_s, bind_ok, to_ok, then_nx, then_rt, then_ct, then_bk, turn_nx, turn_ct, turn_rt, turn_bk, run_rt, run_nx, onB_bl, okO_some, noX_ok, addD_int, subD_int, ltD_int, cmpD_int, fLe, fGe, fGt, intD_int, if_true, if_false, Bool.false_eq_true, Bool.not_true, Bool.not_false, List.set_cons_succ, List.set_cons_zero, ixD_lst, ixD_tup, lenD_lst, lenD_tup, List.length_cons, List.length_nil, isi_int_int, isi_int_bool, isi_int_str, isi_int_tuple, isi_int_list, isi_bl_int, isi_bl_bool, isi_bl_str, isi_bl_tuple, isi_bl_list, isi_str_int, isi_str_bool, isi_str_str, isi_str_tuple, isi_str_list, isi_tup_int, isi_tup_bool, isi_tup_str, isi_tup_tuple, isi_tup_list, isi_lst_int, isi_lst_bool, isi_lst_str, isi_lst_tuple, isi_lst_list, isi_non_int, isi_non_bool, isi_non_str, isi_non_tuple, isi_non_list, wipeD, dNever, chk_c, decide_true, decide_false, T_Market_init, l1, h, to_exc, then_exc, run_exc]
  exact fz_exc_same (Nat.le_refl _)
theorem end_ok {η : DX.Env} {μ : Mu} (f : Fx η) (hI : Iv μ) : ∃ μ', S2_law η μ = .rt (.bl true) μ' ∧ Iv μ' := by
  have hlen := f.2
  have la := lit_of (s := "a") (cs := [97]) (by decide +kernel)
  have lA := lit_of (s := "A") (cs := [65]) (by decide +kernel)
  have tg : Tg [[97]] := ⟨by decide, by decide, fun w hw => by rw [List.mem_singleton.mp hw]; exact thB_nm.mp (by decide), by simp⟩
  -- the refused one
  have hw : Wf [[97], [65]] := ⟨by simp, fun w hw => by
    simp only [List.mem_cons, List.not_mem_nil, or_false] at hw
    rcases hw with rfl | rfl
    · exact ⟨fun c hc => by rw [List.mem_singleton.mp hc]; decide, by decide⟩
    · exact ⟨fun c hc => by rw [List.mem_singleton.mp hc]; decide, by decide⟩⟩
  have hx : ∀ μ, f_check_things [.lst (wsD [[97], [65]])] μ = .exc (eIT (1 : Nat)) μ := fun μ => check_things_exc hw (by decide) (by decide) fun i hi => by
    have : i = 0 := by omega
    subst this
    decide
  have y3 : Y3_law η μ = .exc (eIT (1 : Nat)) (μ ++ [.ins "Market" [] []]) := by
    have eT : dCons (dLst (dCons (dC (.str "a")) (dCons (dC (.str "A")) dNil))) (dCons (dTup dNil) dNil) η μ = .ok (.lst (wsD [[97], [65]]) :: [.tup []]) μ := by
      simp only [dSeq, dIf, dB, dAnd, dOr, dNot, dAsg, dOp, dVar, dC, dCB, dCons, dNil, dName, dRet, dRetN, dDrop, dNext, dIfE, dAndV, dOrV, dNotV, dUn, dSl, dNoPart, dPart, dPar, dPar3, dTup, dLst, dGTup, dGCons, dGNil, dChain, dIsN, dNotN, isN, dCont, dBreak, dGSub, dSeqI, items_lst, items_tup, dZip2, dZip3, dEnum, still_lst, still_tup, dFor, dFld, dLenOf, dM1, look_0, look_s, bind_ok, to_ok, then_nx, then_rt, then_ct, then_bk, turn_nx, turn_ct, turn_rt, turn_bk, run_rt, run_nx, onB_bl, okO_some, noX_ok, addD_int, subD_int, ltD_int, cmpD_int, fLe, fGe, fGt, intD_int, if_true, if_false, Bool.false_eq_true, Bool.not_true, Bool.not_false, List.set_cons_succ, List.set_cons_zero, ixD_lst, ixD_tup, lenD_lst, lenD_tup, List.length_cons, List.length_nil, isi_int_int, isi_int_bool, isi_int_str, isi_int_tuple, isi_int_list, isi_bl_int, isi_bl_bool, isi_bl_str, isi_bl_tuple, isi_bl_list, isi_str_int, isi_str_bool, isi_str_str, isi_str_tuple, isi_str_list, isi_tup_int, isi_tup_bool, isi_tup_str, isi_tup_tuple, isi_tup_list, isi_lst_int, isi_lst_bool, isi_lst_str, isi_lst_tuple, isi_lst_list, isi_non_int, isi_non_bool, isi_non_str, isi_non_tuple, isi_non_list, wipeD, dNever, chk_c, decide_true, decide_false, chk_c (show (0 + 1 + 1 : Nat) ≤ 16777216 by decide), chk_c (show (0 : Nat) ≤ 16777216 by decide), la, lA]
      rfl
    unfold Y3_law dMake
    rw [eT, bind_ok, init_thX (by simp) hx, bind_exc]
  have ew3 := why_exc (ok := ["InvalidThing", "InvalidBarter"]) (Te := Y3_law) (Ts := U_law_why) hI y3 (show ("InvalidThing" : Str) ∈ (["InvalidThing", "InvalidBarter"] : List Str) by decide +kernel) why_InvalidThing
  have hI1 : Iv (μ ++ [.ins "Market" [] []]) := hI.app (clean_one rfl)
  generalize μ ++ [.ins "Market" [] []] = ν at ew3 hI1
  have hc : Cds [bD ([9], [0])] := ⟨by simp, fun c hc => by rw [List.mem_singleton.mp hc]; exact cd_bD (by decide) (by decide)⟩
  have y2 : Y2_law η ν = .ok (mkC [[97]] [bD ([9], [0])]) ν := by
    refine make_cs (ws := [[97]]) (cs := [bD ([9], [0])]) ?_ hI1.cl tg hc fun k hk => ?_
    · simp only [dSeq, dIf, dB, dAnd, dOr, dNot, dAsg, dOp, dVar, dC, dCB, dCons, dNil, dName, dRet, dRetN, dDrop, dNext, dIfE, dAndV, dOrV, dNotV, dUn, dSl, dNoPart, dPart, dPar, dPar3, dTup, dLst, dGTup, dGCons, dGNil, dChain, dIsN, dNotN, isN, dCont, dBreak, dGSub, dSeqI, items_lst, items_tup, dZip2, dZip3, dEnum, still_lst, still_tup, dFor, dFld, dLenOf, dM1, look_0, look_s, bind_ok, to_ok, then_nx, then_rt, then_ct, then_bk, turn_nx, turn_ct, turn_rt, turn_bk, run_rt, run_nx, onB_bl, okO_some, noX_ok, addD_int, subD_int, ltD_int, cmpD_int, fLe, fGe, fGt, intD_int, if_true, if_false, Bool.false_eq_true, Bool.not_true, Bool.not_false, List.set_cons_succ, List.set_cons_zero, ixD_lst, ixD_tup, lenD_lst, lenD_tup, List.length_cons, List.length_nil, isi_int_int, isi_int_bool, isi_int_str, isi_int_tuple, isi_int_list, isi_bl_int, isi_bl_bool, isi_bl_str, isi_bl_tuple, isi_bl_list, isi_str_int, isi_str_bool, isi_str_str, isi_str_tuple, isi_str_list, isi_tup_int, isi_tup_bool, isi_tup_str, isi_tup_tuple, isi_tup_list, isi_lst_int, isi_lst_bool, isi_lst_str, isi_lst_tuple, isi_lst_list, isi_non_int, isi_non_bool, isi_non_str, isi_non_tuple, isi_non_list, wipeD, dNever, chk_c, decide_true, decide_false, chk_c (show (0 + 1 : Nat) ≤ 16777216 by decide), chk_c (show (0 + 1 + 1 : Nat) ≤ 16777216 by decide), la]
      rfl
    · have : k = 0 := by simp only [List.length_cons, List.length_nil] at hk; omega
      subst this
      decide +kernel
  have ew2 := why_ok (ok := ["InvalidThing", "InvalidBarter"]) (Te := Y2_law) (Ts := U_law_why) hI1 y2
  refine ⟨ν, ?_, hI1⟩
  have e9 : dLst (dCons (dWhy 0 "law" lq ["InvalidThing", "InvalidBarter"] Y3_law U_law_why) (dCons (dWhy 0 "law" lq ["InvalidThing", "InvalidBarter"] Y2_law U_law_why) dNil)) η μ = .ok (.lst [.tup [.str "InvalidThing", .int (1 : Nat)], .tup [.str "", mkC [[97]] [bD ([9], [0])]]]) ν := by
    simp only [dLst, dCons, ew3, bind_ok, ew2, dNil, List.length_cons, List.length_nil, chk_c (show (0 + 1 + 1 : Nat) ≤ 16777216 by decide)]
  obtain ⟨η1, hη1⟩ : ∃ η1, η1 = η.set 9 (some (.lst [.tup [.str "InvalidThing", .int (1 : Nat)], .tup [.str "", mkC [[97]] [bD ([9], [0])]]])) := ⟨_, rfl⟩
  have l9 : look η1 9 = some (.lst [.tup [.str "InvalidThing", .int (1 : Nat)], .tup [.str "", mkC [[97]] [bD ([9], [0])]]]) := by rw [hη1]; exact look_eq (by rw [hlen]; decide)
  have z1 : eqD (.tup [.str "InvalidThing", .int (1 : Nat)]) (.tup [.str "InvalidThing", .int 1]) ν = .ok (.bl true) ν := eqD_refl (ltup_plain (n := 59) (by decide +kernel))
  have z2 : eqD (.str "") (.str "") ν = .ok (.bl true) ν := eqD_refl (by decide +kernel)
  have z3 : eqD (.int 8) (.int 8) ν = .ok (.bl true) ν := by rw [eqD_int]; rfl
  have a0 : ∀ x y : D, atI [x, y] 0 = some x := fun x y => rfl
  have a1 : ∀ x y : D, atI [x, y] 1 = some y := fun x y => rfl
  have t1 : dAsg (dLst (dCons (dWhy 0 "law" lq ["InvalidThing", "InvalidBarter"] Y3_law U_law_why) (dCons (dWhy 0 "law" lq ["InvalidThing", "InvalidBarter"] Y2_law U_law_why) dNil))) (dName 9) η μ = .nx η1 ν := by
    simp only [dAsg, e9, to_ok, dName, hη1]
  unfold S2_law
  show SR.then (dAsg (dLst (dCons (dWhy 0 "law" lq ["InvalidThing", "InvalidBarter"] Y3_law U_law_why) (dCons (dWhy 0 "law" lq ["InvalidThing", "InvalidBarter"] Y2_law U_law_why) dNil))) (dName 9) η μ) _ = _
  rw [t1, then_nx]
  simp only [dSeq, dIf, dB, dAnd, dOr, dNot, dAsg, dOp, dVar, dC, dCB, dCons, dNil, dName, dRet, dRetN, dDrop, dNext, dIfE, dAndV, dOrV, dNotV, dUn, dSl, dNoPart, dPart, dPar, dPar3, dTup, dLst, dGTup, dGCons, dGNil, dChain, dIsN, dNotN, isN, dCont, dBreak, dGSub, dSeqI, items_lst, items_tup, dZip2, dZip3, dEnum, still_lst, still_tup, dFor, dFld, dLenOf, dM1, look_0, look_s, bind_ok, to_ok, then_nx, then_rt, then_ct, then_bk, turn_nx, turn_ct, turn_rt, turn_bk, run_rt, run_nx, onB_bl, okO_some, noX_ok, addD_int, subD_int, ltD_int, cmpD_int, fLe, fGe, fGt, intD_int, if_true, if_false, Bool.false_eq_true, Bool.not_true, Bool.not_false, List.set_cons_succ, List.set_cons_zero, ixD_lst, ixD_tup, lenD_lst, lenD_tup, List.length_cons, List.length_nil, isi_int_int, isi_int_bool, isi_int_str, isi_int_tuple, isi_int_list, isi_bl_int, isi_bl_bool, isi_bl_str, isi_bl_tuple, isi_bl_list, isi_str_int, isi_str_bool, isi_str_str, isi_str_tuple, isi_str_list, isi_tup_int, isi_tup_bool, isi_tup_str, isi_tup_tuple, isi_tup_list, isi_lst_int, isi_lst_bool, isi_lst_str, isi_lst_tuple, isi_lst_list, isi_non_int, isi_non_bool, isi_non_str, isi_non_tuple, isi_non_list, wipeD, dNever, chk_c, decide_true, decide_false, l9, a0, a1, chk_c (show (0 + 1 + 1 : Nat) ≤ 16777216 by decide), z1, z2, z3]
theorem law_ok (ns : List Int) (hns : ns.length ≤ 63) : ∃ μ, f_law [.scr ns] [.tbl "law" lq] = .ok (.bl true) μ := by
  obtain ⟨μ1, e1, hI⟩ := begin_iv ns
  obtain ⟨η', μ', e7, f7, hI7⟩ := forR_go (G := dName 2) (T := B2_law) (fun r η μ => Fx η ∧ Iv μ)
    (fun x r η μ ⟨f, h⟩ => by
      obtain ⟨η', μ2, e, f', h'⟩ := turn_ok (η := η.set 2 (some x)) (f.set (by decide)) h
      exact ⟨_, _, η', μ2, rfl, .inl e, f', h'⟩)
    (rangeD 0 (Int.toNat 4)) [some (.scr ns), some (.cell 1), none, none, none, none, none, none, none, none, none, none, none] μ1 ⟨⟨rfl, rfl⟩, hI⟩
  obtain ⟨μ8, e8, hI8⟩ := end_ok f7 hI7
  refine ⟨μ8.take 1, ?_⟩
  have e0 : f_law [.scr ns] [.tbl "law" lq] = fz [.tbl "law" lq] (SR.run (T_law [some (.scr ns), none, none, none, none, none, none, none, none, none, none, none, none] [.tbl "law" lq])) := defR_ok rfl
  rw [e0]
  have hr : ∀ (η : DX.Env) (μ : Mu), dRng1 (dCons (dC (.int 4)) dNil) η μ = .ok (rangeD 0 (Int.toNat 4)) μ := fun η μ => rng_ok rfl (by decide) (by decide)
  simp only [dSeq, dIf, dB, dAnd, dOr, dNot, dAsg, dOp, dVar, dC, dCB, dCons, dNil, dName, dRet, dRetN, dDrop, dNext, dIfE, dAndV, dOrV, dNotV, dUn, dSl, dNoPart, dPart, dPar, dPar3, dTup, dLst, dGTup, dGCons, dGNil, dChain, dIsN, dNotN, isN, dCont, dBreak, dGSub, dSeqI, items_lst, items_tup, dZip2, dZip3, dEnum, still_lst, still_tup, dFor, dFld, dLenOf, dM1, look_0, look_s, bind_ok, to_ok, then_nx, then_rt, then_ct, then_bk, turn_nx, turn_ct, turn_rt, turn_bk, run_rt, run_nx, onB_bl, okO_some, noX_ok, addD_int, subD_int, ltD_int, cmpD_int, fLe, fGe, fGt, intD_int, if_true, if_false, Bool.false_eq_true, Bool.not_true, Bool.not_false, List.set_cons_succ, List.set_cons_zero, ixD_lst, ixD_tup, lenD_lst, lenD_tup, List.length_cons, List.length_nil, isi_int_int, isi_int_bool, isi_int_str, isi_int_tuple, isi_int_list, isi_bl_int, isi_bl_bool, isi_bl_str, isi_bl_tuple, isi_bl_list, isi_str_int, isi_str_bool, isi_str_str, isi_str_tuple, isi_str_list, isi_tup_int, isi_tup_bool, isi_tup_str, isi_tup_tuple, isi_tup_list, isi_lst_int, isi_lst_bool, isi_lst_str, isi_lst_tuple, isi_lst_list, isi_non_int, isi_non_bool, isi_non_str, isi_non_tuple, isi_non_list, wipeD, dNever, chk_c, decide_true, decide_false, T_law, e1, hr, e7, e8]
  exact law_end hI8
end Lw

namespace Lw
open PySem L2 DX
structure Md (P : Program) (K : PySem.W.Frag) (mg : Str → Option Value) : Prop where
  b_all : mg "all" = none
  b_bool : mg "bool" = none
  b_enumerate : mg "enumerate" = none
  b_int : mg "int" = none
  b_isinstance : mg "isinstance" = none
  b_len : mg "len" = none
  b_list : mg "list" = none
  b_range : mg "range" = none
  b_str : mg "str" = none
  b_tuple : mg "tuple" = none
  b_zip : mg "zip" = none
  c_GREATEST : ∃ t, mg "GREATEST" = some (.int 9 t)
  c_LONGEST_THING : ∃ t, mg "LONGEST_THING" = some (.int 6 t)
  c_SMALL : ∃ t, mg "SMALL" = some (.str "abcdefghijklmnopqrstuvwxyz" t)
  cl_Market : Cls K (He.ga K "Market")
  cv_Market_MOST_BARTERS : ∃ u, ClX.CVal K (He.ga K "Market") (.type "type") "MOST_BARTERS" (.int 8) u
  cv_Market_MOST_THINGS : ∃ u, ClX.CVal K (He.ga K "Market") (.type "type") "MOST_THINGS" (.int 4) u
  er_InvalidBarter : ErX.ErrT P K mg "InvalidBarter" "at" "InvalidBarter" (He.ga K "InvalidBarter") (He.ma K (He.ga K "InvalidBarter") "__init__") ⟨17, 17, 17, 21⟩ ⟨17, 23, 17, 25⟩ 0 [⟨18, 8, 18, 13⟩, ⟨18, 8, 18, 15⟩, ⟨18, 8, 18, 24⟩, ⟨18, 25, 18, 27⟩, ⟨18, 8, 18, 28⟩, ⟨18, 8, 18, 28⟩, ⟨19, 8, 19, 12⟩, ⟨19, 8, 19, 15⟩, ⟨19, 18, 19, 20⟩, ⟨19, 8, 19, 20⟩, ⟨20, 8, 20, 12⟩, ⟨20, 8, 20, 16⟩, ⟨20, 19, 20, 34⟩, ⟨20, 8, 20, 34⟩]
  er_InvalidThing : ErX.ErrT P K mg "InvalidThing" "at" "InvalidThing" (He.ga K "InvalidThing") (He.ma K (He.ga K "InvalidThing") "__init__") ⟨11, 17, 11, 21⟩ ⟨11, 23, 11, 25⟩ 0 [⟨12, 8, 12, 13⟩, ⟨12, 8, 12, 15⟩, ⟨12, 8, 12, 24⟩, ⟨12, 25, 12, 27⟩, ⟨12, 8, 12, 28⟩, ⟨12, 8, 12, 28⟩, ⟨13, 8, 13, 12⟩, ⟨13, 8, 13, 15⟩, ⟨13, 18, 13, 20⟩, ⟨13, 8, 13, 20⟩, ⟨14, 8, 14, 12⟩, ⟨14, 8, 14, 16⟩, ⟨14, 19, 14, 33⟩, ⟨14, 8, 14, 33⟩]
  g_BarterError : mg "BarterError" = some (.ref (He.ga K "BarterError"))
  g_Market : mg "Market" = some (.ref (He.ga K "Market"))
  g_Missing : mg "Missing" = some (.ref (He.ga K "Missing"))
  g_NothingLeft : mg "NothingLeft" = some (.ref (He.ga K "NothingLeft"))
  g_check_things : mg "check_things" = some (.ref (He.ga K "check_things"))
  g_is_barter : mg "is_barter" = some (.ref (He.ga K "is_barter"))
  g_is_bundle : mg "is_bundle" = some (.ref (He.ga K "is_bundle"))
  g_is_count : mg "is_count" = some (.ref (He.ga K "is_count"))
  g_is_thing : mg "is_thing" = some (.ref (He.ga K "is_thing"))
  g_law_any : mg "_law_any" = some (.ref (He.ga K "_law_any"))
  g_law_barters : mg "_law_barters" = some (.ref (He.ga K "_law_barters"))
  g_law_begin : mg "_law_begin" = some (.ref (He.ga K "_law_begin"))
  g_law_bent_barter : mg "_law_bent_barter" = some (.ref (He.ga K "_law_bent_barter"))
  g_law_bent_bundle : mg "_law_bent_bundle" = some (.ref (He.ga K "_law_bent_bundle"))
  g_law_draw : mg "_law_draw" = some (.ref (He.ga K "_law_draw"))
  g_law_field : mg "_law_field" = some (.ref (He.ga K "_law_field"))
  g_law_is_barter : mg "_law_is_barter" = some (.ref (He.ga K "_law_is_barter"))
  g_law_is_bundle : mg "_law_is_bundle" = some (.ref (He.ga K "_law_is_bundle"))
  g_law_made : mg "_law_made" = some (.ref (He.ga K "_law_made"))
  g_law_plus : mg "_law_plus" = some (.ref (He.ga K "_law_plus"))
  g_law_same : mg "_law_same" = some (.ref (He.ga K "_law_same"))
  g_law_some_bundle : mg "_law_some_bundle" = some (.ref (He.ga K "_law_some_bundle"))
  g_law_some_things : mg "_law_some_things" = some (.ref (He.ga K "_law_some_things"))
  g_law_why : mg "_law_why" = some (.ref (He.ga K "_law_why"))
  me_Market_barters : Meth K (He.ga K "Market") "barters" (He.ma K (He.ga K "Market") "barters")
  me_Market_len : Meth K (He.ga K "Market") "__len__" (He.ma K (He.ga K "Market") "__len__")
  mk_Market : Mk K (He.ga K "Market") (He.ma K (He.ga K "Market") "__init__")
  na_Market_barter_row : NoAttr K (He.ga K "Market") "barter_row"
  na_Market_thing_row : NoAttr K (He.ga K "Market") "thing_row"
  rd_Market : ClX.CRead K (He.ga K "Market") (.type "type")
  xa_InvalidBarter_at : ExAt K (He.ga K "InvalidBarter") "at"
  xa_InvalidBarter_tag : ExAt K (He.ga K "InvalidBarter") "tag"
  xa_InvalidThing_at : ExAt K (He.ga K "InvalidThing") "at"
  xa_InvalidThing_tag : ExAt K (He.ga K "InvalidThing") "tag"
  xm_InvalidBarter : PySem.W.exmAny K (.ref (He.ga K "InvalidBarter")) [.ref (He.ga K "BarterError"), .ref (He.ga K "Missing"), .ref (He.ga K "NothingLeft")] = some true
  xm_InvalidThing : PySem.W.exmAny K (.ref (He.ga K "InvalidThing")) [.ref (He.ga K "BarterError"), .ref (He.ga K "Missing"), .ref (He.ga K "NothingLeft")] = some true
section
variable {P : Program} {w : World} {K : PySem.W.Frag} {mg : Str → Option Value} {base : Heap}
theorem sc_law_why : FnScope ["_law_ask", "_law_e"] ["_law_ask"] (defScope s_law_why) := ⟨rfl, rfl, rfl, by decide +kernel, rfl, by decide +kernel, by decide +kernel⟩
theorem sc_is_thing : FnScope ["text", "sign"] ["text"] (defScope s_is_thing) := ⟨rfl, rfl, rfl, by decide +kernel, rfl, by decide +kernel, by decide +kernel⟩
theorem ok_is_thing {fd_is_thing : FuncData} (F_is_thing : FunD K "is_thing" "is_thing" (defArgs s_is_thing) (defBody s_is_thing) (defScope s_is_thing) [] [] (He.ga K "is_thing") fd_is_thing) (M : Md P K mg)  : FnR P w K mg base (L2.CX P w) 2 (He.ga K "is_thing") (spD K f_is_thing) :=
  fnD fin_fz F_is_thing sc_is_thing (F_is_thing.bindsN (ps := ["text"]) fun _ _ _ _ _ _ us hl => match us, hl with | [_], _ => rfl) (fun cdv A outer st H E hr => ⟨_, (pss_one (ps_ret (pe_and (pe_chain op_leU op_leU pe_int (pe_callB (call_lenK K rfl) (by rfl) M.b_len PySem.boot_len (pa_cons (pv 0) pa_nil)) (pe_glob (v := .int 6) rfl (Classical.choose_spec M.c_LONGEST_THING) ⟨_, rfl⟩)) (pe_one (pe_callB (call_allK K rfl rfl) (by rfl) M.b_all PyProof.Rows.boot_all (pa_cons (lc_vs [1] (pe_lc (own := [("sign", 1)]) (by rfl) sc_is_thing.nd (pi_seqK K rfl (pv 0)) (blkOk_by (own := [("sign", 1)]) (N := ["text", "sign"]) (sc := defScope s_is_thing) (by decide +kernel)) (fun _ _ _ _ _ => (pg_name (i := 1) sc_is_thing.nd rfl (by first | exact Or.inl rfl | exact Or.inr rfl))) (fun _ _ _ _ _ => pts_nil) (fun _ _ _ _ _ => (pe_cmpR op_inS (pv 1) (pe_glob (v := .str "abcdefghijklmnopqrstuvwxyz") rfl (Classical.choose_spec M.c_SMALL) ⟨_, rfl⟩) (by rfl))))) pa_nil)))))), by exact inferInstance⟩)
theorem sc_check_things : FnScope ["things", "at", "thing"] ["things"] (defScope s_check_things) := ⟨rfl, rfl, rfl, by decide +kernel, rfl, by decide +kernel, by decide +kernel⟩
theorem ok_check_things {fd_check_things : FuncData} (F_check_things : FunD K "check_things" "check_things" (defArgs s_check_things) (defBody s_check_things) (defScope s_check_things) [] [] (He.ga K "check_things") fd_check_things) (M : Md P K mg) (G_is_thing : FnR P w K mg base (L2.CX P w) 2 (He.ga K "is_thing") (spD K f_is_thing)) (K_is_thing : PySem.W.keepIn K (.ref (He.ga K "is_thing")) = true) : FnR P w K mg base (L2.CX P w) 4 (He.ga K "check_things") (spD K f_check_things) :=
  fnD fin_fz F_check_things sc_check_things (F_check_things.bindsN (ps := ["things"]) fun _ _ _ _ _ _ us hl => match us, hl with | [_], _ => rfl) (fun cdv A outer st H E hr => ⟨_, (pss_cons (ps_for (passes_of rfl) rfl (pi_enumM K rfl (by rfl) M.b_enumerate (pa_cons (pv 0) pa_nil)) (pg_tupK (n := 2) K rfl rfl (pgs_cons (pg_name (i := 1) sc_check_things.nd rfl (by first | exact Or.inl rfl | exact Or.inr rfl)) (pgs_cons (pg_name (i := 2) sc_check_things.nd rfl (by first | exact Or.inl rfl | exact Or.inr rfl)) pgs_nil)))
    (pss_one (ps_if (PW.pt (pw_or (pt_cmpR (op_eqK K rfl hr.units) (pv 1) (pe_conC (v := .int 4) M.g_Market M.rd_Market (Classical.choose_spec M.cv_Market_MOST_THINGS)) (nomark _)) (pw_or (pt_not (pt_val (pe_callX (E := (fun _ => E)) G_is_thing ⟨M.g_is_thing, K_is_thing⟩ (hr.mono (by decide)) (takes_of rfl rfl rfl rfl) (pa_cons (pv 2) pa_nil)))) (pw_or1 (pt_cmpR (op_inK K rfl hr.units) (pv 2) (pe_slice (sl_K K rfl) (pv 0) po_none (po_some (pv 1))) (by rfl)))))) (pss_one (ps_raiseE rfl (takes_of rfl rfl rfl rfl) M.er_InvalidThing hr rfl (pa_cons (pv 1) pa_nil))) pss_nil)))
  (pss_one (ps_if (pt_cmpR (op_eqK K rfl hr.units) (pe_callB (call_lenK K rfl) (by rfl) M.b_len PySem.boot_len (pa_cons (pv 0) pa_nil)) pe_int (nomark _)) (pss_one (ps_raiseE rfl (takes_of rfl rfl rfl rfl) M.er_InvalidThing hr rfl (pa_cons pe_int pa_nil))) pss_nil))), by exact inferInstance⟩)
theorem sc_is_count : FnScope ["value", "most"] ["value", "most"] (defScope s_is_count) := ⟨rfl, rfl, rfl, by decide +kernel, rfl, by decide +kernel, by decide +kernel⟩
theorem ok_is_count {fd_is_count : FuncData} (F_is_count : FunD K "is_count" "is_count" (defArgs s_is_count) (defBody s_is_count) (defScope s_is_count) [] [] (He.ga K "is_count") fd_is_count) (M : Md P K mg)  : FnR P w K mg base (L2.CX P w) 2 (He.ga K "is_count") (spD K f_is_count) :=
  fnD fin_fz F_is_count sc_is_count (F_is_count.bindsN (ps := ["value", "most"]) fun _ _ _ _ _ _ us hl => match us, hl with | [_, _], _ => rfl) (fun cdv A outer st H E hr => ⟨_, (pss_one (ps_ret (pe_and (pe_callB (call_isiK' K rfl) (by rfl) M.b_isinstance PyProof.Rows.boot_isinstance (pa_cons (pv 0) (pa_cons (pe_bltn (v := .ty "int") rfl M.b_int (by decide +kernel) rfl) pa_nil))) (pe_and (pe_not (pe_callB (call_isiK' K rfl) (by rfl) M.b_isinstance PyProof.Rows.boot_isinstance (pa_cons (pv 0) (pa_cons (pe_bltn (v := .ty "bool") rfl M.b_bool (by decide +kernel) rfl) pa_nil)))) (pe_one (pe_chain op_leU op_leU pe_int (pv 0) (pv 1))))))), by exact inferInstance⟩)
theorem sc_is_bundle : FnScope ["bundle", "width", "most", "value"] ["bundle", "width", "most"] (defScope s_is_bundle) := ⟨rfl, rfl, rfl, by decide +kernel, rfl, by decide +kernel, by decide +kernel⟩
theorem ok_is_bundle {fd_is_bundle : FuncData} (F_is_bundle : FunD K "is_bundle" "is_bundle" (defArgs s_is_bundle) (defBody s_is_bundle) (defScope s_is_bundle) [.int 60] [] (He.ga K "is_bundle") fd_is_bundle) (M : Md P K mg) (G_is_count : FnR P w K mg base (L2.CX P w) 2 (He.ga K "is_count") (spD K f_is_count)) (K_is_count : PySem.W.keepIn K (.ref (He.ga K "is_count")) = true) : FnOk P w K mg base (L2.CX P w) 4 (He.ga K "is_bundle") fd_is_bundle ["bundle", "width", "most"] (spD K f_is_bundle) :=
  fnOkD fin_fz F_is_bundle sc_is_bundle (fun cdv A outer st H E hr => ⟨_, (pss_one (ps_ret (pe_and (pe_cmpR (op_eqK K rfl hr.units) (pe_callB (call_lenK K rfl) (by rfl) M.b_len PySem.boot_len (pa_cons (pv 0) pa_nil)) (pv 1) (nomark _)) (pe_one (pe_callB (call_allK K rfl rfl) (by rfl) M.b_all PyProof.Rows.boot_all (pa_cons (lc_vs [3] (pe_lc (own := [("value", 3)]) (by rfl) sc_is_bundle.nd (pi_seqK K rfl (pv 0)) (blkOk_by (own := [("value", 3)]) (N := ["bundle", "width", "most", "value"]) (sc := defScope s_is_bundle) (by decide +kernel)) (fun _ _ _ _ _ => (pg_name (i := 3) sc_is_bundle.nd rfl (by first | exact Or.inl rfl | exact Or.inr rfl))) (fun _ _ _ _ _ => pts_nil) (fun _ _ _ _ _ => (pe_callX (E := EN) G_is_count ⟨M.g_is_count, K_is_count⟩ (hr.mono (by decide)) take_no (pa_cons (pv 3) (pa_cons (pv 2) pa_nil)))))) pa_nil)))))), by exact inferInstance⟩)
theorem sc_is_barter : FnScope ["barter", "width", "bundle"] ["barter", "width"] (defScope s_is_barter) := ⟨rfl, rfl, rfl, by decide +kernel, rfl, by decide +kernel, by decide +kernel⟩
theorem ok_is_barter {fd_is_barter : FuncData} (F_is_barter : FunD K "is_barter" "is_barter" (defArgs s_is_barter) (defBody s_is_barter) (defScope s_is_barter) [] [] (He.ga K "is_barter") fd_is_barter) (M : Md P K mg) (G_is_bundle : FnR P w K mg base (L2.CX P w) 4 (He.ga K "is_bundle") (spD K f_is_bundle)) (K_is_bundle : PySem.W.keepIn K (.ref (He.ga K "is_bundle")) = true) : FnR P w K mg base (L2.CX P w) 6 (He.ga K "is_barter") (spD K f_is_barter) :=
  fnD fin_fz F_is_barter sc_is_barter (F_is_barter.bindsN (ps := ["barter", "width"]) fun _ _ _ _ _ _ us hl => match us, hl with | [_, _], _ => rfl) (fun cdv A outer st H E hr => ⟨_, (pss_cons (ps_if (PW.pt (pw_or (pt_cmpR (op_neK K rfl hr.units) (pe_callB (call_lenK K rfl) (by rfl) M.b_len PySem.boot_len (pa_cons (pv 0) pa_nil)) pe_int (nomark _)) (pw_or1 (pt_not (pt_val (pe_callB (call_allK K rfl rfl) (by rfl) M.b_all PyProof.Rows.boot_all (pa_cons (lc_vs [2] (pe_lc (own := [("bundle", 2)]) (by rfl) sc_is_barter.nd (pi_seqK K rfl (pv 0)) (blkOk_by (own := [("bundle", 2)]) (N := ["barter", "width", "bundle"]) (sc := defScope s_is_barter) (by decide +kernel)) (fun _ _ _ _ _ => (pg_name (i := 2) sc_is_barter.nd rfl (by first | exact Or.inl rfl | exact Or.inr rfl))) (fun _ _ _ _ _ => pts_nil) (fun _ _ _ _ _ => (pe_callB (call_isiK' K rfl) (by rfl) M.b_isinstance PyProof.Rows.boot_isinstance (pa_cons (pv 2) (pa_cons (pe_bltn (v := .ty "tuple") rfl M.b_tuple (by decide +kernel) rfl) pa_nil)))))) pa_nil))))))) (pss_one (ps_ret pe_bl)) pss_nil)
  (pss_one (ps_ret (pe_and (pe_callB (call_allK K rfl rfl) (by rfl) M.b_all PyProof.Rows.boot_all (pa_cons (lc_vs [2] (pe_lc (own := [("bundle", 2)]) (by rfl) sc_is_barter.nd (pi_seqK K rfl (pv 0)) (blkOk_by (own := [("bundle", 2)]) (N := ["barter", "width", "bundle"]) (sc := defScope s_is_barter) (by decide +kernel)) (fun _ _ _ _ _ => (pg_name (i := 2) sc_is_barter.nd rfl (by first | exact Or.inl rfl | exact Or.inr rfl))) (fun _ _ _ _ _ => pts_nil) (fun _ _ _ _ _ => (pe_callX (E := EN) G_is_bundle ⟨M.g_is_bundle, K_is_bundle⟩ (hr.mono (by decide)) take_no (pa_cons (pv 2) (pa_cons (pv 1) (pa_cons (pe_glob (v := .int 9) rfl (Classical.choose_spec M.c_GREATEST) ⟨_, rfl⟩) pa_nil))))))) pa_nil)) (pe_one (pe_cmpR (op_neK K rfl hr.units) (pe_ix (ix_seqK K rfl) (pv 0) pe_int (fun _ _ => rfl)) (pe_ix (ix_seqK K rfl) (pv 0) pe_int (fun _ _ => rfl)) (nomark _))))))), by exact inferInstance⟩)
theorem sc_Market_init : FnScope ["self", "things", "barters", "at", "barter"] ["self", "things", "barters"] (defScope s_Market_init) := ⟨rfl, rfl, rfl, by decide +kernel, rfl, by decide +kernel, by decide +kernel⟩
theorem ok_Market_init {fd_Market_init : FuncData} (F_Market_init : FunD K "__init__" "Market.__init__" (defArgs s_Market_init) (defBody s_Market_init) (defScope s_Market_init) [] [] (He.ma K (He.ga K "Market") "__init__") fd_Market_init) (M : Md P K mg) (G_check_things : FnR P w K mg base (L2.CX P w) 4 (He.ga K "check_things") (spD K f_check_things)) (K_check_things : PySem.W.keepIn K (.ref (He.ga K "check_things")) = true) (G_is_barter : FnR P w K mg base (L2.CX P w) 6 (He.ga K "is_barter") (spD K f_is_barter)) (K_is_barter : PySem.W.keepIn K (.ref (He.ga K "is_barter")) = true) : FnR P w K mg base (L2.CX P w) 8 (He.ma K (He.ga K "Market") "__init__") (spD K f_Market_init) :=
  fnStar fin_fz (ps := ["self", "things"]) (pv := "barters") F_Market_init sc_Market_init (fun _ _ _ _ _ _ us rest hl => match us, rest, hl with | [_, _], [], _ => rfl | [_, _], _ :: _, _ => rfl) (fun cdv A outer st H E hr => ⟨_, (pss_cons (ps_expr (pe_callX (E := (fun _ => E)) G_check_things ⟨M.g_check_things, K_check_things⟩ (hr.mono (by decide)) (takes_of rfl rfl rfl rfl) (pa_cons (pe_callTy (call_listK K rfl) (by rfl) M.b_list PyProof.Rows.boot_list (pa_cons (pv 1) pa_nil)) pa_nil)))
  (pss_cons (ps_for (passes_of rfl) rfl (pi_enumM K rfl (by rfl) M.b_enumerate (pa_cons (pv 2) pa_nil)) (pg_tupK (n := 2) K rfl rfl (pgs_cons (pg_name (i := 3) sc_Market_init.nd rfl (by first | exact Or.inl rfl | exact Or.inr rfl)) (pgs_cons (pg_name (i := 4) sc_Market_init.nd rfl (by first | exact Or.inl rfl | exact Or.inr rfl)) pgs_nil)))
    (pss_one (ps_if (PW.pt (pw_or (pt_cmpR (op_eqK K rfl hr.units) (pv 3) (pe_conC (v := .int 8) M.g_Market M.rd_Market (Classical.choose_spec M.cv_Market_MOST_BARTERS)) (nomark _)) (pw_or1 (pt_not (pt_val (pe_callX (E := (fun _ => E)) G_is_barter ⟨M.g_is_barter, K_is_barter⟩ (hr.mono (by decide)) (takes_of rfl rfl rfl rfl) (pa_cons (pv 4) (pa_cons (pe_callB (call_lenK K rfl) (by rfl) M.b_len PySem.boot_len (pa_cons (pv 1) pa_nil)) pa_nil)))))))) (pss_one (ps_raiseE rfl (takes_of rfl rfl rfl rfl) M.er_InvalidBarter hr rfl (pa_cons (pv 3) pa_nil))) pss_nil)))
  (pss_cons (ps_fldC M.cl_Market M.na_Market_thing_row (pv 0) (pe_callTy (call_listK K rfl) (by rfl) M.b_list PyProof.Rows.boot_list (pa_cons (pv 1) pa_nil)))
  (pss_one (ps_fldC M.cl_Market M.na_Market_barter_row (pv 0) (pe_callTy (call_listK K rfl) (by rfl) M.b_list PyProof.Rows.boot_list (pa_cons (pv 2) pa_nil))))))), by exact inferInstance⟩)
theorem sc_Market_len : FnScope ["self"] ["self"] (defScope s_Market_len) := ⟨rfl, rfl, rfl, by decide +kernel, rfl, by decide +kernel, by decide +kernel⟩
theorem ok_Market_len {fd_Market_len : FuncData} (F_Market_len : FunD K "__len__" "Market.__len__" (defArgs s_Market_len) (defBody s_Market_len) (defScope s_Market_len) [] [] (He.ma K (He.ga K "Market") "__len__") fd_Market_len) (M : Md P K mg)  : FnR P w K mg base (L2.CX P w) 2 (He.ma K (He.ga K "Market") "__len__") (spD K f_Market_len) :=
  fnD fin_fz F_Market_len sc_Market_len (F_Market_len.bindsN (ps := ["self"]) fun _ _ _ _ _ _ us hl => match us, hl with | [_], _ => rfl) (fun cdv A outer st H E hr => ⟨_, (pss_one (ps_ret (pe_callB (call_lenK K rfl) (by rfl) M.b_len PySem.boot_len (pa_cons (pe_fldC M.cl_Market M.na_Market_barter_row (pv 0)) pa_nil)))), by exact inferInstance⟩)
theorem sc_Market_barters : FnScope ["self"] ["self"] (defScope s_Market_barters) := ⟨rfl, rfl, rfl, by decide +kernel, rfl, by decide +kernel, by decide +kernel⟩
theorem ok_Market_barters {fd_Market_barters : FuncData} (F_Market_barters : FunD K "barters" "Market.barters" (defArgs s_Market_barters) (defBody s_Market_barters) (defScope s_Market_barters) [] [] (He.ma K (He.ga K "Market") "barters") fd_Market_barters) (M : Md P K mg)  : FnR P w K mg base (L2.CX P w) 2 (He.ma K (He.ga K "Market") "barters") (spD K f_Market_barters) :=
  fnD fin_fz F_Market_barters sc_Market_barters (F_Market_barters.bindsN (ps := ["self"]) fun _ _ _ _ _ _ us hl => match us, hl with | [_], _ => rfl) (fun cdv A outer st H E hr => ⟨_, (pss_one (ps_ret (pe_callTy (call_listK K rfl) (by rfl) M.b_list PyProof.Rows.boot_list (pa_cons (pe_fldC M.cl_Market M.na_Market_barter_row (pv 0)) pa_nil)))), by exact inferInstance⟩)
theorem sc_law_draw : FnScope ["_law_box", "_law_many", "_law_cell", "_law_found"] ["_law_box", "_law_many"] (defScope s_law_draw) := ⟨rfl, rfl, rfl, by decide +kernel, rfl, by decide +kernel, by decide +kernel⟩
theorem ok_law_draw {fd_law_draw : FuncData} (F_law_draw : FunD K "_law_draw" "_law_draw" (defArgs s_law_draw) (defBody s_law_draw) (defScope s_law_draw) [] [] (He.ga K "_law_draw") fd_law_draw) (M : Md P K mg)  : FnR P w K mg base (L2.CX P w) 2 (He.ga K "_law_draw") (spD K f_law_draw) :=
  fnD fin_fz F_law_draw sc_law_draw (F_law_draw.bindsN (ps := ["_law_box", "_law_many"]) fun _ _ _ _ _ _ us hl => match us, hl with | [_, _], _ => rfl) (fun cdv A outer st H E hr => ⟨_, (pss_cons (ps_if (PW.pt (pw_and (pt_cmpR (op_ltK K rfl hr.units) (pe_ix (ix_seqK K rfl) (pv 0) pe_int (fun _ _ => rfl)) pe_int (nomark _)) (pw_and1 (pt_cmpR (op_ltK K rfl hr.units) (pe_ix (ix_seqK K rfl) (pv 0) pe_int (fun _ _ => rfl)) (pe_callB (call_lenK K rfl) (by rfl) M.b_len PySem.boot_len (pa_cons (pe_ix (ix_seqK K rfl) (pv 0) pe_int (fun _ _ => rfl)) pa_nil)) (nomark _))))) (pss_cons (ps_set (i := 2) sc_law_draw.nd rfl (by first | exact Or.inl rfl | exact Or.inr rfl) (pe_ix (ix_seqK K rfl) (pe_ix (ix_seqK K rfl) (pv 0) pe_int (fun _ _ => rfl)) (pe_ix (ix_seqK K rfl) (pv 0) pe_int (fun _ _ => rfl)) (fun _ _ => rfl)))
  (pss_cons (ps_asg (pe_op (op_addK K rfl) (pe_ix (ix_seqK K rfl) (pv 0) pe_int (fun _ _ => rfl)) pe_int) (pg_sub (pv 0) pe_int set_list))
  (pss_one (ps_if (pt_cmpR op_geU (pv 2) (pe_op op_powU pe_int pe_int) (nomark _)) (pss_one (ps_asg (pv 2) (pg_sub (pv 0) pe_int set_list))) (pss_one (ps_asg (pe_op op_modU (pe_callTy (call_intU) (by rfl) M.b_int PyProof.Rows.boot_int (pa_cons (pe_op (op_addK K rfl) (pe_op (op_addK K rfl) (pe_op (op_mulK K rfl) (pe_ix (ix_seqK K rfl) (pv 0) pe_int (fun _ _ => rfl)) pe_int) (pe_op (op_mulK K rfl) (pv 2) pe_int)) pe_int) pa_nil)) pe_int) (pg_sub (pv 0) pe_int set_list))))))) pss_nil)
  (pss_cons (ps_if (pt_cmpR op_gtU (pe_ix (ix_seqK K rfl) (pv 0) pe_int (fun _ _ => rfl)) pe_int (nomark _)) (pss_cons (ps_set (i := 3) sc_law_draw.nd rfl (by first | exact Or.inl rfl | exact Or.inr rfl) (pe_op op_modU (pe_callTy (call_intU) (by rfl) M.b_int PyProof.Rows.boot_int (pa_cons (pe_ix (ix_seqK K rfl) (pv 0) pe_int (fun _ _ => rfl)) pa_nil)) (pv 1)))
  (pss_cons (ps_asg (pe_op op_divU (pe_ix (ix_seqK K rfl) (pv 0) pe_int (fun _ _ => rfl)) (pv 1)) (pg_sub (pv 0) pe_int set_list))
  (pss_one (ps_ret (pv 3))))) pss_nil)
  (pss_cons (ps_asg (pe_op op_modU (pe_callTy (call_intU) (by rfl) M.b_int PyProof.Rows.boot_int (pa_cons (pe_op (op_addK K rfl) (pe_op (op_mulK K rfl) (pe_ix (ix_seqK K rfl) (pv 0) pe_int (fun _ _ => rfl)) pe_int) pe_int) pa_nil)) pe_int) (pg_sub (pv 0) pe_int set_list))
  (pss_one (ps_ret (pe_op op_modU (pe_callTy (call_intU) (by rfl) M.b_int PyProof.Rows.boot_int (pa_cons (pe_op op_divU (pe_op op_modU (pe_callTy (call_intU) (by rfl) M.b_int PyProof.Rows.boot_int (pa_cons (pe_op (op_mulK K rfl) (pe_ix (ix_seqK K rfl) (pv 0) pe_int (fun _ _ => rfl)) (pe_ix (ix_seqK K rfl) (pv 0) pe_int (fun _ _ => rfl))) pa_nil)) pe_int) pe_int) pa_nil)) (pv 1))))))), by exact inferInstance⟩)
theorem sc_law_any : FnScope ["_law_box", "_law_row"] ["_law_box", "_law_row"] (defScope s_law_any) := ⟨rfl, rfl, rfl, by decide +kernel, rfl, by decide +kernel, by decide +kernel⟩
theorem ok_law_any {fd_law_any : FuncData} (F_law_any : FunD K "_law_any" "_law_any" (defArgs s_law_any) (defBody s_law_any) (defScope s_law_any) [] [] (He.ga K "_law_any") fd_law_any) (M : Md P K mg) (G_law_draw : FnR P w K mg base (L2.CX P w) 2 (He.ga K "_law_draw") (spD K f_law_draw)) (K_law_draw : PySem.W.keepIn K (.ref (He.ga K "_law_draw")) = true) : FnR P w K mg base (L2.CX P w) 4 (He.ga K "_law_any") (spD K f_law_any) :=
  fnD fin_fz F_law_any sc_law_any (F_law_any.bindsN (ps := ["_law_box", "_law_row"]) fun _ _ _ _ _ _ us hl => match us, hl with | [_, _], _ => rfl) (fun cdv A outer st H E hr => ⟨_, (pss_one (ps_ret (pe_ix (ix_seqK K rfl) (pv 1) (pe_callX (E := (fun _ => E)) G_law_draw ⟨M.g_law_draw, K_law_draw⟩ (hr.mono (by decide)) (takes_of rfl rfl rfl rfl) (pa_cons (pv 0) (pa_cons (pe_callB (call_lenK K rfl) (by rfl) M.b_len PySem.boot_len (pa_cons (pv 1) pa_nil)) pa_nil))) (fun _ _ => rfl)))), by exact inferInstance⟩)
theorem sc_law_plus : FnScope ["_law_one", "_law_other", "_law_a", "_law_b"] ["_law_one", "_law_other"] (defScope s_law_plus) := ⟨rfl, rfl, rfl, by decide +kernel, rfl, by decide +kernel, by decide +kernel⟩
theorem ok_law_plus {fd_law_plus : FuncData} (F_law_plus : FunD K "_law_plus" "_law_plus" (defArgs s_law_plus) (defBody s_law_plus) (defScope s_law_plus) [] [] (He.ga K "_law_plus") fd_law_plus) (M : Md P K mg)  : FnR P w K mg base (L2.CX P w) 2 (He.ga K "_law_plus") (spD K f_law_plus) :=
  fnD fin_fz F_law_plus sc_law_plus (F_law_plus.bindsN (ps := ["_law_one", "_law_other"]) fun _ _ _ _ _ _ us hl => match us, hl with | [_, _], _ => rfl) (fun cdv A outer st H E hr => ⟨_, (pss_one (ps_ret (pe_callTy (call_tupK K rfl) (by rfl) M.b_tuple PyProof.Rows.boot_tuple (pa_cons (lc_vs [2, 3] (pe_lc (own := [("_law_a", 2), ("_law_b", 3)]) (by rfl) sc_law_plus.nd (pi_zip2M K rfl (by rfl) M.b_zip (pa_cons (pv 0) (pa_cons (pv 1) pa_nil))) (blkOk_by (own := [("_law_a", 2), ("_law_b", 3)]) (N := ["_law_one", "_law_other", "_law_a", "_law_b"]) (sc := defScope s_law_plus) (by decide +kernel)) (fun _ _ _ _ _ => (pg_tupK (n := 2) K rfl rfl (pgs_cons (pg_name (i := 2) sc_law_plus.nd rfl (by first | exact Or.inl rfl | exact Or.inr rfl)) (pgs_cons (pg_name (i := 3) sc_law_plus.nd rfl (by first | exact Or.inl rfl | exact Or.inr rfl)) pgs_nil)))) (fun _ _ _ _ _ => pts_nil) (fun _ _ _ _ _ => (pe_op (op_addK K rfl) (pv 2) (pv 3))))) pa_nil)))), by exact inferInstance⟩)
theorem sc_law_some_bundle : FnScope ["_law_box", "_law_width", "_law_cap", "_law_k"] ["_law_box", "_law_width", "_law_cap"] (defScope s_law_some_bundle) := ⟨rfl, rfl, rfl, by decide +kernel, rfl, by decide +kernel, by decide +kernel⟩
theorem ok_law_some_bundle {fd_law_some_bundle : FuncData} (F_law_some_bundle : FunD K "_law_some_bundle" "_law_some_bundle" (defArgs s_law_some_bundle) (defBody s_law_some_bundle) (defScope s_law_some_bundle) [] [] (He.ga K "_law_some_bundle") fd_law_some_bundle) (M : Md P K mg) (G_law_draw : FnR P w K mg base (L2.CX P w) 2 (He.ga K "_law_draw") (spD K f_law_draw)) (K_law_draw : PySem.W.keepIn K (.ref (He.ga K "_law_draw")) = true) : FnR P w K mg base (L2.CX P w) 4 (He.ga K "_law_some_bundle") (spD K f_law_some_bundle) :=
  fnD fin_fz F_law_some_bundle sc_law_some_bundle (F_law_some_bundle.bindsN (ps := ["_law_box", "_law_width", "_law_cap"]) fun _ _ _ _ _ _ us hl => match us, hl with | [_, _, _], _ => rfl) (fun cdv A outer st H E hr => ⟨_, (pss_one (ps_ret (pe_callTy (call_tupK K rfl) (by rfl) M.b_tuple PyProof.Rows.boot_tuple (pa_cons (lc_vs [3] (pe_lc (own := [("_law_k", 3)]) (by rfl) sc_law_some_bundle.nd (pi_range1 (by rfl) M.b_range (pa_cons (pv 1) pa_nil)) (blkOk_by (own := [("_law_k", 3)]) (N := ["_law_box", "_law_width", "_law_cap", "_law_k"]) (sc := defScope s_law_some_bundle) (by decide +kernel)) (fun _ _ _ _ _ => (pg_name (i := 3) sc_law_some_bundle.nd rfl (by first | exact Or.inl rfl | exact Or.inr rfl))) (fun _ _ _ _ _ => pts_nil) (fun _ _ _ _ _ => (pe_callX (E := EN) G_law_draw ⟨M.g_law_draw, K_law_draw⟩ (hr.mono (by decide)) take_no (pa_cons (pv 0) (pa_cons (pe_op (op_addK K rfl) (pv 2) pe_int) pa_nil)))))) pa_nil)))), by exact inferInstance⟩)
theorem sc_law_barters : FnScope ["_law_box", "_law_width", "_law_many", "_law_cap", "_law_found", "_law_k", "_law_left", "_law_right"] ["_law_box", "_law_width", "_law_many", "_law_cap"] (defScope s_law_barters) := ⟨rfl, rfl, rfl, by decide +kernel, rfl, by decide +kernel, by decide +kernel⟩
theorem ok_law_barters {fd_law_barters : FuncData} (F_law_barters : FunD K "_law_barters" "_law_barters" (defArgs s_law_barters) (defBody s_law_barters) (defScope s_law_barters) [] [] (He.ga K "_law_barters") fd_law_barters) (M : Md P K mg) (G_law_plus : FnR P w K mg base (L2.CX P w) 2 (He.ga K "_law_plus") (spD K f_law_plus)) (K_law_plus : PySem.W.keepIn K (.ref (He.ga K "_law_plus")) = true) (G_law_some_bundle : FnR P w K mg base (L2.CX P w) 4 (He.ga K "_law_some_bundle") (spD K f_law_some_bundle)) (K_law_some_bundle : PySem.W.keepIn K (.ref (He.ga K "_law_some_bundle")) = true) : FnR P w K mg base (L2.CX P w) 6 (He.ga K "_law_barters") (spD K f_law_barters) :=
  fnD fin_kp F_law_barters sc_law_barters (F_law_barters.bindsN (ps := ["_law_box", "_law_width", "_law_many", "_law_cap"]) fun _ _ _ _ _ _ us hl => match us, hl with | [_, _, _, _], _ => rfl) (fun cdv A outer st H E hr => ⟨_, (pss_cons (ps_set (i := 4) sc_law_barters.nd rfl (by first | exact Or.inl rfl | exact Or.inr rfl) (pe_lstM pa_nil))
  (pss_cons (ps_for (passes_of rfl) rfl (pi_range1 (by rfl) M.b_range (pa_cons (pv 2) pa_nil)) (pg_name (i := 5) sc_law_barters.nd rfl (by first | exact Or.inl rfl | exact Or.inr rfl))
    (pss_cons (ps_par (i := 6) (j := 7) (by rfl) sc_law_barters.nd rfl rfl (by decide) rfl rfl (pa_cons (pe_callX (E := (fun _ => E)) G_law_some_bundle ⟨M.g_law_some_bundle, K_law_some_bundle⟩ (hr.mono (by decide)) (takes_of rfl rfl rfl rfl) (pa_cons (pv 0) (pa_cons (pv 1) (pa_cons (pv 3) pa_nil)))) (pa_cons (pe_callX (E := (fun _ => E)) G_law_some_bundle ⟨M.g_law_some_bundle, K_law_some_bundle⟩ (hr.mono (by decide)) (takes_of rfl rfl rfl rfl) (pa_cons (pv 0) (pa_cons (pv 1) (pa_cons (pv 3) pa_nil)))) pa_nil)) (by rfl))
  (pss_cons (ps_if (pt_cmpR (op_eqK K rfl hr.units) (pv 6) (pv 7) (nomark _)) (pss_one (ps_set (i := 7) sc_law_barters.nd rfl (by first | exact Or.inl rfl | exact Or.inr rfl) (pe_ifExp (pt_cmpR (op_ltK K rfl hr.units) (pe_ix (ix_seqK K rfl) (pv 6) pe_int (fun _ _ => rfl)) pe_int (nomark _)) (pe_callX (E := (fun _ => E)) G_law_plus ⟨M.g_law_plus, K_law_plus⟩ (hr.mono (by decide)) (takes_of rfl rfl rfl rfl) (pa_cons (pv 6) (pa_cons (pe_op (op_addK K rfl) (pe_tup (pa_cons pe_int pa_nil)) (pe_op (op_mulK K rfl) (pe_tup (pa_cons pe_int pa_nil)) (pe_op op_subU (pv 1) pe_int))) pa_nil))) (pe_op (op_addK K rfl) (pe_tup (pa_cons pe_int pa_nil)) (pe_slice (sl_K K rfl) (pv 6) (po_some pe_int) po_none))))) pss_nil)
  (pss_one (ps_expr (pe_appendK K rfl (pv 4) (pa_cons (pe_tup (pa_cons (pv 6) (pa_cons (pv 7) pa_nil))) pa_nil)))))))
  (pss_one (ps_ret (pv 4))))), by exact inferInstance⟩)
theorem sc_law_begin : FnScope ["_law_script", "_law_cell", "_law_cells", "_law_mark"] ["_law_script"] (defScope s_law_begin) := ⟨rfl, rfl, rfl, by decide +kernel, rfl, by decide +kernel, by decide +kernel⟩
theorem ok_law_begin {fd_law_begin : FuncData} (F_law_begin : FunD K "_law_begin" "_law_begin" (defArgs s_law_begin) (defBody s_law_begin) (defScope s_law_begin) [] [] (He.ga K "_law_begin") fd_law_begin) (M : Md P K mg)  : FnR P w K mg base (L2.CX P w) 2 (He.ga K "_law_begin") (spD K f_law_begin) :=
  fnD fin_kp F_law_begin sc_law_begin (F_law_begin.bindsN (ps := ["_law_script"]) fun _ _ _ _ _ _ us hl => match us, hl with | [_], _ => rfl) (fun cdv A outer st H E hr => ⟨_, (pss_cons (slc_vs [1] (ps_setLc (i := 2) (own := [("_law_cell", 1)]) (by rfl) sc_law_begin.nd rfl rfl (sw_true rfl rfl rfl (by decide +kernel)) (pi_seqK K rfl (pe_slice (sl_K K rfl) (pv 0) po_none (po_some pe_int))) (blkOk_by (own := [("_law_cell", 1)]) (N := ["_law_script", "_law_cell", "_law_cells", "_law_mark"]) (sc := defScope s_law_begin) (by decide +kernel)) (fun _ _ _ _ _ => (pg_name (i := 1) sc_law_begin.nd rfl (by first | exact Or.inl rfl | exact Or.inr rfl))) (fun _ _ _ _ _ => pts_nil) (fun _ _ _ _ _ => (pe_callTy (call_intU) (by rfl) M.b_int PyProof.Rows.boot_int (pa_cons (pv 1) pa_nil)))))
  (pss_cons (ps_set (i := 3) sc_law_begin.nd rfl (by first | exact Or.inl rfl | exact Or.inr rfl) (pe_op (op_addK K rfl) pe_int (pe_op (op_mulK K rfl) pe_int (pe_callB (call_lenK K rfl) (by rfl) M.b_len PySem.boot_len (pa_cons (pv 2) pa_nil)))))
  (pss_cons (ps_for (passes_of rfl) rfl (pi_seqK K rfl (pv 2)) (pg_name (i := 1) sc_law_begin.nd rfl (by first | exact Or.inl rfl | exact Or.inr rfl))
    (pss_one (ps_set (i := 3) sc_law_begin.nd rfl (by first | exact Or.inl rfl | exact Or.inr rfl) (pe_op op_modU (pe_callTy (call_intU) (by rfl) M.b_int PyProof.Rows.boot_int (pa_cons (pe_op (op_addK K rfl) (pe_op (op_mulK K rfl) (pv 3) pe_int) (pv 1)) pa_nil)) pe_int))))
  (pss_one (ps_ret (pe_lstM (pa_cons (pv 2) (pa_cons pe_int (pa_cons pe_int (pa_cons (pv 3) pa_nil)))))))))), by exact inferInstance⟩)
theorem sc_law_bent_bundle : FnScope ["_law_box", "_law_bundle", "_law_cap", "_law_at", "_law_odd"] ["_law_box", "_law_bundle", "_law_cap"] (defScope s_law_bent_bundle) := ⟨rfl, rfl, rfl, by decide +kernel, rfl, by decide +kernel, by decide +kernel⟩
theorem ok_law_bent_bundle {fd_law_bent_bundle : FuncData} (F_law_bent_bundle : FunD K "_law_bent_bundle" "_law_bent_bundle" (defArgs s_law_bent_bundle) (defBody s_law_bent_bundle) (defScope s_law_bent_bundle) [] [] (He.ga K "_law_bent_bundle") fd_law_bent_bundle) (M : Md P K mg) (G_law_any : FnR P w K mg base (L2.CX P w) 4 (He.ga K "_law_any") (spD K f_law_any)) (K_law_any : PySem.W.keepIn K (.ref (He.ga K "_law_any")) = true) (G_law_draw : FnR P w K mg base (L2.CX P w) 2 (He.ga K "_law_draw") (spD K f_law_draw)) (K_law_draw : PySem.W.keepIn K (.ref (He.ga K "_law_draw")) = true) : FnR P w K mg base (L2.CX P w) 6 (He.ga K "_law_bent_bundle") (spD K f_law_bent_bundle) :=
  fnD fin_fz F_law_bent_bundle sc_law_bent_bundle (F_law_bent_bundle.bindsN (ps := ["_law_box", "_law_bundle", "_law_cap"]) fun _ _ _ _ _ _ us hl => match us, hl with | [_, _, _], _ => rfl) (fun cdv A outer st H E hr => ⟨_, (pss_cons (ps_set (i := 3) sc_law_bent_bundle.nd rfl (by first | exact Or.inl rfl | exact Or.inr rfl) (pe_callX (E := (fun _ => E)) G_law_draw ⟨M.g_law_draw, K_law_draw⟩ (hr.mono (by decide)) (takes_of rfl rfl rfl rfl) (pa_cons (pv 0) (pa_cons (pe_callB (call_lenK K rfl) (by rfl) M.b_len PySem.boot_len (pa_cons (pv 1) pa_nil)) pa_nil))))
  (pss_cons (ps_set (i := 4) sc_law_bent_bundle.nd rfl (by first | exact Or.inl rfl | exact Or.inr rfl) (pe_callX (E := (fun _ => E)) G_law_any ⟨M.g_law_any, K_law_any⟩ (hr.mono (by decide)) (takes_of rfl rfl rfl rfl) (pa_cons (pv 0) (pa_cons (pe_lst (pa_cons (pe_un un_negU pe_int) (pa_cons (pe_op (op_addK K rfl) (pv 2) pe_int) (pa_cons (pv 2) (pa_cons (pe_op op_powU pe_int pe_int) (pa_cons pe_bl (pa_cons pe_non (pa_cons pe_str (pa_cons pe_int pa_nil))))))))) pa_nil))))
  (pss_one (ps_ret (pe_callX (E := (fun _ => E)) G_law_any ⟨M.g_law_any, K_law_any⟩ (hr.mono (by decide)) (takes_of rfl rfl rfl rfl) (pa_cons (pv 0) (pa_cons (pe_lst (pa_cons (pe_op (op_addK K rfl) (pe_op (op_addK K rfl) (pe_slice (sl_K K rfl) (pv 1) po_none (po_some (pv 3))) (pe_tup (pa_cons (pv 4) pa_nil))) (pe_slice (sl_K K rfl) (pv 1) (po_some (pe_op (op_addK K rfl) (pv 3) pe_int)) po_none)) (pa_cons (pe_op (op_addK K rfl) (pv 1) (pe_tup (pa_cons pe_int pa_nil))) (pa_cons (pe_slice (sl_K K rfl) (pv 1) (po_some pe_int) po_none) (pa_cons (pe_tup pa_nil) pa_nil))))) pa_nil))))))), by exact inferInstance⟩)
theorem sc_law_bent_barter : FnScope ["_law_box", "_law_barter", "_law_left", "_law_right", "_law_bent", "_law_odd"] ["_law_box", "_law_barter"] (defScope s_law_bent_barter) := ⟨rfl, rfl, rfl, by decide +kernel, rfl, by decide +kernel, by decide +kernel⟩
theorem ok_law_bent_barter {fd_law_bent_barter : FuncData} (F_law_bent_barter : FunD K "_law_bent_barter" "_law_bent_barter" (defArgs s_law_bent_barter) (defBody s_law_bent_barter) (defScope s_law_bent_barter) [] [] (He.ga K "_law_bent_barter") fd_law_bent_barter) (M : Md P K mg) (G_law_any : FnR P w K mg base (L2.CX P w) 4 (He.ga K "_law_any") (spD K f_law_any)) (K_law_any : PySem.W.keepIn K (.ref (He.ga K "_law_any")) = true) (G_law_bent_bundle : FnR P w K mg base (L2.CX P w) 6 (He.ga K "_law_bent_bundle") (spD K f_law_bent_bundle)) (K_law_bent_bundle : PySem.W.keepIn K (.ref (He.ga K "_law_bent_bundle")) = true) : FnR P w K mg base (L2.CX P w) 8 (He.ga K "_law_bent_barter") (spD K f_law_bent_barter) :=
  fnD fin_fz F_law_bent_barter sc_law_bent_barter (F_law_bent_barter.bindsN (ps := ["_law_box", "_law_barter"]) fun _ _ _ _ _ _ us hl => match us, hl with | [_, _], _ => rfl) (fun cdv A outer st H E hr => ⟨_, (pss_cons (ps_asg (pv 1) (pg_tupK (n := 2) K rfl rfl (pgs_cons (pg_name (i := 2) sc_law_bent_barter.nd rfl (by first | exact Or.inl rfl | exact Or.inr rfl)) (pgs_cons (pg_name (i := 3) sc_law_bent_barter.nd rfl (by first | exact Or.inl rfl | exact Or.inr rfl)) pgs_nil))))
  (pss_cons (ps_set (i := 4) sc_law_bent_barter.nd rfl (by first | exact Or.inl rfl | exact Or.inr rfl) (pe_callX (E := (fun _ => E)) G_law_bent_bundle ⟨M.g_law_bent_bundle, K_law_bent_bundle⟩ (hr.mono (by decide)) (takes_of rfl rfl rfl rfl) (pa_cons (pv 0) (pa_cons (pv 2) (pa_cons pe_int pa_nil)))))
  (pss_cons (ps_set (i := 5) sc_law_bent_barter.nd rfl (by first | exact Or.inl rfl | exact Or.inr rfl) (pe_lst (pa_cons (pe_tup (pa_cons (pv 4) (pa_cons (pv 3) pa_nil))) (pa_cons (pe_tup (pa_cons (pv 2) (pa_cons (pv 4) pa_nil))) (pa_cons (pe_tup (pa_cons (pv 2) (pa_cons (pv 2) pa_nil))) (pa_cons (pe_tup (pa_cons (pv 2) pa_nil)) (pa_cons (pe_tup pa_nil) (pa_cons (pe_tup (pa_cons (pv 2) (pa_cons (pv 3) (pa_cons (pv 2) pa_nil)))) (pa_cons (pe_tup (pa_cons pe_non (pa_cons (pv 3) pa_nil))) pa_nil)))))))))
  (pss_one (ps_ret (pe_callX (E := (fun _ => E)) G_law_any ⟨M.g_law_any, K_law_any⟩ (hr.mono (by decide)) (takes_of rfl rfl rfl rfl) (pa_cons (pv 0) (pa_cons (pe_op (op_addK K rfl) (pv 5) (pe_lst (pa_cons (pe_tup (pa_cons (pv 2) (pa_cons pe_str pa_nil))) (pa_cons (pe_tup (pa_cons (pv 3) (pa_cons (pv 2) pa_nil))) pa_nil)))) pa_nil)))))))), by exact inferInstance⟩)
theorem sc_law_field : FnScope ["_law_e"] ["_law_e"] (defScope s_law_field) := ⟨rfl, rfl, rfl, by decide +kernel, rfl, by decide +kernel, by decide +kernel⟩
theorem ok_law_field {fd_law_field : FuncData} (F_law_field : FunD K "_law_field" "_law_field" (defArgs s_law_field) (defBody s_law_field) (defScope s_law_field) [] [] (He.ga K "_law_field") fd_law_field) (M : Md P K mg) : FnRH P w K mg base 2 (He.ga K "_law_field") (spD K f_law_field) :=
  fnDH fin_fz F_law_field sc_law_field (F_law_field.bindsN (ps := ["_law_e"]) fun _ _ _ _ _ _ us hl => match us, hl with | [_], _ => rfl) (fun cdv A outer st H E hr => ⟨_, (pss_cons (ps_if (pt_cmpR (op_inK K rfl (roomH_units hr)) (pe_excF K rfl ["InvalidThing", "InvalidBarter"] (all_cons M.xa_InvalidThing_tag (all_cons M.xa_InvalidBarter_tag all_nil)) (pv 0)) (pe_tup (pa_cons pe_str (pa_cons pe_str (pa_cons pe_str (pa_cons pe_str (pa_cons pe_str pa_nil)))))) (by rfl)) (pss_one (ps_ret (pe_excF K rfl ["InvalidThing", "InvalidBarter"] (all_cons M.xa_InvalidThing_at (all_cons M.xa_InvalidBarter_at all_nil)) (pv 0)))) pss_nil)
  (pss_cons (ps_if (pt_cmpR (op_inK K rfl (roomH_units hr)) (pe_excF K rfl ["InvalidThing", "InvalidBarter"] (all_cons M.xa_InvalidThing_tag (all_cons M.xa_InvalidBarter_tag all_nil)) (pv 0)) (pe_tup (pa_cons pe_str (pa_cons pe_str (pa_cons pe_str (pa_cons pe_str pa_nil))))) (by rfl)) (pss_one (ps_ret (pe_excF K rfl [] all_nil (pv 0)))) pss_nil)
  (pss_cons (ps_if (pt_cmpR (op_inK K rfl (roomH_units hr)) (pe_excF K rfl ["InvalidThing", "InvalidBarter"] (all_cons M.xa_InvalidThing_tag (all_cons M.xa_InvalidBarter_tag all_nil)) (pv 0)) (pe_tup (pa_cons pe_str (pa_cons pe_str pa_nil))) (by rfl)) (pss_one (ps_ret (pe_excF K rfl [] all_nil (pv 0)))) pss_nil)
  (pss_cons (ps_if (pt_cmpR (op_inK K rfl (roomH_units hr)) (pe_excF K rfl ["InvalidThing", "InvalidBarter"] (all_cons M.xa_InvalidThing_tag (all_cons M.xa_InvalidBarter_tag all_nil)) (pv 0)) (pe_tup (pa_cons pe_str (pa_cons pe_str (pa_cons pe_str (pa_cons pe_str (pa_cons pe_str pa_nil)))))) (by rfl)) (pss_one (ps_ret (pe_excF K rfl [] all_nil (pv 0)))) pss_nil)
  (pss_cons (ps_if (pt_cmpR (op_eqK K rfl (roomH_units hr)) (pe_excF K rfl ["InvalidThing", "InvalidBarter"] (all_cons M.xa_InvalidThing_tag (all_cons M.xa_InvalidBarter_tag all_nil)) (pv 0)) pe_str (nomark _)) (pss_one (ps_ret (pe_excF K rfl [] all_nil (pv 0)))) pss_nil)
  (pss_cons (ps_if (pt_cmpR (op_eqK K rfl (roomH_units hr)) (pe_excF K rfl ["InvalidThing", "InvalidBarter"] (all_cons M.xa_InvalidThing_tag (all_cons M.xa_InvalidBarter_tag all_nil)) (pv 0)) pe_str (nomark _)) (pss_one (ps_ret (pe_excF K rfl [] all_nil (pv 0)))) pss_nil)
  (pss_cons (ps_if (pt_cmpR (op_eqK K rfl (roomH_units hr)) (pe_excF K rfl ["InvalidThing", "InvalidBarter"] (all_cons M.xa_InvalidThing_tag (all_cons M.xa_InvalidBarter_tag all_nil)) (pv 0)) pe_str (nomark _)) (pss_one (ps_ret (pe_excF K rfl [] all_nil (pv 0)))) pss_nil)
  (pss_cons (ps_if (pt_cmpR (op_eqK K rfl (roomH_units hr)) (pe_excF K rfl ["InvalidThing", "InvalidBarter"] (all_cons M.xa_InvalidThing_tag (all_cons M.xa_InvalidBarter_tag all_nil)) (pv 0)) pe_str (nomark _)) (pss_one (ps_ret (pe_excF K rfl [] all_nil (pv 0)))) pss_nil)
  (pss_cons (ps_if (pt_cmpR (op_eqK K rfl (roomH_units hr)) (pe_excF K rfl ["InvalidThing", "InvalidBarter"] (all_cons M.xa_InvalidThing_tag (all_cons M.xa_InvalidBarter_tag all_nil)) (pv 0)) pe_str (nomark _)) (pss_one (ps_ret (pe_excF K rfl [] all_nil (pv 0)))) pss_nil)
  (pss_cons (ps_if (pt_cmpR (op_eqK K rfl (roomH_units hr)) (pe_excF K rfl ["InvalidThing", "InvalidBarter"] (all_cons M.xa_InvalidThing_tag (all_cons M.xa_InvalidBarter_tag all_nil)) (pv 0)) pe_str (nomark _)) (pss_one (ps_ret (pe_excF K rfl [] all_nil (pv 0)))) pss_nil)
  (pss_one (ps_ret (pe_ifExp (pt_cmpR (op_eqK K rfl (roomH_units hr)) (pe_excF K rfl ["InvalidThing", "InvalidBarter"] (all_cons M.xa_InvalidThing_tag (all_cons M.xa_InvalidBarter_tag all_nil)) (pv 0)) pe_str (nomark _)) (pe_tup (pa_cons (pe_excF K rfl [] all_nil (pv 0)) (pa_cons (pe_excF K rfl [] all_nil (pv 0)) (pa_cons (pe_excF K rfl [] all_nil (pv 0)) pa_nil)))) pe_non))))))))))))), by exact inferInstance⟩)
theorem sc_law_is_bundle : FnScope ["_law_bundle", "_law_width", "_law_cap", "_law_one"] ["_law_bundle", "_law_width", "_law_cap"] (defScope s_law_is_bundle) := ⟨rfl, rfl, rfl, by decide +kernel, rfl, by decide +kernel, by decide +kernel⟩
theorem ok_law_is_bundle {fd_law_is_bundle : FuncData} (F_law_is_bundle : FunD K "_law_is_bundle" "_law_is_bundle" (defArgs s_law_is_bundle) (defBody s_law_is_bundle) (defScope s_law_is_bundle) [] [] (He.ga K "_law_is_bundle") fd_law_is_bundle) (M : Md P K mg)  : FnR P w K mg base (L2.CX P w) 2 (He.ga K "_law_is_bundle") (spD K f_law_is_bundle) :=
  fnD fin_fz F_law_is_bundle sc_law_is_bundle (F_law_is_bundle.bindsN (ps := ["_law_bundle", "_law_width", "_law_cap"]) fun _ _ _ _ _ _ us hl => match us, hl with | [_, _, _], _ => rfl) (fun cdv A outer st H E hr => ⟨_, (pss_cons (ps_if (PW.pt (pw_or (pt_not (pt_val (pe_callB (call_isiK' K rfl) (by rfl) M.b_isinstance PyProof.Rows.boot_isinstance (pa_cons (pv 0) (pa_cons (pe_bltn (v := .ty "tuple") rfl M.b_tuple (by decide +kernel) rfl) pa_nil))))) (pw_or1 (pt_cmpR (op_neK K rfl hr.units) (pe_callB (call_lenK K rfl) (by rfl) M.b_len PySem.boot_len (pa_cons (pv 0) pa_nil)) (pv 1) (nomark _))))) (pss_one (ps_ret pe_bl)) pss_nil)
  (pss_one (ps_ret (pe_callB (call_allK K rfl rfl) (by rfl) M.b_all PyProof.Rows.boot_all (pa_cons (lc_vs [3] (pe_lc (own := [("_law_one", 3)]) (by rfl) sc_law_is_bundle.nd (pi_seqK K rfl (pv 0)) (blkOk_by (own := [("_law_one", 3)]) (N := ["_law_bundle", "_law_width", "_law_cap", "_law_one"]) (sc := defScope s_law_is_bundle) (by decide +kernel)) (fun _ _ _ _ _ => (pg_name (i := 3) sc_law_is_bundle.nd rfl (by first | exact Or.inl rfl | exact Or.inr rfl))) (fun _ _ _ _ _ => pts_nil) (fun _ _ _ _ _ => (pe_and (pe_callB (call_isiK' K rfl) (by rfl) M.b_isinstance PyProof.Rows.boot_isinstance (pa_cons (pv 3) (pa_cons (pe_bltn (v := .ty "int") rfl M.b_int (by decide +kernel) rfl) pa_nil))) (pe_and (pe_not (pe_callB (call_isiK' K rfl) (by rfl) M.b_isinstance PyProof.Rows.boot_isinstance (pa_cons (pv 3) (pa_cons (pe_bltn (v := .ty "bool") rfl M.b_bool (by decide +kernel) rfl) pa_nil)))) (pe_one (pe_chain op_leU op_leU pe_int (pv 3) (pv 2)))))))) pa_nil))))), by exact inferInstance⟩)
theorem sc_law_is_barter : FnScope ["_law_barter", "_law_width", "_law_part"] ["_law_barter", "_law_width"] (defScope s_law_is_barter) := ⟨rfl, rfl, rfl, by decide +kernel, rfl, by decide +kernel, by decide +kernel⟩
theorem ok_law_is_barter {fd_law_is_barter : FuncData} (F_law_is_barter : FunD K "_law_is_barter" "_law_is_barter" (defArgs s_law_is_barter) (defBody s_law_is_barter) (defScope s_law_is_barter) [] [] (He.ga K "_law_is_barter") fd_law_is_barter) (M : Md P K mg) (G_law_is_bundle : FnR P w K mg base (L2.CX P w) 2 (He.ga K "_law_is_bundle") (spD K f_law_is_bundle)) (K_law_is_bundle : PySem.W.keepIn K (.ref (He.ga K "_law_is_bundle")) = true) : FnR P w K mg base (L2.CX P w) 4 (He.ga K "_law_is_barter") (spD K f_law_is_barter) :=
  fnD fin_fz F_law_is_barter sc_law_is_barter (F_law_is_barter.bindsN (ps := ["_law_barter", "_law_width"]) fun _ _ _ _ _ _ us hl => match us, hl with | [_, _], _ => rfl) (fun cdv A outer st H E hr => ⟨_, (pss_cons (ps_if (PW.pt (pw_or (pt_cmpR (op_neK K rfl hr.units) (pe_callB (call_lenK K rfl) (by rfl) M.b_len PySem.boot_len (pa_cons (pv 0) pa_nil)) pe_int (nomark _)) (pw_or1 (pt_not (pt_val (pe_callB (call_allK K rfl rfl) (by rfl) M.b_all PyProof.Rows.boot_all (pa_cons (lc_vs [2] (pe_lc (own := [("_law_part", 2)]) (by rfl) sc_law_is_barter.nd (pi_seqK K rfl (pv 0)) (blkOk_by (own := [("_law_part", 2)]) (N := ["_law_barter", "_law_width", "_law_part"]) (sc := defScope s_law_is_barter) (by decide +kernel)) (fun _ _ _ _ _ => (pg_name (i := 2) sc_law_is_barter.nd rfl (by first | exact Or.inl rfl | exact Or.inr rfl))) (fun _ _ _ _ _ => pts_nil) (fun _ _ _ _ _ => (pe_callX (E := EN) G_law_is_bundle ⟨M.g_law_is_bundle, K_law_is_bundle⟩ (hr.mono (by decide)) take_no (pa_cons (pv 2) (pa_cons (pv 1) (pa_cons pe_int pa_nil))))))) pa_nil))))))) (pss_one (ps_ret pe_bl)) pss_nil)
  (pss_one (ps_ret (pe_cmpR (op_neK K rfl hr.units) (pe_ix (ix_seqK K rfl) (pv 0) pe_int (fun _ _ => rfl)) (pe_ix (ix_seqK K rfl) (pv 0) pe_int (fun _ _ => rfl)) (nomark _))))), by exact inferInstance⟩)
theorem sc_law_made : FnScope ["_law_things", "_law_row", "_law_a", "_law_b", "_law_c", "_law_d", "_law_e", "_law_f", "_law_g", "_law_h"] ["_law_things", "_law_row"] (defScope s_law_made) := ⟨rfl, rfl, rfl, by decide +kernel, rfl, by decide +kernel, by decide +kernel⟩
theorem ok_law_made {fd_law_made : FuncData} (F_law_made : FunD K "_law_made" "_law_made" (defArgs s_law_made) (defBody s_law_made) (defScope s_law_made) [] [] (He.ga K "_law_made") fd_law_made) (M : Md P K mg) (G_Market_init : FnR P w K mg base (L2.CX P w) 8 (He.ma K (He.ga K "Market") "__init__") (spD K f_Market_init)) : FnR P w K mg base (L2.CX P w) 10 (He.ga K "_law_made") (spD K f_law_made) :=
  fnD fin_fz F_law_made sc_law_made (F_law_made.bindsN (ps := ["_law_things", "_law_row"]) fun _ _ _ _ _ _ us hl => match us, hl with | [_, _], _ => rfl) (fun cdv A outer st H E hr => ⟨_, (pss_cons (ps_if (pt_cmpR (op_eqK K rfl hr.units) (pe_callB (call_lenK K rfl) (by rfl) M.b_len PySem.boot_len (pa_cons (pv 1) pa_nil)) pe_int (nomark _)) (pss_one (ps_ret (pe_makeF fz (StX.pe_makeR M.mk_Market G_Market_init (hr.mono (by decide)) rfl M.g_Market (passes_tk (takes_of rfl rfl rfl rfl)) (pa_cons (pv 0) pa_nil))))) pss_nil)
  (pss_cons (ps_if (pt_cmpR (op_eqK K rfl hr.units) (pe_callB (call_lenK K rfl) (by rfl) M.b_len PySem.boot_len (pa_cons (pv 1) pa_nil)) pe_int (nomark _)) (pss_one (ps_ret (pe_makeF fz (StX.pe_makeR M.mk_Market G_Market_init (hr.mono (by decide)) rfl M.g_Market (passes_tk (takes_of rfl rfl rfl rfl)) (pa_cons (pv 0) (pa_cons (pe_ix (ix_seqK K rfl) (pv 1) pe_int (fun _ _ => rfl)) pa_nil)))))) pss_nil)
  (pss_cons (ps_if (pt_cmpR (op_eqK K rfl hr.units) (pe_callB (call_lenK K rfl) (by rfl) M.b_len PySem.boot_len (pa_cons (pv 1) pa_nil)) pe_int (nomark _)) (pss_one (ps_ret (pe_makeF fz (StX.pe_makeR M.mk_Market G_Market_init (hr.mono (by decide)) rfl M.g_Market (passes_tk (takes_of rfl rfl rfl rfl)) (pa_cons (pv 0) (pa_cons (pe_ix (ix_seqK K rfl) (pv 1) pe_int (fun _ _ => rfl)) (pa_cons (pe_ix (ix_seqK K rfl) (pv 1) pe_int (fun _ _ => rfl)) pa_nil))))))) pss_nil)
  (pss_cons (ps_if (pt_cmpR (op_eqK K rfl hr.units) (pe_callB (call_lenK K rfl) (by rfl) M.b_len PySem.boot_len (pa_cons (pv 1) pa_nil)) pe_int (nomark _)) (pss_one (ps_ret (pe_makeF fz (StX.pe_makeR M.mk_Market G_Market_init (hr.mono (by decide)) rfl M.g_Market (passes_tk (takes_of rfl rfl rfl rfl)) (pa_cons (pv 0) (pa_cons (pe_ix (ix_seqK K rfl) (pv 1) pe_int (fun _ _ => rfl)) (pa_cons (pe_ix (ix_seqK K rfl) (pv 1) pe_int (fun _ _ => rfl)) (pa_cons (pe_ix (ix_seqK K rfl) (pv 1) pe_int (fun _ _ => rfl)) pa_nil)))))))) pss_nil)
  (pss_cons (ps_asg (pe_slice (sl_K K rfl) (pv 1) po_none (po_some pe_int)) (pg_unlK (n := 4) K rfl rfl (pgs_cons (pg_name (i := 2) sc_law_made.nd rfl (by first | exact Or.inl rfl | exact Or.inr rfl)) (pgs_cons (pg_name (i := 3) sc_law_made.nd rfl (by first | exact Or.inl rfl | exact Or.inr rfl)) (pgs_cons (pg_name (i := 4) sc_law_made.nd rfl (by first | exact Or.inl rfl | exact Or.inr rfl)) (pgs_cons (pg_name (i := 5) sc_law_made.nd rfl (by first | exact Or.inl rfl | exact Or.inr rfl)) pgs_nil))))))
  (pss_cons (ps_if (pt_cmpR (op_eqK K rfl hr.units) (pe_callB (call_lenK K rfl) (by rfl) M.b_len PySem.boot_len (pa_cons (pv 1) pa_nil)) pe_int (nomark _)) (pss_one (ps_ret (pe_makeF fz (StX.pe_makeR M.mk_Market G_Market_init (hr.mono (by decide)) rfl M.g_Market (passes_tk (takes_of rfl rfl rfl rfl)) (pa_cons (pv 0) (pa_cons (pv 2) (pa_cons (pv 3) (pa_cons (pv 4) (pa_cons (pv 5) pa_nil))))))))) pss_nil)
  (pss_cons (ps_asg (pe_slice (sl_K K rfl) (pe_op (op_addK K rfl) (pe_slice (sl_K K rfl) (pv 1) (po_some pe_int) po_none) (pe_slice (sl_K K rfl) (pv 1) po_none (po_some pe_int))) po_none (po_some pe_int)) (pg_unlK (n := 4) K rfl rfl (pgs_cons (pg_name (i := 6) sc_law_made.nd rfl (by first | exact Or.inl rfl | exact Or.inr rfl)) (pgs_cons (pg_name (i := 7) sc_law_made.nd rfl (by first | exact Or.inl rfl | exact Or.inr rfl)) (pgs_cons (pg_name (i := 8) sc_law_made.nd rfl (by first | exact Or.inl rfl | exact Or.inr rfl)) (pgs_cons (pg_name (i := 9) sc_law_made.nd rfl (by first | exact Or.inl rfl | exact Or.inr rfl)) pgs_nil))))))
  (pss_cons (ps_if (pt_cmpR (op_eqK K rfl hr.units) (pe_callB (call_lenK K rfl) (by rfl) M.b_len PySem.boot_len (pa_cons (pv 1) pa_nil)) pe_int (nomark _)) (pss_one (ps_ret (pe_makeF fz (StX.pe_makeR M.mk_Market G_Market_init (hr.mono (by decide)) rfl M.g_Market (passes_tk (takes_of rfl rfl rfl rfl)) (pa_cons (pv 0) (pa_cons (pv 2) (pa_cons (pv 3) (pa_cons (pv 4) (pa_cons (pv 5) (pa_cons (pv 6) (pa_cons (pv 7) (pa_cons (pv 8) (pa_cons (pv 9) pa_nil))))))))))))) pss_nil)
  (pss_one (ps_ret (pe_makeF fz (StX.pe_makeR M.mk_Market G_Market_init (hr.mono (by decide)) rfl M.g_Market (passes_tk (takes_of rfl rfl rfl rfl)) (pa_cons (pv 0) (pa_cons (pv 2) (pa_cons (pv 3) (pa_cons (pv 4) (pa_cons (pv 5) (pa_cons (pv 6) (pa_cons (pv 7) (pa_cons (pv 8) (pa_cons (pv 9) (pa_cons (pe_ix (ix_seqK K rfl) (pv 1) (pe_un un_negU pe_int) (fun _ _ => rfl)) pa_nil)))))))))))))))))))))), by exact inferInstance⟩)
theorem sc_law_same : FnScope ["_law_found", "_law_due", "_law_kind", "_law_one", "_law_other"] ["_law_found", "_law_due"] (defScope s_law_same) := ⟨rfl, rfl, rfl, by decide +kernel, rfl, by decide +kernel, by decide +kernel⟩
theorem okr_law_same {fd_law_same : FuncData} (F_law_same : FunD K "_law_same" "_law_same" (defArgs s_law_same) (defBody s_law_same) (defScope s_law_same) [] [] (He.ga K "_law_same") fd_law_same) (M : Md P K mg)  (K_law_same : PySem.W.keepIn K (.ref (He.ga K "_law_same")) = true) : ∀ n : Nat, FnR P w K mg base (L2.CX P w) (2 + n) (He.ga K "_law_same") (spD K (f_law_same n))
  | 0 => fun A outer s H us vs Q E hr e0 r h => by
      obtain ⟨_, _, _, _, _, _, _, _, h, _⟩ := h
      exact h.elim
  | n + 1 => by
    have ih := okr_law_same F_law_same M  K_law_same n
    have G_law_same := ih
    have e : 2 + (n + 1) = (2 + n) + 1 := by omega
    rw [e]
    exact fnD fin_fz F_law_same sc_law_same (F_law_same.bindsN (ps := ["_law_found", "_law_due"]) fun _ _ _ _ _ _ us hl => match us, hl with | [_, _], _ => rfl) (fun cdv A outer st H E hr => ⟨_, (pss_cons (ps_if (PW.pt (pw_or (pt_cmp (pc_isN (pv 1)) rfl) (pw_or1 (pt_cmp (pc_isN (pv 0)) rfl)))) (pss_one (ps_ret (pe_and (pe_cmp (pc_isN (pv 0)) rfl) (pe_one (pe_cmp (pc_isN (pv 1)) rfl))))) pss_nil)
  (pss_cons (ps_if (PW.pt (pw_or (pt_val (pe_callB (call_isiK' K rfl) (by rfl) M.b_isinstance PyProof.Rows.boot_isinstance (pa_cons (pv 1) (pa_cons (pe_bltn (v := .ty "bool") rfl M.b_bool (by decide +kernel) rfl) pa_nil)))) (pw_or1 (pt_val (pe_callB (call_isiK' K rfl) (by rfl) M.b_isinstance PyProof.Rows.boot_isinstance (pa_cons (pv 0) (pa_cons (pe_bltn (v := .ty "bool") rfl M.b_bool (by decide +kernel) rfl) pa_nil))))))) (pss_one (ps_ret (pe_and (pe_callB (call_isiK' K rfl) (by rfl) M.b_isinstance PyProof.Rows.boot_isinstance (pa_cons (pv 1) (pa_cons (pe_bltn (v := .ty "bool") rfl M.b_bool (by decide +kernel) rfl) pa_nil))) (pe_and (pe_callB (call_isiK' K rfl) (by rfl) M.b_isinstance PyProof.Rows.boot_isinstance (pa_cons (pv 0) (pa_cons (pe_bltn (v := .ty "bool") rfl M.b_bool (by decide +kernel) rfl) pa_nil))) (pe_one (pe_cmpR (op_eqK K rfl hr.units) (pv 0) (pv 1) (nomark _))))))) pss_nil)
  (pss_cons (ps_if (PW.pt (pw_or (pt_val (pe_callB (call_isiK' K rfl) (by rfl) M.b_isinstance PyProof.Rows.boot_isinstance (pa_cons (pv 1) (pa_cons (pe_bltn (v := .ty "int") rfl M.b_int (by decide +kernel) rfl) pa_nil)))) (pw_or1 (pt_val (pe_callB (call_isiK' K rfl) (by rfl) M.b_isinstance PyProof.Rows.boot_isinstance (pa_cons (pv 1) (pa_cons (pe_bltn (v := .ty "str") rfl M.b_str (by decide +kernel) rfl) pa_nil))))))) (pss_cons (ps_set (i := 2) sc_law_same.nd rfl (by first | exact Or.inl rfl | exact Or.inr rfl) (pe_and (pe_cmpR (op_eqK K rfl hr.units) (pe_callB (call_isiK' K rfl) (by rfl) M.b_isinstance PyProof.Rows.boot_isinstance (pa_cons (pv 0) (pa_cons (pe_bltn (v := .ty "int") rfl M.b_int (by decide +kernel) rfl) pa_nil))) (pe_callB (call_isiK' K rfl) (by rfl) M.b_isinstance PyProof.Rows.boot_isinstance (pa_cons (pv 1) (pa_cons (pe_bltn (v := .ty "int") rfl M.b_int (by decide +kernel) rfl) pa_nil))) (nomark _)) (pe_one (pe_cmpR (op_eqK K rfl hr.units) (pe_callB (call_isiK' K rfl) (by rfl) M.b_isinstance PyProof.Rows.boot_isinstance (pa_cons (pv 0) (pa_cons (pe_bltn (v := .ty "str") rfl M.b_str (by decide +kernel) rfl) pa_nil))) (pe_callB (call_isiK' K rfl) (by rfl) M.b_isinstance PyProof.Rows.boot_isinstance (pa_cons (pv 1) (pa_cons (pe_bltn (v := .ty "str") rfl M.b_str (by decide +kernel) rfl) pa_nil))) (nomark _)))))
  (pss_one (ps_ret (pe_and (pv 2) (pe_one (pe_cmpR (op_eqK K rfl hr.units) (pv 0) (pv 1) (nomark _))))))) pss_nil)
  (pss_cons (ps_if (PW.pt (pw_or (pt_cmpR (op_neK K rfl hr.units) (pe_callB (call_isiK' K rfl) (by rfl) M.b_isinstance PyProof.Rows.boot_isinstance (pa_cons (pv 1) (pa_cons (pe_bltn (v := .ty "list") rfl M.b_list (by decide +kernel) rfl) pa_nil))) (pe_callB (call_isiK' K rfl) (by rfl) M.b_isinstance PyProof.Rows.boot_isinstance (pa_cons (pv 0) (pa_cons (pe_bltn (v := .ty "list") rfl M.b_list (by decide +kernel) rfl) pa_nil))) (nomark _)) (pw_or1 (pt_cmpR (op_neK K rfl hr.units) (pe_callB (call_isiK' K rfl) (by rfl) M.b_isinstance PyProof.Rows.boot_isinstance (pa_cons (pv 1) (pa_cons (pe_bltn (v := .ty "tuple") rfl M.b_tuple (by decide +kernel) rfl) pa_nil))) (pe_callB (call_isiK' K rfl) (by rfl) M.b_isinstance PyProof.Rows.boot_isinstance (pa_cons (pv 0) (pa_cons (pe_bltn (v := .ty "tuple") rfl M.b_tuple (by decide +kernel) rfl) pa_nil))) (nomark _))))) (pss_one (ps_ret pe_bl)) pss_nil)
  (pss_one (ps_ret (pe_and (pe_cmpR (op_eqK K rfl hr.units) (pe_callB (call_lenK K rfl) (by rfl) M.b_len PySem.boot_len (pa_cons (pv 0) pa_nil)) (pe_callB (call_lenK K rfl) (by rfl) M.b_len PySem.boot_len (pa_cons (pv 1) pa_nil)) (nomark _)) (pe_one (pe_callB (call_allK K rfl rfl) (by rfl) M.b_all PyProof.Rows.boot_all (pa_cons (lc_vs [3, 4] (pe_lc (own := [("_law_one", 3), ("_law_other", 4)]) (by rfl) sc_law_same.nd (pi_zip2M K rfl (by rfl) M.b_zip (pa_cons (pv 0) (pa_cons (pv 1) pa_nil))) (blkOk_by (own := [("_law_one", 3), ("_law_other", 4)]) (N := ["_law_found", "_law_due", "_law_kind", "_law_one", "_law_other"]) (sc := defScope s_law_same) (by decide +kernel)) (fun _ _ _ _ _ => (pg_tupK (n := 2) K rfl rfl (pgs_cons (pg_name (i := 3) sc_law_same.nd rfl (by first | exact Or.inl rfl | exact Or.inr rfl)) (pgs_cons (pg_name (i := 4) sc_law_same.nd rfl (by first | exact Or.inl rfl | exact Or.inr rfl)) pgs_nil)))) (fun _ _ _ _ _ => pts_nil) (fun _ _ _ _ _ => (pe_callX (E := EN) G_law_same ⟨M.g_law_same, K_law_same⟩ (hr.mono (by omega)) take_no (pa_cons (pv 3) (pa_cons (pv 4) pa_nil)))))) pa_nil)))))))))), by exact inferInstance⟩)
theorem ok_law_same {fd_law_same : FuncData} (F_law_same : FunD K "_law_same" "_law_same" (defArgs s_law_same) (defBody s_law_same) (defScope s_law_same) [] [] (He.ga K "_law_same") fd_law_same) (M : Md P K mg)  (K_law_same : PySem.W.keepIn K (.ref (He.ga K "_law_same")) = true) : FnR P w K mg base (L2.CX P w) 14 (He.ga K "_law_same") (spD K (f_law_same 12)) := (okr_law_same F_law_same M  K_law_same 12)
theorem sc_law_some_things : FnScope ["_law_box", "_law_width", "_law_letters", "_law_stem", "_law_spot", "_law_first", "_law_way", "_law_lone", "_law_k"] ["_law_box", "_law_width"] (defScope s_law_some_things) := ⟨rfl, rfl, rfl, by decide +kernel, rfl, by decide +kernel, by decide +kernel⟩
theorem ok_law_some_things {fd_law_some_things : FuncData} (F_law_some_things : FunD K "_law_some_things" "_law_some_things" (defArgs s_law_some_things) (defBody s_law_some_things) (defScope s_law_some_things) [] [] (He.ga K "_law_some_things") fd_law_some_things) (M : Md P K mg) (G_law_draw : FnR P w K mg base (L2.CX P w) 2 (He.ga K "_law_draw") (spD K f_law_draw)) (K_law_draw : PySem.W.keepIn K (.ref (He.ga K "_law_draw")) = true) : FnR P w K mg base (L2.CX P w) 4 (He.ga K "_law_some_things") (spD K f_law_some_things) :=
  fnD fin_fz F_law_some_things sc_law_some_things (F_law_some_things.bindsN (ps := ["_law_box", "_law_width"]) fun _ _ _ _ _ _ us hl => match us, hl with | [_, _], _ => rfl) (fun cdv A outer st H E hr => ⟨_, (pss_cons (ps_set (i := 2) sc_law_some_things.nd rfl (by first | exact Or.inl rfl | exact Or.inr rfl) pe_str)
  (pss_cons (ps_set (i := 3) sc_law_some_things.nd rfl (by first | exact Or.inl rfl | exact Or.inr rfl) (pe_joinK K rfl pe_str (lc_vs [8] (pe_lc (own := [("_law_k", 8)]) (by rfl) sc_law_some_things.nd (pi_range1 (by rfl) M.b_range (pa_cons (pe_callX (E := (fun _ => E)) G_law_draw ⟨M.g_law_draw, K_law_draw⟩ (hr.mono (by decide)) (takes_of rfl rfl rfl rfl) (pa_cons (pv 0) (pa_cons pe_int pa_nil))) pa_nil)) (blkOk_by (own := [("_law_k", 8)]) (N := ["_law_box", "_law_width", "_law_letters", "_law_stem", "_law_spot", "_law_first", "_law_way", "_law_lone", "_law_k"]) (sc := defScope s_law_some_things) (by decide +kernel)) (fun _ _ _ _ _ => (pg_name (i := 8) sc_law_some_things.nd rfl (by first | exact Or.inl rfl | exact Or.inr rfl))) (fun _ _ _ _ _ => pts_nil) (fun _ _ _ _ _ => (pe_ix (ix_seqK K rfl) (pv 2) (pe_callX (E := EN) G_law_draw ⟨M.g_law_draw, K_law_draw⟩ (hr.mono (by decide)) take_no (pa_cons (pv 0) (pa_cons pe_int pa_nil))) (fun _ _ => rfl)))))))
  (pss_cons (ps_asg (pe_tup (pa_cons (pe_callX (E := (fun _ => E)) G_law_draw ⟨M.g_law_draw, K_law_draw⟩ (hr.mono (by decide)) (takes_of rfl rfl rfl rfl) (pa_cons (pv 0) (pa_cons (pe_op (op_addK K rfl) (pe_callB (call_lenK K rfl) (by rfl) M.b_len PySem.boot_len (pa_cons (pv 3) pa_nil)) pe_int) pa_nil))) (pa_cons (pe_callX (E := (fun _ => E)) G_law_draw ⟨M.g_law_draw, K_law_draw⟩ (hr.mono (by decide)) (takes_of rfl rfl rfl rfl) (pa_cons (pv 0) (pa_cons pe_int pa_nil))) (pa_cons (pe_callX (E := (fun _ => E)) G_law_draw ⟨M.g_law_draw, K_law_draw⟩ (hr.mono (by decide)) (takes_of rfl rfl rfl rfl) (pa_cons (pv 0) (pa_cons pe_int pa_nil))) pa_nil)))) (pg_tupK (n := 3) K rfl rfl (pgs_cons (pg_name (i := 4) sc_law_some_things.nd rfl (by first | exact Or.inl rfl | exact Or.inr rfl)) (pgs_cons (pg_name (i := 5) sc_law_some_things.nd rfl (by first | exact Or.inl rfl | exact Or.inr rfl)) (pgs_cons (pg_name (i := 6) sc_law_some_things.nd rfl (by first | exact Or.inl rfl | exact Or.inr rfl)) pgs_nil)))))
  (pss_cons (ps_if (pt_cmpR (op_eqK K rfl hr.units) (pv 6) pe_int (nomark _)) (pss_one (ps_ret (lc_vs [8] (pe_lc (own := [("_law_k", 8)]) (by rfl) sc_law_some_things.nd (pi_range1 (by rfl) M.b_range (pa_cons (pv 1) pa_nil)) (blkOk_by (own := [("_law_k", 8)]) (N := ["_law_box", "_law_width", "_law_letters", "_law_stem", "_law_spot", "_law_first", "_law_way", "_law_lone", "_law_k"]) (sc := defScope s_law_some_things) (by decide +kernel)) (fun _ _ _ _ _ => (pg_name (i := 8) sc_law_some_things.nd rfl (by first | exact Or.inl rfl | exact Or.inr rfl))) (fun _ _ _ _ _ => pts_nil) (fun _ _ _ _ _ => (pe_op (op_addK K rfl) (pe_op (op_addK K rfl) (pe_slice (sl_K K rfl) (pv 3) po_none (po_some (pv 4))) (pe_ix (ix_seqK K rfl) (pv 2) (pe_op op_modU (pe_callTy (call_intU) (by rfl) M.b_int PyProof.Rows.boot_int (pa_cons (pe_op (op_addK K rfl) (pv 5) (pe_op (op_mulK K rfl) pe_int (pv 8))) pa_nil)) pe_int) (fun _ _ => rfl))) (pe_slice (sl_K K rfl) (pv 3) (po_some (pv 4)) po_none))))))) pss_nil)
  (pss_cons (ps_set (i := 7) sc_law_some_things.nd rfl (by first | exact Or.inl rfl | exact Or.inr rfl) (pe_ix (ix_seqK K rfl) (pv 2) (pv 5) (fun _ _ => rfl)))
  (pss_one (ps_ret (lc_vs [8] (pe_lc (own := [("_law_k", 8)]) (by rfl) sc_law_some_things.nd (pi_range1 (by rfl) M.b_range (pa_cons (pv 1) pa_nil)) (blkOk_by (own := [("_law_k", 8)]) (N := ["_law_box", "_law_width", "_law_letters", "_law_stem", "_law_spot", "_law_first", "_law_way", "_law_lone", "_law_k"]) (sc := defScope s_law_some_things) (by decide +kernel)) (fun _ _ _ _ _ => (pg_name (i := 8) sc_law_some_things.nd rfl (by first | exact Or.inl rfl | exact Or.inr rfl))) (fun _ _ _ _ _ => pts_nil) (fun _ _ _ _ _ => (pe_ix (ix_seqK K rfl) (pe_lst (pa_cons (pv 7) (pa_cons (pe_op (op_addK K rfl) (pv 7) (pv 7)) (pa_cons (pe_op (op_addK K rfl) (pe_ix (ix_seqK K rfl) (pv 2) (pe_op op_modU (pe_callTy (call_intU) (by rfl) M.b_int PyProof.Rows.boot_int (pa_cons (pe_op (op_addK K rfl) (pv 5) pe_int) pa_nil)) pe_int) (fun _ _ => rfl)) (pe_slice (sl_K K rfl) (pv 3) po_none (po_some pe_int))) (pa_cons (pe_op (op_addK K rfl) (pe_op (op_mulK K rfl) (pv 7) pe_int) (pe_ix (ix_seqK K rfl) (pv 2) (pe_op op_modU (pe_callTy (call_intU) (by rfl) M.b_int PyProof.Rows.boot_int (pa_cons (pe_op (op_addK K rfl) (pv 5) pe_int) pa_nil)) pe_int) (fun _ _ => rfl))) pa_nil))))) (pv 8) (fun _ _ => rfl)))))))))))), by exact inferInstance⟩)
theorem sc_law : FnScope ["_law_script", "_law_box", "_law_turn", "_law_width", "_law_many", "_law_plain", "_law_bend", "_law_at", "_law_bad", "_law_told", "_law_row", "_law_things", "_law_k"] ["_law_script"] (defScope s_law) := ⟨rfl, rfl, rfl, by decide +kernel, rfl, by decide +kernel, by decide +kernel⟩
theorem ok_law {fd_law : FuncData} (F_law : FunD K "law" "law" (defArgs s_law) (defBody s_law) (defScope s_law) [] [] (He.ga K "law") fd_law) (M : Md P K mg) {fd_law_why : FuncData} (F_law_why : FunD K "_law_why" "_law_why" (defArgs s_law_why) (defBody s_law_why) (defScope s_law_why) [] [] (He.ga K "_law_why") fd_law_why) (TB_law : LamX.TabB base mg (He.cT K ("law", none)).1 (He.cT K ("law", none)).2) (G_Market_init : FnR P w K mg base (L2.CX P w) 8 (He.ma K (He.ga K "Market") "__init__") (spD K f_Market_init)) (G_Market_len : FnR P w K mg base (L2.CX P w) 2 (He.ma K (He.ga K "Market") "__len__") (spD K f_Market_len)) (G_Market_barters : FnR P w K mg base (L2.CX P w) 2 (He.ma K (He.ga K "Market") "barters") (spD K f_Market_barters)) (G_law_any : FnR P w K mg base (L2.CX P w) 4 (He.ga K "_law_any") (spD K f_law_any)) (K_law_any : PySem.W.keepIn K (.ref (He.ga K "_law_any")) = true) (G_law_barters : FnR P w K mg base (L2.CX P w) 6 (He.ga K "_law_barters") (spD K f_law_barters)) (K_law_barters : PySem.W.keepIn K (.ref (He.ga K "_law_barters")) = true) (G_law_begin : FnR P w K mg base (L2.CX P w) 2 (He.ga K "_law_begin") (spD K f_law_begin)) (K_law_begin : PySem.W.keepIn K (.ref (He.ga K "_law_begin")) = true) (G_law_bent_barter : FnR P w K mg base (L2.CX P w) 8 (He.ga K "_law_bent_barter") (spD K f_law_bent_barter)) (K_law_bent_barter : PySem.W.keepIn K (.ref (He.ga K "_law_bent_barter")) = true) (G_law_draw : FnR P w K mg base (L2.CX P w) 2 (He.ga K "_law_draw") (spD K f_law_draw)) (K_law_draw : PySem.W.keepIn K (.ref (He.ga K "_law_draw")) = true) (G_law_field : FnRH P w K mg base 2 (He.ga K "_law_field") (spD K f_law_field)) (K_law_field : PySem.W.keepIn K (.ref (He.ga K "_law_field")) = true) (G_law_is_barter : FnR P w K mg base (L2.CX P w) 4 (He.ga K "_law_is_barter") (spD K f_law_is_barter)) (K_law_is_barter : PySem.W.keepIn K (.ref (He.ga K "_law_is_barter")) = true) (G_law_made : FnR P w K mg base (L2.CX P w) 10 (He.ga K "_law_made") (spD K f_law_made)) (K_law_made : PySem.W.keepIn K (.ref (He.ga K "_law_made")) = true) (G_law_same : FnR P w K mg base (L2.CX P w) 14 (He.ga K "_law_same") (spD K (f_law_same 12))) (K_law_same : PySem.W.keepIn K (.ref (He.ga K "_law_same")) = true) (G_law_some_things : FnR P w K mg base (L2.CX P w) 4 (He.ga K "_law_some_things") (spD K f_law_some_things)) (K_law_some_things : PySem.W.keepIn K (.ref (He.ga K "_law_some_things")) = true) : FnOk P w K mg base (L2.CX P w) 19 (He.ga K "law") fd_law ["_law_script"] (spD K f_law) :=
  have F_law_why_t : FunD K "_law_why" "_law_why" (defArgs s_law_why) (whyB "_law_ask" "_law_e" "BarterError" "Missing" "NothingLeft" 0 0 0 (b0_why :: []) [⟨296, 16, 296, 18⟩, ⟨296, 20, 296, 28⟩, ⟨296, 20, 296, 30⟩, ⟨296, 15, 296, 31⟩, ⟨296, 8, 296, 31⟩, ⟨297, 12, 297, 23⟩, ⟨297, 25, 297, 32⟩, ⟨297, 34, 297, 45⟩, ⟨297, 11, 297, 46⟩, ⟨297, 4, 298, 47⟩, ⟨295, 4, 298, 47⟩]) (defScope s_law_why) [] [] (He.ga K "_law_why") fd_law_why := by rw [← why_body]; exact F_law_why
  fnOkDC fin_fz F_law sc_law (fun A outer st H E hr => ⟨_, (pss_cons (ps_set (i := 1) sc_law.nd rfl (by first | exact Or.inl rfl | exact Or.inr rfl) (pe_callX (E := (fun _ => E)) G_law_begin ⟨M.g_law_begin, K_law_begin⟩ (hr.mono (by decide)) (takes_of rfl rfl rfl rfl) (pa_cons (pv 0) pa_nil)))
  (pss_cons (ps_for (passes_of rfl) rfl (pi_range1 (by rfl) M.b_range (pa_cons pe_int pa_nil)) (pg_name (i := 2) sc_law.nd rfl (by first | exact Or.inl rfl | exact Or.inr rfl))
    (pss_cons (ps_set (i := 3) sc_law.nd rfl (by first | exact Or.inl rfl | exact Or.inr rfl) (pe_op (op_addK K rfl) pe_int (pe_callX (E := (fun _ => E)) G_law_draw ⟨M.g_law_draw, K_law_draw⟩ (hr.mono (by decide)) (takes_of rfl rfl rfl rfl) (pa_cons (pv 1) (pa_cons pe_int pa_nil)))))
  (pss_cons (ps_asg (pe_tup (pa_cons (pe_callX (E := (fun _ => E)) G_law_some_things ⟨M.g_law_some_things, K_law_some_things⟩ (hr.mono (by decide)) (takes_of rfl rfl rfl rfl) (pa_cons (pv 1) (pa_cons (pv 3) pa_nil))) (pa_cons (pe_callX (E := (fun _ => E)) G_law_any ⟨M.g_law_any, K_law_any⟩ (hr.mono (by decide)) (takes_of rfl rfl rfl rfl) (pa_cons (pv 1) (pa_cons (pe_lst (pa_cons pe_int (pa_cons pe_int (pa_cons pe_int (pa_cons pe_int (pa_cons pe_int (pa_cons pe_int (pa_cons pe_int pa_nil)))))))) pa_nil))) pa_nil))) (pg_tupK (n := 2) K rfl rfl (pgs_cons (pg_name (i := 11) sc_law.nd rfl (by first | exact Or.inl rfl | exact Or.inr rfl)) (pgs_cons (pg_name (i := 4) sc_law.nd rfl (by first | exact Or.inl rfl | exact Or.inr rfl)) pgs_nil))))
  (pss_cons (ps_set (i := 10) sc_law.nd rfl (by first | exact Or.inl rfl | exact Or.inr rfl) (pe_callX (E := (fun _ => E)) G_law_barters ⟨M.g_law_barters, K_law_barters⟩ (hr.mono (by decide)) (takes_of rfl rfl rfl rfl) (pa_cons (pv 1) (pa_cons (pv 3) (pa_cons (pv 4) (pa_cons pe_int pa_nil))))))
  (pss_cons (ps_set (i := 5) sc_law.nd rfl (by first | exact Or.inl rfl | exact Or.inr rfl) (pe_callTy (call_listK K rfl) (by rfl) M.b_list PyProof.Rows.boot_list (pa_cons (pv 10) pa_nil)))
  (pss_cons (ps_for (passes_of rfl) rfl (pi_range1 (by rfl) M.b_range (pa_cons (pe_callX (E := (fun _ => E)) G_law_draw ⟨M.g_law_draw, K_law_draw⟩ (hr.mono (by decide)) (takes_of rfl rfl rfl rfl) (pa_cons (pv 1) (pa_cons pe_int pa_nil))) pa_nil)) (pg_name (i := 6) sc_law.nd rfl (by first | exact Or.inl rfl | exact Or.inr rfl))
    (pss_one (ps_if (pt_cmpR (op_neK K rfl hr.units) (pv 10) (pe_lst pa_nil) (nomark _)) (pss_cons (ps_set (i := 7) sc_law.nd rfl (by first | exact Or.inl rfl | exact Or.inr rfl) (pe_callX (E := (fun _ => E)) G_law_draw ⟨M.g_law_draw, K_law_draw⟩ (hr.mono (by decide)) (takes_of rfl rfl rfl rfl) (pa_cons (pv 1) (pa_cons (pe_callB (call_lenK K rfl) (by rfl) M.b_len PySem.boot_len (pa_cons (pv 10) pa_nil)) pa_nil))))
  (pss_one (ps_asg (pe_callX (E := (fun _ => E)) G_law_bent_barter ⟨M.g_law_bent_barter, K_law_bent_barter⟩ (hr.mono (by decide)) (takes_of rfl rfl rfl rfl) (pa_cons (pv 1) (pa_cons (pe_ix (ix_seqK K rfl) (pv 5) (pv 7) (fun _ _ => rfl)) pa_nil))) (pg_sub (pv 10) (pv 7) set_list)))) pss_nil)))
  (pss_cons (slc_vs [12] (ps_setLc (i := 8) (own := [("_law_k", 12)]) (by rfl) sc_law.nd rfl rfl (sw_true rfl rfl rfl (by decide +kernel)) (pi_range1 (by rfl) M.b_range (pa_cons (pe_callB (call_lenK K rfl) (by rfl) M.b_len PySem.boot_len (pa_cons (pv 10) pa_nil)) pa_nil)) (blkOk_by (own := [("_law_k", 12)]) (N := ["_law_script", "_law_box", "_law_turn", "_law_width", "_law_many", "_law_plain", "_law_bend", "_law_at", "_law_bad", "_law_told", "_law_row", "_law_things", "_law_k"]) (sc := defScope s_law) (by decide +kernel)) (fun _ _ _ _ _ => (pg_name (i := 12) sc_law.nd rfl (by first | exact Or.inl rfl | exact Or.inr rfl))) (fun _ _ _ _ _ => (pts_one (PW.pt (pw_or (pt_cmpR (op_eqK K rfl hr.units) (pv 12) pe_int (nomark _)) (pw_or1 (pt_not (pt_val (pe_callX (E := EN) G_law_is_barter ⟨M.g_law_is_barter, K_law_is_barter⟩ (hr.mono (by decide)) take_no (pa_cons (pe_ix (ix_seqK K rfl) (pv 10) (pv 12) (fun _ _ => rfl)) (pa_cons (pv 3) pa_nil)))))))))) (fun _ _ _ _ _ => (pv 12))))
  (pss_cons (ps_set (i := 9) sc_law.nd rfl (by first | exact Or.inl rfl | exact Or.inr rfl) (pe_lamW K rfl 0 (k := 16) (xl := "law") (q := "law.<locals>.<lambda>") (by rfl) (ok := ["InvalidThing", "InvalidBarter"]) (c1 := .ref (He.ga K "BarterError")) (c2 := .ref (He.ga K "Missing")) (c3 := .ref (He.ga K "NothingLeft")) F_law_why_t (F_law_why.bindsN (ps := ["_law_ask"]) fun _ _ _ _ _ _ us hl => match us, hl with | [_], _ => rfl) sc_law_why (by exact Or.inl rfl) (by rfl) (by decide) (by rfl) (by exact M.g_law_why) (by exact hr.mono (by decide)) (fun _ _ _ => ⟨⟨by rfl, by rfl, .inl (by exact M.g_BarterError)⟩, ⟨by rfl, by rfl, .inl (by exact M.g_Missing)⟩, ⟨by rfl, by rfl, .inl (by exact M.g_NothingLeft)⟩⟩) (fun _ _ _ _ _ hr => by exact (pss_one (ps_ret (pe_tup (pa_cons (pe_excF K rfl ["InvalidThing", "InvalidBarter"] (all_cons M.xa_InvalidThing_tag (all_cons M.xa_InvalidBarter_tag all_nil)) (pv 1)) (pa_cons (pe_callHot G_law_field (hr.mono (by decide)) ⟨M.g_law_field, K_law_field⟩ rfl (pa_cons (pv 1) pa_nil)) pa_nil)))))) (all_cons (p := fun c => PySem.W.exmAny K (.ref (He.ga K c)) [.ref (He.ga K "BarterError"), .ref (He.ga K "Missing"), .ref (He.ga K "NothingLeft")] = some true) M.xm_InvalidThing (all_cons (p := fun c => PySem.W.exmAny K (.ref (He.ga K c)) [.ref (He.ga K "BarterError"), .ref (He.ga K "Missing"), .ref (He.ga K "NothingLeft")] = some true) M.xm_InvalidBarter all_nil)) (by exact TB_law) (by rfl) (LamX.lamS_by (by kernel_rfl)) (by rfl) (fun _ _ _ _ _ => by rfl) (fun _ _ _ _ E _ _ hr => by exact (pe_callX (E := (fun _ => E)) G_law_made ⟨M.g_law_made, K_law_made⟩ (hr.mono (by decide)) (takes_of rfl rfl rfl rfl) (pa_cons (pv 11) (pa_cons (pv 10) pa_nil))))))
  (pss_one (ps_if (pt_cmpR (op_neK K rfl hr.units) (pv 8) (pe_lst pa_nil) (nomark _)) (pss_one (ps_if (pt_cmpR (op_neK K rfl hr.units) (pv 9) (pe_tup (pa_cons pe_str (pa_cons (pe_ix (ix_seqK K rfl) (pv 8) pe_int (fun _ _ => rfl)) pa_nil))) (nomark _)) (pss_one (ps_ret pe_bl)) pss_nil)) (pss_one (ps_if (PW.pt (pw_or (pt_cmpR (op_neK K rfl hr.units) (pe_ix (ix_seqK K rfl) (pv 9) pe_int (fun _ _ => rfl)) pe_str (nomark _)) (pw_or1 (pt_not (pt_val (pe_callP (pe_callX (E := (fun _ => E)) G_law_same ⟨M.g_law_same, K_law_same⟩ (hr.mono (by decide)) (takes_of rfl rfl rfl rfl) (pa_cons (pe_lst (pa_cons (pe_methR0 M.cl_Market M.me_Market_barters G_Market_barters (hr.mono (by decide)) (passes_tk (takes_of rfl rfl rfl rfl)) (pe_ix (ix_seqK K rfl) (pv 9) pe_int (fun _ _ => rfl))) (pa_cons (pe_lenOwn M.cl_Market M.me_Market_len G_Market_len (hr.mono (by decide)) (passes_tk (takes_of rfl rfl rfl rfl)) (by rfl) M.b_len (pe_ix (ix_seqK K rfl) (pv 9) pe_int (fun _ _ => rfl))) pa_nil))) (pa_cons (pe_lst (pa_cons (pv 10) (pa_cons (pe_callB (call_lenK K rfl) (by rfl) M.b_len PySem.boot_len (pa_cons (pv 10) pa_nil)) pa_nil))) pa_nil))))))))) (pss_one (ps_ret pe_bl)) pss_nil))))))))))))
  (pss_cons (ps_set (i := 9) sc_law.nd rfl (by first | exact Or.inl rfl | exact Or.inr rfl) (pe_lst (pa_cons (pe_lamW K rfl 0 (k := 16) (xl := "law") (q := "law.<locals>.<lambda>") (by rfl) (ok := ["InvalidThing", "InvalidBarter"]) (c1 := .ref (He.ga K "BarterError")) (c2 := .ref (He.ga K "Missing")) (c3 := .ref (He.ga K "NothingLeft")) F_law_why_t (F_law_why.bindsN (ps := ["_law_ask"]) fun _ _ _ _ _ _ us hl => match us, hl with | [_], _ => rfl) sc_law_why (by exact Or.inl rfl) (by rfl) (by decide) (by rfl) (by exact M.g_law_why) (by exact hr.mono (by decide)) (fun _ _ _ => ⟨⟨by rfl, by rfl, .inl (by exact M.g_BarterError)⟩, ⟨by rfl, by rfl, .inl (by exact M.g_Missing)⟩, ⟨by rfl, by rfl, .inl (by exact M.g_NothingLeft)⟩⟩) (fun _ _ _ _ _ hr => by exact (pss_one (ps_ret (pe_tup (pa_cons (pe_excF K rfl ["InvalidThing", "InvalidBarter"] (all_cons M.xa_InvalidThing_tag (all_cons M.xa_InvalidBarter_tag all_nil)) (pv 1)) (pa_cons (pe_callHot G_law_field (hr.mono (by decide)) ⟨M.g_law_field, K_law_field⟩ rfl (pa_cons (pv 1) pa_nil)) pa_nil)))))) (all_cons (p := fun c => PySem.W.exmAny K (.ref (He.ga K c)) [.ref (He.ga K "BarterError"), .ref (He.ga K "Missing"), .ref (He.ga K "NothingLeft")] = some true) M.xm_InvalidThing (all_cons (p := fun c => PySem.W.exmAny K (.ref (He.ga K c)) [.ref (He.ga K "BarterError"), .ref (He.ga K "Missing"), .ref (He.ga K "NothingLeft")] = some true) M.xm_InvalidBarter all_nil)) (by exact TB_law) (by rfl) (LamX.lamS_by (by kernel_rfl)) (by rfl) (fun _ _ _ _ _ => by rfl) (fun _ _ _ _ E _ _ hr => by exact (pe_makeF fz (StX.pe_makeR M.mk_Market G_Market_init (hr.mono (by decide)) rfl M.g_Market (passes_tk (takes_of rfl rfl rfl rfl)) (pa_cons (pe_lst (pa_cons pe_str (pa_cons pe_str pa_nil))) (pa_cons (pe_tup pa_nil) pa_nil)))))) (pa_cons (pe_lamWD K rfl 0 (k := 16) (xl := "law") (q := "law.<locals>.<lambda>") (by rfl) (ok := ["InvalidThing", "InvalidBarter"]) (c1 := .ref (He.ga K "BarterError")) (c2 := .ref (He.ga K "Missing")) (c3 := .ref (He.ga K "NothingLeft")) F_law_why_t (F_law_why.bindsN (ps := ["_law_ask"]) fun _ _ _ _ _ _ us hl => match us, hl with | [_], _ => rfl) sc_law_why (by exact Or.inl rfl) (by rfl) (by decide) (by rfl) (by exact M.g_law_why) (by exact hr.mono (by decide)) (fun _ _ _ => ⟨⟨by rfl, by rfl, .inl (by exact M.g_BarterError)⟩, ⟨by rfl, by rfl, .inl (by exact M.g_Missing)⟩, ⟨by rfl, by rfl, .inl (by exact M.g_NothingLeft)⟩⟩) (fun _ _ _ _ _ hr => by exact (pss_one (ps_ret (pe_tup (pa_cons (pe_excF K rfl ["InvalidThing", "InvalidBarter"] (all_cons M.xa_InvalidThing_tag (all_cons M.xa_InvalidBarter_tag all_nil)) (pv 1)) (pa_cons (pe_callHot G_law_field (hr.mono (by decide)) ⟨M.g_law_field, K_law_field⟩ rfl (pa_cons (pv 1) pa_nil)) pa_nil)))))) (all_cons (p := fun c => PySem.W.exmAny K (.ref (He.ga K c)) [.ref (He.ga K "BarterError"), .ref (He.ga K "Missing"), .ref (He.ga K "NothingLeft")] = some true) M.xm_InvalidThing (all_cons (p := fun c => PySem.W.exmAny K (.ref (He.ga K c)) [.ref (He.ga K "BarterError"), .ref (He.ga K "Missing"), .ref (He.ga K "NothingLeft")] = some true) M.xm_InvalidBarter all_nil)) (by exact TB_law) (by rfl) (lamD_by (x := "_law_x") (by kernel_rfl)) (by rfl) (by rfl) (fun _ _ _ _ _ _ _ _ _ ht => BindsTo.of_defaults rfl ht rfl rfl rfl) (fun _ _ _ _ E _ _ hr => by exact (pe_makeF fz (StX.pe_makeR M.mk_Market G_Market_init (hr.mono (by decide)) rfl M.g_Market (passes_tk (takes_of rfl rfl rfl rfl)) (pa_cons (pe_lst (pa_cons pe_str pa_nil)) (pa_cons (pe_tup (pa_cons (pe_tup (pa_cons pe_int pa_nil)) (pa_cons (pe_tup (pa_cons pe_int pa_nil)) pa_nil))) pa_nil)))))) pa_nil))))
  (pss_one (ps_ret (pe_and (pe_cmpR (op_eqK K rfl hr.units) (pe_ix (ix_seqK K rfl) (pv 9) pe_int (fun _ _ => rfl)) (pe_tup (pa_cons pe_str (pa_cons pe_int pa_nil))) (nomark _)) (pe_and (pe_cmpR (op_eqK K rfl hr.units) (pe_ix (ix_seqK K rfl) (pe_ix (ix_seqK K rfl) (pv 9) pe_int (fun _ _ => rfl)) pe_int (fun _ _ => rfl)) pe_str (nomark _)) (pe_one (pe_cmpR (op_eqK K rfl hr.units) (pe_conC (v := .int 8) M.g_Market M.rd_Market (Classical.choose_spec M.cv_Market_MOST_BARTERS)) pe_int (nomark _)))))))))), by exact inferInstance⟩)
end
end Lw

namespace Lw
open PySem L2 DX
def en_InvalidBarter : EIn := ⟨"InvalidBarter", "at", "InvalidBarter", ⟨17, 17, 17, 21⟩, ⟨17, 23, 17, 25⟩, 0, [⟨18, 8, 18, 13⟩, ⟨18, 8, 18, 15⟩, ⟨18, 8, 18, 24⟩, ⟨18, 25, 18, 27⟩, ⟨18, 8, 18, 28⟩, ⟨18, 8, 18, 28⟩, ⟨19, 8, 19, 12⟩, ⟨19, 8, 19, 15⟩, ⟨19, 18, 19, 20⟩, ⟨19, 8, 19, 20⟩, ⟨20, 8, 20, 12⟩, ⟨20, 8, 20, 16⟩, ⟨20, 19, 20, 34⟩, ⟨20, 8, 20, 34⟩]⟩
theorem ep_InvalidBarter : ErrP (PySem.Challenge.rw_evenbarter_k05_barters_of_markets).prog en_InvalidBarter := ⟨by kernel_rfl, by decide +kernel, by decide +kernel, by decide +kernel, by decide +kernel, by decide +kernel, fun _ _ _ _ _ _ _ _ _ => by rfl, fun env => ⟨_, rfl⟩⟩
def en_InvalidThing : EIn := ⟨"InvalidThing", "at", "InvalidThing", ⟨11, 17, 11, 21⟩, ⟨11, 23, 11, 25⟩, 0, [⟨12, 8, 12, 13⟩, ⟨12, 8, 12, 15⟩, ⟨12, 8, 12, 24⟩, ⟨12, 25, 12, 27⟩, ⟨12, 8, 12, 28⟩, ⟨12, 8, 12, 28⟩, ⟨13, 8, 13, 12⟩, ⟨13, 8, 13, 15⟩, ⟨13, 18, 13, 20⟩, ⟨13, 8, 13, 20⟩, ⟨14, 8, 14, 12⟩, ⟨14, 8, 14, 16⟩, ⟨14, 19, 14, 33⟩, ⟨14, 8, 14, 33⟩]⟩
theorem ep_InvalidThing : ErrP (PySem.Challenge.rw_evenbarter_k05_barters_of_markets).prog en_InvalidThing := ⟨by kernel_rfl, by decide +kernel, by decide +kernel, by decide +kernel, by decide +kernel, by decide +kernel, fun _ _ _ _ _ _ _ _ _ => by rfl, fun env => ⟨_, rfl⟩⟩
def dd_is_thing : He5.DefA := ⟨fun K => (He.ga K "is_thing"), "is_thing", "is_thing", defArgs s_is_thing, defBody s_is_thing, defScope s_is_thing, [], []⟩
def dd_check_things : He5.DefA := ⟨fun K => (He.ga K "check_things"), "check_things", "check_things", defArgs s_check_things, defBody s_check_things, defScope s_check_things, [], []⟩
def dd_is_count : He5.DefA := ⟨fun K => (He.ga K "is_count"), "is_count", "is_count", defArgs s_is_count, defBody s_is_count, defScope s_is_count, [], []⟩
def dd_is_bundle : He5.DefA := ⟨fun K => (He.ga K "is_bundle"), "is_bundle", "is_bundle", defArgs s_is_bundle, defBody s_is_bundle, defScope s_is_bundle, [.int 60], []⟩
def dd_is_barter : He5.DefA := ⟨fun K => (He.ga K "is_barter"), "is_barter", "is_barter", defArgs s_is_barter, defBody s_is_barter, defScope s_is_barter, [], []⟩
def dd_Market_init : He5.DefA := ⟨fun K => (He.ma K (He.ga K "Market") "__init__"), "__init__", "Market.__init__", defArgs s_Market_init, defBody s_Market_init, defScope s_Market_init, [], []⟩
def dd_Market_len : He5.DefA := ⟨fun K => (He.ma K (He.ga K "Market") "__len__"), "__len__", "Market.__len__", defArgs s_Market_len, defBody s_Market_len, defScope s_Market_len, [], []⟩
def dd_Market_barters : He5.DefA := ⟨fun K => (He.ma K (He.ga K "Market") "barters"), "barters", "Market.barters", defArgs s_Market_barters, defBody s_Market_barters, defScope s_Market_barters, [], []⟩
def dd_law_draw : He5.DefA := ⟨fun K => (He.ga K "_law_draw"), "_law_draw", "_law_draw", defArgs s_law_draw, defBody s_law_draw, defScope s_law_draw, [], []⟩
def dd_law_any : He5.DefA := ⟨fun K => (He.ga K "_law_any"), "_law_any", "_law_any", defArgs s_law_any, defBody s_law_any, defScope s_law_any, [], []⟩
def dd_law_plus : He5.DefA := ⟨fun K => (He.ga K "_law_plus"), "_law_plus", "_law_plus", defArgs s_law_plus, defBody s_law_plus, defScope s_law_plus, [], []⟩
def dd_law_some_bundle : He5.DefA := ⟨fun K => (He.ga K "_law_some_bundle"), "_law_some_bundle", "_law_some_bundle", defArgs s_law_some_bundle, defBody s_law_some_bundle, defScope s_law_some_bundle, [], []⟩
def dd_law_barters : He5.DefA := ⟨fun K => (He.ga K "_law_barters"), "_law_barters", "_law_barters", defArgs s_law_barters, defBody s_law_barters, defScope s_law_barters, [], []⟩
def dd_law_begin : He5.DefA := ⟨fun K => (He.ga K "_law_begin"), "_law_begin", "_law_begin", defArgs s_law_begin, defBody s_law_begin, defScope s_law_begin, [], []⟩
def dd_law_bent_bundle : He5.DefA := ⟨fun K => (He.ga K "_law_bent_bundle"), "_law_bent_bundle", "_law_bent_bundle", defArgs s_law_bent_bundle, defBody s_law_bent_bundle, defScope s_law_bent_bundle, [], []⟩
def dd_law_bent_barter : He5.DefA := ⟨fun K => (He.ga K "_law_bent_barter"), "_law_bent_barter", "_law_bent_barter", defArgs s_law_bent_barter, defBody s_law_bent_barter, defScope s_law_bent_barter, [], []⟩
def dd_law_field : He5.DefA := ⟨fun K => (He.ga K "_law_field"), "_law_field", "_law_field", defArgs s_law_field, defBody s_law_field, defScope s_law_field, [], []⟩
def dd_law_is_bundle : He5.DefA := ⟨fun K => (He.ga K "_law_is_bundle"), "_law_is_bundle", "_law_is_bundle", defArgs s_law_is_bundle, defBody s_law_is_bundle, defScope s_law_is_bundle, [], []⟩
def dd_law_is_barter : He5.DefA := ⟨fun K => (He.ga K "_law_is_barter"), "_law_is_barter", "_law_is_barter", defArgs s_law_is_barter, defBody s_law_is_barter, defScope s_law_is_barter, [], []⟩
def dd_law_made : He5.DefA := ⟨fun K => (He.ga K "_law_made"), "_law_made", "_law_made", defArgs s_law_made, defBody s_law_made, defScope s_law_made, [], []⟩
def dd_law_same : He5.DefA := ⟨fun K => (He.ga K "_law_same"), "_law_same", "_law_same", defArgs s_law_same, defBody s_law_same, defScope s_law_same, [], []⟩
def dd_law_some_things : He5.DefA := ⟨fun K => (He.ga K "_law_some_things"), "_law_some_things", "_law_some_things", defArgs s_law_some_things, defBody s_law_some_things, defScope s_law_some_things, [], []⟩
def dd_law : He5.DefA := ⟨fun K => (He.ga K "law"), "law", "law", defArgs s_law, defBody s_law, defScope s_law, [], []⟩
def dd_law_why : He5.DefA := ⟨fun K => (He.ga K "_law_why"), "_law_why", "_law_why", defArgs s_law_why, defBody s_law_why, defScope s_law_why, [], []⟩
def fn : List He5.DefA := [dd_is_thing, dd_check_things, dd_is_count, dd_is_bundle, dd_is_barter, dd_Market_init, dd_Market_len, dd_Market_barters, dd_law_draw, dd_law_any, dd_law_plus, dd_law_some_bundle, dd_law_barters, dd_law_begin, dd_law_bent_bundle, dd_law_bent_barter, dd_law_field, dd_law_is_bundle, dd_law_is_barter, dd_law_made, dd_law_same, dd_law_some_things, dd_law, dd_law_why]
def fa : List FB := [fGlo "law", fFree "all", fFree "bool", fFree "enumerate", fFree "int", fFree "isinstance", fFree "len", fFree "list", fFree "range", fFree "str", fFree "tuple", fFree "zip", fInt "GREATEST" 9, fInt "LONGEST_THING" 6, fStr "SMALL" "abcdefghijklmnopqrstuvwxyz", fCls "Market", fConI "Market" "MOST_BARTERS" 8, fConI "Market" "MOST_THINGS" 4, fErr (PySem.Challenge.rw_evenbarter_k05_barters_of_markets).prog en_InvalidBarter, fErr (PySem.Challenge.rw_evenbarter_k05_barters_of_markets).prog en_InvalidThing, fGlo "BarterError", fGlo "Market", fGlo "Missing", fGlo "NothingLeft", fGlo "check_things", fGlo "is_barter", fGlo "is_bundle", fGlo "is_count", fGlo "is_thing", fGlo "_law_any", fGlo "_law_barters", fGlo "_law_begin", fGlo "_law_bent_barter", fGlo "_law_bent_bundle", fGlo "_law_draw", fGlo "_law_field", fGlo "_law_is_barter", fGlo "_law_is_bundle", fGlo "_law_made", fGlo "_law_plus", fGlo "_law_same", fGlo "_law_some_bundle", fGlo "_law_some_things", fGlo "_law_why", fMeth "Market" "barters", fMeth "Market" "__len__", fMkr "Market", fNoat "Market" "barter_row", fNoat "Market" "thing_row", fReads "Market", fExAt "InvalidBarter" "at", fExAt "InvalidBarter" "tag", fExAt "InvalidThing" "at", fExAt "InvalidThing" "tag", fExm "InvalidBarter" ["BarterError", "Missing", "NothingLeft"], fExm "InvalidThing" ["BarterError", "Missing", "NothingLeft"]]
abbrev R : PySem.W.OpenRow := PySem.W.OpenLaw.row PySem.Challenge.rw_evenbarter_k05_barters_of_markets
def en : List EO := [en_InvalidBarter.eo, en_InvalidThing.eo]
def tf : List He.Defn := [("law", none)]
abbrev hk : PySem.W.Hook := hookZ 7 fa fn en tf
def ob (s : PySem.W.SharedT) : AlY := obsZ 7 fa fn en tf (HandSHeadRun.getT s)
theorem ob_eq (s : PySem.W.SharedT) : ob s = hk.obs s.abs := obsZ_eq (HandSHeadRun.getT_eq s)
def loose : List Str := (["_wall", "BarterError", "Missing", "InvalidThing", "InvalidBarter", "UnknownThing", "ParseError", "UnlikeThings", "UnknownIndex", "NothingLeft", "MOST_COUNT", "is_count", "is_bundle", "nothing", "SMALL", "DIGITS", "LONGEST_THING", "LONGEST_NUMBER", "MOST_OPEN", "is_thing", "Reader", "barter_terms", "check_words", "counted", "format_bundle", "format_barter", "GREATEST", "is_barter", "is_plain", "check_things"] : List Str) ++ (["Market", "_law_begin", "_law_draw", "_law_any", "_law_same", "_law_field", "_law_why", "_law_plus", "_law_some_bundle", "_law_some_things", "_law_barters", "_law_is_bundle", "_law_is_barter", "_law_bent_bundle", "_law_bent_barter", "_law_made"] : List Str)
theorem run (w : World) : HandSHeadRun.RunEq R (PySem.W.view R.prog [51]) hk ob 20000 loose w := by
  intro os
  kernel_rfl
end Lw

namespace Lw
open PySem L2 DX
abbrev P : Program := (PySem.Challenge.rw_evenbarter_k05_barters_of_markets).prog
theorem facts {w : World} {K : PySem.W.Frag} {h : Heap} {mg : Str → Option Value} {f : Addr} (X : K.In h) (G : h.Ns mainGlobals mg) (hfa : mg ("law" : Str) = some (.ref f)) (cy : SaysZ fa fn en tf h K) :
    ∃ fd : FuncData, (∀ (s : Shared) (v : Value), BindsTo s fd ⟨[v], []⟩ [("_law_script", v)]) ∧ ∀ base : Heap, K.In base → base.Ns mainGlobals mg → (∀ p ∈ tf.map (He.cT K), LamX.TabB base mg p.1 p.2) → FnOk P w K mg base (L2.CX P w) 19 f fd ["_law_script"] (spD K f_law) := by
  have c := cy.x
  obtain ⟨fd_is_thing, F_is_thing⟩ := c.def_ 0 (d := dd_is_thing) rfl
  have K_is_thing := F_is_thing.kp
  obtain ⟨fd_check_things, F_check_things⟩ := c.def_ 1 (d := dd_check_things) rfl
  have K_check_things := F_check_things.kp
  obtain ⟨fd_is_count, F_is_count⟩ := c.def_ 2 (d := dd_is_count) rfl
  have K_is_count := F_is_count.kp
  obtain ⟨fd_is_bundle, F_is_bundle⟩ := c.def_ 3 (d := dd_is_bundle) rfl
  have K_is_bundle := F_is_bundle.kp
  obtain ⟨fd_is_barter, F_is_barter⟩ := c.def_ 4 (d := dd_is_barter) rfl
  have K_is_barter := F_is_barter.kp
  obtain ⟨fd_Market_init, F_Market_init⟩ := c.def_ 5 (d := dd_Market_init) rfl
  obtain ⟨fd_Market_len, F_Market_len⟩ := c.def_ 6 (d := dd_Market_len) rfl
  obtain ⟨fd_Market_barters, F_Market_barters⟩ := c.def_ 7 (d := dd_Market_barters) rfl
  obtain ⟨fd_law_draw, F_law_draw⟩ := c.def_ 8 (d := dd_law_draw) rfl
  have K_law_draw := F_law_draw.kp
  obtain ⟨fd_law_any, F_law_any⟩ := c.def_ 9 (d := dd_law_any) rfl
  have K_law_any := F_law_any.kp
  obtain ⟨fd_law_plus, F_law_plus⟩ := c.def_ 10 (d := dd_law_plus) rfl
  have K_law_plus := F_law_plus.kp
  obtain ⟨fd_law_some_bundle, F_law_some_bundle⟩ := c.def_ 11 (d := dd_law_some_bundle) rfl
  have K_law_some_bundle := F_law_some_bundle.kp
  obtain ⟨fd_law_barters, F_law_barters⟩ := c.def_ 12 (d := dd_law_barters) rfl
  have K_law_barters := F_law_barters.kp
  obtain ⟨fd_law_begin, F_law_begin⟩ := c.def_ 13 (d := dd_law_begin) rfl
  have K_law_begin := F_law_begin.kp
  obtain ⟨fd_law_bent_bundle, F_law_bent_bundle⟩ := c.def_ 14 (d := dd_law_bent_bundle) rfl
  have K_law_bent_bundle := F_law_bent_bundle.kp
  obtain ⟨fd_law_bent_barter, F_law_bent_barter⟩ := c.def_ 15 (d := dd_law_bent_barter) rfl
  have K_law_bent_barter := F_law_bent_barter.kp
  obtain ⟨fd_law_field, F_law_field⟩ := c.def_ 16 (d := dd_law_field) rfl
  have K_law_field := F_law_field.kp
  obtain ⟨fd_law_is_bundle, F_law_is_bundle⟩ := c.def_ 17 (d := dd_law_is_bundle) rfl
  have K_law_is_bundle := F_law_is_bundle.kp
  obtain ⟨fd_law_is_barter, F_law_is_barter⟩ := c.def_ 18 (d := dd_law_is_barter) rfl
  have K_law_is_barter := F_law_is_barter.kp
  obtain ⟨fd_law_made, F_law_made⟩ := c.def_ 19 (d := dd_law_made) rfl
  have K_law_made := F_law_made.kp
  obtain ⟨fd_law_same, F_law_same⟩ := c.def_ 20 (d := dd_law_same) rfl
  have K_law_same := F_law_same.kp
  obtain ⟨fd_law_some_things, F_law_some_things⟩ := c.def_ 21 (d := dd_law_some_things) rfl
  have K_law_some_things := F_law_some_things.kp
  obtain ⟨fd_law, F_law⟩ := c.def_ 22 (d := dd_law) rfl
  have K_law := F_law.kp
  obtain ⟨fd_law_why, F_law_why⟩ := c.def_ 23 (d := dd_law_why) rfl
  have K_law_why := F_law_why.kp
  have e := hfa.symm.trans (He.glo_ok X G (c.fact 0 (f := fGlo "law") rfl))
  cases e
  have h_b_all := c.fact 1 (f := fFree "all") rfl
  have h_b_bool := c.fact 2 (f := fFree "bool") rfl
  have h_b_enumerate := c.fact 3 (f := fFree "enumerate") rfl
  have h_b_int := c.fact 4 (f := fFree "int") rfl
  have h_b_isinstance := c.fact 5 (f := fFree "isinstance") rfl
  have h_b_len := c.fact 6 (f := fFree "len") rfl
  have h_b_list := c.fact 7 (f := fFree "list") rfl
  have h_b_range := c.fact 8 (f := fFree "range") rfl
  have h_b_str := c.fact 9 (f := fFree "str") rfl
  have h_b_tuple := c.fact 10 (f := fFree "tuple") rfl
  have h_b_zip := c.fact 11 (f := fFree "zip") rfl
  have h_c_GREATEST := c.fact 12 (f := fInt "GREATEST" 9) rfl
  have h_c_LONGEST_THING := c.fact 13 (f := fInt "LONGEST_THING" 6) rfl
  have h_c_SMALL := c.fact 14 (f := fStr "SMALL" "abcdefghijklmnopqrstuvwxyz") rfl
  have h_cl_Market := c.fact 15 (f := fCls "Market") rfl
  have h_cv_Market_MOST_BARTERS := c.fact 16 (f := fConI "Market" "MOST_BARTERS" 8) rfl
  have h_cv_Market_MOST_THINGS := c.fact 17 (f := fConI "Market" "MOST_THINGS" 4) rfl
  have h_er_InvalidBarter := c.fact 18 (f := fErr (PySem.Challenge.rw_evenbarter_k05_barters_of_markets).prog en_InvalidBarter) rfl
  have h_er_InvalidThing := c.fact 19 (f := fErr (PySem.Challenge.rw_evenbarter_k05_barters_of_markets).prog en_InvalidThing) rfl
  have h_g_BarterError := c.fact 20 (f := fGlo "BarterError") rfl
  have h_g_Market := c.fact 21 (f := fGlo "Market") rfl
  have h_g_Missing := c.fact 22 (f := fGlo "Missing") rfl
  have h_g_NothingLeft := c.fact 23 (f := fGlo "NothingLeft") rfl
  have h_g_check_things := c.fact 24 (f := fGlo "check_things") rfl
  have h_g_is_barter := c.fact 25 (f := fGlo "is_barter") rfl
  have h_g_is_bundle := c.fact 26 (f := fGlo "is_bundle") rfl
  have h_g_is_count := c.fact 27 (f := fGlo "is_count") rfl
  have h_g_is_thing := c.fact 28 (f := fGlo "is_thing") rfl
  have h_g_law_any := c.fact 29 (f := fGlo "_law_any") rfl
  have h_g_law_barters := c.fact 30 (f := fGlo "_law_barters") rfl
  have h_g_law_begin := c.fact 31 (f := fGlo "_law_begin") rfl
  have h_g_law_bent_barter := c.fact 32 (f := fGlo "_law_bent_barter") rfl
  have h_g_law_bent_bundle := c.fact 33 (f := fGlo "_law_bent_bundle") rfl
  have h_g_law_draw := c.fact 34 (f := fGlo "_law_draw") rfl
  have h_g_law_field := c.fact 35 (f := fGlo "_law_field") rfl
  have h_g_law_is_barter := c.fact 36 (f := fGlo "_law_is_barter") rfl
  have h_g_law_is_bundle := c.fact 37 (f := fGlo "_law_is_bundle") rfl
  have h_g_law_made := c.fact 38 (f := fGlo "_law_made") rfl
  have h_g_law_plus := c.fact 39 (f := fGlo "_law_plus") rfl
  have h_g_law_same := c.fact 40 (f := fGlo "_law_same") rfl
  have h_g_law_some_bundle := c.fact 41 (f := fGlo "_law_some_bundle") rfl
  have h_g_law_some_things := c.fact 42 (f := fGlo "_law_some_things") rfl
  have h_g_law_why := c.fact 43 (f := fGlo "_law_why") rfl
  have h_me_Market_barters := c.fact 44 (f := fMeth "Market" "barters") rfl
  have h_me_Market_len := c.fact 45 (f := fMeth "Market" "__len__") rfl
  have h_mk_Market := c.fact 46 (f := fMkr "Market") rfl
  have h_na_Market_barter_row := c.fact 47 (f := fNoat "Market" "barter_row") rfl
  have h_na_Market_thing_row := c.fact 48 (f := fNoat "Market" "thing_row") rfl
  have h_rd_Market := c.fact 49 (f := fReads "Market") rfl
  have h_xa_InvalidBarter_at := c.fact 50 (f := fExAt "InvalidBarter" "at") rfl
  have h_xa_InvalidBarter_tag := c.fact 51 (f := fExAt "InvalidBarter" "tag") rfl
  have h_xa_InvalidThing_at := c.fact 52 (f := fExAt "InvalidThing" "at") rfl
  have h_xa_InvalidThing_tag := c.fact 53 (f := fExAt "InvalidThing" "tag") rfl
  have h_xm_InvalidBarter := c.fact 54 (f := fExm "InvalidBarter" ["BarterError", "Missing", "NothingLeft"]) rfl
  have h_xm_InvalidThing := c.fact 55 (f := fExm "InvalidThing" ["BarterError", "Missing", "NothingLeft"]) rfl
  have M : Md P K mg := ⟨He.free_ok X G h_b_all, He.free_ok X G h_b_bool, He.free_ok X G h_b_enumerate, He.free_ok X G h_b_int, He.free_ok X G h_b_isinstance, He.free_ok X G h_b_len, He.free_ok X G h_b_list, He.free_ok X G h_b_range, He.free_ok X G h_b_str, He.free_ok X G h_b_tuple, He.free_ok X G h_b_zip, He.int_ok X G h_c_GREATEST, He.int_ok X G h_c_LONGEST_THING, He.str_ok X G h_c_SMALL, He.cls_ok h_cl_Market, conI_ok h_cv_Market_MOST_BARTERS, conI_ok h_cv_Market_MOST_THINGS, err_ok X G ep_InvalidBarter (cy.err 0 (e := en_InvalidBarter.eo) rfl) h_er_InvalidBarter, err_ok X G ep_InvalidThing (cy.err 1 (e := en_InvalidThing.eo) rfl) h_er_InvalidThing, He.glo_ok X G h_g_BarterError, He.glo_ok X G h_g_Market, He.glo_ok X G h_g_Missing, He.glo_ok X G h_g_NothingLeft, He.glo_ok X G h_g_check_things, He.glo_ok X G h_g_is_barter, He.glo_ok X G h_g_is_bundle, He.glo_ok X G h_g_is_count, He.glo_ok X G h_g_is_thing, He.glo_ok X G h_g_law_any, He.glo_ok X G h_g_law_barters, He.glo_ok X G h_g_law_begin, He.glo_ok X G h_g_law_bent_barter, He.glo_ok X G h_g_law_bent_bundle, He.glo_ok X G h_g_law_draw, He.glo_ok X G h_g_law_field, He.glo_ok X G h_g_law_is_barter, He.glo_ok X G h_g_law_is_bundle, He.glo_ok X G h_g_law_made, He.glo_ok X G h_g_law_plus, He.glo_ok X G h_g_law_same, He.glo_ok X G h_g_law_some_bundle, He.glo_ok X G h_g_law_some_things, He.glo_ok X G h_g_law_why, He.meth_ok h_me_Market_barters, He.meth_ok h_me_Market_len, He.mkr_ok h_mk_Market, He.noat_ok h_na_Market_barter_row, He.noat_ok h_na_Market_thing_row, reads_ok h_rd_Market, exAt_ok h_xa_InvalidBarter_at, exAt_ok h_xa_InvalidBarter_tag, exAt_ok h_xa_InvalidThing_at, exAt_ok h_xa_InvalidThing_tag, DX.exm_ok h_xm_InvalidBarter, DX.exm_ok h_xm_InvalidThing⟩
  have bl := FunD.bindsA (ps := ["_law_script"]) F_law fun _ _ _ _ _ _ us hl => match us, hl with | [_], _ => rfl
  refine ⟨fd_law, fun s v => bl s [v] rfl, fun base _ _ hTB => ?_⟩
  have TB_law := hTB (He.cT K ("law", none)) (List.mem_map.mpr ⟨_, by simp [tf], rfl⟩)
  have G_is_thing := ok_is_thing (P := P) (w := w) (base := base) F_is_thing M  
  have G_check_things := ok_check_things (P := P) (w := w) (base := base) F_check_things M G_is_thing K_is_thing 
  have G_is_count := ok_is_count (P := P) (w := w) (base := base) F_is_count M  
  have O_is_bundle := ok_is_bundle (P := P) (w := w) (base := base) F_is_bundle M G_is_count K_is_count 
  obtain ⟨ds_is_bundle, hv_is_bundle, b_is_bundle⟩ := F_is_bundle.binds1 (ps := ["bundle", "width", "most"]) 3 1 (by simp [He5.DefA.dvs, dd_is_bundle]) rfl (fun T kV doc pm an cdv ct us its h1 h2 => match us, its, h1, h2 with | [_, _, _], [_], _, _ => ⟨_, rfl, rfl⟩)
  have hz_is_bundle : Vals [] ds_is_bundle := hv_is_bundle
  cases hz_is_bundle
  have G_is_bundle := fnR_all O_is_bundle b_is_bundle
  have G_is_barter := ok_is_barter (P := P) (w := w) (base := base) F_is_barter M G_is_bundle K_is_bundle 
  have G_Market_init := ok_Market_init (P := P) (w := w) (base := base) F_Market_init M G_check_things K_check_things G_is_barter K_is_barter 
  have G_Market_len := ok_Market_len (P := P) (w := w) (base := base) F_Market_len M  
  have G_Market_barters := ok_Market_barters (P := P) (w := w) (base := base) F_Market_barters M  
  have G_law_draw := ok_law_draw (P := P) (w := w) (base := base) F_law_draw M  
  have G_law_any := ok_law_any (P := P) (w := w) (base := base) F_law_any M G_law_draw K_law_draw 
  have G_law_plus := ok_law_plus (P := P) (w := w) (base := base) F_law_plus M  
  have G_law_some_bundle := ok_law_some_bundle (P := P) (w := w) (base := base) F_law_some_bundle M G_law_draw K_law_draw 
  have G_law_barters := ok_law_barters (P := P) (w := w) (base := base) F_law_barters M G_law_plus K_law_plus G_law_some_bundle K_law_some_bundle 
  have G_law_begin := ok_law_begin (P := P) (w := w) (base := base) F_law_begin M  
  have G_law_bent_bundle := ok_law_bent_bundle (P := P) (w := w) (base := base) F_law_bent_bundle M G_law_any K_law_any G_law_draw K_law_draw 
  have G_law_bent_barter := ok_law_bent_barter (P := P) (w := w) (base := base) F_law_bent_barter M G_law_any K_law_any G_law_bent_bundle K_law_bent_bundle 
  have G_law_field := ok_law_field (P := P) (w := w) (base := base) F_law_field M
  have G_law_is_bundle := ok_law_is_bundle (P := P) (w := w) (base := base) F_law_is_bundle M  
  have G_law_is_barter := ok_law_is_barter (P := P) (w := w) (base := base) F_law_is_barter M G_law_is_bundle K_law_is_bundle 
  have G_law_made := ok_law_made (P := P) (w := w) (base := base) F_law_made M G_Market_init 
  have G_law_same := ok_law_same (P := P) (w := w) (base := base) F_law_same M  K_law_same
  have G_law_some_things := ok_law_some_things (P := P) (w := w) (base := base) F_law_some_things M G_law_draw K_law_draw 
  have G_law := ok_law (P := P) (w := w) (base := base) F_law M F_law_why TB_law G_Market_init G_Market_len G_Market_barters G_law_any K_law_any G_law_barters K_law_barters G_law_begin K_law_begin G_law_bent_barter K_law_bent_barter G_law_draw K_law_draw G_law_field K_law_field G_law_is_barter K_law_is_barter G_law_made K_law_made G_law_same K_law_same G_law_some_things K_law_some_things 
  exact G_law
end Lw

open PySem PySem.W PySem.Calls PyProof.Rows in
theorem PySem.Challenge.cw_evenbarter_k05_barters_of_markets_holds : PySem.Challenge.rw_evenbarter_k05_barters_of_markets.Holds := by
  w_on; o_law
  refine HandSHeadRun.head_any (r := OpenLaw.row PySem.Challenge.rw_evenbarter_k05_barters_of_markets) (q := view (OpenLaw.row PySem.Challenge.rw_evenbarter_k05_barters_of_markets).prog [51]) (H := Lw.hk) (ob := Lw.ob) (M := 20000) (loose := Lw.loose) (d := HandSHeadRun.topDef (OpenLaw.row PySem.Challenge.rw_evenbarter_k05_barters_of_markets).prog 51) (kwd := []) Lw.ob_eq
    (by kernel_rfl) (fun s => by kernel_rfl) Lw.run (by kernel_rfl) (by kernel_rfl) (by kernel_rfl) (by rfl) (by first | assumption | decide +kernel) (by decide +kernel) ⟨rfl, rfl, rfl, rfl, rfl, by decide +kernel⟩ ?hw ?hc
  case hw => w_witness2
  case hc =>
    refine LamX.walk_ofTsE (l := PySem.Challenge.rw_evenbarter_k05_barters_of_markets) (n := 63) (k := 19) (x := "_law_script") (CX := fun _ => L2.CX0) rfl (by decide) (by kernel_rfl) ⟨rfl, by decide, by decide⟩ ?F (fun _ _ _ _ _ z => z)
    intro w mg fa h Y G hmg0
    obtain ⟨K, KX, c⟩ := Y
    have hmg : mg ("law" : PySem.Str) = some (.ref fa) := by
      have e : (HandSHeadRun.topDef (OpenLaw.row PySem.Challenge.rw_evenbarter_k05_barters_of_markets).prog 51).name = ("law" : PySem.Str) := by kernel_rfl
      rw [← e]
      exact hmg0
    obtain ⟨fd, hb, hF⟩ := Lw.facts (w := w) KX G hmg c
    refine ⟨K, KX, fd, Lw.tf.map (He.cT K), fun vs H Q _ => DX.spD K Lw.f_law vs H Q L2.E0, fun p hp => ?_, fun p hp => ?_, fun p hp => ?_, hb, fun H a ns hl _ hT hS => ?_, fun base b1 b2 b3 => DX.fnOk_no (hF base b1 b2 b3)⟩
    · obtain ⟨d, hd, rfl⟩ := List.mem_map.mp hp
      exact c.empty d hd
    · obtain ⟨d, hd, rfl⟩ := List.mem_map.mp hp
      exact c.out d hd
    · obtain ⟨d, hd, rfl⟩ := List.mem_map.mp hp
      exact codeHd_of_K KX (c.hd d hd)
    · exact DX.law_spT (Lw.law_ok ns hl) (hT (He.cT K ("law", none)) (List.mem_map.mpr ⟨_, by simp [Lw.tf], rfl⟩)) hS
#print axioms PySem.Challenge.cw_evenbarter_k05_barters_of_markets_holds

