import PyProof.Rows.All
import Wide.All
import OpenK.AllK
import Wide.FinOn
import HandS.ForMost
import HandS.ForExc
import HandS.Walk
import HandS.Flow
import HandS.TupAny
import HandS.IsInst
import HandS.Style
import HandS.Small
import HandS.SetIn
import KE.DataEq
import HandS.Deep
import HandS.More
import HandS.DictComp
import HandS.TupSets
import HandS.SetFor
import HandS.Conv
import PyProof.EqAt
import HandS.ListItems
import KE.KItemsList
import HandS.ExcInit
import HandS.ExcField
import HandS.ExcIs
import KE.KExcIs
import HandS.SortRule
import HandS.SortInts
import HandS.TryOnly
import KE.KSortTupG
import KE.GoesEnum
import HandS.Defaults
import HandS.MakeKw
import HandS.MakeKwOnly
import KE.KAssignIn
import HandS.Strs
import PySem.Challenge.RW_gatepairs_k19_known_trusts_and_repairs
set_option Elab.async false
set_option maxRecDepth 100000
set_option maxHeartbeats 1000000
set_option linter.all false
/-! The tree layer, part a: values as trees, cells, the relation to HandS's abstract heap, results. -/
namespace TL
open PySem PySem.Spec PyProof.Rows L2

/-- a value as a tree; loc n: the cell n of the store; fn x: what the module's name x holds (a def, a class) -/
inductive D where
  | none | bool (b : Bool) | int (i : Int) | str (s : Str) | list (xs : List D) | tuple (xs : List D)
  | dict (kvs : List (Key × D)) | obj (c : Str) (fs : List (Str × D)) | loc (n : Nat) | fn (x : Str) | script (ns : List Int) | ty (n : String) | exc (c : Str) (fs : List (Str × D))
instance : Inhabited D := ⟨.none⟩
/-- an object that may change -/
inductive Cell where
  | list (xs : List D) | dict (kvs : List (Key × D)) | obj (c : Str) (fs : List (Str × D))
instance : Inhabited Cell := ⟨.list []⟩
/-- the store; none: a cell that may not be looked at any more -/
abbrev Mu := List (Option Cell)
abbrev Env := List (Option D)
structure Exc where
  c : Str
  fs : List (Str × D)
inductive Res (τ : Type) where
  | ok (d : τ) (μ : Mu) | ex (x : Exc) (μ : Mu) | bad
def Res.bind {τ υ : Type} (r : Res τ) (f : τ → Mu → Res υ) : Res υ := match r with
  | .ok d μ => f d μ
  | .ex x μ => .ex x μ
  | .bad => .bad

/-- an exception of the class cls that stands at a, its dict at d -/
def exv (a : Addr) (cls : Value) (d : Option Addr) : HO := .ext fun h => ∃ (oe : Obj) (vs : Array Value), h.get? a = some oe ∧ oe.cls = cls ∧ oe.dict = d ∧ oe.data = .fields vs
mutual
inductive Den (K : PySem.W.Frag) (mg : Str → Option Value) (R : Hp) (α : List Addr) : V → D → Prop where
  | none : Den K mg R α .non .none
  | bool (b : Bool) : Den K mg R α (.bl b) (.bool b)
  | int (i : Int) : Den K mg R α (.int i) (.int i)
  | str (s : Str) : Den K mg R α (.str s) (.str s)
  | list {a : Addr} {vs : List V} {xs : List D} (h : R a = some (.lst vs)) (l : vs.length ≤ sizeLine) (d : DenL K mg R α vs xs) : Den K mg R α (.ref a) (.list xs)
  | tuple {a : Addr} {vs : List V} {xs : List D} (h : SqT K R a vs) (l : vs.length ≤ sizeLine) (d : DenL K mg R α vs xs) : Den K mg R α (.ref a) (.tuple xs)
  | dict {a : Addr} {ks : List (Key × V)} {kvs : List (Key × D)} (h : R a = some (.dK ks)) (l : ks.length ≤ sizeLine) (d : DenK K mg R α ks kvs) : Den K mg R α (.ref a) (.dict kvs)
  | obj {a C dx : Addr} {gs : List (Str × V)} {c : Str} {fs : List (Str × D)} (hc : mg c = some (.ref C)) (h : R a = some (.ins C dx gs)) (d : DenF K mg R α gs fs) : Den K mg R α (.ref a) (.obj c fs)
  | loc {a : Addr} {n : Nat} (h : α[n]? = some a) : Den K mg R α (.ref a) (.loc n)
  | fn {f : Addr} {x : Str} (h : mg x = some (.ref f)) : Den K mg R α (.ref f) (.fn x)
  | script {a : Addr} {ns : List Int} (h : SqL K R a (ns.map V.int)) : Den K mg R α (.ref a) (.script ns)
  | ty (n : String) : Den K mg R α (.ty n) (.ty n)
  | exc {a C dx : Addr} {gs : List (Str × V)} {c : Str} {fs : List (Str × D)} (hc : mg c = some (.ref C)) (h : R a = some (exv a (.ref C) (some dx))) (hd : R dx = some (.xd gs)) (d : DenF K mg R α gs fs) : Den K mg R α (.ref a) (.exc c fs)
inductive DenL (K : PySem.W.Frag) (mg : Str → Option Value) (R : Hp) (α : List Addr) : List V → List D → Prop where
  | nil : DenL K mg R α [] []
  | cons {v : V} {d : D} {vs : List V} {ds : List D} (h : Den K mg R α v d) (t : DenL K mg R α vs ds) : DenL K mg R α (v :: vs) (d :: ds)
inductive DenK (K : PySem.W.Frag) (mg : Str → Option Value) (R : Hp) (α : List Addr) : List (Key × V) → List (Key × D) → Prop where
  | nil : DenK K mg R α [] []
  | cons {k : Key} {v : V} {d : D} {vs : List (Key × V)} {ds : List (Key × D)} (h : Den K mg R α v d) (t : DenK K mg R α vs ds) : DenK K mg R α ((k, v) :: vs) ((k, d) :: ds)
inductive DenF (K : PySem.W.Frag) (mg : Str → Option Value) (R : Hp) (α : List Addr) : List (Str × V) → List (Str × D) → Prop where
  | nil : DenF K mg R α [] []
  | cons {k : Str} {v : V} {d : D} {vs : List (Str × V)} {ds : List (Str × D)} (h : Den K mg R α v d) (t : DenF K mg R α vs ds) : DenF K mg R α ((k, v) :: vs) ((k, d) :: ds)
end

section
variable {K : PySem.W.Frag} {mg : Str → Option Value} {R R' H H' : Hp} {α α' : List Addr}
theorem SqL.up (h1 : ∀ a u, R a = some u → R' a = some u) {a : Addr} {vs : List V} (h : SqL K R a vs) : SqL K R' a vs := by
  rcases h with h | h
  · rcases h with h | ⟨o, h⟩
    · exact .inl (.inl (h1 _ _ h))
    · exact .inl (.inr ⟨o, h1 _ _ h⟩)
  · exact .inr h
theorem SqT.up (h1 : ∀ a u, R a = some u → R' a = some u) {a : Addr} {vs : List V} (h : SqT K R a vs) : SqT K R' a vs := by
  rcases h with h | h
  · rcases h with h | ⟨o, h⟩
    · exact .inl (.inl (h1 _ _ h))
    · exact .inl (.inr ⟨o, h1 _ _ h⟩)
  · exact .inr h
mutual
theorem Den.up (h1 : ∀ a u, R a = some u → R' a = some u) (h2 : ∀ (n : Nat) x, α[n]? = some x → α'[n]? = some x) : ∀ {v : V} {d : D}, Den K mg R α v d → Den K mg R' α' v d
  | _, _, .none => .none
  | _, _, .bool b => .bool b
  | _, _, .int b => .int b
  | _, _, .str b => .str b
  | _, _, .list h l d => .list (h1 _ _ h) l (DenL.up h1 h2 d)
  | _, _, .tuple h l d => .tuple (SqT.up h1 h) l (DenL.up h1 h2 d)
  | _, _, .dict h l d => .dict (h1 _ _ h) l (DenK.up h1 h2 d)
  | _, _, .obj hc h d => .obj hc (h1 _ _ h) (DenF.up h1 h2 d)
  | _, _, .loc h => .loc (h2 _ _ h)
  | _, _, .fn h => .fn h
  | _, _, .script h => .script (SqL.up h1 h)
  | _, _, .ty n => .ty n
  | _, _, .exc hc h hd d => .exc hc (h1 _ _ h) (h1 _ _ hd) (DenF.up h1 h2 d)
theorem DenL.up (h1 : ∀ a u, R a = some u → R' a = some u) (h2 : ∀ (n : Nat) x, α[n]? = some x → α'[n]? = some x) : ∀ {v : List V} {d : List D}, DenL K mg R α v d → DenL K mg R' α' v d
  | _, _, .nil => .nil
  | _, _, .cons h t => .cons (Den.up h1 h2 h) (DenL.up h1 h2 t)
theorem DenK.up (h1 : ∀ a u, R a = some u → R' a = some u) (h2 : ∀ (n : Nat) x, α[n]? = some x → α'[n]? = some x) : ∀ {v : List (Key × V)} {d : List (Key × D)}, DenK K mg R α v d → DenK K mg R' α' v d
  | _, _, .nil => .nil
  | _, _, .cons h t => .cons (Den.up h1 h2 h) (DenK.up h1 h2 t)
theorem DenF.up (h1 : ∀ a u, R a = some u → R' a = some u) (h2 : ∀ (n : Nat) x, α[n]? = some x → α'[n]? = some x) : ∀ {v : List (Str × V)} {d : List (Str × D)}, DenF K mg R α v d → DenF K mg R' α' v d
  | _, _, .nil => .nil
  | _, _, .cons h t => .cons (Den.up h1 h2 h) (DenF.up h1 h2 t)
end
theorem DenL.len : ∀ {v : List V} {d : List D}, DenL K mg R α v d → v.length = d.length
  | _, _, .nil => rfl
  | _, _, .cons _ t => congrArg (· + 1) (DenL.len t)
theorem DenK.len : ∀ {v : List (Key × V)} {d : List (Key × D)}, DenK K mg R α v d → v.length = d.length
  | _, _, .nil => rfl
  | _, _, .cons _ t => congrArg (· + 1) (DenK.len t)
theorem DenL.get : ∀ {v : List V} {d : List D} {i : Nat} {x : V}, DenL K mg R α v d → v[i]? = some x → ∃ e, d[i]? = some e ∧ Den K mg R α x e
  | _, _, _, _, .nil, e => by simp at e
  | _, _, 0, _, .cons h _, e => by simp at e; subst e; exact ⟨_, rfl, h⟩
  | _, _, i + 1, x, .cons _ t, e => by
    obtain ⟨u, q1, q2⟩ := DenL.get (i := i) (x := x) t (by simpa using e)
    exact ⟨u, by simpa using q1, q2⟩
theorem DenL.get' : ∀ {v : List V} {d : List D} {i : Nat} {e : D}, DenL K mg R α v d → d[i]? = some e → ∃ x, v[i]? = some x ∧ Den K mg R α x e
  | _, _, _, _, .nil, e => by simp at e
  | _, _, 0, _, .cons h _, e => by simp at e; subst e; exact ⟨_, rfl, h⟩
  | _, _, i + 1, x, .cons _ t, e => by
    obtain ⟨u, q1, q2⟩ := DenL.get' (i := i) (e := x) t (by simpa using e)
    exact ⟨u, by simpa using q1, q2⟩
theorem DenL.append : ∀ {v v' : List V} {d d' : List D}, DenL K mg R α v d → DenL K mg R α v' d' → DenL K mg R α (v ++ v') (d ++ d')
  | _, _, _, _, .nil, q => q
  | _, _, _, _, .cons h t, q => .cons h (DenL.append t q)
theorem DenL.take : ∀ (n : Nat) {v : List V} {d : List D}, DenL K mg R α v d → DenL K mg R α (v.take n) (d.take n)
  | 0, _, _, _ => .nil
  | _ + 1, _, _, .nil => .nil
  | n + 1, _, _, .cons h t => .cons h (DenL.take n t)
theorem DenL.drop : ∀ (n : Nat) {v : List V} {d : List D}, DenL K mg R α v d → DenL K mg R α (v.drop n) (d.drop n)
  | 0, _, _, q => q
  | _ + 1, _, _, .nil => .nil
  | n + 1, _, _, .cons h t => DenL.drop n t
theorem DenL.set {x : V} {e : D} (h : Den K mg R α x e) : ∀ (n : Nat) {v : List V} {d : List D}, DenL K mg R α v d → DenL K mg R α (v.set n x) (d.set n e)
  | _, _, _, .nil => .nil
  | 0, _, _, .cons _ t => .cons h t
  | n + 1, _, _, .cons q t => .cons q (DenL.set h n t)
theorem DenL.erase : ∀ (n : Nat) {v : List V} {d : List D}, DenL K mg R α v d → DenL K mg R α (v.eraseIdx n) (d.eraseIdx n)
  | _, _, _, .nil => .nil
  | 0, _, _, .cons _ t => t
  | n + 1, _, _, .cons q t => .cons q (DenL.erase n t)
end

/-! ### the state -/
section
variable (K : PySem.W.Frag) (mg : Str → Option Value)
def CellOk (R : Hp) (α : List Addr) (H : Hp) (a : Addr) : Cell → Prop
  | .list xs => ∃ vs, H a = some (.lst vs) ∧ vs.length ≤ sizeLine ∧ DenL K mg R α vs xs
  | .dict kvs => ∃ ks, H a = some (.dK ks) ∧ ks.length ≤ sizeLine ∧ DenK K mg R α ks kvs
  | .obj c fs => ∃ C dx gs, mg c = some (.ref C) ∧ H a = some (.ins C dx gs) ∧ DenF K mg R α gs fs
/-- the store and the trees, told of the abstract heap: R what is frozen, α where the cells stand -/
structure SM (μ : Mu) (α : List Addr) (R H : Hp) : Prop where
  len : α.length = μ.length
  frz : ∀ a u, R a = some u → H a = some u ∨ ∃ ks o, u = .dK ks ∧ H a = some (.frz o u)
  trk : ∀ a ∈ α, ∃ o, H a = some o
  nod : α.Nodup
  cell : ∀ (n : Nat) c a, μ[n]? = some (some c) → α[n]? = some a → R a = none ∧ CellOk K mg R α H a c
def SS (ρ : Env) (R : Hp) (α : List Addr) (σ : L2.St) : Prop :=
  ρ.length = σ.length ∧ ∀ (i : Nat) d, ρ[i]? = some (some d) → ∃ v, σ[i]? = some (some v) ∧ Den K mg R α v d
end
/-- an address that the state tells of -/
def Kn (α : List Addr) (R : Hp) (b : Addr) : Prop := b ∈ α ∨ ∃ u, R b = some u
structure Adv (α : List Addr) (R H : Hp) (α' : List Addr) (R' H' : Hp) : Prop where
  r : ∀ a u, R a = some u → R' a = some u
  a : ∀ (n : Nat) x, α[n]? = some x → α'[n]? = some x
  f : ∀ b o u, H b = some (.frz o u) → H' b = some (.frz o u)
  t : ∀ b o, H b = some o → ∃ o', H' b = some o'
  k : ∀ b o, H b = some o → ¬ Kn α R b → H' b = some o
  n : ∀ b, Kn α' R' b → Kn α R b ∨ H b = none
section
variable {K : PySem.W.Frag} {mg : Str → Option Value} {R R' R2 H H' H2 : Hp} {α α' α2 : List Addr} {μ μ' : Mu} {ρ : Env} {σ : L2.St}
theorem Adv.refl : Adv α R H α R H := ⟨fun _ _ h => h, fun _ _ h => h, fun _ _ _ h => h, fun _ o h => ⟨o, h⟩, fun _ _ h _ => h, fun _ h => .inl h⟩
theorem Adv.trans (x : Adv α R H α' R' H') (y : Adv α' R' H' α2 R2 H2) : Adv α R H α2 R2 H2 :=
  ⟨fun a u h => y.r a u (x.r a u h), fun n z h => y.a n z (x.a n z h), fun b o u h => y.f b o u (x.f b o u h), fun b o h => by
    obtain ⟨o1, h1⟩ := x.t b o h
    exact y.t b o1 h1, fun b o h nk => y.k b o (x.k b o h nk) fun q => (x.n b q).elim nk (fun z => by rw [h] at z; cases z), fun b q => (y.n b q).elim (x.n b) fun z => by
      cases e : H b with
      | none => exact .inr rfl
      | some o =>
        obtain ⟨o', h'⟩ := x.t b o e
        rw [z] at h'; cases h'⟩
theorem Den.adv {v : V} {d : D} (h : Den K mg R α v d) (x : Adv α R H α' R' H') : Den K mg R' α' v d := h.up x.r x.a
theorem DenL.adv {v : List V} {d : List D} (h : DenL K mg R α v d) (x : Adv α R H α' R' H') : DenL K mg R' α' v d := h.up x.r x.a
theorem SS.adv (h : SS K mg ρ R α σ) (x : Adv α R H α' R' H') : SS K mg ρ R' α' σ := ⟨h.1, fun i d q => by
  obtain ⟨v, h1, h2⟩ := h.2 i d q
  exact ⟨v, h1, h2.adv x⟩⟩
/-- a new object, frozen at once -/
theorem SM.lay {p : Addr} {u : HO} (S : SM K mg μ α R H) (hp : H p = none) : SM K mg μ α (upd R p u) (upd H p u) ∧ Adv α R H α (upd R p u) (upd H p u) := by
  have ne : ∀ {b : Addr} {o : HO}, H b = some o → b ≠ p := fun h => ne_of_none h hp
  have nr : R p = none := by
    cases e : R p with
    | none => rfl
    | some x =>
      rcases S.frz p x e with q | ⟨ks, o, _, q⟩
      · rw [hp] at q; cases q
      · rw [hp] at q; cases q
  have r1 : ∀ a x, R a = some x → upd R p u a = some x := fun a x h => by rw [upd_ne (ne_of_none h nr)]; exact h
  refine ⟨⟨S.len, fun a x h => ?_, fun a h => ?_, S.nod, fun n c a h1 h2 => ?_⟩, ⟨r1, fun _ _ h => h, fun b o x h => by rw [upd_ne (ne h)]; exact h, fun b o h => by rw [upd_ne (ne h)]; exact ⟨o, h⟩, fun b o h _ => by rw [upd_ne (ne h)]; exact h, fun b q => ?_⟩⟩
  rotate_left 3
  · by_cases e : b = p
    · subst e; exact .inr hp
    · rcases q with q | ⟨u', q⟩
      · exact .inl (.inl q)
      · rw [upd_ne e] at q; exact .inl (.inr ⟨u', q⟩)
  · by_cases e : a = p
    · subst e; rw [upd_same] at h; cases h; exact .inl upd_same
    · rw [upd_ne e] at h
      rcases S.frz a x h with q | ⟨ks, o, q0, q⟩
      · exact .inl (by rw [upd_ne e]; exact q)
      · exact .inr ⟨ks, o, q0, by rw [upd_ne e]; exact q⟩
  · obtain ⟨o, q⟩ := S.trk a h
    exact ⟨o, by rw [upd_ne (ne q)]; exact q⟩
  · obtain ⟨o, q⟩ := S.trk a (List.mem_of_getElem? h2)
    obtain ⟨h3, h4⟩ := S.cell n c a h1 h2
    refine ⟨by rw [upd_ne (ne q)]; exact h3, ?_⟩
    cases c with
    | list xs => obtain ⟨vs, e1, e2, e3⟩ := h4; exact ⟨vs, by rw [upd_ne (ne q)]; exact e1, e2, e3.up r1 fun _ _ h => h⟩
    | dict xs => obtain ⟨vs, e1, e2, e3⟩ := h4; exact ⟨vs, by rw [upd_ne (ne q)]; exact e1, e2, e3.up r1 fun _ _ h => h⟩
    | obj c xs => obtain ⟨C, dx, vs, e0, e1, e3⟩ := h4; exact ⟨C, dx, vs, e0, by rw [upd_ne (ne q)]; exact e1, e3.up r1 fun _ _ h => h⟩
/-- the heap changes at places that nobody of ours knows (or that are written to the same) -/
theorem SM.heap (S : SM K mg μ α R H) (h1 : ∀ a u, R a = some u → H' a = some u ∨ ∃ ks o, u = .dK ks ∧ H' a = some (.frz o u)) (h2 : ∀ (n : Nat) c a, μ[n]? = some (some c) → α[n]? = some a → H' a = H a) (h3 : ∀ a ∈ α, ∃ o, H' a = some o) : SM K mg μ α R H' :=
  ⟨S.len, h1, h3, S.nod, fun n c a q1 q2 => by
    obtain ⟨h3, h4⟩ := S.cell n c a q1 q2
    have e := h2 n c a q1 q2
    refine ⟨h3, ?_⟩
    cases c with
    | list xs => obtain ⟨vs, e1, e2, e3⟩ := h4; exact ⟨vs, by rw [e]; exact e1, e2, e3⟩
    | dict xs => obtain ⟨vs, e1, e2, e3⟩ := h4; exact ⟨vs, by rw [e]; exact e1, e2, e3⟩
    | obj c xs => obtain ⟨C, dx, vs, e0, e1, e3⟩ := h4; exact ⟨C, dx, vs, e0, by rw [e]; exact e1, e3⟩⟩
/-- a new object becomes a cell -/
theorem SM.cellNew {p : Addr} {u : HO} {c : Cell} (S : SM K mg μ α R H) (hp : H p = none) (hc : CellOk K mg R α (upd H p u) p c) :
    SM K mg (μ ++ [some c]) (α ++ [p]) R (upd H p u) ∧ Adv α R H (α ++ [p]) R (upd H p u) ∧ (α ++ [p])[μ.length]? = some p := by
  have ne : ∀ {b : Addr} {o : HO}, H b = some o → b ≠ p := fun h => ne_of_none h hp
  have nr : R p = none := by
    cases e : R p with
    | none => rfl
    | some x =>
      rcases S.frz p x e with q | ⟨ks, o, _, q⟩
      · rw [hp] at q; cases q
      · rw [hp] at q; cases q
  have a1 : ∀ (n : Nat) x, α[n]? = some x → (α ++ [p])[n]? = some x := fun n x h => by
    rw [List.getElem?_append_left (List.getElem?_eq_some_iff.mp h).1]; exact h
  have up : ∀ {a : Addr} {c : Cell} {G G' : Hp}, G a = G' a → CellOk K mg R α G a c → CellOk K mg R (α ++ [p]) G' a c := fun {a c G G'} e h4 => by
    cases c with
    | list xs => obtain ⟨vs, e1, e2, e3⟩ := h4; exact ⟨vs, by rw [← e]; exact e1, e2, e3.up (fun _ _ h => h) a1⟩
    | dict xs => obtain ⟨vs, e1, e2, e3⟩ := h4; exact ⟨vs, by rw [← e]; exact e1, e2, e3.up (fun _ _ h => h) a1⟩
    | obj c xs => obtain ⟨C, dx, vs, e0, e1, e3⟩ := h4; exact ⟨C, dx, vs, e0, by rw [← e]; exact e1, e3.up (fun _ _ h => h) a1⟩
  have last : (α ++ [p])[μ.length]? = some p := by rw [← S.len]; simp
  refine ⟨⟨by simp [S.len], fun a x h => ?_, fun a h => ?_, ?_, fun n c' a h1 h2 => ?_⟩, ⟨fun _ _ h => h, a1, fun b o x h => by rw [upd_ne (ne h)]; exact h, fun b o h => by rw [upd_ne (ne h)]; exact ⟨o, h⟩, fun b o h _ => by rw [upd_ne (ne h)]; exact h, fun b q => ?_⟩, last⟩
  rotate_left 4
  · rcases q with q | q
    · rcases List.mem_append.mp q with q | q
      · exact .inl (.inl q)
      · obtain rfl := List.mem_singleton.mp q; exact .inr hp
    · exact .inl (.inr q)
  · have e : a ≠ p := ne_of_none h nr
    rcases S.frz a x h with q | ⟨ks, o, q0, q⟩
    · exact .inl (by rw [upd_ne e]; exact q)
    · exact .inr ⟨ks, o, q0, by rw [upd_ne e]; exact q⟩
  · rcases List.mem_append.mp h with h | h
    · obtain ⟨o, q⟩ := S.trk a h
      exact ⟨o, by rw [upd_ne (ne q)]; exact q⟩
    · obtain rfl := List.mem_singleton.mp h
      exact ⟨u, upd_same⟩
  · refine List.nodup_append.mpr ⟨S.nod, by simp, fun a h b h' => ?_⟩
    obtain rfl := List.mem_singleton.mp h'
    obtain ⟨o, q⟩ := S.trk a h
    exact ne q
  · by_cases e : n < μ.length
    · rw [List.getElem?_append_left e] at h1
      rw [List.getElem?_append_left (by rw [S.len]; exact e)] at h2
      obtain ⟨o, q⟩ := S.trk a (List.mem_of_getElem? h2)
      obtain ⟨h3, h4⟩ := S.cell n c' a h1 h2
      exact ⟨h3, up (by rw [upd_ne (ne q)]) h4⟩
    · have hn : n = μ.length := by
        have := (List.getElem?_eq_some_iff.mp h1).1
        simp at this; omega
      subst hn
      rw [last] at h2; cases h2
      rw [List.getElem?_append_right (Nat.le_refl _)] at h1
      simp at h1; subst h1
      exact ⟨nr, up rfl hc⟩
theorem SM.ne (S : SM K mg μ α R H) {n m : Nat} {a b : Addr} (h1 : α[n]? = some a) (h2 : α[m]? = some b) (h : a = b) : n = m := by
  subst h
  exact (List.getElem?_inj (List.getElem?_eq_some_iff.mp h1).1 S.nod).mp (h1.trans h2.symm)
/-- a cell is written -/
theorem SM.put {n : Nat} {a : Addr} {u : HO} {c c' : Cell} (S : SM K mg μ α R H) (h1 : μ[n]? = some (some c')) (h2 : α[n]? = some a) (hc : CellOk K mg R α (upd H a u) a c) :
    SM K mg (μ.set n (some c)) α R (upd H a u) ∧ Adv α R H α R (upd H a u) := by
  have nr := (S.cell n c' a h1 h2).1
  have nf : ∀ o x, H a ≠ some (.frz o x) := fun o x q => by
    have h4 := (S.cell n c' a h1 h2).2
    cases c' with
    | list xs => obtain ⟨vs, e1, _⟩ := h4; rw [q] at e1; cases e1
    | dict xs => obtain ⟨vs, e1, _⟩ := h4; rw [q] at e1; cases e1
    | obj c xs => obtain ⟨C, dx, vs, e0, e1, _⟩ := h4; rw [q] at e1; cases e1
  refine ⟨⟨by simp [S.len], fun b x h => ?_, fun b h => ?_, S.nod, fun m d b q1 q2 => ?_⟩, ⟨fun _ _ h => h, fun _ _ h => h, fun b o x h => ?_, fun b o h => ?_, fun b o h nk => by rw [upd_ne (fun e => nk (.inl (by rw [e]; exact List.mem_of_getElem? h2)))]; exact h, fun b h => .inl h⟩⟩
  · have e : b ≠ a := ne_of_none h nr
    rcases S.frz b x h with q | ⟨ks, o, q0, q⟩
    · exact .inl (by rw [upd_ne e]; exact q)
    · exact .inr ⟨ks, o, q0, by rw [upd_ne e]; exact q⟩
  · by_cases e : b = a
    · subst e; exact ⟨u, upd_same⟩
    · obtain ⟨o, q⟩ := S.trk b h; exact ⟨o, by rw [upd_ne e]; exact q⟩
  · by_cases e : n = m
    · subst e
      rw [h2] at q2; cases q2
      have hl : n < μ.length := (List.getElem?_eq_some_iff.mp h1).1
      rw [List.getElem?_set_self hl] at q1
      cases q1
      exact ⟨nr, hc⟩
    · rw [List.getElem?_set_ne e] at q1
      have ne : b ≠ a := fun q => e (S.ne h2 q2 q.symm)
      obtain ⟨h3, h4⟩ := S.cell m d b q1 q2
      refine ⟨h3, ?_⟩
      cases d with
      | list xs => obtain ⟨vs, e1, e2, e3⟩ := h4; exact ⟨vs, by rw [upd_ne ne]; exact e1, e2, e3⟩
      | dict xs => obtain ⟨vs, e1, e2, e3⟩ := h4; exact ⟨vs, by rw [upd_ne ne]; exact e1, e2, e3⟩
      | obj c xs => obtain ⟨C, dx, vs, e0, e1, e3⟩ := h4; exact ⟨C, dx, vs, e0, by rw [upd_ne ne]; exact e1, e3⟩
  · by_cases e : b = a
    · subst e; exact absurd h (nf _ _)
    · rw [upd_ne e]; exact h
  · by_cases e : b = a
    · subst e; exact ⟨u, upd_same⟩
    · exact ⟨o, by rw [upd_ne e]; exact h⟩
end

/-! ### the lift -/
/-- what an exception is -/
def DenX (K : PySem.W.Frag) (mg : Str → Option Value) (R : Hp) (α : List Addr) (H : Hp) (cls : Value) (od : Option Addr) (x : Exc) : Prop :=
  ∃ C d gs, mg x.c = some (.ref C) ∧ cls = .ref C ∧ od = some d ∧ R d = some (.xd gs) ∧ DenF K mg R α gs x.fs
section
variable (K : PySem.W.Frag) (mg : Str → Option Value) (E : XK)
def After {ω τ : Type} (rel : Hp → List Addr → ω → τ → Prop) (α : List Addr) (R H : Hp) (r : Res τ) (Q : ω → Hp → Prop) : Prop := match r with
  | .ok d μ' => ∀ w α' R' H', SM K mg μ' α' R' H' → Adv α R H α' R' H' → rel R' α' w d → Q w H'
  | .ex x μ' => ∀ cls od α' R' H', SM K mg μ' α' R' H' → Adv α R H α' R' H' → DenX K mg R' α' H' cls od x → E cls od H'
  | .bad => False
def Lift {ω τ : Type} (rel : Hp → List Addr → ω → τ → Prop) (f : Env → Mu → Res τ) : L2.St → Hp → (ω → Hp → Prop) → Prop := fun σ H Q =>
  ∃ ρ μ α R, SM K mg μ α R H ∧ SS K mg ρ R α σ ∧ After K mg E rel α R H (f ρ μ) Q
end
section
variable {K : PySem.W.Frag} {mg : Str → Option Value} {E : XK} {R R' H H' : Hp} {α α' : List Addr} {μ μ' : Mu} {ω τ ω' τ' : Type} {rel : Hp → List Addr → ω → τ → Prop} {rel' : Hp → List Addr → ω' → τ' → Prop}
theorem After.bind {r : Res τ} {k : τ → Mu → Res τ'} {Q : ω' → Hp → Prop} {Q1 : ω → Hp → Prop} (h : After K mg E rel' α R H (r.bind k) Q)
    (go : ∀ d μ1 w α1 R1 H1, SM K mg μ1 α1 R1 H1 → Adv α R H α1 R1 H1 → rel R1 α1 w d → After K mg E rel' α1 R1 H1 (k d μ1) Q → Q1 w H1) : After K mg E rel α R H r Q1 := by
  cases r with
  | ok d μ1 =>
    intro w α1 R1 H1 S A q
    refine go d μ1 w α1 R1 H1 S A q ?_
    have h' : After K mg E rel' α R H (k d μ1) Q := h
    revert h'
    cases k d μ1 with
    | ok e μ2 => exact fun h' w2 α2 R2 H2 S2 A2 q2 => h' w2 α2 R2 H2 S2 (A.trans A2) q2
    | ex x μ2 => exact fun h' c o α2 R2 H2 S2 A2 q2 => h' c o α2 R2 H2 S2 (A.trans A2) q2
    | bad => exact fun h' => h'
  | ex x μ1 => exact h
  | bad => exact h
theorem After.imp {r : Res τ} {Q Q1 : ω → Hp → Prop} (h : After K mg E rel α R H r Q)
    (go : ∀ d μ1 w α1 R1 H1, r = .ok d μ1 → SM K mg μ1 α1 R1 H1 → Adv α R H α1 R1 H1 → rel R1 α1 w d → Q w H1 → Q1 w H1) : After K mg E rel α R H r Q1 := by
  cases r with
  | ok d μ1 => exact fun w α1 R1 H1 S A q => go d μ1 w α1 R1 H1 rfl S A q (h w α1 R1 H1 S A q)
  | ex x μ1 => exact h
  | bad => exact h
end
abbrev relD (K : PySem.W.Frag) (mg : Str → Option Value) : Hp → List Addr → V → D → Prop := fun R α v d => Den K mg R α v d
abbrev relL (K : PySem.W.Frag) (mg : Str → Option Value) : Hp → List Addr → List V → List D → Prop := fun R α v d => DenL K mg R α v d
abbrev relB : Hp → List Addr → Bool → Bool → Prop := fun _ _ a b => a = b
abbrev FE := Env → Mu → Res D
abbrev FT := Env → Mu → Res Bool
abbrev FA := Env → Mu → Res (List D)
def DE (X : Cx) (E : XK) (e : Expr) (f : FE) : Prop := PE X e (Lift X.K X.mg E (relD X.K X.mg) f)
def DT (X : Cx) (E : XK) (e : Expr) (f : FT) : Prop := PT X e (Lift X.K X.mg E relB f)
def DW (X : Cx) (E : XK) (e : Expr) (f : FT) : Prop := PW X e (Lift X.K X.mg E relB f)
def DA (X : Cx) (E : XK) (es : List Expr) (f : FA) : Prop := PA X es (Lift X.K X.mg E (relL X.K X.mg) f)
theorem wE {X : Cx} {e : Expr} {t t' : TE} (h : PE X e t) (k : ∀ σ H Q, t' σ H Q → t σ H Q) : PE X e t' := ⟨fun pins s σ H Q I q => h.run pins s σ H Q I (k σ H Q q)⟩
theorem wT {X : Cx} {e : Expr} {t t' : TT} (h : PT X e t) (k : ∀ σ H Q, t' σ H Q → t σ H Q) : PT X e t' := ⟨fun pins s σ H Q I q => h.run pins s σ H Q I (k σ H Q q)⟩
theorem wW {X : Cx} {e : Expr} {t t' : TT} (h : PW X e t) (k : ∀ σ H Q, t' σ H Q → t σ H Q) : PW X e t' := ⟨fun wh pins s σ H Q I q => h.run wh pins s σ H Q I (k σ H Q q)⟩
theorem wA {X : Cx} {e : List Expr} {t t' : TA} (h : PA X e t) (k : ∀ σ H Q, t' σ H Q → t σ H Q) : PA X e t' := ⟨fun pos pins s σ H Q I q => h.run pos pins s σ H Q I (k σ H Q q)⟩
theorem wS {X : Cx} {e : Stmt} {t t' : TS} (h : PS X e t) (k : ∀ D σ H, t' D σ H → t D σ H) : PS X e t' := ⟨fun pins s σ H D I q => h.run pins s σ H D I (k D σ H q)⟩
theorem wSs {X : Cx} {e : List Stmt} {t t' : TS} (h : PSs X e t) (k : ∀ D σ H, t' D σ H → t D σ H) : PSs X e t' := ⟨fun pins s σ H D I q => h.run pins s σ H D I (k D σ H q)⟩
end TL

set_option Elab.async false
set_option maxRecDepth 100000
set_option maxHeartbeats 1000000
set_option linter.all false
/-! The tree layer, part b: expressions. -/
namespace TL
open PySem PySem.Spec PyProof.Rows L2

def ofO {τ : Type} (o : Option τ) (μ : Mu) : Res τ := match o with
  | some d => .ok d μ
  | none => .bad
/-- a list, exactly (a tree, or a live cell) -/
def seqL (μ : Mu) : D → Option (List D)
  | .list xs => some xs
  | .loc n => match μ[n]? with
    | some (some (.list xs)) => some xs
    | _ => none
  | _ => none
/-- what may be walked or indexed: a list, a tuple, the script -/
def seqR (μ : Mu) : D → Option (List D)
  | .list xs => some xs
  | .tuple xs => some xs
  | .script ns => some (ns.map .int)
  | .loc n => match μ[n]? with
    | some (some (.list xs)) => some xs
    | _ => none
  | _ => none
def dctV (μ : Mu) : D → Option (List (Key × D))
  | .dict kvs => some kvs
  | .loc n => match μ[n]? with
    | some (some (.dict kvs)) => some kvs
    | _ => none
  | _ => none
def objV (μ : Mu) : D → Option (Str × List (Str × D))
  | .obj c fs => some (c, fs)
  | .loc n => match μ[n]? with
    | some (some (.obj c fs)) => some (c, fs)
    | _ => none
  | _ => none
section
variable {K : PySem.W.Frag} {mg : Str → Option Value} {E : XK} {R R' R2 H H' H2 : Hp} {α α' α2 : List Addr} {μ μ' : Mu} {ρ : Env} {σ : L2.St} {v : V} {d : D}
theorem After.ofO {ω τ : Type} {rel : Hp → List Addr → ω → τ → Prop} {o : Option τ} {Q : ω → Hp → Prop} (h : After K mg E rel α R H (TL.ofO o μ) Q) :
    ∃ d, o = some d ∧ ∀ w α' R' H', SM K mg μ α' R' H' → Adv α R H α' R' H' → rel R' α' w d → Q w H' := by
  cases o with
  | none => exact False.elim h
  | some d => exact ⟨d, rfl, h⟩
theorem DenL.ints : ∀ {ns : List Int}, DenL K mg R α (ns.map V.int) (ns.map D.int)
  | [] => .nil
  | n :: ns => .cons (.int n) DenL.ints
theorem SM.lst (S : SM K mg μ α R H) {a : Addr} {vs : List V} (h : R a = some (.lst vs)) : H a = some (.lst vs) := by
  rcases S.frz a _ h with q | ⟨ks, o, q, _⟩
  · exact q
  · cases q
theorem SM.sqT (S : SM K mg μ α R H) {a : Addr} {vs : List V} (h : SqT K R a vs) : SqT K H a vs := by
  rcases h with h | h
  · rcases h with h | ⟨o, h⟩
    · rcases S.frz a _ h with q | ⟨ks, o, q, _⟩
      · exact .inl (.inl q)
      · cases q
    · rcases S.frz a _ h with q | ⟨ks, o, q, _⟩
      · exact .inl (.inr ⟨_, q⟩)
      · cases q
  · exact .inr h
theorem SM.sqL (S : SM K mg μ α R H) {a : Addr} {vs : List V} (h : SqL K R a vs) : SqL K H a vs := by
  rcases h with h | h
  · rcases h with h | ⟨o, h⟩
    · rcases S.frz a _ h with q | ⟨ks, o, q, _⟩
      · exact .inl (.inl q)
      · cases q
    · rcases S.frz a _ h with q | ⟨ks, o, q, _⟩
      · exact .inl (.inr ⟨_, q⟩)
      · cases q
  · exact .inr h
theorem SM.dct (S : SM K mg μ α R H) {a : Addr} {ks : List (Key × V)} (h : R a = some (.dK ks)) : Rd H a (.dK ks) := by
  rcases S.frz a _ h with q | ⟨ks, o, _, q⟩
  · exact .inl q
  · exact .inr ⟨o, q⟩
theorem SM.ins (S : SM K mg μ α R H) {a C dx : Addr} {gs : List (Str × V)} (h : R a = some (.ins C dx gs)) : H a = some (.ins C dx gs) := by
  rcases S.frz a _ h with q | ⟨ks, o, q, _⟩
  · exact q
  · cases q
/-- a readable list: its place and its items -/
theorem SM.seqL (S : SM K mg μ α R H) {xs : List D} (h : Den K mg R α v d) (e : TL.seqL μ d = some xs) : ∃ a vs, v = .ref a ∧ H a = some (.lst vs) ∧ vs.length ≤ sizeLine ∧ DenL K mg R α vs xs := by
  cases h with
  | list h l dl => cases e; exact ⟨_, _, rfl, S.lst h, l, dl⟩
  | loc h =>
    rename_i a n
    simp only [TL.seqL] at e
    split at e
    · rename_i ys e2
      cases e
      obtain ⟨_, vs, h1, h2, h3⟩ := S.cell n _ a e2 h
      exact ⟨a, vs, rfl, h1, h2, h3⟩
    · cases e
  | _ => cases e
theorem SM.seqR (S : SM K mg μ α R H) {xs : List D} (h : Den K mg R α v d) (e : TL.seqR μ d = some xs) : ∃ a vs, v = .ref a ∧ (SqL K H a vs ∨ SqT K H a vs) ∧ DenL K mg R α vs xs := by
  cases h with
  | list h l dl => cases e; exact ⟨_, _, rfl, .inl (SqL.of (S.lst h)), dl⟩
  | tuple h l dl => cases e; exact ⟨_, _, rfl, .inr (S.sqT h), dl⟩
  | script h => cases e; exact ⟨_, _, rfl, .inl (S.sqL h), DenL.ints⟩
  | loc h =>
    rename_i a n
    simp only [TL.seqR] at e
    split at e
    · rename_i ys e2
      cases e
      obtain ⟨_, vs, h1, h2, h3⟩ := S.cell n _ a e2 h
      exact ⟨a, vs, rfl, .inl (SqL.of h1), h3⟩
    · cases e
  | _ => cases e
theorem SM.dctV (S : SM K mg μ α R H) {kvs : List (Key × D)} (h : Den K mg R α v d) (e : TL.dctV μ d = some kvs) : ∃ a ks, v = .ref a ∧ Rd H a (.dK ks) ∧ ks.length ≤ sizeLine ∧ DenK K mg R α ks kvs := by
  cases h with
  | dict h l dl => cases e; exact ⟨_, _, rfl, S.dct h, l, dl⟩
  | loc h =>
    rename_i a n
    simp only [TL.dctV] at e
    split at e
    · rename_i ys e2
      cases e
      obtain ⟨_, vs, h1, h2, h3⟩ := S.cell n _ a e2 h
      exact ⟨a, vs, rfl, .inl h1, h2, h3⟩
    · cases e
  | _ => cases e
theorem SM.objV (S : SM K mg μ α R H) {c : Str} {fs : List (Str × D)} (h : Den K mg R α v d) (e : TL.objV μ d = some (c, fs)) :
    ∃ a C dx gs, v = .ref a ∧ mg c = some (.ref C) ∧ H a = some (.ins C dx gs) ∧ DenF K mg R α gs fs := by
  cases h with
  | obj hc h dl => cases e; exact ⟨_, _, _, _, rfl, hc, S.ins h, dl⟩
  | loc h =>
    rename_i a n
    simp only [TL.objV] at e
    split at e
    · rename_i c' fs' e2
      cases e
      obtain ⟨_, C, dx, gs, h0, h1, h3⟩ := S.cell n _ a e2 h
      exact ⟨a, C, dx, gs, rfl, h0, h1, h3⟩
    · cases e
  | _ => cases e
end

/-! ### names and constants -/
def eVar (i : Nat) : FE := fun ρ μ => match ρ[i]? with
  | some (some d) => .ok d μ
  | _ => .bad
def eC (d : D) : FE := fun _ μ => .ok d μ
section
variable {X : Cx} {E : XK} {a b c e : Expr} {fa fb fc : FE} {pos : Pos}
theorem de_var {i : Nat} {x : Str} (hN : X.N[i]? = some x) (hv : Vis X.env.scope x) (hd : (x == ("__debug__" : Str)) = false := by decide) (hcd : (x == ("__classdict__" : Str)) = false := by decide) : DE X E (.Name x pos) (eVar i) :=
  wE (pe_var hN hv hd hcd) fun σ H Q ⟨ρ, μ, α, R, S, V, h⟩ => by
    unfold eVar at h
    split at h
    · rename_i d e
      obtain ⟨v, h1, h2⟩ := V.2 i d e
      exact ⟨v, h1, h v α R H S .refl h2⟩
    · exact False.elim h
theorem de_cst {v : V} {d : D} (h : PE X e (tC v)) (hd : ∀ R α, Den X.K X.mg R α v d) : DE X E e (eC d) :=
  wE h fun σ H Q ⟨ρ, μ, α, R, S, V, h⟩ => h v α R H S .refl (hd R α)
theorem de_int {i j} : DE X E (.Constant (.int i) j pos) (eC (.int i)) := de_cst pe_int fun _ _ => .int i
theorem de_bool {i j} : DE X E (.Constant (.bool i) j pos) (eC (.bool i)) := de_cst pe_bl fun _ _ => .bool i
theorem de_none {j} : DE X E (.Constant .none j pos) (eC .none) := de_cst pe_non fun _ _ => .none
theorem de_str {i j} : DE X E (.Constant (.str i) j pos) (eC (.str i)) := de_cst pe_str fun _ _ => .str i
theorem de_glob {x : Str} {v : V} {u : Value} {d : D} (hg : Gl X x) (hm : X.mg x = some u) (r : RelV v u) (hd : ∀ R α, Den X.K X.mg R α v d) (hdb : (x == ("__debug__" : Str)) = false := by decide) : DE X E (.Name x pos) (eC d) :=
  de_cst (pe_glob hg hm r hdb) hd
theorem de_fn {x : Str} {f : Addr} (hg : Gl X x) (hm : X.mg x = some (.ref f)) (hdb : (x == ("__debug__" : Str)) = false := by decide) : DE X E (.Name x pos) (eC (.fn x)) :=
  de_cst (v := .ref f) (pe_glob hg hm rfl hdb) fun _ _ => .fn hm

/-! ### two-place operations without an effect on the store -/
abbrev G2 := Mu → D → D → Option D
def Op2 (X : Cx) (f : Value → Value → Sem Value) (g : G2) : Prop := OpR X f fun x y H Q =>
  ∃ μ α R dx dy d, SM X.K X.mg μ α R H ∧ Den X.K X.mg R α x dx ∧ Den X.K X.mg R α y dy ∧ g μ dx dy = some d ∧
    ∀ w R' H', SM X.K X.mg μ α R' H' → Adv α R H α R' H' → Den X.K X.mg R' α w d → Q w H'
def eBin (g : G2) (fa fb : FE) : FE := fun ρ μ => (fa ρ μ).bind fun x μ1 => (fb ρ μ1).bind fun y μ2 => ofO (g μ2 x y) μ2
theorem de_bin {op : Operator} {g : G2} (ho : Op2 X (binaryOp op) g) (ha : DE X E a fa) (hb : DE X E b fb) : DE X E (.BinOp a op b pos) (eBin g fa fb) :=
  wE (pe_op ho ha hb) fun σ H Q ⟨ρ, μ, α, R, S, V, h⟩ => ⟨ρ, μ, α, R, S, V, h.bind fun x μ1 v α1 R1 H1 S1 A1 d1 h1 => ⟨ρ, μ1, α1, R1, S1, V.adv A1, h1.bind fun y μ2 u α2 R2 H2 S2 A2 d2 h2 => by
    obtain ⟨d, e1, e2⟩ := h2.ofO
    exact ⟨μ2, α2, R2, x, y, d, S2, d1.adv A2, d2, e1, fun w R' H' S' A' q => e2 w α2 R' H' S' A' q⟩⟩⟩
theorem de_cmp {op : CmpOp} {g : G2} (ho : Op2 X (compareOp op) g) (ha : DE X E a fa) (hb : DE X E b fb) (hm : behindInMarks op b = false) : DE X E (.Compare a [op] [b] pos) (eBin g fa fb) :=
  wE (pe_cmpR ho ha hb hm) fun σ H Q ⟨ρ, μ, α, R, S, V, h⟩ => ⟨ρ, μ, α, R, S, V, h.bind fun x μ1 v α1 R1 H1 S1 A1 d1 h1 => ⟨ρ, μ1, α1, R1, S1, V.adv A1, h1.bind fun y μ2 u α2 R2 H2 S2 A2 d2 h2 => by
    obtain ⟨d, e1, e2⟩ := h2.ofO
    exact ⟨μ2, α2, R2, x, y, d, S2, d1.adv A2, d2, e1, fun w R' H' S' A' q => e2 w α2 R' H' S' A' q⟩⟩⟩
/-- a value as a test -/
def boolOf (d : D) (μ : Mu) : Res Bool := match d with
  | .bool b => .ok b μ
  | _ => .bad
def eT (f : FE) : FT := fun ρ μ => (f ρ μ).bind boolOf
theorem after_bool {K : PySem.W.Frag} {mg : Str → Option Value} {α : List Addr} {R H : Hp} {μ : Mu} {v : V} {d : D} {Q : Bool → Hp → Prop} (S : SM K mg μ α R H) (q : Den K mg R α v d)
    (h : After K mg E relB α R H (boolOf d μ) Q) : ∃ c, v = .bl c ∧ Q c H := by
  cases q with
  | bool b => exact ⟨b, rfl, h b α R H S .refl rfl⟩
  | _ => exact False.elim h
theorem lift_bool {K : PySem.W.Frag} {mg : Str → Option Value} {f : FE} {σ : L2.St} {H : Hp} {Q : Bool → Hp → Prop} (h : Lift K mg E relB (eT f) σ H Q) : Lift K mg E (relD K mg) f σ H fun x H1 => ∃ c, x = .bl c ∧ Q c H1 := by
  obtain ⟨ρ, μ, α, R, S, V, h⟩ := h
  exact ⟨ρ, μ, α, R, S, V, After.bind (k := boolOf) h fun d μ1 v α1 R1 H1 S1 A1 d1 h1 => after_bool S1 d1 h1⟩
theorem dt_cmp {op : CmpOp} {g : G2} (ho : Op2 X (compareOp op) g) (ha : DE X E a fa) (hb : DE X E b fb) (hm : behindInMarks op b = false) : DT X E (.Compare a [op] [b] pos) (eT (eBin g fa fb)) :=
  wT (pt_cmpR ho ha hb hm) fun σ H Q h => by
    obtain ⟨ρ, μ, α, R, S, V, h⟩ := lift_bool h
    exact ⟨ρ, μ, α, R, S, V, h.bind fun x μ1 v α1 R1 H1 S1 A1 d1 h1 => ⟨ρ, μ1, α1, R1, S1, V.adv A1, h1.bind fun y μ2 u α2 R2 H2 S2 A2 d2 h2 => by
      obtain ⟨d, e1, e2⟩ := h2.ofO
      exact ⟨μ2, α2, R2, x, y, d, S2, d1.adv A2, d2, e1, fun w R' H' S' A' q => e2 w α2 R' H' S' A' q⟩⟩⟩
theorem dt_val {f : FE} (h : DE X E e f) (he : ∀ whole, isTrue e X.env whole = (do let v ← whole; standAt e.pos; holding [v] (truthy v)) := by intro _; rfl) : DT X E e (eT f) :=
  wT (pt_val h he) fun σ H Q h => lift_bool h
def eChain (g g' : G2) (fa fb fc : FE) : FE := fun ρ μ => (fa ρ μ).bind fun x μ1 => (fb ρ μ1).bind fun y μ2 => (ofO (g μ2 x y) μ2).bind fun z μ3 => match z with
  | .bool true => (fc ρ μ3).bind fun w μ4 => ofO (g' μ4 y w) μ4
  | .bool false => .ok (.bool false) μ3
  | _ => .bad
theorem chain_lift {g g' : G2} {K : PySem.W.Frag} {mg : Str → Option Value} {σ : L2.St} {H : Hp} {Q : VK} (h : Lift K mg E (relD K mg) (eChain g g' fa fb fc) σ H Q) :
    tChain (fun x y H Q => ∃ μ α R dx dy d, SM K mg μ α R H ∧ Den K mg R α x dx ∧ Den K mg R α y dy ∧ g μ dx dy = some d ∧ ∀ w R' H', SM K mg μ α R' H' → Adv α R H α R' H' → Den K mg R' α w d → Q w H')
      (fun x y H Q => ∃ μ α R dx dy d, SM K mg μ α R H ∧ Den K mg R α x dx ∧ Den K mg R α y dy ∧ g' μ dx dy = some d ∧ ∀ w R' H', SM K mg μ α R' H' → Adv α R H α R' H' → Den K mg R' α w d → Q w H')
      (Lift K mg E (relD K mg) fa) (Lift K mg E (relD K mg) fb) (Lift K mg E (relD K mg) fc) σ H Q := by
  obtain ⟨ρ, μ, α, R, S, V, h⟩ := h
  refine ⟨ρ, μ, α, R, S, V, h.bind fun x μ1 v α1 R1 H1 S1 A1 d1 h1 => ⟨ρ, μ1, α1, R1, S1, V.adv A1, h1.bind fun y μ2 u α2 R2 H2 S2 A2 d2 h2 => ?_⟩⟩
  cases e : g μ2 x y with
  | none => rw [e] at h2; exact False.elim h2
  | some d =>
    rw [e] at h2
    refine ⟨μ2, α2, R2, x, y, d, S2, d1.adv A2, d2, e, fun w R' H' S' A' q => ?_⟩
    cases q with
    | bool b =>
      refine ⟨b, rfl, ?_⟩
      cases b with
      | true =>
        refine ⟨ρ, μ2, α2, R', S', ((V.adv A1).adv A2).adv A', ?_⟩
        have h3 : After K mg E (relD K mg) α2 R2 H2 ((fc ρ μ2).bind fun w μ4 => ofO (g' μ4 y w) μ4) Q := h2
        have h4 : After K mg E (relD K mg) α2 R' H' ((fc ρ μ2).bind fun w μ4 => ofO (g' μ4 y w) μ4) Q := by
          revert h3
          cases (fc ρ μ2).bind fun w μ4 => ofO (g' μ4 y w) μ4 with
          | ok d μ => exact fun h w α' R3 H3 S3 A3 q => h w α' R3 H3 S3 (A'.trans A3) q
          | ex d μ => exact fun h w o α' R3 H3 S3 A3 q => h w o α' R3 H3 S3 (A'.trans A3) q
          | bad => exact fun h => h
        exact h4.bind fun w μ4 z α4 R4 H4 S4 A4 d4 h5 => by
          obtain ⟨d', e1, e2⟩ := h5.ofO
          exact ⟨μ4, α4, R4, y, w, d', S4, (d2.adv A').adv A4, d4, e1, fun w R' H' S' A' q => e2 w α4 R' H' S' A' q⟩
      | false => exact h2 _ α2 R' H' S' A' (.bool false)
    | _ => exact False.elim h2
theorem de_chain {op op' : CmpOp} {g g' : G2} (ho : Op2 X (compareOp op) g) (ho' : Op2 X (compareOp op') g') (ha : DE X E a fa) (hb : DE X E b fb) (hc : DE X E c fc)
    (hm : lastMarks [op, op'] [b, c] = false := by with_unfolding_all rfl) : DE X E (.Compare a [op, op'] [b, c] pos) (eChain g g' fa fb fc) :=
  wE (pe_chain ho ho' ha hb hc hm) fun σ H Q h => chain_lift h
theorem dt_chain {op op' : CmpOp} {g g' : G2} (ho : Op2 X (compareOp op) g) (ho' : Op2 X (compareOp op') g') (ha : DE X E a fa) (hb : DE X E b fb) (hc : DE X E c fc)
    (hm : lastMarks [op, op'] [b, c] = false := by with_unfolding_all rfl) : DT X E (.Compare a [op, op'] [b, c] pos) (eT (eChain g g' fa fb fc)) :=
  wT (pt_chain ho ho' ha hb hc hm) fun σ H Q h => chain_lift (lift_bool h)
/-! ### and, or, not, if else -/
variable {ta tb : FT} {rest : List Expr}
def tAnd (f g : FT) : FT := fun ρ μ => (f ρ μ).bind fun b μ1 => if b = true then g ρ μ1 else .ok false μ1
def tOr (f g : FT) : FT := fun ρ μ => (f ρ μ).bind fun b μ1 => if b = true then .ok true μ1 else g ρ μ1
def tNot (f : FT) : FT := fun ρ μ => (f ρ μ).bind fun b μ1 => .ok (!b) μ1
theorem dw_and1 (ha : DT X E a ta) : DW X E (.BoolOp .And [a] pos) ta := pw_and1 ha
theorem dw_or1 (ha : DT X E a ta) : DW X E (.BoolOp .Or [a] pos) ta := pw_or1 ha
theorem dw_and (ha : DT X E a ta) (hb : DW X E (.BoolOp .And (b :: rest) pos) tb) : DW X E (.BoolOp .And (a :: b :: rest) pos) (tAnd ta tb) :=
  wW (pw_and ha hb) fun σ H Q ⟨ρ, μ, α, R, S, V, h⟩ => ⟨ρ, μ, α, R, S, V, h.bind fun x μ1 v α1 R1 H1 S1 A1 d1 h1 => by
    cases d1
    cases x with
    | true => exact ⟨ρ, μ1, α1, R1, S1, V.adv A1, h1⟩
    | false => exact h1 false α1 R1 H1 S1 .refl rfl⟩
theorem dw_or (ha : DT X E a ta) (hb : DW X E (.BoolOp .Or (b :: rest) pos) tb) : DW X E (.BoolOp .Or (a :: b :: rest) pos) (tOr ta tb) :=
  wW (pw_or ha hb) fun σ H Q ⟨ρ, μ, α, R, S, V, h⟩ => ⟨ρ, μ, α, R, S, V, h.bind fun x μ1 v α1 R1 H1 S1 A1 d1 h1 => by
    cases d1
    cases x with
    | true => exact h1 true α1 R1 H1 S1 .refl rfl
    | false => exact ⟨ρ, μ1, α1, R1, S1, V.adv A1, h1⟩⟩
theorem dt_w (h : DW X E e ta) : DT X E e ta := h.pt
theorem dt_not (ha : DT X E a ta) : DT X E (.UnaryOp .Not a pos) (tNot ta) :=
  wT (pt_not ha) fun σ H Q ⟨ρ, μ, α, R, S, V, h⟩ => ⟨ρ, μ, α, R, S, V, h.bind fun x μ1 v α1 R1 H1 S1 A1 d1 h1 => by
    cases d1
    exact h1 _ α1 R1 H1 S1 .refl rfl⟩
def eAnd (f g : FE) : FE := fun ρ μ => (f ρ μ).bind fun d μ1 => match d with
  | .bool b => if b = true then g ρ μ1 else .ok (.bool false) μ1
  | _ => .bad
def eOr (f g : FE) : FE := fun ρ μ => (f ρ μ).bind fun d μ1 => match d with
  | .bool b => if b = true then .ok (.bool true) μ1 else g ρ μ1
  | _ => .bad
def eNot (f : FE) : FE := fun ρ μ => (f ρ μ).bind fun d μ1 => match d with
  | .bool b => .ok (.bool (!b)) μ1
  | _ => .bad
theorem de_one {op} (h : DE X E a fa) : DE X E (.BoolOp op [a] pos) fa := pe_one h
theorem de_and (ha : DE X E a fa) (hb : DE X E (.BoolOp .And (b :: rest) pos) fb) : DE X E (.BoolOp .And (a :: b :: rest) pos) (eAnd fa fb) :=
  wE (pe_and ha hb) fun σ H Q ⟨ρ, μ, α, R, S, V, h⟩ => ⟨ρ, μ, α, R, S, V, h.bind fun x μ1 v α1 R1 H1 S1 A1 d1 h1 => by
    cases d1 with
    | bool c =>
      refine ⟨c, rfl, ?_⟩
      cases c with
      | true => exact ⟨ρ, μ1, α1, R1, S1, V.adv A1, h1⟩
      | false => exact h1 _ α1 R1 H1 S1 .refl (.bool false)
    | _ => exact False.elim h1⟩
theorem de_or (ha : DE X E a fa) (hb : DE X E (.BoolOp .Or (b :: rest) pos) fb) : DE X E (.BoolOp .Or (a :: b :: rest) pos) (eOr fa fb) :=
  wE (pe_or ha hb) fun σ H Q ⟨ρ, μ, α, R, S, V, h⟩ => ⟨ρ, μ, α, R, S, V, h.bind fun x μ1 v α1 R1 H1 S1 A1 d1 h1 => by
    cases d1 with
    | bool c =>
      refine ⟨c, rfl, ?_⟩
      cases c with
      | true => exact h1 _ α1 R1 H1 S1 .refl (.bool true)
      | false => exact ⟨ρ, μ1, α1, R1, S1, V.adv A1, h1⟩
    | _ => exact False.elim h1⟩
theorem de_not (ha : DE X E a fa) : DE X E (.UnaryOp .Not a pos) (eNot fa) :=
  wE (pe_not ha) fun σ H Q ⟨ρ, μ, α, R, S, V, h⟩ => ⟨ρ, μ, α, R, S, V, h.bind fun x μ1 v α1 R1 H1 S1 A1 d1 h1 => by
    cases d1 with
    | bool c => exact ⟨c, rfl, h1 _ α1 R1 H1 S1 .refl (.bool _)⟩
    | _ => exact False.elim h1⟩
def eIf (t : FT) (f g : FE) : FE := fun ρ μ => (t ρ μ).bind fun b μ1 => if b = true then f ρ μ1 else g ρ μ1
theorem de_if (hc : DT X E c ta) (ha : DE X E a fa) (hb : DE X E b fb) : DE X E (.IfExp c a b pos) (eIf ta fa fb) :=
  wE (pe_ifExp hc ha hb) fun σ H Q ⟨ρ, μ, α, R, S, V, h⟩ => ⟨ρ, μ, α, R, S, V, h.bind fun x μ1 v α1 R1 H1 S1 A1 d1 h1 => by
    cases d1
    cases x with
    | true => exact ⟨ρ, μ1, α1, R1, S1, V.adv A1, h1⟩
    | false => exact ⟨ρ, μ1, α1, R1, S1, V.adv A1, h1⟩⟩
/-! ### one-place operations, calls of built-ins -/
abbrev G1 := Mu → D → Option D
def Op1 (X : Cx) (f : Value → Sem Value) (g : G1) : Prop := UnR X f fun x H Q =>
  ∃ μ α R dx d, SM X.K X.mg μ α R H ∧ Den X.K X.mg R α x dx ∧ g μ dx = some d ∧ ∀ w R' H', SM X.K X.mg μ α R' H' → Adv α R H α R' H' → Den X.K X.mg R' α w d → Q w H'
def eUn (g : G1) (fa : FE) : FE := fun ρ μ => (fa ρ μ).bind fun x μ1 => ofO (g μ1 x) μ1
theorem de_un {op : UnaryOp} {g : G1} (ho : Op1 X (unaryOp op) g) (ha : DE X E a fa) : DE X E (.UnaryOp op a pos) (eUn g fa) :=
  wE (pe_un ho ha) fun σ H Q ⟨ρ, μ, α, R, S, V, h⟩ => ⟨ρ, μ, α, R, S, V, h.bind fun x μ1 v α1 R1 H1 S1 A1 d1 h1 => by
    obtain ⟨d, e1, e2⟩ := h1.ofO
    exact ⟨μ1, α1, R1, x, d, S1, d1, e1, fun w R' H' S' A' q => e2 w α1 R' H' S' A' q⟩⟩
/-! ### arguments -/
def aNil : FA := fun _ μ => .ok [] μ
def aCons (f : FE) (g : FA) : FA := fun ρ μ => (f ρ μ).bind fun d μ1 => (g ρ μ1).bind fun ds μ2 => .ok (d :: ds) μ2
variable {es : List Expr} {t : FA}
theorem da_nil : DA X E [] aNil := wA pa_nil fun σ H Q ⟨ρ, μ, α, R, S, V, h⟩ => h [] α R H S .refl .nil
theorem da_cons (ha : DE X E e fa) (hr : DA X E es t) (hs : starEach (e :: es) X.env = (false, eval e X.env) :: starEach es X.env := by rfl) : DA X E (e :: es) (aCons fa t) :=
  wA (pa_cons ha hr hs) fun σ H Q ⟨ρ, μ, α, R, S, V, h⟩ => ⟨ρ, μ, α, R, S, V, h.bind fun x μ1 v α1 R1 H1 S1 A1 d1 h1 => ⟨ρ, μ1, α1, R1, S1, V.adv A1, h1.bind fun xs μ2 vs α2 R2 H2 S2 A2 d2 h2 =>
    h2 _ α2 R2 H2 S2 .refl (.cons (d1.adv A2) d2)⟩⟩
def eTup (t : FA) : FE := fun ρ μ => (t ρ μ).bind fun ds μ1 => if ds.length ≤ sizeLine then .ok (.tuple ds) μ1 else .bad
theorem de_tup {x1} (ht : DA X E es t) : DE X E (.Tuple es x1 pos) (eTup t) :=
  wE (pe_tup ht) fun σ H Q ⟨ρ, μ, α, R, S, V, h⟩ => ⟨ρ, μ, α, R, S, V, h.bind fun ds μ1 vs α1 R1 H1 S1 A1 d1 h1 => by
    by_cases hl : ds.length ≤ sizeLine
    · rw [if_pos hl] at h1
      refine ⟨by rw [d1.len]; exact hl, fun p hp => ?_⟩
      obtain ⟨S2, A2⟩ := S1.lay (u := .tup vs) hp
      exact h1 _ α1 _ _ S2 A2 (.tuple (.inl (.inl upd_same)) (by rw [d1.len]; exact hl) (d1.adv A2))
    · rw [if_neg hl] at h1; exact False.elim h1⟩
/-! ### new objects: frozen at once, or a cell -/
/-- a new object's content: DN e f: e makes a new object that nobody else knows, f gives what stands there -/
abbrev FN := Env → Mu → Res Cell
def relN (K : PySem.W.Frag) (mg : Str → Option Value) (R : Hp) (α : List Addr) (v : V × HO) (c : Cell) : Prop := match c with
  | .list xs => ∃ vs, v.2 = .lst vs ∧ vs.length ≤ sizeLine ∧ DenL K mg R α vs xs
  | .dict kvs => ∃ ks, v.2 = .dK ks ∧ ks.length ≤ sizeLine ∧ DenK K mg R α ks kvs
  | .obj c fs => ∃ C dx gs, mg c = some (.ref C) ∧ v.2 = .ins C dx gs ∧ DenF K mg R α gs fs
def tNew (K : PySem.W.Frag) (mg : Str → Option Value) (E : XK) (f : FN) : TE := fun σ H Q =>
  ∃ ρ μ α R, SM K mg μ α R H ∧ SS K mg ρ R α σ ∧ After K mg E (relN K mg) α R H (f ρ μ) fun x H1 => ∀ p, H1 p = none → Q (.ref p) (upd H1 p x.2)
def DN (X : Cx) (E : XK) (e : Expr) (f : FN) : Prop := PE X e (tNew X.K X.mg E f)
def cellD : Cell → D
  | .list xs => .list xs
  | .dict kvs => .dict kvs
  | .obj c fs => .obj c fs
def eFz (f : FN) : FE := fun ρ μ => (f ρ μ).bind fun c μ1 => .ok (cellD c) μ1
def eNew (f : FN) : FE := fun ρ μ => (f ρ μ).bind fun c μ1 => .ok (.loc μ1.length) (μ1 ++ [some c])
theorem de_fz {f : FN} (h : DN X E e f) : DE X E e (eFz f) :=
  wE h fun σ H Q ⟨ρ, μ, α, R, S, V, h⟩ => ⟨ρ, μ, α, R, S, V, h.bind fun c μ1 v α1 R1 H1 S1 A1 d1 h1 => fun p hp => by
    obtain ⟨S2, A2⟩ := S1.lay (u := v.2) hp
    refine h1 _ α1 _ _ S2 A2 ?_
    cases c with
    | list xs => obtain ⟨vs, e1, e2, e3⟩ := d1; exact .list (by rw [upd_same, e1]) e2 (e3.adv A2)
    | dict xs => obtain ⟨vs, e1, e2, e3⟩ := d1; exact .dict (by rw [upd_same, e1]) e2 (e3.up A2.r A2.a)
    | obj c xs => obtain ⟨C, dx, vs, e0, e1, e3⟩ := d1; exact .obj e0 (by rw [upd_same, e1]) (e3.up A2.r A2.a)⟩
theorem de_new {f : FN} (h : DN X E e f) : DE X E e (eNew f) :=
  wE h fun σ H Q ⟨ρ, μ, α, R, S, V, h⟩ => ⟨ρ, μ, α, R, S, V, h.bind fun c μ1 v α1 R1 H1 S1 A1 d1 h1 => fun p hp => by
    have hc : CellOk X.K X.mg R1 α1 (upd H1 p v.2) p c := by
      cases c with
      | list xs => obtain ⟨vs, e1, e2, e3⟩ := d1; exact ⟨vs, by rw [upd_same, e1], e2, e3⟩
      | dict xs => obtain ⟨vs, e1, e2, e3⟩ := d1; exact ⟨vs, by rw [upd_same, e1], e2, e3⟩
      | obj c xs => obtain ⟨C, dx, vs, e0, e1, e3⟩ := d1; exact ⟨C, dx, vs, e0, by rw [upd_same, e1], e3⟩
    obtain ⟨S2, A2, hl⟩ := S1.cellNew hp hc
    exact h1 _ _ _ _ S2 A2 (.loc hl)⟩
def nLst (t : FA) : FN := fun ρ μ => (t ρ μ).bind fun ds μ1 => if ds.length ≤ sizeLine then .ok (.list ds) μ1 else .bad
theorem dn_lst (ht : DA X E es t) : DN X E (.List es pos) (nLst t) :=
  wE (pe_lst ht) fun σ H Q ⟨ρ, μ, α, R, S, V, h⟩ => ⟨ρ, μ, α, R, S, V, h.bind fun ds μ1 vs α1 R1 H1 S1 A1 d1 h1 => by
    by_cases hl : ds.length ≤ sizeLine
    · rw [if_pos hl] at h1
      refine ⟨by rw [d1.len]; exact hl, fun p hp => ?_⟩
      exact h1 (L2.V.non, .lst vs) α1 R1 H1 S1 .refl ⟨vs, rfl, by rw [d1.len]; exact hl, d1⟩ p hp
    · rw [if_neg hl] at h1; exact False.elim h1⟩
end
end TL

set_option Elab.async false
set_option maxRecDepth 100000
set_option maxHeartbeats 1000000
set_option linter.all false
/-! The tree layer, part c: the operations. -/
namespace TL
open PySem PySem.Spec PyProof.Rows L2

/-! ### data: what == and in are told of -/
mutual
def toPy : D → PyData
  | .none => .none
  | .bool b => .bool b
  | .int i => .int i
  | .str s => .str s
  | .list xs => .list (toPys xs)
  | .tuple xs => .tuple (toPys xs)
  | .dict _ => .none
  | .obj _ _ => .none
  | .loc _ => .none
  | .fn _ => .none
  | .script _ => .none
  | .ty _ => .none
  | .exc _ _ => .none
def toPys : List D → List PyData
  | [] => []
  | x :: xs => toPy x :: toPys xs
end
mutual
/-- None, bools, ints, texts, lists and tuples of these, at most n deep -/
def isData : Nat → D → Bool
  | _, .none => true
  | _, .bool _ => true
  | _, .int _ => true
  | _, .str _ => true
  | n + 1, .list xs => areData n xs
  | n + 1, .tuple xs => areData n xs
  | _, _ => false
def areData : Nat → List D → Bool
  | _, [] => true
  | n, x :: xs => isData n x && areData n xs
end
mutual
def deq : D → D → Bool
  | .none, .none => true
  | .bool a, .bool b => a == b
  | .bool a, .int j => (if a then 1 else 0) == j
  | .int i, .bool b => i == (if b then 1 else 0)
  | .int i, .int j => i == j
  | .str x, .str y => x == y
  | .list xs, .list ys => deqs xs ys
  | .tuple xs, .tuple ys => deqs xs ys
  | _, _ => false
def deqs : List D → List D → Bool
  | [], [] => true
  | x :: xs, y :: ys => deq x y && deqs xs ys
  | _, _ => false
end
mutual
theorem plain_of : ∀ (n : Nat) (d : D), isData n d = true → (toPy d).plain = true ∧ (toPy d).depth ≤ n
  | n, .none, _ => ⟨by simp [toPy, PyData.plain], by simp [toPy, PyData.depth]⟩
  | n, .bool _, _ => ⟨by simp [toPy, PyData.plain], by simp [toPy, PyData.depth]⟩
  | n, .int _, _ => ⟨by simp [toPy, PyData.plain], by simp [toPy, PyData.depth]⟩
  | n, .str _, _ => ⟨by simp [toPy, PyData.plain], by simp [toPy, PyData.depth]⟩
  | n + 1, .list xs, h => by
    have q := plains_of n xs (by simpa [isData] using h)
    exact ⟨by simpa [toPy, PyData.plain] using q.1, by simpa [toPy, PyData.depth] using q.2⟩
  | n + 1, .tuple xs, h => by
    have q := plains_of n xs (by simpa [isData] using h)
    exact ⟨by simpa [toPy, PyData.plain] using q.1, by simpa [toPy, PyData.depth] using q.2⟩
  | 0, .list _, h => by simp [isData] at h
  | 0, .tuple _, h => by simp [isData] at h
  | n, .dict _, h => by simp [isData] at h
  | n, .obj _ _, h => by simp [isData] at h
  | n, .loc _, h => by simp [isData] at h
  | n, .fn _, h => by simp [isData] at h
  | n, .script _, h => by simp [isData] at h
  | n, .ty _, h => by simp [isData] at h
  | n, .exc _ _, h => by simp [isData] at h
theorem plains_of : ∀ (n : Nat) (d : List D), areData n d = true → PyData.plainAll (toPys d) = true ∧ PyData.depthAll (toPys d) ≤ n
  | n, [], _ => ⟨by simp [toPys, PyData.plainAll], by simp [toPys, PyData.depthAll]⟩
  | n, x :: xs, h => by
    simp only [areData, Bool.and_eq_true] at h
    have h1 := plain_of n x h.1
    have h2 := plains_of n xs h.2
    exact ⟨by simp [toPys, PyData.plainAll, h1.1, h2.1], by simp only [toPys, PyData.depthAll]; exact Nat.max_le.mpr ⟨h1.2, h2.2⟩⟩
end
mutual
theorem deq_is : ∀ (n m : Nat) (a b : D), isData n a = true → isData m b = true → PyData.eqv (toPy a) (toPy b) = deq a b
  | n, m, .none, b, _, hb => by cases b <;> simp [isData] at hb <;> simp [toPy, PyData.eqv, deq]
  | n, m, .bool _, b, _, hb => by cases b <;> simp [isData] at hb <;> simp [toPy, PyData.eqv, deq]
  | n, m, .int _, b, _, hb => by cases b <;> simp [isData] at hb <;> simp [toPy, PyData.eqv, deq]
  | n, m, .str _, b, _, hb => by cases b <;> simp [isData] at hb <;> simp [toPy, PyData.eqv, deq]
  | n + 1, m, .list xs, b, ha, hb => by
    cases b with
    | list ys =>
      cases m with
      | zero => simp [isData] at hb
      | succ m =>
        simp only [toPy, PyData.eqv, deq]
        exact deqs_is n m xs ys (by simpa [isData] using ha) (by simpa [isData] using hb)
    | _ => first | (simp [isData] at hb; done) | (simp [toPy, PyData.eqv, deq])
  | n + 1, m, .tuple xs, b, ha, hb => by
    cases b with
    | tuple ys =>
      cases m with
      | zero => simp [isData] at hb
      | succ m =>
        simp only [toPy, PyData.eqv, deq]
        exact deqs_is n m xs ys (by simpa [isData] using ha) (by simpa [isData] using hb)
    | _ => first | (simp [isData] at hb; done) | (simp [toPy, PyData.eqv, deq])
  | 0, _, .list _, _, h, _ => by simp [isData] at h
  | 0, _, .tuple _, _, h, _ => by simp [isData] at h
  | n, _, .dict _, _, h, _ => by simp [isData] at h
  | n, _, .obj _ _, _, h, _ => by simp [isData] at h
  | n, _, .loc _, _, h, _ => by simp [isData] at h
  | n, _, .fn _, _, h, _ => by simp [isData] at h
  | n, _, .script _, _, h, _ => by simp [isData] at h
  | n, _, .ty _, _, h, _ => by simp [isData] at h
  | n, _, .exc _ _, _, h, _ => by simp [isData] at h
theorem deqs_is : ∀ (n m : Nat) (a b : List D), areData n a = true → areData m b = true → PyData.eqvAll (toPys a) (toPys b) = deqs a b
  | n, m, [], [], _, _ => by simp [toPys, PyData.eqvAll, deqs]
  | n, m, [], _ :: _, _, _ => by simp [toPys, PyData.eqvAll, deqs]
  | n, m, _ :: _, [], _, _ => by simp [toPys, PyData.eqvAll, deqs]
  | n, m, x :: xs, y :: ys, ha, hb => by
    simp only [areData, Bool.and_eq_true] at ha hb
    simp only [toPys, PyData.eqvAll, deqs, deq_is n m x y ha.1 hb.1, deqs_is n m xs ys ha.2 hb.2]
end
/-- a live list cell as the list that it is now -/
def resD (μ : Mu) : D → D
  | .loc n => match μ[n]? with
    | some (some (.list xs)) => .list xs
    | _ => .loc n
  | d => d
section
variable {K : PySem.W.Frag} {mg : Str → Option Value} {R H : Hp} {α : List Addr} {μ : Mu}
mutual
theorem dp_of (S : SM K mg μ α R H) : ∀ (n : Nat) (d : D) (v : V), isData n d = true → Den K mg R α v d → Dp K H v (toPy d)
  | n, .none, _, _, .none => by simpa [toPy] using Dp.non
  | n, .bool b, _, _, .bool _ => by simpa [toPy] using Dp.bl b
  | n, .int b, _, _, .int _ => by simpa [toPy] using Dp.int b
  | n, .str b, _, _, .str _ => by simpa [toPy] using Dp.str b
  | n + 1, .list xs, _, h, .list e _ q => by
    simpa [toPy] using Dp.lst (SqL.of (S.lst e)) (dps_of S n xs _ (by simpa [isData] using h) q)
  | n + 1, .tuple xs, _, h, .tuple e _ q => by
    simpa [toPy] using Dp.tup (S.sqT e) (dps_of S n xs _ (by simpa [isData] using h) q)
  | 0, .list _, _, h, _ => by simp [isData] at h
  | 0, .tuple _, _, h, _ => by simp [isData] at h
  | n, .dict _, _, h, _ => by simp [isData] at h
  | n, .obj _ _, _, h, _ => by simp [isData] at h
  | n, .loc _, _, h, _ => by simp [isData] at h
  | n, .fn _, _, h, _ => by simp [isData] at h
  | n, .script _, _, h, _ => by simp [isData] at h
  | n, .ty _, _, h, _ => by simp [isData] at h
  | n, .exc _ _, _, h, _ => by simp [isData] at h
theorem dps_of (S : SM K mg μ α R H) : ∀ (n : Nat) (d : List D) (v : List V), areData n d = true → DenL K mg R α v d → DpAll K H v (toPys d)
  | n, [], _, _, .nil => by simpa [toPys] using DpAll.nil
  | n, x :: xs, _, h, .cons q t => by
    simp only [areData, Bool.and_eq_true] at h
    simpa [toPys] using DpAll.cons (dp_of S n x _ h.1 q) (dps_of S n xs _ h.2 t)
end
theorem dp_res (S : SM K mg μ α R H) {n : Nat} {d : D} {v : V} (h : isData n (resD μ d) = true) (q : Den K mg R α v d) : Dp K H v (toPy (resD μ d)) := by
  cases q with
  | loc e =>
    rename_i a k
    simp only [resD] at h ⊢
    split at h
    · rename_i xs e2
      obtain ⟨_, vs, h1, h2, h3⟩ := S.cell k _ a e2 e
      cases n with
      | zero => simp [isData] at h
      | succ n => simpa [toPy] using Dp.lst (SqL.of h1) (dps_of S n xs _ (by simpa [isData] using h) h3)
    · simp [isData] at h
  | none => exact dp_of S n _ _ h .none
  | bool b => exact dp_of S n _ _ h (.bool b)
  | int b => exact dp_of S n _ _ h (.int b)
  | str b => exact dp_of S n _ _ h (.str b)
  | list e l t => exact dp_of S n _ _ h (.list e l t)
  | tuple e l t => exact dp_of S n _ _ h (.tuple e l t)
  | dict e l t => simp [resD, isData] at h
  | obj e l t => simp [resD, isData] at h
  | fn e => simp [resD, isData] at h
  | script e => simp [resD, isData] at h
  | ty e => simp [resD, isData] at h
  | exc e l t d => simp [resD, isData] at h
end

/-! ### operators -/
def chk {τ : Type} (b : Bool) (x : τ) : Option τ := if b = true then some x else none
theorem chk_some {τ : Type} {b : Bool} {x y : τ} (h : chk b x = some y) : b = true ∧ x = y := by
  unfold chk at h
  split at h
  · rename_i e; exact ⟨e, Option.some.inj h⟩
  · cases h
def gAdd : G2 := fun μ x y => match x, y with
  | .int i, .int j => some (.int (i + j))
  | .str s, .str t => chk (decide (s.length + t.length ≤ sizeLine)) (.str (s ++ t))
  | .tuple xs, .tuple ys => chk (decide (xs.length + ys.length ≤ sizeLine)) (.tuple (xs ++ ys))
  | x, y => match seqL μ x, seqL μ y with
    | some xs, some ys => chk (decide (xs.length + ys.length ≤ sizeLine)) (.list (xs ++ ys))
    | _, _ => none
def gSub : G2 := fun _ x y => match x, y with
  | .int i, .int j => some (.int (i - j))
  | _, _ => none
def mulOk (i j : Int) : Bool := (decide (-(2 ^ 64) < i) && decide (i < 2 ^ 64)) || (decide (-(2 ^ 64) < j) && decide (j < 2 ^ 64))
/-- a text, n times -/
def strRep (z : Str) (n : Nat) : Str := ⟨(List.replicate n z.cps.toList).flatten.toArray⟩
def gMul : G2 := fun μ x y => match x, y with
  | .int i, .int j => chk (mulOk i j) (.int (i * j))
  | .str z, .int n => chk (decide (0 ≤ n) && decide (n ≤ 1000) && decide (z.length ≤ 1000)) (.str (strRep z n.toNat))
  | x, .int k => match seqL μ x with
    | some xs => chk (decide (-(2 ^ 63) ≤ k) && decide (k < 2 ^ 63) && decide (xs.length * k.toNat ≤ sizeLine)) (.list (List.replicate k.toNat xs).flatten)
    | none => none
  | _, _ => none
def gDiv : G2 := fun _ x y => match x, y with
  | .int i, .int j => chk (decide (0 < j) && decide (j < 1073741824)) (.int (i / j))
  | _, _ => none
def gMod : G2 := fun _ x y => match x, y with
  | .int i, .int j => chk (decide (0 < j)) (.int (i % j))
  | _, _ => none
def gPow : G2 := fun _ x y => match x, y with
  | .int i, .int j => chk (decide (0 ≤ j) && decide (j ≤ 1000000) && decide (i.natAbs < 2 ^ 64)) (.int (i ^ j.toNat))
  | _, _ => none
def gNeg : G1 := fun _ x => match x with
  | .int i => some (.int (-i))
  | _ => none
def gLt : G2 := fun _ x y => match x, y with
  | .int i, .int j => some (.bool (decide (i < j)))
  | _, _ => none
def gLe : G2 := fun _ x y => match x, y with
  | .int i, .int j => some (.bool (decide (i ≤ j)))
  | _, _ => none
def gGt : G2 := fun _ x y => match x, y with
  | .int i, .int j => some (.bool (decide (j < i)))
  | _, _ => none
def gGe : G2 := fun _ x y => match x, y with
  | .int i, .int j => some (.bool (decide (j ≤ i)))
  | _, _ => none
def gEq : G2 := fun μ x y => chk (isData 60 (resD μ x) && isData 60 (resD μ y)) (.bool (deq (resD μ x) (resD μ y)))
def gNe : G2 := fun μ x y => chk (isData 60 (resD μ x) && isData 60 (resD μ y)) (.bool (!deq (resD μ x) (resD μ y)))
def isNone : D → Bool
  | .none => true
  | _ => false
def gIs : G2 := fun _ x y => match y with
  | .none => some (.bool (isNone x))
  | .bool b => (match x with | .bool a => some (.bool (decide (a = b))) | _ => none)
  | _ => none
def gIsNot : G2 := fun _ x y => match y with
  | .none => some (.bool (!isNone x))
  | .bool b => (match x with | .bool a => some (.bool (!decide (a = b))) | _ => none)
  | _ => none
def keyOf : D → Option Key
  | .int i => some (.inl i)
  | .str s => some (.inr s)
  | _ => none
def getK (kvs : List (Key × D)) (k : Key) : Option D := (kvs.find? fun kv => decide (kv.1 = k)).map (·.2)
def inD (μ : Mu) (x y : D) : Option Bool := match y with
  | .str t => (match x with | .str s => (match s.cps.toList with | [c] => some (decide (c ∈ t.cps.toList)) | _ => none) | _ => none)
  | y => match dctV μ y with
    | some kvs => (keyOf x).map fun k => (getK kvs k).isSome
    | none => match seqR μ y with
      | some ys => chk (isData 60 (resD μ x) && areData 59 ys) (ys.any fun z => deq z (resD μ x))
      | none => none
def gIn : G2 := fun μ x y => (inD μ x y).map .bool
def gNotIn : G2 := fun μ x y => (inD μ x y).map fun b => .bool (!b)
section
variable {X : Cx}
theorem o2_add : Op2 X (binaryOp .Add) gAdd := by
  rintro pins s σ H x y v u Q I rx ry ⟨μ, α, R, dx, dy, d, S, h1, h2, e, q⟩
  have lists : ∀ xs ys, seqL μ dx = some xs → seqL μ dy = some ys → chk (decide (xs.length + ys.length ≤ sizeLine)) (D.list (xs ++ ys)) = some d → wpAny (model X.prog X.w) X.A (binaryOp .Add v u) (EP X pins σ Q) X.xe s := by
    intro xs ys e1 e2 e3
    obtain ⟨e4, rfl⟩ := chk_some e3
    obtain ⟨a, vs, rfl, i1, i2, i3⟩ := S.seqL h1 e1
    obtain ⟨b, ws, rfl, j1, j2, j3⟩ := S.seqL h2 e2
    have hl : vs.length + ws.length ≤ sizeLine := by rw [i3.len, j3.len]; exact of_decide_eq_true e4
    refine op_cat pins s σ H _ _ v u Q I rx ry ⟨a, b, vs, ws, rfl, rfl, i1, j1, hl, fun p hp => ?_⟩
    obtain ⟨S2, A2⟩ := S.lay (u := .lst (vs ++ ws)) hp
    exact q _ _ _ S2 A2 (.list upd_same (by simpa using hl) ((i3.append j3).adv A2))
  unfold gAdd at e
  split at e
  · cases e; cases h1; cases h2
    exact op_add pins s σ H _ _ v u Q I rx ry ⟨_, _, rfl, rfl, q _ R H S .refl (.int _)⟩
  · obtain ⟨c0, rfl⟩ := chk_some e; clear e; have e := c0; cases h1; cases h2
    exact op_add_str pins s σ H _ _ v u Q I rx ry ⟨_, _, rfl, rfl, of_decide_eq_true e, q _ R H S .refl (.str _)⟩
  · obtain ⟨c0, rfl⟩ := chk_some e; clear e; have e := c0
    have e := of_decide_eq_true e
    cases h1 with
    | tuple a1 a2 a3 => cases h2 with
      | tuple b1 b2 b3 =>
        rename_i xs ys a vs b ws
        refine op_catA pins s σ H _ _ v u Q I rx ry ⟨a, b, vs, ws, rfl, rfl, S.sqT a1, S.sqT b1, by rw [a3.len, b3.len]; exact e, fun z => ?_, fun z1 z2 => ?_, fun z1 z2 p hp => ?_⟩
        · subst z; cases a3
          exact q _ R H S .refl (.tuple b1 b2 b3)
        · subst z2; cases b3
          rw [List.append_nil] at q
          exact q _ R H S .refl (.tuple a1 a2 a3)
        · obtain ⟨S2, A2⟩ := S.lay (u := .tup (vs ++ ws)) hp
          exact q _ _ _ S2 A2 (.tuple (.inl (.inl upd_same)) (by rw [List.length_append, a3.len, b3.len]; exact e) ((a3.append b3).adv A2))
  · split at e
    · rename_i e1 e2
      exact lists _ _ e1 e2 e
    · cases e
theorem o2_int {f : Value → Value → Sem Value} {g : G2} {C : Int → Int → Prop} {k : Int → Int → Int} (h : OpR X f (rI C fun i j => .int (k i j)))
    (hg : ∀ μ x y d, g μ x y = some d → ∃ i j, x = .int i ∧ y = .int j ∧ C i j ∧ d = .int (k i j)) : Op2 X f g := by
  rintro pins s σ H x y v u Q I rx ry ⟨μ, α, R, dx, dy, d, S, h1, h2, e, q⟩
  obtain ⟨i, j, rfl, rfl, c, rfl⟩ := hg _ _ _ _ e
  cases h1; cases h2
  exact h pins s σ H _ _ v u Q I rx ry ⟨i, j, rfl, rfl, c, q _ R H S .refl (.int _)⟩
theorem o2_int0 {f : Value → Value → Sem Value} {g : G2} {k : Int → Int → V} {kd : Int → Int → D} (h : OpR X f (rI0 k)) (hk : ∀ R α i j, Den X.K X.mg R α (k i j) (kd i j))
    (hg : ∀ μ x y d, g μ x y = some d → ∃ i j, x = .int i ∧ y = .int j ∧ d = kd i j) : Op2 X f g := by
  rintro pins s σ H x y v u Q I rx ry ⟨μ, α, R, dx, dy, d, S, h1, h2, e, q⟩
  obtain ⟨i, j, rfl, rfl, rfl⟩ := hg _ _ _ _ e
  cases h1; cases h2
  exact h pins s σ H _ _ v u Q I rx ry ⟨i, j, rfl, rfl, q _ R H S .refl (hk R α i j)⟩
theorem o2_sub : Op2 X (binaryOp .Sub) gSub := o2_int0 op_sub (kd := fun i j => .int (i - j)) (fun _ _ _ _ => .int _) fun μ x y d e => by
  unfold gSub at e
  split at e
  · cases e; exact ⟨_, _, rfl, rfl, rfl⟩
  · cases e
theorem notLongL' {n : Nat} (h : n ≤ 1000 * 1000) : Builtin.Str.tooLong n = false := by
  unfold Builtin.Str.tooLong
  simp [sizeLine]
  omega
theorem o2_mul : Op2 X (binaryOp .Mult) gMul := by
  rintro pins s σ H x y v u Q I rx ry ⟨μ, α, R, dx, dy, d, S, h1, h2, e, q⟩
  unfold gMul at e
  split at e
  · obtain ⟨c0, rfl⟩ := chk_some e; clear e; have e := c0; cases h1; cases h2
    refine op_mul pins s σ H _ _ v u Q I rx ry ⟨_, _, rfl, rfl, ?_, q _ R H S .refl (.int _)⟩
    simp only [mulOk, Bool.or_eq_true, Bool.and_eq_true, decide_eq_true_eq] at e
    exact e
  · rename_i z n
    obtain ⟨c0, rfl⟩ := chk_some e; clear e; have e := c0
    simp only [Bool.and_eq_true, decide_eq_true_eq] at e
    obtain ⟨⟨n0, n1⟩, z1⟩ := e
    cases h1; cases h2
    obtain ⟨t, rfl⟩ := rx
    obtain ⟨u', rfl⟩ := ry
    have hm : Txt.mul z n = strRep z n.toNat := by
      unfold Txt.mul strRep
      by_cases h1 : n < 1
      · have : n = 0 := by omega
        subst this
        rw [if_pos (by decide)]; rfl
      · rw [if_neg h1]
        by_cases h2 : (n == 1 || z.length == 0) = true
        · rw [if_pos h2]
          simp only [Bool.or_eq_true, beq_iff_eq] at h2
          rcases h2 with h2 | h2
          · subst h2; cases z; simp
          · have hz : z.cps.toList = [] := by
              apply List.eq_nil_of_length_eq_zero
              rw [Array.length_toList]; exact h2
            rw [hz]
            have : (List.replicate n.toNat ([] : List Nat)).flatten = [] := by simp
            rw [this]
            cases z with
            | mk a => simp at hz; simp [hz]
        · rw [if_neg h2]
          congr 1
          have key : ∀ (k : Nat) (acc : List Nat), (List.replicate k z.cps).foldl (· ++ ·) acc.toArray = (acc ++ (List.replicate k z.cps.toList).flatten).toArray := by
            intro k
            induction k with
            | zero => intro acc; simp
            | succ k ih =>
              intro acc
              rw [List.replicate_succ, List.foldl_cons]
              have : acc.toArray ++ z.cps = (acc ++ z.cps.toList).toArray := by simp
              rw [this, ih, List.replicate_succ, List.flatten_cons, List.append_assoc]
          simpa using key n.toNat []
    refine PySem.SB.mul ⟨?_, fun q1 q2 => ?_, fun q1 q2 => ?_⟩ fun t' k => ?_
    · simp; omega
    · have : (2 ^ 63 - 1 : Int) / n ≥ (2 ^ 63 - 1 : Int) / 1000 := by
        have h1 : (1000 : Int) * ((2 ^ 63 - 1 : Int) / 1000) ≤ 2 ^ 63 - 1 := Int.mul_ediv_self_le (by decide)
        have h2 : n * ((2 ^ 63 - 1 : Int) / 1000) ≤ 1000 * ((2 ^ 63 - 1 : Int) / 1000) := Int.mul_le_mul_of_nonneg_right n1 (by decide)
        exact (Int.le_ediv_iff_mul_le (by omega)).mpr (by rw [Int.mul_comm]; omega)
      have h3 : ((2 ^ 63 - 1 : Int) / 1000) ≥ 1000 := by decide
      omega
    · have h4 : z.length * n.toNat ≤ 1000 * 1000 := Nat.mul_le_mul z1 (by omega)
      exact notLongL' h4
    · rw [hm]
      exact ⟨.str _, H, I.tok _, ⟨t', rfl⟩, q _ R H S .refl (.str _)⟩
  · rename_i k _ _
    split at e
    · rename_i xs e1
      obtain ⟨c0, rfl⟩ := chk_some e; clear e; have e := c0
      simp only [Bool.and_eq_true, decide_eq_true_eq] at e
      obtain ⟨a, vs, rfl, i1, i2, i3⟩ := S.seqL h1 e1
      cases h2
      refine op_rep pins s σ H _ _ v u Q I rx ry ⟨a, k, vs, rfl, rfl, i1, e.1.1, e.1.2, by rw [i3.len]; exact e.2, fun p hp => ?_⟩
      obtain ⟨S2, A2⟩ := S.lay (u := .lst (List.replicate k.toNat vs).flatten) hp
      have rep : ∀ n : Nat, DenL X.K X.mg R α (List.replicate n vs).flatten (List.replicate n xs).flatten := fun n => by
        induction n with
        | zero => exact .nil
        | succ n ih => rw [List.replicate_succ, List.replicate_succ, List.flatten_cons, List.flatten_cons]; exact i3.append ih
      refine q _ _ _ S2 A2 (.list upd_same ?_ ((rep _).adv A2))
      rw [(rep _).len]
      simp only [List.length_flatten, List.map_replicate, List.sum_replicate_nat]
      rw [Nat.mul_comm]; exact e.2
    · cases e
  · cases e
theorem o2_div : Op2 X (binaryOp .FloorDiv) gDiv := o2_int op_fdiv fun μ x y d e => by
  unfold gDiv at e
  split at e
  · obtain ⟨c0, rfl⟩ := chk_some e; clear e; have e := c0
    simp only [Bool.and_eq_true, decide_eq_true_eq] at e
    exact ⟨_, _, rfl, rfl, e, rfl⟩
  · cases e
theorem o2_mod : Op2 X (binaryOp .Mod) gMod := o2_int op_mod fun μ x y d e => by
  unfold gMod at e
  split at e
  · obtain ⟨c0, rfl⟩ := chk_some e; clear e; have e := c0
    exact ⟨_, _, rfl, rfl, of_decide_eq_true e, rfl⟩
  · cases e
theorem o2_pow : Op2 X (binaryOp .Pow) gPow := o2_int op_pow fun μ x y d e => by
  unfold gPow at e
  split at e
  · obtain ⟨c0, rfl⟩ := chk_some e; clear e; have e := c0
    simp only [Bool.and_eq_true, decide_eq_true_eq] at e
    exact ⟨_, _, rfl, rfl, ⟨e.1.1, e.1.2, e.2⟩, rfl⟩
  · cases e
theorem o1_neg : Op1 X (unaryOp .USub) gNeg := by
  rintro pins s σ H x v Q I rx ⟨μ, α, R, dx, d, S, h1, e, q⟩
  unfold gNeg at e
  split at e
  · cases e; cases h1
    exact un_neg pins s σ H _ v Q I rx ⟨_, rfl, q _ R H S .refl (.int _)⟩
  · cases e
theorem o2_lt : Op2 X (compareOp .Lt) gLt := o2_int0 op_lt (kd := fun i j => .bool (decide (i < j))) (fun _ _ _ _ => .bool _) fun μ x y d e => by
  unfold gLt at e
  split at e
  · cases e; exact ⟨_, _, rfl, rfl, rfl⟩
  · cases e
theorem o2_le : Op2 X (compareOp .LtE) gLe := o2_int0 op_le (kd := fun i j => .bool (decide (i ≤ j))) (fun _ _ _ _ => .bool _) fun μ x y d e => by
  unfold gLe at e
  split at e
  · cases e; exact ⟨_, _, rfl, rfl, rfl⟩
  · cases e
theorem o2_gt : Op2 X (compareOp .Gt) gGt := o2_int0 op_gt (kd := fun i j => .bool (decide (j < i))) (fun _ _ _ _ => .bool _) fun μ x y d e => by
  unfold gGt at e
  split at e
  · cases e; exact ⟨_, _, rfl, rfl, rfl⟩
  · cases e
theorem o2_ge : Op2 X (compareOp .GtE) gGe := o2_int0 op_ge (kd := fun i j => .bool (decide (j ≤ i))) (fun _ _ _ _ => .bool _) fun μ x y d e => by
  unfold gGe at e
  split at e
  · cases e; exact ⟨_, _, rfl, rfl, rfl⟩
  · cases e
theorem o2_eq (hu : X.A.units + 64 < cLine) : Op2 X (compareOp .Eq) gEq := by
  rintro pins s σ H x y v u Q I rx ry ⟨μ, α, R, dx, dy, d, S, h1, h2, e, q⟩
  obtain ⟨c0, rfl⟩ := chk_some e; clear e; have e := c0
  simp only [Bool.and_eq_true] at e
  obtain ⟨as, r1⟩ := Dp.reads I _ _ _ (dp_res S e.1 h1) rx
  obtain ⟨bs, r2⟩ := Dp.reads I _ _ _ (dp_res S e.2 h2) ry
  have p1 := plain_of 60 _ e.1
  have p2 := plain_of 60 _ e.2
  refine SeqAt.eq_plain r1 r2 p1.1 p2.1 (by have := Nat.min_le_left (toPy (resD μ dx)).depth (toPy (resD μ dy)).depth; omega) ?_
  rw [deq_is 60 60 _ _ e.1 e.2]
  exact ⟨.bl _, H, I, rfl, q _ R H S .refl (.bool _)⟩
theorem o2_ne (hu : X.A.units + 64 < cLine) : Op2 X (compareOp .NotEq) gNe := by
  rintro pins s σ H x y v u Q I rx ry ⟨μ, α, R, dx, dy, d, S, h1, h2, e, q⟩
  obtain ⟨c0, rfl⟩ := chk_some e; clear e; have e := c0
  simp only [Bool.and_eq_true] at e
  obtain ⟨as, r1⟩ := Dp.reads I _ _ _ (dp_res S e.1 h1) rx
  obtain ⟨bs, r2⟩ := Dp.reads I _ _ _ (dp_res S e.2 h2) ry
  have p1 := plain_of 60 _ e.1
  have p2 := plain_of 60 _ e.2
  refine SeqAt.ne_plain r1 r2 p1.1 p2.1 (by have := Nat.min_le_left (toPy (resD μ dx)).depth (toPy (resD μ dy)).depth; omega) ?_
  rw [deq_is 60 60 _ _ e.1 e.2]
  exact ⟨.bl _, H, I, rfl, q _ R H S .refl (.bool _)⟩
theorem isNone_den {K : PySem.W.Frag} {mg : Str → Option Value} {R : Hp} {α : List Addr} {v : V} {d : D} (h : Den K mg R α v d) : decide (v = .non) = isNone d := by
  cases h <;> rfl
theorem o2_is : Op2 X (compareOp .Is) gIs := by
  rintro pins s σ H x y v u Q I rx ry ⟨μ, α, R, dx, dy, d, S, h1, h2, e, q⟩
  unfold gIs at e
  split at e
  · cases e; cases h2
    exact op_isN pins s σ H _ _ v u Q I rx ry ⟨rfl, by rw [isNone_den h1]; exact q _ R H S .refl (.bool _)⟩
  · split at e
    · cases e; cases h1; cases h2
      exact op_isBl pins s σ H _ _ v u Q I rx ry ⟨_, _, rfl, rfl, q _ R H S .refl (.bool _)⟩
    · cases e
  · cases e
theorem o2_isnot : Op2 X (compareOp .IsNot) gIsNot := by
  rintro pins s σ H x y v u Q I rx ry ⟨μ, α, R, dx, dy, d, S, h1, h2, e, q⟩
  unfold gIsNot at e
  split at e
  · cases e; cases h2
    exact op_notN pins s σ H _ _ v u Q I rx ry ⟨rfl, by rw [isNone_den h1]; exact q _ R H S .refl (.bool _)⟩
  · split at e
    · cases e; cases h1; cases h2
      exact op_notBl pins s σ H _ _ v u Q I rx ry ⟨_, _, rfl, rfl, q _ R H S .refl (.bool _)⟩
    · cases e
  · cases e
/-! dicts -/
theorem denK_get {K : PySem.W.Frag} {mg : Str → Option Value} {R : Hp} {α : List Addr} {k : Key} : ∀ {ks : List (Key × V)} {kvs : List (Key × D)}, DenK K mg R α ks kvs → match getK kvs k with
    | some d => ∃ v, valV ks k = some v ∧ Den K mg R α v d
    | none => valV ks k = none
  | _, _, .nil => rfl
  | _, _, .cons (k := j) (v := v) (d := d) (vs := vs) (ds := ds) h t => by
    by_cases e : j = k
    · have e1 : getK ((j, d) :: ds) k = some d := by simp [getK, e]
      have e2 : valV ((j, v) :: vs) k = some v := valV_pos (p := (j, v)) e
      rw [e1]; exact ⟨v, e2, h⟩
    · have e1 : getK ((j, d) :: ds) k = getK ds k := by simp [getK, e]
      have e2 : valV ((j, v) :: vs) k = valV vs k := valV_neg (p := (j, v)) e
      rw [e1, e2]; exact denK_get t
theorem keyOf_den {K : PySem.W.Frag} {mg : Str → Option Value} {R : Hp} {α : List Addr} {v : V} {d : D} {k : Key} (h : Den K mg R α v d) (e : keyOf d = some k) : v = kV k := by
  cases h <;> cases e <;> rfl
theorem in_gen (hu : X.A.units + 64 < cLine) {pins : List (Addr × Obj)} {s : Shared} {σ : L2.St} {H : Hp} {x y : V} {v u : Value} {μ : Mu} {α : List Addr} {R : Hp} {dx dy : D} {b : Bool} {E : Value → Shared → Prop} {Q : Value → Shared → Prop} (I : Inv X pins σ H s) (rx : RelV x v) (ry : RelV y u)
    (S : SM X.K X.mg μ α R H) (h1 : Den X.K X.mg R α x dx) (h2 : Den X.K X.mg R α y dy) (e : inD μ dx dy = some b) :
    ((∀ s', Inv X pins σ H s' → Q (.bool b) s') → wpAny (model X.prog X.w) X.A (compareOp .In v u) Q X.xe s) ∧
    ((∀ s', Inv X pins σ H s' → Q (.bool (!b)) s') → wpAny (model X.prog X.w) X.A (compareOp .NotIn v u) Q X.xe s) := by
  unfold inD at e
  split at e
  · rename_i t
    split at e
    · rename_i z
      split at e
      · rename_i c ec
        cases e; cases h1; cases h2
        have ez : z = ⟨#[c]⟩ := by
          cases z with
          | mk a => simp at ec; congr; exact Array.toList_inj.mp (by simpa using ec)
        subst ez
        refine ⟨fun k => thn (op_in_sign pins s σ H _ _ v u (fun w H' => w = .bl (decide (c ∈ t.cps.toList)) ∧ H' = H) I rx ry ⟨c, t, rfl, rfl, rfl, rfl⟩) fun a s' hs => ?_,
          fun k => thn (op_notIn_sign pins s σ H _ _ v u (fun w H' => w = .bl (!decide (c ∈ t.cps.toList)) ∧ H' = H) I rx ry ⟨c, t, rfl, rfl, rfl, rfl⟩) fun a s' hs => ?_⟩
        · obtain ⟨w, H', I', r, rfl, rfl⟩ := hs
          obtain rfl : a = .bool _ := r
          exact k s' I'
        · obtain ⟨w, H', I', r, rfl, rfl⟩ := hs
          obtain rfl : a = .bool _ := r
          exact k s' I'
      · cases e
    · cases e
  · split at e
    · rename_i kvs e1
      obtain ⟨k, ek, rfl⟩ := Option.map_eq_some_iff.mp e
      obtain ⟨a, ks, rfl, hd, hl, dk⟩ := S.dctV h2 e1
      obtain rfl := keyOf_den h1 ek
      have g : DGet H a (kV k) (valV ks k) := .inl ⟨ks, k, hd, rfl, rfl⟩
      have eo : (valV ks k).isSome = (getK kvs k).isSome := by
        have := denK_get (k := k) dk
        cases e2 : getK kvs k with
        | none => rw [e2] at this; rw [this]; rfl
        | some d => rw [e2] at this; obtain ⟨v, h3, _⟩ := this; rw [h3] <;> rfl
      obtain rfl : u = .ref a := ry
      exact ⟨fun q => d_in (by omega) I g rx fun s' I' => by rw [eo]; exact q s' I', fun q => d_notIn (by omega) I g rx fun s' I' => by rw [eo]; exact q s' I'⟩
    · split at e
      · rename_i ys e1
        obtain ⟨c0, rfl⟩ := chk_some e; clear e; have e := c0
        simp only [Bool.and_eq_true] at e
        obtain ⟨as, r1⟩ := Dp.reads I _ _ _ (dp_res S e.1 h1) rx
        have p1 := plain_of 60 _ e.1
        have p2 := plains_of 59 _ e.2
        obtain ⟨a, vs, rfl, hs, dl⟩ := S.seqR h2 e1
        have any : ((toPys ys).any fun z => PyData.eqv z (toPy (resD μ dx))) = ys.any fun z => deq z (resD μ dx) := by
          have : ∀ zs : List D, areData 59 zs = true → ((toPys zs).any fun z => PyData.eqv z (toPy (resD μ dx))) = zs.any fun z => deq z (resD μ dx) := by
            intro zs
            induction zs with
            | nil => intro _; rfl
            | cons z zs ih =>
              intro hz
              simp only [areData, Bool.and_eq_true] at hz
              simp only [toPys, List.any_cons, deq_is 59 60 z _ hz.1 e.1, ih hz.2]
          exact this ys e.2
        have dd : X.A.units + 1 + min (PyData.depthAll (toPys ys)) (toPy (resD μ dx)).depth < cLine := by
          have := Nat.min_le_left (PyData.depthAll (toPys ys)) (toPy (resD μ dx)).depth
          omega
        rcases hs with hs | hs
        · obtain ⟨bs, r2⟩ := Dp.reads I (.list (toPys ys)) _ _ (.lst hs (dps_of S 59 ys _ e.2 dl)) ry
          exact ⟨fun q => SeqAt.in_list_data r2 r1 p2.1 p1.1 dd (by rw [any]; exact q s I), fun q => SeqAt.notIn_list_data r2 r1 p2.1 p1.1 dd (by rw [any]; exact q s I)⟩
        · obtain ⟨bs, r2⟩ := Dp.reads I (.tuple (toPys ys)) _ _ (.tup hs (dps_of S 59 ys _ e.2 dl)) ry
          exact ⟨fun q => SeqAt.in_tuple_data r2 r1 p2.1 p1.1 dd (by rw [any]; exact q s I), fun q => SeqAt.notIn_tuple_data r2 r1 p2.1 p1.1 dd (by rw [any]; exact q s I)⟩
      · cases e
theorem o2_in (hu : X.A.units + 64 < cLine) : Op2 X (compareOp .In) gIn := by
  rintro pins s σ H x y v u Q I rx ry ⟨μ, α, R, dx, dy, d, S, h1, h2, e, q⟩
  obtain ⟨b, c0, rfl⟩ := Option.map_eq_some_iff.mp e; clear e; have e := c0
  exact (in_gen (E := X.xe) hu I rx ry S h1 h2 e).1 fun s' I' => ⟨.bl b, H, I', rfl, q _ R H S .refl (.bool _)⟩
theorem o2_notin (hu : X.A.units + 64 < cLine) : Op2 X (compareOp .NotIn) gNotIn := by
  rintro pins s σ H x y v u Q I rx ry ⟨μ, α, R, dx, dy, d, S, h1, h2, e, q⟩
  obtain ⟨b, c0, rfl⟩ := Option.map_eq_some_iff.mp e; clear e; have e := c0
  exact (in_gen (E := X.xe) hu I rx ry S h1 h2 e).2 fun s' I' => ⟨.bl (!b), H, I', rfl, q _ R H S .refl (.bool _)⟩
end
end TL

set_option Elab.async false
set_option maxRecDepth 100000
set_option maxHeartbeats 1000000
set_option linter.all false
/-! The tree layer, part d: subscripts, slices, calls of built-ins, methods of built-in types. -/
namespace TL
open PySem PySem.Spec PyProof.Rows L2

/-! ### x[i] -/
def gIx : G2 := fun μ x y => match x with
  | .str z => (match y with | .int i => if z.length ≤ sizeLine then (atI z.cps.toList i).map fun c => .str ⟨#[c]⟩ else none | _ => none)
  | x => match dctV μ x with
    | some kvs => (keyOf y).bind (getK kvs)
    | none => match seqR μ x, y with
      | some xs, .int i => atI xs i
      | _, _ => none
section
variable {X : Cx} {E : XK} {a b e : Expr} {fa fb : FE} {pos : Pos}
theorem atI_den {K : PySem.W.Frag} {mg : Str → Option Value} {R : Hp} {α : List Addr} {vs : List V} {xs : List D} {i : Int} {d : D} (h : DenL K mg R α vs xs) (e : atI xs i = some d) : ∃ v, atI vs i = some v ∧ Den K mg R α v d := by
  unfold atI at e ⊢
  obtain ⟨j, e1, e2⟩ := Option.bind_eq_some_iff.mp e
  obtain ⟨v, h1, h2⟩ := h.get' e2
  exact ⟨v, by rw [h.len, e1]; exact h1, h2⟩
theorem ix_of (hu : X.A.units + 64 < cLine) : IxR X fun x y H Q => ∃ μ α R dx dy d, SM X.K X.mg μ α R H ∧ Den X.K X.mg R α x dx ∧ Den X.K X.mg R α y dy ∧ gIx μ dx dy = some d ∧
    ∀ w R' H', SM X.K X.mg μ α R' H' → Adv α R H α R' H' → Den X.K X.mg R' α w d → Q w H' := by
  rintro value slice pins s σ H x y v u Q I rx ry ⟨μ, α, R, dx, dy, d, S, h1, h2, e, q⟩ hs
  unfold gIx at e
  split at e
  · split at e
    · split at e
      · rename_i hl
        obtain ⟨c, e1, rfl⟩ := Option.map_eq_some_iff.mp e
        cases h1; cases h2
        exact ix_str value slice pins s σ H _ _ v u Q I rx ry ⟨_, _, c, rfl, rfl, hl, e1, q _ R H S .refl (.str _)⟩ hs
      · cases e
    · cases e
  · split at e
    · rename_i kvs e1
      obtain ⟨k, e2, e3⟩ := Option.bind_eq_some_iff.mp e
      obtain ⟨a, ks, rfl, hd, hl, dk⟩ := S.dctV h1 e1
      obtain rfl := keyOf_den h2 e2
      have q1 := denK_get (k := k) dk
      rw [e3] at q1
      obtain ⟨v1, q2, q3⟩ := q1
      have g : DGet H a (kV k) (some v1) := .inl ⟨ks, k, hd, rfl, q2.symm⟩
      obtain rfl : v = .ref a := rx
      exact tail_any (dict_typeIs I g) PySem.F.slot_dict_getitem.lookup (d_getItem (by omega) I g ry fun w' s' I' r' => ⟨v1, H, I', r', q _ R H S .refl q3⟩) hs
    · split at e
      · rename_i xs i e1
        obtain ⟨a, vs, rfl, hq, dl⟩ := S.seqR h1 e1
        cases h2
        obtain ⟨w, e2, e3⟩ := atI_den dl e
        rcases hq with hq | hq
        · exact ix_list value slice pins s σ H _ _ v u Q I rx ry ⟨a, vs, _, w, rfl, rfl, hq, e2, q _ R H S .refl e3⟩ hs
        · exact ix_tup value slice pins s σ H _ _ v u Q I rx ry ⟨a, vs, _, w, rfl, rfl, hq, e2, q _ R H S .refl e3⟩ hs
      · cases e
theorem de_ix (hu : X.A.units + 64 < cLine) (ha : DE X E a fa) (hb : DE X E b fb) (hs : PlainIx b := by exact fun _ _ => rfl) : DE X E (.Subscript a b pos) (eBin gIx fa fb) :=
  wE (pe_ix (ix_of hu) ha hb hs) fun σ H Q ⟨ρ, μ, α, R, S, V, h⟩ => ⟨ρ, μ, α, R, S, V, h.bind fun x μ1 v α1 R1 H1 S1 A1 d1 h1 => ⟨ρ, μ1, α1, R1, S1, V.adv A1, h1.bind fun y μ2 u α2 R2 H2 S2 A2 d2 h2 => by
    obtain ⟨d, e1, e2⟩ := h2.ofO
    exact ⟨μ2, α2, R2, x, y, d, S2, d1.adv A2, d2, e1, fun w R' H' S' A' q => e2 w α2 R' H' S' A' q⟩⟩⟩
/-! ### x[i:j] -/
abbrev FO := Env → Mu → Res (Option Int)
abbrev relO : Hp → List Addr → Option Int → Option Int → Prop := fun _ _ a b => a = b
def DO (X : Cx) (E : XK) (e : Option Expr) (f : FO) : Prop := PO X e (Lift X.K X.mg E relO f)
def oNone : FO := fun _ μ => .ok none μ
def oSome (f : FE) : FO := fun ρ μ => (f ρ μ).bind fun d μ1 => match d with
  | .int i => .ok (some i) μ1
  | _ => .bad
theorem wO {e : Option Expr} {t t' : TO} (h : PO X e t) (k : ∀ σ H Q, t' σ H Q → t σ H Q) : PO X e t' := ⟨fun pins s σ H Q I q => h.run pins s σ H Q I (k σ H Q q)⟩
theorem do_none : DO X E none oNone := wO po_none fun σ H Q ⟨ρ, μ, α, R, S, V, h⟩ => h none α R H S .refl rfl
theorem do_some (h : DE X E e fa) : DO X E (some e) (oSome fa) :=
  wO (po_some h) fun σ H Q ⟨ρ, μ, α, R, S, V, h⟩ => ⟨ρ, μ, α, R, S, V, h.bind fun x μ1 v α1 R1 H1 S1 A1 d1 h1 => by
    cases d1 with
    | int i => exact ⟨i, rfl, h1 _ α1 R1 H1 S1 .refl rfl⟩
    | _ => exact False.elim h1⟩
def cutD (xs : List D) (lo hi : Option Int) : List D := (xs.drop (HT.sIx xs.length 0 lo)).take (HT.sIx xs.length xs.length hi - HT.sIx xs.length 0 lo)
theorem cut_den {K : PySem.W.Frag} {mg : Str → Option Value} {R : Hp} {α : List Addr} {vs : List V} {xs : List D} (h : DenL K mg R α vs xs) (lo hi : Option Int) : DenL K mg R α (cutV vs lo hi) (cutD xs lo hi) := by
  unfold cutV cutD
  rw [h.len]
  exact (h.drop _).take _
theorem cut_whole {xs : List D} {lo hi : Option Int} (h : HT.sIx xs.length 0 lo = 0 ∧ HT.sIx xs.length xs.length hi = xs.length) : cutD xs lo hi = xs := by
  unfold cutD
  rw [h.1, h.2]
  simp
def gSl (μ : Mu) (x : D) (lo hi : Option Int) : Option D := match x with
  | .str z => chk (decide (z.length ≤ sizeLine)) (.str (cutS z lo hi))
  | .tuple xs => some (.tuple (cutD xs lo hi))
  | .script ns => chk (decide (ns.length ≤ sizeLine)) (.list (cutD (ns.map .int) lo hi))
  | x => (seqL μ x).map fun xs => .list (cutD xs lo hi)
def eSl (fa : FE) (fl fh : FO) : FE := fun ρ μ => (fa ρ μ).bind fun x μ1 => (fl ρ μ1).bind fun lo μ2 => (fh ρ μ2).bind fun hi μ3 => ofO (gSl μ3 x lo hi) μ3
theorem sl_of : SlR X fun x lo hi H Q => ∃ μ α R dx d, SM X.K X.mg μ α R H ∧ Den X.K X.mg R α x dx ∧ gSl μ dx lo hi = some d ∧
    ∀ w R' H', SM X.K X.mg μ α R' H' → Adv α R H α R' H' → Den X.K X.mg R' α w d → Q w H' := by
  rintro pins s σ H x v vl vu lo hi sl Q I rx hsl pl pu ⟨μ, α, R, dx, d, S, h1, e, q⟩
  unfold gSl at e
  split at e
  · obtain ⟨c0, rfl⟩ := chk_some e
    cases h1
    exact sl_str pins s σ H _ v vl vu lo hi sl Q I rx hsl pl pu ⟨_, rfl, of_decide_eq_true c0, q _ R H S .refl (.str _)⟩
  · cases e
    cases h1 with
    | tuple a1 a2 a3 =>
      rename_i xs a vs
      refine sl_tupA pins s σ H _ v vl vu lo hi sl Q I rx hsl pl pu ⟨a, vs, rfl, S.sqT a1, fun hw => ?_, fun hw p hp => ?_⟩
      · rw [a3.len] at hw
        rw [cut_whole hw] at q
        exact q _ R H S .refl (.tuple a1 a2 a3)
      · obtain ⟨S2, A2⟩ := S.lay (u := .tup (cutV vs lo hi)) hp
        exact q _ _ _ S2 A2 (.tuple (.inl (.inl upd_same)) (Nat.le_trans (cutV_length _ _ _) a2) ((cut_den a3 lo hi).adv A2))
  · obtain ⟨c0, rfl⟩ := chk_some e
    cases h1 with
    | script a1 =>
      rename_i ns a
      refine sl_list pins s σ H _ v vl vu lo hi sl Q I rx hsl pl pu ⟨a, _, rfl, S.sqL a1, fun p hp => ?_⟩
      obtain ⟨S2, A2⟩ := S.lay (u := .lst (cutV (ns.map V.int) lo hi)) hp
      exact q _ _ _ S2 A2 (.list upd_same (Nat.le_trans (cutV_length _ _ _) (by rw [List.length_map]; exact of_decide_eq_true c0)) ((cut_den DenL.ints lo hi).adv A2))
  · obtain ⟨xs, e1, rfl⟩ := Option.map_eq_some_iff.mp e
    obtain ⟨a, vs, rfl, hq, hl, dl⟩ := S.seqL h1 e1
    refine sl_list pins s σ H _ v vl vu lo hi sl Q I rx hsl pl pu ⟨a, vs, rfl, SqL.of hq, fun p hp => ?_⟩
    obtain ⟨S2, A2⟩ := S.lay (u := .lst (cutV vs lo hi)) hp
    exact q _ _ _ S2 A2 (.list upd_same (Nat.le_trans (cutV_length _ _ _) hl) ((cut_den dl lo hi).adv A2))
theorem de_sl {lo hi : Option Expr} {fl fh : FO} {p2 : Pos} (ha : DE X E a fa) (hl : DO X E lo fl) (hh : DO X E hi fh) : DE X E (.Subscript a (.Slice lo hi none p2) pos) (eSl fa fl fh) :=
  wE (pe_slice sl_of ha hl hh) fun σ H Q ⟨ρ, μ, α, R, S, V, h⟩ => ⟨ρ, μ, α, R, S, V, h.bind fun x μ1 v α1 R1 H1 S1 A1 d1 h1 => ⟨ρ, μ1, α1, R1, S1, V.adv A1, h1.bind fun y μ2 u α2 R2 H2 S2 A2 d2 h2 => by
    cases d2
    exact ⟨ρ, μ2, α2, R2, S2, (V.adv A1).adv A2, h2.bind fun z μ3 w α3 R3 H3 S3 A3 d3 h3 => by
      cases d3
      obtain ⟨d, e1, e2⟩ := h3.ofO
      exact ⟨μ3, α3, R3, x, d, S3, (d1.adv A2).adv A3, e1, fun w R' H' S' A' q => e2 w α3 R' H' S' A' q⟩⟩⟩⟩
/-! ### calls of built-ins -/
abbrev GL := Mu → List D → Option D
def CalR (X : Cx) (f : Value) (g : GL) : Prop := CallR X f fun vs H Q => ∃ μ α R ds d, SM X.K X.mg μ α R H ∧ DenL X.K X.mg R α vs ds ∧ g μ ds = some d ∧
  ∀ w R' H', SM X.K X.mg μ α R' H' → Adv α R H α R' H' → Den X.K X.mg R' α w d → Q w H'
abbrev GN := Mu → List D → Option Cell
/-- .. that makes a new object -/
def CalN (X : Cx) (f : Value) (g : GN) : Prop := CallR X f fun vs H Q => ∃ μ α R ds c, SM X.K X.mg μ α R H ∧ DenL X.K X.mg R α vs ds ∧ g μ ds = some c ∧
  ∀ w, relN X.K X.mg R α w c → ∀ p, H p = none → Q (.ref p) (upd H p w.2)
def eCall (g : GL) (t : FA) : FE := fun ρ μ => (t ρ μ).bind fun ds μ1 => ofO (g μ1 ds) μ1
def nCall (g : GN) (t : FA) : FN := fun ρ μ => (t ρ μ).bind fun ds μ1 => ofO (g μ1 ds) μ1
variable {x : Str} {p : Pos} {es : List Expr} {t : FA} {id T : String} {g : GL} {gn : GN}
theorem de_callB (hc : CalR X (.builtin id) g) (hg : Gl X x) (hm : X.mg x = none) (hv : bootBuiltins x = some (.builtin id)) (ha : DA X E (e :: es) t) (hn : x ≠ "__name__" := by decide) (hdb : (x == ("__debug__" : Str)) = false := by decide)
    (he : starEach (e :: es) X.env = (false, eval e X.env) :: starEach es X.env := by rfl) (hpl : (backTo pos (starEach es X.env)).any (·.1) = false := by rfl) : DE X E (.Call (.Name x p) (e :: es) [] pos) (eCall g t) :=
  wE (pe_callB hc hg hm hv ha hn hdb he hpl) fun σ H Q ⟨ρ, μ, α, R, S, V, h⟩ => ⟨ρ, μ, α, R, S, V, h.bind fun ds μ1 vs α1 R1 H1 S1 A1 d1 h1 => by
    obtain ⟨d, e1, e2⟩ := h1.ofO
    exact ⟨μ1, α1, R1, ds, d, S1, d1, e1, fun w R' H' S' A' q => e2 w α1 R' H' S' A' q⟩⟩
theorem de_callT (hc : CalR X (.type T) g) (hg : Gl X x) (hm : X.mg x = none) (hv : bootBuiltins x = some (.type T)) (ha : DA X E (e :: es) t) (hn : x ≠ "__name__" := by decide) (hdb : (x == ("__debug__" : Str)) = false := by decide)
    (he : starEach (e :: es) X.env = (false, eval e X.env) :: starEach es X.env := by rfl) (hpl : (backTo pos (starEach es X.env)).any (·.1) = false := by rfl) : DE X E (.Call (.Name x p) (e :: es) [] pos) (eCall g t) :=
  wE (pe_callTy hc hg hm hv ha hn hdb he hpl) fun σ H Q ⟨ρ, μ, α, R, S, V, h⟩ => ⟨ρ, μ, α, R, S, V, h.bind fun ds μ1 vs α1 R1 H1 S1 A1 d1 h1 => by
    obtain ⟨d, e1, e2⟩ := h1.ofO
    exact ⟨μ1, α1, R1, ds, d, S1, d1, e1, fun w R' H' S' A' q => e2 w α1 R' H' S' A' q⟩⟩
theorem dn_callB (hc : CalN X (.builtin id) gn) (hg : Gl X x) (hm : X.mg x = none) (hv : bootBuiltins x = some (.builtin id)) (ha : DA X E (e :: es) t) (hn : x ≠ "__name__" := by decide) (hdb : (x == ("__debug__" : Str)) = false := by decide)
    (he : starEach (e :: es) X.env = (false, eval e X.env) :: starEach es X.env := by rfl) (hpl : (backTo pos (starEach es X.env)).any (·.1) = false := by rfl) : DN X E (.Call (.Name x p) (e :: es) [] pos) (nCall gn t) :=
  wE (pe_callB hc hg hm hv ha hn hdb he hpl) fun σ H Q ⟨ρ, μ, α, R, S, V, h⟩ => ⟨ρ, μ, α, R, S, V, h.bind fun ds μ1 vs α1 R1 H1 S1 A1 d1 h1 => by
    obtain ⟨d, e1, e2⟩ := h1.ofO
    exact ⟨μ1, α1, R1, ds, d, S1, d1, e1, fun w hw p hp => e2 w α1 R1 H1 S1 .refl hw p hp⟩⟩
theorem dn_callT (hc : CalN X (.type T) gn) (hg : Gl X x) (hm : X.mg x = none) (hv : bootBuiltins x = some (.type T)) (ha : DA X E (e :: es) t) (hn : x ≠ "__name__" := by decide) (hdb : (x == ("__debug__" : Str)) = false := by decide)
    (he : starEach (e :: es) X.env = (false, eval e X.env) :: starEach es X.env := by rfl) (hpl : (backTo pos (starEach es X.env)).any (·.1) = false := by rfl) : DN X E (.Call (.Name x p) (e :: es) [] pos) (nCall gn t) :=
  wE (pe_callTy hc hg hm hv ha hn hdb he hpl) fun σ H Q ⟨ρ, μ, α, R, S, V, h⟩ => ⟨ρ, μ, α, R, S, V, h.bind fun ds μ1 vs α1 R1 H1 S1 A1 d1 h1 => by
    obtain ⟨d, e1, e2⟩ := h1.ofO
    exact ⟨μ1, α1, R1, ds, d, S1, d1, e1, fun w hw p hp => e2 w α1 R1 H1 S1 .refl hw p hp⟩⟩
theorem denL1 {K : PySem.W.Frag} {mg : Str → Option Value} {R : Hp} {α : List Addr} {vs : List V} {d : D} (h : DenL K mg R α vs [d]) : ∃ v, vs = [v] ∧ Den K mg R α v d := by
  cases h with
  | cons h t => cases t; exact ⟨_, rfl, h⟩
theorem denL2 {K : PySem.W.Frag} {mg : Str → Option Value} {R : Hp} {α : List Addr} {vs : List V} {d d' : D} (h : DenL K mg R α vs [d, d']) : ∃ v v', vs = [v, v'] ∧ Den K mg R α v d ∧ Den K mg R α v' d' := by
  cases h with
  | cons h t => obtain ⟨v', rfl, h'⟩ := denL1 t; exact ⟨_, v', rfl, h, h'⟩
def gLen : GL := fun μ ds => match ds with
  | [.str z] => chk (decide (z.length ≤ sizeLine)) (.int z.length)
  | [x] => match dctV μ x with
    | some kvs => some (.int kvs.length)
    | none => (seqR μ x).map fun xs => .int xs.length
  | _ => none
theorem cal_len : CalR X (.builtin "len") gLen := by
  rintro pins s σ H vs us Q I r ⟨μ, α, R, ds, d, S, h, e, q⟩
  unfold gLen at e
  split at e
  · obtain ⟨c0, rfl⟩ := chk_some e
    obtain ⟨v, rfl, h1⟩ := denL1 h
    cases h1
    exact call_len_str pins s σ H _ us Q I r ⟨_, rfl, of_decide_eq_true c0, q _ R H S .refl (.int _)⟩
  · obtain ⟨v, rfl, h1⟩ := denL1 h
    split at e
    · rename_i kvs e1
      cases e
      obtain ⟨a, ks, rfl, hd, hl, dk⟩ := S.dctV h1 e1
      obtain ⟨u, rfl, ru⟩ := vals1 r
      obtain rfl : u = .ref a := ru
      exact d_len I hd fun t s' I' => ⟨.int kvs.length, H, I', ⟨t, by rw [dk.len]⟩, q _ R H S .refl (.int _)⟩
    · obtain ⟨xs, e1, rfl⟩ := Option.map_eq_some_iff.mp e
      obtain ⟨a, ws, rfl, hq, dl⟩ := S.seqR h1 e1
      exact call_len_seq pins s σ H _ us Q I r ⟨a, ws, rfl, hq, by rw [dl.len]; exact q _ R H S .refl (.int _)⟩
  · cases e
def gAbs : GL := fun _ ds => match ds with
  | [.int i] => some (.int (if i < 0 then -i else i))
  | _ => none
theorem cal_abs : CalR X (.builtin "abs") gAbs := by
  rintro pins s σ H vs us Q I r ⟨μ, α, R, ds, d, S, h, e, q⟩
  unfold gAbs at e
  split at e
  · cases e
    obtain ⟨v, rfl, h1⟩ := denL1 h
    cases h1
    exact call_abs pins s σ H _ us Q I r ⟨_, rfl, q _ R H S .refl (.int _)⟩
  · cases e
def gMax2 : GL := fun _ ds => match ds with
  | [.int i, .int j] => some (.int (if j > i then j else i))
  | _ => none
def gMin2 : GL := fun _ ds => match ds with
  | [.int i, .int j] => some (.int (if j < i then j else i))
  | _ => none
theorem cal_max2 (hc : X.calm = true) : CalR X (.builtin "max") gMax2 := by
  rintro pins s σ H vs us Q I r ⟨μ, α, R, ds, d, S, h, e, q⟩
  unfold gMax2 at e
  split at e
  · cases e
    obtain ⟨v, v', rfl, h1, h2⟩ := denL2 h
    cases h1; cases h2
    exact call_max2 hc pins s σ H _ us Q I r ⟨_, _, rfl, q _ R H S .refl (.int _)⟩
  · cases e
theorem cal_min2 (hc : X.calm = true) : CalR X (.builtin "min") gMin2 := by
  rintro pins s σ H vs us Q I r ⟨μ, α, R, ds, d, S, h, e, q⟩
  unfold gMin2 at e
  split at e
  · cases e
    obtain ⟨v, v', rfl, h1, h2⟩ := denL2 h
    cases h1; cases h2
    exact call_min2 hc pins s σ H _ us Q I r ⟨_, _, rfl, q _ R H S .refl (.int _)⟩
  · cases e
def gInt : GL := fun _ ds => match ds with
  | [.int i] => some (.int i)
  | [.bool b] => some (.int (if b then 1 else 0))
  | _ => none
theorem cal_int : CalR X (.type "int") gInt := by
  rintro pins s σ H vs us Q I r ⟨μ, α, R, ds, d, S, h, e, q⟩
  unfold gInt at e
  split at e
  · cases e
    obtain ⟨v, rfl, h1⟩ := denL1 h
    cases h1
    exact call_int1 pins s σ H _ us Q I r (.inl ⟨_, rfl, q _ R H S .refl (.int _)⟩)
  · cases e
    obtain ⟨v, rfl, h1⟩ := denL1 h
    cases h1
    exact call_int1 pins s σ H _ us Q I r (.inr ⟨_, rfl, q _ R H S .refl (.int _)⟩)
  · cases e
def bools : List D → Option (List Bool)
  | [] => some []
  | .bool b :: r => (bools r).map (b :: ·)
  | _ => none
theorem bools_den {K : PySem.W.Frag} {mg : Str → Option Value} {R : Hp} {α : List Addr} : ∀ {vs : List V} {xs : List D} {bs : List Bool}, DenL K mg R α vs xs → bools xs = some bs → vs = bs.map V.bl
  | _, _, _, .nil, e => by cases e; rfl
  | _, _, bs, .cons h t, e => by
    cases h with
    | bool b =>
      obtain ⟨r, e1, rfl⟩ := Option.map_eq_some_iff.mp e
      rw [bools_den t e1] <;> rfl
    | _ => cases e
def gAny : GL := fun μ ds => match ds with
  | [x] => ((seqL μ x).bind bools).map fun bs => .bool (bs.any fun b => b)
  | _ => none
def gAll : GL := fun μ ds => match ds with
  | [x] => ((seqL μ x).bind bools).map fun bs => .bool (bs.all fun b => b)
  | _ => none
theorem cal_any (hc : X.calm = true) : CalR X (.builtin "any") gAny := by
  rintro pins s σ H vs us Q I r ⟨μ, α, R, ds, d, S, h, e, q⟩
  unfold gAny at e
  split at e
  · obtain ⟨bs, e1, rfl⟩ := Option.map_eq_some_iff.mp e
    obtain ⟨xs, e2, e3⟩ := Option.bind_eq_some_iff.mp e1
    obtain ⟨v, rfl, h1⟩ := denL1 h
    obtain ⟨a, ws, rfl, hq, hl, dl⟩ := S.seqL h1 e2
    obtain rfl := bools_den dl e3
    exact cr_any hc pins s σ H _ us Q I r ⟨a, bs, rfl, SqL.of hq, q _ R H S .refl (.bool _)⟩
  · cases e
theorem cal_all (hc : X.calm = true) : CalR X (.builtin "all") gAll := by
  rintro pins s σ H vs us Q I r ⟨μ, α, R, ds, d, S, h, e, q⟩
  unfold gAll at e
  split at e
  · obtain ⟨bs, e1, rfl⟩ := Option.map_eq_some_iff.mp e
    obtain ⟨xs, e2, e3⟩ := Option.bind_eq_some_iff.mp e1
    obtain ⟨v, rfl, h1⟩ := denL1 h
    obtain ⟨a, ws, rfl, hq, hl, dl⟩ := S.seqL h1 e2
    obtain rfl := bools_den dl e3
    exact cr_all hc pins s σ H _ us Q I r ⟨a, bs, rfl, SqL.of hq, q _ R H S .refl (.bool _)⟩
  · cases e
def keyD : Key → D
  | .inl i => .int i
  | .inr s => .str s
theorem keyD_den {K : PySem.W.Frag} {mg : Str → Option Value} {R : Hp} {α : List Addr} (k : Key) : Den K mg R α (kV k) (keyD k) := by
  cases k with
  | inl i => exact .int i
  | inr s => exact .str s
theorem keys_den {K : PySem.W.Frag} {mg : Str → Option Value} {R : Hp} {α : List Addr} : ∀ {ks : List (Key × V)} {kvs : List (Key × D)}, DenK K mg R α ks kvs → DenL K mg R α (ks.map fun kv => kV kv.1) (kvs.map fun kv => keyD kv.1)
  | _, _, .nil => .nil
  | _, _, .cons h t => .cons (keyD_den _) (keys_den t)
/-- list(x): of a list, a tuple, a dict -/
def gList : GN := fun μ ds => match ds with
  | [x] => match dctV μ x with
    | some kvs => some (.list (kvs.map fun kv => keyD kv.1))
    | none => match x with
      | .list xs => some (.list xs)
      | .tuple xs => some (.list xs)
      | x => (seqL μ x).map .list
  | _ => none
theorem cal_list (hc : X.calm = true) : CalN X (.type "list") gList := by
  rintro pins s σ H vs us Q I r ⟨μ, α, R, ds, c, S, h, e, q⟩
  unfold gList at e
  split at e
  · obtain ⟨v, rfl, h1⟩ := denL1 h
    split at e
    · rename_i kvs e1
      cases e
      obtain ⟨a, ks, rfl, hd, hl, dk⟩ := S.dctV h1 e1
      exact call_listD hc pins s σ H _ us Q I r ⟨a, ks, rfl, hd, fun p hp => q (.non, .lst _) ⟨_, rfl, by rw [List.length_map]; exact hl, keys_den dk⟩ p hp⟩
    · split at e
      · cases e
        obtain ⟨a, ws, rfl, hq, hl, dl⟩ := S.seqL (xs := _) h1 rfl
        exact call_list_of pins s σ H _ us Q I r ⟨a, ws, rfl, .inl (SqL.of hq), fun p hp => q (.non, .lst ws) ⟨_, rfl, hl, dl⟩ p hp⟩
      · cases e
        cases h1 with
        | tuple a1 a2 a3 => exact call_list_of pins s σ H _ us Q I r ⟨_, _, rfl, .inr (S.sqT a1), fun p hp => q (.non, .lst _) ⟨_, rfl, a2, a3⟩ p hp⟩
      · obtain ⟨xs, e1, rfl⟩ := Option.map_eq_some_iff.mp e
        obtain ⟨a, ws, rfl, hq, hl, dl⟩ := S.seqL h1 e1
        exact call_list_of pins s σ H _ us Q I r ⟨a, ws, rfl, .inl (SqL.of hq), fun p hp => q (.non, .lst ws) ⟨_, rfl, hl, dl⟩ p hp⟩
  · cases e
/-- dict(d) -/
def gDict : GN := fun μ ds => match ds with
  | [x] => (dctV μ x).map .dict
  | _ => none
theorem cal_dict : CalN X (.type "dict") gDict := by
  rintro pins s σ H vs us Q I r ⟨μ, α, R, ds, c, S, h, e, q⟩
  unfold gDict at e
  split at e
  · obtain ⟨v, rfl, h1⟩ := denL1 h
    obtain ⟨kvs, e1, rfl⟩ := Option.map_eq_some_iff.mp e
    obtain ⟨a, ks, rfl, hd, hl, dk⟩ := S.dctV h1 e1
    exact call_dictD pins s σ H _ us Q I r ⟨a, ks, rfl, hd, fun p hp => q (.non, .dK _) ⟨_, rfl, hl, dk⟩ p hp⟩
  · cases e
/-- tuple(x) -/
def gTuple : GL := fun μ ds => match ds with
  | [.tuple xs] => some (.tuple xs)
  | [x] => (seqL μ x).map .tuple
  | _ => none
theorem cal_tuple : CalR X (.type "tuple") gTuple := by
  rintro pins s σ H vs us Q I r ⟨μ, α, R, ds, d, S, h, e, q⟩
  unfold gTuple at e
  split at e
  · obtain ⟨v, rfl, h1⟩ := denL1 h
    cases e
    cases h1 with
    | tuple a1 a2 a3 => exact call_tuple_of pins s σ H _ us Q I r ⟨_, _, rfl, .inr ⟨S.sqT a1, q _ R H S .refl (.tuple a1 a2 a3)⟩⟩
  · obtain ⟨v, rfl, h1⟩ := denL1 h
    obtain ⟨xs, e1, rfl⟩ := Option.map_eq_some_iff.mp e
    obtain ⟨a, ws, rfl, hq, hl, dl⟩ := S.seqL h1 e1
    refine call_tuple_of pins s σ H _ us Q I r ⟨_, _, rfl, .inl ⟨SqL.of hq, fun p hp => ?_⟩⟩
    obtain ⟨S2, A2⟩ := S.lay (u := .tup ws) hp
    exact q _ _ _ S2 A2 (.tuple (.inl (.inl upd_same)) hl (dl.adv A2))
  · cases e
/-! ### isinstance(x, T), T a built-in type -/
def typeNm (μ : Mu) : D → Option String
  | .none => some "NoneType"
  | .bool _ => some "bool"
  | .int _ => some "int"
  | .str _ => some "str"
  | .list _ => some "list"
  | .tuple _ => some "tuple"
  | .dict _ => some "dict"
  | .script _ => some "list"
  | .loc n => match μ[n]? with
    | some (some (.list _)) => some "list"
    | some (some (.dict _)) => some "dict"
    | _ => none
  | _ => none
def tyIs (n T : String) : Bool := n == T || (n == "bool" && T == "int")
def KitOk (T : String) : Prop := ∀ n ∈ (["NoneType", "bool", "int", "str", "list", "tuple", "dict"] : List String), kitB n T = some (tyIs n T)
theorem kit_int : KitOk "int" := by unfold KitOk; decide +kernel
theorem kit_bool : KitOk "bool" := by unfold KitOk; decide +kernel
theorem kit_str : KitOk "str" := by unfold KitOk; decide +kernel
theorem kit_list : KitOk "list" := by unfold KitOk; decide +kernel
theorem kit_tuple : KitOk "tuple" := by unfold KitOk; decide +kernel
theorem kit_dict : KitOk "dict" := by unfold KitOk; decide +kernel
theorem ty_den {K : PySem.W.Frag} {mg : Str → Option Value} {R H : Hp} {α : List Addr} {μ : Mu} {v : V} {d : D} {n : String} (S : SM K mg μ α R H) (h : Den K mg R α v d) (e : typeNm μ d = some n) :
    TyX K H v (.type n) ∧ n ∈ (["NoneType", "bool", "int", "str", "list", "tuple", "dict"] : List String) := by
  have sl : ∀ {a : Addr} {xs : List V}, SqL K H a xs → TyX K H (.ref a) (.type "list") := fun {a xs} q => by
    rcases q with (q | ⟨o, q⟩) | ⟨o, its, n, q1, q2, _⟩
    · exact .base (.lst q)
    · exact .base (.frz q)
    · exact .kList q1 q2
  have stp : ∀ {a : Addr} {xs : List V}, SqT K H a xs → TyX K H (.ref a) (.type "tuple") := fun {a xs} q => by
    rcases q with (q | ⟨o, q⟩) | ⟨o, its, n, q1, q2, _⟩
    · exact .base (.tup q)
    · exact .fTuple q
    · exact .kTuple q1 q2
  have sd : ∀ {a : Addr} {ks : List (Key × V)}, Rd H a (.dK ks) → TyX K H (.ref a) (.type "dict") := fun {a xs} q => by
    rcases q with q | ⟨o, q⟩
    · exact .base (.dK q)
    · exact .fDict q
  cases h with
  | none => cases e; exact ⟨.base .non, by simp⟩
  | bool b => cases e; exact ⟨.base (.bl b), by simp⟩
  | int b => cases e; exact ⟨.base (.int b), by simp⟩
  | str b => cases e; exact ⟨.base (.str b), by simp⟩
  | list q _ _ => cases e; exact ⟨sl (SqL.of (S.lst q)), by simp⟩
  | tuple q _ _ => cases e; exact ⟨stp (S.sqT q), by simp⟩
  | dict q _ _ => cases e; exact ⟨sd (S.dct q), by simp⟩
  | script q => cases e; exact ⟨sl (S.sqL q), by simp⟩
  | obj _ _ _ => cases e
  | fn _ => cases e
  | ty _ => cases e
  | exc _ _ _ _ => cases e
  | loc q =>
    rename_i a k
    simp only [typeNm] at e
    split at e
    · rename_i xs e2
      cases e
      obtain ⟨_, vs, h1, h2, h3⟩ := S.cell k _ a e2 q
      exact ⟨sl (SqL.of h1), by simp⟩
    · rename_i xs e2
      cases e
      obtain ⟨_, vs, h1, h2, h3⟩ := S.cell k _ a e2 q
      exact ⟨sd (.inl h1), by simp⟩
    · cases e
def gIsi : GL := fun μ ds => match ds with
  | [x, .ty T] => if T ∈ (["int", "bool", "str", "list", "tuple", "dict"] : List String) then (typeNm μ x).map fun n => .bool (tyIs n T) else none
  | _ => none
theorem cal_isi : CalR X (.builtin "isinstance") gIsi := by
  rintro pins s σ H vs us Q I r ⟨μ, α, R, ds, d, S, h, e, q⟩
  unfold gIsi at e
  split at e
  · rename_i x T
    split at e
    · rename_i hT
      obtain ⟨n, e1, rfl⟩ := Option.map_eq_some_iff.mp e
      obtain ⟨v, v', rfl, h1, h2⟩ := denL2 h
      cases h2
      obtain ⟨t1, t2⟩ := ty_den S h1 e1
      have k : KitOk T := by
        simp only [List.mem_cons, List.not_mem_nil, or_false] at hT
        rcases hT with rfl | rfl | rfl | rfl | rfl | rfl
        · exact kit_int
        · exact kit_bool
        · exact kit_str
        · exact kit_list
        · exact kit_tuple
        · exact kit_dict
      exact call_isi pins s σ H _ us Q I r ⟨v, _, .type n, .type T, _, rfl, .ty T, t1, kit_ty (k n t2), q _ R H S .refl (.bool _)⟩
    · cases e
  · cases e
theorem de_ty {T : String} (hg : Gl X x) (hm : X.mg x = none) (hv : bootBuiltins x = some (.type T)) (hn : x ≠ "__name__" := by decide) (hd : (x == ("__debug__" : Str)) = false := by decide) : DE X E (.Name x pos) (eC (.ty T)) :=
  de_cst (v := .ty T) (pe_bltn hg hm hv rfl hn hd) fun _ _ => .ty T
end
end TL

set_option Elab.async false
set_option maxRecDepth 100000
set_option maxHeartbeats 1000000
set_option linter.all false
/-! The tree layer, part e: statements, targets, loops, comprehensions. -/
namespace TL
open PySem PySem.Spec PyProof.Rows L2

inductive Flow where
  | nx (ρ : Env) | rt (d : D) | bk (ρ : Env) | ct (ρ : Env)
abbrev FS := Env → Mu → Res Flow
section
variable (K : PySem.W.Frag) (mg : Str → Option Value) (E : XK)
def AfterS (α : List Addr) (R H : Hp) (r : Res Flow) (Dn : Ends) : Prop := match r with
  | .ok (.nx ρ) μ' => ∀ σ' α' R' H', SM K mg μ' α' R' H' → Adv α R H α' R' H' → SS K mg ρ R' α' σ' → Dn.nx σ' H'
  | .ok (.rt d) μ' => ∀ v α' R' H', SM K mg μ' α' R' H' → Adv α R H α' R' H' → Den K mg R' α' v d → Dn.rt v H'
  | .ok (.bk ρ) μ' => ∀ σ' α' R' H', SM K mg μ' α' R' H' → Adv α R H α' R' H' → SS K mg ρ R' α' σ' → Dn.bk σ' H'
  | .ok (.ct ρ) μ' => ∀ σ' α' R' H', SM K mg μ' α' R' H' → Adv α R H α' R' H' → SS K mg ρ R' α' σ' → Dn.ct σ' H'
  | .ex x μ' => ∀ cls od α' R' H', SM K mg μ' α' R' H' → Adv α R H α' R' H' → DenX K mg R' α' H' cls od x → E cls od H'
  | .bad => False
def LiftS (f : FS) : TS := fun Dn σ H => ∃ ρ μ α R, SM K mg μ α R H ∧ SS K mg ρ R α σ ∧ AfterS K mg E α R H (f ρ μ) Dn
end
section
variable {K : PySem.W.Frag} {mg : Str → Option Value} {E : XK} {R R' H H' : Hp} {α α' : List Addr} {μ μ' : Mu} {Dn : Ends}
theorem AfterS.adv {r : Res Flow} (A : Adv α R H α' R' H') (h : AfterS K mg E α R H r Dn) : AfterS K mg E α' R' H' r Dn := by
  cases r with
  | ok f μ1 => cases f with
    | nx ρ => exact fun σ' α2 R2 H2 S2 A2 q => h σ' α2 R2 H2 S2 (A.trans A2) q
    | rt ρ => exact fun σ' α2 R2 H2 S2 A2 q => h σ' α2 R2 H2 S2 (A.trans A2) q
    | bk ρ => exact fun σ' α2 R2 H2 S2 A2 q => h σ' α2 R2 H2 S2 (A.trans A2) q
    | ct ρ => exact fun σ' α2 R2 H2 S2 A2 q => h σ' α2 R2 H2 S2 (A.trans A2) q
  | ex x μ1 => exact fun c o α2 R2 H2 S2 A2 q => h c o α2 R2 H2 S2 (A.trans A2) q
  | bad => exact h
/-- an expression first, then the rest of a statement -/
theorem AfterS.bind {ω τ : Type} {rel : Hp → List Addr → ω → τ → Prop} {r : Res τ} {k : τ → Mu → Res Flow} {Q1 : ω → Hp → Prop} (h : AfterS K mg E α R H (r.bind k) Dn)
    (go : ∀ d μ1 w α1 R1 H1, SM K mg μ1 α1 R1 H1 → Adv α R H α1 R1 H1 → rel R1 α1 w d → AfterS K mg E α1 R1 H1 (k d μ1) Dn → Q1 w H1) : After K mg E rel α R H r Q1 := by
  cases r with
  | ok d μ1 => exact fun w α1 R1 H1 S A q => go d μ1 w α1 R1 H1 S A q (AfterS.adv (Dn := Dn) (r := k d μ1) A h)
  | ex x μ1 => exact h
  | bad => exact h
/-- a statement first, then the rest -/
theorem AfterS.seq {r : Res Flow} {k : Flow → Mu → Res Flow} {D1 : Ends} (h : AfterS K mg E α R H (r.bind k) Dn)
    (nx : ∀ ρ μ1 σ1 α1 R1 H1, SM K mg μ1 α1 R1 H1 → Adv α R H α1 R1 H1 → SS K mg ρ R1 α1 σ1 → AfterS K mg E α1 R1 H1 (k (.nx ρ) μ1) Dn → D1.nx σ1 H1)
    (rt : ∀ d μ1 v α1 R1 H1, SM K mg μ1 α1 R1 H1 → Adv α R H α1 R1 H1 → Den K mg R1 α1 v d → AfterS K mg E α1 R1 H1 (k (.rt d) μ1) Dn → D1.rt v H1)
    (bk : ∀ ρ μ1 σ1 α1 R1 H1, SM K mg μ1 α1 R1 H1 → Adv α R H α1 R1 H1 → SS K mg ρ R1 α1 σ1 → AfterS K mg E α1 R1 H1 (k (.bk ρ) μ1) Dn → D1.bk σ1 H1)
    (ct : ∀ ρ μ1 σ1 α1 R1 H1, SM K mg μ1 α1 R1 H1 → Adv α R H α1 R1 H1 → SS K mg ρ R1 α1 σ1 → AfterS K mg E α1 R1 H1 (k (.ct ρ) μ1) Dn → D1.ct σ1 H1) : AfterS K mg E α R H r D1 := by
  cases r with
  | ok f μ1 =>
    have h' : AfterS K mg E α R H (k f μ1) Dn := h
    cases f with
    | nx ρ => exact fun σ' α2 R2 H2 S2 A2 q => nx ρ μ1 σ' α2 R2 H2 S2 A2 q (h'.adv A2)
    | rt ρ => exact fun σ' α2 R2 H2 S2 A2 q => rt ρ μ1 σ' α2 R2 H2 S2 A2 q (h'.adv A2)
    | bk ρ => exact fun σ' α2 R2 H2 S2 A2 q => bk ρ μ1 σ' α2 R2 H2 S2 A2 q (h'.adv A2)
    | ct ρ => exact fun σ' α2 R2 H2 S2 A2 q => ct ρ μ1 σ' α2 R2 H2 S2 A2 q (h'.adv A2)
  | ex x μ1 => exact h
  | bad => exact h
end
def DS (X : Cx) (E : XK) (st : Stmt) (f : FS) : Prop := PS X st (LiftS X.K X.mg E f)
def DSs (X : Cx) (E : XK) (st : List Stmt) (f : FS) : Prop := PSs X st (LiftS X.K X.mg E f)
def sNil : FS := fun ρ μ => .ok (.nx ρ) μ
def sSeq (f g : FS) : FS := fun ρ μ => (f ρ μ).bind fun fl μ1 => match fl with
  | .nx ρ1 => g ρ1 μ1
  | fl => .ok fl μ1
def sBk : FS := fun ρ μ => .ok (.bk ρ) μ
def sCt : FS := fun ρ μ => .ok (.ct ρ) μ
def sExpr (f : FE) : FS := fun ρ μ => (f ρ μ).bind fun _ μ1 => .ok (.nx ρ) μ1
def sRet (f : FE) : FS := fun ρ μ => (f ρ μ).bind fun d μ1 => .ok (.rt d) μ1
def sRetN : FS := fun _ μ => .ok (.rt .none) μ
def sIf (c : FT) (f g : FS) : FS := fun ρ μ => (c ρ μ).bind fun b μ1 => if b = true then f ρ μ1 else g ρ μ1
def sSet (i : Nat) (f : FE) : FS := fun ρ μ => (f ρ μ).bind fun d μ1 => .ok (.nx (ρ.set i (some d))) μ1
section
variable {X : Cx} {E : XK} {st : Stmt} {rest : List Stmt} {f g : FS} {e c : Expr} {fe : FE} {pos : Pos}
theorem SS.set {K : PySem.W.Frag} {mg : Str → Option Value} {R : Hp} {α : List Addr} {ρ : Env} {σ : L2.St} {v : V} {d : D} (V : SS K mg ρ R α σ) (i : Nat) (h : Den K mg R α v d) : SS K mg (ρ.set i (some d)) R α (σ.set i (some v)) := by
  refine ⟨by simp [V.1], fun j x q => ?_⟩
  by_cases hj : i = j
  · subst hj
    have hl : i < ρ.length := by
      have := (List.getElem?_eq_some_iff.mp q).1
      simpa using this
    rw [List.getElem?_set_self hl] at q
    cases q
    exact ⟨v, List.getElem?_set_self (by rw [← V.1]; exact hl), h⟩
  · rw [List.getElem?_set_ne hj] at q
    obtain ⟨w, h1, h2⟩ := V.2 j x q
    exact ⟨w, by rw [List.getElem?_set_ne hj]; exact h1, h2⟩
theorem dss_nil : DSs X E [] sNil := wSs pss_nil fun Dn σ H ⟨ρ, μ, α, R, S, V, h⟩ => h σ α R H S .refl V
theorem dss_cons (h1 : DS X E st f) (h2 : DSs X E rest g) : DSs X E (st :: rest) (sSeq f g) :=
  wSs (pss_cons h1 h2) fun Dn σ H ⟨ρ, μ, α, R, S, V, h⟩ => ⟨ρ, μ, α, R, S, V, h.seq
    (fun ρ1 μ1 σ1 α1 R1 H1 S1 A1 V1 q => ⟨ρ1, μ1, α1, R1, S1, V1, q⟩)
    (fun d μ1 v α1 R1 H1 S1 A1 q1 q => q v α1 R1 H1 S1 .refl q1)
    (fun d μ1 v α1 R1 H1 S1 A1 q1 q => q v α1 R1 H1 S1 .refl q1)
    (fun d μ1 v α1 R1 H1 S1 A1 q1 q => q v α1 R1 H1 S1 .refl q1)⟩
theorem dss_one (h1 : DS X E st f) : DSs X E [st] f := pss_one h1
theorem ds_pass : DS X E (.Pass pos) sNil := wS ps_pass fun Dn σ H ⟨ρ, μ, α, R, S, V, h⟩ => h σ α R H S .refl V
theorem ds_break : DS X E (.Break pos) sBk := wS ps_break fun Dn σ H ⟨ρ, μ, α, R, S, V, h⟩ => h σ α R H S .refl V
theorem ds_continue : DS X E (.Continue pos) sCt := wS ps_continue fun Dn σ H ⟨ρ, μ, α, R, S, V, h⟩ => h σ α R H S .refl V
theorem ds_doc {x j pos pos'} : DS X E (.Expr (.Constant (.str x) j pos) pos') sNil := wS ps_doc fun Dn σ H ⟨ρ, μ, α, R, S, V, h⟩ => h σ α R H S .refl V
theorem ds_expr (he : DE X E e fe) (hs : swapsWith e none pos.line X.env = pure false := by rfl) : DS X E (.Expr e pos) (sExpr fe) :=
  wS (ps_expr he hs) fun Dn σ H ⟨ρ, μ, α, R, S, V, h⟩ => ⟨ρ, μ, α, R, S, V, h.bind fun d μ1 v α1 R1 H1 S1 A1 q1 q => q σ α1 R1 H1 S1 .refl (V.adv A1)⟩
theorem ds_ret (he : DE X E e fe) : DS X E (.Return (some e) pos) (sRet fe) :=
  wS (ps_ret he) fun Dn σ H ⟨ρ, μ, α, R, S, V, h⟩ => ⟨ρ, μ, α, R, S, V, h.bind fun d μ1 v α1 R1 H1 S1 A1 q1 q => q v α1 R1 H1 S1 .refl q1⟩
theorem ds_retN : DS X E (.Return none pos) sRetN := wS ps_retN fun Dn σ H ⟨ρ, μ, α, R, S, V, h⟩ => h .non α R H S .refl .none
theorem ds_if {a b : List Stmt} {tc : FT} (hc : DT X E c tc) (ha : DSs X E a f) (hb : DSs X E b g) : DS X E (.If c a b pos) (sIf tc f g) :=
  wS (ps_if hc ha hb) fun Dn σ H ⟨ρ, μ, α, R, S, V, h⟩ => ⟨ρ, μ, α, R, S, V, h.bind fun b μ1 c α1 R1 H1 S1 A1 q1 q => by
    cases q1
    cases b with
    | true => exact ⟨ρ, μ1, α1, R1, S1, V.adv A1, q⟩
    | false => exact ⟨ρ, μ1, α1, R1, S1, V.adv A1, q⟩⟩
theorem ds_set {i : Nat} {x : Str} {pos' : Pos} (hN : X.N.Nodup) (hi : X.N[i]? = some x) (hx : Loc X.env.scope x) (he : DE X E e fe) (hs : swapsWith e (some (.Name x pos')) pos.line X.env = pure false := by rfl) (hf : X.fn x = true ∨ X.env.scope.names.lookup x = some .local := by first | exact .inl rfl | exact .inr rfl | assumption) :
    DS X E (.Assign [.Name x pos'] e pos) (sSet i fe) :=
  wS (ps_set hN hi hx he hs hf) fun Dn σ H ⟨ρ, μ, α, R, S, V, h⟩ => ⟨ρ, μ, α, R, S, V, h.bind fun d μ1 v α1 R1 H1 S1 A1 q1 q => q _ α1 R1 H1 S1 .refl ((V.adv A1).set i q1)⟩
end
/-! ### targets of names and tuples -/
inductive Tg where
  | nm (i : Nat) | tp (ts : List Tg)
mutual
def tgSet : Tg → D → Env → Option Env
  | .nm i, d, ρ => some (ρ.set i (some d))
  | .tp ts, d, ρ => match d with
    | .tuple xs => tgSets ts xs ρ
    | _ => none
def tgSets : List Tg → List D → Env → Option Env
  | [], [], ρ => some ρ
  | t :: ts, x :: xs, ρ => match tgSet t x ρ with
    | some ρ1 => tgSets ts xs ρ1
    | none => none
  | _, _, _ => none
end
mutual
def tgSlots : Tg → List Nat
  | .nm i => [i]
  | .tp ts => tgSlotss ts
def tgSlotss : List Tg → List Nat
  | [] => []
  | t :: ts => tgSlots t ++ tgSlotss ts
end
mutual
def hG (K : PySem.W.Frag) : Tg → TG
  | .nm i => gName i
  | .tp ts => gTup K ts.length (hGs K ts)
def hGs (K : PySem.W.Frag) : List Tg → TGs
  | [] => gNil
  | t :: ts => gCons (hG K t) (hGs K ts)
end
theorem wipe_none {σ : L2.St} {i : Nat} : ∀ {vs : List Nat}, i ∈ vs → ∀ x, (wipe σ vs)[i]? ≠ some (some x) := fun {vs} h x e => (wipe_some e).2 h
theorem wipe_ext {σ σ' : L2.St} {vs : List Nat} (hl : σ'.length = σ.length) (h : ∀ i, i ∉ vs → σ'[i]? = σ[i]?) : wipe σ' vs = wipe σ vs := by
  have key : ∀ (us : List Nat) (τ : L2.St) (i : Nat), (wipe τ us)[i]? = if i ∈ us ∧ i < τ.length then some none else τ[i]? := by
    intro us
    induction us with
    | nil => intro τ i; simp [wipe]
    | cons u us ih =>
      intro τ i
      show ((wipe τ us).set u none)[i]? = _
      by_cases e : u = i
      · subst e
        by_cases hu : u < τ.length
        · rw [List.getElem?_set_self (by rw [wipe_length]; exact hu), if_pos ⟨by simp, hu⟩]
        · rw [List.getElem?_eq_none (by simp [wipe_length]; omega), if_neg (fun q => hu q.2), List.getElem?_eq_none (by omega)]
      · rw [List.getElem?_set_ne e, ih]
        by_cases q : i ∈ us ∧ i < τ.length
        · rw [if_pos q, if_pos ⟨List.mem_cons_of_mem _ q.1, q.2⟩]
        · rw [if_neg q, if_neg fun z => q ⟨(List.mem_cons.mp z.1).resolve_left (fun w => e w.symm), z.2⟩]
  apply List.ext_getElem?
  intro i
  rw [key, key, hl]
  by_cases q : i ∈ vs ∧ i < σ.length
  · rw [if_pos q, if_pos q]
  · rw [if_neg q, if_neg q]
    by_cases hi : i < σ.length
    · exact h i fun z => q ⟨z, hi⟩
    · rw [List.getElem?_eq_none (by omega), List.getElem?_eq_none (by omega)]
section
variable {K : PySem.W.Frag} {mg : Str → Option Value} {R H : Hp} {α : List Addr} {μ : Mu}
mutual
theorem tg_ok (S : SM K mg μ α R H) : ∀ (T : Tg) (d : D) (v : V) (ρ ρ' : Env) (σ : L2.St) (Q : L2.St → Hp → Prop), SS K mg ρ R α σ → Den K mg R α v d → tgSet T d ρ = some ρ' →
    (∀ σ', SS K mg ρ' R α σ' → σ'.length = σ.length → (∀ i, i ∉ tgSlots T → σ'[i]? = σ[i]?) → Q σ' H) → hG K T v σ H Q
  | .nm i, d, v, ρ, ρ', σ, Q, V, h, e, q => by
    simp only [tgSet] at e
    cases e
    simp only [hG]
    exact q _ (V.set i h) (by simp) fun j hj => List.getElem?_set_ne (fun z => hj (by simp [tgSlots, z]))
  | .tp ts, d, v, ρ, ρ', σ, Q, V, h, e, q => by
    simp only [tgSet] at e
    split at e
    · rename_i xs
      cases h with
      | tuple h1 h2 h3 =>
        rename_i a vs
        have hl := tgs_len ts xs ρ ρ' e
        simp only [hG]
        exact ⟨a, vs, rfl, S.sqT h1, by rw [h3.len, hl], tgs_ok S ts xs vs ρ ρ' σ Q V h3 e fun σ' V' l z => q σ' V' l fun i hi => z i (by simpa [tgSlots] using hi)⟩
    · cases e
theorem tgs_ok (S : SM K mg μ α R H) : ∀ (T : List Tg) (d : List D) (v : List V) (ρ ρ' : Env) (σ : L2.St) (Q : L2.St → Hp → Prop), SS K mg ρ R α σ → DenL K mg R α v d → tgSets T d ρ = some ρ' →
    (∀ σ', SS K mg ρ' R α σ' → σ'.length = σ.length → (∀ i, i ∉ tgSlotss T → σ'[i]? = σ[i]?) → Q σ' H) → hGs K T v σ H Q
  | [], [], _, ρ, ρ', σ, Q, V, .nil, e, q => by
    simp only [tgSets] at e
    cases e
    simp only [hGs]
    exact ⟨rfl, q σ V rfl fun _ _ => rfl⟩
  | [], _ :: _, _, ρ, ρ', σ, Q, V, _, e, q => by simp [tgSets] at e
  | _ :: _, [], _, ρ, ρ', σ, Q, V, _, e, q => by simp [tgSets] at e
  | t :: ts, x :: xs, _, ρ, ρ', σ, Q, V, .cons h1 h2, e, q => by
    simp only [tgSets] at e
    split at e
    · rename_i ρ1 e1
      simp only [hGs]
      refine ⟨_, _, rfl, tg_ok S t x _ ρ ρ1 σ _ V h1 e1 fun σ1 V1 l1 z1 => tgs_ok S ts xs _ ρ1 ρ' σ1 Q V1 h2 e fun σ2 V2 l2 z2 => q σ2 V2 (l2.trans l1) fun i hi => ?_⟩
      simp only [tgSlotss, List.mem_append, not_or] at hi
      rw [z2 i hi.2, z1 i hi.1]
    · cases e
theorem tgs_len : ∀ (ts : List Tg) (xs : List D) (ρ ρ' : Env), tgSets ts xs ρ = some ρ' → xs.length = ts.length
  | [], [], _, _, _ => rfl
  | [], _ :: _, _, _, e => by simp [tgSets] at e
  | _ :: _, [], _, _, e => by simp [tgSets] at e
  | t :: ts, x :: xs, ρ, ρ', e => by
    simp only [tgSets] at e
    split at e
    · simp only [List.length_cons, tgs_len ts xs _ ρ' e]
    · cases e
end
end
section
variable {X : Cx} {E : XK} {pos : Pos}
def GT (X : Cx) (tg : Expr) (T : Tg) : Prop := PG X tg (hG X.K T)
def GTs (X : Cx) (tg : List Expr) (T : List Tg) : Prop := PGs X tg (hGs X.K T) ∧ tg.length = T.length
theorem gt_nm {i : Nat} {x : Str} (hN : X.N.Nodup) (hi : X.N[i]? = some x) (hx : Loc X.env.scope x) (hf : X.fn x = true ∨ X.env.scope.names.lookup x = some .local := by first | exact .inl rfl | exact .inr rfl | assumption) : GT X (.Name x pos) (.nm i) := by
  unfold GT; simp only [hG]; exact pg_name hN hi hx hf
theorem gts_nil : GTs X [] [] := by unfold GTs; simp only [hGs]; exact ⟨pgs_nil, rfl⟩
theorem gts_cons {e : Expr} {es : List Expr} {t : Tg} {ts : List Tg} (h1 : GT X e t) (h2 : GTs X es ts) (hs : (assignEach (e :: es) X.env).map (·.2) = assign e X.env :: (assignEach es X.env).map (·.2) := by rfl) : GTs X (e :: es) (t :: ts) := by
  unfold GTs; simp only [hGs]; exact ⟨pgs_cons h1 h2.1 hs, by simp [h2.2]⟩
theorem gt_tp {es : List Expr} {k : Nat} {ts : List Tg} (hc : X.calm = true) (h : GTs X es ts) (hn : (assignEach es X.env).length = ts.length := by rfl) (hst : (assignEach es X.env).findIdx? (·.1) = none := by rfl) : GT X (.Tuple es k pos) (.tp ts) := by
  unfold GT; simp only [hG]; exact pg_tup hc h.1 hn hst
def sAsg (T : Tg) (f : FE) : FS := fun ρ μ => (f ρ μ).bind fun d μ1 => match tgSet T d ρ with
  | some ρ1 => .ok (.nx ρ1) μ1
  | none => .bad
theorem ds_asg {tg e : Expr} {T : Tg} {fe : FE} (he : DE X E e fe) (hg : GT X tg T) (hs : swapsWithSole [tg] e pos.line X.env = pure false := by rfl) (hw : swappedStores [tg] e X.env = pure none := by rfl)
    (h1 : (assignEach [tg] X.env).map (·.2) = [assign tg X.env] := by rfl) : DS X E (.Assign [tg] e pos) (sAsg T fe) :=
  wS (ps_asg he hg hs hw h1) fun Dn σ H ⟨ρ, μ, α, R, S, V, h⟩ => ⟨ρ, μ, α, R, S, V, h.bind fun d μ1 v α1 R1 H1 S1 A1 q1 q => by
    cases e : tgSet T d ρ with
    | none => rw [e] at q; exact False.elim q
    | some ρ1 =>
      rw [e] at q
      exact tg_ok S1 T d v ρ ρ1 σ _ (V.adv A1) q1 e fun σ' V' _ _ => q σ' α1 R1 H1 S1 .refl V'⟩
/-- a, b = x, y of plain names -/
def sPar2 (i j : Nat) (t : FA) : FS := fun ρ μ => (t ρ μ).bind fun ds μ1 => match ds with
  | [x, y] => .ok (.nx ((ρ.set i (some x)).set j (some y))) μ1
  | _ => .bad
theorem ds_par2 {i j : Nat} {x y : Str} {a b : Expr} {ta : FA} {px py pt : Pos} {kt k2 pt2} (hc : X.calm = true) (hN : X.N.Nodup) (hi : X.N[i]? = some x) (hj : X.N[j]? = some y) (hij : i ≠ j)
    (hx : X.env.scope.names.lookup x = some .local) (hy : X.env.scope.names.lookup y = some .local) (ha : DA X E [a, b] ta)
    (hw : swappedStores [.Tuple [.Name x px, .Name y py] kt pt] (.Tuple [a, b] k2 pt2) X.env = pure (some [x, y]) := by rfl)
    (hs : swapsWithSole [.Tuple [.Name x px, .Name y py] kt pt] (.Tuple [a, b] k2 pt2) pos.line X.env = pure false := by rfl) :
    DS X E (.Assign [.Tuple [.Name x px, .Name y py] kt pt] (.Tuple [a, b] k2 pt2) pos) (sPar2 i j ta) :=
  wS (ps_par hc hN hi hj hij hx hy ha hw hs) fun Dn σ H ⟨ρ, μ, α, R, S, V, h⟩ => ⟨ρ, μ, α, R, S, V, h.bind fun ds μ1 vs α1 R1 H1 S1 A1 q1 q => by
    cases q1 with
    | nil => exact False.elim q
    | cons p1 t => cases t with
      | nil => exact False.elim q
      | cons p2 t => cases t with
        | nil => exact ⟨_, _, rfl, q _ α1 R1 H1 S1 .refl (((V.adv A1).set i p1).set j p2)⟩
        | cons _ _ => exact False.elim q⟩
def sPar3 (i j l : Nat) (t : FA) : FS := fun ρ μ => (t ρ μ).bind fun ds μ1 => match ds with
  | [x, y, z] => .ok (.nx (((ρ.set i (some x)).set j (some y)).set l (some z))) μ1
  | _ => .bad
end
/-! ### for -/
/-- what is walked: the items as trees; chk: what must hold of the store at each turn -/
structure Iter where
  items : List D
  chk : Mu → Bool
abbrev FI := Env → Mu → Res Iter
/-- J gives these items from (α, R, H) on -/
structure Good (K : PySem.W.Frag) (mg : Str → Option Value) (J : It) (it : Iter) (α : List Addr) (R H : Hp) : Prop where
  len : it.items.length ≤ sizeLine
  go : ∀ μ' α' R' H' (i : Nat) d, SM K mg μ' α' R' H' → Adv α R H α' R' H' → it.chk μ' = true → it.items[i]? = some d →
    J.go i H' ∧ ∀ x H2, J.yld i H' x H2 → ∃ R2, SM K mg μ' α' R2 H2 ∧ Adv α' R' H' α' R2 H2 ∧ Den K mg R2 α' x d
  stop : ∀ μ' α' R' H', SM K mg μ' α' R' H' → Adv α R H α' R' H' → it.chk μ' = true → J.stop it.items.length H'
def AfterI (K : PySem.W.Frag) (mg : Str → Option Value) (E : XK) (α : List Addr) (R H : Hp) (r : Res Iter) (Rr : It → Hp → Prop) : Prop := match r with
  | .ok it μ1 => ∀ J α1 R1 H1, SM K mg μ1 α1 R1 H1 → Adv α R H α1 R1 H1 → Good K mg J it α1 R1 H1 → Rr J H1
  | .ex x μ' => ∀ cls od α' R' H', SM K mg μ' α' R' H' → Adv α R H α' R' H' → DenX K mg R' α' H' cls od x → E cls od H'
  | .bad => False
def LiftI (K : PySem.W.Frag) (mg : Str → Option Value) (E : XK) (f : FI) : TI := fun σ H Rr => ∃ ρ μ α R, SM K mg μ α R H ∧ SS K mg ρ R α σ ∧ AfterI K mg E α R H (f ρ μ) Rr
def DI (X : Cx) (E : XK) (tg iter : Expr) (f : FI) : Prop := PI X tg iter (LiftI X.K X.mg E f)
/-- the turns -/
def forL (chk : Mu → Bool) (T : Tg) (body : FS) : List D → Env → Mu → Res Flow
  | [], ρ, μ => if chk μ = true then .ok (.nx ρ) μ else .bad
  | x :: xs, ρ, μ => if chk μ = true then (match tgSet T x ρ with
    | some ρ1 => (body ρ1 μ).bind fun fl μ1 => match fl with
      | .nx ρ2 => forL chk T body xs ρ2 μ1
      | .ct ρ2 => forL chk T body xs ρ2 μ1
      | .bk ρ2 => .ok (.nx ρ2) μ1
      | .rt d => .ok (.rt d) μ1
    | none => .bad) else .bad
def sFor (f : FI) (T : Tg) (body : FS) : FS := fun ρ μ => (f ρ μ).bind fun it μ1 => forL it.chk T body it.items ρ μ1
section
variable {X : Cx} {E : XK} {pos : Pos}
theorem ds_for {iter tg : Expr} {body : List Stmt} {fi : FI} {T : Tg} {fb : FS} (hp : PassesOwn (model X.prog X.w) X.A X.env X.xe) (hc : X.calm = true) (hi : DI X E tg iter fi) (hg : GT X tg T) (hb : DSs X E body fb)
    (hs : ∀ x, foldedSetIterable iter X.env x = pure x := by intro _; rfl) : DS X E (.For tg iter body [] pos) (sFor fi T fb) :=
  wS (ps_for hp hc hi hg hb hs) fun Dn σ H ⟨ρ, μ, α, R, S, V, h⟩ => by
    refine ⟨ρ, μ, α, R, S, V, ?_⟩
    unfold sFor at h
    cases e : fi ρ μ with
    | bad => rw [e] at h; exact h
    | ex x μ1 => rw [e] at h; exact h
    | ok it μ1 =>
      rw [e] at h
      intro J α1 R1 H1 S1 A1 G
      have h : AfterS X.K X.mg E α1 R1 H1 (forL it.chk T fb it.items ρ μ1) Dn := AfterS.adv A1 h
      refine ⟨fun i m σ H => ∃ ρ μ α R, SM X.K X.mg μ α R H ∧ SS X.K X.mg ρ R α σ ∧ Adv α1 R1 H1 α R H ∧ m = it.items.length - i ∧ i ≤ it.items.length ∧ AfterS X.K X.mg E α R H (forL it.chk T fb (it.items.drop i) ρ μ) Dn,
        ⟨it.items.length, ρ, μ1, α1, R1, S1, V.adv A1, .refl, by simp, by simp, by simpa using h⟩, ?_⟩
      rintro i m σ H ⟨ρ, μ, α, R, S, V, A, rfl, hi, h⟩
      by_cases hlt : i < it.items.length
      · right
        rw [List.drop_eq_getElem_cons hlt] at h
        unfold forL at h
        split at h
        · rename_i hk
          have hx : it.items[i]? = some it.items[i] := List.getElem?_eq_getElem hlt
          obtain ⟨g1, g2⟩ := G.go μ α R H i _ S A hk hx
          refine ⟨g1, fun σ' H' => ∃ m', m' < it.items.length - i ∧ ∃ ρ μ α R, SM X.K X.mg μ α R H' ∧ SS X.K X.mg ρ R α σ' ∧ Adv α1 R1 H1 α R H' ∧ m' = it.items.length - (i + 1) ∧ i + 1 ≤ it.items.length ∧ AfterS X.K X.mg E α R H' (forL it.chk T fb (it.items.drop (i + 1)) ρ μ) Dn,
            fun σ' H' q => q, fun x H2 y => ?_⟩
          obtain ⟨R2, S2, A2, q2⟩ := g2 x H2 y
          split at h
          · rename_i ρ1 eT
            refine tg_ok S2 T _ x ρ ρ1 σ _ (V.adv A2) q2 eT fun σ2 V2 _ _ => ⟨ρ1, μ, α, R2, S2, V2, ?_⟩
            have h' := AfterS.adv A2 h
            refine h'.seq ?_ ?_ ?_ ?_
            · intro ρ3 μ3 σ3 α3 R3 H3 S3 A3 V3 q
              exact ⟨_, by omega, ρ3, μ3, α3, R3, S3, V3, (A.trans A2).trans A3, rfl, hlt, q⟩
            · intro d μ3 v α3 R3 H3 S3 A3 q3 q
              exact q v α3 R3 H3 S3 .refl q3
            · intro ρ3 μ3 σ3 α3 R3 H3 S3 A3 V3 q
              exact q σ3 α3 R3 H3 S3 .refl V3
            · intro ρ3 μ3 σ3 α3 R3 H3 S3 A3 V3 q
              exact ⟨_, by omega, ρ3, μ3, α3, R3, S3, V3, (A.trans A2).trans A3, rfl, hlt, q⟩
          · exact False.elim h
        · exact False.elim h
      · left
        have hn : i = it.items.length := by omega
        subst hn
        rw [List.drop_length] at h
        unfold forL at h
        split at h
        · rename_i hk
          exact ⟨G.stop μ α R H S A hk, h σ α R H S .refl V⟩
        · exact False.elim h
end
end TL

set_option Elab.async false
set_option maxRecDepth 100000
set_option maxHeartbeats 1000000
set_option linter.all false
/-! The tree layer, part f: what is walked; comprehensions; while. -/
namespace TL
open PySem PySem.Spec PyProof.Rows L2

mutual
/-- the same tree -/
def same : D → D → Bool
  | .none, .none => true
  | .bool a, .bool b => a == b
  | .int a, .int b => a == b
  | .str a, .str b => decide (a = b)
  | .list a, .list b => sames a b
  | .tuple a, .tuple b => sames a b
  | .dict a, .dict b => sameK a b
  | .obj c a, .obj d b => decide (c = d) && sameF a b
  | .loc a, .loc b => a == b
  | .fn a, .fn b => decide (a = b)
  | .script a, .script b => decide (a = b)
  | .ty a, .ty b => a == b
  | .exc c a, .exc d b => decide (c = d) && sameF a b
  | _, _ => false
def sames : List D → List D → Bool
  | [], [] => true
  | x :: xs, y :: ys => same x y && sames xs ys
  | _, _ => false
def sameK : List (Key × D) → List (Key × D) → Bool
  | [], [] => true
  | (k, x) :: xs, (l, y) :: ys => decide (k = l) && same x y && sameK xs ys
  | _, _ => false
def sameF : List (Str × D) → List (Str × D) → Bool
  | [], [] => true
  | (k, x) :: xs, (l, y) :: ys => decide (k = l) && same x y && sameF xs ys
  | _, _ => false
end
mutual
theorem same_eq : ∀ (a b : D), same a b = true → a = b
  | .none, b, h => by cases b <;> simp [same] at h <;> rfl
  | .bool a, b, h => by cases b <;> simp [same] at h; subst h; rfl
  | .int a, b, h => by cases b <;> simp [same] at h; subst h; rfl
  | .str a, b, h => by cases b <;> simp [same] at h; subst h; rfl
  | .list a, b, h => by cases b <;> simp [same] at h; rw [sames_eq _ _ h]
  | .tuple a, b, h => by cases b <;> simp [same] at h; rw [sames_eq _ _ h]
  | .dict a, b, h => by cases b <;> simp [same] at h; rw [sameK_eq _ _ h]
  | .obj c a, b, h => by cases b <;> simp [same] at h; rw [h.1, sameF_eq _ _ h.2]
  | .loc a, b, h => by cases b <;> simp [same] at h; subst h; rfl
  | .fn a, b, h => by cases b <;> simp [same] at h; subst h; rfl
  | .script a, b, h => by cases b <;> simp [same] at h; subst h; rfl
  | .ty a, b, h => by cases b <;> simp [same] at h; subst h; rfl
  | .exc c a, b, h => by cases b <;> simp [same] at h; rw [h.1, sameF_eq _ _ h.2]
theorem sames_eq : ∀ (a b : List D), sames a b = true → a = b
  | [], [], _ => rfl
  | [], _ :: _, h => by simp [sames] at h
  | _ :: _, [], h => by simp [sames] at h
  | x :: xs, y :: ys, h => by simp only [sames, Bool.and_eq_true] at h; rw [same_eq _ _ h.1, sames_eq _ _ h.2]
theorem sameK_eq : ∀ (a b : List (Key × D)), sameK a b = true → a = b
  | [], [], _ => rfl
  | [], _ :: _, h => by simp [sameK] at h
  | _ :: _, [], h => by simp [sameK] at h
  | (k, x) :: xs, (l, y) :: ys, h => by simp only [sameK, Bool.and_eq_true, decide_eq_true_eq] at h; rw [h.1.1, same_eq _ _ h.1.2, sameK_eq _ _ h.2]
theorem sameF_eq : ∀ (a b : List (Str × D)), sameF a b = true → a = b
  | [], [], _ => rfl
  | [], _ :: _, h => by simp [sameF] at h
  | _ :: _, [], h => by simp [sameF] at h
  | (k, x) :: xs, (l, y) :: ys, h => by simp only [sameF, Bool.and_eq_true, decide_eq_true_eq] at h; rw [h.1.1, same_eq _ _ h.1.2, sameF_eq _ _ h.2]
end
mutual
theorem same_refl : ∀ (a : D), same a a = true
  | .none => by simp [same]
  | .bool a => by simp [same]
  | .int a => by simp [same]
  | .str a => by simp [same]
  | .list a => by simp [same, sames_refl a]
  | .tuple a => by simp [same, sames_refl a]
  | .dict a => by simp [same, sameK_refl a]
  | .obj c a => by simp [same, sameF_refl a]
  | .loc a => by simp [same]
  | .fn a => by simp [same]
  | .script a => by simp [same]
  | .ty a => by simp [same]
  | .exc c a => by simp [same, sameF_refl a]
theorem sames_refl : ∀ (a : List D), sames a a = true
  | [] => by simp [sames]
  | x :: xs => by simp [sames, same_refl x, sames_refl xs]
theorem sameK_refl : ∀ (a : List (Key × D)), sameK a a = true
  | [] => by simp [sameK]
  | (k, x) :: xs => by simp [sameK, same_refl x, sameK_refl xs]
theorem sameF_refl : ∀ (a : List (Str × D)), sameF a a = true
  | [] => by simp [sameF]
  | (k, x) :: xs => by simp [sameF, same_refl x, sameF_refl xs]
end
/-- a cell list must stay as it is while it is walked -/
def chkC (n : Nat) (xs : List D) (μ : Mu) : Bool := match μ[n]? with
  | some (some (.list ys)) => sames ys xs
  | _ => false
def yes (_ : Mu) : Bool := true
/-- the signs of a text -/
def signs (z : Str) : List D := z.cps.toList.map fun c => .str ⟨#[c]⟩
/-- how a value is walked: a list, a tuple, the script, a text; a dict by its keys -/
def walked (μ : Mu) : D → Option Iter
  | .list xs => some ⟨xs, yes⟩
  | .tuple xs => some ⟨xs, yes⟩
  | .script ns => if ns.length ≤ sizeLine then some ⟨ns.map .int, yes⟩ else none
  | .str z => if z.length ≤ sizeLine then some ⟨signs z, yes⟩ else none
  | .dict kvs => some ⟨kvs.map fun kv => keyD kv.1, yes⟩
  | .loc n => match μ[n]? with
    | some (some (.list xs)) => some ⟨xs, chkC n xs⟩
    | _ => none
  | _ => none
def iVal (f : FE) : FI := fun ρ μ => (f ρ μ).bind fun d μ1 => ofO (walked μ1 d) μ1
/-- a list that is told to hold xs from (α, R, H) on, while chk holds -/
def Rds (K : PySem.W.Frag) (mg : Str → Option Value) (chk : Mu → Bool) (a : Addr) (xs : List D) (α : List Addr) (R H : Hp) : Prop :=
  xs.length ≤ sizeLine ∧ ∀ μ' α' R' H', SM K mg μ' α' R' H' → Adv α R H α' R' H' → chk μ' = true → ∃ vs, SqL K H' a vs ∧ DenL K mg R' α' vs xs
section
variable {K : PySem.W.Frag} {mg : Str → Option Value} {R H : Hp} {α : List Addr} {μ : Mu} {chk : Mu → Bool} {a b : Addr} {xs ys : List D}
theorem rds_pure {vs : List V} (h : R a = some (.lst vs)) (hl : vs.length ≤ sizeLine) (dl : DenL K mg R α vs xs) : Rds K mg yes a xs α R H :=
  ⟨by rw [← dl.len]; exact hl, fun μ' α' R' H' S A _ => ⟨vs, SqL.of (S.lst (A.r _ _ h)), dl.adv A⟩⟩
theorem rds_script {vs : List V} (h : SqL K R a vs) (hl : xs.length ≤ sizeLine) (dl : DenL K mg R α vs xs) : Rds K mg yes a xs α R H :=
  ⟨hl, fun μ' α' R' H' S A _ => ⟨vs, S.sqL (SqL.up A.r h), dl.adv A⟩⟩
theorem rds_cell {n : Nat} (hα : α[n]? = some a) (hl : xs.length ≤ sizeLine) : Rds K mg (chkC n xs) a xs α R H :=
  ⟨hl, fun μ' α' R' H' S A hc => by
    unfold chkC at hc
    split at hc
    · rename_i ys e
      obtain ⟨_, vs, h1, _, h3⟩ := S.cell n _ a e (A.a n a hα)
      rw [sames_eq _ _ hc] at h3
      exact ⟨vs, SqL.of h1, h3⟩
    · cases hc⟩
theorem good_list (rd : Rds K mg chk a xs α R H) : Good K mg (Itl K a) ⟨xs, chk⟩ α R H := by
  refine ⟨rd.1, fun μ' α' R' H' i d S A hc hi => ?_, fun μ' α' R' H' S A hc => ?_⟩
  · obtain ⟨vs, h1, h3⟩ := rd.2 μ' α' R' H' S A hc
    obtain ⟨v, h4, h5⟩ := h3.get' hi
    refine ⟨⟨vs, v, h1, h4⟩, fun x H2 ⟨e, q⟩ => ?_⟩
    subst e
    have := q vs h1
    rw [h4] at this; cases this
    exact ⟨R', S, .refl, h5⟩
  · obtain ⟨vs, h1, h3⟩ := rd.2 μ' α' R' H' S A hc
    exact ⟨vs, h1, by rw [h3.len]; exact Nat.le_refl _⟩
theorem good_tup {vs : List V} (h : SqT K R a vs) (hl : vs.length ≤ sizeLine) (dl : DenL K mg R α vs xs) : Good K mg (Itt K a) ⟨xs, yes⟩ α R H := by
  have hh : ∀ {R' : Hp} {α' : List Addr} {H' : Hp} {μ' : Mu}, SM K mg μ' α' R' H' → Adv α R H α' R' H' → SqT K H' a vs := fun S A => S.sqT (SqT.up A.r h)
  refine ⟨by rw [← dl.len]; exact hl, fun μ' α' R' H' i d S A _ hi => ?_, fun μ' α' R' H' S A _ => ⟨vs, hh S A, by rw [dl.len]; exact Nat.le_refl _⟩⟩
  obtain ⟨v, h1, h2⟩ := dl.get' hi
  refine ⟨⟨vs, v, hh S A, h1⟩, fun x H2 ⟨e, q⟩ => ?_⟩
  subst e
  have := q vs (hh S A)
  rw [h1] at this; cases this
  exact ⟨R', S, .refl, h2.adv A⟩
theorem good_str {z : Str} (hl : z.length ≤ sizeLine) : Good K mg (Its z) ⟨signs z, yes⟩ α R H := by
  have hz : (signs z).length = z.cps.size := by simp [signs]
  refine ⟨by show (signs z).length ≤ _; rw [hz]; exact hl, fun μ' α' R' H' i d S A _ hi => ?_, fun μ' α' R' H' S A _ => by show z.cps.size ≤ (signs z).length; rw [hz]; exact Nat.le_refl _⟩
  unfold signs at hi
  rw [List.getElem?_map] at hi
  obtain ⟨c, h1, rfl⟩ := Option.map_eq_some_iff.mp hi
  rw [Array.getElem?_toList] at h1
  refine ⟨(Array.getElem?_eq_some_iff.mp h1).1, fun x H2 ⟨e, c', q1, q2⟩ => ?_⟩
  subst e q2
  rw [h1] at q1; cases q1
  exact ⟨R', S, .refl, .str _⟩
theorem good_keys {o : Obj} {ks : List (Key × V)} {kvs : List (Key × D)} (h : H a = some (.frz o (.dK ks))) (hl : ks.length ≤ sizeLine) (dk : DenK K mg R α ks kvs) : Good K mg (Itk a o ks) ⟨kvs.map fun kv => keyD kv.1, yes⟩ α R H := by
  refine ⟨by simp [← dk.len, hl], fun μ' α' R' H' i d S A _ hi => ?_, fun μ' α' R' H' S A _ => ⟨A.f _ _ _ h, by simp [dk.len]⟩⟩
  rw [List.getElem?_map] at hi
  obtain ⟨kv, h1, rfl⟩ := Option.map_eq_some_iff.mp hi
  have dl := keys_den dk
  obtain ⟨v, h2, h3⟩ := dl.get' (i := i) (e := keyD kv.1) (by rw [List.getElem?_map, h1] <;> rfl)
  rw [List.getElem?_map] at h2
  obtain ⟨kw, h4, rfl⟩ := Option.map_eq_some_iff.mp h2
  refine ⟨⟨A.f _ _ _ h, (List.getElem?_eq_some_iff.mp h4).1⟩, fun x H2 ⟨e, k, w', q1, q2⟩ => ?_⟩
  subst e q2
  rw [h4] at q1; cases q1
  exact ⟨R', S, .refl, h3.adv A⟩
/-- d.items(), each pair a new tuple -/
def itemD (kv : Key × D) : D := .tuple [keyD kv.1, kv.2]
theorem denK_get' : ∀ {ks : List (Key × V)} {kvs : List (Key × D)} {i : Nat} {k : Key} {d : D}, DenK K mg R α ks kvs → kvs[i]? = some (k, d) → ∃ v, ks[i]? = some (k, v) ∧ Den K mg R α v d
  | _, _, _, _, _, .nil, e => by simp at e
  | _, _, 0, _, _, .cons h _, e => by simp at e; obtain ⟨rfl, rfl⟩ := e; exact ⟨_, rfl, h⟩
  | _, _, i + 1, _, _, .cons _ t, e => by
    obtain ⟨v, h1, h2⟩ := denK_get' (i := i) t (by simpa using e)
    exact ⟨v, by simpa using h1, h2⟩
theorem DenK.adv {R' H' : Hp} {α' : List Addr} {ks : List (Key × V)} {kvs : List (Key × D)} (h : DenK K mg R α ks kvs) (x : Adv α R H α' R' H') : DenK K mg R' α' ks kvs := h.up x.r x.a
theorem den_pair {T : Addr} {x y : V} {dx dy : D} (h1 : Den K mg R α x dx) (h2 : Den K mg R α y dy) (h : R T = some (.tup [x, y])) : Den K mg R α (.ref T) (.tuple [dx, dy]) :=
  .tuple (.inl (.inl h)) (show 2 ≤ sizeLine by decide) (.cons h1 (.cons h2 .nil))
theorem good_items {o : Obj} {ks : List (Key × V)} {kvs : List (Key × D)} (h : H a = some (.frz o (.dK ks))) (hl : ks.length ≤ sizeLine) (dk : DenK K mg R α ks kvs) : Good K mg (Iti a o ks) ⟨kvs.map itemD, yes⟩ α R H := by
  refine ⟨by simp [← dk.len, hl], fun μ' α' R' H' i d S A _ hi => ?_, fun μ' α' R' H' S A _ => ⟨A.f _ _ _ h, by simp [dk.len]⟩⟩
  rw [List.getElem?_map] at hi
  obtain ⟨⟨k, d'⟩, h1, rfl⟩ := Option.map_eq_some_iff.mp hi
  obtain ⟨v, h2, h3⟩ := denK_get' dk h1
  refine ⟨⟨A.f _ _ _ h, (List.getElem?_eq_some_iff.mp h2).1⟩, fun x H2 ⟨T, k2, v2, q1, q2, q3, q4⟩ => ?_⟩
  rw [h2] at q1; cases q1
  subst q2 q4
  obtain ⟨S2, A2⟩ := S.lay (u := .tup [kV k, v]) q3
  exact ⟨_, S2, A2, den_pair (keyD_den k) ((h3.adv A).adv A2) upd_same⟩
def enumD (xs : List D) : List D := xs.zipIdx.map fun p => .tuple [.int (p.2 : Nat), p.1]
theorem enumD_get {i : Nat} {d : D} (h : (enumD xs)[i]? = some d) : ∃ e, xs[i]? = some e ∧ d = .tuple [.int (i : Nat), e] := by
  unfold enumD at h
  rw [List.getElem?_map] at h
  obtain ⟨⟨e, j⟩, h1, rfl⟩ := Option.map_eq_some_iff.mp h
  rw [List.getElem?_zipIdx] at h1
  obtain ⟨e', h2, h3⟩ := Option.map_eq_some_iff.mp h1
  cases h3
  exact ⟨e, h2, by simp⟩
theorem good_enum (rd : Rds K mg chk a xs α R H) : Good K mg (Ite K a) ⟨enumD xs, chk⟩ α R H := by
  refine ⟨by simp [enumD, rd.1], fun μ' α' R' H' i d S A hc hi => ?_, fun μ' α' R' H' S A hc => ?_⟩
  · obtain ⟨vs, h1, h3⟩ := rd.2 μ' α' R' H' S A hc
    obtain ⟨e, hi', rfl⟩ := enumD_get hi
    obtain ⟨v, h4, h5⟩ := h3.get' hi'
    refine ⟨⟨vs, v, h1, h4⟩, fun x H2 ⟨T, y, q1, q2, q3, q4⟩ => ?_⟩
    subst q1 q3
    have := q4 vs h1
    rw [h4] at this; cases this
    obtain ⟨S2, A2⟩ := S.lay (u := .tup [.int (i : Nat), v]) q2
    exact ⟨_, S2, A2, den_pair (.int _) (h5.adv A2) upd_same⟩
  · obtain ⟨vs, h1, h3⟩ := rd.2 μ' α' R' H' S A hc
    exact ⟨vs, h1, by simp [enumD, h3.len]⟩
def zipD (xs ys : List D) : List D := (xs.zip ys).map fun p => .tuple [p.1, p.2]
theorem zipD_get {i : Nat} {d : D} (h : (zipD xs ys)[i]? = some d) : ∃ e f, xs[i]? = some e ∧ ys[i]? = some f ∧ d = .tuple [e, f] := by
  unfold zipD at h
  rw [List.getElem?_map] at h
  obtain ⟨⟨e, f⟩, h1, rfl⟩ := Option.map_eq_some_iff.mp h
  have h2 := List.getElem?_zip_eq_some.mp h1
  exact ⟨e, f, h2.1, h2.2, rfl⟩
theorem good_zip {chk2 : Mu → Bool} (rd : Rds K mg chk a xs α R H) (rd2 : Rds K mg chk2 b ys α R H) : Good K mg (Itz K a b) ⟨zipD xs ys, fun μ => chk μ && chk2 μ⟩ α R H := by
  refine ⟨by simp only [zipD, List.length_map, List.length_zip]; exact Nat.le_trans (Nat.min_le_left _ _) rd.1, fun μ' α' R' H' i d S A hc hi => ?_, fun μ' α' R' H' S A hc => ?_⟩
  · simp only [Bool.and_eq_true] at hc
    obtain ⟨vs, h1, h3⟩ := rd.2 μ' α' R' H' S A hc.1
    obtain ⟨ws, g1, g3⟩ := rd2.2 μ' α' R' H' S A hc.2
    obtain ⟨e, f, hi1, hi2, rfl⟩ := zipD_get hi
    obtain ⟨v, h4, h5⟩ := h3.get' hi1
    obtain ⟨w, g4, g5⟩ := g3.get' hi2
    refine ⟨⟨vs, ws, v, w, h1, g1, h4, g4⟩, fun x H2 ⟨T, y, z, q1, q2, q3, q4, q5⟩ => ?_⟩
    subst q1 q3
    have := q4 vs h1
    rw [h4] at this; cases this
    have := q5 ws g1
    rw [g4] at this; cases this
    obtain ⟨S2, A2⟩ := S.lay (u := .tup [v, w]) q2
    exact ⟨_, S2, A2, den_pair (h5.adv A2) (g5.adv A2) upd_same⟩
  · simp only [Bool.and_eq_true] at hc
    obtain ⟨vs, h1, h3⟩ := rd.2 μ' α' R' H' S A hc.1
    obtain ⟨ws, g1, g3⟩ := rd2.2 μ' α' R' H' S A hc.2
    refine ⟨vs, ws, h1, g1, ?_⟩
    simp only [zipD, List.length_map, List.length_zip, h3.len, g3.len]
    omega
end
section
variable {X : Cx} {E : XK} {pos : Pos} {e tg : Expr} {fe : FE}
theorem wI {tg it : Expr} {t t' : TI} (h : PI X tg it t) (k : ∀ σ H R, t' σ H R → t σ H R) : PI X tg it t' := ⟨fun pins s σ H R I q => h.run pins s σ H R I (k σ H R q)⟩
/-- a value that may be a dict is locked behind its evaluation -/
theorem pe_locked {t : TE} (h : PE X e t) : PE X e (fun σ H Q => t σ H fun v H1 => Q v H1 ∨ ∃ a u, v = .ref a ∧ H1 a = some u ∧ Mut (some u) ∧ ∀ od, Q v (upd H1 a (.frz od u))) :=
  ⟨fun pins s σ H Q I q => thn (h.run pins s σ H _ I q) fun u s' ⟨v, H1, I1, r, hq⟩ => by
    rcases hq with hq | ⟨a, o, rfl, h1, h2, h3⟩
    · exact ⟨v, H1, I1, r, hq⟩
    · obtain ⟨od, I2⟩ := I1.lock h1 h2
      exact ⟨_, _, I2, r, h3 od⟩⟩
theorem SM.locked {K : PySem.W.Frag} {mg : Str → Option Value} {R H : Hp} {α : List Addr} {μ : Mu} {a : Addr} {ks : List (Key × V)} {od : Obj} (S : SM K mg μ α R H) (h : R a = some (.dK ks)) (hh : H a = some (.dK ks)) :
    SM K mg μ α R (upd H a (.frz od (.dK ks))) ∧ Adv α R H α R (upd H a (.frz od (.dK ks))) := by
  refine ⟨S.heap (fun b u q => ?_) (fun n c b h1 h2 => ?_) fun b hb => ?_, ⟨fun _ _ h => h, fun _ _ h => h, fun b o x q => ?_, fun b o q => ?_, fun b o q nk => ?_, fun b q => .inl q⟩⟩
  · by_cases eb : b = a
    · subst eb; rw [h] at q; cases q; exact .inr ⟨ks, od, rfl, upd_same⟩
    · rw [upd_ne eb]; exact S.frz b u q
  · by_cases eb : b = a
    · subst eb; have := (S.cell n c b h1 h2).1; rw [h] at this; cases this
    · rw [upd_ne eb]
  · by_cases eb : b = a
    · subst eb; exact ⟨_, upd_same⟩
    · rw [upd_ne eb]; exact S.trk b hb
  · by_cases eb : b = a
    · subst eb; rw [hh] at q; cases q
    · rw [upd_ne eb]; exact q
  · by_cases eb : b = a
    · subst eb; exact ⟨_, upd_same⟩
    · rw [upd_ne eb]; exact ⟨o, q⟩
  · by_cases eb : b = a
    · subst eb; exact absurd (.inr ⟨_, h⟩) nk
    · rw [upd_ne eb]; exact q
theorem di_val (he : DE X E e fe) : DI X E tg e (iVal fe) := ⟨fun pins s σ H Rr I hq => by
  obtain ⟨ρ, μ, α, R, S, V, h⟩ := hq
  unfold iVal at h
  cases e1 : fe ρ μ with
  | bad => rw [e1] at h; exact False.elim h
  | ex x μ1 =>
    rw [e1] at h
    exact (pi_list (tg := tg) he).run pins s σ H Rr I ⟨ρ, μ, α, R, S, V, by rw [e1]; exact h⟩
  | ok d μ1 =>
    rw [e1] at h
    have h : (match ofO (walked μ1 d) μ1 with
      | .ok it μ1 => ∀ J α1 R1 H1, SM X.K X.mg μ1 α1 R1 H1 → Adv α R H α1 R1 H1 → Good X.K X.mg J it α1 R1 H1 → Rr J H1
      | .ex x μ' => ∀ cls od α' R' H', SM X.K X.mg μ' α' R' H' → Adv α R H α' R' H' → DenX X.K X.mg R' α' H' cls od x → E cls od H'
      | .bad => False) := h
    cases d with
    | list xs =>
      refine (pi_list (tg := tg) he).run pins s σ H Rr I ⟨ρ, μ, α, R, S, V, ?_⟩
      rw [e1]
      intro w α1 R1 H1 S1 A1 q1
      cases q1 with
      | list h1 h2 h3 => exact ⟨_, rfl, ⟨_, SqL.of (S1.lst h1)⟩, h _ α1 R1 H1 S1 A1 (good_list (rds_pure h1 h2 h3))⟩
    | script xs =>
      simp only [walked] at h
      split at h
      rotate_left
      · rename_i e2; split at e2 <;> cases e2
      · exact False.elim h
      rename_i it μ2 e2
      split at e2
      rotate_left
      · cases e2
      rename_i hl
      cases e2
      refine (pi_list (tg := tg) he).run pins s σ H Rr I ⟨ρ, μ, α, R, S, V, ?_⟩
      rw [e1]
      intro w α1 R1 H1 S1 A1 q1
      cases q1 with
      | script h1 => exact ⟨_, rfl, ⟨_, S1.sqL h1⟩, h _ α1 R1 H1 S1 A1 (good_list (rds_script h1 (by simpa using hl) DenL.ints))⟩
    | tuple xs =>
      refine (pi_tup (tg := tg) he).run pins s σ H Rr I ⟨ρ, μ, α, R, S, V, ?_⟩
      rw [e1]
      intro w α1 R1 H1 S1 A1 q1
      cases q1 with
      | tuple h1 h2 h3 => exact ⟨_, rfl, ⟨_, S1.sqT h1⟩, h _ α1 R1 H1 S1 A1 (good_tup h1 h2 h3)⟩
    | str z =>
      simp only [walked] at h
      split at h
      rotate_left
      · rename_i e2; split at e2 <;> cases e2
      · exact False.elim h
      rename_i it μ2 e2
      split at e2
      rotate_left
      · cases e2
      rename_i hl
      cases e2
      refine (pi_str (tg := tg) he).run pins s σ H Rr I ⟨ρ, μ, α, R, S, V, ?_⟩
      rw [e1]
      intro w α1 R1 H1 S1 A1 q1
      cases q1 with
      | str => exact ⟨z, rfl, h _ α1 R1 H1 S1 A1 (good_str hl)⟩
    | loc n =>
      simp only [walked] at h
      split at h
      · rename_i it μ2 e2
        split at e2
        · rename_i xs e3
          cases e2
          refine (pi_list (tg := tg) he).run pins s σ H Rr I ⟨ρ, μ, α, R, S, V, ?_⟩
          rw [e1]
          intro w α1 R1 H1 S1 A1 q1
          cases q1 with
          | loc h1 =>
            obtain ⟨_, vs, h4, h6, h5⟩ := S1.cell n _ _ e3 h1
            exact ⟨_, rfl, ⟨vs, SqL.of h4⟩, h _ α1 R1 H1 S1 A1 (good_list (rds_cell h1 (by rw [← h5.len]; exact h6)))⟩
        · cases e2
      · rename_i e2; split at e2 <;> cases e2
      · exact False.elim h
    | dict kvs =>
      refine (pi_keys (tg := tg) (pe_locked he)).run pins s σ H Rr I ⟨ρ, μ, α, R, S, V, ?_⟩
      rw [e1]
      intro w α1 R1 H1 S1 A1 q1
      cases q1 with
      | dict h1 h2 h3 =>
        rename_i a ks
        rcases S1.dct h1 with h4 | ⟨o, h4⟩
        · right
          refine ⟨a, _, rfl, h4, trivial, fun od => ⟨a, od, rfl, .inl ⟨ks, upd_same, ?_⟩⟩⟩
          obtain ⟨S2, A2⟩ := S1.locked (od := od) h1 h4
          exact h _ α1 R1 _ S2 (A1.trans A2) (good_keys upd_same h2 h3)
        · left
          exact ⟨a, o, rfl, .inl ⟨ks, h4, h _ α1 R1 H1 S1 A1 (good_keys h4 h2 h3)⟩⟩
    | _ => exact False.elim h⟩
/-! ranges -/
def rangeD (i : Int) (n : Nat) : List D := (List.range n).map fun k => .int (i + (k : Nat))
theorem good_range {K : PySem.W.Frag} {mg : Str → Option Value} {R H : Hp} {α : List Addr} {lo : Int} {n : Nat} (hl : n ≤ sizeLine) : Good K mg (Itr lo n) ⟨rangeD lo n, yes⟩ α R H := by
  refine ⟨by simpa [rangeD] using hl, fun μ' α' R' H' i d S A _ hi => ?_, fun μ' α' R' H' S A _ => by show n ≤ _; simp [rangeD]⟩
  unfold rangeD at hi
  rw [List.getElem?_map] at hi
  obtain ⟨k, h1, rfl⟩ := Option.map_eq_some_iff.mp hi
  obtain ⟨hk, rfl⟩ : i < n ∧ i = k := by
    obtain ⟨q1, q2⟩ := List.getElem?_eq_some_iff.mp h1
    simp at q1 q2
    exact ⟨q1, q2⟩
  refine ⟨hk, fun x H2 ⟨e, q⟩ => ?_⟩
  subst e q
  exact ⟨R', S, .refl, .int _⟩
end
end TL

set_option Elab.async false
set_option maxRecDepth 100000
set_option maxHeartbeats 1000000
set_option linter.all false
/-! The tree layer, part g: ranges, enumerate, zip, items; comprehensions; while; displays of dicts. -/
namespace TL
open PySem PySem.Spec PyProof.Rows L2

@[irreducible] def isIn62 (i : Int) : Bool := decide (-(2 ^ 62) ≤ i) && decide (i < 2 ^ 62)
def rng (i : Int) (n : Nat) : Option Iter := if n ≤ sizeLine then some ⟨rangeD i n, yes⟩ else none
def kRange1 (ds : List D) (μ1 : Mu) : Res Iter := match ds with
  | [.int j] => if isIn62 j = true then ofO (rng 0 j.toNat) μ1 else .bad
  | _ => .bad
def iRange1 (t : FA) : FI := fun ρ μ => (t ρ μ).bind kRange1
def kRange2 (ds : List D) (μ1 : Mu) : Res Iter := match ds with
  | [.int i, .int j] => if (isIn62 i && isIn62 j) = true then ofO (rng i (j - i).toNat) μ1 else .bad
  | _ => .bad
def iRange2 (t : FA) : FI := fun ρ μ => (t ρ μ).bind kRange2
/-- a list that may be walked in company -/
def rdOf (μ : Mu) : D → Option (List D × (Mu → Bool))
  | .list xs => some (xs, yes)
  | .script ns => if ns.length ≤ sizeLine then some (ns.map .int, yes) else none
  | .loc n => match μ[n]? with
    | some (some (.list xs)) => some (xs, chkC n xs)
    | _ => none
  | _ => none
def kEnum (ds : List D) (μ1 : Mu) : Res Iter := match ds with
  | [x] => ofO ((rdOf μ1 x).map fun p => ⟨enumD p.1, p.2⟩) μ1
  | _ => .bad
def iEnumF (t : FA) : FI := fun ρ μ => (t ρ μ).bind kEnum
def kZip (ds : List D) (μ1 : Mu) : Res Iter := match ds with
  | [x, y] => ofO ((rdOf μ1 x).bind fun p => (rdOf μ1 y).map fun q => ⟨zipD p.1 q.1, fun μ => p.2 μ && q.2 μ⟩) μ1
  | _ => .bad
def iZipF (t : FA) : FI := fun ρ μ => (t ρ μ).bind kZip
def kItems (d : D) (μ1 : Mu) : Res Iter := match d with
  | .dict kvs => .ok ⟨kvs.map itemD, yes⟩ μ1
  | _ => .bad
def iItemsF (f : FE) : FI := fun ρ μ => (f ρ μ).bind kItems
section
variable {K : PySem.W.Frag} {mg : Str → Option Value} {E : XK} {R H : Hp} {α : List Addr} {μ : Mu}
theorem AfterI.adv {R' H' : Hp} {α' : List Addr} {r : Res Iter} {Rr : It → Hp → Prop} (A : Adv α R H α' R' H') (h : AfterI K mg E α R H r Rr) : AfterI K mg E α' R' H' r Rr := by
  cases r with
  | ok it μ1 => exact fun J α1 R1 H1 S1 A1 G => h J α1 R1 H1 S1 (A.trans A1) G
  | ex x μ1 => exact fun c o α2 R2 H2 S2 A2 q => h c o α2 R2 H2 S2 (A.trans A2) q
  | bad => exact h
theorem AfterI.bind {ω τ : Type} {rel : Hp → List Addr → ω → τ → Prop} {r : Res τ} {k : τ → Mu → Res Iter} {Rr : It → Hp → Prop} {Q1 : ω → Hp → Prop} (h : AfterI K mg E α R H (r.bind k) Rr)
    (go : ∀ d μ1 w α1 R1 H1, SM K mg μ1 α1 R1 H1 → Adv α R H α1 R1 H1 → rel R1 α1 w d → AfterI K mg E α1 R1 H1 (k d μ1) Rr → Q1 w H1) : After K mg E rel α R H r Q1 := by
  cases r with
  | ok d μ1 => exact fun w α1 R1 H1 S A q => go d μ1 w α1 R1 H1 S A q (AfterI.adv (Rr := Rr) (r := k d μ1) A h)
  | ex x μ1 => exact h
  | bad => exact h
theorem AfterI.ofO {o : Option Iter} {Rr : It → Hp → Prop} (h : AfterI K mg E α R H (TL.ofO o μ) Rr) : ∃ it, o = some it ∧ ∀ J α1 R1 H1, SM K mg μ α1 R1 H1 → Adv α R H α1 R1 H1 → Good K mg J it α1 R1 H1 → Rr J H1 := by
  cases o with
  | none => exact False.elim h
  | some it => exact ⟨it, rfl, h⟩
theorem rng_some {i : Int} {n : Nat} {it : Iter} (h : rng i n = some it) : n ≤ sizeLine ∧ it = ⟨rangeD i n, yes⟩ := by
  unfold rng at h
  split at h
  · rename_i q; cases h; exact ⟨q, rfl⟩
  · cases h
theorem isIn62_of {i : Int} (h : isIn62 i = true) : -(2 ^ 62) ≤ i ∧ i < 2 ^ 62 := by
  simpa [isIn62] using h
theorem rdOf_den (S : SM K mg μ α R H) {v : V} {d : D} {p : List D × (Mu → Bool)} (h : Den K mg R α v d) (e : rdOf μ d = some p) : ∃ a, v = .ref a ∧ (∃ vs, SqL K H a vs) ∧ Rds K mg p.2 a p.1 α R H := by
  cases h with
  | list h l dl => cases e; exact ⟨_, rfl, ⟨_, SqL.of (S.lst h)⟩, rds_pure h l dl⟩
  | script h =>
    simp only [rdOf] at e
    split at e
    · rename_i hl; cases e
      exact ⟨_, rfl, ⟨_, S.sqL h⟩, rds_script h (by simpa using hl) DenL.ints⟩
    · cases e
  | loc h =>
    simp only [rdOf] at e
    split at e
    · rename_i xs e2
      cases e
      obtain ⟨_, vs, h1, h2, h3⟩ := S.cell _ _ _ e2 h
      exact ⟨_, rfl, ⟨vs, SqL.of h1⟩, rds_cell h (by rw [← h3.len]; exact h2)⟩
    · cases e
  | _ => cases e
end
section
variable {X : Cx} {E : XK} {pos p tpos apos cpos : Pos} {e e2 e3 tg : Expr} {fe : FE} {t : FA} {elts : List Expr} {kk : Nat}
theorem di_range1 (hg : Gl X "range") (hm : X.mg "range" = none) (ha : DA X E [e] t) (hs : starEach [e] X.env = [(false, eval e X.env)] := by rfl) : DI X E tg (.Call (.Name "range" p) [e] [] pos) (iRange1 t) :=
  wI (pi_range1 hg hm ha hs) fun σ H Rr ⟨ρ, μ, α, R, S, V, h⟩ => ⟨ρ, μ, α, R, S, V, AfterI.bind (k := kRange1) h fun ds μ1 vs α1 R1 H1 S1 A1 q1 q => by
    unfold kRange1 at q
    split at q
    · rename_i j
      obtain ⟨v, rfl, h1⟩ := denL1 q1
      cases h1
      split at q
      · rename_i hj
        obtain ⟨it, e1, e2⟩ := AfterI.ofO q
        obtain ⟨hl, rfl⟩ := rng_some e1
        have hb := isIn62_of hj
        exact ⟨j, rfl, hb.1, hb.2, e2 _ α1 R1 H1 S1 .refl (good_range hl)⟩
      · exact False.elim q
    · exact False.elim q⟩
theorem di_range2 (hg : Gl X "range") (hm : X.mg "range" = none) (ha : DA X E [e, e2] t) (hs : starEach [e, e2] X.env = [(false, eval e X.env), (false, eval e2 X.env)] := by rfl) (hs2 : starEach [e2] X.env = [(false, eval e2 X.env)] := by rfl) :
    DI X E tg (.Call (.Name "range" p) [e, e2] [] pos) (iRange2 t) :=
  wI (pi_range2 hg hm ha hs hs2) fun σ H Rr ⟨ρ, μ, α, R, S, V, h⟩ => ⟨ρ, μ, α, R, S, V, AfterI.bind (k := kRange2) h fun ds μ1 vs α1 R1 H1 S1 A1 q1 q => by
    unfold kRange2 at q
    split at q
    · rename_i i j
      obtain ⟨v, v', rfl, h1, h2⟩ := denL2 q1
      cases h1; cases h2
      split at q
      · rename_i hj
        simp only [Bool.and_eq_true] at hj
        obtain ⟨it, e1, e2⟩ := AfterI.ofO q
        obtain ⟨hl, rfl⟩ := rng_some e1
        have hb := isIn62_of hj.1
        have hc := isIn62_of hj.2
        exact ⟨i, j, rfl, ⟨hb.1, hb.2, hc.1, hc.2⟩, e2 _ α1 R1 H1 S1 .refl (good_range hl)⟩
      · exact False.elim q
    · exact False.elim q⟩
theorem di_enum (hg : Gl X "enumerate") (hm : X.mg "enumerate" = none) (ha : DA X E [e] t) (hs : starEach [e] X.env = [(false, eval e X.env)] := by rfl) :
    DI X E (.Tuple elts kk tpos) (.Call (.Name "enumerate" p) [e] [] pos) (iEnumF t) :=
  wI (pi_enum hg hm ha hs) fun σ H Rr ⟨ρ, μ, α, R, S, V, h⟩ => ⟨ρ, μ, α, R, S, V, AfterI.bind (k := kEnum) h fun ds μ1 vs α1 R1 H1 S1 A1 q1 q => by
    unfold kEnum at q
    split at q
    · obtain ⟨v, rfl, h1⟩ := denL1 q1
      obtain ⟨it, e1, e2⟩ := AfterI.ofO q
      obtain ⟨pr, e3, rfl⟩ := Option.map_eq_some_iff.mp e1
      obtain ⟨a, rfl, ⟨ws, hw⟩, rd⟩ := rdOf_den S1 h1 e3
      exact ⟨a, ws, rfl, hw, e2 _ α1 R1 H1 S1 .refl (good_enum rd)⟩
    · exact False.elim q⟩
theorem di_zip (hg : Gl X "zip") (hm : X.mg "zip" = none) (ha : DA X E [e, e2] t)
    (hs : starEach [e, e2] X.env = (false, eval e X.env) :: starEach [e2] X.env := by rfl) (hpl : (backTo pos (starEach [e2] X.env)).any (·.1) = false := by rfl) :
    DI X E (.Tuple elts kk tpos) (.Call (.Name "zip" p) [e, e2] [] pos) (iZipF t) :=
  wI (pi_zip hg hm ha hs hpl) fun σ H Rr ⟨ρ, μ, α, R, S, V, h⟩ => ⟨ρ, μ, α, R, S, V, AfterI.bind (k := kZip) h fun ds μ1 vs α1 R1 H1 S1 A1 q1 q => by
    unfold kZip at q
    split at q
    · obtain ⟨v, v', rfl, h1, h2⟩ := denL2 q1
      obtain ⟨it, e1, e2⟩ := AfterI.ofO q
      obtain ⟨pr, e3, e4⟩ := Option.bind_eq_some_iff.mp e1
      obtain ⟨pr2, e5, rfl⟩ := Option.map_eq_some_iff.mp e4
      obtain ⟨a, rfl, ⟨ws, hw⟩, rd⟩ := rdOf_den S1 h1 e3
      obtain ⟨b, rfl, ⟨zs, hz⟩, rd2⟩ := rdOf_den S1 h2 e5
      exact ⟨a, b, ws, zs, rfl, hw, hz, e2 _ α1 R1 H1 S1 .refl (good_zip rd rd2)⟩
    · exact False.elim q⟩
theorem di_items (he : DE X E e fe) (hbase : attributeBase e "items" X.env (eval e X.env) = eval e X.env := by rfl) (hline : (apos.endLine == cpos.line) = true := by rfl) :
    DI X E (.Tuple elts kk tpos) (.Call (.Attribute e "items" apos) [] [] cpos) (iItemsF fe) :=
  wI (pi_items (pe_locked he) hbase hline) fun σ H Rr ⟨ρ, μ, α, R, S, V, h⟩ => ⟨ρ, μ, α, R, S, V, AfterI.bind (k := kItems) h fun d μ1 v α1 R1 H1 S1 A1 q1 q => by
    cases q1 with
    | dict h1 h2 h3 =>
      rename_i a ks kvs
      rcases S1.dct h1 with h4 | ⟨o, h4⟩
      · right
        refine ⟨a, _, rfl, h4, trivial, fun od => ⟨a, od, ks, rfl, upd_same, ?_⟩⟩
        obtain ⟨S2, A2⟩ := S1.locked (od := od) h1 h4
        exact q _ α1 R1 _ S2 A2 (good_items upd_same h2 h3)
      · left
        exact ⟨a, o, ks, rfl, h4, q _ α1 R1 H1 S1 .refl (good_items h4 h2 h3)⟩
    | _ => exact False.elim q⟩
end
/-! ### comprehensions -/
def noEx {τ : Type} (r : Res τ) : Res τ := match r with
  | .ex _ _ => .bad
  | r => r
def wipeD (ρ : Env) : List Nat → Env
  | [] => ρ
  | v :: vs => (wipeD ρ vs).set v none
def compL (chk : Mu → Bool) (T : Tg) (t : FT) (e : FE) (own : List Nat) : List D → Env → Mu → Res (List D)
  | [], _, μ => if chk μ = true then .ok [] μ else .bad
  | x :: xs, ρ, μ => if chk μ = true then (match tgSet T x (wipeD ρ own) with
    | some ρ1 => (noEx (t ρ1 μ)).bind fun b μ1 => if b = true then (noEx (e ρ1 μ1)).bind fun d μ2 => (compL chk T t e own xs ρ μ2).bind fun ds μ3 => .ok (d :: ds) μ3
        else compL chk T t e own xs ρ μ1
    | none => .bad) else .bad
def nComp (fi : FI) (T : Tg) (t : FT) (e : FE) (own : List Nat) : FN := fun ρ μ => (fi ρ μ).bind fun it μ1 => (compL it.chk T t e own it.items ρ μ1).bind fun ds μ2 => .ok (.list ds) μ2
def tTrue : FT := fun _ μ => .ok true μ
abbrev EN : XK := fun _ _ _ => False
section
variable {K : PySem.W.Frag} {mg : Str → Option Value} {E : XK} {R H : Hp} {α : List Addr} {μ : Mu}
theorem SS.wipe {ρ : Env} {σ : L2.St} (V : SS K mg ρ R α σ) : ∀ vs : List Nat, SS K mg (wipeD ρ vs) R α (wipe σ vs)
  | [] => V
  | v :: vs => by
    have ih := SS.wipe V vs
    refine ⟨by show ((wipeD ρ vs).set v none).length = ((L2.wipe σ vs).set v none).length; simp [ih.1], fun i d q => ?_⟩
    have q : ((wipeD ρ vs).set v none)[i]? = some (some d) := q
    show ∃ w, ((L2.wipe σ vs).set v none)[i]? = some (some w) ∧ _
    by_cases e : v = i
    · subst e
      by_cases hl : v < (wipeD ρ vs).length
      · rw [List.getElem?_set_self hl] at q; cases q
      · rw [List.getElem?_eq_none (by simp; omega)] at q; cases q
    · rw [List.getElem?_set_ne e] at q
      obtain ⟨w, h1, h2⟩ := ih.2 i d q
      exact ⟨w, by rw [List.getElem?_set_ne e]; exact h1, h2⟩
/-- a place that nobody of ours knows changes -/
theorem SM.out {Da : Addr} {H' : Hp} (S : SM K mg μ α R H) (hD : ¬ Kn α R Da) (h : ∀ b, b ≠ Da → H' b = H b) : SM K mg μ α R H' :=
  S.heap (fun a u q => by rw [h a fun z => hD (.inr ⟨u, by rw [← z]; exact q⟩)]; exact S.frz a u q) (fun n c a _ q2 => h a fun z => hD (.inl (by rw [← z]; exact List.mem_of_getElem? q2)))
    fun a ha => by rw [h a fun z => hD (.inl (by rw [← z]; exact ha))]; exact S.trk a ha
theorem Adv.out {Da : Addr} {α' : List Addr} {R' H' H2 : Hp} (A : Adv α R H α' R' H') (hD : H Da = none) (h : ∀ b, b ≠ Da → H2 b = H' b) : Adv α R H α' R' H2 :=
  ⟨A.r, A.a, fun b o u q => by rw [h b (ne_of_none q hD)]; exact A.f b o u q, fun b o q => by rw [h b (ne_of_none q hD)]; exact A.t b o q, fun b o q nk => by rw [h b (ne_of_none q hD)]; exact A.k b o q nk, A.n⟩
/-- .. and is there from the first -/
theorem Adv.out2 {Da : Addr} {α' : List Addr} {R' H0 H' H2 : Hp} (A : Adv α R H α' R' H') (hD : H0 Da = none) (h0 : ∀ b, b ≠ Da → H0 b = H b) (h : ∀ b, b ≠ Da → H2 b = H' b) : Adv α R H0 α' R' H2 := by
  have ne : ∀ {b : Addr} {o : HO}, H0 b = some o → b ≠ Da := fun q => ne_of_none q hD
  refine ⟨A.r, A.a, fun b o u q => ?_, fun b o q => ?_, fun b o q nk => ?_, fun b q => ?_⟩
  · rw [h b (ne q)]; exact A.f b o u (by rw [← h0 b (ne q)]; exact q)
  · rw [h b (ne q)]; exact A.t b o (by rw [← h0 b (ne q)]; exact q)
  · rw [h b (ne q)]; exact A.k b o (by rw [← h0 b (ne q)]; exact q) nk
  · rcases A.n b q with z | z
    · exact .inl z
    · by_cases e : b = Da
      · subst e; exact .inr hD
      · exact .inr (by rw [h0 b e]; exact z)
theorem Kn.no_none (S : SM K mg μ α R H) {Da : Addr} (h : H Da = none) : ¬ Kn α R Da := by
  rintro (q | ⟨u, q⟩)
  · obtain ⟨o, e⟩ := S.trk Da q; rw [h] at e; cases e
  · rcases S.frz Da u q with e | ⟨ks, o, _, e⟩
    · rw [h] at e; cases e
    · rw [h] at e; cases e
theorem Adv.notKn {Da : Addr} {α' : List Addr} {R' H' : Hp} {o : HO} (A : Adv α R H α' R' H') (hD : ¬ Kn α R Da) (h : H Da = some o) : ¬ Kn α' R' Da := fun q => (A.n Da q).elim hD fun z => by rw [h] at z; cases z
/-- what stood at Da while our list was made there, taken out again -/
def eras (H : Hp) (Da : Addr) : Hp := fun b => if b = Da then none else H b
theorem eras_same {H : Hp} {Da : Addr} : eras H Da Da = none := by unfold eras; rw [if_pos rfl]
theorem eras_ne {H : Hp} {Da b : Addr} (h : b ≠ Da) : eras H Da b = H b := by unfold eras; rw [if_neg h]
theorem eras_upd {H : Hp} {Da : Addr} {o : HO} (h : H Da = some o) : upd (eras H Da) Da o = H := by
  funext b
  by_cases e : b = Da
  · subst e; rw [upd_same, h]
  · rw [upd_ne e, eras_ne e]
theorem after_noEx {ω τ : Type} {rel : Hp → List Addr → ω → τ → Prop} {r : Res τ} {Q : ω → Hp → Prop} {E' : XK} (h : After K mg E rel α R H (noEx r) Q) : After K mg E' rel α R H r Q := by
  cases r with
  | ok d μ => exact h
  | ex x μ => exact False.elim h
  | bad => exact h
theorem lc_lift {fi : FI} {T : Tg} {t : FT} {e : FE} {own : List Nat} (hT : ∀ i ∈ tgSlots T, i ∈ own) {σ : L2.St} {H : Hp} {Q : VK} (h : tNew K mg E (nComp fi T t e own) σ H Q) :
    tLc (LiftI K mg E fi) (hG K T) (Lift K mg EN relB t) (Lift K mg EN (relD K mg) e) own σ H Q := by
  obtain ⟨ρ, μ, α, R, S, V, h⟩ := h
  refine ⟨ρ, μ, α, R, S, V, ?_⟩
  unfold nComp at h
  cases e1 : fi ρ μ with
  | bad => rw [e1] at h; exact h
  | ex x μ1 => rw [e1] at h; exact h
  | ok it μ1 =>
    rw [e1] at h
    intro J α1 R1 H1 S1 A1 G Da hD
    have h : After K mg E (relN K mg) α R H ((compL it.chk T t e own it.items ρ μ1).bind fun ds μ2 => .ok (.list ds) μ2) (fun x H1 => ∀ p, H1 p = none → Q (.ref p) (upd H1 p x.2)) := h
    have nk : ¬ Kn α1 R1 Da := Kn.no_none S1 hD
    let Rest : Nat → Mu → List D → Res Cell := fun i μ acc => (compL it.chk T t e own (it.items.drop i) ρ μ).bind fun ds μ2 => .ok (.list (acc ++ ds)) μ2
    refine ⟨fun i m H' => ∃ μ α2 R2 av acc, SM K mg μ α2 R2 H' ∧ Adv α1 R1 H1 α2 R2 H' ∧ ¬ Kn α2 R2 Da ∧ H' Da = some (.lst av) ∧ DenL K mg R2 α2 av acc ∧ acc.length ≤ i ∧ i ≤ it.items.length ∧ m = it.items.length - i ∧
        After K mg E (relN K mg) α R H (Rest i μ acc) (fun x H1 => ∀ p, H1 p = none → Q (.ref p) (upd H1 p x.2)),
      ⟨it.items.length, μ1, α1, R1, [], [], S1.out nk (fun b hb => upd_ne hb), (Adv.refl).out hD (fun b hb => upd_ne hb), nk, upd_same, .nil, by simp, by simp, by simp, by simpa [Rest] using h⟩, ?_⟩
    rintro i m H' ⟨μ, α2, R2, av, acc, S2, A2, nk2, hav, dl, hacc, hi, rfl, h⟩
    by_cases hlt : i < it.items.length
    · right
      simp only [Rest] at h
      rw [List.drop_eq_getElem_cons hlt] at h
      unfold compL at h
      split at h
      rotate_left
      · exact False.elim h
      rename_i hk
      obtain ⟨g1, g2⟩ := G.go μ α2 R2 H' i _ S2 A2 hk (List.getElem?_eq_getElem hlt)
      refine ⟨g1, fun H'' => ∃ m', m' < it.items.length - i ∧ ∃ μ α2 R2 av acc, SM K mg μ α2 R2 H'' ∧ Adv α1 R1 H1 α2 R2 H'' ∧ ¬ Kn α2 R2 Da ∧ H'' Da = some (.lst av) ∧ DenL K mg R2 α2 av acc ∧ acc.length ≤ i + 1 ∧ i + 1 ≤ it.items.length ∧ m' = it.items.length - (i + 1) ∧
        After K mg E (relN K mg) α R H (Rest (i + 1) μ acc) (fun x H1 => ∀ p, H1 p = none → Q (.ref p) (upd H1 p x.2)), fun H'' q => q, fun x H2 y => ?_⟩
      obtain ⟨R3, S3, A3, q3⟩ := g2 x H2 y
      split at h
      rotate_left
      · exact False.elim h
      rename_i ρ1 eT
      refine tg_ok S3 T _ x (wipeD ρ own) ρ1 (wipe σ own) _ (((V.adv A1).adv A2).adv A3 |>.wipe own) q3 eT fun σ2 V2 l2 z2 => ⟨?_, ?_⟩
      · apply wipe_ext
        · rw [l2, wipe_length]
        · intro j hj
          rw [z2 j fun q => hj (hT j q)]
          have : ∀ (us : List Nat), j ∉ us → (wipe σ us)[j]? = σ[j]? := by
            intro us
            induction us with
            | nil => intro _; rfl
            | cons u us ih =>
              intro hu
              show ((wipe σ us).set u none)[j]? = _
              rw [List.getElem?_set_ne (fun q => hu (by simp [q])), ih fun q => hu (List.mem_cons_of_mem _ q)]
          exact this own hj
      · have hD3 : H2 Da = some (.lst av) := A3.k Da _ hav nk2
        have nk3 : ¬ Kn α2 R3 Da := A3.notKn nk2 hav
        -- the test
        refine ⟨ρ1, μ, α2, R3, S3, V2, ?_⟩
        cases eb : t ρ1 μ with
        | bad => rw [eb] at h; exact False.elim h
        | ex x μ3 => rw [eb] at h; exact False.elim h
        | ok b μ3 =>
          rw [eb] at h
          intro b' α4 R4 H4 S4 A4 rb
          cases rb
          have hD4 : H4 Da = some (.lst av) := A4.k Da _ hD3 nk3
          have nk4 : ¬ Kn α4 R4 Da := A4.notKn nk3 hD3
          cases b with
          | false =>
            refine ⟨_, by omega, μ3, α4, R4, av, acc, S4, (A2.trans A3).trans A4, nk4, hD4, (dl.adv A3).adv A4, by omega, hlt, rfl, ?_⟩
            exact h
          | true =>
            refine ⟨ρ1, μ3, α4, R4, S4, V2.adv A4, ?_⟩
            have h : After K mg E (relN K mg) α R H (((noEx (e ρ1 μ3)).bind fun d μ2 => (compL it.chk T t e own (it.items.drop (i + 1)) ρ μ2).bind fun ds μ3 => .ok (d :: ds) μ3).bind fun ds μ2 => .ok (.list (acc ++ ds)) μ2) (fun x H1 => ∀ p, H1 p = none → Q (.ref p) (upd H1 p x.2)) := h
            cases ee : e ρ1 μ3 with
            | bad => rw [ee] at h; exact False.elim h
            | ex x μ5 => rw [ee] at h; exact False.elim h
            | ok d μ5 =>
              rw [ee] at h
              intro w α5 R5 H5 S5 A5 dw
              have hD5 : H5 Da = some (.lst av) := A5.k Da _ hD4 nk4
              have nk5 : ¬ Kn α5 R5 Da := A5.notKn nk4 hD4
              have dl5 := ((dl.adv A3).adv A4).adv A5
              refine ⟨av, hD5, ?_, ?_⟩
              · rw [dl5.len]
                have := G.len
                omega
              · refine ⟨_, by omega, μ5, α5, R5, av ++ [w], acc ++ [d], S5.out nk5 (fun b hb => upd_ne hb), (((A2.trans A3).trans A4).trans A5).out hD (fun b hb => upd_ne hb), nk5, upd_same, dl5.append (.cons dw .nil), by simp; omega, hlt, rfl, ?_⟩
                have h : After K mg E (relN K mg) α R H (((compL it.chk T t e own (it.items.drop (i + 1)) ρ μ5).bind fun ds μ3 => .ok (d :: ds) μ3).bind fun ds μ2 => .ok (.list (acc ++ ds)) μ2) (fun x H1 => ∀ p, H1 p = none → Q (.ref p) (upd H1 p x.2)) := h
                simp only [Rest]
                cases ec : compL it.chk T t e own (it.items.drop (i + 1)) ρ μ5 with
                | bad => rw [ec] at h; exact h
                | ex x μ6 => rw [ec] at h; exact h
                | ok ds μ6 =>
                  rw [ec] at h
                  have e2 : (acc ++ [d]) ++ ds = acc ++ (d :: ds) := by simp
                  show After K mg E (relN K mg) α R H (.ok (.list ((acc ++ [d]) ++ ds)) μ6) _
                  rw [e2]; exact h
    · left
      have hn : i = it.items.length := by omega
      subst hn
      simp only [Rest] at h
      rw [List.drop_length] at h
      unfold compL at h
      split at h
      rotate_left
      · exact False.elim h
      rename_i hk
      refine ⟨G.stop μ α2 R2 H' S2 A2 hk, ?_⟩
      have h : After K mg E (relN K mg) α R H (.ok (.list (acc ++ [])) μ) (fun x H1 => ∀ p, H1 p = none → Q (.ref p) (upd H1 p x.2)) := h
      rw [List.append_nil] at h
      have hA : Adv α R H α2 R2 (eras H' Da) := by
        refine (A1.trans (A2.out hD fun b hb => ?_))
        exact eras_ne hb
      have := h (L2.V.non, .lst av) α2 R2 (eras H' Da) (S2.out nk2 fun b hb => eras_ne hb) hA ⟨av, rfl, by rw [dl.len]; exact Nat.le_trans hacc G.len, dl⟩ Da eras_same
      rwa [eras_upd hav] at this
end
end TL

set_option Elab.async false
set_option maxRecDepth 100000
set_option maxHeartbeats 1000000
set_option linter.all false
/-! The tree layer, part h: comprehensions as expressions; dict comprehensions; while; displays of dicts; stores. -/
namespace TL
open PySem PySem.Spec PyProof.Rows L2

def DTs (X : Cx) (E : XK) (ifs : List Expr) (f : FT) : Prop := PTs X ifs (Lift X.K X.mg E relB f)
section
variable {X : Cx} {E : XK} {elt tg iter c : Expr} {ifs : List Expr} {scope : Scope} {own : List (Str × Nat)} {pos spos : Pos} {fi : FI} {T : Tg} {t : FT} {e : FE}
theorem dts_nil : DTs X E [] tTrue := ⟨fun pins s σ H Q I ⟨ρ, μ, α, R, S, V, h⟩ => (pts_nil (X := X)).run pins s σ H Q I (h true α R H S .refl rfl)⟩
theorem dts_one (h : DT X E c t) : DTs X E [c] t := pts_one h
theorem dn_lc (hT : ∀ i ∈ tgSlots T, i ∈ own.map (·.2)) (hc : X.calm = true) (hN : X.N.Nodup) (hi : DI X E tg iter fi) (ok : BlkOk X.N X.env.scope scope own)
    (hg : ∀ (s : Shared) (H : Hp) (C : Addr) (cl : List (Str × Addr)) (fp : List Addr), GT (X.blk s H scope (compEnvC scope cl C X.env) fp) tg T)
    (ht : ∀ (s : Shared) (H : Hp) (C : Addr) (cl : List (Str × Addr)) (fp : List Addr), DTs (X.blk s H scope (compEnvC scope cl C X.env) fp) EN ifs t)
    (he : ∀ (s : Shared) (H : Hp) (C : Addr) (cl : List (Str × Addr)) (fp : List Addr), DE (X.blk s H scope (compEnvC scope cl C X.env) fp) EN elt e) (hs : ∀ x, foldedSetIterable iter X.env x = pure x := by intro _; rfl) :
    DN X E (.ListComp elt [⟨tg, iter, ifs, 0⟩] scope pos) (nComp fi T t e (own.map (·.2))) :=
  wE (pe_lc (wi := LiftI X.K X.mg E fi) (g := hG X.K T) (tt := Lift X.K X.mg EN relB t) (te := Lift X.K X.mg EN (relD X.K X.mg) e) hc hN hi ok hg ht he hs) fun σ H Q h => lc_lift hT h
/-- from a new thing's reading to name = it -/
theorem set_fz {K : PySem.W.Frag} {mg : Str → Option Value} {f : FN} {i : Nat} {te : TE} (k : ∀ σ H Q, tNew K mg E f σ H Q → te σ H Q) {Dn : Ends} {σ : L2.St} {H : Hp} (h : LiftS K mg E (sSet i (eFz f)) Dn σ H) : te σ H fun x H1 => gName i x σ H1 Dn.nx := by
  obtain ⟨ρ, μ, α, R, S, V, h⟩ := h
  refine k σ H _ ⟨ρ, μ, α, R, S, V, ?_⟩
  have h : AfterS K mg E α R H (((f ρ μ).bind fun c μ1 => .ok (cellD c) μ1).bind fun d μ1 => .ok (.nx (ρ.set i (some d))) μ1) Dn := h
  cases e1 : f ρ μ with
  | bad => rw [e1] at h; exact False.elim h
  | ex x μ1 => rw [e1] at h; exact h
  | ok c μ1 =>
    rw [e1] at h
    intro v α1 R1 H1 S1 A1 d1 p hp
    have h : AfterS K mg E α R H (.ok (.nx (ρ.set i (some (cellD c)))) μ1) Dn := h
    obtain ⟨S2, A2⟩ := S1.lay (u := v.2) hp
    refine h _ α1 _ _ S2 (A1.trans A2) (((V.adv A1).adv A2).set i ?_)
    cases c with
    | list xs => obtain ⟨vs, e1, e2, e3⟩ := d1; exact .list (by rw [upd_same, e1]) e2 (e3.adv A2)
    | dict xs => obtain ⟨vs, e1, e2, e3⟩ := d1; exact .dict (by rw [upd_same, e1]) e2 (e3.up A2.r A2.a)
    | obj c xs => obtain ⟨C, dx, vs, e0, e1, e3⟩ := d1; exact .obj e0 (by rw [upd_same, e1]) (e3.up A2.r A2.a)
theorem set_new {K : PySem.W.Frag} {mg : Str → Option Value} {f : FN} {i : Nat} {te : TE} (k : ∀ σ H Q, tNew K mg E f σ H Q → te σ H Q) {Dn : Ends} {σ : L2.St} {H : Hp} (h : LiftS K mg E (sSet i (eNew f)) Dn σ H) : te σ H fun x H1 => gName i x σ H1 Dn.nx := by
  obtain ⟨ρ, μ, α, R, S, V, h⟩ := h
  refine k σ H _ ⟨ρ, μ, α, R, S, V, ?_⟩
  have h : AfterS K mg E α R H (((f ρ μ).bind fun c μ1 => .ok (.loc μ1.length) (μ1 ++ [some c])).bind fun d μ1 => .ok (.nx (ρ.set i (some d))) μ1) Dn := h
  cases e1 : f ρ μ with
  | bad => rw [e1] at h; exact False.elim h
  | ex x μ1 => rw [e1] at h; exact h
  | ok c μ1 =>
    rw [e1] at h
    intro v α1 R1 H1 S1 A1 d1 p hp
    have h : AfterS K mg E α R H (.ok (.nx (ρ.set i (some (.loc μ1.length)))) (μ1 ++ [some c])) Dn := h
    have hc : CellOk K mg R1 α1 (upd H1 p v.2) p c := by
      cases c with
      | list xs => obtain ⟨vs, e1, e2, e3⟩ := d1; exact ⟨vs, by rw [upd_same, e1], e2, e3⟩
      | dict xs => obtain ⟨vs, e1, e2, e3⟩ := d1; exact ⟨vs, by rw [upd_same, e1], e2, e3⟩
      | obj c xs => obtain ⟨C, dx, vs, e0, e1, e3⟩ := d1; exact ⟨C, dx, vs, e0, by rw [upd_same, e1], e3⟩
    obtain ⟨S2, A2, hl⟩ := S1.cellNew hp hc
    exact h _ _ _ _ S2 (A1.trans A2) (((V.adv A1).adv A2).set i (.loc hl))
theorem lc_set {i : Nat} {y : Str} {py : Pos} (hT : ∀ i ∈ tgSlots T, i ∈ own.map (·.2)) (hc : X.calm = true) (hN : X.N.Nodup) (hy : X.N[i]? = some y) (hyl : X.env.scope.names.lookup y = some .local)
    (hsw : swapsWith (.ListComp elt [⟨tg, iter, ifs, 0⟩] scope pos) (some (.Name y py)) spos.line X.env = pure true) (hi : DI X E tg iter fi) (ok : BlkOk X.N X.env.scope scope own)
    (hg : ∀ (s : Shared) (H : Hp) (C : Addr) (cl : List (Str × Addr)) (fp : List Addr), GT (X.blk s H scope (compEnvC scope cl C X.env) fp) tg T)
    (ht : ∀ (s : Shared) (H : Hp) (C : Addr) (cl : List (Str × Addr)) (fp : List Addr), DTs (X.blk s H scope (compEnvC scope cl C X.env) fp) EN ifs t)
    (he : ∀ (s : Shared) (H : Hp) (C : Addr) (cl : List (Str × Addr)) (fp : List Addr), DE (X.blk s H scope (compEnvC scope cl C X.env) fp) EN elt e) (hs : ∀ x, foldedSetIterable iter X.env x = pure x := by intro _; rfl) :
    DS X E (.Assign [.Name y py] (.ListComp elt [⟨tg, iter, ifs, 0⟩] scope pos) spos) (sSet i (eFz (nComp fi T t e (own.map (·.2))))) ∧
    DS X E (.Assign [.Name y py] (.ListComp elt [⟨tg, iter, ifs, 0⟩] scope pos) spos) (sSet i (eNew (nComp fi T t e (own.map (·.2))))) :=
  have h := ps_setLc (wi := LiftI X.K X.mg E fi) (g := hG X.K T) (tt := Lift X.K X.mg EN relB t) (te := Lift X.K X.mg EN (relD X.K X.mg) e) hc hN hy hyl hsw hi ok hg ht he hs
  ⟨wS h fun Dn σ H q => set_fz (fun σ H Q h => lc_lift hT h) q, wS h fun Dn σ H q => set_new (fun σ H Q h => lc_lift hT h) q⟩
theorem lc_set1 {i : Nat} {y : Str} {py : Pos} (hT : ∀ i ∈ tgSlots T, i ∈ own.map (·.2)) (hc : X.calm = true) (hN : X.N.Nodup) (hy : X.N[i]? = some y) (hyl : X.env.scope.names.lookup y = some .local)
    (hsw : swapsWith (.ListComp elt [⟨tg, iter, ifs, 0⟩] scope pos) (some (.Name y py)) spos.line X.env = pure true) (hi : DI X E tg iter fi) (ok : BlkOk X.N X.env.scope scope own)
    (hg : ∀ (s : Shared) (H : Hp) (C : Addr) (cl : List (Str × Addr)) (fp : List Addr), GT (X.blk s H scope (compEnvC scope cl C X.env) fp) tg T)
    (ht : ∀ (s : Shared) (H : Hp) (C : Addr) (cl : List (Str × Addr)) (fp : List Addr), DTs (X.blk s H scope (compEnvC scope cl C X.env) fp) EN ifs t)
    (he : ∀ (s : Shared) (H : Hp) (C : Addr) (cl : List (Str × Addr)) (fp : List Addr), DE (X.blk s H scope (compEnvC scope cl C X.env) fp) EN elt e) (hs : ∀ x, foldedSetIterable iter X.env x = pure x := by intro _; rfl) :
    DS X E (.Assign [.Name y py] (.ListComp elt [⟨tg, iter, ifs, 0⟩] scope pos) spos) (sSet i (eFz (nComp fi T t e (own.map (·.2))))) := (lc_set hT hc hN hy hyl hsw hi ok hg ht he hs).1
theorem lc_set2 {i : Nat} {y : Str} {py : Pos} (hT : ∀ i ∈ tgSlots T, i ∈ own.map (·.2)) (hc : X.calm = true) (hN : X.N.Nodup) (hy : X.N[i]? = some y) (hyl : X.env.scope.names.lookup y = some .local)
    (hsw : swapsWith (.ListComp elt [⟨tg, iter, ifs, 0⟩] scope pos) (some (.Name y py)) spos.line X.env = pure true) (hi : DI X E tg iter fi) (ok : BlkOk X.N X.env.scope scope own)
    (hg : ∀ (s : Shared) (H : Hp) (C : Addr) (cl : List (Str × Addr)) (fp : List Addr), GT (X.blk s H scope (compEnvC scope cl C X.env) fp) tg T)
    (ht : ∀ (s : Shared) (H : Hp) (C : Addr) (cl : List (Str × Addr)) (fp : List Addr), DTs (X.blk s H scope (compEnvC scope cl C X.env) fp) EN ifs t)
    (he : ∀ (s : Shared) (H : Hp) (C : Addr) (cl : List (Str × Addr)) (fp : List Addr), DE (X.blk s H scope (compEnvC scope cl C X.env) fp) EN elt e) (hs : ∀ x, foldedSetIterable iter X.env x = pure x := by intro _; rfl) :
    DS X E (.Assign [.Name y py] (.ListComp elt [⟨tg, iter, ifs, 0⟩] scope pos) spos) (sSet i (eNew (nComp fi T t e (own.map (·.2))))) := (lc_set hT hc hN hy hyl hsw hi ok hg ht he hs).2
end
/-! ### dict comprehensions -/
def putD (kvs : List (Key × D)) (k : Key) (d : D) : List (Key × D) :=
  if (kvs.any fun kv => decide (kv.1 = k)) = true then kvs.map (fun kv => if kv.1 = k then (kv.1, d) else kv) else kvs ++ [(k, d)]
section
variable {K : PySem.W.Frag} {mg : Str → Option Value} {E : XK} {R H : Hp} {α : List Addr} {μ : Mu}
theorem DenK.any {ks : List (Key × V)} {kvs : List (Key × D)} (h : DenK K mg R α ks kvs) (k : Key) : (ks.any fun kv => decide (kv.1 = k)) = kvs.any fun kv => decide (kv.1 = k) := by
  match h with
  | .nil => rfl
  | .cons _ t => simp only [List.any_cons, DenK.any t k]
theorem DenK.repl {v : V} {d : D} (hd : Den K mg R α v d) (k : Key) : ∀ {ks : List (Key × V)} {kvs : List (Key × D)}, DenK K mg R α ks kvs →
    DenK K mg R α (ks.map fun kv => if kv.1 = k then (kv.1, v) else kv) (kvs.map fun kv => if kv.1 = k then (kv.1, d) else kv)
  | _, _, .nil => .nil
  | _, _, .cons (k := j) h t => by
    simp only [List.map_cons]
    by_cases e : j = k
    · rw [if_pos e, if_pos e]; exact .cons hd (DenK.repl hd k t)
    · rw [if_neg e, if_neg e]; exact .cons h (DenK.repl hd k t)
theorem DenK.snoc {v : V} {d : D} (hd : Den K mg R α v d) (k : Key) : ∀ {ks : List (Key × V)} {kvs : List (Key × D)}, DenK K mg R α ks kvs → DenK K mg R α (ks ++ [(k, v)]) (kvs ++ [(k, d)])
  | _, _, .nil => .cons hd .nil
  | _, _, .cons h t => .cons h (DenK.snoc hd k t)
theorem DenK.put {v : V} {d : D} {ks : List (Key × V)} {kvs : List (Key × D)} (h : DenK K mg R α ks kvs) (k : Key) (hd : Den K mg R α v d) : DenK K mg R α (putK ks k v) (putD kvs k d) := by
  unfold putK putD
  rw [h.any k]
  split
  · exact h.repl hd k
  · exact h.snoc hd k
theorem DenK.drop {ks : List (Key × V)} {kvs : List (Key × D)} (k : Key) (h : DenK K mg R α ks kvs) : DenK K mg R α (dropK ks k) (kvs.filter fun kv => decide (kv.1 ≠ k)) := by
  match h with
  | .nil => exact .nil
  | .cons (k := j) (v := v) (vs := vs) h t =>
    have ih := DenK.drop k t
    show DenK K mg R α (((j, v) :: vs).filter fun kv => decide (kv.1 ≠ k)) _
    by_cases e : j = k
    · rw [List.filter_cons_of_neg (by simp [e]), List.filter_cons_of_neg (by simp [e])]; exact ih
    · rw [List.filter_cons_of_pos (by simp [e]), List.filter_cons_of_pos (by simp [e])]; exact .cons h ih
end
theorem putD_len (kvs : List (Key × D)) (k : Key) (d : D) : (putD kvs k d).length ≤ kvs.length + 1 := by
  unfold putD
  split <;> simp
def compK (chk : Mu → Bool) (T : Tg) (t : FT) (ek ev : FE) (own : List Nat) : List D → List (Key × D) → Env → Mu → Res (List (Key × D))
  | [], acc, _, μ => if chk μ = true then .ok acc μ else .bad
  | x :: xs, acc, ρ, μ => if chk μ = true then (match tgSet T x (wipeD ρ own) with
    | some ρ1 => (noEx (t ρ1 μ)).bind fun b μ1 => if b = true then (noEx (ek ρ1 μ1)).bind fun dk μ2 => (noEx (ev ρ1 μ2)).bind fun d μ3 => match keyOf dk with
          | some k => compK chk T t ek ev own xs (putD acc k d) ρ μ3
          | none => .bad
        else compK chk T t ek ev own xs acc ρ μ1
    | none => .bad) else .bad
def nCompK (fi : FI) (T : Tg) (t : FT) (ek ev : FE) (own : List Nat) : FN := fun ρ μ => (fi ρ μ).bind fun it μ1 => (compK it.chk T t ek ev own it.items [] ρ μ1).bind fun ds μ2 => .ok (.dict ds) μ2
section
variable {K : PySem.W.Frag} {mg : Str → Option Value} {E : XK} {R H : Hp} {α : List Addr} {μ : Mu}
theorem dc_lift {fi : FI} {T : Tg} {t : FT} {ek ev : FE} {own : List Nat} (hT : ∀ i ∈ tgSlots T, i ∈ own) {σ : L2.St} {H : Hp} {Q : VK} (h : tNew K mg E (nCompK fi T t ek ev own) σ H Q) :
    tDc (LiftI K mg E fi) (hG K T) (Lift K mg EN relB t) (Lift K mg EN (relD K mg) ek) (Lift K mg EN (relD K mg) ev) own σ H Q := by
  obtain ⟨ρ, μ, α, R, S, V, h⟩ := h
  refine ⟨ρ, μ, α, R, S, V, ?_⟩
  unfold nCompK at h
  cases e1 : fi ρ μ with
  | bad => rw [e1] at h; exact h
  | ex x μ1 => rw [e1] at h; exact h
  | ok it μ1 =>
    rw [e1] at h
    intro J α1 R1 H1 S1 A1 G Da hD
    let Rest : Nat → Mu → List (Key × D) → Res Cell := fun i μ acc => (compK it.chk T t ek ev own (it.items.drop i) acc ρ μ).bind fun ds μ2 => .ok (.dict ds) μ2
    have h : After K mg E (relN K mg) α R H (Rest 0 μ1 []) (fun x H1 => ∀ p, H1 p = none → Q (.ref p) (upd H1 p x.2)) := h
    have nk : ¬ Kn α1 R1 Da := Kn.no_none S1 hD
    refine ⟨fun i m H' => ∃ μ α2 R2 av acc, SM K mg μ α2 R2 H' ∧ Adv α1 R1 H1 α2 R2 H' ∧ ¬ Kn α2 R2 Da ∧ H' Da = some (.dK av) ∧ DenK K mg R2 α2 av acc ∧ acc.length ≤ i ∧ i ≤ it.items.length ∧ m = it.items.length - i ∧
        After K mg E (relN K mg) α R H (Rest i μ acc) (fun x H1 => ∀ p, H1 p = none → Q (.ref p) (upd H1 p x.2)),
      ⟨it.items.length, μ1, α1, R1, [], [], S1.out nk (fun b hb => upd_ne hb), (Adv.refl).out hD (fun b hb => upd_ne hb), nk, upd_same, .nil, by simp, by simp, by simp, h⟩, ?_⟩
    rintro i m H' ⟨μ, α2, R2, av, acc, S2, A2, nk2, hav, dl, hacc, hi, rfl, h⟩
    by_cases hlt : i < it.items.length
    · right
      simp only [Rest] at h
      rw [List.drop_eq_getElem_cons hlt] at h
      unfold compK at h
      split at h
      rotate_left
      · exact False.elim h
      rename_i hk
      obtain ⟨g1, g2⟩ := G.go μ α2 R2 H' i _ S2 A2 hk (List.getElem?_eq_getElem hlt)
      refine ⟨g1, fun H'' => ∃ m', m' < it.items.length - i ∧ ∃ μ α2 R2 av acc, SM K mg μ α2 R2 H'' ∧ Adv α1 R1 H1 α2 R2 H'' ∧ ¬ Kn α2 R2 Da ∧ H'' Da = some (.dK av) ∧ DenK K mg R2 α2 av acc ∧ acc.length ≤ i + 1 ∧ i + 1 ≤ it.items.length ∧ m' = it.items.length - (i + 1) ∧
        After K mg E (relN K mg) α R H (Rest (i + 1) μ acc) (fun x H1 => ∀ p, H1 p = none → Q (.ref p) (upd H1 p x.2)), fun H'' q => q, fun x H2 y => ?_⟩
      obtain ⟨R3, S3, A3, q3⟩ := g2 x H2 y
      split at h
      rotate_left
      · exact False.elim h
      rename_i ρ1 eT
      refine tg_ok S3 T _ x (wipeD ρ own) ρ1 (wipe σ own) _ (((V.adv A1).adv A2).adv A3 |>.wipe own) q3 eT fun σ2 V2 l2 z2 => ⟨?_, ?_⟩
      · apply wipe_ext
        · rw [l2, wipe_length]
        · intro j hj
          rw [z2 j fun q => hj (hT j q)]
          have : ∀ (us : List Nat), j ∉ us → (wipe σ us)[j]? = σ[j]? := by
            intro us
            induction us with
            | nil => intro _; rfl
            | cons u us ih =>
              intro hu
              show ((wipe σ us).set u none)[j]? = _
              rw [List.getElem?_set_ne (fun q => hu (by simp [q])), ih fun q => hu (List.mem_cons_of_mem _ q)]
          exact this own hj
      · have hD3 : H2 Da = some (.dK av) := A3.k Da _ hav nk2
        have nk3 : ¬ Kn α2 R3 Da := A3.notKn nk2 hav
        refine ⟨ρ1, μ, α2, R3, S3, V2, ?_⟩
        cases eb : t ρ1 μ with
        | bad => rw [eb] at h; exact False.elim h
        | ex x μ3 => rw [eb] at h; exact False.elim h
        | ok b μ3 =>
          rw [eb] at h
          intro b' α4 R4 H4 S4 A4 rb
          cases rb
          have hD4 : H4 Da = some (.dK av) := A4.k Da _ hD3 nk3
          have nk4 : ¬ Kn α4 R4 Da := A4.notKn nk3 hD3
          cases b with
          | false =>
            refine ⟨_, by omega, μ3, α4, R4, av, acc, S4, (A2.trans A3).trans A4, nk4, hD4, (dl.adv A3).adv A4, by omega, hlt, rfl, ?_⟩
            exact h
          | true =>
            refine ⟨ρ1, μ3, α4, R4, S4, V2.adv A4, ?_⟩
            have h : After K mg E (relN K mg) α R H (((noEx (ek ρ1 μ3)).bind fun dk μ2 => (noEx (ev ρ1 μ2)).bind fun d μ3 => match keyOf dk with
              | some k => compK it.chk T t ek ev own (it.items.drop (i + 1)) (putD acc k d) ρ μ3
              | none => .bad).bind fun ds μ2 => .ok (.dict ds) μ2) (fun x H1 => ∀ p, H1 p = none → Q (.ref p) (upd H1 p x.2)) := h
            cases ee : ek ρ1 μ3 with
            | bad => rw [ee] at h; exact False.elim h
            | ex x μ5 => rw [ee] at h; exact False.elim h
            | ok dk μ5 =>
              rw [ee] at h
              intro w α5 R5 H5 S5 A5 dw
              have hD5 : H5 Da = some (.dK av) := A5.k Da _ hD4 nk4
              have nk5 : ¬ Kn α5 R5 Da := A5.notKn nk4 hD4
              refine ⟨ρ1, μ5, α5, R5, S5, (V2.adv A4).adv A5, ?_⟩
              have h : After K mg E (relN K mg) α R H (((noEx (ev ρ1 μ5)).bind fun d μ3 => match keyOf dk with
                | some k => compK it.chk T t ek ev own (it.items.drop (i + 1)) (putD acc k d) ρ μ3
                | none => .bad).bind fun ds μ2 => .ok (.dict ds) μ2) (fun x H1 => ∀ p, H1 p = none → Q (.ref p) (upd H1 p x.2)) := h
              cases ev' : ev ρ1 μ5 with
              | bad => rw [ev'] at h; exact False.elim h
              | ex x μ6 => rw [ev'] at h; exact False.elim h
              | ok d μ6 =>
                rw [ev'] at h
                intro z α6 R6 H6 S6 A6 dz
                have hD6 : H6 Da = some (.dK av) := A6.k Da _ hD5 nk5
                have nk6 : ¬ Kn α6 R6 Da := A6.notKn nk5 hD5
                have h : After K mg E (relN K mg) α R H ((match keyOf dk with
                  | some k => compK it.chk T t ek ev own (it.items.drop (i + 1)) (putD acc k d) ρ μ6
                  | none => .bad).bind fun ds μ2 => .ok (.dict ds) μ2) (fun x H1 => ∀ p, H1 p = none → Q (.ref p) (upd H1 p x.2)) := h
                cases ek' : keyOf dk with
                | none => rw [ek'] at h; exact False.elim h
                | some k =>
                  rw [ek'] at h
                  have dl6 := (((dl.adv A3).adv A4).adv A5).adv A6
                  refine ⟨av, k, keyOf_den dw ek', hD6, ?_, ?_⟩
                  · rw [dl6.len]
                    have := G.len
                    omega
                  · exact ⟨_, by omega, μ6, α6, R6, putK av k z, putD acc k d, S6.out nk6 (fun b hb => upd_ne hb), ((((A2.trans A3).trans A4).trans A5).trans A6).out hD (fun b hb => upd_ne hb), nk6, upd_same, dl6.put k dz,
                      by have := putD_len acc k d; omega, hlt, rfl, h⟩
    · left
      have hn : i = it.items.length := by omega
      subst hn
      simp only [Rest] at h
      rw [List.drop_length] at h
      unfold compK at h
      split at h
      rotate_left
      · exact False.elim h
      rename_i hk
      refine ⟨G.stop μ α2 R2 H' S2 A2 hk, ?_⟩
      have h : After K mg E (relN K mg) α R H (.ok (.dict acc) μ) (fun x H1 => ∀ p, H1 p = none → Q (.ref p) (upd H1 p x.2)) := h
      have hA : Adv α R H α2 R2 (eras H' Da) := A1.trans (A2.out hD fun b hb => eras_ne hb)
      have := h (L2.V.non, .dK av) α2 R2 (eras H' Da) (S2.out nk2 fun b hb => eras_ne hb) hA ⟨av, rfl, by rw [dl.len]; exact Nat.le_trans hacc G.len, dl⟩ Da eras_same
      rwa [eras_upd hav] at this
end
section
variable {X : Cx} {E : XK} {kx vx tg iter c : Expr} {ifs : List Expr} {scope : Scope} {own : List (Str × Nat)} {pos spos : Pos} {fi : FI} {T : Tg} {t : FT} {ek ev : FE}
theorem dn_dc (hT : ∀ i ∈ tgSlots T, i ∈ own.map (·.2)) (hc : X.calm = true) (hN : X.N.Nodup) (hi : DI X E tg iter fi) (ok : BlkOk X.N X.env.scope scope own)
    (hg : ∀ (s : Shared) (H : Hp) (C : Addr) (cl : List (Str × Addr)) (fp : List Addr), GT (X.blk s H scope (compEnvC scope cl C X.env) fp) tg T)
    (ht : ∀ (s : Shared) (H : Hp) (C : Addr) (cl : List (Str × Addr)) (fp : List Addr), DTs (X.blk s H scope (compEnvC scope cl C X.env) fp) EN ifs t)
    (hk : ∀ (s : Shared) (H : Hp) (C : Addr) (cl : List (Str × Addr)) (fp : List Addr), DE (X.blk s H scope (compEnvC scope cl C X.env) fp) EN kx ek)
    (he : ∀ (s : Shared) (H : Hp) (C : Addr) (cl : List (Str × Addr)) (fp : List Addr), DE (X.blk s H scope (compEnvC scope cl C X.env) fp) EN vx ev) (hs : ∀ x, foldedSetIterable iter X.env x = pure x := by intro _; rfl) :
    DN X E (.DictComp kx vx [⟨tg, iter, ifs, 0⟩] scope pos) (nCompK fi T t ek ev (own.map (·.2))) :=
  wE (pe_dc (wi := LiftI X.K X.mg E fi) (g := hG X.K T) (tt := Lift X.K X.mg EN relB t) (tk := Lift X.K X.mg EN (relD X.K X.mg) ek) (tv := Lift X.K X.mg EN (relD X.K X.mg) ev) hc hN hi ok hg ht hk he hs) fun σ H Q h => dc_lift hT h
/-- name = {..} on one line, the name a local: as ps_setLc -/
theorem ps_setDc' {i : Nat} {y : Str} {py : Pos} {wi : TI} {g : TG} {tt : TT} {tk te : TE} (hc : X.calm = true) (hN : X.N.Nodup) (hy : X.N[i]? = some y) (hyl : X.env.scope.names.lookup y = some .local)
    (hsw : swapsWith (.DictComp kx vx [⟨tg, iter, ifs, 0⟩] scope pos) (some (.Name y py)) spos.line X.env = pure true) (hi : PI X tg iter wi) (ok : BlkOk X.N X.env.scope scope own)
    (hg : ∀ (s : Shared) (H : Hp) (C : Addr) (cl : List (Str × Addr)) (fp : List Addr), PG (X.blk s H scope (compEnvC scope cl C X.env) fp) tg g)
    (ht : ∀ (s : Shared) (H : Hp) (C : Addr) (cl : List (Str × Addr)) (fp : List Addr), PTs (X.blk s H scope (compEnvC scope cl C X.env) fp) ifs tt)
    (hk : ∀ (s : Shared) (H : Hp) (C : Addr) (cl : List (Str × Addr)) (fp : List Addr), PE (X.blk s H scope (compEnvC scope cl C X.env) fp) kx tk)
    (he : ∀ (s : Shared) (H : Hp) (C : Addr) (cl : List (Str × Addr)) (fp : List Addr), PE (X.blk s H scope (compEnvC scope cl C X.env) fp) vx te) (hs : ∀ x, foldedSetIterable iter X.env x = pure x := by intro _; rfl) :
    PS X (.Assign [.Name y py] (.DictComp kx vx [⟨tg, iter, ifs, 0⟩] scope pos) spos) (tAsg (tDc wi g tt tk te (own.map (·.2))) (gName i)) := by
  refine ⟨fun pins s σ H Dn I h => ?_⟩
  rw [exec_Assign_Name_used _ _ _ _ hsw]
  refine wpAny_bind (wpAny_standAt (wpAny_bind ?_))
  show wpAny _ X.A (do let _ ← comprehension (.DictComp kx vx [⟨tg, iter, ifs, 0⟩] scope pos) scope X.env (firstIterPos [⟨tg, iter, ifs, 0⟩] pos) newDict false (eval iter X.env) (some (assign (.Name y py) X.env))) _ _ s
  have h : tDc wi g tt tk te (own.map (·.2)) σ H (fun x H1 => gName i x σ H1 Dn.nx) := h
  refine wpAny_bind (thn (dc_core (Qf := fun _ s' => SP X pins Dn .next s') hc hN I hi ok hg ht hk he hs h fun L C s' m H' I' q hn f => ?_)
    fun _ s' hq => wpAny_pure (wpAny_pure hq))
  show wpAny _ _ (assign (.Name y py) X.env (.ref L)) _ _ _
  refine wpAny_assign_Name (store_ok2 (v := V.ref L) I' hN hy (.inl hyl) rfl (fun s2 I2 hq => ?_) (.inr hyl))
  obtain ⟨a, sb, ha⟩ := hq
  obtain ⟨f0, f1, f2, f3, f4, f5⟩ := f
  have hCa : C ≠ a := by
    rcases ha with z | z
    · rw [z]
      exact f1
    · exact fun e => f4 y a z e.symm
  exact ⟨m, hn.sameBut sb hCa, fun h3 sb3 => ⟨_, H', I2.turned (t' := s2.toks) (fun b o hb e => (sb3.2 b hb).trans e) f0 f1 f3 f4 f5, q⟩⟩
theorem sw_trueD {kx vx : Expr} {gs : List Comprehension} {py : Pos} {y : Str} {l : Nat} {env : PySem.Env} (hk : env.scope.kind = .function) (hy : env.scope.names.lookup y = some .local) (hl : (py.line == pos.line) = true)
    (ha : (scope.names.any fun (n, k) => n == y && (k == .local || k == .cell)) = false) : swapsWith (.DictComp kx vx gs scope pos) (some (.Name y py)) l env = pure true := by
  have h1 : env.kindOf y = some .local := hy
  have h2 : env.blockKind = .function := by
    unfold PySem.Env.blockKind
    rw [hk] <;> rfl
  unfold swapsWith
  simp only [h1, h2, ha, PySem.Expr.pos, hl]
  rfl
theorem dc_set {i : Nat} {y : Str} {py : Pos} (hT : ∀ i ∈ tgSlots T, i ∈ own.map (·.2)) (hc : X.calm = true) (hN : X.N.Nodup) (hy : X.N[i]? = some y) (hyl : X.env.scope.names.lookup y = some .local)
    (hsw : swapsWith (.DictComp kx vx [⟨tg, iter, ifs, 0⟩] scope pos) (some (.Name y py)) spos.line X.env = pure true) (hi : DI X E tg iter fi) (ok : BlkOk X.N X.env.scope scope own)
    (hg : ∀ (s : Shared) (H : Hp) (C : Addr) (cl : List (Str × Addr)) (fp : List Addr), GT (X.blk s H scope (compEnvC scope cl C X.env) fp) tg T)
    (ht : ∀ (s : Shared) (H : Hp) (C : Addr) (cl : List (Str × Addr)) (fp : List Addr), DTs (X.blk s H scope (compEnvC scope cl C X.env) fp) EN ifs t)
    (hk : ∀ (s : Shared) (H : Hp) (C : Addr) (cl : List (Str × Addr)) (fp : List Addr), DE (X.blk s H scope (compEnvC scope cl C X.env) fp) EN kx ek)
    (he : ∀ (s : Shared) (H : Hp) (C : Addr) (cl : List (Str × Addr)) (fp : List Addr), DE (X.blk s H scope (compEnvC scope cl C X.env) fp) EN vx ev) (hs : ∀ x, foldedSetIterable iter X.env x = pure x := by intro _; rfl) :
    DS X E (.Assign [.Name y py] (.DictComp kx vx [⟨tg, iter, ifs, 0⟩] scope pos) spos) (sSet i (eFz (nCompK fi T t ek ev (own.map (·.2))))) ∧
    DS X E (.Assign [.Name y py] (.DictComp kx vx [⟨tg, iter, ifs, 0⟩] scope pos) spos) (sSet i (eNew (nCompK fi T t ek ev (own.map (·.2))))) :=
  have h := ps_setDc' (wi := LiftI X.K X.mg E fi) (g := hG X.K T) (tt := Lift X.K X.mg EN relB t) (tk := Lift X.K X.mg EN (relD X.K X.mg) ek) (te := Lift X.K X.mg EN (relD X.K X.mg) ev) hc hN hy hyl hsw hi ok hg ht hk he hs
  ⟨wS h fun Dn σ H q => set_fz (fun σ H Q h => dc_lift hT h) q, wS h fun Dn σ H q => set_new (fun σ H Q h => dc_lift hT h) q⟩
theorem dc_set1 {i : Nat} {y : Str} {py : Pos} (hT : ∀ i ∈ tgSlots T, i ∈ own.map (·.2)) (hc : X.calm = true) (hN : X.N.Nodup) (hy : X.N[i]? = some y) (hyl : X.env.scope.names.lookup y = some .local)
    (hsw : swapsWith (.DictComp kx vx [⟨tg, iter, ifs, 0⟩] scope pos) (some (.Name y py)) spos.line X.env = pure true) (hi : DI X E tg iter fi) (ok : BlkOk X.N X.env.scope scope own)
    (hg : ∀ (s : Shared) (H : Hp) (C : Addr) (cl : List (Str × Addr)) (fp : List Addr), GT (X.blk s H scope (compEnvC scope cl C X.env) fp) tg T)
    (ht : ∀ (s : Shared) (H : Hp) (C : Addr) (cl : List (Str × Addr)) (fp : List Addr), DTs (X.blk s H scope (compEnvC scope cl C X.env) fp) EN ifs t)
    (hk : ∀ (s : Shared) (H : Hp) (C : Addr) (cl : List (Str × Addr)) (fp : List Addr), DE (X.blk s H scope (compEnvC scope cl C X.env) fp) EN kx ek)
    (he : ∀ (s : Shared) (H : Hp) (C : Addr) (cl : List (Str × Addr)) (fp : List Addr), DE (X.blk s H scope (compEnvC scope cl C X.env) fp) EN vx ev) (hs : ∀ x, foldedSetIterable iter X.env x = pure x := by intro _; rfl) :
    DS X E (.Assign [.Name y py] (.DictComp kx vx [⟨tg, iter, ifs, 0⟩] scope pos) spos) (sSet i (eFz (nCompK fi T t ek ev (own.map (·.2))))) := (dc_set hT hc hN hy hyl hsw hi ok hg ht hk he hs).1
theorem dc_set2 {i : Nat} {y : Str} {py : Pos} (hT : ∀ i ∈ tgSlots T, i ∈ own.map (·.2)) (hc : X.calm = true) (hN : X.N.Nodup) (hy : X.N[i]? = some y) (hyl : X.env.scope.names.lookup y = some .local)
    (hsw : swapsWith (.DictComp kx vx [⟨tg, iter, ifs, 0⟩] scope pos) (some (.Name y py)) spos.line X.env = pure true) (hi : DI X E tg iter fi) (ok : BlkOk X.N X.env.scope scope own)
    (hg : ∀ (s : Shared) (H : Hp) (C : Addr) (cl : List (Str × Addr)) (fp : List Addr), GT (X.blk s H scope (compEnvC scope cl C X.env) fp) tg T)
    (ht : ∀ (s : Shared) (H : Hp) (C : Addr) (cl : List (Str × Addr)) (fp : List Addr), DTs (X.blk s H scope (compEnvC scope cl C X.env) fp) EN ifs t)
    (hk : ∀ (s : Shared) (H : Hp) (C : Addr) (cl : List (Str × Addr)) (fp : List Addr), DE (X.blk s H scope (compEnvC scope cl C X.env) fp) EN kx ek)
    (he : ∀ (s : Shared) (H : Hp) (C : Addr) (cl : List (Str × Addr)) (fp : List Addr), DE (X.blk s H scope (compEnvC scope cl C X.env) fp) EN vx ev) (hs : ∀ x, foldedSetIterable iter X.env x = pure x := by intro _; rfl) :
    DS X E (.Assign [.Name y py] (.DictComp kx vx [⟨tg, iter, ifs, 0⟩] scope pos) spos) (sSet i (eNew (nCompK fi T t ek ev (own.map (·.2))))) := (dc_set hT hc hN hy hyl hsw hi ok hg ht hk he hs).2
end
/-! ### while -/
def whileF : Nat → FT → FS → Env → Mu → Res Flow
  | 0, _, _, _, _ => .bad
  | n + 1, c, body, ρ, μ => (c ρ μ).bind fun b μ1 => if b = true then (body ρ μ1).bind fun fl μ2 => match fl with
      | .nx ρ2 => whileF n c body ρ2 μ2
      | .ct ρ2 => whileF n c body ρ2 μ2
      | .bk ρ2 => .ok (.nx ρ2) μ2
      | .rt d => .ok (.rt d) μ2
    else .ok (.nx ρ) μ1
def fuel : Nat := 1000000000000
def sWhile (c : FT) (body : FS) : FS := whileF fuel c body
section
variable {X : Cx} {E : XK} {pos : Pos}
theorem ds_while {c : Expr} {body : List Stmt} {tc : FT} {fb : FS} (hp : PassesOwn (model X.prog X.w) X.A X.env X.xe) (hc : DT X E c tc) (hb : DSs X E body fb) : DS X E (.While c body [] pos) (sWhile tc fb) :=
  wS (ps_while hp hc hb) fun Dn σ H ⟨ρ, μ, α, R, S, V, h⟩ => by
    refine ⟨fun m σ H => ∃ ρ μ α R, SM X.K X.mg μ α R H ∧ SS X.K X.mg ρ R α σ ∧ AfterS X.K X.mg E α R H (whileF m tc fb ρ μ) Dn, ⟨fuel, ρ, μ, α, R, S, V, h⟩, ?_⟩
    rintro m σ H ⟨ρ, μ, α, R, S, V, h⟩
    cases m with
    | zero => exact False.elim h
    | succ m =>
      unfold whileF at h
      refine ⟨ρ, μ, α, R, S, V, h.bind fun b μ1 b' α1 R1 H1 S1 A1 rb h1 => ?_⟩
      cases rb
      cases b with
      | false => exact h1 σ α1 R1 H1 S1 .refl (V.adv A1)
      | true =>
        refine ⟨fun σ' H' => ∃ m', m' < m + 1 ∧ ∃ ρ μ α R, SM X.K X.mg μ α R H' ∧ SS X.K X.mg ρ R α σ' ∧ AfterS X.K X.mg E α R H' (whileF m' tc fb ρ μ) Dn, fun _ _ q => q, ρ, μ1, α1, R1, S1, V.adv A1, ?_⟩
        have h1 : AfterS X.K X.mg E α1 R1 H1 ((fb ρ μ1).bind fun fl μ2 => match fl with
          | .nx ρ2 => whileF m tc fb ρ2 μ2
          | .ct ρ2 => whileF m tc fb ρ2 μ2
          | .bk ρ2 => .ok (.nx ρ2) μ2
          | .rt d => .ok (.rt d) μ2) Dn := h1
        refine h1.seq ?_ ?_ ?_ ?_
        · intro ρ3 μ3 σ3 α3 R3 H3 S3 A3 V3 q
          exact ⟨m, by omega, ρ3, μ3, α3, R3, S3, V3, q⟩
        · intro d μ3 v α3 R3 H3 S3 A3 q3 q
          exact q v α3 R3 H3 S3 .refl q3
        · intro ρ3 μ3 σ3 α3 R3 H3 S3 A3 V3 q
          exact q σ3 α3 R3 H3 S3 .refl V3
        · intro ρ3 μ3 σ3 α3 R3 H3 S3 A3 V3 q
          exact ⟨m, by omega, ρ3, μ3, α3, R3, S3, V3, q⟩
end
end TL

set_option Elab.async false
set_option maxRecDepth 100000
set_option maxHeartbeats 1000000
set_option linter.all false
/-! The tree layer, part i: freezing, what a def does (FnT), calls of defs, the law's end. -/
namespace TL
open PySem PySem.Spec PyProof.Rows L2

mutual
/-- every cell that is named lies below n -/
def okLoc (n : Nat) : D → Bool
  | .list xs => okLocs n xs
  | .tuple xs => okLocs n xs
  | .dict kvs => okLocK n kvs
  | .obj _ fs => okLocF n fs
  | .loc i => decide (i < n)
  | .none => true
  | .bool _ => true
  | .int _ => true
  | .str _ => true
  | .fn _ => true
  | .script _ => true
  | .ty _ => true
  | .exc _ fs => okLocF n fs
def okLocs (n : Nat) : List D → Bool
  | [] => true
  | x :: xs => okLoc n x && okLocs n xs
def okLocK (n : Nat) : List (Key × D) → Bool
  | [] => true
  | (_, x) :: xs => okLoc n x && okLocK n xs
def okLocF (n : Nat) : List (Str × D) → Bool
  | [] => true
  | (_, x) :: xs => okLoc n x && okLocF n xs
end
def okCell (n : Nat) : Cell → Bool
  | .list xs => okLocs n xs
  | .dict kvs => okLocK n kvs
  | .obj _ fs => okLocF n fs
def sameC : Cell → Cell → Bool
  | .list xs, .list ys => sames xs ys
  | .dict xs, .dict ys => sameK xs ys
  | .obj c xs, .obj d ys => decide (c = d) && sameF xs ys
  | _, _ => false
theorem sameC_eq : ∀ (a b : Cell), sameC a b = true → a = b
  | .list _, b, h => by cases b <;> simp [sameC] at h; rw [sames_eq _ _ h]
  | .dict _, b, h => by cases b <;> simp [sameC] at h; rw [sameK_eq _ _ h]
  | .obj _ _, b, h => by cases b <;> simp [sameC] at h; rw [h.1, sameF_eq _ _ h.2]
theorem sameC_refl : ∀ (a : Cell), sameC a a = true
  | .list _ => by simp [sameC, sames_refl]
  | .dict _ => by simp [sameC, sameK_refl]
  | .obj _ _ => by simp [sameC, sameF_refl]
/-- a cell ahead of a call and behind it -/
def okStep (n : Nat) (c c' : Option Cell) : Bool := match c' with
  | none => true
  | some d => okCell n d || (match c with | some e => sameC d e | none => false)
/-- the store behind a def, cut back to what stood there ahead of it -/
def chkMu (n : Nat) : Mu → Mu → Bool
  | [], _ => true
  | c :: cs, c' :: cs' => okStep n c c' && chkMu n cs cs'
  | _ :: _, [] => true
def retV (μ μ' : Mu) (d : D) : Res D :=
  if chkMu μ.length μ μ' = true then
    match d with
    | .loc i => if i < μ.length then .ok d (μ'.take μ.length) else match μ'[i]? with
      | some (some c) => if okCell μ.length c = true then .ok (.loc μ.length) (μ'.take μ.length ++ [some c]) else .bad
      | _ => .bad
    | d => if okLoc μ.length d = true then .ok d (μ'.take μ.length) else .bad
  else .bad
def startD (n : Nat) (ds : List D) : Env := ds.map some ++ List.replicate (n - ds.length) none
/-- a def: n names, the body f -/
def runDef (n : Nat) (f : FS) (ds : List D) (μ : Mu) : Res D := match f (startD n ds) μ with
  | .ok (.nx _) μ' => retV μ μ' .none
  | .ok (.rt d) μ' => retV μ μ' d
  | .ok _ _ => .bad
  | .ex x μ' => if (chkMu μ.length μ μ' && okLocF μ.length x.fs) = true then .ex x (μ'.take μ.length) else .bad
  | .bad => .bad
section
variable {K : PySem.W.Frag} {mg : Str → Option Value} {E : XK} {R R' H H' : Hp} {α α' : List Addr} {μ μ' : Mu}
mutual
theorem okLoc_den : ∀ {v : V} {d : D}, Den K mg R α v d → okLoc α.length d = true
  | _, _, .none => by simp [okLoc]
  | _, _, .bool _ => by simp [okLoc]
  | _, _, .int _ => by simp [okLoc]
  | _, _, .str _ => by simp [okLoc]
  | _, _, .list _ _ t => by simpa [okLoc] using okLocs_den t
  | _, _, .tuple _ _ t => by simpa [okLoc] using okLocs_den t
  | _, _, .dict _ _ t => by simpa [okLoc] using okLocK_den t
  | _, _, .obj _ _ t => by simpa [okLoc] using okLocF_den t
  | _, _, .loc h => by simpa [okLoc] using (List.getElem?_eq_some_iff.mp h).1
  | _, _, .fn _ => by simp [okLoc]
  | _, _, .script _ => by simp [okLoc]
  | _, _, .ty _ => by simp [okLoc]
  | _, _, .exc _ _ _ t => by simpa [okLoc] using okLocF_den t
theorem okLocs_den : ∀ {v : List V} {d : List D}, DenL K mg R α v d → okLocs α.length d = true
  | _, _, .nil => by simp [okLocs]
  | _, _, .cons h t => by simp [okLocs, okLoc_den h, okLocs_den t]
theorem okLocK_den : ∀ {v : List (Key × V)} {d : List (Key × D)}, DenK K mg R α v d → okLocK α.length d = true
  | _, _, .nil => by simp [okLocK]
  | _, _, .cons h t => by simp [okLocK, okLoc_den h, okLocK_den t]
theorem okLocF_den : ∀ {v : List (Str × V)} {d : List (Str × D)}, DenF K mg R α v d → okLocF α.length d = true
  | _, _, .nil => by simp [okLocF]
  | _, _, .cons h t => by simp [okLocF, okLoc_den h, okLocF_den t]
end
mutual
theorem den_cut {n : Nat} (h : ∀ i, i < n → α'[i]? = α[i]?) : ∀ {v : V} {d : D}, Den K mg R α' v d → okLoc n d = true → Den K mg R α v d
  | _, _, .none, _ => .none
  | _, _, .bool b, _ => .bool b
  | _, _, .int b, _ => .int b
  | _, _, .str b, _ => .str b
  | _, _, .list a b t, q => .list a b (denL_cut h t (by simpa [okLoc] using q))
  | _, _, .tuple a b t, q => .tuple a b (denL_cut h t (by simpa [okLoc] using q))
  | _, _, .dict a b t, q => .dict a b (denK_cut h t (by simpa [okLoc] using q))
  | _, _, .obj a b t, q => .obj a b (denF_cut h t (by simpa [okLoc] using q))
  | _, _, .loc e, q => .loc (by rw [← h _ (by simpa [okLoc] using q)]; exact e)
  | _, _, .fn e, _ => .fn e
  | _, _, .script e, _ => .script e
  | _, _, .ty e, _ => .ty e
  | _, _, .exc a b d t, q => .exc a b d (denF_cut h t (by simpa [okLoc] using q))
theorem denL_cut {n : Nat} (h : ∀ i, i < n → α'[i]? = α[i]?) : ∀ {v : List V} {d : List D}, DenL K mg R α' v d → okLocs n d = true → DenL K mg R α v d
  | _, _, .nil, _ => .nil
  | _, _, .cons a t, q => by
    simp only [okLocs, Bool.and_eq_true] at q
    exact .cons (den_cut h a q.1) (denL_cut h t q.2)
theorem denK_cut {n : Nat} (h : ∀ i, i < n → α'[i]? = α[i]?) : ∀ {v : List (Key × V)} {d : List (Key × D)}, DenK K mg R α' v d → okLocK n d = true → DenK K mg R α v d
  | _, _, .nil, _ => .nil
  | _, _, .cons a t, q => by
    simp only [okLocK, Bool.and_eq_true] at q
    exact .cons (den_cut h a q.1) (denK_cut h t q.2)
theorem denF_cut {n : Nat} (h : ∀ i, i < n → α'[i]? = α[i]?) : ∀ {v : List (Str × V)} {d : List (Str × D)}, DenF K mg R α' v d → okLocF n d = true → DenF K mg R α v d
  | _, _, .nil, _ => .nil
  | _, _, .cons a t, q => by
    simp only [okLocF, Bool.and_eq_true] at q
    exact .cons (den_cut h a q.1) (denF_cut h t q.2)
end
theorem cell_cut {n : Nat} (h : ∀ i, i < n → α'[i]? = α[i]?) {a : Addr} {c : Cell} (q : CellOk K mg R α' H a c) (k : okCell n c = true) : CellOk K mg R α H a c := by
  cases c with
  | list xs => obtain ⟨vs, e1, e2, e3⟩ := q; exact ⟨vs, e1, e2, denL_cut h e3 k⟩
  | dict xs => obtain ⟨vs, e1, e2, e3⟩ := q; exact ⟨vs, e1, e2, denK_cut h e3 k⟩
  | obj c xs => obtain ⟨C, dx, vs, e0, e1, e3⟩ := q; exact ⟨C, dx, vs, e0, e1, denF_cut h e3 k⟩
theorem cell_ok {a : Addr} {c : Cell} (q : CellOk K mg R α H a c) : okCell α.length c = true := by
  cases c with
  | list xs => obtain ⟨vs, e1, e2, e3⟩ := q; exact okLocs_den e3
  | dict xs => obtain ⟨vs, e1, e2, e3⟩ := q; exact okLocK_den e3
  | obj c xs => obtain ⟨C, dx, vs, e0, e1, e3⟩ := q; exact okLocF_den e3
theorem chkMu_get {n : Nat} : ∀ {μ μ' : Mu} {i : Nat} {c : Cell}, chkMu n μ μ' = true → i < μ.length → μ'[i]? = some (some c) → okCell n c = true ∨ μ[i]? = some (some c)
  | [], _, i, c, _, h, _ => by simp at h
  | _ :: _, [], i, c, _, _, h => by simp at h
  | d :: μ, d' :: μ', 0, c, h, _, e => by
    simp only [List.getElem?_cons_zero, Option.some.injEq] at e
    subst e
    simp only [chkMu, Bool.and_eq_true] at h
    have h1 := h.1
    simp only [okStep, Bool.or_eq_true] at h1
    rcases h1 with h1 | h1
    · exact .inl h1
    · cases d with
      | none => simp at h1
      | some e => right; simp at h1; rw [sameC_eq _ _ h1]; rfl
  | d :: μ, d' :: μ', i + 1, c, h, hl, e => by
    simp only [chkMu, Bool.and_eq_true] at h
    have := chkMu_get (i := i) (c := c) h.2 (by simpa using hl) (by simpa using e)
    simpa using this
theorem Adv.pre (A : Adv α R H α' R' H') : ∀ i, i < α.length → α'[i]? = α[i]? := fun i h => by
  rw [List.getElem?_eq_getElem h]
  exact A.a i _ (List.getElem?_eq_getElem h)
/-- behind a def its own cells are forgotten -/
theorem SM.trunc (S : SM K mg μ α R H) (S' : SM K mg μ' α' R' H') (A : Adv α R H α' R' H') (h : chkMu μ.length μ μ' = true) : SM K mg (μ'.take μ.length) α R' H' ∧ Adv α R H α R' H' := by
  have hl : α.length ≤ α'.length := by
    rcases Nat.lt_or_ge α'.length α.length with q | q
    · exfalso
      have := A.a α'.length _ (List.getElem?_eq_getElem q)
      rw [List.getElem?_eq_none (Nat.le_refl _)] at this; cases this
    · exact q
  have hl2 : μ.length ≤ μ'.length := by rw [← S.len, ← S'.len]; exact hl
  refine ⟨⟨by simp [S.len]; omega, S'.frz, fun a ha => ?_, S.nod, fun n c a q1 q2 => ?_⟩, ⟨A.r, fun _ _ h => h, A.f, A.t, A.k, fun b q => ?_⟩⟩
  · obtain ⟨o, e⟩ := S.trk a ha
    exact A.t a o e
  · have hn : n < μ.length := by rw [← S.len]; exact (List.getElem?_eq_some_iff.mp q2).1
    rw [List.getElem?_take_of_lt hn] at q1
    obtain ⟨h1, h2⟩ := S'.cell n c a q1 (A.a n a q2)
    have pre : ∀ i, i < μ.length → α'[i]? = α[i]? := fun i hi => A.pre i (by rw [S.len]; exact hi)
    refine ⟨h1, cell_cut pre h2 ?_⟩
    rcases chkMu_get h hn q1 with z | z
    · exact z
    · have := cell_ok (S.cell n c a z q2).2
      rwa [S.len] at this
  · rcases q with q | q
    · exact .inl (.inl q)
    · exact A.n b (.inr q)
theorem After.ret {d : D} {v : V} {Q : VK} (S : SM K mg μ α R H) (S' : SM K mg μ' α' R' H') (A : Adv α R H α' R' H') (hd : Den K mg R' α' v d) (h : After K mg E (relD K mg) α R H (retV μ μ' d) Q) : Q v H' := by
  unfold retV at h
  split at h
  rotate_left
  · exact False.elim h
  rename_i hk
  obtain ⟨S2, A2⟩ := S.trunc S' A hk
  have pre : ∀ i, i < μ.length → α'[i]? = α[i]? := fun i hi => A.pre i (by rw [S.len]; exact hi)
  split at h
  · rename_i i
    split at h
    · rename_i hi
      exact h v α R' H' S2 A2 (den_cut pre hd (by simpa [okLoc] using hi))
    · rename_i hi
      split at h
      · rename_i c e
        split at h
        · rename_i hc
          cases hd with
          | loc ea =>
            rename_i a
            obtain ⟨h1, h2⟩ := S'.cell i c a e ea
            have na : a ∉ α := fun q => by
              obtain ⟨j, hj, ej⟩ := List.getElem_of_mem q
              have e3 : α'[j]? = some a := A.a j a (by rw [List.getElem?_eq_getElem hj, ej])
              have := S'.ne e3 ea rfl
              rw [S.len] at hj
              omega
            have hlen : (μ'.take μ.length).length = μ.length := by rw [← S2.len, S.len]
            have a1 : ∀ (n : Nat) x, α[n]? = some x → (α ++ [a])[n]? = some x := fun n x h => by
              rw [List.getElem?_append_left (List.getElem?_eq_some_iff.mp h).1]; exact h
            have last : (α ++ [a])[μ.length]? = some a := by rw [← S.len]; simp
            refine h (.ref a) (α ++ [a]) R' H' ⟨by simp [S2.len], S2.frz, fun b hb => ?_, ?_, fun n c' b q1 q2 => ?_⟩ ⟨A2.r, a1, A2.f, A2.t, A2.k, fun b q => ?_⟩ (.loc last)
            · rcases List.mem_append.mp hb with hb | hb
              · exact S2.trk b hb
              · obtain rfl := List.mem_singleton.mp hb
                exact S'.trk b (List.mem_of_getElem? ea)
            · refine List.nodup_append.mpr ⟨S.nod, by simp, fun x hx y hy => ?_⟩
              obtain rfl := List.mem_singleton.mp hy
              exact fun z => na (z ▸ hx)
            · by_cases hn : n < μ.length
              · rw [List.getElem?_append_left (by rw [hlen]; exact hn)] at q1
                rw [List.getElem?_append_left (by rw [S.len]; exact hn)] at q2
                obtain ⟨g1, g2⟩ := S2.cell n c' b q1 q2
                refine ⟨g1, ?_⟩
                cases c' with
                | list xs => obtain ⟨vs, e1, e2, e3⟩ := g2; exact ⟨vs, e1, e2, e3.up (fun _ _ h => h) a1⟩
                | dict xs => obtain ⟨vs, e1, e2, e3⟩ := g2; exact ⟨vs, e1, e2, e3.up (fun _ _ h => h) a1⟩
                | obj c xs => obtain ⟨C, dx, vs, e0, e1, e3⟩ := g2; exact ⟨C, dx, vs, e0, e1, e3.up (fun _ _ h => h) a1⟩
              · have hn2 : n = μ.length := by
                  have := (List.getElem?_eq_some_iff.mp q1).1
                  simp only [List.length_append, hlen, List.length_singleton] at this
                  omega
                subst hn2
                rw [last] at q2; cases q2
                rw [List.getElem?_append_right (by rw [hlen]; exact Nat.le_refl _), hlen] at q1
                simp at q1; subst q1
                refine ⟨h1, ?_⟩
                have g2 := cell_cut pre h2 hc
                cases c with
                | list xs => obtain ⟨vs, e1, e2, e3⟩ := g2; exact ⟨vs, e1, e2, e3.up (fun _ _ h => h) a1⟩
                | dict xs => obtain ⟨vs, e1, e2, e3⟩ := g2; exact ⟨vs, e1, e2, e3.up (fun _ _ h => h) a1⟩
                | obj c xs => obtain ⟨C, dx, vs, e0, e1, e3⟩ := g2; exact ⟨C, dx, vs, e0, e1, e3.up (fun _ _ h => h) a1⟩
            · rcases q with q | q
              · rcases List.mem_append.mp q with q | q
                · exact .inl (.inl q)
                · obtain rfl := List.mem_singleton.mp q
                  exact A.n b (.inl (List.mem_of_getElem? ea))
              · exact A2.n b (.inr q)
        · exact False.elim h
      · exact False.elim h
  · split at h
    · rename_i hi
      exact h v α R' H' S2 A2 (den_cut pre hd hi)
    · exact False.elim h
end
/-! ### what a def does -/
structure FnT (P : Program) (w : World) (K : PySem.W.Frag) (mg : Str → Option Value) (base : Heap) (k : Nat) (f : Addr) (fd : FuncData) (ps : List Str) (F : List D → Mu → Res D) : Prop where
  run : ∀ (A : Around) (outer : List PySem.Env) (s : Shared) (H : Hp) (args : Args) (us : List Value) (vs : List V) (ds : List D) (μ : Mu) (α : List Addr) (R : Hp) (Q : VK) (E : XK),
    Room k A → A.guards = some [] → Env0 P w K mg base A outer s H → BindsTo s fd args (ps.zip us) → Vals vs us → vs.length = ps.length → SM K mg μ α R H → DenL K mg R α vs ds →
    After K mg E (relD K mg) α R H (F ds μ) Q → codeAny (model P w) A (.call (.ref f) args) (CR (L2.CX P w) outer P w H s Q E) s
section
variable {P : Program} {w : World} {K : PySem.W.Frag} {mg : Str → Option Value} {base : Heap}
theorem FnT.mono {j k : Nat} {f : Addr} {fd : FuncData} {ps : List Str} {F : List D → Mu → Res D} (h : FnT P w K mg base j f fd ps F) (hk : j ≤ k) : FnT P w K mg base k f fd ps F :=
  ⟨fun A outer s H args us vs ds μ α R Q E hr => h.run A outer s H args us vs ds μ α R Q E (hr.mono hk)⟩
theorem ss_start {N : List Str} {vs : List V} {ds : List D} {R : Hp} {α : List Addr} (h : DenL K mg R α vs ds) : SS K mg (startD N.length ds) R α (L2.start N vs) := by
  refine ⟨by simp [startD, L2.start, h.len], fun i d q => ?_⟩
  unfold startD at q
  unfold L2.start
  by_cases hi : i < ds.length
  · rw [List.getElem?_append_left (by simpa using hi), List.getElem?_map] at q
    obtain ⟨e, h1, h2⟩ := Option.map_eq_some_iff.mp q
    cases h2
    obtain ⟨v, h3, h4⟩ := h.get' h1
    exact ⟨v, by rw [List.getElem?_append_left (by simpa [h.len] using hi), List.getElem?_map, h3] <;> rfl, h4⟩
  · rw [List.getElem?_append_right (by simpa using Nat.le_of_not_lt hi)] at q
    have := List.mem_of_getElem? q
    simp at this
theorem fn_okE {k : Nat} {x qual : Str} {st : Stmt} {f : Addr} {fd : FuncData} {N ps : List Str} {fb : FS} (Fex : ∃ (oc : Value) (od : Option Addr) (dV kV doc pm : Value) (an : Option Addr) (cdv ct : Value) (osl : Array (Option Value)), fd = PySem.W.fnOf x qual (defArgs st) (defBody st) (defScope st) dV kV doc pm an cdv ct ∧ K.lookup f = some ⟨oc, od, .func fd, osl⟩ ∧ PySem.W.codeIn K cdv qual = true) (S : FnScope N ps (defScope st))
    (body : ∀ (cdv : Value) (A : Around) (outer : List PySem.Env) (s : Shared) (H : Hp) (E : XK), Room k (A.deeper (envOfC qual (defScope st) s.heap.objs.size f cdv)) → (A.deeper (envOfC qual (defScope st) s.heap.objs.size f cdv)).guards = some [] →
      DSs (cxOf (L2.CX P w) P w K mg base N qual (defScope st) f cdv A outer s H E) E (defBody st) fb) : FnT P w K mg base (k + 1) f fd ps (runDef N.length fb) := by
  refine ⟨fun A outer s H args us vs ds μ α R Q E hr hgd e0 hb r hl SMu dl h => ?_⟩
  obtain ⟨oc, od, dV, kV, doc, pm, an, cdv, ct, osl, rfl, lk, hcd⟩ := Fex
  have inK : K.In s.heap := e0.mod.kin.keeps fun b o e => (e0.bs b o e).1
  have lim : s.heap.NoLimit := e0.mod.nolimit.keeps fun b o e => (e0.bs b o e).1
  have kinds : ∀ y ∈ ps.zip us, (defScope st).names.lookup y.1 = some .local ∨ ((defScope st).names.lookup y.1 = some .cell ∧ ((cellsFrom (s.heap.objs.size + 1) (defScope st).names []).lookup y.1).isSome = true) := by
    rintro ⟨n, v⟩ hy
    rcases S.par n (List.of_mem_zip hy).1 with q | q
    · exact Or.inl q
    · exact Or.inr ⟨q, PySem.W.cellsFrom_some _ _ _ (.inl q)⟩
  refine codeAny_call_function hr.depth (inK _ _ lk) rfl S.co S.gen rfl (PySem.W.codeRec_of inK hcd) (hb _ _ _ _ ?_)
  refine wpAny_newFunctionEnv_cells S.kind kinds fun env he s1 x => ?_
  subst he
  refine ⟨lim.keeps x.toInCall.keep, codeAny_func ?_⟩
  have hbd := body cdv A outer s H E (hr.deeper _) (by show A.guards = some []; exact hgd)
  have I : Inv (cxOf (L2.CX P w) P w K mg base N qual (defScope st) f cdv A outer s H E) [] (start N vs) H s1 := inv_start S hr.hd e0 hl r x
  have fin : ∀ {σ' : L2.St} {H' : Hp} {v : V} {u : Value} {s' : Shared}, Inv (cxOf (L2.CX P w) P w K mg base N qual (defScope st) f cdv A outer s H E) [] σ' H' s' → RelV v u → Q v H' → CE outer P w H s Q u s' :=
    fun {σ' H' v u s'} J rv q => ⟨v, H', J.os, J.bare, J.base, J.hok, rv, q⟩
  have rd : LiftS K mg E fb { nx := fun _ H' => Q .non H', rt := Q } (start N vs) H := by
    refine ⟨startD N.length ds, μ, α, R, SMu, ss_start dl, ?_⟩
    unfold runDef at h
    cases e : fb (startD N.length ds) μ with
    | bad => rw [e] at h; exact h
    | ex y μ1 =>
      rw [e] at h
      intro cls od α1 R1 H1 S1 A1 dx
      have h : After K mg E (relD K mg) α R H (if (chkMu μ.length μ μ1 && okLocF μ.length y.fs) = true then .ex y (μ1.take μ.length) else .bad) Q := h
      split at h
      · rename_i hk
        simp only [Bool.and_eq_true] at hk
        obtain ⟨S2, A2⟩ := SMu.trunc S1 A1 hk.1
        obtain ⟨C, d, gs, q1, q2, q3, q4, q5⟩ := dx
        exact h cls od α R1 H1 S2 A2 ⟨C, d, gs, q1, q2, q3, q4, denF_cut (fun i hi => A1.pre i (by rw [SMu.len]; exact hi)) q5 hk.2⟩
      · exact False.elim h
    | ok fl μ1 =>
      rw [e] at h
      cases fl with
      | nx ρ => exact fun σ' α1 R1 H1 S1 A1 V1 => After.ret SMu S1 A1 .none h
      | rt d => exact fun v α1 R1 H1 S1 A1 q1 => After.ret SMu S1 A1 q1 h
      | bk ρ => exact False.elim h
      | ct ρ => exact False.elim h
  refine wpAny_mono (hbd.run [] s1 (start N vs) H _ I rd) (fun fl s' hs => ?_) fun e s' hs => hs
  cases fl with
  | ret u =>
    obtain ⟨v, σ', H', J, rv, q⟩ := hs
    exact fin J rv q
  | next =>
    obtain ⟨σ', H', J, q⟩ := hs
    exact fin (v := V.non) (u := Value.none) J rfl q
  | brk =>
    obtain ⟨_, _, _, q⟩ := hs
    exact False.elim q
  | cont =>
    obtain ⟨_, _, _, q⟩ := hs
    exact False.elim q
theorem fn_ok {k : Nat} {x qual : Str} {st : Stmt} {f : Addr} {fd : FuncData} {N ps : List Str} {fb : FS} (F : Fun K x qual st f fd) (S : FnScope N ps (defScope st))
    (body : ∀ (cdv : Value) (A : Around) (outer : List PySem.Env) (s : Shared) (H : Hp) (E : XK), Room k (A.deeper (envOfC qual (defScope st) s.heap.objs.size f cdv)) → (A.deeper (envOfC qual (defScope st) s.heap.objs.size f cdv)).guards = some [] →
      DSs (cxOf (L2.CX P w) P w K mg base N qual (defScope st) f cdv A outer s H E) E (defBody st) fb) : FnT P w K mg base (k + 1) f fd ps (runDef N.length fb) := by
  obtain ⟨oc, od, kV, doc, pm, an, cdv, ct, osl, e, lk, hcd⟩ := F.ex
  exact fn_okE ⟨oc, od, .none, kV, doc, pm, an, cdv, ct, osl, e, lk, hcd⟩ S body
end
/-! ### calls -/
def eCallF (n : Nat) (F : List D → Mu → Res D) (dds : List D) (t : FA) : FE := fun ρ μ => (t ρ μ).bind fun ds μ1 => if (ds ++ dds).length = n then F (ds ++ dds) μ1 else .bad
section
variable {X : Cx} {E : XK} {k : Nat} {f : Addr} {fd : FuncData} {ps : List Str} {F : List D → Mu → Res D} {dvs : List V} {dds : List D} {dus : List Value} {x : Str} {p pos : Pos} {e : Expr} {es : List Expr} {t : FA}
theorem After.run {pins : List (Addr × Obj)} {σ : L2.St} {H : Hp} {s : Shared} {Q : VK} {us : List Value} {vs : List V} {ds : List D} {μ : Mu} {α : List Addr} {R : Hp} (G : FnT X.prog X.w X.K X.mg X.base k f fd ps F) (hr : Room k X.A) (hgd : X.A.guards = some [])
    (hb : Binds X.K fd ps dus) (hd : Vals dvs dus) (hdd : ∀ R α, DenL X.K X.mg R α dvs dds) (hx : Passes (L2.CX X.prog X.w) X E)
    (I : Inv X pins σ H s) (r : Vals vs us) (S : SM X.K X.mg μ α R H) (dl : DenL X.K X.mg R α vs ds) (h : After X.K X.mg E (relD X.K X.mg) α R H (if (ds ++ dds).length = ps.length then F (ds ++ dds) μ else .bad) Q) :
    wpAny (model X.prog X.w) X.A (call (.ref f) us) (EP X pins σ Q) X.xe s := by
  split at h
  rotate_left
  · exact False.elim h
  rename_i hl
  have dl2 := dl.append (hdd R α)
  have r2 : Vals (vs ++ dvs) (us ++ dus) := r.append hd
  have hl2 : (vs ++ dvs).length = ps.length := by rw [dl2.len, hl]
  refine wpAny_call (codeAny_mono (G.run X.A X.stack s H ⟨us, []⟩ (us ++ dus) (vs ++ dvs) (ds ++ dds) μ α R Q E hr hgd I.env0 (hb s us I.kIn (by rw [← r2.length]; exact hl2)) r2 hl2 S dl2 h) fun r s' hq => ?_)
  cases r with
  | error e => exact hx pins σ H s e s' I hq
  | ok fl => cases fl with
    | ret u => exact I.after hq
    | next => exact False.elim hq
    | brk => exact False.elim hq
    | cont => exact False.elim hq
theorem de_call (G : FnT X.prog X.w X.K X.mg X.base k f fd ps F) (hr : Room k X.A) (hgd : X.A.guards = some []) (hg : Gl X x) (hm : X.mg x = some (.ref f)) (hk : PySem.W.keepIn X.K (.ref f) = true)
    (hb : Binds X.K fd ps dus) (hd : Vals dvs dus) (hdd : ∀ R α, DenL X.K X.mg R α dvs dds) (hx : Passes (L2.CX X.prog X.w) X E) (ha : DA X E (e :: es) t) (hn : ps.length = n := by rfl)
    (hdb : (x == ("__debug__" : Str)) = false := by decide) (he : starEach (e :: es) X.env = (false, eval e X.env) :: starEach es X.env := by rfl) (hpl : (backTo pos (starEach es X.env)).any (·.1) = false := by rfl) :
    DE X E (.Call (.Name x p) (e :: es) [] pos) (eCallF n F dds t) := by
  subst hn
  refine ⟨fun pins s σ H Q I ⟨ρ, μ, α, R, S, V, h⟩ => ?_⟩
  refine wpAny_Call_Name_kw (ld_glob I hg hm ?_ hdb)
  have ha' := ha.run pos pins s σ H _ I ⟨ρ, μ, α, R, S, V, h.bind (Q1 := fun vs H1 => ∃ ds μ1 α1 R1, SM X.K X.mg μ1 α1 R1 H1 ∧ DenL X.K X.mg R1 α1 vs ds ∧ After X.K X.mg E (relD X.K X.mg) α1 R1 H1 (if (ds ++ dds).length = ps.length then F (ds ++ dds) μ1 else .bad) Q)
    fun ds μ1 vs α1 R1 H1 S1 A1 d1 h1 => ⟨ds, μ1, α1, R1, S1, d1, h1⟩⟩
  refine PySem.W.callWith_K (h₀ := X.base) I.ok.mod.kin hk (thn ha' fun us s1 hq => ?_) he hpl
  obtain ⟨vs, H1, I1, r, ds, μ1, α1, R1, S1, d1, h1⟩ := hq
  exact ⟨I1.kIn, After.run G hr hgd hb hd hdd hx I1 r S1 d1 h1⟩
theorem de_call0 (G : FnT X.prog X.w X.K X.mg X.base k f fd ps F) (hr : Room k X.A) (hgd : X.A.guards = some []) (hg : Gl X x) (hm : X.mg x = some (.ref f)) (hk : PySem.W.keepIn X.K (.ref f) = true)
    (hb : Binds X.K fd ps dus) (hd : Vals dvs dus) (hdd : ∀ R α, DenL X.K X.mg R α dvs dds) (hx : Passes (L2.CX X.prog X.w) X E) (hn : ps.length = n := by rfl)
    (hdb : (x == ("__debug__" : Str)) = false := by decide) : DE X E (.Call (.Name x p) [] [] pos) (eCallF n F dds aNil) := by
  subst hn
  refine ⟨fun pins s σ H Q I ⟨ρ, μ, α, R, S, V, h⟩ => ?_⟩
  refine wpAny_Call_Name_kw (ld_glob I hg hm ?_ hdb)
  exact PySem.W.callWith_K0 I.kIn hk (After.run (us := []) (ds := []) G hr hgd hb hd hdd hx I .nil S .nil h)
end
/-! ### the law's end -/
theorem law_end {P : Program} {w : World} {K : PySem.W.Frag} {mg mb : Str → Option Value} {k : Nat} {fa a : Addr} {fd : FuncData} {x : Str} {F : List D → Mu → Res D} {s₁ : Shared} {vs : List Value} {ns : List Int}
    (KX : K.In s₁.heap) (hns : s₁.heap.Ns mainGlobals mg) (hb : s₁.heap.Ns builtinsNs mb) (hbb : ∀ x : Str, x ≠ "__name__" → mb x = bootBuiltins x) (hlim : s₁.heap.NoLimit) (hsm : ∃ mm, s₁.heap.Ns sysModules mm) (hg : s₁.gens = #[])
    (ha : s₁.heap.get? a = some { cls := .type "list", data := .seq vs.toArray }) (hi : IntsAre vs ns) (hl : ns.length ≤ sizeLine) (hr : Room k callerA)
    (hF : ∀ base : Heap, K.In base → base.Ns mainGlobals mg → (∃ o, base.get? sysModules = some o) → FnT P w K mg base k fa fd [x] F) (hbind : ∀ (s : Shared) (u : Value), BindsTo s fd ⟨[u], []⟩ [(x, u)])
    (hlaw : F [.script ns] [] = .ok (.bool true) []) :
    codeAny (model P w) callerA (.call (.ref fa) ⟨[.ref a], []⟩) (fun r s' => r = .ok (.ret (.bool true)) ∧ OldK s₁.heap s'.heap ∧ s'.os = s₁.os ∧ AllBare s'.gens) s₁ := by
  have rv := vals_ints hi
  have lenV := hi.length
  have core : ∀ H : Hp, Only H → SqL K H a (ns.map V.int) → HOk P w H s₁.heap → (∀ b, H b ≠ none → b = a) → (H a ≠ none → K.lookup a = none) →
      codeAny (model P w) callerA (.call (.ref fa) ⟨[.ref a], []⟩) (fun r s' => r = .ok (.ret (.bool true)) ∧ OldK s₁.heap s'.heap ∧ s'.os = s₁.os ∧ AllBare s'.gens) s₁ := by
    intro H hO hS hok hA hK
    have bOf : ∀ {b : Addr} {o : Obj}, s₁.heap.get? b = some o → H b = none → (hidT s₁.heap H).get? b = some o := fun e n => hidT_get e n
    have noA : ∀ {b : Addr} {o : Obj} {es : Array DictEntry} {ep : Nat}, s₁.heap.get? b = some o → o.data = .dict es ep → H b = none := by
      intro b o es ep e d
      cases q : H b with
      | none => rfl
      | some u =>
        obtain rfl : b = a := hA b (by rw [q]; simp)
        rw [ha] at e
        cases e
        cases (show Data.seq vs.toArray _ = Data.dict es ep from d)
    have nsK : ∀ {b : Addr} {m : Str → Option Value}, s₁.heap.Ns b m → (hidT s₁.heap H).Ns b m := by
      rintro b m ⟨o, es, ep, e, d, r⟩
      exact ⟨o, es, ep, bOf e (noA e d), d, r⟩
    have hKb : K.In (hidT s₁.heap H) := by
      intro b o e
      refine bOf (KX b o e) ?_
      cases q : H b with
      | none => rfl
      | some u =>
        obtain rfl : b = a := hA b (by rw [q]; simp)
        rw [hK (by rw [q]; simp)] at e
        cases e
    have hM : Mod K mg (hidT s₁.heap H) := ⟨hKb, nsK hns, ⟨mb, nsK hb, hbb⟩, let ⟨mc, h1, h2⟩ := hlim
      ⟨mc, nsK h1, h2⟩⟩
    have e0 : Env0 P w K mg (hidT s₁.heap H) callerA [] s₁ H := ⟨rfl, hM, fun b o e => of_hidT e, Nat.le_of_eq (hidT_size _ _), trivial,
      fun b hb => absurd (show b ∈ ([] : List Addr) from hb) (by simp), hok, .of_eq hg⟩
    have hsb : ∃ o, (hidT s₁.heap H).get? sysModules = some o := by
      obtain ⟨mm, h1⟩ := hsm
      obtain ⟨o, es, ep, e, _⟩ := nsK h1
      exact ⟨o, e⟩
    have SM0 : SM K mg [] [] H H := ⟨rfl, fun _ _ h => .inl h, fun b hb => by simp at hb, by simp, fun n c b q => by simp at q⟩
    refine codeAny_mono ((hF _ hKb (nsK hns) hsb).run callerA [] s₁ H ⟨[.ref a], []⟩ [.ref a] [.ref a] [.script ns] [] [] H (fun v _ => v = .bl true) (fun _ _ _ => False) hr rfl e0 (hbind s₁ (.ref a)) (.cons rfl .nil) rfl SM0
      (.cons (.script hS) .nil) (by rw [hlaw]; intro v α' R' H' _ _ q; cases q; rfl)) fun r s' h => ?_
    cases r with
    | error e =>
      obtain ⟨_, _, _, _, _, _, _, _, _, _, _, _, z⟩ := h
      exact z.elim
    | ok fl => cases fl with
      | next => exact False.elim h
      | brk => exact False.elim h
      | cont => exact False.elim h
      | ret u =>
        obtain ⟨v, H', os, bare, un, hok', r', q⟩ := h
        obtain rfl : v = .bl true := q
        obtain rfl : u = Value.bool true := r'
        refine ⟨rfl, OldK.of_keep fun b o e => ?_, os, bare⟩
        cases q : H b with
        | none => exact un.keep b o e q (by simp [frs]) (by simp)
        | some u =>
          rcases hO b with z | ⟨ob, xs, z⟩
          · rw [q] at z
            cases z
          · obtain ⟨e1, _⟩ := hok b _ z
            obtain ⟨e2, _⟩ := hok' b _ (un.frzs b ob _ z)
            rw [e] at e1
            cases e1
            exact e2
  cases hk : K.lookup a with
  | some o =>
    have e := KX a o hk
    rw [ha] at e
    cases e
    exact core (fun _ => none) (fun _ => .inl rfl) (.inr ⟨_, vs.toArray, _, hk, rfl, rfl, rfl, by rw [List.size_toArray, lenV]; exact hl, by simpa using rv⟩) (fun b u z => nomatch (show (none : Option HO) = some u from z)) (fun b z => absurd rfl z) fun z => absurd rfl z
  | none =>
    let Ob : Obj := { cls := .type "list", data := .seq vs.toArray }
    let Ho : Hp := fun b => if b = a then some (.frz Ob (.lst (ns.map V.int))) else none
    have at_a : Ho a = some (.frz Ob (.lst (ns.map V.int))) := if_pos rfl
    have off : ∀ b, b ≠ a → Ho b = none := fun b hb => if_neg hb
    refine core Ho (fun b => ?_) (.inl (.inr ⟨Ob, at_a⟩)) (fun b u z => ?_) (fun b z => ?_) fun _ => hk
    · by_cases e : b = a
      · exact .inr ⟨Ob, ns.map V.int, by rw [e]; exact at_a⟩
      · exact .inl (off b e)
    · by_cases e : b = a
      · subst e
        rw [at_a] at z
        cases z
        exact ⟨ha, by rw [List.length_map]; exact hl, vs, _, rv, ha⟩
      · rw [off b e] at z
        cases z
    · by_cases e : b = a
      · exact e
      · exact absurd (off b e) z
theorem walk_end {l : PySem.W.OpenLaw} {n k : Nat} {q : Program} {loose : List Str} {XP : (Str → Option Value) → Heap → Prop} {YP : World → Heap → Prop} {d : DefRec} {K : Params → PySem.W.Frag} {F : List D → Mu → Res D} {x : Str}
    (hi : importsNone q = true) (hn : l.most = some n) (hn2 : n ≤ sizeLine) (hdf : d.params.defaults = []) (hr : Room k callerA) (hY : ∀ (w : World) (h : Heap), YP w h → (K w.params).In h)
    (hF : ∀ (w : World) (mg : Str → Option Value) (fa : Addr) (h : Heap), (K w.params).In h → h.Ns mainGlobals mg → mg d.name = some (.ref fa) →
      ∃ fd : FuncData, (∀ (s : Shared) (u : Value), BindsTo s fd ⟨[u], []⟩ [(x, u)]) ∧ ∀ base : Heap, (K w.params).In base → base.Ns mainGlobals mg → (∃ o, base.get? sysModules = some o) → FnT l.prog w (K w.params) mg base k fa fd [x] F)
    (hlaw : ∀ ns : List Int, ns.length ≤ n → F [.script ns] [] = .ok (.bool true) []) : PySem.W.WalkO q loose XP YP l.row.toRowW d [] (fun f vs => PySem.call f vs) := by
  refine Att.attach_call hn hdf fun w s₀ s₁ mg mb fa o pm cd doc a vs ns G Y ho hd hcd hmg hobj hints hlen hg => ?_
  have KX := hY w _ Y
  obtain ⟨fd, hb, hG⟩ := hF w mg fa _ KX G.T.g hmg
  exact law_end KX G.T.g G.T.b G.T.builtins G.T.nolimit ((PyProof.Rows.Top.seer G.T hi).mods.imp fun _ h => h.1) hg hobj hints (Nat.le_trans hlen hn2) hr hG hb (hlaw ns hlen)
end TL

set_option Elab.async false
set_option maxRecDepth 100000
set_option maxHeartbeats 1000000
set_option linter.all false
/-! The tree layer, part j: repr; displays of dicts; stores; attributes; methods of built-in types. -/
namespace TL
open PySem PySem.Spec PyProof.Rows L2

/-! ### repr -/
def keyPy : Key → PyData
  | .inl i => .int i
  | .inr s => .str s
mutual
def toPyR : D → PyData
  | .none => .none
  | .bool b => .bool b
  | .int i => .int i
  | .str s => .str s
  | .list xs => .list (toPyRs xs)
  | .tuple xs => .tuple (toPyRs xs)
  | .dict kvs => .dict (toPyRk kvs)
  | .obj _ _ => .none
  | .loc _ => .none
  | .fn _ => .none
  | .script _ => .none
  | .ty _ => .none
  | .exc _ _ => .none
def toPyRs : List D → List PyData
  | [] => []
  | x :: xs => toPyR x :: toPyRs xs
def toPyRk : List (Key × D) → List (PyData × PyData)
  | [] => []
  | (k, x) :: xs => (keyPy k, toPyR x) :: toPyRk xs
end
def strShow (s : Str) : Bool := s.cps.toList.all fun c => decide (c < 16 ^ 8)
def intShow (i : Int) : Bool := decide (i.natAbs < 10 ^ 12)
def keyShow : Key → Bool
  | .inl i => intShow i
  | .inr s => strShow s
mutual
def isShow : Nat → D → Bool
  | _, .none => true
  | _, .bool _ => true
  | _, .int i => intShow i
  | _, .str s => strShow s
  | n + 1, .list xs => areShow n xs
  | n + 1, .tuple xs => areShow n xs
  | n + 1, .dict kvs => areShowK n kvs
  | _, _ => false
def areShow : Nat → List D → Bool
  | _, [] => true
  | n, x :: xs => isShow n x && areShow n xs
def areShowK : Nat → List (Key × D) → Bool
  | _, [] => true
  | n, (k, x) :: xs => keyShow k && isShow n x && areShowK n xs
end
def keyWt : Key → Nat
  | .inl _ => 41
  | .inr s => s.length
mutual
def wt : D → Nat
  | .int _ => 41
  | .str s => s.length
  | .list xs => wts xs
  | .tuple xs => wts xs
  | .dict kvs => wtK kvs
  | .none => 0
  | .bool _ => 0
  | .obj _ _ => 0
  | .loc _ => 0
  | .fn _ => 0
  | .script _ => 0
  | .ty _ => 0
  | .exc _ _ => 0
def wts : List D → Nat
  | [] => 0
  | x :: xs => wt x + 1 + wts xs
def wtK : List (Key × D) → Nat
  | [] => 0
  | (k, x) :: r => keyWt k + wt x + 2 + wtK r
end
theorem int_wt {i : Int} (h : i.natAbs < 10 ^ 12) : i.natAbs.log2 < 41 := by
  by_cases h0 : i.natAbs = 0
  · rw [h0]; decide
  · exact (Nat.log2_lt h0).mpr (Nat.lt_of_lt_of_le h (by decide))
theorem key_show {k : Key} (h : keyShow k = true) : (keyPy k).showable = true ∧ (keyPy k).leavesShort 13 = true ∧ (keyPy k).weight ≤ keyWt k ∧ (keyPy k).depth = 0 := by
  cases k with
  | inl i =>
    have h : intShow i = true := h
    simp only [intShow, decide_eq_true_eq] at h
    have h2 := int_wt h
    refine ⟨by simp only [keyPy, PyData.showable, decide_eq_true_eq]; omega, by simp only [keyPy, PyData.leavesShort, decide_eq_true_eq]; exact PyData.shown_int_le h, ?_, by simp [keyPy, PyData.depth]⟩
    simp only [keyPy, PyData.weight, keyWt]
    split <;> omega
  | inr s =>
    have h : strShow s = true := h
    exact ⟨by simp [keyPy, PyData.showable], by simpa [keyPy, PyData.leavesShort, strShow] using h, by simp [keyPy, PyData.weight, keyWt]; exact Nat.le_refl _, by simp [keyPy, PyData.depth]⟩
mutual
theorem show_of : ∀ (n : Nat) (d : D), isShow n d = true → (toPyR d).showable = true ∧ (toPyR d).leavesShort 13 = true ∧ (toPyR d).weight ≤ wt d ∧ (toPyR d).depth ≤ n
  | n, .none, _ => ⟨by simp [toPyR, PyData.showable], by simp [toPyR, PyData.leavesShort], by simp [toPyR, PyData.weight], by simp [toPyR, PyData.depth]⟩
  | n, .bool b, _ => ⟨by simp [toPyR, PyData.showable], by simp [toPyR, PyData.leavesShort], by simp [toPyR, PyData.weight], by simp [toPyR, PyData.depth]⟩
  | n, .int i, h => by
    have h : keyShow (.inl i) = true := by simpa [isShow, keyShow] using h
    have q := key_show h
    exact ⟨by simpa [toPyR, keyPy] using q.1, by simpa [toPyR, keyPy] using q.2.1, by simpa [toPyR, wt, keyPy, keyWt] using q.2.2.1, by simp [toPyR, PyData.depth]⟩
  | n, .str s, h => by
    have h : keyShow (.inr s) = true := by simpa [isShow, keyShow] using h
    have q := key_show h
    exact ⟨by simpa [toPyR, keyPy] using q.1, by simpa [toPyR, keyPy] using q.2.1, by simpa [toPyR, wt, keyPy, keyWt] using q.2.2.1, by simp [toPyR, PyData.depth]⟩
  | n + 1, .list xs, h => by
    have q := shows_of n xs (by simpa [isShow] using h)
    exact ⟨by simpa [toPyR, PyData.showable] using q.1, by simpa [toPyR, PyData.leavesShort] using q.2.1, by simpa [toPyR, PyData.weight, wt] using q.2.2.1, by simpa [toPyR, PyData.depth] using q.2.2.2⟩
  | n + 1, .tuple xs, h => by
    have q := shows_of n xs (by simpa [isShow] using h)
    exact ⟨by simpa [toPyR, PyData.showable] using q.1, by simpa [toPyR, PyData.leavesShort] using q.2.1, by simpa [toPyR, PyData.weight, wt] using q.2.2.1, by simpa [toPyR, PyData.depth] using q.2.2.2⟩
  | n + 1, .dict xs, h => by
    have q := showK_of n xs (by simpa [isShow] using h)
    exact ⟨by simpa [toPyR, PyData.showable] using q.1, by simpa [toPyR, PyData.leavesShort] using q.2.1, by simpa [toPyR, PyData.weight, wt] using q.2.2.1, by simpa [toPyR, PyData.depth] using q.2.2.2⟩
  | 0, .list _, h => by simp [isShow] at h
  | 0, .tuple _, h => by simp [isShow] at h
  | 0, .dict _, h => by simp [isShow] at h
  | n, .obj _ _, h => by simp [isShow] at h
  | n, .loc _, h => by simp [isShow] at h
  | n, .fn _, h => by simp [isShow] at h
  | n, .script _, h => by simp [isShow] at h
  | n, .ty _, h => by simp [isShow] at h
  | n, .exc _ _, h => by simp [isShow] at h
theorem shows_of : ∀ (n : Nat) (d : List D), areShow n d = true → PyData.showableAll (toPyRs d) = true ∧ PyData.leavesShortAll 13 (toPyRs d) = true ∧ PyData.weightAll (toPyRs d) ≤ wts d ∧ PyData.depthAll (toPyRs d) ≤ n
  | n, [], _ => ⟨by simp [toPyRs, PyData.showableAll], by simp [toPyRs, PyData.leavesShortAll], by simp [toPyRs, PyData.weightAll, wts], by simp [toPyRs, PyData.depthAll]⟩
  | n, x :: xs, h => by
    simp only [areShow, Bool.and_eq_true] at h
    have h1 := show_of n x h.1
    have h2 := shows_of n xs h.2
    exact ⟨by simp [toPyRs, PyData.showableAll, h1.1, h2.1], by simp [toPyRs, PyData.leavesShortAll, h1.2.1, h2.2.1], by simp only [toPyRs, PyData.weightAll, wts]; have := h1.2.2.1; have := h2.2.2.1; omega,
      by simp only [toPyRs, PyData.depthAll]; exact Nat.max_le.mpr ⟨h1.2.2.2, h2.2.2.2⟩⟩
theorem showK_of : ∀ (n : Nat) (d : List (Key × D)), areShowK n d = true → PyData.showableKv (toPyRk d) = true ∧ PyData.leavesShortKv 13 (toPyRk d) = true ∧ PyData.weightKv (toPyRk d) ≤ wtK d ∧ PyData.depthKv (toPyRk d) ≤ n
  | n, [], _ => ⟨by simp [toPyRk, PyData.showableKv], by simp [toPyRk, PyData.leavesShortKv], by simp [toPyRk, PyData.weightKv, wtK], by simp [toPyRk, PyData.depthKv]⟩
  | n, (k, x) :: xs, h => by
    simp only [areShowK, Bool.and_eq_true] at h
    have h0 := key_show h.1.1
    have h1 := show_of n x h.1.2
    have h2 := showK_of n xs h.2
    exact ⟨by simp [toPyRk, PyData.showableKv, h0.1, h1.1, h2.1], by simp [toPyRk, PyData.leavesShortKv, h0.2.1, h1.2.1, h2.2.1], by simp only [toPyRk, PyData.weightKv, wtK]; have := h0.2.2.1; have := h1.2.2.1; have := h2.2.2.1; omega,
      by simp only [toPyRk, PyData.depthKv, h0.2.2.2]; exact Nat.max_le.mpr ⟨Nat.max_le.mpr ⟨Nat.zero_le _, h1.2.2.2⟩, h2.2.2.2⟩⟩
end
section
variable {X : Cx} {pins : List (Addr × Obj)} {σ : L2.St} {H : Hp} {s : Shared} {μ : Mu} {α : List Addr} {R : Hp}
theorem key_reads {P : Program} {w : World} {h : Heap} (k : Key) (key : Value) (e : (mixKind P w).is k key = true) : Reads h key (keyPy k) [] := by
  rcases keyIs_shape (k := k) (v := key) e with ⟨i, t, rfl, rfl⟩ | ⟨z, t, rfl, rfl⟩
  · exact .int i t
  · exact .str z t
mutual
theorem reads_of (I : Inv X pins σ H s) (S : SM X.K X.mg μ α R H) : ∀ (n : Nat) (d : D) (v : V) (u : Value), isShow n d = true → Den X.K X.mg R α v d → RelV v u → ∃ as, Reads s.heap u (toPyR d) as ∧ ∀ b ∈ as, ∃ o, H b = some o
  | n, .none, _, u, _, .none, r => by obtain rfl : u = Value.none := r; exact ⟨[], by simp only [toPyR]; exact .none, by simp⟩
  | n, .bool b, _, u, _, .bool _, r => by obtain rfl : u = Value.bool b := r; exact ⟨[], by simp only [toPyR]; exact .bool b, by simp⟩
  | n, .int b, _, u, _, .int _, r => by obtain ⟨t, rfl⟩ := r; exact ⟨[], by simp only [toPyR]; exact .int b t, by simp⟩
  | n, .str b, _, u, _, .str _, r => by obtain ⟨t, rfl⟩ := r; exact ⟨[], by simp only [toPyR]; exact .str b t, by simp⟩
  | n + 1, .list xs, _, u, h, .list (a := a) (vs := vs) e l q, r => by
    obtain rfl : u = .ref a := r
    have hH := S.lst e
    obtain ⟨its, m, rv, e2, _⟩ := I.lst hH
    obtain ⟨as, h1, h2⟩ := readss_of I S n xs vs its (by simpa [isShow] using h) q rv
    refine ⟨a :: as, by simp only [toPyR]; exact .list e2 rfl rfl (by simpa using h1), fun b hb => ?_⟩
    rcases List.mem_cons.mp hb with rfl | hb
    · exact ⟨_, hH⟩
    · exact h2 b hb
  | n + 1, .tuple xs, _, u, h, .tuple (a := a) (vs := vs) e l q, r => by
    obtain rfl : u = .ref a := r
    obtain ⟨its, rv, ⟨o, e1, e2, m, e3⟩, _⟩ := I.tuple (S.sqT e)
    obtain ⟨as, h1, h2⟩ := readss_of I S n xs vs its (by simpa [isShow] using h) q rv
    exact ⟨as, by simp only [toPyR]; exact .tuple e1 e2 e3 (by simpa using h1), h2⟩
  | n + 1, .dict kvs, _, u, h, .dict (a := a) (ks := ks) e l q, r => by
    obtain rfl : u = .ref a := r
    have hH := S.dct e
    obtain ⟨z, hd, vs, rel, dd⟩ := dk_rd I.hok hH
    obtain ⟨bs, pr, h2⟩ := readsK_of I S n kvs ks vs (by simpa [isShow] using h) q rel
    refine ⟨a :: bs, by simp only [toPyR]; exact PyProof.V.reads_dictOf (knd := mixKind X.prog X.w) (fun k key e => key_reads k key e) dd pr, fun b hb => ?_⟩
    rcases List.mem_cons.mp hb with rfl | hb
    · rcases hH with hH | ⟨o, hH⟩
      · exact ⟨_, hH⟩
      · exact ⟨_, hH⟩
    · exact h2 b hb
  | 0, .list _, _, _, h, _, _ => by simp [isShow] at h
  | 0, .tuple _, _, _, h, _, _ => by simp [isShow] at h
  | 0, .dict _, _, _, h, _, _ => by simp [isShow] at h
  | n, .obj _ _, _, _, h, _, _ => by simp [isShow] at h
  | n, .loc _, _, _, h, _, _ => by simp [isShow] at h
  | n, .fn _, _, _, h, _, _ => by simp [isShow] at h
  | n, .script _, _, _, h, _, _ => by simp [isShow] at h
  | n, .ty _, _, _, h, _, _ => by simp [isShow] at h
  | n, .exc _ _, _, _, h, _, _ => by simp [isShow] at h
theorem readss_of (I : Inv X pins σ H s) (S : SM X.K X.mg μ α R H) : ∀ (n : Nat) (d : List D) (v : List V) (u : List Value), areShow n d = true → DenL X.K X.mg R α v d → Vals v u → ∃ as, ReadsAll s.heap u (toPyRs d) as ∧ ∀ b ∈ as, ∃ o, H b = some o
  | n, [], _, _, _, .nil, .nil => ⟨[], by simp only [toPyRs]; exact .nil, by simp⟩
  | n, x :: xs, _, _, h, .cons a b, .cons r t => by
    simp only [areShow, Bool.and_eq_true] at h
    obtain ⟨as, h1, h2⟩ := reads_of I S n x _ _ h.1 a r
    obtain ⟨bs, h3, h4⟩ := readss_of I S n xs _ _ h.2 b t
    exact ⟨as ++ bs, by simp only [toPyRs]; exact .cons h1 h3, fun b hb => (List.mem_append.mp hb).elim (h2 b) (h4 b)⟩
theorem readsK_of (I : Inv X pins σ H s) (S : SM X.K X.mg μ α R H) : ∀ (n : Nat) (d : List (Key × D)) (v : List (Key × V)) (u : List (Key × Value)), areShowK n d = true → DenK X.K X.mg R α v d → KV v u →
    ∃ as, PyProof.V.PairsRead s.heap keyPy u (toPyRk d) as ∧ ∀ b ∈ as, ∃ o, H b = some o
  | n, [], _, _, _, .nil, .nil => ⟨[], by simp only [toPyRk]; exact .nil, by simp⟩
  | n, (k, x) :: xs, _, _, h, .cons a b, .cons (b := (k', u')) r t => by
    simp only [areShowK, Bool.and_eq_true] at h
    obtain ⟨r1, r2⟩ := r
    cases r1
    obtain ⟨as, h1, h2⟩ := reads_of I S n x _ _ h.1.2 a r2
    obtain ⟨bs, h3, h4⟩ := readsK_of I S n xs _ _ h.2 b t
    exact ⟨as ++ bs, by simp only [toPyRk]; exact .cons h1 h3, fun b hb => (List.mem_append.mp hb).elim (h2 b) (h4 b)⟩
end
end
/-! ### a cell that changes no more -/
section
variable {K : PySem.W.Frag} {mg : Str → Option Value} {R H : Hp} {α : List Addr} {μ : Mu}
theorem SM.freeze {n : Nat} {a : Addr} {c : Cell} (S : SM K mg μ α R H) (h1 : μ[n]? = some (some c)) (h2 : α[n]? = some a) :
    ∃ R', SM K mg (μ.set n none) α R' H ∧ Adv α R H α R' H ∧ Den K mg R' α (.ref a) (cellD c) := by
  obtain ⟨nr, h4⟩ := S.cell n c a h1 h2
  obtain ⟨u, hu, hd⟩ : ∃ u, H a = some u ∧ ∀ R', (∀ b x, R b = some x → R' b = some x) → R' a = some u → Den K mg R' α (.ref a) (cellD c) := by
    cases c with
    | list xs => obtain ⟨vs, e1, e2, e3⟩ := h4; exact ⟨_, e1, fun R' r h => .list h e2 (e3.up r fun _ _ h => h)⟩
    | dict xs => obtain ⟨vs, e1, e2, e3⟩ := h4; exact ⟨_, e1, fun R' r h => .dict h e2 (e3.up r fun _ _ h => h)⟩
    | obj c xs => obtain ⟨C, dx, vs, e0, e1, e3⟩ := h4; exact ⟨_, e1, fun R' r h => .obj e0 h (e3.up r fun _ _ h => h)⟩
  have r1 : ∀ b x, R b = some x → upd R a u b = some x := fun b x h => by rw [upd_ne (ne_of_none h nr)]; exact h
  refine ⟨upd R a u, ⟨by simp [S.len], fun b x h => ?_, S.trk, S.nod, fun m d b q1 q2 => ?_⟩, ⟨r1, fun _ _ h => h, fun _ _ _ h => h, fun b o h => ⟨o, h⟩, fun _ _ h _ => h, fun b q => ?_⟩, hd _ r1 upd_same⟩
  · by_cases e : b = a
    · subst e; rw [upd_same] at h; cases h; exact .inl hu
    · rw [upd_ne e] at h; exact S.frz b x h
  · by_cases e : n = m
    · subst e
      have hl : n < μ.length := (List.getElem?_eq_some_iff.mp h1).1
      rw [List.getElem?_set_self hl] at q1
      cases q1
    · rw [List.getElem?_set_ne e] at q1
      have ne : b ≠ a := fun q => e (S.ne h2 q2 q.symm)
      obtain ⟨h3, h4⟩ := S.cell m d b q1 q2
      refine ⟨by rw [upd_ne ne]; exact h3, ?_⟩
      cases d with
      | list xs => obtain ⟨vs, e1, e2, e3⟩ := h4; exact ⟨vs, e1, e2, e3.up r1 fun _ _ h => h⟩
      | dict xs => obtain ⟨vs, e1, e2, e3⟩ := h4; exact ⟨vs, e1, e2, e3.up r1 fun _ _ h => h⟩
      | obj c xs => obtain ⟨C, dx, vs, e0, e1, e3⟩ := h4; exact ⟨C, dx, vs, e0, e1, e3.up r1 fun _ _ h => h⟩
  · by_cases e : b = a
    · subst e; exact .inl (.inl (List.mem_of_getElem? h2))
    · rcases q with q | ⟨x, q⟩
      · exact .inl (.inl q)
      · rw [upd_ne e] at q; exact .inl (.inr ⟨x, q⟩)
end
def gRepr : GL := fun μ ds => match ds with
  | [.list xs] => chk (isShow 60 (.list xs) && decide (wt (.list xs) ≤ 2 ^ 20)) (.str (toPyR (.list xs)).shown)
  | [.tuple xs] => chk (isShow 60 (.tuple xs) && decide (wt (.tuple xs) ≤ 2 ^ 20)) (.str (toPyR (.tuple xs)).shown)
  | [.dict xs] => chk (isShow 60 (.dict xs) && decide (wt (.dict xs) ≤ 2 ^ 20)) (.str (toPyR (.dict xs)).shown)
  | [.str z] => chk (strShow z && decide (z.length ≤ 1000000)) (.str (reprText z))
  | [.loc n] => (match μ[n]? with
    | some (some (.list xs)) => chk (isShow 60 (.list xs) && decide (wt (.list xs) ≤ 2 ^ 20)) (.str (toPyR (.list xs)).shown)
    | some (some (.dict xs)) => chk (isShow 60 (.dict xs) && decide (wt (.dict xs) ≤ 2 ^ 20)) (.str (toPyR (.dict xs)).shown)
    | _ => none)
  | _ => none
section
variable {X : Cx}
theorem cal_repr (hu : X.A.units + 64 < cLine) (hgd : X.A.guards = some []) (hsm : ∃ o, X.base.get? sysModules = some o) : CalR X (.builtin "repr") gRepr := by
  rintro pins s σ H vs us Q I r ⟨μ, α, R, ds, d, S, h, e, q⟩
  have main : ∀ (x : D) (v : V) (a : Addr) (μ' : Mu) (R' : Hp), SM X.K X.mg μ' α R' H → Den X.K X.mg R' α v x → RelV v (.ref a) → us = [.ref a] → chk (isShow 60 x && decide (wt x ≤ 2 ^ 20)) (D.str (toPyR x).shown) = some d → wpAny (model X.prog X.w) X.A (call (.builtin "repr") us) (EP X pins σ Q) X.xe s := by
    intro x v a μ' R' S' h1 ru eu e'
    subst eu
    obtain ⟨c0, rfl⟩ := chk_some e'
    simp only [Bool.and_eq_true, decide_eq_true_eq] at c0
    obtain ⟨as, rd, has⟩ := reads_of I S' 60 x v _ c0.1 h1 ru
    have sh := show_of 60 x c0.1
    refine repr_of_reads' rd sh.1 (fun _ hm => ?_) hgd (by have := sh.2.2.2; omega) (fun _ _ h => h) (fun h' u tk k => ⟨.str _, H, I.kept k, ⟨u, rfl⟩, q _ R H S .refl (.str _)⟩) (PyData.shown_fits (B := 13) (by decide) (by decide) sh.2.1 (Nat.le_trans sh.2.2.1 c0.2))
    obtain ⟨o, ho⟩ := has _ hm
    obtain ⟨o2, ho2⟩ := hsm
    have := (I.bs _ _ ho2).2
    rw [ho] at this
    cases this
  have tree : ∀ x : D, ds = [x] → (∀ v u, Den X.K X.mg R α v x → RelV v u → ∃ a, u = .ref a) → chk (isShow 60 x && decide (wt x ≤ 2 ^ 20)) (D.str (toPyR x).shown) = some d → wpAny (model X.prog X.w) X.A (call (.builtin "repr") us) (EP X pins σ Q) X.xe s := by
    intro x ex hx e'
    subst ex
    obtain ⟨v, rfl, h1⟩ := denL1 h
    obtain ⟨u, rfl, ru⟩ := vals1 r
    obtain ⟨a, rfl⟩ := hx v u h1 ru
    exact main x v a μ R S h1 ru rfl e'
  have cell : ∀ (n : Nat) (c : Cell), ds = [.loc n] → μ[n]? = some (some c) → chk (isShow 60 (cellD c) && decide (wt (cellD c) ≤ 2 ^ 20)) (D.str (toPyR (cellD c)).shown) = some d → wpAny (model X.prog X.w) X.A (call (.builtin "repr") us) (EP X pins σ Q) X.xe s := by
    intro n c ex ec e'
    subst ex
    obtain ⟨v, rfl, h1⟩ := denL1 h
    obtain ⟨u, rfl, ru⟩ := vals1 r
    cases h1 with
    | loc hα =>
      rename_i a
      obtain rfl : u = .ref a := ru
      obtain ⟨R', S', _, d'⟩ := S.freeze ec hα
      exact main _ _ a _ R' S' d' rfl rfl e'
  unfold gRepr at e
  split at e
  · exact tree _ rfl (fun v u hd hr => by cases hd; exact ⟨_, hr⟩) e
  · exact tree _ rfl (fun v u hd hr => by cases hd; exact ⟨_, hr⟩) e
  · exact tree _ rfl (fun v u hd hr => by cases hd; exact ⟨_, hr⟩) e
  · obtain ⟨c0, rfl⟩ := chk_some e
    simp only [Bool.and_eq_true, decide_eq_true_eq] at c0
    obtain ⟨v, rfl, h1⟩ := denL1 h
    obtain ⟨u, rfl, ru⟩ := vals1 r
    cases h1
    obtain ⟨t, rfl⟩ := ru
    rename_i z
    refine PySem.P.repr_of_str ⟨.str _, H, I.tok _, ⟨_, rfl⟩, q _ R H S .refl (.str _)⟩ ?_
    have := StrLaws.reprText_len z (by
      intro c hc
      have hz := c0.1
      unfold strShow at hz
      first
      | (simp only [Bool.and_eq_true] at hz; have := List.all_eq_true.mp hz.1 c hc; simpa using this)
      | (have := List.all_eq_true.mp hz c hc; simp only [Bool.and_eq_true, decide_eq_true_eq] at this; omega)
      | skip)
    have h2 := c0.2
    unfold sizeLine
    omega
  · split at e
    · rename_i ec
      exact cell _ _ rfl ec e
    · rename_i ec
      exact cell _ _ rfl ec e
    · cases e
  · cases e
end
end TL

set_option Elab.async false
set_option maxRecDepth 100000
set_option maxHeartbeats 1000000
set_option linter.all false
/-! The tree layer, part k: displays of dicts; stores; attributes; methods of built-in types. -/
namespace TL
open PySem PySem.Spec PyProof.Rows L2

/-! ### {k: v, ..} -/
abbrev FP := Env → Mu → Res (List (Key × D))
def pNil : FP := fun _ μ => .ok [] μ
def pCons (fk fv : FE) (r : FP) : FP := fun ρ μ => (fk ρ μ).bind fun dk μ1 => (fv ρ μ1).bind fun d μ2 => (r ρ μ2).bind fun ps μ3 => match keyOf dk with
  | some k => .ok ((k, d) :: ps) μ3
  | none => .bad
/-- the trees of the pairs, over HandS's trs -/
def LiftP (K : PySem.W.Frag) (mg : Str → Option Value) (E : XK) (trs : List (TE × TE)) (f : FP) : Prop :=
  ∀ σ H (Q : List (V × V) → Hp → Prop), (∃ ρ μ α R, SM K mg μ α R H ∧ SS K mg ρ R α σ ∧ After K mg E (fun R α (w : List (Key × V)) ps => DenK K mg R α w ps) α R H (f ρ μ) fun w H1 => Q (w.map fun kv => (kV kv.1, kv.2)) H1) → tPairs trs σ H Q
def DP (X : Cx) (E : XK) (pos : Pos) (keys : List (Option Expr)) (values : List Expr) (f : FP) : Prop := ∃ trs, PPs X pos keys values trs ∧ LiftP X.K X.mg E trs f
section
variable {X : Cx} {E : XK} {k v : Expr} {ks : List (Option Expr)} {vs : List Expr} {fk fv : FE} {r : FP} {pos : Pos}
theorem dp_nil : DP X E pos [] [] pNil := ⟨[], pps_nil, fun σ H Q ⟨ρ, μ, α, R, S, V, h⟩ => h [] α R H S .refl .nil⟩
theorem dp_cons (hk : DE X E k fk) (hv : DE X E v fv) (hr : DP X E pos ks vs r) : DP X E pos (some k :: ks) (v :: vs) (pCons fk fv r) := by
  obtain ⟨trs, h1, h2⟩ := hr
  refine ⟨_, pps_cons hk hv h1, fun σ H Q ⟨ρ, μ, α, R, S, V, h⟩ => ⟨ρ, μ, α, R, S, V, h.bind fun dk μ1 x α1 R1 H1 S1 A1 d1 h1 => ⟨ρ, μ1, α1, R1, S1, V.adv A1, h1.bind fun d μ2 y α2 R2 H2 S2 A2 d2 h3 => ?_⟩⟩⟩
  refine h2 σ H2 _ ⟨ρ, μ2, α2, R2, S2, (V.adv A1).adv A2, h3.bind fun ps μ3 w α3 R3 H3 S3 A3 d3 h4 => ?_⟩
  cases e : keyOf dk with
  | none => rw [e] at h4; exact False.elim h4
  | some k =>
    rw [e] at h4
    obtain rfl := keyOf_den d1 e
    exact h4 ((k, y) :: w) α3 R3 H3 S3 .refl (.cons (d2.adv A3) d3)
def mergeD (ps : List (Key × D)) : List (Key × D) := ps.foldl (fun acc kv => putD acc kv.1 kv.2) []
theorem merge_den {K : PySem.W.Frag} {mg : Str → Option Value} {R : Hp} {α : List Addr} : ∀ {ws : List (Key × V)} {ps : List (Key × D)} {av : List (Key × V)} {acc : List (Key × D)}, DenK K mg R α ws ps → DenK K mg R α av acc →
    DenK K mg R α (ws.foldl (fun acc kv => putK acc kv.1 kv.2) av) (ps.foldl (fun acc kv => putD acc kv.1 kv.2) acc)
  | _, _, _, _, .nil, h => h
  | _, _, _, _, .cons a t, h => by
    simp only [List.foldl_cons]
    exact merge_den t (h.put _ a)
def nDisp (f : FP) : FN := fun ρ μ => (f ρ μ).bind fun ps μ1 => if ps.length ≤ 15 then .ok (.dict (mergeD ps)) μ1 else .bad
theorem dn_disp {keys : List (Option Expr)} {values : List Expr} {f : FP} (h : DP X E pos keys values f) (hall : keys.all (·.isSome) = true := by rfl) (hl : keys.length = values.length := by rfl) (h0 : keys ≠ [] := by exact List.cons_ne_nil _ _) (h15 : keys.length ≤ 15 := by decide) :
    DN X E (.Dict keys values pos) (nDisp f) := by
  obtain ⟨trs, h1, h2⟩ := h
  refine wE (pe_disp h1 hall hl h0 h15) fun σ H Q ⟨ρ, μ, α, R, S, V, h⟩ p hp => ?_
  have nk := Kn.no_none S hp
  have S' : SM X.K X.mg μ α R (upd H p (.dK [])) := S.out nk fun b hb => upd_ne hb
  have e0 : ∀ b, b ≠ p → H b = upd H p (.dK []) b := fun b hb => (upd_ne hb).symm
  refine h2 σ _ _ ⟨ρ, μ, α, R, S', V, ?_⟩
  unfold nDisp at h
  cases e : f ρ μ with
  | bad => rw [e] at h; exact False.elim h
  | ex x μ1 =>
    rw [e] at h
    intro cls od α1 R1 H1 S1 A1 dx
    exact h cls od α1 R1 H1 S1 (A1.out2 hp e0 fun b hb => rfl) dx
  | ok ps μ1 =>
    rw [e] at h
    intro w α1 R1 H1 S1 A1 dw
    have h : After X.K X.mg E (relN X.K X.mg) α R H (if ps.length ≤ 15 then .ok (.dict (mergeD ps)) μ1 else .bad) (fun x H1 => ∀ p, H1 p = none → Q (.ref p) (upd H1 p x.2)) := h
    split at h
    rotate_left
    · exact False.elim h
    rename_i hps
    have hp1 : H1 p = some (.dK []) := A1.k p _ upd_same nk
    have nk1 : ¬ Kn α1 R1 p := A1.notKn nk upd_same
    refine ⟨hp1, w, rfl, by rw [dw.len]; exact hps, ?_⟩
    have A2 : Adv α R H α1 R1 (eras H1 p) := A1.out2 hp e0 fun b hb => eras_ne hb
    have dm : DenK X.K X.mg R1 α1 (mergeK [] w) (mergeD ps) := merge_den dw .nil
    have hlen : (mergeK [] w).length ≤ sizeLine := by
      have := length_mergeK w []
      have h3 := dw.len
      simp only [List.length_nil] at this
      exact Nat.le_trans (by omega : _ ≤ 15) (by decide)
    have := h (L2.V.non, .dK (mergeK [] w)) α1 R1 (eras H1 p) (S1.out nk1 fun b hb => eras_ne hb) A2 ⟨_, rfl, hlen, dm⟩ p eras_same
    have e3 : upd (eras H1 p) p (.dK (mergeK [] w)) = upd H1 p (.dK (mergeK [] w)) := by
      funext b
      by_cases hb : b = p
      · subst hb; rw [upd_same, upd_same]
      · rw [upd_ne hb, upd_ne hb, eras_ne hb]
    rwa [e3] at this
def nEmpty : FN := fun _ μ => .ok (.dict []) μ
theorem dn_empty : DN X E (.Dict [] [] pos) nEmpty :=
  wE pe_dnewK fun σ H Q ⟨ρ, μ, α, R, S, V, h⟩ p hp => h (L2.V.non, .dK []) α R H S .refl ⟨[], rfl, Nat.zero_le _, .nil⟩ p hp
end
/-! ### x[i] = v -/
def setV (μ : Mu) (o i d : D) : Option Mu := match o with
  | .loc n => match μ[n]? with
    | some (some (.list xs)) => (match i with | .int k => (ixN xs.length k).map fun j => μ.set n (some (.list (xs.set j d))) | _ => none)
    | some (some (.dict kvs)) => if kvs.length < sizeLine then (keyOf i).map fun k => μ.set n (some (.dict (putD kvs k d))) else none
    | _ => none
  | _ => none
def sSub (fo fi fe : FE) : FS := fun ρ μ => (fe ρ μ).bind fun d μ1 => (fo ρ μ1).bind fun o μ2 => (fi ρ μ2).bind fun i μ3 => match setV μ3 o i d with
  | some μ4 => .ok (.nx ρ) μ4
  | none => .bad
/-- del x[i] -/
def delV (μ : Mu) (o i : D) : Option Mu := match o with
  | .loc n => match μ[n]? with
    | some (some (.dict kvs)) => (keyOf i).bind fun k => if (getK kvs k).isSome = true then some (μ.set n (some (.dict (kvs.filter fun kv => decide (kv.1 ≠ k))))) else none
    | _ => none
  | _ => none
def sDel (fo fi : FE) : FS := fun ρ μ => (fo ρ μ).bind fun o μ1 => (fi ρ μ1).bind fun i μ2 => match delV μ2 o i with
  | some μ3 => .ok (.nx ρ) μ3
  | none => .bad
section
variable {X : Cx} {E : XK} {o i e : Expr} {fo fi fe : FE} {pos tpos : Pos}
theorem set_any (hu : X.A.units + 64 < cLine) : PSet X fun ov iv v H Q => ∃ μ α R d1 d2 d3 μ', SM X.K X.mg μ α R H ∧ Den X.K X.mg R α ov d1 ∧ Den X.K X.mg R α iv d2 ∧ Den X.K X.mg R α v d3 ∧ setV μ d1 d2 d3 = some μ' ∧
    ∀ H', SM X.K X.mg μ' α R H' → Adv α R H α R H' → Q H' := by
  rintro pins s σ H o i v ov iv u Q I ro ri rv ⟨μ, α, R, d1, d2, d3, μ', S, h1, h2, h3, e, q⟩
  cases h1 with
  | loc hα =>
    rename_i a n
    simp only [setV] at e
    split at e
    · rename_i xs e1
      split at e
      · rename_i k
        obtain ⟨j, e2, rfl⟩ := Option.map_eq_some_iff.mp e
        cases h2
        obtain ⟨_, vs, g1, g2, g3⟩ := S.cell n _ a e1 hα
        obtain ⟨S2, A2⟩ := S.put (u := .lst (vs.set j v)) (c := .list (xs.set j d3)) e1 hα ⟨_, upd_same, by rw [List.length_set]; exact g2, g3.set h3 j⟩
        exact set_list pins s σ H _ _ v ov iv u Q I ro ri rv ⟨a, vs, k, j, rfl, rfl, g1, by rw [g3.len]; exact e2, q _ S2 A2⟩
      · cases e
    · rename_i kvs e1
      split at e
      · rename_i hl
        obtain ⟨k, e2, rfl⟩ := Option.map_eq_some_iff.mp e
        obtain rfl := keyOf_den h2 e2
        obtain ⟨_, ks, g1, g2, g3⟩ := S.cell n _ a e1 hα
        have hl2 : ks.length < sizeLine := by rw [g3.len]; exact hl
        obtain ⟨S2, A2⟩ := S.put (u := .dK (putK ks k v)) (c := .dict (putD kvs k d3)) e1 hα ⟨_, upd_same, Nat.le_trans (length_putK ks k v) hl2, g3.put k h3⟩
        exact set_dict (by omega) pins s σ H _ _ v ov iv u Q I ro ri rv ⟨a, _, rfl, DPut.k g1 hl2, q _ S2 A2⟩
      · cases e
    · cases e
  | _ => simp [setV] at e
theorem ds_sub (hu : X.A.units + 64 < cLine) (ho : DE X E o fo) (hi : DE X E i fi) (he : DE X E e fe) (hs : swapsWithSole [.Subscript o i tpos] e pos.line X.env = pure false := by rfl) (hw : swappedStores [.Subscript o i tpos] e X.env = pure none := by rfl)
    (h1 : (assignEach [.Subscript o i tpos] X.env).map (·.2) = [assign (.Subscript o i tpos) X.env] := by rfl)
    (ha : ∀ v, assign (.Subscript o i tpos) X.env v = (do
      let ov ← holding [v] (eval o X.env)
      let iv ← holding [v, ov] (eval i X.env)
      standAt tpos
      holding [v, ov, iv] (setItem ov iv v)
      release [v, ov, iv] []) := by intro _; rfl) : DS X E (.Assign [.Subscript o i tpos] e pos) (sSub fo fi fe) :=
  wS (ps_asg he (pg_sub ho hi (set_any hu) ha) hs hw h1) fun Dn σ H ⟨ρ, μ, α, R, S, V, h⟩ => ⟨ρ, μ, α, R, S, V, h.bind fun d μ1 v α1 R1 H1 S1 A1 q1 h1 => ⟨ρ, μ1, α1, R1, S1, V.adv A1, h1.bind fun x μ2 w α2 R2 H2 S2 A2 q2 h2 =>
    ⟨ρ, μ2, α2, R2, S2, (V.adv A1).adv A2, h2.bind fun y μ3 z α3 R3 H3 S3 A3 q3 h3 => by
      cases e : setV μ3 x y d with
      | none => rw [e] at h3; exact False.elim h3
      | some μ4 =>
        rw [e] at h3
        exact ⟨μ3, α3, R3, x, y, d, μ4, S3, q2.adv A3, q3, (q1.adv A2).adv A3, e, fun H' S' A' => h3 σ α3 R3 H' S' A' ((((V.adv A1).adv A2).adv A3).adv A')⟩⟩⟩⟩
theorem ds_del (ho : DE X E o fo) (hi : DE X E i fi) : DS X E (.Delete [.Subscript o i tpos] pos) (sDel fo fi) :=
  wS (ps_ddel ho hi) fun Dn σ H ⟨ρ, μ, α, R, S, V, h⟩ => ⟨ρ, μ, α, R, S, V, h.bind fun x μ1 v α1 R1 H1 S1 A1 q1 h1 => ⟨ρ, μ1, α1, R1, S1, V.adv A1, h1.bind fun y μ2 w α2 R2 H2 S2 A2 q2 h2 => by
    cases e : delV μ2 x y with
    | none => rw [e] at h2; exact False.elim h2
    | some μ3 =>
      rw [e] at h2
      have q1' := q1.adv A2
      cases q1' with
      | loc hα =>
        rename_i a n
        simp only [delV] at e
        split at e
        · rename_i kvs e1
          obtain ⟨k, e2, e3⟩ := Option.bind_eq_some_iff.mp e
          split at e3
          · rename_i hk
            cases e3
            obtain rfl := keyOf_den q2 e2
            obtain ⟨_, ks, g1, g2, g3⟩ := S2.cell n _ a e1 hα
            have hv : (valV ks k).isSome = true := by
              have := denK_get (k := k) g3
              cases e4 : getK kvs k with
              | none => rw [e4] at hk; cases hk
              | some d => rw [e4] at this; obtain ⟨v, h5, _⟩ := this; rw [h5]; rfl
            obtain ⟨S3, A3⟩ := S2.put (u := .dK (dropK ks k)) (c := .dict (kvs.filter fun kv => decide (kv.1 ≠ k))) e1 hα ⟨_, upd_same, Nat.le_trans (dropK_le ks k) g2, g3.drop k⟩
            exact ⟨a, ks, k, rfl, g1, rfl, hv, h2 σ α2 R2 _ S3 A3 (((V.adv A1).adv A2).adv A3)⟩
          · cases e3
        · cases e
      | _ => simp [delV] at e⟩⟩
end
/-! ### attributes -/
def fldV (μ : Mu) (o : D) (f : Str) : Option D := (objV μ o).bind fun p => p.2.lookup f
def eFld (fo : FE) (f : Str) : FE := fun ρ μ => (fo ρ μ).bind fun o μ1 => ofO (fldV μ1 o f) μ1
def putFD (f : Str) (v : D) : List (Str × D) → List (Str × D)
  | [] => [(f, v)]
  | (g, x) :: r => if g = f then (g, v) :: r else (g, x) :: putFD f v r
def setF (μ : Mu) (o : D) (f : Str) (d : D) : Option Mu := match o with
  | .loc n => match μ[n]? with
    | some (some (.obj c fs)) => if fs.length < 1000 then some (μ.set n (some (.obj c (putFD f d fs)))) else none
    | _ => none
  | _ => none
def sFldD (fo fe : FE) (f : Str) : FS := fun ρ μ => (fe ρ μ).bind fun d μ1 => (fo ρ μ1).bind fun o μ2 => match setF μ2 o f d with
  | some μ3 => .ok (.nx ρ) μ3
  | none => .bad
/-- what the text's classes are: each name that holds a class holds a plain one without the attribute f -/
def ClsOk (K : PySem.W.Frag) (mg : Str → Option Value) (cs : List Str) (f : Str) : Prop := ∀ c ∈ cs, ∀ C, mg c = some (.ref C) → Cls K C ∧ NoAttr K C f
section
variable {X : Cx} {E : XK} {o e : Expr} {fo fe : FE} {pos pos' : Pos} {f : Str}
theorem DenF.look {K : PySem.W.Frag} {mg : Str → Option Value} {R : Hp} {α : List Addr} {f : Str} {d : D} : ∀ {gs : List (Str × V)} {fs : List (Str × D)}, DenF K mg R α gs fs → fs.lookup f = some d → ∃ v, gs.lookup f = some v ∧ Den K mg R α v d
  | _, _, .nil, e => by simp at e
  | _, _, .cons (k := k) h t, e => by
    rw [List.lookup_cons] at e ⊢
    by_cases q : f == k
    · rw [q] at e ⊢; cases e; exact ⟨_, rfl, h⟩
    · simp only [Bool.not_eq_true] at q
      rw [q] at e ⊢
      exact DenF.look t e
theorem DenF.putF {K : PySem.W.Frag} {mg : Str → Option Value} {R : Hp} {α : List Addr} {f : Str} {v : V} {d : D} (hd : Den K mg R α v d) : ∀ {gs : List (Str × V)} {fs : List (Str × D)}, DenF K mg R α gs fs → DenF K mg R α (L2.putF f v gs) (putFD f d fs)
  | _, _, .nil => .cons hd .nil
  | _, _, .cons (k := k) h t => by
    unfold L2.putF putFD
    by_cases e : k = f
    · rw [if_pos e, if_pos e]; exact .cons hd t
    · rw [if_neg e, if_neg e]; exact .cons h (DenF.putF hd t)
theorem DenF.len {K : PySem.W.Frag} {mg : Str → Option Value} {R : Hp} {α : List Addr} : ∀ {gs : List (Str × V)} {fs : List (Str × D)}, DenF K mg R α gs fs → gs.length = fs.length
  | _, _, .nil => rfl
  | _, _, .cons _ t => congrArg (· + 1) (DenF.len t)
/-- the class names that may be met at this attribute are cs -/
def eFldC (cs : List Str) (fo : FE) (f : Str) : FE := fun ρ μ => (fo ρ μ).bind fun o μ1 => match objV μ1 o with
  | some (c, fs) => if c ∈ cs then ofO (fs.lookup f) μ1 else .bad
  | none => .bad
theorem de_fld {cs : List Str} (hc : ClsOk X.K X.mg cs f) (ho : DE X E o fo) (hb : attributeBase o f X.env (eval o X.env) = eval o X.env := by rfl) : DE X E (.Attribute o f pos) (eFldC cs fo f) :=
  wE (pe_fld ho hb) fun σ H Q ⟨ρ, μ, α, R, S, V, h⟩ => ⟨ρ, μ, α, R, S, V, h.bind fun x μ1 v α1 R1 H1 S1 A1 q1 h1 => by
    cases e : objV μ1 x with
    | none => rw [e] at h1; exact False.elim h1
    | some p =>
      obtain ⟨c, fs⟩ := p
      rw [e] at h1
      have h1 : After X.K X.mg E (relD X.K X.mg) α1 R1 H1 (if c ∈ cs then ofO (fs.lookup f) μ1 else .bad) Q := h1
      split at h1
      · rename_i hcs
        obtain ⟨d, e1, e2⟩ := h1.ofO
        obtain ⟨a, C, dx, gs, rfl, g1, g2, g3⟩ := S1.objV q1 e
        obtain ⟨k1, k2⟩ := hc c hcs C g1
        obtain ⟨w, g4, g5⟩ := g3.look e1
        exact ⟨a, C, dx, gs, w, rfl, g2, k1, k2, g4, e2 w α1 R1 H1 S1 .refl g5⟩
      · exact False.elim h1⟩
def sFldC (cs : List Str) (fo fe : FE) (f : Str) : FS := fun ρ μ => (fe ρ μ).bind fun d μ1 => (fo ρ μ1).bind fun o μ2 => match objV μ2 o with
  | some (c, _) => if c ∈ cs then (match setF μ2 o f d with | some μ3 => .ok (.nx ρ) μ3 | none => .bad) else .bad
  | none => .bad
theorem ds_fld {cs : List Str} (hc : ClsOk X.K X.mg cs f) (ho : DE X E o fo) (he : DE X E e fe) (hs : swapsWith e (some (.Attribute o f pos')) pos.line X.env = pure false := by rfl) : DS X E (.Assign [.Attribute o f pos'] e pos) (sFldC cs fo fe f) :=
  wS (ps_fld ho he hs) fun Dn σ H ⟨ρ, μ, α, R, S, V, h⟩ => ⟨ρ, μ, α, R, S, V, h.bind fun d μ1 v α1 R1 H1 S1 A1 q1 h1 => ⟨ρ, μ1, α1, R1, S1, V.adv A1, h1.bind fun x μ2 w α2 R2 H2 S2 A2 q2 h2 => by
    cases e : objV μ2 x with
    | none => rw [e] at h2; exact False.elim h2
    | some p =>
      obtain ⟨c, fs⟩ := p
      rw [e] at h2
      have h2 : AfterS X.K X.mg E α2 R2 H2 (if c ∈ cs then (match setF μ2 x f d with | some μ3 => .ok (.nx ρ) μ3 | none => .bad) else .bad) Dn := h2
      split at h2
      · rename_i hcs
        cases e3 : setF μ2 x f d with
        | none => rw [e3] at h2; exact False.elim h2
        | some μ3 =>
          rw [e3] at h2
          cases q2 with
          | loc hα =>
            rename_i a n
            simp only [setF] at e3
            split at e3
            · rename_i c' fs' e4
              split at e3
              · rename_i hl
                cases e3
                simp only [objV, e4] at e
                cases e
                obtain ⟨_, C, dx, gs, g1, g2, g3⟩ := S2.cell n _ a e4 hα
                obtain ⟨k1, k2⟩ := hc c hcs C g1
                obtain ⟨S3, A3⟩ := S2.put (u := .ins C dx (L2.putF f v gs)) (c := .obj c (putFD f d fs)) e4 hα ⟨C, dx, _, g1, upd_same, DenF.putF (q1.adv A2) g3⟩
                exact ⟨a, C, dx, gs, rfl, g2, k1, k2, by rw [g3.len]; exact hl, h2 σ α2 R2 _ S3 A3 (((V.adv A1).adv A2).adv A3)⟩
              · cases e3
            · cases e3
          | _ => simp [setF] at e3
      · exact False.elim h2⟩⟩
end
/-! ### methods of built-in types -/
abbrev GM := Mu → D → List D → Option (D × Mu)
def MtG (X : Cx) (id : String) (g : GM) : Prop := MtR X id fun x vs H Q => ∃ μ α R dx ds d μ', SM X.K X.mg μ α R H ∧ Den X.K X.mg R α x dx ∧ DenL X.K X.mg R α vs ds ∧ g μ dx ds = some (d, μ') ∧
  ∀ w R' H', SM X.K X.mg μ' α R' H' → Adv α R H α R' H' → Den X.K X.mg R' α w d → Q w H'
/-- the receiver is of that type: a text, a list, a dict -/
def isTy (μ : Mu) (T : String) (d : D) : Bool := (T == "list" && (seqL μ d).isSome) || (T == "dict" && (dctV μ d).isSome) || (T == "str" && (match d with | .str _ => true | _ => false))
def eMeth (T : String) (g : GM) (fo : FE) (t : FA) : FE := fun ρ μ => (fo ρ μ).bind fun x μ1 => if isTy μ1 T x = true then (t ρ μ1).bind fun ds μ2 => match g μ2 x ds with
  | some (d, μ3) => .ok d μ3
  | none => .bad else .bad
section
variable {X : Cx} {E : XK} {o e : Expr} {es : List Expr} {fo : FE} {t : FA} {name : Str} {apos cpos : Pos} {T id : String} {g : GM}
theorem isTy_is {pins : List (Addr × Obj)} {σ : L2.St} {H : Hp} {s : Shared} {μ : Mu} {α : List Addr} {R : Hp} {x : V} {v : Value} {d : D} (I : Inv X pins σ H s) (S : SM X.K X.mg μ α R H) (r : RelV x v) (h : Den X.K X.mg R α x d) (e : isTy μ T d = true) :
    s.TypeIs v T ∧ ∀ a, v = .ref a → ∃ ob, s.heap.get? a = some ob ∧ ob.dict = none := by
  simp only [isTy, Bool.or_eq_true, Bool.and_eq_true, beq_iff_eq] at e
  rcases e with (⟨rfl, e⟩ | ⟨rfl, e⟩) | ⟨rfl, e⟩
  · obtain ⟨xs, e⟩ := Option.isSome_iff_exists.mp e
    obtain ⟨a, vs, rfl, h1, _⟩ := S.seqL h e
    exact tyV_is I r (.inl ⟨rfl, vs, SqL.of h1⟩)
  · obtain ⟨kvs, e⟩ := Option.isSome_iff_exists.mp e
    obtain ⟨a, ks, rfl, h1, _⟩ := S.dctV h e
    obtain rfl : v = .ref a := r
    obtain ⟨z, _, vs, _, ob, es, ep, e1, ex, _⟩ := dk_rd I.hok h1
    refine ⟨⟨ob, e1, ex.1⟩, fun b hb => ?_⟩
    cases hb
    exact ⟨ob, e1, ex.2.1⟩
  · split at e
    · cases h
      exact tyV_is I r rfl
    · cases e
theorem de_bm (pa : PlainAttrs T) (slot : Slot T name id) (hty : typeOf (.builtin id) = pure (.type "method_descriptor")) (hm : MtG X id g) (ho : DE X E o fo) (ha : DA X E (e :: es) t)
    (hbase : attributeBase o name X.env (eval o X.env) = eval o X.env := by rfl)
    (hfew : ((backTo cpos (starEach (e :: es) X.env)).all (fun x => !x.1) && (backToKw cpos (keywordEach [] X.env)).all (fun x => x.1.isSome) && decide ((e :: es).length + ([] : List Keyword).length + (if ([] : List Keyword).isEmpty then 0 else 1) < 30)) = true := by rfl)
    (hline : (apos.endLine == cpos.line) = true := by rfl) (hs : starEach (e :: es) X.env = (false, eval e X.env) :: starEach es X.env := by rfl) (hplain : (backTo cpos (starEach es X.env)).any (·.1) = false := by rfl) :
    DE X E (.Call (.Attribute o name apos) (e :: es) [] cpos) (eMeth T g fo t) := by
  refine ⟨fun pins s σ H Q I ⟨ρ, μ, α, R, S, W, h⟩ => ?_⟩
  let P1 : V → Hp → Prop := fun v H1 => ∃ dx μ1 α1 R1, SM X.K X.mg μ1 α1 R1 H1 ∧ SS X.K X.mg ρ R1 α1 σ ∧ Den X.K X.mg R1 α1 v dx ∧ After X.K X.mg E (relD X.K X.mg) α1 R1 H1 (if isTy μ1 T dx = true then (t ρ μ1).bind fun ds μ2 => match g μ2 dx ds with
    | some (d, μ3) => .ok d μ3
    | none => .bad else .bad) Q
  have h0 := ho.run pins s σ H P1 I ⟨ρ, μ, α, R, S, W, h.bind fun dx μ1 v α1 R1 H1 S1 A1 q1 h1 => ⟨dx, μ1, α1, R1, S1, W.adv A1, q1, h1⟩⟩
  refine wpAny_Call_method_late hbase hfew hline rfl (thn h0 fun v s1 hq => ?_)
  obtain ⟨x, H1, I1, r1, dx, μ1, α1, R1, S1, V1, q1, h1⟩ := hq
  split at h1
  rotate_left
  · exact False.elim h1
  rename_i hT
  obtain ⟨t1, t2⟩ := isTy_is I1 S1 r1 q1 hT
  refine ⟨T, id, pa, slot, hty, t1, t2, ?_⟩
  let P2 : List V → Hp → Prop := fun vs H2 => ∃ ds μ2 α2 R2, SM X.K X.mg μ2 α2 R2 H2 ∧ Den X.K X.mg R2 α2 x dx ∧ DenL X.K X.mg R2 α2 vs ds ∧ After X.K X.mg E (relD X.K X.mg) α2 R2 H2 (match g μ2 dx ds with
    | some (d, μ3) => .ok d μ3
    | none => .bad) Q
  have hA := ha.run cpos pins s1 σ H1 P2 I1 ⟨ρ, μ1, α1, R1, S1, V1, h1.bind fun ds μ2 vs α2 R2 H2 S2 A2 q2 h2 => ⟨ds, μ2, α2, R2, S2, q1.adv A2, q2, h2⟩⟩
  rw [hs] at hA ⊢
  refine Calls.callWith_builtin (by show (false || (backTo cpos (starEach es X.env)).any (·.1)) = false
                                    rw [hplain] <;> rfl) (Calls.evalArgs_plain ?_)
  refine thn hA fun us s2 hq => ?_
  obtain ⟨vs, H2, I2, r2, ds, μ2, α2, R2, S2, q2, q3, h2⟩ := hq
  cases eg : g μ2 dx ds with
  | none => rw [eg] at h2; exact False.elim h2
  | some p =>
    obtain ⟨d, μ3⟩ := p
    rw [eg] at h2
    exact hm pins s2 σ H2 x vs v us Q I2 r1 r2 ⟨μ2, α2, R2, dx, ds, d, μ3, S2, q2, q3, eg, fun w R' H' S' A' q => h2 w α2 R' H' S' A' q⟩
theorem de_bm0 (pa : PlainAttrs T) (slot : Slot T name id) (hty : typeOf (.builtin id) = pure (.type "method_descriptor")) (hm : MtG X id g) (ho : DE X E o fo)
    (hbase : attributeBase o name X.env (eval o X.env) = eval o X.env := by rfl) (hline : (apos.endLine == cpos.line) = true := by rfl) :
    DE X E (.Call (.Attribute o name apos) [] [] cpos) (eMeth T g fo aNil) := by
  refine ⟨fun pins s σ H Q I ⟨ρ, μ, α, R, S, W, h⟩ => ?_⟩
  let P1 : V → Hp → Prop := fun v H1 => ∃ dx μ1 α1 R1, SM X.K X.mg μ1 α1 R1 H1 ∧ Den X.K X.mg R1 α1 v dx ∧ After X.K X.mg E (relD X.K X.mg) α1 R1 H1 (if isTy μ1 T dx = true then (match g μ1 dx [] with
    | some (d, μ3) => .ok d μ3
    | none => .bad) else .bad) Q
  have h0 := ho.run pins s σ H P1 I ⟨ρ, μ, α, R, S, W, h.bind fun dx μ1 v α1 R1 H1 S1 A1 q1 h1 => ⟨dx, μ1, α1, R1, S1, q1, h1⟩⟩
  refine wpAny_Call_method_late hbase rfl hline rfl (thn h0 fun v s1 hq => ?_)
  obtain ⟨x, H1, I1, r1, dx, μ1, α1, R1, S1, q1, h1⟩ := hq
  split at h1
  rotate_left
  · exact False.elim h1
  rename_i hT
  obtain ⟨t1, t2⟩ := isTy_is I1 S1 r1 q1 hT
  refine ⟨T, id, pa, slot, hty, t1, t2, ?_⟩
  refine Calls.callWith_builtin (args := []) rfl (PyProof.Rows.evalArgs_empty ?_)
  cases eg : g μ1 dx [] with
  | none => rw [eg] at h1; exact False.elim h1
  | some p =>
    obtain ⟨d, μ3⟩ := p
    rw [eg] at h1
    have fin := hm pins s1 σ H1 x [] v [] Q I1 r1 .nil ⟨μ1, α1, R1, dx, [], d, μ3, S1, q1, .nil, eg, fun w R' H' S' A' q => h1 w α1 R' H' S' A' q⟩
    exact fin
/-! list methods -/
def gAppend : GM := fun μ x ds => match x, ds with
  | .loc n, [d] => match μ[n]? with
    | some (some (.list xs)) => if xs.length < sizeLine then some (.none, μ.set n (some (.list (xs ++ [d])))) else none
    | _ => none
  | _, _ => none
theorem mg_append : MtG X "list.append" gAppend := by
  rintro pins s σ H x vs v us Q I rx r ⟨μ, α, R, dx, ds, d, μ', S, h1, h2, e, q⟩
  unfold gAppend at e
  split at e
  · rename_i n d'
    split at e
    · rename_i xs e1
      split at e
      · rename_i hl
        cases e
        cases h1 with
        | loc hα =>
          rename_i a
          obtain ⟨w, rfl, k2⟩ := denL1 h2
          obtain ⟨_, ws, g1, g2, g3⟩ := S.cell n _ a e1 hα
          have hl2 : ws.length < sizeLine := by rw [g3.len]; exact hl
          obtain ⟨S2, A2⟩ := S.put (u := .lst (ws ++ [w])) (c := .list (xs ++ [d'])) e1 hα ⟨_, upd_same, by rw [List.length_append]; exact hl2, g3.append (.cons k2 .nil)⟩
          exact mt_append pins s σ H _ _ v us Q I rx r ⟨a, ws, w, rfl, rfl, g1, hl2, q _ R _ S2 A2 .none⟩
      · cases e
    · cases e
  · cases e
/-- x.pop(), x.pop(i) of a list -/
def gPop : GM := fun μ x ds => match x with
  | .loc n => match μ[n]? with
    | some (some (.list xs)) => (match ds with
      | [] => (xs[xs.length - 1]?).map fun d => (d, μ.set n (some (.list xs.dropLast)))
      | [.int i] => if -(2 ^ 63) ≤ i ∧ i < 2 ^ 63 then (seqIndex? i xs.length).bind fun k => (xs[k]?).map fun d => (d, μ.set n (some (.list (xs.eraseIdx k)))) else none
      | _ => none)
    | _ => none
  | _ => none
theorem DenL.dropLast {K : PySem.W.Frag} {mg : Str → Option Value} {R : Hp} {α : List Addr} {vs : List V} {xs : List D} (h : DenL K mg R α vs xs) : DenL K mg R α vs.dropLast xs.dropLast := by
  rw [List.dropLast_eq_take, List.dropLast_eq_take, h.len]
  exact h.take _
theorem mg_pop : MtG X "list.pop" gPop := by
  rintro pins s σ H x vs v us Q I rx r ⟨μ, α, R, dx, ds, d, μ', S, h1, h2, e, q⟩
  unfold gPop at e
  split at e
  · rename_i n
    split at e
    · rename_i xs e1
      cases h1 with
      | loc hα =>
        rename_i a
        obtain ⟨_, ws, g1, g2, g3⟩ := S.cell n _ a e1 hα
        split at e
        · obtain ⟨d', e2, e3⟩ := Option.map_eq_some_iff.mp e
          cases e3
          cases h2
          obtain ⟨w, e4, e5⟩ := g3.get' e2
          obtain ⟨S2, A2⟩ := S.put (u := .lst ws.dropLast) (c := .list xs.dropLast) e1 hα ⟨_, upd_same, by rw [List.length_dropLast]; omega, g3.dropLast⟩
          exact mt_pop pins s σ H _ _ v us Q I rx r ⟨a, ws, w, rfl, rfl, g1, by rw [g3.len]; exact e4, q _ R _ S2 A2 e5⟩
        · rename_i i
          split at e
          · rename_i hi
            obtain ⟨k, e2, e3⟩ := Option.bind_eq_some_iff.mp e
            obtain ⟨d', e4, e5⟩ := Option.map_eq_some_iff.mp e3
            cases e5
            obtain ⟨w', rfl, k2⟩ := denL1 h2
            cases k2
            obtain ⟨w, e6, e7⟩ := g3.get' e4
            obtain ⟨S2, A2⟩ := S.put (u := .lst (ws.eraseIdx k)) (c := .list (xs.eraseIdx k)) e1 hα ⟨_, upd_same, Nat.le_trans (len_erase ws k) g2, g3.erase k⟩
            exact mt_popAt pins s σ H _ _ v us Q I rx r ⟨a, ws, i, k, w, rfl, rfl, g1, hi.1, hi.2, by rw [g3.len]; exact e2, e6, q _ R _ S2 A2 e7⟩
          · cases e
        · cases e
    · cases e
  · cases e
/-- d.get(k), d.get(k, x) -/
def gGet : GM := fun μ x ds => match dctV μ x with
  | some kvs => (match ds with
    | [k] => (keyOf k).map fun k => ((getK kvs k).getD .none, μ)
    | [k, d] => (keyOf k).map fun k => ((getK kvs k).getD d, μ)
    | _ => none)
  | none => none
theorem mg_get (hu : X.A.units + 64 < cLine) : MtG X "dict.get" gGet := by
  rintro pins s σ H x vs v us Q I rx r ⟨μ, α, R, dx, ds, d, μ', S, h1, h2, e, q⟩
  unfold gGet at e
  split at e
  rotate_left
  · cases e
  rename_i kvs e1
  obtain ⟨a, ks, rfl, hd, hl, dk⟩ := S.dctV h1 e1
  obtain rfl : v = .ref a := rx
  split at e
  · obtain ⟨k, e2, e3⟩ := Option.map_eq_some_iff.mp e
    cases e3
    obtain ⟨w, rfl, k2⟩ := denL1 h2
    obtain rfl := keyOf_den k2 e2
    obtain ⟨u, rfl, ru⟩ := vals1 r
    refine d_get1 (by omega) I (.inl ⟨ks, k, hd, rfl, rfl⟩) ru fun w' s' I' r' => ⟨(valV ks k).getD .non, H, I', r', q _ R H S .refl ?_⟩
    have g := denK_get (k := k) dk
    cases e4 : getK kvs k with
    | none => rw [e4] at g; rw [g]; exact .none
    | some d => rw [e4] at g; obtain ⟨v, g1, g2⟩ := g; rw [g1]; exact g2
  · rename_i dflt
    obtain ⟨k, e2, e3⟩ := Option.map_eq_some_iff.mp e
    cases e3
    obtain ⟨w, w2, rfl, k2, h3⟩ := denL2 h2
    obtain rfl := keyOf_den k2 e2
    obtain ⟨u, u2, rfl, ru, ru2⟩ := vals2 r
    refine d_get2 (by omega) I (.inl ⟨ks, k, hd, rfl, rfl⟩) ru ru2 fun w' s' I' r' => ⟨(valV ks k).getD w2, H, I', r', q _ R H S .refl ?_⟩
    have g := denK_get (k := k) dk
    cases e4 : getK kvs k with
    | none => rw [e4] at g; rw [g]; exact h3
    | some d => rw [e4] at g; obtain ⟨v, g1, g2⟩ := g; rw [g1]; exact g2
  · cases e
end
end TL

set_option Elab.async false
set_option maxRecDepth 100000
set_option maxHeartbeats 1000000
set_option linter.all false
/-! The tree layer, part m: words for printed derivations. -/
namespace TL
open PySem PySem.Spec PyProof.Rows L2

/-- the module's name x holds a def that does F; dds: its defaults -/
structure Has (P : Program) (w : World) (K : PySem.W.Frag) (mg : Str → Option Value) (base : Heap) (k : Nat) (x : Str) (n : Nat) (dds : List D) (F : List D → Mu → Res D) : Prop where
  ex : ∃ (f : Addr) (fd : FuncData) (ps : List Str) (dvs : List V) (dus : List Value), ps.length = n ∧ FnT P w K mg base k f fd ps F ∧ mg x = some (.ref f) ∧ PySem.W.keepIn K (.ref f) = true ∧ Binds K fd ps dus ∧ Vals dvs dus ∧ ∀ R α, DenL K mg R α dvs dds
theorem Has.mk0 {P : Program} {w : World} {K : PySem.W.Frag} {mg : Str → Option Value} {base : Heap} {k n : Nat} {x : Str} {f : Addr} {fd : FuncData} {ps : List Str} {F : List D → Mu → Res D} (G : FnT P w K mg base k f fd ps F) (hm : mg x = some (.ref f)) (hk : PySem.W.keepIn K (.ref f) = true)
    (hb : Binds K fd ps []) (hn : ps.length = n := by rfl) : Has P w K mg base k x n [] F := ⟨f, fd, ps, [], [], hn, G, hm, hk, hb, .nil, fun _ _ => .nil⟩
section
variable {X : Cx} {E : XK} {pos : Pos}
theorem dv (i : Nat) {x : Str} (hN : X.N[i]? = some x := by rfl) (hv : Vis X.env.scope x := by first | exact Or.inl rfl | exact Or.inr (Or.inl rfl) | exact Or.inr (Or.inr rfl)) (hd : (x == ("__debug__" : Str)) = false := by decide) (hcd : (x == ("__classdict__" : Str)) = false := by decide) : DE X E (.Name x pos) (eVar i) := de_var hN hv hd hcd
theorem dcall {k n : Nat} {x : Str} {dds : List D} {F : List D → Mu → Res D} {p : Pos} {e : Expr} {es : List Expr} {t : FA} (G : Has X.prog X.w X.K X.mg X.base k x n dds F) (hr : Room k X.A) (hgd : X.A.guards = some []) (hg : Gl X x) (hx : Passes (L2.CX X.prog X.w) X E) (ha : DA X E (e :: es) t)
    (hdb : (x == ("__debug__" : Str)) = false := by decide) (he : starEach (e :: es) X.env = (false, eval e X.env) :: starEach es X.env := by rfl) (hpl : (backTo pos (starEach es X.env)).any (·.1) = false := by rfl) :
    DE X E (.Call (.Name x p) (e :: es) [] pos) (eCallF n F dds t) := by
  obtain ⟨f, fd, ps, dvs, dus, hn, G, hm, hk, hb, hd, hdd⟩ := G.ex
  exact de_call G hr hgd hg hm hk hb hd hdd hx ha hn hdb he hpl
theorem dcall0 {k n : Nat} {x : Str} {dds : List D} {F : List D → Mu → Res D} {p : Pos} (G : Has X.prog X.w X.K X.mg X.base k x n dds F) (hr : Room k X.A) (hgd : X.A.guards = some []) (hg : Gl X x) (hx : Passes (L2.CX X.prog X.w) X E)
    (hdb : (x == ("__debug__" : Str)) = false := by decide) : DE X E (.Call (.Name x p) [] [] pos) (eCallF n F dds aNil) := by
  obtain ⟨f, fd, ps, dvs, dus, hn, G, hm, hk, hb, hd, hdd⟩ := G.ex
  exact de_call0 G hr hgd hg hm hk hb hd hdd hx hn hdb
/-- a name of the module that holds a text, a number -/
theorem de_gS {x s : Str} (h : ∃ u, X.mg x = some u ∧ RelV (V.str s) u) (hg : Gl X x) (hdb : (x == ("__debug__" : Str)) = false := by decide) : DE X E (.Name x pos) (eC (.str s)) := by
  obtain ⟨u, h1, h2⟩ := h
  exact de_glob hg h1 h2 (fun _ _ => .str s) hdb
theorem de_gI {x : Str} {i : Int} (h : ∃ u, X.mg x = some u ∧ RelV (V.int i) u) (hg : Gl X x) (hdb : (x == ("__debug__" : Str)) = false := by decide) : DE X E (.Name x pos) (eC (.int i)) := by
  obtain ⟨u, h1, h2⟩ := h
  exact de_glob hg h1 h2 (fun _ _ => .int i) hdb
end
/-- the value, its cell frozen -/
def frzD (d : D) (μ : Mu) : Res D := match d with
  | .loc n => match μ[n]? with
    | some (some c) => .ok (cellD c) (μ.set n none)
    | _ => .bad
  | d => .ok d μ
def eFrz (f : FE) : FE := fun ρ μ => (f ρ μ).bind frzD
section
variable {X : Cx} {E : XK}
theorem frz_ok {K : PySem.W.Frag} {mg : Str → Option Value} {R H : Hp} {α : List Addr} {μ : Mu} {d : D} {v : V} {Q : VK} (S : SM K mg μ α R H) (q : Den K mg R α v d) (h : After K mg E (relD K mg) α R H (frzD d μ) Q) : Q v H := by
  unfold frzD at h
  split at h
  · rename_i n
    cases q with
    | loc hα =>
      split at h
      · rename_i c e
        obtain ⟨R', S', A', d'⟩ := S.freeze e hα
        exact h _ α R' H S' A' d'
      · exact False.elim h
  · exact h v α R H S .refl q
theorem de_frz {e : Expr} {f : FE} (h : DE X E e f) : DE X E e (eFrz f) :=
  wE h fun σ H Q ⟨ρ, μ, α, R, S, V, h⟩ => ⟨ρ, μ, α, R, S, V, h.bind fun d μ1 v α1 R1 H1 S1 A1 q1 h1 => frz_ok S1 q1 h1⟩
/-- the cell that slot i names is frozen here -/
def sFrz (i : Nat) : FS := fun ρ μ => match ρ[i]? with
  | some (some d) => (frzD d μ).bind fun d' μ1 => .ok (.nx (ρ.set i (some d'))) μ1
  | _ => .bad
theorem dss_frz (i : Nat) {sts : List Stmt} {g : FS} (h : DSs X E sts g) : DSs X E sts (sSeq (sFrz i) g) :=
  wSs h fun Dn σ H ⟨ρ, μ, α, R, S, V, h⟩ => by
    unfold sSeq sFrz at h
    split at h
    · rename_i d e
      obtain ⟨v, hv, q⟩ := V.2 i d e
      unfold frzD at h
      split at h
      · rename_i n
        cases q with
        | loc hα =>
          split at h
          · rename_i c ec
            obtain ⟨R', S', A', d'⟩ := S.freeze ec hα
            refine ⟨ρ.set i (some (cellD c)), μ.set n none, α, R', S', ⟨by simpa using V.1, fun j x hj => ?_⟩, ?_⟩
            · by_cases hij : i = j
              · subst hij
                have hl : i < ρ.length := (List.getElem?_eq_some_iff.mp e).1
                rw [List.getElem?_set_self hl] at hj
                cases hj
                exact ⟨_, hv, d'⟩
              · rw [List.getElem?_set_ne hij] at hj
                obtain ⟨w, h1, h2⟩ := V.2 j x hj
                exact ⟨w, h1, h2.adv A'⟩
            · exact AfterS.adv A' h
          · exact False.elim h
      · have e2 : ρ.set i (some d) = ρ := by
          apply List.ext_getElem?
          intro j
          by_cases hij : i = j
          · subst hij
            rw [List.getElem?_set_self (List.getElem?_eq_some_iff.mp e).1, e]
          · rw [List.getElem?_set_ne hij]
        have h' : AfterS X.K X.mg E α R H (g (ρ.set i (some d)) μ) Dn := h
        rw [e2] at h'
        exact ⟨ρ, μ, α, R, S, V, h'⟩
    · exact False.elim h
end
/-! ### xs + ys as a new list -/
def catO (μ : Mu) (x y : D) : Option Cell := match seqL μ x, seqL μ y with
  | some xs, some ys => chk (decide (xs.length + ys.length ≤ sizeLine)) (.list (xs ++ ys))
  | _, _ => none
def nCat (fa fb : FE) : FN := fun ρ μ => (fa ρ μ).bind fun x μ1 => (fb ρ μ1).bind fun y μ2 => ofO (catO μ2 x y) μ2
section
variable {X : Cx} {E : XK} {a b : Expr} {fa fb : FE} {pos : Pos}
theorem dn_cat (ha : DE X E a fa) (hb : DE X E b fb) : DN X E (.BinOp a .Add b pos) (nCat fa fb) :=
  wE (pe_op op_cat ha hb) fun σ H Q ⟨ρ, μ, α, R, S, V, h⟩ => ⟨ρ, μ, α, R, S, V, h.bind fun x μ1 v α1 R1 H1 S1 A1 d1 h1 => ⟨ρ, μ1, α1, R1, S1, V.adv A1, h1.bind fun y μ2 u α2 R2 H2 S2 A2 d2 h2 => by
    obtain ⟨c, e1, e2⟩ := h2.ofO
    unfold catO at e1
    split at e1
    · rename_i xs ys q1 q2
      obtain ⟨e4, rfl⟩ := chk_some e1
      obtain ⟨a, vs, rfl, i1, i2, i3⟩ := S2.seqL (d1.adv A2) q1
      obtain ⟨b, ws, rfl, j1, j2, j3⟩ := S2.seqL d2 q2
      have hl : vs.length + ws.length ≤ sizeLine := by rw [i3.len, j3.len]; exact of_decide_eq_true e4
      exact ⟨a, b, vs, ws, rfl, rfl, i1, j1, hl, fun p hp => e2 (.non, .lst (vs ++ ws)) α2 R2 H2 S2 .refl ⟨_, rfl, by simpa using hl, i3.append j3⟩ p hp⟩
    · cases e1⟩⟩
end
end TL

set_option Elab.async false
set_option maxRecDepth 100000
set_option maxHeartbeats 1000000
set_option linter.all false
/-! The tree layer, part n: what a reading gives (no program in sight). -/
namespace TL
open PySem PySem.Spec PyProof.Rows L2

def W {τ : Type} (r : Res τ) (P : τ → Mu → Prop) : Prop := match r with
  | .ok d μ => P d μ
  | _ => False
section
variable {τ υ : Type} {P : τ → Mu → Prop} {μ μ' : Mu} {ρ : Env}
theorem W_ok {d : τ} : W (.ok d μ) P ↔ P d μ := Iff.rfl
theorem W_bad : W (.bad : Res τ) P ↔ False := Iff.rfl
theorem W_ex {x : Exc} : W (.ex x μ : Res τ) P ↔ False := Iff.rfl
theorem W_bind {r : Res υ} {f : υ → Mu → Res τ} : W (r.bind f) P ↔ W r fun d μ => W (f d μ) P := by cases r <;> exact Iff.rfl
theorem W_noEx {r : Res τ} : W (noEx r) P ↔ W r P := by cases r <;> exact Iff.rfl
theorem W_ite {c : Prop} [Decidable c] {a b : Res τ} : W (if c then a else b) P ↔ (c → W a P) ∧ (¬ c → W b P) := by
  by_cases h : c <;> simp [h]
theorem W_some {d : τ} : W (ofO (some d) μ) P ↔ P d μ := Iff.rfl
theorem W_none : W (ofO (none : Option τ) μ) P ↔ False := Iff.rfl
theorem W_chk {b : Bool} {d : τ} : W (ofO (chk b d) μ) P ↔ b = true ∧ P d μ := by
  cases b <;> simp [chk, ofO, W]
theorem W_map {o : Option υ} {f : υ → τ} : W (ofO (o.map f) μ) P ↔ W (ofO o μ) fun d μ => P (f d) μ := by cases o <;> exact Iff.rfl
theorem W_obind {o : Option υ} {f : υ → Option τ} : W (ofO (o.bind f) μ) P ↔ W (ofO o μ) fun d μ => W (ofO (f d) μ) P := by cases o <;> exact Iff.rfl
theorem W.mono {r : Res τ} {Q : τ → Mu → Prop} (h : W r P) (k : ∀ d μ, P d μ → Q d μ) : W r Q := by
  cases r with
  | ok d μ => exact k _ _ h
  | ex x μ => exact h
  | bad => exact h
theorem W.eq {r : Res τ} {d : τ} (h : W r fun e m => e = d ∧ m = μ) : r = .ok d μ := by
  cases r with
  | ok e m => obtain ⟨rfl, rfl⟩ := h; rfl
  | ex x m => exact h.elim
  | bad => exact h.elim
theorem W.of_eq {r : Res τ} {d : τ} (h : r = .ok d μ) (k : P d μ) : W r P := by rw [h]; exact k
end
/-- what is to hold behind a statement, the rest being g -/
def seqK (g : FS) (P : Flow → Mu → Prop) : Flow → Mu → Prop
  | .nx ρ, μ => W (g ρ μ) P
  | .rt d, μ => P (.rt d) μ
  | .bk ρ, μ => P (.bk ρ) μ
  | .ct ρ, μ => P (.ct ρ) μ
section
variable {f g : FS} {P : Flow → Mu → Prop} {ρ : Env} {μ : Mu} {d : D}
theorem seqK_nx : seqK g P (.nx ρ) μ ↔ W (g ρ μ) P := Iff.rfl
theorem seqK_rt : seqK g P (.rt d) μ ↔ P (.rt d) μ := Iff.rfl
theorem seqK_bk : seqK g P (.bk ρ) μ ↔ P (.bk ρ) μ := Iff.rfl
theorem seqK_ct : seqK g P (.ct ρ) μ ↔ P (.ct ρ) μ := Iff.rfl
theorem W_seq : W (sSeq f g ρ μ) P ↔ W (f ρ μ) (seqK g P) := by
  unfold sSeq
  rw [W_bind]
  cases f ρ μ with
  | ok fl μ1 => cases fl <;> exact Iff.rfl
  | ex x μ1 => exact Iff.rfl
  | bad => exact Iff.rfl
end
/-- name = what is known, then the rest -/
theorem W_seqSet {i : Nat} {e : FE} {g : FS} {ρ : Env} {μ : Mu} {d : D} {P : Flow → Mu → Prop} (h : e ρ μ = .ok d μ) (k : W (g (ρ.set i (some d)) μ) P) : W (sSeq (sSet i e) g ρ μ) P := by
  unfold sSeq sSet
  rw [h]
  exact k
/-- an invariant by a name -/
theorem named (I : Nat → Env → Mu → Prop) : ∃ J : Nat → Env → Mu → Prop, J = I := ⟨I, rfl⟩
/-! loops -/
/-- what the body's end means for the loop -/
def onBody (nx : Env → Mu → Prop) (P : Flow → Mu → Prop) : Flow → Mu → Prop
  | .nx ρ, μ => nx ρ μ
  | .ct ρ, μ => nx ρ μ
  | .bk ρ, μ => P (.nx ρ) μ
  | .rt d, μ => P (.rt d) μ
theorem W_forL {chk : Mu → Bool} {T : Tg} {b : FS} {P : Flow → Mu → Prop} (I : Nat → Env → Mu → Prop) : ∀ (xs : List D) {ρ : Env} {μ : Mu},
    I 0 ρ μ → (∀ i ρ μ, I i ρ μ → chk μ = true) →
    (∀ i x ρ μ, xs[i]? = some x → I i ρ μ → ∃ ρ1, tgSet T x ρ = some ρ1 ∧ W (b ρ1 μ) (onBody (fun ρ μ => I (i + 1) ρ μ) P)) →
    (∀ ρ μ, I xs.length ρ μ → P (.nx ρ) μ) → W (forL chk T b xs ρ μ) P
  | [], ρ, μ, h0, hc, _, he => by
    unfold forL
    rw [if_pos (hc _ _ _ h0)]
    exact he _ _ h0
  | x :: xs, ρ, μ, h0, hc, hs, he => by
    unfold forL
    rw [if_pos (hc _ _ _ h0)]
    obtain ⟨ρ1, e, h⟩ := hs 0 x ρ μ rfl h0
    rw [e]
    simp only [W_bind]
    refine h.mono fun fl μ1 h => ?_
    have go : ∀ ρ2, I 1 ρ2 μ1 → W (forL chk T b xs ρ2 μ1) P := fun ρ2 h1 =>
      W_forL (fun i => I (i + 1)) xs h1 (fun i => hc (i + 1)) (fun i y ρ μ hy hi => hs (i + 1) y ρ μ (by simpa using hy) hi) he
    cases fl with
    | nx ρ2 => exact go ρ2 h
    | ct ρ2 => exact go ρ2 h
    | bk ρ2 => exact h
    | rt d => exact h
/-- a walk over what changes never -/
theorem W_forY {T : Tg} {b : FS} {P : Flow → Mu → Prop} (I : Nat → Env → Mu → Prop) (xs : List D) {ρ : Env} {μ : Mu} (h0 : I 0 ρ μ)
    (hs : ∀ i x ρ μ, xs[i]? = some x → I i ρ μ → ∃ ρ1, tgSet T x ρ = some ρ1 ∧ W (b ρ1 μ) (onBody (fun ρ μ => I (i + 1) ρ μ) P))
    (he : ∀ ρ μ, I xs.length ρ μ → P (.nx ρ) μ) : W (forL yes T b xs ρ μ) P := W_forL I xs h0 (fun _ _ _ _ => rfl) hs he
theorem W_compL {chk : Mu → Bool} {T : Tg} {t : FT} {e : FE} {own : List Nat} {P : List D → Mu → Prop} (I : Nat → List D → Mu → Prop) : ∀ (xs : List D) {ρ : Env} {μ : Mu},
    I 0 [] μ → (∀ i ds μ, I i ds μ → chk μ = true) →
    (∀ i x ds μ, xs[i]? = some x → I i ds μ → ∃ ρ1, tgSet T x (wipeD ρ own) = some ρ1 ∧ W (t ρ1 μ) fun b μ1 => if b = true then W (e ρ1 μ1) fun d μ2 => I (i + 1) (ds ++ [d]) μ2 else I (i + 1) ds μ1) →
    (∀ ds μ, I xs.length ds μ → P ds μ) → W (compL chk T t e own xs ρ μ) P
  | [], ρ, μ, h0, hc, _, he => by
    unfold compL
    rw [if_pos (hc _ _ _ h0)]
    exact he _ _ h0
  | x :: xs, ρ, μ, h0, hc, hs, he => by
    unfold compL
    rw [if_pos (hc _ _ _ h0)]
    obtain ⟨ρ1, e1, h⟩ := hs 0 x [] μ rfl h0
    rw [e1]
    simp only [W_bind, W_noEx]
    refine h.mono fun b μ1 h => ?_
    split at h
    · rename_i hb
      rw [if_pos hb]
      simp only [W_bind, W_noEx]
      refine h.mono fun d μ2 h => ?_
      exact W_compL (P := fun ds μ => P (d :: ds) μ) (fun i ds => I (i + 1) (d :: ds)) xs h (fun i ds => hc (i + 1) (d :: ds)) (fun i y ds μ hy hi => hs (i + 1) y (d :: ds) μ (by simpa using hy) hi) (fun ds μ h => he (d :: ds) μ h)
    · rename_i hb
      rw [if_neg hb]
      exact W_compL (fun i ds => I (i + 1) ds) xs h (fun i ds => hc (i + 1) ds) (fun i y ds μ hy hi => hs (i + 1) y ds μ (by simpa using hy) hi) he
/-- a list of what a pure expression gives of each item that passes a pure test -/
theorem W_compPure {T : Tg} {t : FT} {e : FE} {own : List Nat} {P : List D → Mu → Prop} (tb : D → Bool) (ed : D → D) (xs : List D) {ρ : Env} {μ : Mu}
    (hs : ∀ x ∈ xs, ∃ ρ1, tgSet T x (wipeD ρ own) = some ρ1 ∧ t ρ1 μ = .ok (tb x) μ ∧ (tb x = true → e ρ1 μ = .ok (ed x) μ)) (he : P ((xs.filter tb).map ed) μ) : W (compL yes T t e own xs ρ μ) P := by
  refine W_compL (fun i ds m => m = μ ∧ ds = ((xs.take i).filter tb).map ed) xs ⟨rfl, by simp⟩ (fun _ _ _ _ => rfl) (fun i x ds m hx h => ?_) (fun ds m h => ?_)
  · obtain ⟨rfl, rfl⟩ := h
    obtain ⟨ρ1, e1, e2, e3⟩ := hs x (List.mem_of_getElem? hx)
    have ht : xs.take (i + 1) = xs.take i ++ [x] := by rw [List.take_add_one, hx]; rfl
    refine ⟨ρ1, e1, W.of_eq e2 ?_⟩
    by_cases hb : tb x = true
    · rw [if_pos hb]
      exact W.of_eq (e3 hb) ⟨rfl, by rw [ht]; simp [List.filter_append, hb]⟩
    · rw [if_neg hb]
      exact ⟨rfl, by rw [ht]; simp [List.filter_append, hb]⟩
  · obtain ⟨rfl, rfl⟩ := h
    rw [List.take_length] at *
    exact he
theorem W_compMap {σ : Type} {T : Tg} {t : FT} {e : FE} {own : List Nat} {P : List D → Mu → Prop} (g : σ → D) (tb : σ → Bool) (ed : σ → D) : ∀ (ks : List σ) {ρ : Env} {μ : Mu},
    (∀ k ∈ ks, ∃ ρ1, tgSet T (g k) (wipeD ρ own) = some ρ1 ∧ t ρ1 μ = .ok (tb k) μ ∧ (tb k = true → e ρ1 μ = .ok (ed k) μ)) → P ((ks.filter tb).map ed) μ → W (compL yes T t e own (ks.map g) ρ μ) P
  | [], ρ, μ, _, h => h
  | k :: ks, ρ, μ, hs, h => by
    obtain ⟨ρ1, e1, e2, e3⟩ := hs k (List.mem_cons_self ..)
    rw [List.map_cons]
    unfold compL
    rw [if_pos (show yes μ = true from rfl), e1]
    simp only [W_bind, W_noEx]
    refine W.of_eq e2 ?_
    have hs' := fun q hq => hs q (List.mem_cons_of_mem _ hq)
    by_cases hb : tb k = true
    · rw [if_pos hb]
      simp only [W_bind, W_noEx]
      refine W.of_eq (e3 hb) (W_compMap (P := fun ds μ => P (ed k :: ds) μ) g tb ed ks hs' ?_)
      rw [List.filter_cons_of_pos hb] at h
      exact h
    · rw [if_neg hb]
      refine W_compMap g tb ed ks hs' ?_
      rw [List.filter_cons_of_neg hb] at h
      exact h
theorem W_compAll {σ : Type} {T : Tg} {e : FE} {own : List Nat} {P : List D → Mu → Prop} (g : σ → D) (ed : σ → D) (ks : List σ) {ρ : Env} {μ : Mu}
    (hs : ∀ k ∈ ks, ∃ ρ1, tgSet T (g k) (wipeD ρ own) = some ρ1 ∧ e ρ1 μ = .ok (ed k) μ) (h : P (ks.map ed) μ) : W (compL yes T tTrue e own (ks.map g) ρ μ) P :=
  W_compMap g (fun _ => true) ed ks (fun k hk => by
    obtain ⟨ρ1, e1, e2⟩ := hs k hk
    exact ⟨ρ1, e1, rfl, fun _ => e2⟩) (by rw [List.filter_eq_self.mpr fun _ _ => rfl]; exact h)
theorem W_for_nil {T : Tg} {b : FS} {ρ : Env} {μ : Mu} {P : Flow → Mu → Prop} : W (forL yes T b [] ρ μ) P ↔ P (.nx ρ) μ := by
  unfold forL
  rw [if_pos (show yes μ = true from rfl)]
  exact Iff.rfl
theorem W_for_cons {T : Tg} {b : FS} {x : D} {xs : List D} {ρ ρ1 : Env} {μ : Mu} {P : Flow → Mu → Prop} (e : tgSet T x ρ = some ρ1) (h : W (b ρ1 μ) (onBody (fun ρ2 μ1 => W (forL yes T b xs ρ2 μ1) P) P)) : W (forL yes T b (x :: xs) ρ μ) P := by
  unfold forL
  rw [if_pos (show yes μ = true from rfl), e]
  simp only [W_bind]
  refine h.mono fun fl μ1 h => ?_
  cases fl with
  | nx ρ2 => exact h
  | ct ρ2 => exact h
  | bk ρ2 => exact h
  | rt d => exact h
/-- a loop that looks for the first item with p, the store stays -/
theorem W_search {σ : Type} {T : Tg} {b : FS} {P : Flow → Mu → Prop} {μ : Mu} (g : σ → D) (p : σ → Bool) (I : Env → Prop) : ∀ (xs : List σ) {ρ : Env}, I ρ →
    (∀ x ∈ xs, ∀ ρ, I ρ → ∃ ρ1, tgSet T (g x) ρ = some ρ1 ∧ W (b ρ1 μ) fun fl ν => ν = μ ∧ ((p x = true ∧ fl = .rt (.bool true)) ∨ (p x = false ∧ ∃ ρ2, fl = .nx ρ2 ∧ I ρ2))) →
    (xs.any p = true → P (.rt (.bool true)) μ) → (xs.any p = false → ∀ ρ, I ρ → P (.nx ρ) μ) → W (forL yes T b (xs.map g) ρ μ) P
  | [], ρ, hi, _, _, h2 => by
    rw [List.map_nil]
    unfold forL
    rw [if_pos (show yes μ = true from rfl)]
    exact h2 rfl ρ hi
  | x :: xs, ρ, hi, hs, h1, h2 => by
    rw [List.map_cons]
    unfold forL
    rw [if_pos (show yes μ = true from rfl)]
    obtain ⟨ρ1, e, h⟩ := hs x (List.mem_cons_self ..) ρ hi
    rw [e]
    simp only [W_bind]
    refine h.mono fun fl ν hb => ?_
    obtain ⟨e2, h3⟩ := hb
    subst e2
    rcases h3 with ⟨hp, rfl⟩ | ⟨hp, ρ2, rfl, hi2⟩
    · exact h1 (by simp [hp])
    · exact W_search g p I xs hi2 (fun y hy => hs y (List.mem_cons_of_mem _ hy)) (fun h => h1 (by simp [hp, h])) (fun h => h2 (by simp [hp, h]))
/-! the shapes that a reading is opened by -/
theorem sameC_self (c : Cell) : sameC c c = true := sameC_refl c
theorem chkMu_of (n : Nat) : ∀ (μ μ' : Mu), (∀ (i : Nat) c', μ'[i]? = some (some c') → (∃ c, μ[i]? = some c) → okCell n c' = true ∨ μ[i]? = some (some c')) → chkMu n μ μ' = true
  | [], _, _ => by simp [chkMu]
  | _ :: _, [], _ => by simp [chkMu]
  | c :: cs, c' :: cs', h => by
    simp only [chkMu, Bool.and_eq_true]
    refine ⟨?_, chkMu_of n cs cs' fun i c2 h1 ⟨c3, h2⟩ => by simpa using h (i + 1) c2 (by simpa using h1) ⟨c3, by simpa using h2⟩⟩
    cases c' with
    | none => rfl
    | some d =>
      rcases h 0 d rfl ⟨c, rfl⟩ with h1 | h1
      · simp [okStep, h1]
      · simp at h1; subst h1; simp [okStep, sameC_refl]
theorem chkMu_self (μ ex : Mu) : chkMu μ.length μ (μ ++ ex) = true := chkMu_of _ _ _ fun i c' h ⟨c, h2⟩ => .inr (by
  rw [List.getElem?_append_left (List.getElem?_eq_some_iff.mp h2).1] at h; exact h)
/-- a def is opened: what its body does, cut back -/
def runK (μ : Mu) (P : D → Mu → Prop) : Flow → Mu → Prop
  | .nx _, μ' => W (retV μ μ' .none) P
  | .rt d, μ' => W (retV μ μ' d) P
  | .bk _, _ => False
  | .ct _, _ => False
theorem runK_nx {μ μ' : Mu} {ρ : Env} {P : D → Mu → Prop} : runK μ P (.nx ρ) μ' ↔ W (retV μ μ' .none) P := Iff.rfl
theorem runK_rt {μ μ' : Mu} {d : D} {P : D → Mu → Prop} : runK μ P (.rt d) μ' ↔ W (retV μ μ' d) P := Iff.rfl
theorem W_run {n : Nat} {f : FS} {ds : List D} {μ : Mu} {P : D → Mu → Prop} : W (runDef n f ds μ) P ↔ W (f (startD n ds) μ) (runK μ P) := by
  unfold runDef
  cases f (startD n ds) μ with
  | ok fl μ' => cases fl <;> exact Iff.rfl
  | ex x μ' =>
    simp only
    split <;> exact Iff.rfl
  | bad => exact Iff.rfl
theorem take_self {μ μ' : Mu} (h : μ'.length = μ.length) : μ'.take μ.length = μ' := by rw [← h, List.take_length]
/-- a def ends with a value that names no cell of its own; the store has kept its length -/
theorem W_ret {μ μ' : Mu} {d : D} {P : D → Mu → Prop} (hc : chkMu μ.length μ μ' = true) (hd : okLoc μ.length d = true) (h : P d (μ'.take μ.length)) : W (retV μ μ' d) P := by
  unfold retV
  rw [if_pos hc]
  cases d with
  | loc i =>
    have hi : i < μ.length := by simpa [okLoc] using hd
    simp only [hi, if_true]
    exact h
  | _ => simp only [hd, if_true]; exact h
/-- a def ends with a new cell -/
theorem W_retNew {μ : Mu} {c : Cell} {P : D → Mu → Prop} {i : Nat} {μ' : Mu} (hc : chkMu μ.length μ μ' = true) (hi : μ.length ≤ i) (hg : μ'[i]? = some (some c)) (ho : okCell μ.length c = true) (h : P (.loc μ.length) (μ'.take μ.length ++ [some c])) : W (retV μ μ' (.loc i)) P := by
  unfold retV
  rw [if_pos hc]
  simp only [Nat.not_lt.mpr hi, if_false, hg, ho, if_true]
  exact h
/-! a feed: a cell of two numbers -/
def FeedAt (n : Nat) (μ : Mu) : Prop := ∃ a b : Int, μ[n]? = some (some (.list [.int a, .int b]))
/-- only the feed has changed -/
def Dr (n : Nat) (μ μ' : Mu) : Prop := ∃ a b : Int, μ' = μ.set n (some (.list [.int a, .int b]))
theorem FeedAt.lt {n : Nat} {μ : Mu} (h : FeedAt n μ) : n < μ.length := by
  obtain ⟨a, b, h⟩ := h
  exact (List.getElem?_eq_some_iff.mp h).1
theorem Dr.refl {n : Nat} {μ : Mu} (h : FeedAt n μ) : Dr n μ μ := by
  obtain ⟨a, b, h⟩ := h
  refine ⟨a, b, ?_⟩
  apply List.ext_getElem?
  intro j
  by_cases e : n = j
  · subst e; rw [List.getElem?_set_self (List.getElem?_eq_some_iff.mp h).1, h]
  · rw [List.getElem?_set_ne e]
theorem Dr.trans {n : Nat} {μ μ1 μ2 : Mu} (x : Dr n μ μ1) (y : Dr n μ1 μ2) : Dr n μ μ2 := by
  obtain ⟨a, b, rfl⟩ := x
  obtain ⟨c, d, rfl⟩ := y
  exact ⟨c, d, by rw [List.set_set]⟩
theorem Dr.len {n : Nat} {μ μ' : Mu} (x : Dr n μ μ') : μ'.length = μ.length := by
  obtain ⟨a, b, rfl⟩ := x; simp
theorem Dr.at' {n : Nat} {μ μ' : Mu} (x : Dr n μ μ') (h : n < μ.length) : FeedAt n μ' := by
  obtain ⟨a, b, rfl⟩ := x
  exact ⟨a, b, by rw [List.getElem?_set_self h]⟩
theorem Dr.at {n : Nat} {μ μ' : Mu} (x : Dr n μ μ') (h : FeedAt n μ) : FeedAt n μ' := x.at' h.lt
theorem Dr.get {n m : Nat} {μ μ' : Mu} (x : Dr n μ μ') (h : n ≠ m) : μ'[m]? = μ[m]? := by
  obtain ⟨a, b, rfl⟩ := x
  rw [List.getElem?_set_ne h]
theorem Dr.chk {n : Nat} {μ μ' : Mu} (x : Dr n μ μ') (k : Nat) (ex : Mu) : chkMu k μ (μ' ++ ex) = true := by
  obtain ⟨a, b, rfl⟩ := x
  refine chkMu_of k _ _ fun i c' h ⟨c, h2⟩ => ?_
  have hi : i < (μ.set n (some (.list [.int a, .int b]))).length := by
    simpa using (List.getElem?_eq_some_iff.mp h2).1
  rw [List.getElem?_append_left hi] at h
  by_cases e : n = i
  · subst e
    rw [List.getElem?_set_self (by simpa using hi)] at h
    cases h
    left; simp [okCell, okLocs, okLoc]
  · rw [List.getElem?_set_ne e] at h
    exact .inr h
theorem Dr.take {n : Nat} {μ μ' : Mu} (x : Dr n μ μ') (ex : Mu) : (μ' ++ ex).take μ.length = μ' := by
  rw [← x.len, List.take_left]
/-! pure tests in one piece -/
section
variable {τ υ : Type} {μ : Mu} {b c : Bool}
theorem ok_bind {d : τ} {f : τ → Mu → Res υ} : (Res.ok d μ).bind f = f d μ := rfl
theorem ofO_some {d : τ} : ofO (some d) μ = .ok d μ := rfl
theorem and_ok : (if b = true then Res.ok c μ else Res.ok false μ) = Res.ok (b && c) μ := by cases b <;> rfl
theorem or_ok : (if b = true then Res.ok true μ else Res.ok c μ) = Res.ok (b || c) μ := by cases b <;> rfl
theorem and_okD : (if b = true then Res.ok (D.bool c) μ else Res.ok (D.bool false) μ) = Res.ok (D.bool (b && c)) μ := by cases b <;> rfl
theorem or_okD : (if b = true then Res.ok (D.bool true) μ else Res.ok (D.bool c) μ) = Res.ok (D.bool (b || c)) μ := by cases b <;> rfl
end
/-! the operations at known shapes -/
section
variable {μ : Mu} {i j : Int} {s t : Str} {xs ys : List D} {b c : Bool} {x : D}
theorem gAdd_ii : gAdd μ (.int i) (.int j) = some (.int (i + j)) := rfl
theorem gAdd_ss : gAdd μ (.str s) (.str t) = chk (decide (s.length + t.length ≤ sizeLine)) (.str (s ++ t)) := rfl
theorem gAdd_tt : gAdd μ (.tuple xs) (.tuple ys) = chk (decide (xs.length + ys.length ≤ sizeLine)) (.tuple (xs ++ ys)) := rfl
theorem gAdd_ll : gAdd μ (.list xs) (.list ys) = chk (decide (xs.length + ys.length ≤ sizeLine)) (.list (xs ++ ys)) := rfl
theorem catO_ll : catO μ (.list xs) (.list ys) = chk (decide (xs.length + ys.length ≤ sizeLine)) (.list (xs ++ ys)) := rfl
theorem catO_cl {n : Nat} (h : μ[n]? = some (some (.list xs))) : catO μ (.loc n) (.list ys) = chk (decide (xs.length + ys.length ≤ sizeLine)) (.list (xs ++ ys)) := by simp [catO, seqL, h]
theorem gAdd_cl {n : Nat} (h : μ[n]? = some (some (.list xs))) : gAdd μ (.loc n) (.list ys) = chk (decide (xs.length + ys.length ≤ sizeLine)) (.list (xs ++ ys)) := by simp [gAdd, seqL, h]
theorem gAppend_c {n : Nat} (h : μ[n]? = some (some (.list xs))) (hl : xs.length < sizeLine) : gAppend μ (.loc n) [x] = some (.none, μ.set n (some (.list (xs ++ [x])))) := by simp [gAppend, h, hl]
theorem isTy_list {n : Nat} (h : μ[n]? = some (some (.list xs))) : isTy μ "list" (.loc n) = true := by simp [isTy, seqL, h]
theorem catO_last : catO (μ ++ [some (.list xs)]) (.loc μ.length) (.list ys) = chk (decide (xs.length + ys.length ≤ sizeLine)) (.list (xs ++ ys)) := catO_cl (by simp)
theorem gAdd_last : gAdd (μ ++ [some (.list xs)]) (.loc μ.length) (.list ys) = chk (decide (xs.length + ys.length ≤ sizeLine)) (.list (xs ++ ys)) := gAdd_cl (by simp)
theorem gAppend_last (hl : xs.length < sizeLine) : gAppend (μ ++ [some (.list xs)]) (.loc μ.length) [x] = some (.none, μ ++ [some (.list (xs ++ [x]))]) := by
  rw [gAppend_c (xs := xs) (by simp) hl]
  simp
theorem isTy_last : isTy (μ ++ [some (.list xs)]) "list" (.loc μ.length) = true := isTy_list (xs := xs) (by simp)
theorem size_lt {n : Nat} (h : n ≤ 999) : (n < sizeLine) = True := eq_true (Nat.lt_of_le_of_lt h (by decide))
theorem mergeD_1 {k : Key} {d : D} : mergeD [(k, d)] = [(k, d)] := rfl
theorem mergeD_2 {k k' : Key} {d d' : D} (h : k ≠ k') : mergeD [(k, d), (k', d')] = [(k, d), (k', d')] := by
  show putD [(k, d)] k' d' = _
  unfold putD
  rw [if_neg (by simpa using h)]
  rfl
theorem gSub_ii : gSub μ (.int i) (.int j) = some (.int (i - j)) := rfl
theorem gMul_ii : gMul μ (.int i) (.int j) = chk (mulOk i j) (.int (i * j)) := rfl
theorem gMul_si : gMul μ (.str s) (.int j) = chk (decide (0 ≤ j) && decide (j ≤ 1000) && decide (s.length ≤ 1000)) (.str (strRep s j.toNat)) := rfl
theorem gMul_li : gMul μ (.list xs) (.int j) = chk (decide (-(2 ^ 63) ≤ j) && decide (j < 2 ^ 63) && decide (xs.length * j.toNat ≤ sizeLine)) (.list (List.replicate j.toNat xs).flatten) := rfl
theorem gDiv_ii : gDiv μ (.int i) (.int j) = chk (decide (0 < j) && decide (j < 1073741824)) (.int (i / j)) := rfl
theorem gMod_ii : gMod μ (.int i) (.int j) = chk (decide (0 < j)) (.int (i % j)) := rfl
theorem gPow_ii : gPow μ (.int i) (.int j) = chk (decide (0 ≤ j) && decide (j ≤ 1000000) && (decide (-18446744073709551616 < i) && decide (i < 18446744073709551616))) (.int (i ^ j.toNat)) := by
  have : decide (i.natAbs < 2 ^ 64) = (decide (-18446744073709551616 < i) && decide (i < 18446744073709551616)) := by
    rw [Bool.eq_iff_iff]; simp only [Bool.and_eq_true, decide_eq_true_eq]; omega
  rw [← this]; rfl
theorem gNeg_i : gNeg μ (.int i) = some (.int (-i)) := rfl
theorem gLt_ii : gLt μ (.int i) (.int j) = some (.bool (decide (i < j))) := rfl
theorem gLe_ii : gLe μ (.int i) (.int j) = some (.bool (decide (i ≤ j))) := rfl
theorem gGt_ii : gGt μ (.int i) (.int j) = some (.bool (decide (j < i))) := rfl
theorem gGe_ii : gGe μ (.int i) (.int j) = some (.bool (decide (j ≤ i))) := rfl
theorem gIs_n : gIs μ x .none = some (.bool (isNone x)) := rfl
theorem gIsNot_n : gIsNot μ x .none = some (.bool (!isNone x)) := rfl
theorem gIs_b : gIs μ (.bool b) (.bool c) = some (.bool (decide (b = c))) := rfl
theorem gIsNot_b : gIsNot μ (.bool b) (.bool c) = some (.bool (!decide (b = c))) := rfl
theorem gAbs_i : gAbs μ [.int i] = some (.int (if i < 0 then -i else i)) := rfl
theorem gMax2_ii : gMax2 μ [.int i, .int j] = some (.int (if j > i then j else i)) := rfl
theorem gMin2_ii : gMin2 μ [.int i, .int j] = some (.int (if j < i then j else i)) := rfl
theorem gLen_s : gLen μ [.str s] = chk (decide (s.length ≤ sizeLine)) (.int s.length) := rfl
theorem gLen_l : gLen μ [.list xs] = some (.int xs.length) := rfl
theorem gLen_t : gLen μ [.tuple xs] = some (.int xs.length) := rfl
theorem gLen_d {kvs : List (Key × D)} : gLen μ [.dict kvs] = some (.int kvs.length) := rfl
theorem gLen_r {ns : List Int} : gLen μ [.script ns] = some (.int ns.length) := by simp [gLen, dctV, seqR]
theorem gIx_l : gIx μ (.list xs) (.int i) = atI xs i := rfl
theorem gIx_t : gIx μ (.tuple xs) (.int i) = atI xs i := rfl
theorem gIx_s : gIx μ (.str s) (.int i) = if s.length ≤ sizeLine then (atI s.cps.toList i).map fun c => .str ⟨#[c]⟩ else none := rfl
theorem gIx_d {kvs : List (Key × D)} : gIx μ (.dict kvs) x = (keyOf x).bind (getK kvs) := rfl
theorem gIx_r {ns : List Int} : gIx μ (.script ns) (.int i) = atI (ns.map .int) i := rfl
theorem gIx_c {n : Nat} (h : μ[n]? = some (some (.list xs))) : gIx μ (.loc n) (.int i) = atI xs i := by simp [gIx, dctV, seqR, h]
theorem gIx_k {n : Nat} {kvs : List (Key × D)} (h : μ[n]? = some (some (.dict kvs))) : gIx μ (.loc n) x = (keyOf x).bind (getK kvs) := by simp [gIx, dctV, h]
theorem gList_d {kvs : List (Key × D)} : gList μ [.dict kvs] = some (.list (kvs.map fun kv => keyD kv.1)) := rfl
theorem gList_l : gList μ [.list xs] = some (.list xs) := rfl
theorem gList_t : gList μ [.tuple xs] = some (.list xs) := rfl
theorem gDict_d {kvs : List (Key × D)} : gDict μ [.dict kvs] = some (.dict kvs) := rfl
theorem gTuple_t : gTuple μ [.tuple xs] = some (.tuple xs) := rfl
theorem gTuple_l : gTuple μ [.list xs] = some (.tuple xs) := rfl
theorem gIn_l : gIn μ x (.list xs) = (chk (isData 60 (resD μ x) && areData 59 xs) (xs.any fun z => deq z (resD μ x))).map .bool := rfl
theorem gIn_t : gIn μ x (.tuple xs) = (chk (isData 60 (resD μ x) && areData 59 xs) (xs.any fun z => deq z (resD μ x))).map .bool := rfl
theorem gIn_d {kvs : List (Key × D)} : gIn μ x (.dict kvs) = ((keyOf x).map fun k => (getK kvs k).isSome).map .bool := rfl
theorem atI_nat {τ : Type} {zs : List τ} {k : Nat} : atI zs (k : Int) = zs[k]? := by
  unfold atI ixN
  simp only [Int.natCast_nonneg, if_true, Int.toNat_natCast]
  by_cases h : k < zs.length
  · rw [if_pos (by omega)]; rfl
  · rw [if_neg (by omega), List.getElem?_eq_none (by omega)]; rfl
theorem atI_0 {τ : Type} {z : τ} {zs : List τ} : atI (z :: zs) 0 = some z := atI_nat (k := 0)
theorem atI_1 {τ : Type} {z z1 : τ} {zs : List τ} : atI (z :: z1 :: zs) 1 = some z1 := atI_nat (k := 1)
theorem atI_2 {τ : Type} {z z1 z2 : τ} {zs : List τ} : atI (z :: z1 :: z2 :: zs) 2 = some z2 := atI_nat (k := 2)
theorem atI_3 {τ : Type} {z z1 z2 z3 : τ} {zs : List τ} : atI (z :: z1 :: z2 :: z3 :: zs) 3 = some z3 := atI_nat (k := 3)
theorem atI_mem {τ : Type} {zs : List τ} {i : Int} (h0 : 0 ≤ i) (h1 : i < zs.length) : ∃ z, atI zs i = some z ∧ zs[i.toNat]? = some z := by
  obtain ⟨k, rfl⟩ := Int.eq_ofNat_of_zero_le h0
  have hk : k < zs.length := by omega
  refine ⟨zs[k], ?_, ?_⟩
  · show atI zs (k : Int) = _
    rw [atI_nat, List.getElem?_eq_getElem hk]
  · simp [hk]
theorem W_congr {τ : Type} {r : Res τ} {P Q : τ → Mu → Prop} (h : ∀ d μ, P d μ ↔ Q d μ) : W r P ↔ W r Q := by
  cases r with
  | ok d μ => exact h d μ
  | ex x μ => exact Iff.rfl
  | bad => exact Iff.rfl
theorem W_sub {fo fi fe : FE} {ρ : Env} {P : Flow → Mu → Prop} : W (sSub fo fi fe ρ μ) P ↔ W (fe ρ μ) fun d μ1 => W (fo ρ μ1) fun o μ2 => W (fi ρ μ2) fun k μ3 => ∃ μ4, setV μ3 o k d = some μ4 ∧ P (.nx ρ) μ4 := by
  unfold sSub
  simp only [W_bind]
  refine W_congr fun d μ1 => W_congr fun o μ2 => W_congr fun k μ3 => ?_
  cases setV μ3 o k d <;> simp [W]
theorem W_must {c : Prop} {X : Prop} : ((c → X) ∧ (¬ c → False)) ↔ c ∧ X := ⟨fun ⟨h1, h2⟩ => have hc : c := Classical.byContradiction h2
  ⟨hc, h1 hc⟩, fun ⟨h1, h2⟩ => ⟨fun _ => h2, fun h => h h1⟩⟩
theorem mulOk_r (h1 : -18446744073709551616 < j) (h2 : j < 18446744073709551616) : (mulOk i j = true) = True := by
  simp only [mulOk, eq_iff_iff, iff_true, Bool.or_eq_true, Bool.and_eq_true, decide_eq_true_eq]
  exact .inr ⟨h1, h2⟩
theorem mulOk_l (h1 : -18446744073709551616 < i) (h2 : i < 18446744073709551616) : (mulOk i j = true) = True := by
  simp only [mulOk, eq_iff_iff, iff_true, Bool.or_eq_true, Bool.and_eq_true, decide_eq_true_eq]
  exact .inl ⟨h1, h2⟩
theorem size_lit {n : Nat} (h : n ≤ 1000) : (n ≤ sizeLine) = True := eq_true (Nat.le_trans h (by decide))
theorem some_ex {x : Mu} {P : Mu → Prop} : (∃ y, some x = some y ∧ P y) ↔ P x := ⟨fun ⟨y, e, h⟩ => by cases e; exact h, fun h => ⟨x, rfl, h⟩⟩
end
/-- on with k, if so -/
def thenB (z : D) (μ : Mu) (k : Mu → Res D) : Res D := match z with
  | .bool true => k μ
  | .bool false => .ok (.bool false) μ
  | _ => .bad
theorem thenB_b {b : Bool} {μ : Mu} {k : Mu → Res D} {P : D → Mu → Prop} : W (thenB (.bool b) μ k) P ↔ (b = true → W (k μ) P) ∧ (b = false → P (.bool false) μ) := by
  cases b <;> simp [thenB, W]
theorem thenB_ok {b c : Bool} {μ : Mu} : thenB (.bool b) μ (fun μ => .ok (.bool c) μ) = .ok (.bool (b && c)) μ := by
  cases b <;> rfl
theorem W_chain {g g' : G2} {fa fb fc : FE} {ρ : Env} {μ : Mu} {P : D → Mu → Prop} : W (eChain g g' fa fb fc ρ μ) P ↔ W (fa ρ μ) fun x μ1 => W (fb ρ μ1) fun y μ2 => W (ofO (g μ2 x y) μ2) fun z μ3 => W (thenB z μ3 fun μ3 => (fc ρ μ3).bind fun w μ4 => ofO (g' μ4 y w) μ4) P := by
  unfold eChain
  simp only [W_bind]
  exact Iff.rfl
mutual
theorem okLoc_up {n m : Nat} (hn : n ≤ m) : ∀ (d : D), okLoc n d = true → okLoc m d = true
  | .list xs, h => by simp only [okLoc] at h ⊢; exact okLocs_up hn xs h
  | .tuple xs, h => by simp only [okLoc] at h ⊢; exact okLocs_up hn xs h
  | .dict xs, h => by simp only [okLoc] at h ⊢; exact okLocK_up hn xs h
  | .obj _ xs, h => by simp only [okLoc] at h ⊢; exact okLocF_up hn xs h
  | .loc i, h => by simp only [okLoc, decide_eq_true_eq] at h ⊢; omega
  | .none, _ => rfl
  | .bool _, _ => rfl
  | .int _, _ => rfl
  | .str _, _ => rfl
  | .fn _, _ => rfl
  | .script _, _ => rfl
  | .ty _, _ => rfl
  | .exc _ xs, h => by simp only [okLoc] at h ⊢; exact okLocF_up hn xs h
theorem okLocs_up {n m : Nat} (hn : n ≤ m) : ∀ (d : List D), okLocs n d = true → okLocs m d = true
  | [], _ => rfl
  | x :: xs, h => by simp only [okLocs, Bool.and_eq_true] at h ⊢; exact ⟨okLoc_up hn x h.1, okLocs_up hn xs h.2⟩
theorem okLocK_up {n m : Nat} (hn : n ≤ m) : ∀ (d : List (Key × D)), okLocK n d = true → okLocK m d = true
  | [], _ => rfl
  | (_, x) :: xs, h => by simp only [okLocK, Bool.and_eq_true] at h ⊢; exact ⟨okLoc_up hn x h.1, okLocK_up hn xs h.2⟩
theorem okLocF_up {n m : Nat} (hn : n ≤ m) : ∀ (d : List (Str × D)), okLocF n d = true → okLocF m d = true
  | [], _ => rfl
  | (_, x) :: xs, h => by simp only [okLocF, Bool.and_eq_true] at h ⊢; exact ⟨okLoc_up hn x h.1, okLocF_up hn xs h.2⟩
end
theorem okLocs_mem {n : Nat} : ∀ {xs : List D} {d : D}, okLocs n xs = true → d ∈ xs → okLoc n d = true
  | x :: xs, d, h, hd => by
    simp only [okLocs, Bool.and_eq_true] at h
    rcases List.mem_cons.mp hd with rfl | hd
    · exact h.1
    · exact okLocs_mem h.2 hd
theorem okLocs_of {n : Nat} : ∀ {xs : List D}, (∀ d ∈ xs, okLoc n d = true) → okLocs n xs = true
  | [], _ => rfl
  | x :: xs, h => by simp only [okLocs, Bool.and_eq_true]; exact ⟨h x (List.mem_cons_self ..), okLocs_of fun d hd => h d (List.mem_cons_of_mem _ hd)⟩
theorem okLocK_of {n : Nat} : ∀ {xs : List (Key × D)}, (∀ kv ∈ xs, okLoc n kv.2 = true) → okLocK n xs = true
  | [], _ => rfl
  | (_, x) :: xs, h => by simp only [okLocK, Bool.and_eq_true]; exact ⟨h _ (List.mem_cons_self ..), okLocK_of fun d hd => h d (List.mem_cons_of_mem _ hd)⟩
/-- a def that has drawn only ends with a value that names no cell -/
theorem W_retD {n : Nat} {μ μ' : Mu} {d : D} {P : D → Mu → Prop} (x : Dr n μ μ') (hd : okLoc 0 d = true) (h : P d μ') : W (retV μ μ' d) P := by
  have hc := x.chk μ.length []
  rw [List.append_nil] at hc
  refine W_ret hc (okLoc_up (Nat.zero_le _) d hd) ?_
  rw [take_self x.len]
  exact h
/-- a def that has changed nothing -/
theorem W_ret0 {μ : Mu} {d : D} {P : D → Mu → Prop} (hd : okLoc 0 d = true) (h : P d μ) : W (retV μ μ d) P := by
  have hc := chkMu_self μ []
  rw [List.append_nil] at hc
  refine W_ret hc (okLoc_up (Nat.zero_le _) d hd) ?_
  rw [List.take_length]
  exact h
/-- a def that has only made cells of its own -/
theorem W_retA {μ ex : Mu} {d : D} {P : D → Mu → Prop} (hd : okLoc 0 d = true) (h : P d μ) : W (retV μ (μ ++ ex) d) P := by
  refine W_ret (chkMu_self μ ex) (okLoc_up (Nat.zero_le _) d hd) ?_
  rw [List.take_left]
  exact h
end TL

set_option Elab.async false
set_option maxRecDepth 100000
set_option maxHeartbeats 1000000
set_option linter.all false
/-! The tree layer, part o: the things that the laws of this program draw: kinds, lines. -/
namespace TL
open PySem PySem.Spec PyProof.Rows L2

/-! ### stores that end with own cells -/
theorem FeedAt.app {n : Nat} {μ : Mu} (h : FeedAt n μ) (ex : Mu) : FeedAt n (μ ++ ex) := by
  obtain ⟨a, b, h⟩ := h
  exact ⟨a, b, by rw [List.getElem?_append_left (List.getElem?_eq_some_iff.mp h).1]; exact h⟩
theorem Dr.snoc {n : Nat} {μ ex μ' : Mu} (x : Dr n (μ ++ ex) μ') (h : n < μ.length) : ∃ ν, μ' = ν ++ ex ∧ Dr n μ ν := by
  obtain ⟨a, b, rfl⟩ := x
  exact ⟨μ.set n (some (.list [.int a, .int b])), by rw [List.set_append_left _ _ h], a, b, rfl⟩
theorem get_last {μ : Mu} {c : Option Cell} {m : Nat} (h : m = μ.length) : (μ ++ [c])[m]? = some c := by
  subst h; simp
theorem set_last {μ : Mu} {c d : Option Cell} {m : Nat} (h : m = μ.length) : (μ ++ [c]).set m d = μ ++ [d] := by
  subst h; simp
theorem setV_dict {μ : Mu} {kvs : List (Key × D)} {m : Nat} {i d : D} {k : Key} (hk : keyOf i = some k) (hl : kvs.length < sizeLine) (h : m = μ.length) : setV (μ ++ [some (.dict kvs)]) (.loc m) i d = some (μ ++ [some (.dict (putD kvs k d))]) := by
  simp only [setV, get_last h, if_pos hl, hk, Option.map_some, set_last h]
theorem rangeD_get {i : Int} {n k : Nat} {x : D} (h : (rangeD i n)[k]? = some x) : k < n ∧ x = .int (i + (k : Nat)) := by
  unfold rangeD at h
  rw [List.getElem?_map] at h
  obtain ⟨j, h1, rfl⟩ := Option.map_eq_some_iff.mp h
  obtain ⟨q1, q2⟩ := List.getElem?_eq_some_iff.mp h1
  simp at q1 q2
  subst q2
  exact ⟨q1, rfl⟩
theorem rangeD_len {i : Int} {n : Nat} : (rangeD i n).length = n := by simp [rangeD]
theorem rng_small {i : Int} {n : Nat} (h : n ≤ 1000) : rng i n = some ⟨rangeD i n, yes⟩ := if_pos (Nat.le_trans h (by decide))
theorem isIn62_small {i : Int} (h1 : -1000000000 ≤ i) (h2 : i ≤ 1000000000) : isIn62 i = true := by
  unfold isIn62
  simp only [Bool.and_eq_true, decide_eq_true_eq]
  omega
/-! ### names -/
/-- small letters, one to eight -/
structure NmOk (s : Str) : Prop where
  low : ∀ c ∈ s.cps.toList, 97 ≤ c ∧ c ≤ 122
  pos : 1 ≤ s.length
  len : s.length ≤ 8
theorem length_cps (s : Str) : s.length = s.cps.toList.length := by simp [Str.length]
theorem cps_append (s t : Str) : (s ++ t).cps.toList = s.cps.toList ++ t.cps.toList := Array.toList_append
theorem length_append (s t : Str) : (s ++ t).length = s.length + t.length := by simp [length_cps, cps_append]
theorem cps_rep (s : Str) (n : Nat) : (strRep s n).cps.toList = (List.replicate n s.cps.toList).flatten := rfl
theorem NmOk.show {s : Str} (h : NmOk s) : strShow s = true := by
  unfold strShow
  simp only [List.all_eq_true, decide_eq_true_eq]
  intro c hc
  have := (h.low c hc).2
  exact Nat.lt_of_le_of_lt this (by decide)
structure Kd where
  n : Str
  lo : Int
  hi : Int
structure Ln where
  t : Int
  k : Option Str
  p : Option Str
def optD : Option Str → D
  | none => .none
  | some s => .str s
def Kd.e (k : Kd) : Key × D := (.inr k.n, .tuple [.int k.lo, .int k.hi])
def kindsD (ks : List Kd) : D := .dict (ks.map Kd.e)
def Ln.d (l : Ln) : D := .tuple [.int l.t, optD l.k, optD l.p]
def linesD (ls : List Ln) : D := .list (ls.map Ln.d)
structure KdOk (k : Kd) : Prop where
  nm : NmOk k.n
  lo : 0 ≤ k.lo
  le : k.lo ≤ k.hi
  hi : k.hi ≤ 1000000
structure KsOk (ks : List Kd) : Prop where
  len : ks.length ≤ 8
  nd : (ks.map (·.n)).Nodup
  ok : ∀ k ∈ ks, KdOk k
theorem getK_cons {k k' : Key} {d : D} {kvs : List (Key × D)} : getK ((k', d) :: kvs) k = if k' = k then some d else getK kvs k := by
  unfold getK
  rw [List.find?_cons]
  by_cases h : k' = k <;> simp [h]
theorem getK_kinds : ∀ {ks : List Kd} {k : Kd}, (ks.map (·.n)).Nodup → k ∈ ks → getK (ks.map Kd.e) (.inr k.n) = some (.tuple [.int k.lo, .int k.hi])
  | q :: ks, k, hn, hk => by
    rw [List.map_cons, Kd.e, getK_cons]
    rw [List.map_cons, List.nodup_cons] at hn
    rcases List.mem_cons.mp hk with e | hk
    · subst e; rw [if_pos rfl]
    · have : ¬ (Sum.inr q.n : Key) = .inr k.n := fun h => hn.1 (List.mem_map.mpr ⟨k, hk, (Sum.inr.inj h).symm⟩)
      rw [if_neg this]
      exact getK_kinds hn.2 hk
/-- a kind written into the table -/
def putKd (ks : List Kd) (k : Kd) : List Kd := if (ks.any fun q => decide (q.n = k.n)) = true then ks.map (fun q => if q.n = k.n then k else q) else ks ++ [k]
theorem putD_kinds (ks : List Kd) (k : Kd) : putD (ks.map Kd.e) (.inr k.n) (.tuple [.int k.lo, .int k.hi]) = (putKd ks k).map Kd.e := by
  unfold putD putKd
  have e : ((ks.map Kd.e).any fun kv => decide (kv.1 = .inr k.n)) = ks.any fun q => decide (q.n = k.n) := by
    rw [List.any_map]
    congr 1
    funext q
    simp [Kd.e]
  rw [e]
  split
  · rw [List.map_map, List.map_map]
    apply List.map_congr_left
    intro q _
    simp only [Function.comp]
    by_cases h : q.n = k.n
    · rw [if_pos (by simp [Kd.e, h]), if_pos h]; simp [Kd.e, h]
    · rw [if_neg (by simpa [Kd.e] using h), if_neg h]
  · simp [Kd.e]
theorem putKd_ok {ks : List Kd} {k : Kd} {n : Nat} (h : (ks.map (·.n)).Nodup ∧ ks.length ≤ n ∧ ∀ q ∈ ks, KdOk q) (hk : KdOk k) : ((putKd ks k).map (·.n)).Nodup ∧ (putKd ks k).length ≤ n + 1 ∧ (∀ q ∈ putKd ks k, KdOk q) ∧ putKd ks k ≠ [] := by
  obtain ⟨h1, h2, h3⟩ := h
  unfold putKd
  split
  · rename_i ha
    refine ⟨?_, by rw [List.length_map]; omega, fun q hq => ?_, fun e => ?_⟩
    · rw [List.map_map]
      have : (ks.map ((fun q => q.n) ∘ fun q => if q.n = k.n then k else q)) = ks.map (·.n) := by
        apply List.map_congr_left
        intro q _
        simp only [Function.comp]
        split
        · rename_i e; exact e.symm
        · rfl
      rw [this]; exact h1
    · obtain ⟨p, hp, rfl⟩ := List.mem_map.mp hq
      split
      · exact hk
      · exact h3 p hp
    · rw [List.map_eq_nil_iff] at e
      subst e
      simp at ha
  · rename_i ha
    refine ⟨?_, by rw [List.length_append]; simp; omega, fun q hq => ?_, by simp⟩
    · rw [List.map_append, List.map_cons, List.map_nil]
      refine List.nodup_append.mpr ⟨h1, by simp, fun a ha' b hb => ?_⟩
      obtain rfl := List.mem_singleton.mp hb
      obtain ⟨q, hq, rfl⟩ := List.mem_map.mp ha'
      intro e
      exact ha (List.any_eq_true.mpr ⟨q, hq, by simp [e]⟩)
    · rcases List.mem_append.mp hq with hq | hq
      · exact h3 q hq
      · obtain rfl := List.mem_singleton.mp hq; exact hk
theorem okLoc_kinds {ks : List Kd} {n : Nat} : okLoc n (kindsD ks) = true := by
  unfold kindsD okLoc
  exact okLocK_of fun kv hkv => by
    obtain ⟨k, _, rfl⟩ := List.mem_map.mp hkv
    simp [Kd.e, okLoc, okLocs]
theorem okLoc_opt {o : Option Str} {n : Nat} : okLoc n (optD o) = true := by cases o <;> rfl
theorem okLoc_line {l : Ln} {n : Nat} : okLoc n l.d = true := by simp [Ln.d, okLoc, okLocs, okLoc_opt]
/-- a plate: digits and capitals, one to eight -/
structure PlOk (s : Str) : Prop where
  low : ∀ c ∈ s.cps.toList, (48 ≤ c ∧ c ≤ 57) ∨ (65 ≤ c ∧ c ≤ 90)
  pos : 1 ≤ s.length
  len : s.length ≤ 8
theorem PlOk.show {s : Str} (h : PlOk s) : strShow s = true := by
  unfold strShow
  simp only [List.all_eq_true, decide_eq_true_eq]
  intro c hc
  have : c ≤ 90 := by have := h.low c hc; omega
  exact Nat.lt_of_le_of_lt this (by decide)
structure LnOk (ks : List Kd) (l : Ln) : Prop where
  k : l.k = none ∨ ∃ q ∈ ks, l.k = some q.n
  p : ∀ s, l.p = some s → PlOk s
theorem walked_d {μ : Mu} {kvs : List (Key × D)} : walked μ (.dict kvs) = some ⟨kvs.map fun kv => keyD kv.1, yes⟩ := rfl
theorem walked_l {μ : Mu} {xs : List D} : walked μ (.list xs) = some ⟨xs, yes⟩ := rfl
theorem walked_t {μ : Mu} {xs : List D} : walked μ (.tuple xs) = some ⟨xs, yes⟩ := rfl
def namesD (ks : List Kd) : List D := ks.map fun k => .str k.n
theorem keys_kinds (ks : List Kd) : ((ks.map Kd.e).map fun kv => keyD kv.1) = namesD ks := by
  unfold namesD
  rw [List.map_map]
  rfl
theorem namesD_get {ks : List Kd} {i : Nat} {x : D} (h : (namesD ks)[i]? = some x) : ∃ k, ks[i]? = some k ∧ x = .str k.n := by
  unfold namesD at h
  rw [List.getElem?_map] at h
  obtain ⟨k, h1, rfl⟩ := Option.map_eq_some_iff.mp h
  exact ⟨k, h1, rfl⟩
theorem namesD_mem {ks : List Kd} {x : D} (h : x ∈ namesD ks) : ∃ k ∈ ks, x = .str k.n := by
  obtain ⟨k, h1, rfl⟩ := List.mem_map.mp h
  exact ⟨k, h1, rfl⟩
theorem namesD_len {ks : List Kd} : (namesD ks).length = ks.length := by simp [namesD]
theorem okLocs_names {ks : List Kd} {n : Nat} : okLocs n (namesD ks) = true := okLocs_of fun d hd => by
  obtain ⟨k, _, rfl⟩ := namesD_mem hd
  rfl
/-! ### what fits -/
def ableB (o : Option Str) (n : Str) : Bool := match o with
  | none => true
  | some s => n == s
def clashB (a b : Option Str) : Bool := match a, b with
  | some s, some t => !(s == t)
  | _, _ => false
def fitK (e x : Ln) (k : Kd) : Bool := ableB e.k k.n && ableB x.k k.n && (decide (k.lo ≤ x.t - e.t) && decide (x.t - e.t ≤ k.hi))
def fitB (ks : List Kd) (e x : Ln) : Bool := !clashB e.p x.p && ks.any (fitK e x)
theorem resD_opt {μ : Mu} {o : Option Str} : resD μ (optD o) = optD o := by cases o <;> rfl
theorem isData_opt {n : Nat} {o : Option Str} : isData n (optD o) = true := by cases o <;> simp [optD, isData]
theorem gIn_able {μ : Mu} {o : Option Str} {n : Str} : gIn μ (optD o) (.tuple [.none, .str n]) = some (.bool (ableB o n)) := by
  rw [gIn_t, resD_opt, isData_opt]
  cases o <;> simp [areData, isData, chk, deq, optD, ableB]
theorem gIn_ableL {μ : Mu} {o : Option Str} {n : Str} : gIn μ (optD o) (.list [.none, .str n]) = some (.bool (ableB o n)) := by
  rw [gIn_l, resD_opt, isData_opt]
  cases o <;> simp [areData, isData, chk, deq, optD, ableB]
theorem isNone_opt {o : Option Str} : isNone (optD o) = o.isNone := by cases o <;> rfl
theorem gNe_opt {μ : Mu} {a b : Option Str} : gNe μ (optD a) (optD b) = some (.bool (!deq (optD a) (optD b))) := by
  unfold gNe
  rw [resD_opt, resD_opt, isData_opt, isData_opt]
  rfl
theorem gEq_opt {μ : Mu} {a b : Option Str} : gEq μ (optD a) (optD b) = some (.bool (deq (optD a) (optD b))) := by
  unfold gEq
  rw [resD_opt, resD_opt, isData_opt, isData_opt]
  rfl
theorem clash_iff {a b : Option Str} : ((!a.isNone) = true ∧ (!b.isNone) = true ∧ (!deq (optD a) (optD b)) = true) ↔ clashB a b = true := by
  cases a <;> cases b <;> simp [clashB, optD, deq]
theorem fitK_iff {e x : Ln} {k : Kd} : fitK e x k = true ↔ ((ableB e.k k.n = true ∧ ableB x.k k.n = true) ∧ (k.lo ≤ x.t - e.t ∧ x.t - e.t ≤ k.hi)) := by
  simp only [fitK, Bool.and_eq_true, decide_eq_true_eq]
theorem gEq_ii {μ : Mu} {a b : Int} : gEq μ (.int a) (.int b) = some (.bool (a == b)) := by
  simp [gEq, resD, isData, chk, deq]
theorem gNe_ii {μ : Mu} {a b : Int} : gNe μ (.int a) (.int b) = some (.bool (!(a == b))) := by
  simp [gNe, resD, isData, chk, deq]
theorem gEq_bb {μ : Mu} {a b : Bool} : gEq μ (.bool a) (.bool b) = some (.bool (a == b)) := by
  simp [gEq, resD, isData, chk, deq]
theorem gNe_bb {μ : Mu} {a b : Bool} : gNe μ (.bool a) (.bool b) = some (.bool (!(a == b))) := by
  simp [gNe, resD, isData, chk, deq]
theorem gEq_ss {μ : Mu} {a b : Str} : gEq μ (.str a) (.str b) = some (.bool (a == b)) := by
  simp [gEq, resD, isData, chk, deq]
theorem gNe_ss {μ : Mu} {a b : Str} : gNe μ (.str a) (.str b) = some (.bool (!(a == b))) := by
  simp [gNe, resD, isData, chk, deq]
theorem gIsi_bool {μ : Mu} {b : Bool} : gIsi μ [.bool b, .ty "bool"] = some (.bool true) := by rfl
def plateOf : D → D
  | .tuple [_, _, p] => p
  | _ => .none
theorem any_take {τ : Type} {p : τ → Bool} {xs : List τ} {i : Nat} {x : τ} (h : xs[i]? = some x) : (xs.take (i + 1)).any p = ((xs.take i).any p || p x) := by
  rw [List.take_add_one, h]
  simp
theorem any_of {τ : Type} {p : τ → Bool} {xs : List τ} {i : Nat} {x : τ} (h : xs[i]? = some x) (hp : p x = true) : xs.any p = true := List.any_eq_true.mpr ⟨x, List.mem_of_getElem? h, hp⟩
/-! ### what repr shows -/
structure LnS (l : Ln) : Prop where
  t0 : 0 ≤ l.t
  t1 : l.t ≤ 2000000000
  k : ∀ s, l.k = some s → NmOk s
  p : ∀ s, l.p = some s → PlOk s
theorem LnOk.s {ks : List Kd} {l : Ln} (h : LnOk ks l) (hk : KsOk ks) (t0 : 0 ≤ l.t) (t1 : l.t ≤ 2000000000) : LnS l := ⟨t0, t1, fun s e => by
  rcases h.k with q | ⟨k, hk', q⟩
  · rw [e] at q; cases q
  · rw [e] at q; cases q; exact (hk.ok k hk').nm, h.p⟩
theorem intShow_small {i : Int} (h1 : -2000000000 ≤ i) (h2 : i ≤ 2000000000) : intShow i = true := by
  unfold intShow
  simp only [decide_eq_true_eq]
  omega
theorem show_optK {o : Option Str} (h : ∀ s, o = some s → strShow s = true) (n : Nat) : isShow n (optD o) = true := by
  cases o with
  | none => simp [optD, isShow]
  | some s => simpa [optD, isShow] using h s rfl
theorem wt_opt {o : Option Str} {b : Nat} (h : ∀ s, o = some s → s.length ≤ b) : wt (optD o) ≤ b := by
  cases o with
  | none => simp [optD, wt]
  | some s => simpa [optD, wt] using h s rfl
theorem LnS.show {l : Ln} (h : LnS l) (n : Nat) : isShow (n + 1) l.d = true := by
  have a := intShow_small (i := l.t) (by have := h.t0; omega) h.t1
  have b := show_optK (fun s e => (h.k s e).show) n
  have c := show_optK (fun s e => (h.p s e).show) n
  simp [Ln.d, isShow, areShow, a, b, c]
theorem LnS.wt {l : Ln} (h : LnS l) : TL.wt l.d ≤ 60 := by
  have b := wt_opt (b := 8) fun s e => (h.k s e).len
  have c := wt_opt (b := 8) fun s e => (h.p s e).len
  simp only [Ln.d, TL.wt, wts]
  omega
theorem show_kinds {ks : List Kd} (h : ∀ k ∈ ks, KdOk k) (n : Nat) : isShow (n + 2) (kindsD ks) = true := by
  unfold kindsD
  simp only [isShow]
  induction ks with
  | nil => simp [areShowK]
  | cons k ks ih =>
    have hk := h k (List.mem_cons_self ..)
    have a := hk.nm.show
    have b := intShow_small (i := k.lo) (by have := hk.lo; omega) (by have := hk.le; have := hk.hi; omega)
    have c := intShow_small (i := k.hi) (by have := hk.lo; have := hk.le; omega) (by have := hk.hi; omega)
    simp only [List.map_cons, Kd.e, areShowK, keyShow, isShow, areShow, a, b, c, Bool.true_and, Bool.and_true]
    exact ih fun q hq => h q (List.mem_cons_of_mem _ hq)
theorem wt_kinds {ks : List Kd} (h : ∀ k ∈ ks, KdOk k) : TL.wt (kindsD ks) ≤ 100 * ks.length := by
  unfold kindsD
  simp only [TL.wt]
  induction ks with
  | nil => simp [wtK]
  | cons k ks ih =>
    have hk := (h k (List.mem_cons_self ..)).nm.len
    have := ih fun q hq => h q (List.mem_cons_of_mem _ hq)
    simp only [List.map_cons, Kd.e, wtK, keyWt, TL.wt, wts, List.length_cons]
    omega
theorem repr_l {μ : Mu} {xs : List D} (h1 : isShow 60 (.list xs) = true) (h2 : TL.wt (.list xs) ≤ 2 ^ 20) : gRepr μ [.list xs] = some (.str (toPyR (.list xs)).shown) := by
  simp only [gRepr, h1, Bool.true_and, decide_eq_true h2, chk, if_true]
theorem str_beq (a : Str) : (a == a) = true := by simp
/-! ### floors, logs, open lines -/
def flD : Option Int → D
  | none => .str "closed"
  | some i => .int i
def optI : Option Int → D
  | none => .none
  | some i => .int i
structure Lg where
  en : List Ln
  ex : List Ln
  f0 : Option Int
  f1 : Option Int
def Lg.d (g : Lg) : D := .tuple [linesD g.en, linesD g.ex, flD g.f0, flD g.f1]
theorem gEq_is {μ : Mu} {i : Int} {s : Str} : gEq μ (.int i) (.str s) = some (.bool false) := by
  simp [gEq, resD, isData, chk, deq]
theorem gNe_is {μ : Mu} {i : Int} {s : Str} : gNe μ (.int i) (.str s) = some (.bool true) := by
  simp [gNe, resD, isData, chk, deq]
theorem gNotIn_able {μ : Mu} {o : Option Str} {n : Str} : gNotIn μ (optD o) (.tuple [.none, .str n]) = some (.bool (!ableB o n)) := by
  have h := gIn_able (μ := μ) (o := o) (n := n)
  unfold gIn at h
  unfold gNotIn
  cases e : inD μ (optD o) (.tuple [.none, .str n]) with
  | none => rw [e] at h; cases h
  | some b => rw [e] at h; cases h; rfl
def tExit (f : Int) (l : Ln) (k : Kd) : Int := if l.t + k.lo > f then l.t + k.lo else f
def bExit (l : Ln) (k : Kd) : Int := if 1000000000 < l.t + k.hi then 1000000000 else l.t + k.hi
def mExit (f : Option Int) (l : Ln) (k : Kd) : Option Int := match f with
  | none => none
  | some f => if (!ableB l.k k.n) = true then none else if tExit f l k ≤ bExit l k then some (tExit f l k) else none
def mEntry (f : Option Int) (l : Ln) (k : Kd) : Option Int := match f with
  | none => none
  | some f => if ((!ableB l.k k.n) = true ∨ l.t - k.lo < f) then none else some (l.t - k.lo)
theorem mExit_some {f : Int} {l : Ln} {k : Kd} : mExit (some f) l k = if (!ableB l.k k.n) = true then none else if tExit f l k ≤ bExit l k then some (tExit f l k) else none := rfl
theorem mEntry_some {f : Int} {l : Ln} {k : Kd} : mEntry (some f) l k = if ((!ableB l.k k.n) = true ∨ l.t - k.lo < f) then none else some (l.t - k.lo) := rfl
def openEn (ks : List Kd) (f : Option Int) (l : Ln) : Bool := ks.any fun k => (mExit f l k).isSome
def openEx (ks : List Kd) (f : Option Int) (l : Ln) : Bool := ks.any fun k => (mEntry f l k).isSome
theorem isNone_optI {o : Option Int} : isNone (optI o) = o.isNone := by cases o <;> rfl
theorem lines_at {ls : List Ln} {i : Nat} {l : Ln} (h : ls[i]? = some l) {μ : Mu} : gIx μ (linesD ls) (.int (i : Nat)) = some l.d := by
  unfold linesD
  rw [gIx_l, atI_nat, List.getElem?_map, h]
  rfl
theorem lines_len {ls : List Ln} {μ : Mu} : gLen μ [linesD ls] = some (.int ls.length) := by
  unfold linesD
  rw [gLen_l, List.length_map]
/-- the places at which p holds -/
def placesD (ls : List Ln) (p : Ln → Bool) : List D := ((List.range ls.length).filter fun i => match ls[i]? with | some l => p l | none => false).map fun i => .int ((0 : Int) + (i : Nat))
theorem bools_of : ∀ (xs : List D) (f : D → Bool), bools (xs.map fun x => .bool (f x)) = some (xs.map f)
  | [], _ => rfl
  | x :: xs, f => by
    simp only [List.map_cons, bools, bools_of xs f]
    rfl
theorem able_or {o : Option Str} {n : Str} : (o.isNone || deq (optD o) (optD (some n))) = ableB o n := by
  cases o with
  | none => rfl
  | some s =>
    show (false || s == n) = (n == s)
    rw [Bool.false_or, Bool.eq_iff_iff]
    simp only [beq_iff_eq]
    exact eq_comm
theorem gEq_optS {μ : Mu} {a : Option Str} {n : Str} : gEq μ (optD a) (.str n) = some (.bool (deq (optD a) (optD (some n)))) := gEq_opt (b := some n)
/-- the law's own look: a time at which the partner may come -/
def hitB (en : Bool) (f : Int) (l : Ln) (k : Kd) (t : Int) : Bool := ((decide (k.lo ≤ if en = true then t - l.t else l.t - t) && decide ((if en = true then t - l.t else l.t - t) ≤ k.hi)) && (decide (f ≤ t) && decide (t ≤ 1000000000))) && ableB l.k k.n
def hitK (en : Bool) (f : Int) (l : Ln) (k : Kd) : Bool := hitB en f l k f || (hitB en f l k (l.t + k.lo) || (hitB en f l k (l.t - k.lo) || false))
theorem any_times {en : Bool} {f : Int} {l : Ln} {k : Kd} : ([f, l.t + k.lo, l.t - k.lo].any (hitB en f l k)) = hitK en f l k := rfl
theorem hitK_en {f : Int} {l : Ln} {k : Kd} : hitK true f l k = (mExit (some f) l k).isSome := by
  rw [Bool.eq_iff_iff]
  cases ha : ableB l.k k.n
  · simp [hitK, hitB, mExit_some, ha]
  · rw [mExit_some, ha]
    simp only [hitK, hitB, ha, List.any_cons, List.any_nil, Bool.or_false, Bool.and_true, ↓reduceIte, Bool.or_eq_true, Bool.and_eq_true, decide_eq_true_eq, Bool.not_true, Bool.false_eq_true]
    by_cases hc : tExit f l k ≤ bExit l k
    · rw [if_pos hc]
      simp only [Option.isSome_some, iff_true]
      unfold tExit bExit at hc
      split at hc <;> split at hc <;> omega
    · rw [if_neg hc]
      simp only [Option.isSome_none, Bool.false_eq_true, iff_false]
      unfold tExit bExit at hc
      split at hc <;> split at hc <;> omega
theorem hitK_ex {f : Int} {l : Ln} {k : Kd} (hk : k.lo ≤ k.hi) (h0 : 0 ≤ k.lo) (ht : l.t ≤ 1000000000) : hitK false f l k = (mEntry (some f) l k).isSome := by
  rw [Bool.eq_iff_iff]
  cases ha : ableB l.k k.n
  · simp [hitK, hitB, mEntry_some, ha]
  · rw [mEntry_some, ha]
    simp only [hitK, hitB, ha, List.any_cons, List.any_nil, Bool.or_false, Bool.and_true, ↓reduceIte, Bool.or_eq_true, Bool.and_eq_true, decide_eq_true_eq, Bool.not_true, Bool.false_eq_true, false_or, ↓reduceIte]
    by_cases hc : l.t - k.lo < f
    · rw [if_pos hc]
      simp only [Option.isSome_none, Bool.false_eq_true, iff_false]
      omega
    · rw [if_neg hc]
      simp only [Option.isSome_some, iff_true]
      omega
def placesTo (ls : List Ln) (p : Ln → Bool) (n : Nat) : List D := ((List.range n).filter fun i => match ls[i]? with | some l => p l | none => false).map fun i => .int ((0 : Int) + (i : Nat))
theorem placesTo_all {ls : List Ln} {p : Ln → Bool} : placesTo ls p ls.length = placesD ls p := rfl
theorem placesTo_succ {ls : List Ln} {p : Ln → Bool} {i : Nat} {l : Ln} (h : ls[i]? = some l) : placesTo ls p (i + 1) = if p l = true then placesTo ls p i ++ [.int (i : Nat)] else placesTo ls p i := by
  unfold placesTo
  rw [List.range_succ, List.filter_append, List.map_append]
  by_cases hp : p l = true
  · rw [if_pos hp]
    simp [List.filter_cons, h, hp]
  · rw [if_neg hp]
    simp [List.filter_cons, h, hp]
theorem placesTo_len {ls : List Ln} {p : Ln → Bool} {n : Nat} : (placesTo ls p n).length ≤ n := by
  unfold placesTo
  rw [List.length_map]
  exact Nat.le_trans (List.length_filter_le _ _) (by simp)
theorem placesTo_ok {ls : List Ln} {p : Ln → Bool} {n m : Nat} : okLocs m (placesTo ls p n) = true := okLocs_of fun d hd => by
  unfold placesTo at hd
  obtain ⟨i, _, rfl⟩ := List.mem_map.mp hd
  rfl
theorem enumD_lines {ls : List Ln} {i : Nat} {x : D} (h : (enumD (ls.map Ln.d))[i]? = some x) : ∃ l, ls[i]? = some l ∧ x = .tuple [.int (i : Nat), l.d] := by
  obtain ⟨e, h1, rfl⟩ := enumD_get h
  rw [List.getElem?_map] at h1
  obtain ⟨l, h2, rfl⟩ := Option.map_eq_some_iff.mp h1
  exact ⟨l, h2, rfl⟩
theorem show_ints {xs : List D} {n : Nat} (h : ∀ d ∈ xs, ∃ i : Int, d = .int i ∧ -2000000000 ≤ i ∧ i ≤ 2000000000) : isShow (n + 1) (.list xs) = true := by
  simp only [isShow]
  induction xs with
  | nil => simp [areShow]
  | cons x xs ih =>
    obtain ⟨i, rfl, a, b⟩ := h x (List.mem_cons_self ..)
    simp only [areShow, isShow, intShow_small a b, Bool.true_and]
    exact ih fun d hd => h d (List.mem_cons_of_mem _ hd)
theorem wt_ints {xs : List D} (h : ∀ d ∈ xs, ∃ i : Int, d = .int i) : TL.wt (.list xs) ≤ 42 * xs.length := by
  simp only [TL.wt]
  induction xs with
  | nil => simp [wts]
  | cons x xs ih =>
    obtain ⟨i, rfl⟩ := h x (List.mem_cons_self ..)
    have := ih fun d hd => h d (List.mem_cons_of_mem _ hd)
    simp only [wts, TL.wt, List.length_cons]
    omega
theorem repr_c {μ : Mu} {n : Nat} {xs : List D} (h : μ[n]? = some (some (.list xs))) (h1 : isShow 60 (.list xs) = true) (h2 : TL.wt (.list xs) ≤ 2 ^ 20) : gRepr μ [.loc n] = some (.str (toPyR (.list xs)).shown) := by
  simp only [gRepr, h, h1, Bool.true_and, decide_eq_true h2, chk, if_true]
theorem show_lines {ls : List Ln} (h : ∀ l ∈ ls, LnS l) (n : Nat) : isShow (n + 2) (linesD ls) = true := by
  unfold linesD
  simp only [isShow]
  induction ls with
  | nil => simp [areShow]
  | cons l ls ih =>
    simp only [List.map_cons, areShow, (h l (List.mem_cons_self ..)).show n, Bool.true_and]
    exact ih fun q hq => h q (List.mem_cons_of_mem _ hq)
theorem wt_lines {ls : List Ln} (h : ∀ l ∈ ls, LnS l) : TL.wt (linesD ls) ≤ 61 * ls.length := by
  unfold linesD
  simp only [TL.wt]
  induction ls with
  | nil => simp [wts]
  | cons l ls ih =>
    have a := (h l (List.mem_cons_self ..)).wt
    have := ih fun q hq => h q (List.mem_cons_of_mem _ hq)
    simp only [List.map_cons, wts, List.length_cons]
    omega
theorem show_fl {f : Option Int} (h : ∀ i, f = some i → 0 ≤ i ∧ i ≤ 2000000000) (n : Nat) : isShow n (flD f) = true := by
  cases f with
  | none => simp only [flD, isShow]; decide +kernel
  | some i =>
    have := h i rfl
    simp only [flD, isShow]
    exact intShow_small (by omega) this.2
theorem wt_fl {f : Option Int} : TL.wt (flD f) ≤ 41 := by
  cases f with
  | none => simp only [flD, TL.wt]; decide +kernel
  | some i => simp [flD, TL.wt]
end TL

set_option Elab.async false
set_option maxRecDepth 100000
set_option maxHeartbeats 2000000
set_option linter.all false
namespace TL
open PySem PySem.Spec PyProof.Rows L2
/-! isinstance with two types -/
section
variable {X : Cx}
theorem call_isi2 {P2 : List V → Hp → VK → Prop} (hP : ∀ xs H Q, P2 xs H Q → ∃ (x : V) (tp : Addr) (cs : List V) (t : Value) (us : List Value) (b : Bool), xs = [x, .ref tp] ∧ SqT X.K H tp cs ∧ Paired ClsV cs us ∧ TyX X.K H x t ∧ PySem.W.kitAny X.K t us = some b ∧ Q (.bl b) H) : CallR X (.builtin "isinstance") P2 := by
  intro pins s σ H xs us Q I r h
  obtain ⟨x, tp, cs, t, ws, b, rfl, hT, k, ty, e, q⟩ := hP _ _ _ h
  obtain ⟨u1, u2, rfl, r1, r2⟩ := vals2 r
  cases (show u2 = Value.ref tp from r2)
  obtain ⟨P, Z, p, hx⟩ := kit_of I r1 ty
  rcases hT with (hT | ⟨ob, hT⟩) | ⟨o, its, n, hk, hc, hd, _, rv⟩
  · obtain ⟨_, its, rv, o, h1, h2, n, h3⟩ := (show ObjOk X.prog X.w H s.heap tp (.tup cs) from I.hok tp _ hT)
    have e3 := ClsV.all k rv
    subst e3
    obtain ⟨oc, od, dt, sl⟩ := o
    simp only at h2 h3
    subst h2 h3
    exact PySem.W.kia_tup Z I.kIn p h1 e hx fun tk => ⟨.bl b, H, I.tok tk, rfl, q⟩
  · obtain ⟨_, _, its, rv, o, h1, h2, n, h3⟩ := (show ObjOk X.prog X.w H s.heap tp (.frz ob (.tup cs)) from I.hok tp _ hT)
    have e3 := ClsV.all k rv
    subst e3
    obtain ⟨oc, od, dt, sl⟩ := o
    simp only at h2 h3
    subst h2 h3
    exact PySem.W.kia_tup Z I.kIn p h1 e hx fun tk => ⟨.bl b, H, I.tok tk, rfl, q⟩
  · have e3 := ClsV.all k rv
    subst e3
    obtain ⟨oc, od, dt, sl⟩ := o
    simp only at hc hd
    subst hc hd
    refine PySem.W.kia_tup Z I.kIn p (?_ : s.heap.get? tp = some ⟨.type "tuple", od, .seq (its.toList).toArray n, sl⟩) e hx fun tk => ⟨.bl b, H, I.tok tk, rfl, q⟩
    rw [Array.toArray_toList]
    exact I.kIn _ _ hk
def gIsi2 : GL := fun μ ds => match ds with
  | [x, .tuple [.ty S, .ty T]] => if S ∈ (["int", "bool", "str", "list", "tuple", "dict"] : List String) ∧ T ∈ (["int", "bool", "str", "list", "tuple", "dict"] : List String) then (typeNm μ x).map fun n => .bool (tyIs n S || tyIs n T) else none
  | _ => none
theorem kit_ok {T : String} (hT : T ∈ (["int", "bool", "str", "list", "tuple", "dict"] : List String)) : KitOk T := by
  simp only [List.mem_cons, List.not_mem_nil, or_false] at hT
  rcases hT with rfl | rfl | rfl | rfl | rfl | rfl
  · exact kit_int
  · exact kit_bool
  · exact kit_str
  · exact kit_list
  · exact kit_tuple
  · exact kit_dict
theorem kit_any2 {K : PySem.W.Frag} {t c d : Value} {a b : Bool} (h1 : PySem.W.kitOne K t c = some a) (h2 : PySem.W.kitOne K t d = some b) : PySem.W.kitAny K t [c, d] = some (a || b) := by
  unfold PySem.W.kitAny
  rw [h1]
  cases a
  · unfold PySem.W.kitAny
    rw [h2]
    cases b <;> rfl
  · rfl
theorem cal_isi2 : CalR X (.builtin "isinstance") gIsi2 := by
  rintro pins s σ H vs us Q I r ⟨μ, α, R, ds, d, S, h, e, q⟩
  unfold gIsi2 at e
  split at e
  · rename_i x A B
    split at e
    · rename_i hT
      obtain ⟨n, e1, rfl⟩ := Option.map_eq_some_iff.mp e
      obtain ⟨v, v', rfl, h1, h2⟩ := denL2 h
      cases h2 with
      | tuple hq hl hd =>
        cases hd with
        | cons ha hd =>
          cases hd with
          | cons hb hd =>
            cases hd
            cases ha
            cases hb
            obtain ⟨t1, t2⟩ := ty_den S h1 e1
            exact call_isi2 (P2 := fun xs H Q => ∃ (x : V) (tp : Addr) (cs : List V) (t : Value) (us : List Value) (b : Bool), xs = [x, .ref tp] ∧ SqT X.K H tp cs ∧ Paired ClsV cs us ∧ TyX X.K H x t ∧ PySem.W.kitAny X.K t us = some b ∧ Q (.bl b) H) (fun _ _ _ h => h) pins s σ H _ us Q I r
              ⟨v, _, _, .type n, [.type A, .type B], _, rfl, S.sqT hq, .cons (.ty A) (.cons (.ty B) .nil), t1, kit_any2 (kit_ty (kit_ok hT.1 n t2)) (kit_ty (kit_ok hT.2 n t2)), q _ R H S .refl (.bool _)⟩
    · cases e
  · cases e
end
/-! sep.join(a list of texts) -/
section
variable {X : Cx}
def strsD : List D → Option (List Str)
  | [] => some []
  | .str s :: xs => (strsD xs).map (s :: ·)
  | _ => none
theorem strsD_den {K : PySem.W.Frag} {mg : Str → Option Value} {R : Hp} {α : List Addr} : ∀ {vs : List V} {xs : List D} {ys : List Str}, DenL K mg R α vs xs → strsD xs = some ys → vs = ys.map V.str
  | _, _, _, .nil, e => by cases e; rfl
  | _, _, _, .cons (d := d) h t, e => by
    cases d with
    | str s =>
      simp only [strsD] at e
      obtain ⟨zs, e1, rfl⟩ := Option.map_eq_some_iff.mp e
      cases h
      rw [List.map_cons, strsD_den t e1]
    | _ => simp [strsD] at e
def gJoin : GM := fun μ x ds => match x, ds with
  | .str a, [y] => (seqL μ y).bind fun xs => (strsD xs).bind fun ys => if (ys.map (·.length)).sum + ys.length * a.length ≤ 16777216 then some (.str (Txt.join a ys), μ) else none
  | _, _ => none
theorem mg_join : MtG X "str.join" gJoin := by
  rintro pins s σ H x vs v us Q I rx r ⟨μ, α, R, dx, ds, d, μ', S, h1, h2, e, q⟩
  unfold gJoin at e
  split at e
  · rename_i a y
    obtain ⟨xs, e1, e⟩ := Option.bind_eq_some_iff.mp e
    obtain ⟨ys, e2, e⟩ := Option.bind_eq_some_iff.mp e
    split at e
    · rename_i hz
      cases e
      cases h1
      obtain ⟨w, rfl, k2⟩ := denL1 h2
      obtain ⟨l, ws, rfl, hq, hl, dl⟩ := S.seqL k2 e1
      obtain rfl := strsD_den dl e2
      exact mt_join pins s σ H _ _ v us Q I rx r ⟨a, l, ys, rfl, rfl, .inl (SqL.of hq), hz, q _ R H S .refl (.str _)⟩
    · cases e
  · cases e
end
end TL

set_option Elab.async false
set_option maxRecDepth 100000
set_option maxHeartbeats 2000000
set_option linter.all false
namespace TL
open PySem PySem.Spec PyProof.Rows L2
/-! ### a, b, c = x, y, z -/
section
variable {X : Cx} {E : XK}
theorem ds_par3 {i j l : Nat} {x y z : Str} {a b c : Expr} {ta : FA} {px py pz pt pos : Pos} {kt k2 pt2} (hc : X.calm = true) (hN : X.N.Nodup) (hi : X.N[i]? = some x) (hj : X.N[j]? = some y) (hl : X.N[l]? = some z) (hij : i ≠ j) (hil : i ≠ l) (hjl : j ≠ l)
    (hx : X.env.scope.names.lookup x = some .local) (hy : X.env.scope.names.lookup y = some .local) (hz : X.env.scope.names.lookup z = some .local) (ha : DA X E [a, b, c] ta)
    (hw : swappedStores [.Tuple [.Name x px, .Name y py, .Name z pz] kt pt] (.Tuple [a, b, c] k2 pt2) X.env = pure (some [x, y, z]) := by rfl)
    (hs : swapsWithSole [.Tuple [.Name x px, .Name y py, .Name z pz] kt pt] (.Tuple [a, b, c] k2 pt2) pos.line X.env = pure false := by rfl) :
    DS X E (.Assign [.Tuple [.Name x px, .Name y py, .Name z pz] kt pt] (.Tuple [a, b, c] k2 pt2) pos) (sPar3 i j l ta) :=
  wS (ps_par3 hc hN hi hj hl hij hil hjl hx hy hz ha hw hs) fun Dn σ H ⟨ρ, μ, α, R, S, V, h⟩ => ⟨ρ, μ, α, R, S, V, h.bind fun ds μ1 vs α1 R1 H1 S1 A1 q1 q => by
    cases q1 with
    | nil => exact False.elim q
    | cons p1 t => cases t with
      | nil => exact False.elim q
      | cons p2 t => cases t with
        | nil => exact False.elim q
        | cons p3 t => cases t with
          | nil => exact ⟨_, _, _, rfl, q _ α1 R1 H1 S1 .refl ((((V.adv A1).set i p1).set j p2).set l p3)⟩
          | cons _ _ => exact False.elim q⟩
/-! ### xs[::-1] -/
theorem DenL.reverse {K : PySem.W.Frag} {mg : Str → Option Value} {R : Hp} {α : List Addr} : ∀ {vs : List V} {xs : List D}, DenL K mg R α vs xs → DenL K mg R α vs.reverse xs.reverse
  | _, _, .nil => .nil
  | _, _, .cons h t => by
    rw [List.reverse_cons, List.reverse_cons]
    exact (DenL.reverse t).append (.cons h .nil)
def nRev (f : FE) : FN := fun ρ μ => (f ρ μ).bind fun x μ1 => ofO ((seqL μ1 x).map fun xs => Cell.list xs.reverse) μ1
theorem dn_rev {e : Expr} {f : FE} {k : Nat} {p1 p2 p3 pos : Pos} (he : DE X E e f) : DN X E (.Subscript e (.Slice none none (some (.UnaryOp .USub (.Constant (.int 1) k p1) p2)) p3) pos) (nRev f) :=
  wE (pe_revL he) fun σ H Q ⟨ρ, μ, α, R, S, V, h⟩ => ⟨ρ, μ, α, R, S, V, h.bind fun x μ1 v α1 R1 H1 S1 A1 d1 h1 => by
    obtain ⟨d, e1, e2⟩ := h1.ofO
    obtain ⟨xs, e3, rfl⟩ := Option.map_eq_some_iff.mp e1
    obtain ⟨a, ws, rfl, hq, hl, dl⟩ := S1.seqL d1 e3
    exact ⟨a, ws, rfl, SqL.of hq, fun p hp => e2 (.non, .lst ws.reverse) α1 R1 H1 S1 .refl ⟨_, rfl, by rw [List.length_reverse]; exact hl, dl.reverse⟩ p hp⟩⟩
end
/-! ### orders -/
theorem perm_sorted_eq {τ : Type} (le : τ → τ → Prop) (anti : ∀ a b, le a b → le b a → a = b) : ∀ {xs ys : List τ}, xs.Perm ys → xs.Pairwise le → ys.Pairwise le → xs = ys
  | [], ys, h, _, _ => (List.nil_perm.mp h).symm
  | x :: xs, [], h, _, _ => absurd (List.perm_nil.mp h) (by simp)
  | x :: xs, y :: ys, h, h1, h2 => by
    have e : x = y := by
      have m1 : x ∈ y :: ys := h.mem_iff.mp (List.mem_cons_self ..)
      have m2 : y ∈ x :: xs := h.mem_iff.mpr (List.mem_cons_self ..)
      rcases List.mem_cons.mp m1 with e | m1
      · exact e
      · rcases List.mem_cons.mp m2 with e | m2
        · exact e.symm
        · exact anti _ _ ((List.pairwise_cons.mp h1).1 y m2) ((List.pairwise_cons.mp h2).1 x m1)
    subst e
    rw [perm_sorted_eq le anti (List.Perm.cons_inv h) (List.pairwise_cons.mp h1).2 (List.pairwise_cons.mp h2).2]
def insB {τ : Type} (lt : τ → τ → Bool) (x : τ) : List τ → List τ
  | [] => [x]
  | y :: ys => if lt y x = true then y :: insB lt x ys else x :: y :: ys
def sortB {τ : Type} (lt : τ → τ → Bool) : List τ → List τ
  | [] => []
  | x :: xs => insB lt x (sortB lt xs)
theorem insB_perm {τ : Type} {lt : τ → τ → Bool} {x : τ} : ∀ ys : List τ, (insB lt x ys).Perm (x :: ys)
  | [] => .refl _
  | y :: ys => by
    unfold insB
    split
    · exact ((insB_perm ys).cons y).trans (List.Perm.swap x y ys)
    · exact .refl _
theorem sortB_perm {τ : Type} {lt : τ → τ → Bool} : ∀ xs : List τ, (sortB lt xs).Perm xs
  | [] => .refl _
  | x :: xs => (insB_perm _).trans ((sortB_perm xs).cons x)
/-- a strict order: total, its negation goes on -/
structure Ord2 {τ : Type} (lt : τ → τ → Bool) : Prop where
  tot : ∀ a b, lt a b = true → lt b a = false
  tr : ∀ a b c, lt b a = false → lt c b = false → lt c a = false
  anti : ∀ a b, lt a b = false → lt b a = false → a = b
theorem insB_sorted {τ : Type} {lt : τ → τ → Bool} (o : Ord2 lt) {x : τ} : ∀ {ys : List τ}, ys.Pairwise (fun a b => lt b a = false) → (insB lt x ys).Pairwise fun a b => lt b a = false
  | [], _ => by simp [insB]
  | y :: ys, h => by
    obtain ⟨h1, h2⟩ := List.pairwise_cons.mp h
    unfold insB
    split
    · rename_i hlt
      refine List.pairwise_cons.mpr ⟨fun z hz => ?_, insB_sorted o h2⟩
      rcases List.mem_cons.mp ((insB_perm ys).mem_iff.mp hz) with rfl | hz
      · exact o.tot _ _ hlt
      · exact h1 z hz
    · rename_i hlt
      have hf : lt y x = false := by simpa using hlt
      refine List.pairwise_cons.mpr ⟨fun z hz => ?_, h⟩
      rcases List.mem_cons.mp hz with rfl | hz
      · exact hf
      · exact o.tr _ _ _ hf (h1 z hz)
theorem sortB_sorted {τ : Type} {lt : τ → τ → Bool} (o : Ord2 lt) : ∀ xs : List τ, (sortB lt xs).Pairwise fun a b => lt b a = false
  | [] => List.Pairwise.nil
  | x :: xs => insB_sorted o (sortB_sorted o xs)
theorem sortB_eq {τ : Type} {lt : τ → τ → Bool} (o : Ord2 lt) {xs ys : List τ} (h : ys.Perm xs) (hs : ys.Pairwise fun a b => lt b a = false) : ys = sortB lt xs :=
  perm_sorted_eq (fun a b => lt b a = false) (fun a b h1 h2 => o.anti _ _ h2 h1) (h.trans (sortB_perm xs).symm) hs (sortB_sorted o xs)
def ltZ (a b : Int) : Bool := decide (a < b)
theorem ordZ : Ord2 ltZ := ⟨fun a b h => by simp [ltZ] at *; omega, fun a b c h1 h2 => by simp [ltZ] at *; omega, fun a b h1 h2 => by simp [ltZ] at *; omega⟩
theorem ltCps_tot : ∀ a b : List Nat, ltCps a b = true → ltCps b a = false
  | [], [], h => by simp [ltCps] at h
  | [], _ :: _, _ => by simp [ltCps]
  | _ :: _, [], h => by simp [ltCps] at h
  | a :: r, b :: t, h => by
    simp only [ltCps, Bool.or_eq_true, Bool.and_eq_true, decide_eq_true_eq, beq_iff_eq, Bool.or_eq_false_iff, Bool.and_eq_false_imp, decide_eq_false_iff_not] at h ⊢
    rcases h with h | ⟨rfl, h⟩
    · exact ⟨by omega, fun e => by omega⟩
    · exact ⟨by omega, fun _ => ltCps_tot r t h⟩
theorem ltCps_tr : ∀ a b c : List Nat, ltCps b a = false → ltCps c b = false → ltCps c a = false
  | a, b, [], h1, h2 => by
    cases b with
    | nil => exact h1
    | cons _ _ => simp [ltCps] at h2
  | [], b, _ :: _, h1, h2 => by simp [ltCps]
  | _ :: _, [], _ :: _, h1, h2 => by simp [ltCps] at h1
  | a :: r, b :: t, c :: u, h1, h2 => by
    simp only [ltCps, Bool.or_eq_false_iff, Bool.and_eq_false_imp, decide_eq_false_iff_not, beq_iff_eq] at h1 h2 ⊢
    refine ⟨by omega, fun e => ?_⟩
    subst e
    have hb : b = c := by omega
    subst hb
    exact ltCps_tr r t u (h1.2 rfl) (h2.2 rfl)
theorem ltCps_anti : ∀ a b : List Nat, ltCps a b = false → ltCps b a = false → a = b
  | [], [], _, _ => rfl
  | [], _ :: _, h, _ => by simp [ltCps] at h
  | _ :: _, [], _, h => by simp [ltCps] at h
  | a :: r, b :: t, h1, h2 => by
    simp only [ltCps, Bool.or_eq_false_iff, Bool.and_eq_false_imp, decide_eq_false_iff_not, beq_iff_eq] at h1 h2
    have : a = b := by omega
    subst this
    rw [ltCps_anti r t (h1.2 rfl) (h2.2 rfl)]
def ltS (a b : Str) : Bool := ltCps a.cps.toList b.cps.toList
theorem str_ext {a b : Str} (h : a.cps.toList = b.cps.toList) : a = b := by
  obtain ⟨a⟩ := a
  obtain ⟨b⟩ := b
  have : a = b := Array.toList_inj.mp h
  rw [this]
theorem ordS : Ord2 ltS := ⟨fun a b => ltCps_tot _ _, fun a b c => ltCps_tr _ _ _, fun a b h1 h2 => str_ext (ltCps_anti _ _ h1 h2)⟩
theorem risingS_pw : ∀ {p : Str} {ss : List Str}, risingS p ss = true → (∀ z ∈ ss, ltS z p = false) ∧ ss.Pairwise fun a b => ltS b a = false
  | _, [], _ => ⟨fun _ h => (nomatch h), List.Pairwise.nil⟩
  | p, x :: r, h => by
    simp only [risingS, Bool.and_eq_true, Bool.not_eq_true'] at h
    obtain ⟨h1, h2⟩ := risingS_pw h.2
    refine ⟨fun z hz => ?_, List.pairwise_cons.mpr ⟨h1, h2⟩⟩
    rcases List.mem_cons.mp hz with rfl | hz
    · exact h.1
    · exact ordS.tr _ _ _ h.1 (h1 z hz)
theorem sortedS_pw {ss : List Str} (h : sortedS ss = true) : ss.Pairwise fun a b => ltS b a = false := by
  cases ss with
  | nil => exact List.Pairwise.nil
  | cons x r => exact List.pairwise_cons.mpr (risingS_pw h)
/-! ### sorted(x): a list of ints, a list of texts, a dict with texts as keys -/
def intsD : List D → Option (List Int)
  | [] => some []
  | .int s :: xs => (intsD xs).map (s :: ·)
  | _ => none
theorem intsD_den {K : PySem.W.Frag} {mg : Str → Option Value} {R : Hp} {α : List Addr} : ∀ {vs : List V} {xs : List D} {ys : List Int}, DenL K mg R α vs xs → intsD xs = some ys → vs = ys.map V.int
  | _, _, _, .nil, e => by cases e; rfl
  | _, _, _, .cons (d := d) h t, e => by
    cases d with
    | int s =>
      simp only [intsD] at e
      obtain ⟨zs, e1, rfl⟩ := Option.map_eq_some_iff.mp e
      cases h
      rw [List.map_cons, intsD_den t e1]
    | _ => simp [intsD] at e
def keysS : List (Key × D) → Option (List Str)
  | [] => some []
  | (.inr s, _) :: xs => (keysS xs).map (s :: ·)
  | _ => none
theorem keysS_den {K : PySem.W.Frag} {mg : Str → Option Value} {R : Hp} {α : List Addr} : ∀ {vs : List (Key × V)} {xs : List (Key × D)} {ys : List Str}, DenK K mg R α vs xs → keysS xs = some ys → vs.map (·.1) = ys.map Sum.inr
  | _, _, _, .nil, e => by cases e; rfl
  | _, _, _, .cons (k := k) h t, e => by
    cases k with
    | inr s =>
      simp only [keysS] at e
      obtain ⟨zs, e1, rfl⟩ := Option.map_eq_some_iff.mp e
      rw [List.map_cons, List.map_cons, keysS_den t e1]
    | inl _ => simp [keysS] at e
theorem den_ints {K : PySem.W.Frag} {mg : Str → Option Value} {R : Hp} {α : List Addr} : ∀ ys : List Int, DenL K mg R α (ys.map V.int) (ys.map D.int)
  | [] => .nil
  | y :: ys => .cons (.int y) (den_ints ys)
theorem den_strs {K : PySem.W.Frag} {mg : Str → Option Value} {R : Hp} {α : List Addr} : ∀ ys : List Str, DenL K mg R α (ys.map V.str) (ys.map D.str)
  | [] => .nil
  | y :: ys => .cons (.str y) (den_strs ys)
def gSorted : GN := fun μ ds => match ds with
  | [x] => match dctV μ x with
    | some kvs => (keysS kvs).bind fun ks => if ks.length < 64 then some (.list ((sortB ltS ks).map D.str)) else none
    | none => (seqL μ x).bind fun xs => match intsD xs with
      | some ns => if ns.length < 64 then some (.list ((sortB ltZ ns).map D.int)) else none
      | none => (strsD xs).bind fun ks => if ks.length < 64 then some (.list ((sortB ltS ks).map D.str)) else none
  | _ => none
section
variable {X : Cx}
theorem cal_sorted (hc : X.calm = true) : CalN X (.builtin "sorted") gSorted := by
  rintro pins s σ H vs us Q I r ⟨μ, α, R, ds, c, S, h, e, q⟩
  have small : ∀ {n : Nat}, n < 64 → n ≤ sizeLine := fun h => Nat.le_trans (Nat.le_of_lt h) (by decide)
  unfold gSorted at e
  split at e
  · obtain ⟨v, rfl, h1⟩ := denL1 h
    split at e
    · rename_i kvs e1
      obtain ⟨ks, e2, e⟩ := Option.bind_eq_some_iff.mp e
      split at e
      · rename_i h64
        cases e
        obtain ⟨a, kv, rfl, hd, hl, dk⟩ := S.dctV h1 e1
        refine call_sortedD hc pins s σ H _ us Q I r ⟨a, kv, ks, rfl, hd, keysS_den dk e2, h64, fun ys p hp hs hn => ?_⟩
        obtain rfl := sortB_eq ordS hp (sortedS_pw hs)
        exact q (.non, .lst _) ⟨_, rfl, by rw [List.length_map, hp.length_eq]; exact small h64, den_strs _⟩ p hn
      · cases e
    · obtain ⟨xs, e1, e⟩ := Option.bind_eq_some_iff.mp e
      obtain ⟨a, ws, rfl, hq, hl, dl⟩ := S.seqL h1 e1
      split at e
      · rename_i ns e2
        split at e
        · rename_i h64
          cases e
          obtain rfl := intsD_den dl e2
          refine cr_sorted pins s σ H _ us Q I r ⟨a, ns, rfl, SqL.of hq, h64, fun ys p hp hs hn => ?_⟩
          obtain rfl := sortB_eq ordZ hp (hs.imp fun h => by simp [ltZ]; omega)
          exact q (.non, .lst _) ⟨_, rfl, by rw [List.length_map, hp.length_eq]; exact small h64, den_ints _⟩ p hn
        · cases e
      · obtain ⟨ks, e2, e⟩ := Option.bind_eq_some_iff.mp e
        split at e
        · rename_i h64
          cases e
          obtain rfl := strsD_den dl e2
          refine cr_sortedS pins s σ H _ us Q I r ⟨a, ks, rfl, SqL.of hq, h64, fun ys p hp hs hn => ?_⟩
          obtain rfl := sortB_eq ordS hp (sortedS_pw hs)
          exact q (.non, .lst _) ⟨_, rfl, by rw [List.length_map, hp.length_eq]; exact small h64, den_strs _⟩ p hn
        · cases e
  · cases e
end
end TL

set_option Elab.async false
set_option maxRecDepth 100000
set_option maxHeartbeats 2000000
set_option linter.all false
namespace TL
open PySem PySem.Spec PyProof.Rows L2
/-! ### own classes: C(e, ..) -/
def eMk (n : Nat) (c : Str) (F : List D → Mu → Res D) (t : FA) : FE := fun ρ μ => (t ρ μ).bind fun ds μ1 => if ds.length + 1 = n then (F (.loc μ1.length :: ds) (μ1 ++ [some (.obj c [])])).bind fun d μ2 => (match d with
  | .none => .ok (.loc μ1.length) μ2
  | _ => .bad) else .bad
section
variable {X : Cx} {E : XK} {k n : Nat} {f C : Addr} {fd : FuncData} {ps : List Str} {F : List D → Mu → Res D} {x : Str} {p pos apos : Pos} {e o : Expr} {es : List Expr} {t : FA} {fo : FE}
theorem After.adv' {ω τ : Type} {K : PySem.W.Frag} {mg : Str → Option Value} {E : XK} {rel : Hp → List Addr → ω → τ → Prop} {α α1 : List Addr} {R R1 H H1 : Hp} {r : Res τ} {Q : ω → Hp → Prop} (A : Adv α R H α1 R1 H1) (h : After K mg E rel α R H r Q) : After K mg E rel α1 R1 H1 r Q := by
  cases r with
  | ok d μ => exact fun w α2 R2 H2 S A2 q => h w α2 R2 H2 S (A.trans A2) q
  | ex y μ => exact fun cls od α2 R2 H2 S A2 q => h cls od α2 R2 H2 S (A.trans A2) q
  | bad => exact h
theorem After.make {pins : List (Addr × Obj)} {σ : L2.St} {H : Hp} {s : Shared} {Q : VK} {us : List Value} {vs : List V} {ds : List D} {μ : Mu} {α : List Addr} {R : Hp} (M : Mk X.K C f) (G : FnT X.prog X.w X.K X.mg X.base k f fd ps F) (hr : Room (k + 1) X.A) (hgd : X.A.guards = some [])
    (hb : Binds X.K fd ps []) (hx : Passes (L2.CX X.prog X.w) X E) (hm : X.mg x = some (.ref C))
    (I : Inv X pins σ H s) (r : Vals vs us) (S : SM X.K X.mg μ α R H) (dl : DenL X.K X.mg R α vs ds)
    (h : After X.K X.mg E (relD X.K X.mg) α R H (if ds.length + 1 = ps.length then (F (.loc μ.length :: ds) (μ ++ [some (.obj x [])])).bind fun d μ2 => (match d with | .none => .ok (.loc μ.length) μ2 | _ => .bad) else .bad) Q) :
    wpAny (model X.prog X.w) X.A (call (.ref C) us) (EP X pins σ Q) X.xe s := by
  split at h
  rotate_left
  · exact False.elim h
  rename_i hl
  have f1 : H (s.heap.objs.size + 1) = none := I.hok.fresh (Nat.le_succ _)
  have f0 : H s.heap.objs.size = none := I.hok.fresh (Nat.le_refl _)
  have ne : s.heap.objs.size + 1 ≠ s.heap.objs.size := Nat.succ_ne_self _
  have I2 := Inv.made (C := C) I
  obtain ⟨S1, A1⟩ := S.lay (u := .own (s.heap.objs.size + 1)) f0
  have f2 : upd H s.heap.objs.size (.own (s.heap.objs.size + 1)) (s.heap.objs.size + 1) = none := by rw [upd_ne ne]; exact f1
  obtain ⟨S2, A2, hα⟩ := S1.cellNew (u := .ins C s.heap.objs.size []) (c := .obj x []) f2 ⟨C, s.heap.objs.size, [], hm, upd_same, .nil⟩
  have dl2 : DenL X.K X.mg (upd R s.heap.objs.size (.own (s.heap.objs.size + 1))) (α ++ [s.heap.objs.size + 1]) (V.ref (s.heap.objs.size + 1) :: vs) (.loc μ.length :: ds) := .cons (.loc hα) ((dl.adv A1).adv A2)
  have h2 := After.adv' (A1.trans A2) h
  have r2 : Vals (V.ref (s.heap.objs.size + 1) :: vs) (Value.ref (s.heap.objs.size + 1) :: us) := .cons rfl r
  have hlv : (V.ref (s.heap.objs.size + 1) :: vs).length = ps.length := by rw [dl2.len]; exact hl
  have hlu : (Value.ref (s.heap.objs.size + 1) :: us ++ []).length = ps.length := by rw [List.append_nil, ← r2.length]; exact hlv
  have h3 : After X.K X.mg E (relD X.K X.mg) (α ++ [s.heap.objs.size + 1]) (upd R s.heap.objs.size (.own (s.heap.objs.size + 1))) (upd (upd H s.heap.objs.size (.own (s.heap.objs.size + 1))) (s.heap.objs.size + 1) (.ins C s.heap.objs.size [])) (F (.loc μ.length :: ds) (μ ++ [some (.obj x [])])) (fun v H2 => v = V.non ∧ Q (.ref (s.heap.objs.size + 1)) H2) := h2.bind fun d μ2 v α2 R2 H2 S3 A3 q h4 => by
    cases d with
    | none =>
      cases q
      exact ⟨rfl, h4 _ α2 R2 H2 S3 .refl (.loc (A3.a _ _ hα))⟩
    | _ => exact False.elim h4
  refine wpAny_call (make_map (f := f) I.kIn M.makes M.init (beq_iff_eq.mp M.fn) (codeAny_mono (G.run _ X.stack _ _ ⟨Value.ref (s.heap.objs.size + 1) :: us, []⟩ (Value.ref (s.heap.objs.size + 1) :: us) _ _ _ _ _ _ E (hr.make C us []) hgd
    (I2.env0.make C us []) ?_ r2 hlv S2 dl2 h3) fun r s' hq' => ?_))
  · have := hb _ (Value.ref (s.heap.objs.size + 1) :: us) I2.kIn hlu
    rw [List.append_nil] at this
    exact this
  cases r with
  | error e => exact hx pins σ _ _ e s' I2 hq'
  | ok fl =>
    cases fl with
    | ret u =>
      obtain ⟨v, H', I3, rv, ev, q3⟩ := I2.after hq'
      subst ev
      exact ⟨rv, ⟨V.ref (s.heap.objs.size + 1), H', I3, rfl, q3⟩⟩
    | next => exact False.elim hq'
    | brk => exact False.elim hq'
    | cont => exact False.elim hq'
theorem de_mk (M : Mk X.K C f) (G : FnT X.prog X.w X.K X.mg X.base k f fd ps F) (hr : Room (k + 1) X.A) (hgd : X.A.guards = some []) (hg : Gl X x) (hm : X.mg x = some (.ref C))
    (hb : Binds X.K fd ps []) (hx : Passes (L2.CX X.prog X.w) X E) (ha : DA X E (e :: es) t) (hn : ps.length = n)
    (hdb : (x == ("__debug__" : Str)) = false := by decide) (he : starEach (e :: es) X.env = (false, eval e X.env) :: starEach es X.env := by rfl) (hpl : (backTo pos (starEach es X.env)).any (·.1) = false := by rfl) :
    DE X E (.Call (.Name x p) (e :: es) [] pos) (eMk n x F t) := by
  subst hn
  refine ⟨fun pins s σ H Q I ⟨ρ, μ, α, R, S, V, h⟩ => ?_⟩
  refine wpAny_Call_Name_kw (ld_glob I hg hm ?_ hdb)
  have ha' := ha.run pos pins s σ H _ I ⟨ρ, μ, α, R, S, V, h.bind (Q1 := fun vs H1 => ∃ ds μ1 α1 R1, SM X.K X.mg μ1 α1 R1 H1 ∧ DenL X.K X.mg R1 α1 vs ds ∧ After X.K X.mg E (relD X.K X.mg) α1 R1 H1 (if ds.length + 1 = ps.length then (F (.loc μ1.length :: ds) (μ1 ++ [some (.obj x [])])).bind fun d μ2 => (match d with | .none => .ok (.loc μ1.length) μ2 | _ => .bad) else .bad) Q)
    fun ds μ1 vs α1 R1 H1 S1 A1 d1 h1 => ⟨ds, μ1, α1, R1, S1, d1, h1⟩⟩
  refine PySem.W.callWith_K (h₀ := X.base) I.ok.mod.kin M.kp (thn ha' fun us s1 hq => ?_) he hpl
  obtain ⟨vs, H1, I1, r, ds, μ1, α1, R1, S1, d1, h1⟩ := hq
  exact ⟨I1.kIn, After.make M G hr hgd hb hx hm I1 r S1 d1 h1⟩
end
/-- the module's name x holds a class, made by an __init__ that does F -/
structure HasC (P : Program) (w : World) (K : PySem.W.Frag) (mg : Str → Option Value) (base : Heap) (k : Nat) (x : Str) (n : Nat) (F : List D → Mu → Res D) : Prop where
  ex : ∃ (C f : Addr) (fd : FuncData) (ps : List Str), ps.length = n ∧ FnT P w K mg base k f fd ps F ∧ mg x = some (.ref C) ∧ Mk K C f ∧ Binds K fd ps []
theorem HasC.mk0 {P : Program} {w : World} {K : PySem.W.Frag} {mg : Str → Option Value} {base : Heap} {k n : Nat} {x : Str} {C f : Addr} {fd : FuncData} {ps : List Str} {F : List D → Mu → Res D} (G : FnT P w K mg base k f fd ps F) (hm : mg x = some (.ref C)) (M : Mk K C f)
    (hb : Binds K fd ps []) (hn : ps.length = n := by rfl) : HasC P w K mg base k x n F := ⟨C, f, fd, ps, hn, G, hm, M, hb⟩
section
variable {X : Cx} {E : XK} {pos : Pos}
theorem dmake {k n : Nat} {x : Str} {F : List D → Mu → Res D} {p : Pos} {e : Expr} {es : List Expr} {t : FA} (G : HasC X.prog X.w X.K X.mg X.base k x n F) (hr : Room (k + 1) X.A) (hgd : X.A.guards = some []) (hg : Gl X x) (hx : Passes (L2.CX X.prog X.w) X E) (ha : DA X E (e :: es) t)
    (hdb : (x == ("__debug__" : Str)) = false := by decide) (he : starEach (e :: es) X.env = (false, eval e X.env) :: starEach es X.env := by rfl) (hpl : (backTo pos (starEach es X.env)).any (·.1) = false := by rfl) :
    DE X E (.Call (.Name x p) (e :: es) [] pos) (eMk n x F t) := by
  obtain ⟨C, f, fd, ps, hn, G, hm, M, hb⟩ := G.ex
  exact de_mk M G hr hgd hg hm hb hx ha hn hdb he hpl
end
/-! ### the values of a dict's cell, frozen -/
def frzAt (n : Nat) : List (Key × D) → Mu → Option (List (Key × D) × Mu)
  | [], μ => some ([], μ)
  | (k, .loc m) :: r, μ => match μ[m]? with
    | some (some (.list xs)) => if m = n then none else (frzAt n r (μ.set m none)).map fun p => ((k, .list xs) :: p.1, p.2)
    | _ => none
  | (k, d) :: r, μ => (frzAt n r μ).map fun p => ((k, d) :: p.1, p.2)
def sFrzV (i : Nat) : FS := fun ρ μ => match ρ[i]? with
  | some (some (.loc n)) => (match μ[n]? with
    | some (some (.dict kvs)) => (match frzAt n kvs μ with
      | some p => .ok (.nx ρ) (p.2.set n (some (.dict p.1)))
      | none => .bad)
    | _ => .bad)
  | _ => .bad
theorem frzAt_ok {K : PySem.W.Frag} {mg : Str → Option Value} {H : Hp} {α : List Addr} {n : Nat} : ∀ {kvs : List (Key × D)} {ks : List (Key × V)} {μ : Mu} {R : Hp} {q : List (Key × D) × Mu}, SM K mg μ α R H → DenK K mg R α ks kvs → frzAt n kvs μ = some q →
    ∃ R', SM K mg q.2 α R' H ∧ Adv α R H α R' H ∧ DenK K mg R' α ks q.1 ∧ q.2[n]? = μ[n]?
  | [], _, μ, R, q, S, .nil, e => by
    cases e
    exact ⟨R, S, .refl, .nil, rfl⟩
  | (k, d) :: r, _, μ, R, q, S, .cons h t, e => by
    by_cases hd : ∃ m, d = .loc m
    · obtain ⟨m, rfl⟩ := hd
      simp only [frzAt] at e
      split at e
      · rename_i xs ec
        split at e
        · cases e
        · rename_i hmn
          obtain ⟨p, e1, rfl⟩ := Option.map_eq_some_iff.mp e
          cases h with
          | loc hα =>
            obtain ⟨R1, S1, A1, d1⟩ := S.freeze ec hα
            obtain ⟨R2, S2, A2, d2, e2⟩ := frzAt_ok S1 (t.up A1.r A1.a) e1
            exact ⟨R2, S2, A1.trans A2, .cons (d1.adv A2) d2, e2.trans (List.getElem?_set_ne hmn)⟩
      · cases e
    · have e1 : (frzAt n r μ).map (fun p => ((k, d) :: p.1, p.2)) = some q := by
        cases d with
        | loc m => exact absurd ⟨m, rfl⟩ hd
        | _ => exact e
      obtain ⟨p, e2, rfl⟩ := Option.map_eq_some_iff.mp e1
      obtain ⟨R2, S2, A2, d2, e3⟩ := frzAt_ok S t e2
      exact ⟨R2, S2, A2, .cons (h.adv A2) d2, e3⟩
section
variable {X : Cx} {E : XK}
theorem dss_frzV (i : Nat) {sts : List Stmt} {g : FS} (h : DSs X E sts g) : DSs X E sts (sSeq (sFrzV i) g) :=
  wSs h fun Dn σ H ⟨ρ, μ, α, R, S, V, h⟩ => by
    unfold sSeq sFrzV at h
    split at h
    · rename_i n e
      split at h
      · rename_i kvs ec
        split at h
        · rename_i q eq
          obtain ⟨v, hv, qd⟩ := V.2 i _ e
          cases qd with
          | loc hα =>
            rename_i a
            obtain ⟨_, ks, g1, g2, g3⟩ := S.cell n _ a ec hα
            obtain ⟨R1, S1, A1, d1, e1⟩ := frzAt_ok S g3 eq
            have hu : upd H a (.dK ks) = H := by
              funext b
              by_cases hb : b = a
              · rw [hb, upd_same, g1]
              · rw [upd_ne hb]
            obtain ⟨S2, A2⟩ := S1.put (u := .dK ks) (c := .dict q.1) (e1.trans ec) hα ⟨ks, upd_same, g2, d1⟩
            rw [hu] at S2 A2
            exact ⟨ρ, _, α, R1, S2, (V.adv A1).adv A2, AfterS.adv (A1.trans A2) h⟩
        · exact False.elim h
      · exact False.elim h
    · exact False.elim h
end
/-! ### len(set(xs)), ints -/
def dedupZ (ns : List Int) : List Int := ns.foldl step_dedup []
theorem firstMet_all (ns : List Int) : firstMet (fun i => ns.getD i 0) ns.length = dedupZ ns := by
  unfold firstMet dedupZ
  congr 1
  apply List.ext_getElem?
  intro i
  rw [List.getElem?_map]
  by_cases h : i < ns.length
  · rw [List.getElem?_range h, Option.map_some, List.getD_eq_getElem?_getD, List.getElem?_eq_getElem h]
    rfl
  · rw [List.getElem?_eq_none (by simpa using h), List.getElem?_eq_none (by simpa using h)]
    rfl
def eLenSet (fo : FE) : FE := fun ρ μ => (fo ρ μ).bind fun x μ1 => ofO ((seqL μ1 x).bind fun xs => (intsD xs).bind fun ns => if ns.length ≤ 1000 then some (.int (dedupZ ns).length) else none) μ1
section
variable {X : Cx} {E : XK} {a : Expr} {fo : FE}
theorem de_lenSet {p p2 q pos : Pos} (hc : X.calm = true) (hg : Gl X "len") (hm : X.mg "len" = none) (hg2 : Gl X "set") (hm2 : X.mg "set" = none) (ha : DE X E a fo)
    (na : starEach [a] X.env = (false, eval a X.env) :: starEach [] X.env := by rfl) : DE X E (.Call (.Name "len" p) [.Call (.Name "set" p2) [a] [] q] [] pos) (eLenSet fo) := by
  refine ⟨fun pins s σ H Q I ⟨ρ, μ, α, R, S, W0, h⟩ => ?_⟩
  refine Call_ (ld_blt I hg hm PySem.boot_len ?_)
  refine PyProof.Rows.callWith_builtin1 (PyProof.Rows.args_cons ?_ rfl) rfl rfl
  refine Call_ (ld_blt I hg2 hm2 PyProof.Rows.boot_set ?_)
  have ha' := ha.run pins s σ H (fun v H1 => ∃ (l : Addr) (ns : List Int), v = .ref l ∧ SqL X.K H1 l (ns.map V.int) ∧ ns.length ≤ 1000 ∧ Q (.int (dedupZ ns).length) H1) I ⟨ρ, μ, α, R, S, W0, h.bind fun x μ1 v α1 R1 H1 S1 A1 d1 h1 => by
    obtain ⟨d, e1, e2⟩ := h1.ofO
    obtain ⟨xs, e3, e1⟩ := Option.bind_eq_some_iff.mp e1
    obtain ⟨ns, e4, e1⟩ := Option.bind_eq_some_iff.mp e1
    split at e1
    · rename_i hl
      cases e1
      obtain ⟨l, ws, rfl, hq, hl2, dl⟩ := S1.seqL d1 e3
      obtain rfl := intsD_den dl e4
      exact ⟨l, ns, rfl, SqL.of hq, hl, e2 _ α1 R1 H1 S1 .refl (.int _)⟩
    · cases e1⟩
  refine PyProof.Rows.callWith_type1 (PyProof.Rows.args_cons (thn ha' fun v s1 ⟨x, H1, I1, r1, q1⟩ => PyProof.Rows.args_nil ?_) na) na rfl
  obtain ⟨l, ns, rfl, hq, hl, q1⟩ := q1
  cases r1
  obtain ⟨its, r, pl, hz⟩ := I1.list hq
  have hlen : its.toArray.size = ns.length := by rw [List.size_toArray, ← r.length, List.length_map]
  refine call_set_list (I1.ok.hd hc) pl.isList (ns := ns) (by simpa using r.ints) (by unfold scanBound; omega) fun h' tk hS hk => ?_
  rw [hlen, firstMet_all] at hS
  refine PyProof.Rows.args_nil ?_
  have hd : (dedupZ ns).length ≤ ns.length := by rw [← firstMet_all]; exact firstMet_length_le _ _
  obtain ⟨o, es, ep, t, ho, hex, hd2, _, _, _, hf, hn⟩ := hS
  have I2 : Inv X pins σ H1 { s1 with heap := h', toks := tk } := I1.kept fun b o e => hk b o (Heap.lt_size e) e
  refine call_len_set ho hex hd2 hf (by rw [hn] <;> omega) ⟨.int (dedupZ ns).length, H1, I2.tok _, ⟨_, by rw [hn]⟩, q1⟩
end
end TL

set_option Elab.async false
set_option maxRecDepth 100000
set_option maxHeartbeats 2000000
set_option linter.all false
namespace TL
open PySem PySem.Spec PyProof.Rows L2
/-! ### sorted(tuples of ints) -/
def ltL : List Int → List Int → Bool
  | [], [] => false
  | [], _ :: _ => true
  | _ :: _, [] => false
  | a :: r, b :: t => decide (a < b) || (a == b && ltL r t)
theorem ltL_tot : ∀ a b : List Int, ltL a b = true → ltL b a = false
  | [], [], h => by simp [ltL] at h
  | [], _ :: _, _ => by simp [ltL]
  | _ :: _, [], h => by simp [ltL] at h
  | a :: r, b :: t, h => by
    simp only [ltL, Bool.or_eq_true, Bool.and_eq_true, decide_eq_true_eq, beq_iff_eq, Bool.or_eq_false_iff, Bool.and_eq_false_imp, decide_eq_false_iff_not] at h ⊢
    rcases h with h | ⟨rfl, h⟩
    · exact ⟨by omega, fun e => by omega⟩
    · exact ⟨by omega, fun _ => ltL_tot r t h⟩
theorem ltL_tr : ∀ a b c : List Int, ltL b a = false → ltL c b = false → ltL c a = false
  | a, b, [], h1, h2 => by
    cases b with
    | nil => exact h1
    | cons _ _ => simp [ltL] at h2
  | [], b, _ :: _, h1, h2 => by simp [ltL]
  | _ :: _, [], _ :: _, h1, h2 => by simp [ltL] at h1
  | a :: r, b :: t, c :: u, h1, h2 => by
    simp only [ltL, Bool.or_eq_false_iff, Bool.and_eq_false_imp, decide_eq_false_iff_not, beq_iff_eq] at h1 h2 ⊢
    refine ⟨by omega, fun e => ?_⟩
    subst e
    have hb : b = c := by omega
    subst hb
    exact ltL_tr r t u (h1.2 rfl) (h2.2 rfl)
theorem ltL_anti : ∀ a b : List Int, ltL a b = false → ltL b a = false → a = b
  | [], [], _, _ => rfl
  | [], _ :: _, h, _ => by simp [ltL] at h
  | _ :: _, [], _, h => by simp [ltL] at h
  | a :: r, b :: t, h1, h2 => by
    simp only [ltL, Bool.or_eq_false_iff, Bool.and_eq_false_imp, decide_eq_false_iff_not, beq_iff_eq] at h1 h2
    have : a = b := by omega
    subst this
    rw [ltL_anti r t (h1.2 rfl) (h2.2 rfl)]
theorem ordL : Ord2 ltL := ⟨ltL_tot, ltL_tr, ltL_anti⟩
theorem code_ltL {B : Int} : ∀ {a b : List Int}, a.length = b.length → TS.Bd B a → TS.Bd B b → ltL a b = true → TS.code B a < TS.code B b
  | [], [], _, _, _, h => by simp [ltL] at h
  | a :: r, b :: t, hl, ha, hb, h => by
    have hl2 : r.length = t.length := by simpa using hl
    simp only [ltL, Bool.or_eq_true, Bool.and_eq_true, decide_eq_true_eq, beq_iff_eq] at h
    rcases h with h | ⟨rfl, h⟩
    · exact TS.code_lt hl2 ha.tail hb.tail h
    · exact (TS.code_same hl2).mpr (code_ltL hl2 ha.tail hb.tail h)
def tupsD : List D → Option (List (List Int))
  | [] => some []
  | .tuple xs :: r => (intsD xs).bind fun ns => (tupsD r).map (ns :: ·)
  | _ => none
def tupZ (ns : List Int) : D := .tuple (ns.map .int)
def okTups : List (List Int) → Bool
  | [] => false
  | a :: r => decide ((a :: r).length < 64) && (decide (1 ≤ a.length) && ((a :: r).all fun b => decide (b.length = a.length) && b.all fun m => decide (0 ≤ m)))
inductive Two (T : V → List Int → Prop) : List V → List (List Int) → Prop where
  | nil : Two T [] []
  | cons {x : V} {n : List Int} {xs : List V} {ns : List (List Int)} (h : T x n) (t : Two T xs ns) : Two T (x :: xs) (n :: ns)
theorem Two.perm {T : V → List Int → Prop} {ys ws : List V} (h : ys.Perm ws) : ∀ {nss : List (List Int)}, Two T ws nss → ∃ nss', nss'.Perm nss ∧ Two T ys nss' := by
  induction h with
  | nil => exact fun t => ⟨_, .refl _, t⟩
  | cons x _ ih =>
    intro nss t
    cases t with
    | cons h t =>
      obtain ⟨n', h1, h2⟩ := ih t
      exact ⟨_, h1.cons _, .cons h h2⟩
  | swap x y l =>
    intro nss t
    cases t with
    | cons h t => cases t with
      | cons h2 t => exact ⟨_, .swap _ _ _, .cons h2 (.cons h t)⟩
  | trans _ _ ih1 ih2 =>
    intro nss t
    obtain ⟨n1, h1, h2⟩ := ih2 t
    obtain ⟨n2, h3, h4⟩ := ih1 h2
    exact ⟨n2, h3.trans h1, h4⟩
theorem Two.pw {T : V → List Int → Prop} {R1 : V → V → Prop} {R2 : List Int → List Int → Prop} (k : ∀ x y n m, T x n → T y m → R1 x y → R2 n m) : ∀ {ys : List V} {nss : List (List Int)}, Two T ys nss → ys.Pairwise R1 → nss.Pairwise R2
  | _, _, .nil, _ => List.Pairwise.nil
  | _, _, .cons (x := x) (n := n) h t, hp => by
    obtain ⟨h1, h2⟩ := List.pairwise_cons.mp hp
    refine List.pairwise_cons.mpr ⟨fun m hm => ?_, Two.pw k t h2⟩
    have go : ∀ {xs : List V} {ns : List (List Int)}, Two T xs ns → m ∈ ns → ∃ y ∈ xs, T y m := by
      intro xs ns t2
      induction t2 with
      | nil => exact fun h => nomatch h
      | cons h3 _ ih =>
        intro hm
        rcases List.mem_cons.mp hm with rfl | hm
        · exact ⟨_, List.mem_cons_self .., h3⟩
        · obtain ⟨y, hy, hT⟩ := ih hm
          exact ⟨y, List.mem_cons_of_mem _ hy, hT⟩
    obtain ⟨y, hy, hT⟩ := go t hm
    exact k x y n m h hT (h1 y hy)
theorem bd_all (nss : List (List Int)) (h : ∀ ns ∈ nss, ∀ m ∈ ns, 0 ≤ m) : ∃ B : Int, ∀ ns ∈ nss, TS.Bd B ns := by
  have one : ∀ ns : List Int, ∃ B : Int, ∀ m ∈ ns, m < B := fun ns => by
    induction ns with
    | nil => exact ⟨0, fun m h => nomatch h⟩
    | cons a r ih =>
      obtain ⟨B, hB⟩ := ih
      refine ⟨(if a < B then B else a + 1), fun m hm => ?_⟩
      rcases List.mem_cons.mp hm with rfl | hm
      · split <;> omega
      · have := hB m hm
        split <;> omega
  induction nss with
  | nil => exact ⟨0, fun m h => nomatch h⟩
  | cons a r ih =>
    obtain ⟨B, hB⟩ := ih fun ns hn => h ns (List.mem_cons_of_mem _ hn)
    obtain ⟨B2, hB2⟩ := one a
    refine ⟨(if B < B2 then B2 else B), fun ns hn m hm => ⟨h ns hn m hm, ?_⟩⟩
    rcases List.mem_cons.mp hn with rfl | hn
    · have := hB2 m hm
      split <;> omega
    · have := (hB ns hn m hm).2
      split <;> omega
theorem tupsD_two {K : PySem.W.Frag} {mg : Str → Option Value} {μ : Mu} {R H : Hp} {α : List Addr} (S : SM K mg μ α R H) : ∀ {ws : List V} {xs : List D} {nss : List (List Int)}, DenL K mg R α ws xs → tupsD xs = some nss →
    Two (fun x ns => TupI K H x ns ∧ Den K mg R α x (tupZ ns)) ws nss
  | _, _, _, .nil, e => by cases e; exact .nil
  | _, _, _, .cons (d := d) h t, e => by
    cases d with
    | tuple xs =>
      simp only [tupsD] at e
      obtain ⟨ns, e1, e⟩ := Option.bind_eq_some_iff.mp e
      obtain ⟨r, e2, rfl⟩ := Option.map_eq_some_iff.mp e
      refine .cons ?_ (tupsD_two S t e2)
      cases h with
      | tuple hq hl dl =>
        obtain rfl := intsD_den dl e1
        exact ⟨⟨_, rfl, S.sqT hq⟩, .tuple hq hl DenL.ints⟩
    | _ => simp [tupsD] at e
theorem two_den {K : PySem.W.Frag} {mg : Str → Option Value} {R H : Hp} {α : List Addr} : ∀ {ws : List V} {nss : List (List Int)}, Two (fun x ns => TupI K H x ns ∧ Den K mg R α x (tupZ ns)) ws nss → DenL K mg R α ws (nss.map tupZ)
  | _, _, .nil => .nil
  | _, _, .cons h t => .cons h.2 (two_den t)
theorem two_mem {T : V → List Int → Prop} : ∀ {ws : List V} {nss : List (List Int)}, Two T ws nss → ∀ x ∈ ws, ∃ n ∈ nss, T x n
  | _, _, .nil, _, h => nomatch h
  | _, _, .cons h t, x, hx => by
    rcases List.mem_cons.mp hx with rfl | hx
    · exact ⟨_, List.mem_cons_self .., h⟩
    · obtain ⟨n, h1, h2⟩ := two_mem t x hx
      exact ⟨n, List.mem_cons_of_mem _ h1, h2⟩
def gSortedA : GN := fun μ ds => match gSorted μ ds with
  | some c => some c
  | none => match ds with
    | [x] => (seqL μ x).bind fun xs => (tupsD xs).bind fun nss => if okTups nss = true then some (.list ((sortB ltL nss).map tupZ)) else none
    | _ => none
section
variable {X : Cx}
theorem cal_sortedA (hc : X.calm = true) : CalN X (.builtin "sorted") gSortedA := by
  rintro pins s σ H vs us Q I r ⟨μ, α, R, ds, c, S, h, e, q⟩
  unfold gSortedA at e
  split at e
  · rename_i c' e1
    cases e
    exact cal_sorted hc pins s σ H vs us Q I r ⟨μ, α, R, ds, c, S, h, e1, q⟩
  · split at e
    · obtain ⟨v, rfl, h1⟩ := denL1 h
      obtain ⟨xs, e1, e⟩ := Option.bind_eq_some_iff.mp e
      obtain ⟨nss, e2, e⟩ := Option.bind_eq_some_iff.mp e
      split at e
      · rename_i hok
        cases e
        obtain ⟨a, ws, rfl, hq, hl, dl⟩ := S.seqL h1 e1
        have two := tupsD_two S dl e2
        obtain ⟨d, hd1, h64, hd, hnn⟩ : ∃ d : Nat, 1 ≤ d ∧ nss.length < 64 ∧ (∀ ns ∈ nss, ns.length = d) ∧ ∀ ns ∈ nss, ∀ m ∈ ns, 0 ≤ m := by
          cases nss with
          | nil => simp [okTups] at hok
          | cons b r =>
            simp only [okTups, Bool.and_eq_true, decide_eq_true_eq, List.all_eq_true] at hok
            exact ⟨b.length, hok.2.1, hok.1, fun ns hn => (hok.2.2 ns hn).1, fun ns hn m hm => (hok.2.2 ns hn).2 m hm⟩
        obtain ⟨B, hB⟩ := bd_all nss hnn
        have hlen : ws.length = nss.length := by
          have : ∀ {ws : List V} {nss : List (List Int)}, Two (fun x ns => TupI X.K H x ns ∧ Den X.K X.mg R α x (tupZ ns)) ws nss → ws.length = nss.length := fun t => by
            induction t with
            | nil => rfl
            | cons _ _ ih => simp [ih]
          exact this two
        refine cr_sortT (d := d) (B := B) hd1 pins s σ H _ us Q I r ⟨a, ws, rfl, SqL.of hq, by omega, fun x hx => ?_, fun ys p hp hs hn => ?_⟩
        · obtain ⟨n, hn, hT, _⟩ := two_mem two x hx
          exact ⟨n, hT, hd n hn, hB n hn⟩
        · obtain ⟨nss', h3, h4⟩ := two.perm hp
          have hs2 : nss'.Pairwise fun a b => ltL b a = false := by
            refine Two.pw (T := fun x ns => (TupI X.K H x ns ∧ Den X.K X.mg R α x (tupZ ns)) ∧ ns ∈ nss) (R1 := fun x y => ∀ n m, TupI X.K H x n → TupI X.K H y m → TS.code B n ≤ TS.code B m) ?_ ?_ hs
            · intro x y n m hx hy hc
              have c1 := hc n m hx.1.1 hy.1.1
              cases hb : ltL m n with
              | false => rfl
              | true =>
                have := code_ltL (by rw [hd m hy.2, hd n hx.2]) (hB m hy.2) (hB n hx.2) hb
                omega
            · have go : ∀ {ys : List V} {ns : List (List Int)}, Two (fun x ns => TupI X.K H x ns ∧ Den X.K X.mg R α x (tupZ ns)) ys ns → (∀ n ∈ ns, n ∈ nss) → Two (fun x ns => (TupI X.K H x ns ∧ Den X.K X.mg R α x (tupZ ns)) ∧ ns ∈ nss) ys ns := fun t => by
                induction t with
                | nil => exact fun _ => .nil
                | cons h _ ih => exact fun k => .cons ⟨h, k _ (List.mem_cons_self ..)⟩ (ih fun n hn => k n (List.mem_cons_of_mem _ hn))
              exact go h4 fun n hn => h3.mem_iff.mp hn
          obtain rfl := sortB_eq ordL h3 hs2
          refine q (.non, .lst _) ⟨ys, rfl, ?_, two_den h4⟩ p hn
          rw [hp.length_eq]
          exact hl
      · cases e
    · cases e
end
end TL

set_option Elab.async false
set_option maxRecDepth 100000
set_option maxHeartbeats 2000000
set_option linter.all false
namespace TL
open PySem PySem.Spec PyProof.Rows L2
/-! ### d.update(e), e a dict that is not changed -/
def upD (more kvs : List (Key × D)) : List (Key × D) := more.foldl (fun acc kv => putD acc kv.1 kv.2) kvs
def gUpd : GM := fun μ x ds => match x, ds with
  | .loc n, [.dict more] => match μ[n]? with
    | some (some (.dict kvs)) => if kvs.length + more.length ≤ sizeLine then some (.none, μ.set n (some (.dict (upD more kvs)))) else none
    | _ => none
  | _, _ => none
theorem kv_merged {vs2 : List (Key × Value)} {ks2 : List (Key × V)} (h2 : KV ks2 vs2) : ∀ {ks : List (Key × V)} {vs : List (Key × Value)}, KV ks vs → KV (ks2.foldl (fun acc kv => putK acc kv.1 kv.2) ks) (merged vs vs2) := by
  induction h2 with
  | nil => exact fun h => h
  | @cons p q ps qs h _ ih =>
    intro ks vs h1
    obtain ⟨k, v⟩ := p
    obtain ⟨k', v'⟩ := q
    obtain ⟨e, rv⟩ := h
    cases e
    exact ih (h1.put k rv)
theorem putKs_len (ks2 : List (Key × V)) : ∀ ks : List (Key × V), (ks2.foldl (fun acc kv => putK acc kv.1 kv.2) ks).length ≤ ks.length + ks2.length := by
  induction ks2 with
  | nil => intro ks; exact Nat.le_refl _
  | cons p r ih =>
    intro ks
    have h1 := ih (putK ks p.1 p.2)
    have h2 := length_putK ks p.1 p.2
    rw [List.foldl_cons, List.length_cons]
    omega
section
variable {X : Cx}
theorem d_update {pins : List (Addr × Obj)} {σ : L2.St} {H : Hp} {s : Shared} {a b : Addr} {ks ks2 : List (Key × V)} {A : Around} {E : Value → Shared → Prop} {Q : Value → Shared → Prop} (I : Inv X pins σ H s) (e : H a = some (.dK ks)) (e2 : Rd H b (.dK ks2)) (hne : a ≠ b)
    (hl : ks.length + ks2.length ≤ sizeLine) (h : ∀ s', Inv X pins σ (upd H a (.dK (ks2.foldl (fun acc kv => putK acc kv.1 kv.2) ks))) s' → Q .none s') : wpAny (model X.prog X.w) A (call (.builtin "dict.update") [.ref a, .ref b]) Q E s := by
  obtain ⟨z, hd, vs, rel, dd⟩ := dk_of I.hok e
  obtain ⟨z2, hd2, vs2, rel2, dd2⟩ := dk_rd I.hok e2
  refine call_meetsIn PySem.F.slot_dict_update dd.typeIs PySem.F.entry_dict_update (PySem.F.args_dict_update_2 _ _) (meets_dict_update (mixKind X.prog X.w) a b hne hd2)
    ⟨vs, vs2, dd, dd2, by rw [← rel.length, ← rel2.length]; exact hl, fun h' dd' _ hs => h _ ?_⟩
  have he : ∃ q, h'.get? a = some q := let ⟨q, _, _, hq, _⟩ := dd'; ⟨q, hq⟩
  exact d_write (t' := s.toks) I (by rw [e]; exact True.intro) hs he (dk_new (Nat.le_trans (putKs_len ks2 ks) hl) hd (kv_merged rel2 rel) dd')
theorem mg_upd : MtG X "dict.update" gUpd := by
  rintro pins s σ H x vs v us Q I rx r ⟨μ, α, R, dx, ds, d, μ', S, h1, h2, e, q⟩
  unfold gUpd at e
  split at e
  · rename_i n more
    split at e
    · rename_i kvs e1
      split at e
      · rename_i hl
        cases e
        cases h1 with
        | loc hα =>
          rename_i a
          obtain ⟨w, rfl, k2⟩ := denL1 h2
          obtain ⟨nr, ks, g1, g2, g3⟩ := S.cell n _ a e1 hα
          obtain ⟨b, ks2, rfl, hd2, hl2, dk2⟩ := S.dctV k2 (kvs := more) rfl
          have hne : a ≠ b := by
            rintro rfl
            cases k2 with
            | dict h _ _ => rw [nr] at h; cases h
          have hl2 : ks.length + ks2.length ≤ sizeLine := by rw [g3.len, dk2.len]; exact hl
          obtain ⟨u, rfl, ru⟩ := vals1 r
          cases ru
          obtain rfl : v = .ref a := rx
          obtain ⟨S2, A2⟩ := S.put (u := .dK (ks2.foldl (fun acc kv => putK acc kv.1 kv.2) ks)) (c := .dict (upD more kvs)) e1 hα ⟨_, upd_same, Nat.le_trans (putKs_len ks2 ks) hl2, merge_den dk2 g3⟩
          exact d_update I g1 hd2 hne hl2 fun s' I' => ⟨.non, _, I', rfl, q _ R _ S2 A2 .none⟩
      · cases e
    · cases e
  · cases e
end
/-! ### list(range(n)) -/
def nLR1 (fa : FE) : FN := fun ρ μ => (fa ρ μ).bind fun x μ1 => match x with
  | .int n => if 0 ≤ n ∧ n ≤ 1000 then .ok (.list (rangeD 0 n.toNat)) μ1 else .bad
  | _ => .bad
theorem rgV_den {K : PySem.W.Frag} {mg : Str → Option Value} {R : Hp} {α : List Addr} (n : Nat) : DenL K mg R α (rgV 0 n) (rangeD 0 n) := by
  unfold rgV rangeD
  have e : ((n : Int) - 0).toNat = n := by omega
  rw [e]
  have go : ∀ l : List Nat, DenL K mg R α (l.map fun i : Nat => V.int (0 + (i : Nat))) (l.map fun k : Nat => D.int ((0 : Int) + (k : Nat))) := fun l => by
    induction l with
    | nil => exact .nil
    | cons x l ih => exact .cons (.int _) ih
  exact go _
section
variable {X : Cx} {E : XK} {a : Expr} {fo : FE}
theorem dn_listRange {p p2 q pos : Pos} (hc : X.calm = true) (hg : Gl X "list") (hm : X.mg "list" = none) (hg2 : Gl X "range") (hm2 : X.mg "range" = none) (ha : DE X E a fo)
    (na : starEach [a] X.env = (false, eval a X.env) :: starEach [] X.env := by rfl)
    (nb : starEach [Expr.Call (.Name "range" p2) [a] [] q] X.env = (false, eval (Expr.Call (.Name "range" p2) [a] [] q) X.env) :: starEach [] X.env := by rfl) :
    DN X E (.Call (.Name "list" p) [.Call (.Name "range" p2) [a] [] q] [] pos) (nLR1 fo) :=
  wE (pe_listRg hc hg hm (prg_1 hg2 hm2 ha na) nb) fun σ H Q ⟨ρ, μ, α, R, S, V, h⟩ => ⟨ρ, μ, α, R, S, V, h.bind fun x μ1 v α1 R1 H1 S1 A1 d1 h1 => by
    split at h1
    · rename_i n
      split at h1
      · rename_i hn
        cases d1
        obtain ⟨m, rfl⟩ := Int.eq_ofNat_of_zero_le hn.1
        refine ⟨(m : Int), rfl, RgOk.of_le (by decide) (by omega) (by decide) hn.1, fun p hp => ?_⟩
        have e := h1 (L2.V.non, .lst (rgV 0 (m : Int))) α1 R1 H1 S1 .refl ⟨_, rfl, by rw [rgV_length, sizeLine_eq]; omega, rgV_den m⟩ p hp
        exact e
      · exact False.elim h1
    · exact False.elim h1⟩
end
/-! ### sorted(set(xs)), ints -/
/-- what set() makes -/
abbrev setNew (w : World) : Obj := { cls := .type "set", dict := none, data := .set #[] 0 (.fresh 0 0 (!w.params.followText "set-order")) }
section
variable {P : Program} {w : World} {A : Around} {E : Value → Shared → Prop} {s : Shared}
theorem call_set_listI {l : Addr} {items : Array Value} (ns : List Int) {Q : Value → Shared → Prop} (hh : A.handled = none) (hl : s.heap.IsList l items) (hit : IntsAre items.toList ns) (hb : ns.length + 1 < scanBound)
    (h : ∀ (h' : Heap) (tk c : Nat), SetR w h' s.heap.objs.size (fun j => decide (j ∈ ns)) c → c ≤ ns.length → (∀ b o, s.heap.get? b = some o → h'.get? b = some o) → Q (.ref s.heap.objs.size) { s with heap := h', toks := tk }) :
    wpAny (model P w) A (call (.type "set") [.ref l]) Q E s := by
  have hisz : items.size = ns.length := by
    have q := IntsAre.length hit
    rw [Array.length_toList] at q
    exact q
  obtain ⟨c, tl, hmro⟩ := F.called_set.mro
  have hmade := F.called_set.made
  have hsub := F.called_set.sub
  refine wpAny_call (codeAny_of_tree ?_)
  show wpAny _ _ (callAny (.type "set") _) _ _ _
  refine wpAny_pure ⟨Code.quiet_builtin _ (by decide +kernel), codeAny_builtin F.entry_type_call ?_⟩
  rw [Around.under_plain (weight_type_call_type "set" [.ref l] []) rfl]
  have h1 := F.called_set.notType
  have h2 := F.called_set.canCreate
  have hct := F.typeCall_set_1 (.ref l)
  repeat (any_goals (first | assumption | wp_step))

  refine codeAny_mono (code_set_led1 (.ref l) (E := E) (Q₁ := fun obj s₁ => obj = .ref s.heap.objs.size ∧ s₁ = { s with heap := s.heap.push (setNew w) }) ⟨rfl, rfl⟩) fun r s₁ hr => ?_
  cases r with
  | error e => exact hr
  | ok fl =>
    cases fl with
    | ret obj =>
      obtain ⟨rfl, rfl⟩ := hr
      have hS : (s.heap.push (setNew w)).get? s.heap.objs.size = some (setNew w) := Heap.get?_push_size _ rfl
      have hT : Shared.TypeIs { s with heap := s.heap.push (setNew w) } (.ref s.heap.objs.size) "set" := ⟨_, hS, rfl⟩
      have hli := F.called_set.init.lookup
      have hbi := F.called_set.init.bind (.ref s.heap.objs.size)
      repeat (any_goals (first | assumption | wp_step))

      refine codeAny_mono (codeAny_call_builtin (R := wants (fun r s₂ => r = .none ∧ ∃ h' tk c, s₂ = { s with heap := h', toks := tk } ∧ SetR w h' s.heap.objs.size (fun j => decide (j ∈ ns)) c ∧ c ≤ ns.length ∧
          (∀ b o, s.heap.get? b = some o → h'.get? b = some o)) E) F.called_set.init.plain F.entry_set_init (check_set_init_1 hT ?_)) fun r₂ s₂ hr₂ => ?_
      · obtain ⟨ol, hol, hcl, nl, hdl⟩ := hl
        obtain ⟨ocls, odict, odata, oslots⟩ := ol
        simp only at hcl hdl
        subst hcl; subst hdl
        have hol' : (s.heap.push (setNew w)).get? l = some { cls := .type "list", dict := odict, data := .seq items nl, slots := oslots } := Heap.get?_push_of_some _ hol
        have hsls := F.sub_list_set
        have hslf := F.sub_list_frozenset
        have hne : (Value.type "list" == Value.type "dict") = false := by decide
        have hl1 : (s.heap.push (setNew w)).IsList l items := ⟨_, hol', rfl, nl, rfl⟩
        unfold Builtin.«set.__init__» noKeywords Builtin.Frozenset.updateFrom
        generalize hPI : pyIter = PI
        wp_walk
        subst hPI

        refine wpAny_pyIter_list hl1 ?_
        refine wpAny_bind (wpAny_runValue ?_)
        have hlS : l < s.heap.objs.size := Heap.lt_size hol
        have hh3 : A.in1.in1.in1.handled = none := by simp [hh]
        have hz1 : (s.heap.push (setNew w)).objs.size = s.heap.objs.size + 1 := Heap.size_push ..
        have hneI : l ≠ (s.heap.push (setNew w)).objs.size := by
          rw [Heap.size_push]; exact Nat.ne_of_lt (Nat.lt_succ_of_lt hlS)
        have hSf : s.heap.objs.size ∉ [(s.heap.push (setNew w)).objs.size, l] := by
          rw [Heap.size_push]; simp only [List.mem_cons, List.mem_singleton, List.not_mem_nil, or_false, not_or]
          exact ⟨Nat.ne_of_lt (Nat.lt_succ_self _), Nat.ne_of_gt hlS⟩
        have hval : ∀ (i : Nat) (v : Value), items[i]? = some v → ∃ k t, ns[i]? = some k ∧ v = .int k t := fun i v hv => by
          have hi : i < ns.length := by rw [← hisz]; exact (Array.getElem?_eq_some_iff.mp hv).1
          obtain ⟨t, e⟩ := PyProof.Rows.IntsAre.int_at hit i v (by rw [Array.getElem?_toList]; exact hv)
          refine ⟨ns[i], t, List.getElem?_eq_getElem hi, ?_⟩
          rw [e, List.getD_eq_getElem?_getD, List.getElem?_eq_getElem hi] <;> rfl
        refine set_update_ints ((Walks.list hh3 _ l hneI items).toS) s.heap.objs.size
          hSf ns hisz hb hval (items.size - 0) 0 _ (by omega) (Nat.zero_le _)
          ⟨⟨_, Heap.get?_push_size _ rfl, rfl, rfl⟩, (hl1.push _)⟩ ?hS0 ?hR
        case hS0 =>
          have hget : ((s.heap.push (setNew w)).push { cls := .type "list_iterator", data := .fields #[.ref l, .int 0 0] }).get? s.heap.objs.size
              = some (setNew w) := Heap.get?_push_of_some _ hS
          exact ⟨0, Nat.le_refl 0, setR_new_at hget⟩
        case hR =>
          intro s' c' hm hc' hS'
          obtain ⟨h', g2, d', tk', os'⟩ := s'
          have eg : g2 = s.gens := hm.gens
          have ed : d' = s.drawn := hm.drawn
          have eo : os' = s.os := hm.os
          subst eg; subst ed; subst eo
          show wpAny _ _ _ _ _ _
          refine wpAny_pure ?_
          show wpAny _ _ (ret Value.none) _ _ _
          rw [hisz] at hc'
          refine wpAny_pure ⟨rfl, h', tk', c', rfl, hS', hc', fun b o e => ?_⟩
          have hb0 : b < s.heap.objs.size := Heap.lt_size e
          have hb1 : b ≠ s.heap.objs.size := Nat.ne_of_lt hb0
          have hb2 : b ≠ (s.heap.push (setNew w)).objs.size := by
            rw [Heap.size_push]; exact Nat.ne_of_lt (Nat.lt_succ_of_lt hb0)
          exact hm.heap b o (by simp only [List.mem_cons, List.mem_singleton, List.not_mem_nil, or_false, not_or]; exact ⟨hb1, hb2⟩) (Heap.get?_push_of_some _ (Heap.get?_push_of_some _ e))

      · cases r₂ with
        | error e => exact hr₂
        | ok fl₂ =>
          cases fl₂ with
          | ret r =>
            obtain ⟨rfl, h', tk, c', rfl, hS', hc', hk'⟩ := hr₂
            repeat (any_goals (first | assumption | wp_step))
            exact h _ _ _ hS' hc' hk'
          | _ => exact hr₂.elim
    | _ => exact hr.elim
end
def insZ (x : Int) : List Int → List Int
  | [] => [x]
  | y :: r => if x < y then x :: y :: r else if x = y then y :: r else y :: insZ x r
def setZ (ns : List Int) : List Int := ns.foldr insZ []
theorem insZ_mem {x z : Int} : ∀ {l : List Int}, z ∈ insZ x l ↔ z = x ∨ z ∈ l
  | [] => by simp [insZ]
  | y :: r => by
    unfold insZ
    split
    · simp
    · split
      · rename_i h
        subst h
        simp
      · simp only [List.mem_cons, insZ_mem (l := r)]
        constructor
        · rintro (h | h | h)
          · exact .inr (.inl h)
          · exact .inl h
          · exact .inr (.inr h)
        · rintro (h | h | h)
          · exact .inr (.inl h)
          · exact .inl h
          · exact .inr (.inr h)
theorem insZ_asc {x : Int} : ∀ {l : List Int}, l.Pairwise (· < ·) → (insZ x l).Pairwise (· < ·)
  | [], _ => by simp [insZ]
  | y :: r, h => by
    obtain ⟨h1, h2⟩ := List.pairwise_cons.mp h
    unfold insZ
    split
    · rename_i hx
      refine List.pairwise_cons.mpr ⟨fun z hz => ?_, h⟩
      rcases List.mem_cons.mp hz with rfl | hz
      · exact hx
      · have := h1 z hz; omega
    · split
      · exact h
      · refine List.pairwise_cons.mpr ⟨fun z hz => ?_, insZ_asc h2⟩
        rcases insZ_mem.mp hz with rfl | hz
        · omega
        · exact h1 z hz
theorem setZ_mem {z : Int} : ∀ {ns : List Int}, z ∈ setZ ns ↔ z ∈ ns
  | [] => by simp [setZ]
  | x :: r => by
    show z ∈ insZ x (setZ r) ↔ _
    rw [insZ_mem, setZ_mem, List.mem_cons]
theorem setZ_asc : ∀ ns : List Int, (setZ ns).Pairwise (· < ·)
  | [] => .nil
  | x :: r => insZ_asc (setZ_asc r)
theorem asc_eq : ∀ {a b : List Int}, a.Pairwise (· < ·) → b.Pairwise (· < ·) → (∀ z, z ∈ a ↔ z ∈ b) → a = b
  | [], [], _, _, _ => rfl
  | [], y :: b, _, _, h => absurd ((h y).mpr (List.mem_cons_self ..)) (by simp)
  | x :: a, [], _, _, h => absurd ((h x).mp (List.mem_cons_self ..)) (by simp)
  | x :: a, y :: b, ha, hb, h => by
    obtain ⟨a1, a2⟩ := List.pairwise_cons.mp ha
    obtain ⟨b1, b2⟩ := List.pairwise_cons.mp hb
    have e : x = y := by
      rcases List.mem_cons.mp ((h x).mp (List.mem_cons_self ..)) with e | hx
      · exact e
      · rcases List.mem_cons.mp ((h y).mpr (List.mem_cons_self ..)) with e | hy
        · exact e.symm
        · have := b1 x hx
          have := a1 y hy
          omega
    subst e
    rw [asc_eq a2 b2 fun z => ?_]
    constructor
    · intro hz
      rcases List.mem_cons.mp ((h z).mp (List.mem_cons_of_mem _ hz)) with rfl | q
      · have := a1 z hz; omega
      · exact q
    · intro hz
      rcases List.mem_cons.mp ((h z).mpr (List.mem_cons_of_mem _ hz)) with rfl | q
      · have := b1 z hz; omega
      · exact q
theorem setZ_eq {ns : List Int} : setZ ns = ns ↔ ns.Pairwise (· < ·) := ⟨fun h => h ▸ setZ_asc ns, fun h => asc_eq (setZ_asc ns) h fun _ => setZ_mem⟩
def nSortSet (fo : FE) : FN := fun ρ μ => (fo ρ μ).bind fun x μ1 => match (seqL μ1 x).bind intsD with
  | some ns => if ns.length < 64 then .ok (.list ((setZ ns).map D.int)) μ1 else .bad
  | none => .bad
section
variable {X : Cx} {E : XK} {a : Expr} {fo : FE}
theorem dn_sortSet {p p2 q pos : Pos} (hc : X.calm = true) (hg : Gl X "sorted") (hm : X.mg "sorted" = none) (hg2 : Gl X "set") (hm2 : X.mg "set" = none) (ha : DE X E a fo)
    (na : starEach [a] X.env = (false, eval a X.env) :: starEach [] X.env := by rfl) : DN X E (.Call (.Name "sorted" p) [.Call (.Name "set" p2) [a] [] q] [] pos) (nSortSet fo) := by
  refine ⟨fun pins s σ H Q I ⟨ρ, μ, α, R, S, W0, h⟩ => ?_⟩
  refine Call_ (ld_blt I hg hm rfl ?_)
  refine PyProof.Rows.callWith_builtin1 (PyProof.Rows.args_cons ?_ rfl) rfl rfl
  refine Call_ (ld_blt I hg2 hm2 PyProof.Rows.boot_set ?_)
  have ha' := ha.run pins s σ H (fun v H1 => ∃ (l : Addr) (ns : List Int), v = .ref l ∧ SqL X.K H1 l (ns.map V.int) ∧ ns.length < 64 ∧ ∀ p, H1 p = none → Q (.ref p) (upd H1 p (.lst ((setZ ns).map V.int)))) I ⟨ρ, μ, α, R, S, W0, h.bind fun x μ1 v α1 R1 H1 S1 A1 d1 h1 => by
    split at h1
    · rename_i ns e
      obtain ⟨xs, e3, e4⟩ := Option.bind_eq_some_iff.mp e
      split at h1
      · rename_i hl
        obtain ⟨l, ws, rfl, hq, hl2, dl⟩ := S1.seqL d1 e3
        obtain rfl := intsD_den dl e4
        have dz : ∀ l : List Int, DenL X.K X.mg R1 α1 (l.map V.int) (l.map D.int) := fun l => by
          induction l with
          | nil => exact .nil
          | cons z l ih => exact .cons (.int _) ih
        have lz : (setZ ns).length ≤ ns.length := by
          have : ∀ l : List Int, (setZ l).length ≤ l.length := fun l => by
            induction l with
            | nil => exact Nat.le_refl _
            | cons x r ih =>
              have : ∀ l : List Int, (insZ x l).length ≤ l.length + 1 := fun l => by
                induction l with
                | nil => exact Nat.le_refl _
                | cons y l ih =>
                  unfold insZ
                  split
                  · exact Nat.le_refl _
                  · split
                    · exact Nat.le_succ _
                    · simp only [List.length_cons]; omega
              have h1 := this (setZ r)
              show (insZ x (setZ r)).length ≤ _
              rw [List.length_cons]
              omega
          exact this ns
        exact ⟨l, ns, rfl, SqL.of hq, hl, fun p hp => h1 (L2.V.non, .lst ((setZ ns).map V.int)) α1 R1 H1 S1 .refl ⟨_, rfl, by rw [List.length_map, sizeLine_eq]; omega, dz _⟩ p hp⟩
      · exact False.elim h1
    · exact False.elim h1⟩
  refine PyProof.Rows.callWith_type1 (PyProof.Rows.args_cons (thn ha' fun v s1 ⟨x, H1, I1, r1, q1⟩ => PyProof.Rows.args_nil ?_) na) na rfl
  obtain ⟨l, ns, rfl, hq, hl, q1⟩ := q1
  cases r1
  obtain ⟨its, r, pl, hz⟩ := I1.list hq
  refine call_set_listI ns (I1.ok.hd hc) pl.isList (by simpa using r.ints) (by unfold scanBound; omega) fun h' tk c hS hcl hk => ?_
  refine PyProof.Rows.args_nil ?_
  have I2 : Inv X pins σ H1 { s1 with heap := h', toks := tk } := I1.kept fun b o e => hk b o e
  refine sorted_set hS (I2.ok.hd hc) (by omega) fun s' p out c2 ns2 k g o hp hg hi hs hmm hl2 => ?_
  have hn2 : ns2 = setZ ns := asc_eq hs (setZ_asc ns) fun z => by rw [hmm, setZ_mem]; simp
  subst hn2
  have hlen : ((setZ ns).map V.int).length ≤ sizeLine := by rw [List.length_map, hl2, sizeLine_eq]; omega
  have hn : H1 p = none := I2.hok.fresh hp
  have J : Inv X pins σ (upd H1 p (.lst ((setZ ns).map V.int))) s' := I2.call' (ch := []) o (Un.laid k hp hn) (I2.hok.laid k hp ⟨hlen, out.toList, c2, vals_of_ints hi, hg⟩) (by rw [g]; exact I2.bare) (fun _ z => nomatch z)
  exact ⟨.ref p, _, J, rfl, q1 p hn⟩
end
end TL

set_option Elab.async false
set_option maxRecDepth 100000
set_option maxHeartbeats 2000000
set_option linter.all false
namespace TL
open PySem PySem.Spec PyProof.Rows L2
/-! ### xs == [], whatever stands in xs -/
def gEqE : G2 := fun μ x y => match y, seqL μ x with
  | .list [], some (_ :: _) => some (.bool false)
  | _, _ => gEq μ x y
section
variable {X : Cx}
theorem o2_eqE (hu : X.A.units + 64 < cLine) : Op2 X (compareOp .Eq) gEqE := by
  rintro pins s σ H x y v u Q I rx ry ⟨μ, α, R, dx, dy, d, S, h1, h2, e, q⟩
  unfold gEqE at e
  split at e
  · rename_i z zs e1
    cases e
    obtain ⟨a, ws, rfl, hq, hl, dl⟩ := S.seqL h1 e1
    obtain ⟨b, ws2, rfl, hq2, hl2, dl2⟩ := S.seqL h2 (xs := []) rfl
    cases dl2
    obtain ⟨its, r, pl, hz⟩ := I.list (SqL.of hq)
    obtain ⟨its2, r2, pl2, hz2⟩ := I.list (SqL.of hq2)
    cases r2
    cases rx
    cases ry
    have hlen : its.length = zs.length + 1 := by rw [← r.length, dl.len]; rfl
    refine SeqAt.eq_list_lengthsAt pl.isList pl2.isList ?_ (by omega) ⟨.bl false, H, I, rfl, q _ R H S .refl (.bool _)⟩
    have : its.toArray.size ≠ 0 := by rw [List.size_toArray]; omega
    simpa using this
  · exact o2_eq hu pins s σ H x y v u Q I rx ry ⟨μ, α, R, dx, _, d, S, h1, h2, e, q⟩
end
theorem gEqE_nil {xs : List D} {μ : Mu} : gEqE μ (.list xs) (.list []) = some (.bool xs.isEmpty) := by
  cases xs with
  | nil => rfl
  | cons x xs => rfl
end TL

set_option Elab.async false
set_option maxRecDepth 100000
set_option maxHeartbeats 2000000
set_option linter.all false
namespace TL
open PySem PySem.Spec PyProof.Rows L2
/-! ### xs.insert(i, y) -/
def gInsert : GM := fun μ x ds => match x, ds with
  | .loc n, [.int i, d] => match μ[n]? with
    | some (some (.list xs)) => if xs.length < sizeLine ∧ 0 ≤ i ∧ i < 2 ^ 63 then some (.none, μ.set n (some (.list (xs.take i.toNat ++ [d] ++ xs.drop i.toNat)))) else none
    | _ => none
  | _, _ => none
section
variable {X : Cx}
theorem mg_insert : MtG X "list.insert" gInsert := by
  rintro pins s σ H x vs v us Q I rx r ⟨μ, α, R, dx, ds, d, μ', S, h1, h2, e, q⟩
  unfold gInsert at e
  split at e
  · rename_i n i d'
    split at e
    · rename_i xs e1
      split at e
      · rename_i hl
        cases e
        cases h1 with
        | loc hα =>
          rename_i a
          obtain ⟨w0, w, rfl, k0, k2⟩ := denL2 h2
          cases k0
          obtain ⟨_, ws, g1, g2, g3⟩ := S.cell n _ a e1 hα
          have hl2 : ws.length < sizeLine := by rw [g3.len]; exact hl.1
          obtain ⟨S2, A2⟩ := S.put (u := .lst (ws.take i.toNat ++ [w] ++ ws.drop i.toNat)) (c := .list (xs.take i.toNat ++ [d'] ++ xs.drop i.toNat)) e1 hα ⟨_, upd_same, by
            rw [List.length_append, List.length_append, List.length_take, List.length_drop, List.length_singleton]; omega, ((g3.take _).append (.cons k2 .nil)).append (g3.drop _)⟩
          exact mt_insert pins s σ H _ _ v us Q I rx r ⟨a, ws, i, w, rfl, rfl, g1, hl2, hl.2.1, hl.2.2, q _ R _ S2 A2 .none⟩
      · cases e
    · cases e
  · cases e
end
/-! ### the items of a list's cell, frozen -/
def frzItems (n : Nat) : List D → Mu → Option (List D × Mu)
  | [], μ => some ([], μ)
  | .loc m :: r, μ => match μ[m]? with
    | some (some (.list xs)) => if m = n then none else (frzItems n r (μ.set m none)).map fun p => (.list xs :: p.1, p.2)
    | _ => none
  | d :: r, μ => (frzItems n r μ).map fun p => (d :: p.1, p.2)
def sFrzL (i : Nat) : FS := fun ρ μ => match ρ[i]? with
  | some (some (.loc n)) => (match μ[n]? with
    | some (some (.list xs)) => (match frzItems n xs μ with
      | some p => .ok (.nx ρ) (p.2.set n (some (.list p.1)))
      | none => .bad)
    | _ => .bad)
  | _ => .bad
theorem frzItems_ok {K : PySem.W.Frag} {mg : Str → Option Value} {H : Hp} {α : List Addr} {n : Nat} : ∀ {kvs : List D} {ks : List V} {μ : Mu} {R : Hp} {q : List D × Mu}, SM K mg μ α R H → DenL K mg R α ks kvs → frzItems n kvs μ = some q →
    ∃ R', SM K mg q.2 α R' H ∧ Adv α R H α R' H ∧ DenL K mg R' α ks q.1 ∧ q.2[n]? = μ[n]?
  | [], _, μ, R, q, S, .nil, e => by
    cases e
    exact ⟨R, S, .refl, .nil, rfl⟩
  | d :: r, _, μ, R, q, S, .cons h t, e => by
    by_cases hd : ∃ m, d = .loc m
    · obtain ⟨m, rfl⟩ := hd
      simp only [frzItems] at e
      split at e
      · rename_i xs ec
        split at e
        · cases e
        · rename_i hmn
          obtain ⟨p, e1, rfl⟩ := Option.map_eq_some_iff.mp e
          cases h with
          | loc hα =>
            obtain ⟨R1, S1, A1, d1⟩ := S.freeze ec hα
            obtain ⟨R2, S2, A2, d2, e2⟩ := frzItems_ok S1 (t.up A1.r A1.a) e1
            exact ⟨R2, S2, A1.trans A2, .cons (d1.adv A2) d2, e2.trans (List.getElem?_set_ne hmn)⟩
      · cases e
    · have e1 : (frzItems n r μ).map (fun p => (d :: p.1, p.2)) = some q := by
        cases d with
        | loc m => exact absurd ⟨m, rfl⟩ hd
        | _ => exact e
      obtain ⟨p, e2, rfl⟩ := Option.map_eq_some_iff.mp e1
      obtain ⟨R2, S2, A2, d2, e3⟩ := frzItems_ok S t e2
      exact ⟨R2, S2, A2, .cons (h.adv A2) d2, e3⟩
section
variable {X : Cx} {E : XK}
theorem dss_frzL (i : Nat) {sts : List Stmt} {g : FS} (h : DSs X E sts g) : DSs X E sts (sSeq (sFrzL i) g) :=
  wSs h fun Dn σ H ⟨ρ, μ, α, R, S, V, h⟩ => by
    unfold sSeq sFrzL at h
    split at h
    · rename_i n e
      split at h
      · rename_i kvs ec
        split at h
        · rename_i q eq
          obtain ⟨v, hv, qd⟩ := V.2 i _ e
          cases qd with
          | loc hα =>
            rename_i a
            obtain ⟨_, ks, g1, g2, g3⟩ := S.cell n _ a ec hα
            obtain ⟨R1, S1, A1, d1, e1⟩ := frzItems_ok S g3 eq
            have hu : upd H a (.lst ks) = H := by
              funext b
              by_cases hb : b = a
              · rw [hb, upd_same, g1]
              · rw [upd_ne hb]
            obtain ⟨S2, A2⟩ := S1.put (u := .lst ks) (c := .list q.1) (e1.trans ec) hα ⟨ks, upd_same, g2, d1⟩
            rw [hu] at S2 A2
            exact ⟨ρ, _, α, R1, S2, (V.adv A1).adv A2, AfterS.adv (A1.trans A2) h⟩
        · exact False.elim h
      · exact False.elim h
    · exact False.elim h
end
/-! ### a, b = a list of two -/
def sAsgL (ts : List Tg) (f : FE) : FS := fun ρ μ => (f ρ μ).bind fun d μ1 => match d with
  | .list xs => (match tgSets ts xs ρ with
    | some ρ1 => .ok (.nx ρ1) μ1
    | none => .bad)
  | _ => .bad
section
variable {X : Cx} {E : XK} {pos : Pos}
theorem ds_asgL {es : List Expr} {k : Nat} {p2 : Pos} {e : Expr} {ts : List Tg} {fe : FE} (hc : X.calm = true) (he : DE X E e fe) (hg : GTs X es ts) (hn : (assignEach es X.env).length = ts.length := by rfl) (hst : (assignEach es X.env).findIdx? (·.1) = none := by rfl)
    (hs : swapsWithSole [.Tuple es k p2] e pos.line X.env = pure false := by rfl) (hw : swappedStores [.Tuple es k p2] e X.env = pure none := by rfl)
    (h1 : (assignEach [.Tuple es k p2] X.env).map (·.2) = [assign (.Tuple es k p2) X.env] := by rfl) : DS X E (.Assign [.Tuple es k p2] e pos) (sAsgL ts fe) :=
  wS (ps_asg he (pg_lst (pos := p2) (k := k) hc hg.1 hn hst) hs hw h1) fun Dn σ H ⟨ρ, μ, α, R, S, V, h⟩ => ⟨ρ, μ, α, R, S, V, h.bind fun d μ1 v α1 R1 H1 S1 A1 q1 q => by
    split at q
    · rename_i xs
      split at q
      · rename_i ρ1 e1
        cases q1 with
        | list a1 a2 a3 =>
          rename_i a vs
          exact ⟨a, vs, rfl, SqL.of (S1.lst a1), a3.len.trans (tgs_len (K := X.K) (mg := X.mg) (R := R1) (H := H1) (α := α1) (μ := μ1) ts xs ρ ρ1 e1), tgs_ok S1 ts xs vs ρ ρ1 σ _ (V.adv A1) a3 e1 fun σ' V' _ _ => q σ' α1 R1 H1 S1 .refl V'⟩
      · exact False.elim q
    · exact False.elim q⟩
end
end TL

set_option Elab.async false
set_option maxRecDepth 100000
set_option maxHeartbeats 2000000
set_option linter.all false
namespace TL
open PySem PySem.Spec PyProof.Rows L2
/-! ### sorted(d.items()), ints as keys and values -/
theorem perm_map_inv {σ τ : Type} {f : σ → τ} {l : List σ} {m : List τ} (h : m.Perm (l.map f)) : ∃ l' : List σ, l'.Perm l ∧ m = l'.map f := by
  generalize hn : l.map f = n at h
  induction h generalizing l with
  | nil => exact ⟨[], by rw [List.map_eq_nil_iff.mp hn], rfl⟩
  | cons x _ ih =>
    cases l with
    | nil => cases hn
    | cons a l =>
      rw [List.map_cons, List.cons.injEq] at hn
      obtain ⟨l', h1, h2⟩ := ih hn.2
      exact ⟨a :: l', h1.cons a, by rw [List.map_cons, hn.1, h2]⟩
  | swap x y l2 =>
    match l, hn with
    | a :: b :: l, hn =>
      simp only [List.map_cons, List.cons.injEq] at hn
      exact ⟨b :: a :: l, List.Perm.swap a b l, by rw [List.map_cons, List.map_cons, hn.1, hn.2.1, hn.2.2]⟩
  | trans _ _ ih1 ih2 =>
    obtain ⟨l2, h1, h2⟩ := ih2 hn
    obtain ⟨l1, h3, h4⟩ := ih1 h2.symm
    exact ⟨l1, h3.trans h1, h4⟩
theorem laysT {K : PySem.W.Frag} {mg : Str → Option Value} {μ : Mu} {α : List Addr} : ∀ (as : List Addr) (kvs : List (Key × V)) {R H : Hp}, SM K mg μ α R H → (∀ a ∈ as, H a = none) → as.Nodup → SM K mg μ α (LiI.putT R as kvs) (LiI.putT H as kvs) ∧ Adv α R H α (LiI.putT R as kvs) (LiI.putT H as kvs)
  | [], _, R, H, S, _, _ => ⟨S, .refl⟩
  | _ :: _, [], R, H, S, _, _ => ⟨S, .refl⟩
  | a :: as, p :: kvs, R, H, S, h, hn => by
    obtain ⟨h1, h2⟩ := List.nodup_cons.mp hn
    obtain ⟨S1, A1⟩ := S.lay (u := .tup [kV p.1, p.2]) (h a (List.mem_cons_self ..))
    obtain ⟨S2, A2⟩ := laysT as kvs S1 (fun b hb => by
      rw [upd_ne (fun e : b = a => h1 (by rw [← e]; exact hb))]
      exact h b (List.mem_cons_of_mem _ hb)) h2
    exact ⟨S2, A1.trans A2⟩
section
variable {X : Cx}
theorem items_laid0 {pins : List (Addr × Obj)} {σ : L2.St} {H : Hp} {s : Shared} {h' : Heap} {tk : Nat} {kvs : List (Key × V)} {vs : List (Key × Value)} {as : List Addr} (I : Inv X pins σ H s) (kv : KV kvs vs)
    (hk : ∀ b o, s.heap.get? b = some o → h'.get? b = some o) (hl : as.length = vs.length) (hG : PySem.W.KdxG (mixKind X.prog X.w) vs s.heap.objs.size h' as) :
    as.Nodup ∧ (∀ t ∈ as, H t = none) ∧ Paired (fun (t : Addr) (q : Key × V) => LiI.putT H as kvs t = some (.tup [kV q.1, q.2])) as kvs ∧ Inv X pins σ (LiI.putT H as kvs) { s with heap := h', toks := tk } := by
  have lk : kvs.length = vs.length := Paired.length kv
  have nd : as.Nodup := List.Pairwise.imp (fun {a b} (h : a < b) => Nat.ne_of_lt h) hG.rise
  have new : ∀ t ∈ as, H t = none := fun t ht => I.hok.fresh (Nat.le_of_lt (hG.above t ht))
  have atP := LiI.putT_at as kvs H (by omega) nd
  have off : ∀ b, b ∉ as → LiI.putT H as kvs b = H b := fun b h1 => LiI.putT_off as kvs _ h1
  have low : ∀ b o, s.heap.get? b = some o → b ∉ as := fun b o e z => absurd (Heap.lt_size e) (Nat.not_lt.mpr (Nat.le_of_lt (hG.above b z)))
  have kp : ∀ b u, H b = some u → LiI.putT H as kvs b = some u := fun b u e => by
    rw [off b (fun z => by rw [new b z] at e; cases e)]
    exact e
  refine ⟨nd, new, atP, ?_⟩
  refine I.call' (ch := []) rfl ⟨fun b o q _ _ _ => hk b o q, fun b o q _ _ _ => ⟨o.slots, hk b o q⟩, fun b o q n _ => ?_, fun b o q _ => ⟨o, hk b o q⟩, fun b xs q => kp b _ q, fun b o u q => kp b _ q, fun b ps q => ⟨#[], by rw [kp b _ q]; simp⟩⟩ (fun b u q => ?_) I.bare fun b z => by simp at z
  · rw [off b (low b o q)]
    exact n
  · by_cases hb : b ∈ as
    · obtain ⟨j, pk, e1, e2, e3⟩ := LiI.paired_ix atP hb
      rw [e3] at q
      cases q
      obtain ⟨key, k, x, f1, f2, f3⟩ := hG.pairs j b e1
      obtain ⟨qv, g1, g2, g3⟩ := LiI.paired_get kv e2
      rw [f1] at g1
      cases g1
      have rk : RelV (kV pk.1) key := by
        rw [g2]
        exact keyIs_rel (show keyIs k key = true from f2)
      exact ⟨by show 2 ≤ sizeLine; decide, [key, x], .cons rk (.cons g3 .nil), ⟨_, f3, rfl, _, rfl⟩⟩
    · rw [off b hb] at q
      exact (I.hok b u q).stay (fun d v _ y => hk d v y) (fun d y => kp d _ y) fun d xs y => kp d _ y
def rSortItems : V → Hp → VK → Prop := fun x H Q => ∃ (d : Addr) (zs : List (Int × Int)), x = .ref d ∧ Rd H d (.dK (zs.map fun z => ((Sum.inl z.1 : Key), V.int z.2))) ∧ zs.length < 64 ∧ (∀ z ∈ zs, 0 ≤ z.1 ∧ 0 ≤ z.2) ∧
  ∀ (as : List Addr) (ys : List (Addr × (Int × Int))) (p : Addr), as.length = zs.length → as.Nodup → (∀ t ∈ as, H t = none) → p ∉ as → H p = none →
    (ys.map (·.2)).Perm zs → (∀ y ∈ ys, LiI.putT H as (zs.map fun z => ((Sum.inl z.1 : Key), V.int z.2)) y.1 = some (.tup [V.int y.2.1, V.int y.2.2]) ∧ y.1 ∈ as) → (ys.map fun y => [y.2.1, y.2.2]).Pairwise (fun a b => ltL b a = false) →
    Q (.ref p) (upd (LiI.putT H as (zs.map fun z => ((Sum.inl z.1 : Key), V.int z.2))) p (.lst (ys.map fun y => V.ref y.1)))
variable {e : Expr} {te : TE} {p apos cpos pos : Pos}
theorem tupsOk_of {h : Heap} {vs : List (Key × Value)} {zs : List (Int × Int)} {as : List Addr} {lo : Addr} (kv : KV (zs.map fun z => ((Sum.inl z.1 : Key), V.int z.2)) vs) (hG : PySem.W.KdxG (mixKind X.prog X.w) vs lo h as) (hl : as.length = vs.length) (j : Nat) (a : Addr) (ha : as[j]? = some a) :
    ∃ z, zs[j]? = some z ∧ TS.TupInts h (.ref a) [z.1, z.2] := by
  obtain ⟨key, k, x, f1, f2, f3⟩ := hG.pairs j a ha
  have hj : j < zs.length := by
    have l1 : (zs.map fun z => ((Sum.inl z.1 : Key), V.int z.2)).length = vs.length := Paired.length kv
    rw [List.length_map] at l1
    have := (List.getElem?_eq_some_iff.mp f1).1
    omega
  have e1 : (zs.map fun z => ((Sum.inl z.1 : Key), V.int z.2))[j]? = some (.inl zs[j].1, .int zs[j].2) := by
    rw [List.getElem?_map, List.getElem?_eq_getElem hj]
    rfl
  obtain ⟨q, g1, g2, g3⟩ := LiI.paired_get kv e1
  rw [f1] at g1
  cases g1
  have g2 : Sum.inl zs[j].1 = k := g2
  subst g2
  obtain ⟨t1, rfl⟩ : ∃ t, key = .int zs[j].1 t := keyIs_rel (k := Sum.inl zs[j].1) (show keyIs _ key = true from f2)
  obtain ⟨t2, rfl⟩ : ∃ t, x = .int zs[j].2 t := g3
  exact ⟨zs[j], List.getElem?_eq_getElem hj, a, _, rfl, ⟨_, f3, rfl, _, rfl⟩, .cons _ _ (.cons _ _ .nil)⟩
theorem pe_sortItems (hc : X.calm = true) (he : PE X e te) (hg : Gl X "sorted") (hm : X.mg "sorted" = none) (hbase : attributeBase e "items" X.env (eval e X.env) = eval e X.env := by rfl) (hline : (apos.endLine == cpos.line) = true := by rfl)
    (hs : starEach [.Call (.Attribute e "items" apos) [] [] cpos] X.env = (false, eval (.Call (.Attribute e "items" apos) [] [] cpos) X.env) :: starEach [] X.env := by rfl) :
    PE X (.Call (.Name "sorted" p) [.Call (.Attribute e "items" apos) [] [] cpos] [] pos) (fun σ H Q => te σ H fun x H1 => rSortItems x H1 Q) := by
  refine ⟨fun pins s σ H Q I hq => ?_⟩
  refine Call_ (ld_blt I hg hm rfl ?_)
  refine PyProof.Rows.callWith_builtin1 (PyProof.Rows.args_cons ?_ hs) hs rfl
  refine wpAny_Call_method (T := "dict") (id := "dict.items") hbase rfl hline F.plainAttrs_dict F.slot_dict_items F.type_dict_items (thn (he.run pins s σ H _ I hq) fun u s1 ⟨x, H1, I1, rx, d, zs, ex, hd, h64, hz0, q⟩ => ?_)
  subst ex
  obtain rfl : u = Value.ref d := rx
  obtain ⟨hz, hs0, vs, kv, hdo⟩ := dk_rd I1.hok hd
  obtain ⟨ep, hat⟩ := hdo.dictAt
  have lk : zs.length = vs.length := by have := Paired.length kv; rwa [List.length_map] at this
  have I2 : Inv X pins σ H1 { s1 with heap := s1.heap.push { cls := .type "dict_items", data := .fields #[.ref d] } } := I1.kept (t' := s1.toks) fun b ob q => Heap.get?_push_of_some _ q
  refine ⟨hdo.typeIs, hdo.mapOf.noDict, ?_⟩
  show wpAny _ _ (callWith cpos (.builtin "dict.items") [.ref d] [] []) _ X.xe s1
  refine method_meetsIn F.slot_dict_items F.entry_dict_items rfl (PySem.evalArgs_none ⟨rfl, hdo.typeIs, F.args_dict_items_1 _, _, meets_dict_items (mixKind X.prog X.w) d hs0, ⟨vs, hdo⟩, ?_⟩)
  refine PyProof.Rows.args_nil ?_
  refine Calls.call_function_entry kind_sorted plain_sorted entry_sorted (args_sorted1 _) ?_
  unfold Builtin.«sorted»
  refine wpAny_bind (m := checkCount "sorted" 1 1 _) (wpAny_pure ?_)
  refine wpAny_bind (PySem.W.kdx_collect (knd := mixKind X.prog X.w) (kvs := vs) (ep := ep) (I1.ok.hd hc) ⟨_, Heap.get?_push_size _ rfl, rfl, rfl⟩ (hat.push _) (by rw [← lk, sizeLine_eq]; omega) fun h' tk as hk hl hG => ?_)
  obtain ⟨nd, new, atP, J⟩ := items_laid0 (tk := tk) I2 kv hk hl hG
  have al : as.length = zs.length := by omega
  refine wpAny_bind (wpAny_newList ?_ (by rw [List.length_map, sizeLine_eq]; omega))
  have hoL : (h'.push (seqObj "list" (as.map Value.ref).toArray 0)).get? h'.objs.size = some (seqObj "list" (as.map Value.ref).toArray 0) := Heap.get?_push_size _ rfl
  have tup : ∀ (j : Nat) (a : Addr), as[j]? = some a → ∃ z, zs[j]? = some z ∧ TS.TupInts (h'.push (seqObj "list" (as.map Value.ref).toArray 0)) (.ref a) [z.1, z.2] := fun j a ha => by
    obtain ⟨z, e1, e2⟩ := tupsOk_of kv hG hl j a ha
    exact ⟨z, e1, e2.keeps fun b o q _ => Heap.get?_push_of_some _ q⟩
  obtain ⟨B, hB⟩ := bd_all (zs.map fun z => [z.1, z.2]) (fun ns hn m hm => by
    obtain ⟨z, hzm, rfl⟩ := List.mem_map.mp hn
    have := hz0 z hzm
    simp only [List.mem_cons, List.not_mem_nil, or_false] at hm
    rcases hm with rfl | rfl
    · exact this.1
    · exact this.2)
  have x : TS.TupsOk (h'.push (seqObj "list" (as.map Value.ref).toArray 0)) 2 B (as.map Value.ref) := fun v hv => by
    obtain ⟨a, ha, rfl⟩ := List.mem_map.mp hv
    obtain ⟨j, hj⟩ := List.mem_iff_getElem?.mp ha
    obtain ⟨z, e1, e2⟩ := tup j a hj
    exact ⟨_, e2, rfl, hB _ (List.mem_map.mpr ⟨z, List.mem_of_getElem? e1, rfl⟩)⟩
  refine wpAny_bind (wpAny_holding (TS.call_sort_tups (d := 2) (B := B) hoL (by rw [List.length_map]; omega) (by decide) x fun out a1 a2 => ?_))
  obtain ⟨c, hc2⟩ := sortedHeap_at (vs := as.map Value.ref) (out := out) hoL
  have eP1 : (as.zip zs).map Prod.fst = as := List.map_fst_zip (by omega)
  have eP2 : (as.zip zs).map Prod.snd = zs := List.map_snd_zip (by omega)
  have eP : as.map Value.ref = (as.zip zs).map fun y => Value.ref y.1 := by
    conv => lhs; rw [← eP1]
    rw [List.map_map]
    rfl
  rw [eP] at a1
  obtain ⟨ys, hy1, hy2⟩ := perm_map_inv a1
  have hj : ∀ y ∈ ys, ∃ j : Nat, as[j]? = some y.1 ∧ zs[j]? = some y.2 := fun y hy => by
    obtain ⟨j, hj⟩ := List.mem_iff_getElem?.mp (hy1.mem_iff.mp hy)
    refine ⟨j, ?_, ?_⟩
    · have := congrArg (fun l => l[j]?) eP1
      simp only [List.getElem?_map, hj, Option.map_some] at this
      exact this.symm
    · have := congrArg (fun l => l[j]?) eP2
      simp only [List.getElem?_map, hj, Option.map_some] at this
      exact this.symm
  have hpn : LiI.putT H1 as (zs.map fun z => ((Sum.inl z.1 : Key), V.int z.2)) h'.objs.size = none := J.hok.fresh (Nat.le_refl _)
  have hpa : h'.objs.size ∉ as := fun hm => by
    obtain ⟨j, hj⟩ := List.mem_iff_getElem?.mp hm
    obtain ⟨z, _, a, ob, e, ⟨_, e2, _⟩, _⟩ := tupsOk_of kv hG hl j _ hj
    cases e
    exact absurd (Heap.lt_size e2) (Nat.lt_irrefl _)
  have hpH : H1 h'.objs.size = none := by
    have e0 := LiI.putT_off as (zs.map fun z => ((Sum.inl z.1 : Key), V.int z.2)) H1 hpa
    rw [e0] at hpn
    exact hpn
  have kk : ∀ b o, h'.get? b = some o → (sortedHeap (h'.push (seqObj "list" (as.map Value.ref).toArray 0)) h'.objs.size (as.map Value.ref) out).get? b = some o := fun b o e => by
    have hlt := Heap.lt_size e
    rw [PyProof.Rows.sortedHeap_old (Nat.ne_of_lt hlt) (by rw [size_push']; exact Nat.lt_succ_of_lt hlt)]
    exact Heap.get?_push_of_some _ e
  have lys : ys.length = zs.length := by
    have := hy1.length_eq
    rw [this, List.length_zip]
    omega
  have hlen : (ys.map fun y => V.ref y.1).length ≤ sizeLine := by rw [List.length_map, lys, sizeLine_eq]; omega
  have vals : Vals (ys.map fun y => V.ref y.1) out.toList := by
    rw [hy2]
    have : ∀ l : List (Addr × (Int × Int)), Vals (l.map fun y => V.ref y.1) (l.map fun y => Value.ref y.1) := fun l => by
      induction l with
      | nil => exact .nil
      | cons y l ih => exact .cons rfl ih
    exact this ys
  have srt : (ys.map fun y => [y.2.1, y.2.2]).Pairwise (fun a b => ltL b a = false) := by
    rw [hy2, List.pairwise_map] at a2
    rw [List.pairwise_map]
    refine List.Pairwise.imp_of_mem (fun {y w} hy hw hcode => ?_) a2
    obtain ⟨j, e1, e2⟩ := hj y hy
    obtain ⟨k, e3, e4⟩ := hj w hw
    obtain ⟨z, g1, g2⟩ := tup j y.1 e1
    obtain ⟨z', g3, g4⟩ := tup k w.1 e3
    rw [e2] at g1
    rw [e4] at g3
    cases g1
    cases g3
    rw [g2.ints, g4.ints] at hcode
    cases hb : ltL [w.2.1, w.2.2] [y.2.1, y.2.2] with
    | false => rfl
    | true =>
      have m1 : [w.2.1, w.2.2] ∈ zs.map fun z => [z.1, z.2] := List.mem_map.mpr ⟨w.2, List.mem_of_getElem? e4, rfl⟩
      have m2 : [y.2.1, y.2.2] ∈ zs.map fun z => [z.1, z.2] := List.mem_map.mpr ⟨y.2, List.mem_of_getElem? e2, rfl⟩
      have := code_ltL (a := [w.2.1, w.2.2]) (b := [y.2.1, y.2.2]) rfl (hB _ m1) (hB _ m2) hb
      omega
  have J2 : Inv X pins σ (upd (LiI.putT H1 as (zs.map fun z => ((Sum.inl z.1 : Key), V.int z.2))) h'.objs.size (.lst (ys.map fun y => V.ref y.1))) { s1 with heap := sortedHeap (h'.push (seqObj "list" (as.map Value.ref).toArray 0)) h'.objs.size (as.map Value.ref) out, toks := tk } := J.call' (ch := []) (s' := { s1 with heap := sortedHeap (h'.push (seqObj "list" (as.map Value.ref).toArray 0)) h'.objs.size (as.map Value.ref) out, toks := tk }) rfl (Un.laid kk (Nat.le_refl _) hpn) (J.hok.laid kk (Nat.le_refl _) ⟨hlen, out.toList, c, vals, hc2⟩) J.bare (fun _ z => nomatch z)
  exact wpAny_pure ⟨_, rfl, .ref h'.objs.size, _, J2, rfl, q as ys h'.objs.size al nd new hpa hpH (by rw [← eP2]; exact hy1.map _) (fun y hy => by
    obtain ⟨j, e1, e2⟩ := hj y hy
    have e3 : (zs.map fun z => ((Sum.inl z.1 : Key), V.int z.2))[j]? = some (.inl y.2.1, .int y.2.2) := by rw [List.getElem?_map, e2]; rfl
    refine ⟨?_, List.mem_of_getElem? e1⟩
    obtain ⟨i, pk, i1, i2, i3⟩ := LiI.paired_ix atP (List.mem_of_getElem? e1)
    have hij : i = j := (List.getElem?_inj (List.getElem?_eq_some_iff.mp i1).1 nd).mp (i1.trans e1.symm)
    subst hij
    rw [e3] at i2
    cases i2
    exact i3) srt⟩
end
def itemsZ : List (Key × D) → Option (List (Int × Int))
  | [] => some []
  | (.inl k, .int v) :: r => (itemsZ r).map ((k, v) :: ·)
  | _ => none
theorem itemsZ_den {K : PySem.W.Frag} {mg : Str → Option Value} {R : Hp} {α : List Addr} : ∀ {ks : List (Key × V)} {kvs : List (Key × D)} {zs : List (Int × Int)}, DenK K mg R α ks kvs → itemsZ kvs = some zs → ks = zs.map fun z => ((Sum.inl z.1 : Key), V.int z.2)
  | [], [], zs, .nil, e => by
    cases e
    rfl
  | _ :: _, (k, d) :: r, zs, .cons h t, e => by
    unfold itemsZ at e
    split at e
    · rename_i h0; cases h0
    · rename_i k' v' r' h0
      cases h0
      obtain ⟨zs', e1, rfl⟩ := Option.map_eq_some_iff.mp e
      cases h
      rw [itemsZ_den t e1]
      rfl
    · cases e
def nSortItems (fo : FE) : FN := fun ρ μ => (fo ρ μ).bind fun x μ1 => match (dctV μ1 x).bind itemsZ with
  | some zs => if zs.length < 64 ∧ ∀ z ∈ zs, 0 ≤ z.1 ∧ 0 ≤ z.2 then .ok (.list ((sortB ltL (zs.map fun z => [z.1, z.2])).map tupZ)) μ1 else .bad
  | none => .bad
section
variable {X : Cx} {E : XK} {e : Expr} {fo : FE} {p apos cpos pos : Pos}
theorem dn_sortItems (hc : X.calm = true) (hg : Gl X "sorted") (hm : X.mg "sorted" = none) (he : DE X E e fo) (hbase : attributeBase e "items" X.env (eval e X.env) = eval e X.env := by rfl) (hline : (apos.endLine == cpos.line) = true := by rfl)
    (hs : starEach [.Call (.Attribute e "items" apos) [] [] cpos] X.env = (false, eval (.Call (.Attribute e "items" apos) [] [] cpos) X.env) :: starEach [] X.env := by rfl) :
    DN X E (.Call (.Name "sorted" p) [.Call (.Attribute e "items" apos) [] [] cpos] [] pos) (nSortItems fo) :=
  wE (pe_sortItems hc he hg hm hbase hline hs) fun σ H Q ⟨ρ, μ, α, R, S, V0, h⟩ => ⟨ρ, μ, α, R, S, V0, h.bind fun d μ1 v α1 R1 H1 S1 A1 q1 h1 => by
    split at h1
    · rename_i zs ez
      obtain ⟨kvs, e1, e2⟩ := Option.bind_eq_some_iff.mp ez
      split at h1
      · rename_i hz
        obtain ⟨a, ks, rfl, hd, hl, dk⟩ := S1.dctV q1 e1
        obtain rfl := itemsZ_den dk e2
        refine ⟨a, zs, rfl, hd, hz.1, hz.2, fun as ys p al nd new hpa hp perm hy srt => ?_⟩
        obtain ⟨S2, A2⟩ := laysT as (zs.map fun z => ((Sum.inl z.1 : Key), V.int z.2)) S1 new nd
        have hp2 : LiI.putT H1 as (zs.map fun z => ((Sum.inl z.1 : Key), V.int z.2)) p = none := (LiI.putT_off as (zs.map fun z => ((Sum.inl z.1 : Key), V.int z.2)) H1 hpa).trans hp
        have e3 : ys.map (fun y => [y.2.1, y.2.2]) = sortB ltL (zs.map fun z => [z.1, z.2]) := sortB_eq ordL (by
          have := perm.map fun z : Int × Int => [z.1, z.2]
          rw [List.map_map] at this
          exact this) srt
        have lk : as.length = (zs.map fun z => ((Sum.inl z.1 : Key), V.int z.2)).length := by rw [List.length_map]; exact al
        have pR := LiI.putT_at as (zs.map fun z => ((Sum.inl z.1 : Key), V.int z.2)) R1 (by omega) nd
        have pH := LiI.putT_at as (zs.map fun z => ((Sum.inl z.1 : Key), V.int z.2)) H1 (by omega) nd
        have ll : ys.length = zs.length := by have := perm.length_eq; rwa [List.length_map] at this
        refine h1 (V.non, .lst (ys.map fun y => V.ref y.1)) α1 _ _ S2 A2 ⟨_, rfl, by rw [List.length_map, ll, sizeLine_eq]; omega, ?_⟩ p hp2
        rw [← e3]
        have yR : ∀ y ∈ ys, LiI.putT R1 as (zs.map fun z => ((Sum.inl z.1 : Key), V.int z.2)) y.1 = some (.tup [V.int y.2.1, V.int y.2.2]) := fun y hyy => by
          obtain ⟨h2, h3⟩ := hy y hyy
          obtain ⟨j, pk, f1, f2, f3⟩ := LiI.paired_ix pR h3
          obtain ⟨j', pk', g1, g2, g3⟩ := LiI.paired_ix pH h3
          have hjj : j = j' := (List.getElem?_inj (List.getElem?_eq_some_iff.mp f1).1 nd).mp (f1.trans g1.symm)
          subst hjj
          rw [f2] at g2
          cases g2
          rw [f3, ← g3]
          exact h2
        clear hy perm srt e3 ll
        induction ys with
        | nil => exact .nil
        | cons y ys ih => exact .cons (.tuple (.inl (.inl (yR y (List.mem_cons_self ..)))) (by show 2 ≤ sizeLine; decide) (.cons (.int _) (.cons (.int _) .nil))) (ih fun y hy => yR y (List.mem_cons_of_mem _ hy))
      · exact False.elim h1
    · exact False.elim h1⟩
end
end TL

set_option Elab.async false
set_option maxRecDepth 100000
set_option maxHeartbeats 2000000
set_option linter.all false
/-! The tree layer, part x: exceptions of own classes: try .. except C as n, raise C(e), n.field. -/
namespace TL
open PySem PySem.Spec PyProof.Rows L2
/-! ### a caught exception is an object of ours -/
theorem adopt {X : Cx} {pins : List (Addr × Obj)} {σ σJ : L2.St} {H HJ : Hp} {s sI : Shared} {a : Addr} {oe : Obj} {vs : Array Value} (I : Inv X pins σ H s) (J : Inv X pins σJ HJ sI) (fr : sI.heap.get? a = none)
    (ha : s.heap.get? a = some oe) (hd : oe.data = .fields vs) (na : H a = none) : Inv (X.suite a (X.pn ++ pins)) [] σ (upd H a (exv a oe.cls oe.dict)) s := by
  have ne : ∀ {b : Addr} {o : Obj}, sI.heap.get? b = some o → b ≠ a := fun h e => by rw [e, fr] at h; cases h
  have nH : ∀ {b : Addr} {u : HO}, H b = some u → b ≠ a := fun h e => by rw [e, na] at h; cases h
  have n0 : ∀ {b : Addr} {o : Obj}, X.s_0.heap.get? b = some o → b ∉ X.ex → b ≠ a := fun h hx => by
    obtain ⟨o', q⟩ := J.base.there _ _ h hx
    exact ne q
  refine ⟨I.ok.suite _ _, I.os, I.bare, ⟨I.base.keep, I.base.slot, fun b o e n hx => ?_, I.base.there, fun b xs e => ?_, fun b o u e => ?_, fun b ps e => ?_⟩, I.loc, I.cell, ?_, fun x c e => ?_, fun p hp => ?_, fun b o q => ?_, I.len⟩
  · rw [upd_ne (n0 e hx)]
    exact I.base.free b o e n hx
  · have z := I.base.tups b xs e
    rw [upd_ne (nH z)]
    exact z
  · have z := I.base.frzs b o u e
    rw [upd_ne (nH z)]
    exact z
  · obtain ⟨more, z⟩ := I.base.tbls b ps e
    exact ⟨more, by rw [upd_ne (nH z)]; exact z⟩
  · obtain ⟨m, ⟨oL, _, _, hoL, _⟩, _⟩ := J.loc
    rw [upd_ne (ne hoL)]
    exact I.free
  · obtain ⟨v, z⟩ := J.cell x c e
    have : ∃ o, sI.heap.get? c = some o := by
      first
        | exact ⟨_, z⟩
        | (obtain ⟨o, z1, _⟩ := z; exact ⟨o, z1⟩)
        | (obtain ⟨_, _, z1⟩ := z; exact ⟨_, z1⟩)
    obtain ⟨o, z1⟩ := this
    rw [upd_ne (ne z1)]
    exact I.freeC x c e
  · have hp' : p ∈ X.pn ++ pins := by rw [List.append_nil] at hp; exact hp
    obtain ⟨e1, e2, e3, e4, e5⟩ := I.pin p hp'
    refine ⟨e1, ?_, e3, e4, e5⟩
    rw [upd_ne (ne (J.pin p hp').1)]
    exact e2
  · by_cases hb : b = a
    · subst hb
      rw [upd_same] at q
      cases q
      exact ⟨⟨oe, vs, ha, rfl, rfl, hd⟩, ⟨oe, ha⟩, fun h1 h2 ⟨o, w, z1, z2⟩ k => ⟨o, w, k _ z1, z2⟩⟩
    · rw [upd_ne hb] at q
      exact (I.hok b o q).stay (fun d v _ y => y) (fun d y => by rw [upd_ne (nH y)]; exact y) fun d xs y => by rw [upd_ne (nH y)]; exact y
theorem leave_suite {X : Cx} {pins : List (Addr × Obj)} {a : Addr} {σ : L2.St} {H : Hp} {s : Shared} (I : Inv (X.suite a (X.pn ++ pins)) [] σ H s) (ok : X.Ok) : Inv X pins σ H s :=
  ⟨ok, I.os, I.bare, I.base, I.loc, I.cell, I.free, I.freeC, fun p hp => I.pin p (by rw [List.append_nil]; exact hp), I.hok, I.len⟩
/-- what the clause asks of an exception of the body -/
def wOwn (K : PySem.W.Frag) (c : Value) (i : Nat) (ts : Addr → Value → Option Addr → TS) (Wo : WX) (Dn : Ends) : WX := fun cls d σ H =>
  ∃ b, PySem.W.exmOne K cls c = some b ∧ (b = true → ∀ a, H a = none → ts a cls d { nx := fun σ' H' => Dn.nx (σ'.set i none) H', rt := Dn.rt, bk := fun σ' H' => Dn.bk (σ'.set i none) H', ct := fun σ' H' => Dn.ct (σ'.set i none) H' } (σ.set i (some (.ref a))) (upd H a (exv a cls d))) ∧
    (b = false → Wo cls d σ H)
section
variable {X : Cx} {x n : Str} {c : Value} {i : Nat} {body suite : List Stmt} {b₀ : Stmt} {np pos pos' : Pos} {tb : WX → TS} {ts : Addr → Value → Option Addr → TS} {Wo : WX}
theorem ps_try_own (hs : X.stack = X.env :: X.outer) (hf : X.env.frame = some X.env.locals) (hN : X.N.Nodup) (hi : X.N[i]? = some n) (hln : X.env.kindOf n = some .local) (hc : Names X x c) (tk : Takes X Wo)
    (hb : ∀ (W : WX) (pn : List (Addr × Obj)) (xe : Value → Shared → Prop), Takes (X.tr pn xe) W → PassesOwn (model X.prog X.w) X.A X.env xe → PSs (X.tr pn xe) body (tb W))
    (hsu : ∀ (a : Addr) (cls : Value) (d : Option Addr) (pn : List (Addr × Obj)), PSs (X.suite a pn) (b₀ :: suite) (ts a cls d)) :
    PS X (.Try body [.ExceptHandler (some (.Name x np)) (some n) (b₀ :: suite) pos'] [] [] pos) (fun D σ H => tb (wOwn X.K c i ts Wo D) D σ H) := by
  refine ⟨fun pins s σ H D I h => ?_⟩
  have ok := I.ok
  have hfr : X.A.frames = some (X.env :: X.outer) := by rw [ok.frames, hs]
  -- where the body's exceptions go
  let catch_ : Value → Shared → Prop := fun e s₁ => wpAny (model X.prog X.w) X.A (noteFrame e X.env) (fun _ s₂ => wpAny (model X.prog X.w) X.A (setFlight e none) (fun _ s₃ =>
    wpAny (model X.prog X.w) X.A (handleBy e X.env [.ExceptHandler (some (.Name x np)) (some n) (b₀ :: suite) pos']) (SP X pins D) X.xe s₃) X.xe s₂) X.xe s₁
  have taken : Takes (X.tr (X.pn ++ pins) catch_) (wOwn X.K c i ts Wo D) := by
    rintro u s' ⟨a, B, sI, pins', σ', H', cls, d, rfl, J', nb, up, sky, na, os, ag, b, hb1, hyes, hno⟩
    have J : Inv X pins σ' H' sI := J'.ofTry ok
    have sky' : Sky B (X.env :: X.outer) a (Zc cls d) X.env.locals s'.heap := by rw [← hs]; exact sky
    show wpAny (model X.prog X.w) X.A (noteFrame (.ref a) X.env) _ _ _
    refine Sky.land Zc.steady hfr hf sky' fun h3 fl3 up3 => ?_
    have J3 : Inv X pins σ' H' { s' with heap := h3 } := J.landed nb fl3.1 (up.trans up3) os ag
    obtain ⟨oe3, vs3, he3, hz3, hd3⟩ := fl3.there
    have nfr : a ∉ frs (X.env :: X.outer) := fun hm => by
      obtain ⟨_, o', e', hnf⟩ := fl3.2.2.1.mem hm
      rw [he3] at e'
      cases e'
      exact hnf _ hd3
    have fresh : sI.heap.get? a = none := by
      cases e : sI.heap.get? a with
      | none => rfl
      | some o =>
        have z := nb a o e (by rw [hs]; exact nfr)
        rw [fl3.2.1] at z
        cases z
    have S3 := adopt J3 J fresh he3 hd3 na
    refine wpAny_handleBy_cons (codeAny_handlers_test ?_) (by intro q; cases q)
    have LT : PySem.W.Looks (model X.prog X.w) h3 (typeOf (.ref a)) cls := fun A Q E s k q => wpAny_typeOf_ref (k _ _ he3) (by rw [hz3.1]; exact q)
    have LM := PySem.W.exm_one (M := model X.prog X.w) (J3.kIn) LT hb1
    have test : ∀ {Q : Value → Shared → Prop} {E : Value → Shared → Prop}, Q c { s' with heap := h3 } → wpAny (model X.prog X.w) (X.A.mark (some (.ref a))) (eval (.Name x np) X.env) Q E { s' with heap := h3 } := fun {Q E} q => by
      obtain ⟨hg, hdbg, hm | ⟨hm, hv, hnn⟩⟩ := hc
      · exact ld_glob (X := X.suite a (X.pn ++ pins)) S3 hg hm q hdbg
      · exact ld_blt (X := X.suite a (X.pn ++ pins)) S3 hg hm hv q hnn hdbg
    refine test (LM.here ?_)
    cases b with
    | true =>
      refine codeAny_handlers_suite_as (HandSPX.lands_againZ fl3 fun h4 fl4 up4 => ?_)
      have J4 : Inv X pins σ' H' { s' with heap := h4 } := J.landed nb fl4.1 ((up.trans up3).trans up4) os ag
      obtain ⟨oe4, vs4, he4, hz4, hd4⟩ := fl4.there
      have S4 := adopt J4 J fresh he4 hd4 na
      rw [hz4.1, hz4.2] at S4
      refine store_ok (X := X.suite a (X.pn ++ pins)) (v := .ref a) S4 hN hi (.inl hln) rfl (fun s5 S5 => ?_) (.inr hln)
      refine wpAny_mono ((hsu a cls d (X.pn ++ pins)).run [] s5 _ _ _ S5 (hyes rfl a na)) (fun f s6 hsp => ?_) (fun _ _ z => False.elim z)
      have out : ∀ {σ6 : L2.St} {H6 : Hp} {Q : Shared → Prop}, Inv (X.suite a (X.pn ++ pins)) [] σ6 H6 s6 → (∀ s7, Inv X pins (σ6.set i none) H6 s7 → Q s7) →
          wpAny (model X.prog X.w) X.A (do bindName X.env n .none; unbindBehindTheSuite X.env n pos') (fun _ s7 => Q s7) X.xe s6 := fun {σ6 H6 Q} S6 hq => gone_ok (leave_suite S6 ok) hN hi hln hq
      cases f with
      | next => obtain ⟨σ6, H6, S6, q6⟩ := hsp; exact out S6 fun s7 J7 => ⟨_, _, J7, q6⟩
      | brk => obtain ⟨σ6, H6, S6, q6⟩ := hsp; exact out S6 fun s7 J7 => ⟨_, _, J7, q6⟩
      | cont => obtain ⟨σ6, H6, S6, q6⟩ := hsp; exact out S6 fun s7 J7 => ⟨_, _, J7, q6⟩
      | ret u => obtain ⟨v6, σ6, H6, S6, r6, q6⟩ := hsp; exact out S6 fun s7 J7 => ⟨_, _, _, J7, r6, q6⟩
    | false =>
      show wpAny _ X.A (handleBy (.ref a) X.env []) _ _ _
      refine wpAny_handleBy_nil ?_
      obtain ⟨_, _, _, oe, vs, T, oT, ts', he, hz, hd, h1, hr⟩ := id fl3
      unfold PySem.passOn
      refine wpAny_bind (wpAny_field he hd h1 ?_)
      rw [if_neg (show ¬ ((Value.ref T == Value.none) = true) from by simp)]
      have fin : wpAny (model X.prog X.w) X.A (setFlight (.ref a) X.env.frame) (fun _ s4 => wpAny (model X.prog X.w) X.A (throw (.ref a) : Sem PySem.Flow) (SP X pins D) X.xe s4) X.xe { s' with heap := h3 } := by
        rw [hf]
        refine HandSPX.setFlight_upZ fl3 fun h4 hh4 up4 => wpAny_throw (tk _ _ ?_)
        exact ⟨a, B, sI, pins, σ', H', cls, d, rfl, J, nb, (up.trans up3).trans up4, .inr (.inr (by rw [hs]; exact hh4)), na, os, ag, hno rfl⟩
      first
        | exact wpAny_bind (wpAny_pure (wpAny_bind fin))
        | exact wpAny_bind fin
  refine wpAny_Try_except (wpAny_mono ((hb _ (X.pn ++ pins) catch_ taken PassesOwn.looking).run [] s σ H D (I.toTry _) h) (fun f s1 hsp => ?_) fun e s1 he => he)
  cases f with
  | next => obtain ⟨σ', H', J', q⟩ := hsp; exact wpAny_execs_nil ⟨σ', H', J'.ofTry ok, q⟩
  | brk => obtain ⟨σ', H', J', q⟩ := hsp; exact ⟨σ', H', J'.ofTry ok, q⟩
  | cont => obtain ⟨σ', H', J', q⟩ := hsp; exact ⟨σ', H', J'.ofTry ok, q⟩
  | ret u => obtain ⟨v, σ', H', J', r, q⟩ := hsp; exact ⟨v, σ', H', J'.ofTry ok, r, q⟩
end
/-! ### a call that may let an exception out -/
def eCallN (n : Nat) (F : List D → Mu → Res D) (dds : List D) (t : FA) : FE := fun ρ μ => (noEx (t ρ μ)).bind fun ds μ1 => if (ds ++ dds).length = n then F (ds ++ dds) μ1 else .bad
def tW (K : PySem.W.Frag) (mg : Str → Option Value) (W : WX) (f : FE) : TE := fun σ H Q => ∃ ρ μ α R, SM K mg μ α R H ∧ SS K mg ρ R α σ ∧ After K mg (fun cls d H' => W cls d σ H') (relD K mg) α R H (f ρ μ) Q
section
variable {X : Cx} {W : WX} {k n : Nat} {f : Addr} {fd : FuncData} {ps : List Str} {F : List D → Mu → Res D} {dvs : List V} {dds : List D} {dus : List Value} {x : Str} {p pos : Pos} {e : Expr} {es : List Expr} {t : FA}
theorem After.runW {pins : List (Addr × Obj)} {σ : L2.St} {H : Hp} {s : Shared} {Q : VK} {us : List Value} {vs : List V} {ds : List D} {μ : Mu} {α : List Addr} {R : Hp} (tk : Takes X W) {σ0 : L2.St} (G : FnT X.prog X.w X.K X.mg X.base k f fd ps F) (hr : Room k X.A) (hgd : X.A.guards = some [])
    (hb : Binds X.K fd ps dus) (hd : Vals dvs dus) (hdd : ∀ R α, DenL X.K X.mg R α dvs dds) (hσ : σ0 = σ)
    (I : Inv X pins σ H s) (r : Vals vs us) (S : SM X.K X.mg μ α R H) (dl : DenL X.K X.mg R α vs ds) (h : After X.K X.mg (fun cls d H' => W cls d σ0 H') (relD X.K X.mg) α R H (if (ds ++ dds).length = ps.length then F (ds ++ dds) μ else .bad) Q) :
    wpAny (model X.prog X.w) X.A (call (.ref f) us) (EP X pins σ Q) X.xe s := by
  subst hσ
  split at h
  rotate_left
  · exact False.elim h
  rename_i hl
  have dl2 := dl.append (hdd R α)
  have r2 : Vals (vs ++ dvs) (us ++ dus) := r.append hd
  have hl2 : (vs ++ dvs).length = ps.length := by rw [dl2.len, hl]
  refine wpAny_call (codeAny_mono (G.run X.A X.stack s H ⟨us, []⟩ (us ++ dus) (vs ++ dvs) (ds ++ dds) μ α R Q _ hr hgd I.env0 (hb s us I.kIn (by rw [← r2.length]; exact hl2)) r2 hl2 S dl2 h) fun r s' hq => ?_)
  cases r with
  | error e => exact tk _ _ (XE.of_call I (fun cls d H' h => h) hq)
  | ok fl => cases fl with
    | ret u => exact I.after hq
    | next => exact False.elim hq
    | brk => exact False.elim hq
    | cont => exact False.elim hq
theorem pe_callW (tk : Takes X W) (G : FnT X.prog X.w X.K X.mg X.base k f fd ps F) (hr : Room k X.A) (hgd : X.A.guards = some []) (hg : Gl X x) (hm : X.mg x = some (.ref f)) (hk : PySem.W.keepIn X.K (.ref f) = true)
    (hb : Binds X.K fd ps dus) (hd : Vals dvs dus) (hdd : ∀ R α, DenL X.K X.mg R α dvs dds) (ha : DA X EN (e :: es) t) (hn : ps.length = n := by rfl)
    (hdb : (x == ("__debug__" : Str)) = false := by decide) (he : starEach (e :: es) X.env = (false, eval e X.env) :: starEach es X.env := by rfl) (hpl : (backTo pos (starEach es X.env)).any (·.1) = false := by rfl) :
    PE X (.Call (.Name x p) (e :: es) [] pos) (tW X.K X.mg W (eCallN n F dds t)) := by
  subst hn
  refine ⟨fun pins s σ H Q I ⟨ρ, μ, α, R, S, V, h⟩ => ?_⟩
  refine wpAny_Call_Name_kw (ld_glob I hg hm ?_ hdb)
  have h0 : After X.K X.mg (fun cls d H' => W cls d σ H') (relD X.K X.mg) α R H ((noEx (t ρ μ)).bind fun ds μ1 => if (ds ++ dds).length = ps.length then F (ds ++ dds) μ1 else .bad) Q := h
  have ha' := ha.run pos pins s σ H (fun vs H1 => ∃ ds μ1 α1 R1, SM X.K X.mg μ1 α1 R1 H1 ∧ DenL X.K X.mg R1 α1 vs ds ∧ After X.K X.mg (fun cls d H' => W cls d σ H') (relD X.K X.mg) α1 R1 H1 (if (ds ++ dds).length = ps.length then F (ds ++ dds) μ1 else .bad) Q) I
    ⟨ρ, μ, α, R, S, V, after_noEx (h0.bind fun ds μ1 vs α1 R1 H1 S1 A1 d1 h1 => ⟨ds, μ1, α1, R1, S1, d1, h1⟩)⟩
  refine PySem.W.callWith_K (h₀ := X.base) I.ok.mod.kin hk (thn ha' fun us s1 hq => ?_) he hpl
  obtain ⟨vs, H1, I1, r, ds, μ1, α1, R1, S1, d1, h1⟩ := hq
  exact ⟨I1.kIn, After.runW tk G hr hgd hb hd hdd rfl I1 r S1 d1 h1⟩
end
/-! ### try: y = f(..) / except C as n: suite -/
def unset (i : Nat) (r : Res Flow) : Res Flow := match r with
  | .ok (.nx ρ) μ => .ok (.nx (ρ.set i none)) μ
  | .ok (.bk ρ) μ => .ok (.bk (ρ.set i none)) μ
  | .ok (.ct ρ) μ => .ok (.ct (ρ.set i none)) μ
  | .ok (.rt d) μ => .ok (.rt d) μ
  | _ => .bad
def sTry (j i : Nat) (sub : Str → Option Bool) (f : FE) (su : FS) : FS := fun ρ μ => match f ρ μ with
  | .ok d μ1 => .ok (.nx (ρ.set j (some d))) μ1
  | .ex y μ1 => (match sub y.c with
    | some true => unset i (su (ρ.set i (some (.exc y.c y.fs))) μ1)
    | some false => .ex y μ1
    | none => .bad)
  | .bad => .bad
theorem SS.unset {K : PySem.W.Frag} {mg : Str → Option Value} {R : Hp} {α : List Addr} {ρ : Env} {σ : L2.St} (V : SS K mg ρ R α σ) (i : Nat) : SS K mg (ρ.set i none) R α (σ.set i none) := by
  refine ⟨by simp [V.1], fun j x q => ?_⟩
  by_cases hj : i = j
  · subst hj
    by_cases hl : i < ρ.length
    · rw [List.getElem?_set_self hl] at q; cases q
    · rw [List.getElem?_eq_none (by simpa using hl)] at q; cases q
  · rw [List.getElem?_set_ne hj] at q
    obtain ⟨v, h1, h2⟩ := V.2 j x q
    exact ⟨v, by rw [List.getElem?_set_ne hj]; exact h1, h2⟩
section
variable {X : Cx} {E : XK} {cn n y : Str} {c : Value} {i j m k : Nat} {suite : List Stmt} {b₀ : Stmt} {np py pf pc pa pos pos' : Pos} {sub : Str → Option Bool} {su : FS} {x : Str} {F : List D → Mu → Res D} {dds : List D} {e : Expr} {es : List Expr} {t : FA}
theorem ds_try (hs : X.stack = X.env :: X.outer) (hf : X.env.frame = some X.env.locals) (hN : X.N.Nodup) (hi : X.N[i]? = some n) (hln : X.env.kindOf n = some .local) (hc : Names X cn c) (tk : Takes X (fun cls d _ H => E cls d H))
    (hj : X.N[j]? = some y) (hy : Loc X.env.scope y) (hfy : X.fn y = true ∨ X.env.scope.names.lookup y = some .local)
    (G : Has X.prog X.w X.K X.mg X.base k x m dds F) (hr : Room k X.A) (hgd : X.A.guards = some []) (hg : Gl X x)
    (ha : ∀ (pn : List (Addr × Obj)) (xe : Value → Shared → Prop), DA (X.tr pn xe) EN (e :: es) t)
    (hexm : ∀ yc b, sub yc = some b → ∀ C, X.mg yc = some (.ref C) → PySem.W.exmOne X.K (.ref C) c = some b)
    (hsu : ∀ (a : Addr) (pn : List (Addr × Obj)), DSs (X.suite a pn) EN (b₀ :: suite) su)
    (hdb : (x == ("__debug__" : Str)) = false := by decide) (he : starEach (e :: es) X.env = (false, eval e X.env) :: starEach es X.env := by rfl) (hpl : (backTo pc (starEach es X.env)).any (·.1) = false := by rfl)
    (hsw : swapsWith (.Call (.Name x pf) (e :: es) [] pc) (some (.Name y py)) pa.line X.env = pure false := by rfl) :
    DS X E (.Try [.Assign [.Name y py] (.Call (.Name x pf) (e :: es) [] pc) pa] [.ExceptHandler (some (.Name cn np)) (some n) (b₀ :: suite) pos'] [] [] pos) (sTry j i sub (eCallN m F dds t) su) := by
  obtain ⟨f, fd, ps, dvs, dus, hn, Gf, hm, hk, hb, hd, hdd⟩ := G.ex
  refine wS (ps_try_own (tb := fun W => tAsg (tW X.K X.mg W (eCallN m F dds t)) (gName j)) (ts := fun _ _ _ => LiftS X.K X.mg EN su) hs hf hN hi hln hc tk (fun W pn xe tk' _ => pss_one (ps_set (X := X.tr pn xe) hN hj hy (pe_callW (X := X.tr pn xe) tk' Gf hr hgd hg hm hk hb hd hdd (ha pn xe) hn hdb he hpl) hsw hfy)) fun a cls d pn => hsu a pn) ?_
  rintro Dn σ H ⟨ρ, μ, α, R, S, V, h⟩
  refine ⟨ρ, μ, α, R, S, V, ?_⟩
  unfold sTry at h
  cases hr : eCallN m F dds t ρ μ with
  | bad => rw [hr] at h; exact False.elim h
  | ok d μ1 =>
    rw [hr] at h
    exact fun w α1 R1 H1 S1 A1 q1 => h _ α1 R1 H1 S1 A1 ((V.adv A1).set j q1)
  | ex z μ1 =>
    rw [hr] at h
    intro cls od α1 R1 H1 S1 A1 dx
    obtain ⟨C, d, gs, hmg, rfl, rfl, hRd, dF⟩ := dx
    have h : AfterS X.K X.mg E α R H (match sub z.c with
      | some true => unset i (su (ρ.set i (some (.exc z.c z.fs))) μ1)
      | some false => .ex z μ1
      | none => .bad) Dn := h
    cases hsb : sub z.c with
    | none => rw [hsb] at h; exact False.elim h
    | some b =>
      rw [hsb] at h
      refine ⟨b, hexm z.c b hsb C hmg, fun hb a na => ?_, fun hb => ?_⟩
      · subst hb
        obtain ⟨S2, A2⟩ := S1.lay (u := exv a (.ref C) (some d)) na
        have hda : d ≠ a := fun e => by
          rcases S1.frz d _ hRd with q | ⟨ks, o, q, _⟩
          · rw [e, na] at q; cases q
          · cases q
        refine ⟨ρ.set i (some (.exc z.c z.fs)), μ1, α1, _, S2, ((V.adv A1).adv A2).set i (.exc hmg upd_same (by rw [upd_ne hda]; exact hRd) (dF.up A2.r A2.a)), ?_⟩
        have h : AfterS X.K X.mg E α R H (unset i (su (ρ.set i (some (.exc z.c z.fs))) μ1)) Dn := h
        have A12 := A1.trans A2
        cases hq : su (ρ.set i (some (.exc z.c z.fs))) μ1 with
        | bad => rw [hq] at h; exact False.elim h
        | ex _ _ => rw [hq] at h; exact False.elim h
        | ok fl μ2 =>
          rw [hq] at h
          cases fl with
          | nx ρ2 => exact fun σ' α' R' H' S' A' V' => h _ α' R' H' S' (A12.trans A') (V'.unset i)
          | bk ρ2 => exact fun σ' α' R' H' S' A' V' => h _ α' R' H' S' (A12.trans A') (V'.unset i)
          | ct ρ2 => exact fun σ' α' R' H' S' A' V' => h _ α' R' H' S' (A12.trans A') (V'.unset i)
          | rt d2 => exact fun v α' R' H' S' A' q' => h v α' R' H' S' (A12.trans A') q'
      · subst hb
        exact h _ _ α1 R1 H1 S1 A1 ⟨C, d, gs, hmg, rfl, rfl, hRd, dF⟩
end
/-! ### own exception classes: made by __init__(self, f): self.f = f -/
def spI (K : PySem.W.Frag) (C : Addr) (fld : Str) : Sp := fun vs H Q _ => ∃ (a : Addr) (y : V), vs = [.ref a, y] ∧ H a = some (exo a C none) ∧ ∀ dx, H dx = none → dx ≠ a → Q .non (upd (upd H dx (exd dx [(fld, y)])) a (exo a C (some dx)))
/-- the module's name cn holds such a class, its field fld -/
structure HasX (P : Program) (w : World) (K : PySem.W.Frag) (mg : Str → Option Value) (base : Heap) (k : Nat) (cn fld : Str) : Prop where
  ex : ∃ (C fI : Addr) (fd : FuncData), mg cn = some (.ref C) ∧ OexC K C ∧ PySem.W.findIn K (.ref C) "__init__" = some (some (.ref fI)) ∧ PySem.W.typeIn K (.ref fI) = some (.type "function") ∧
    FnOk P w K mg base (L2.CX P w) k fI fd ["self", fld] (spI K C fld) ∧ Binds K fd ["self", fld] []
theorem xinit_ok {P : Program} {w : World} {K : PySem.W.Frag} {mg : Str → Option Value} {base : Heap} {qual fld : Str} {st : Stmt} {f C : Addr} {fd : FuncData} (F : Fun K "__init__" qual st f fd) (S : FnScope ["self", fld] ["self", fld] (defScope st)) (T : OexC K C) (hno : PySem.W.findIn K (.ref C) fld = some none)
    (body : ∀ (cdv : Value) (A : Around) (outer : List PySem.Env) (s : Shared) (H : Hp) (E : XK), PSs (cxOf (L2.CX P w) P w K mg base ["self", fld] qual (defScope st) f cdv A outer s H E) (defBody st) (tOst K fld (tVar 0) (tVar 1))) : FnOk P w K mg base (L2.CX P w) 1 f fd ["self", fld] (spI K C fld) := by
  obtain ⟨oc, od, kV, doc, pm, an, cdv, ct, osl, rfl, lk, hcd⟩ := F.ex
  refine fn_of (k := 0) lk hcd S (fun vs H Q E ⟨a, y, e, _⟩ => by rw [e]; rfl) fun A outer s H vs Q E hr ⟨a, y, e, ha, q⟩ => ⟨_, body cdv A outer s H E, ?_⟩
  subst e
  refine ⟨y, rfl, .ref a, rfl, a, C, rfl, T, hno, .inl ⟨ha, fun dx h1 h2 => q dx h1 h2⟩⟩
def sRaise (cn fld : Str) (t : FA) : FS := fun ρ μ => (t ρ μ).bind fun ds μ1 => match ds with
  | [d] => .ex ⟨cn, [(fld, d)]⟩ μ1
  | _ => .bad
section
variable {X : Cx} {E : XK} {cn fld : Str} {k : Nat} {p pc pos : Pos} {e : Expr} {fe : FE}
theorem ds_raise (hc : X.calm = true) (tk : Takes X (fun cls d _ H => E cls d H)) (G : HasX X.prog X.w X.K X.mg X.base k cn fld) (hr : Room (k + 1) X.A) (hg : Gl X cn) (he : DE X E e fe)
    (hdb : (cn == ("__debug__" : Str)) = false := by decide) (hse : starEach [e] X.env = (false, eval e X.env) :: starEach [] X.env := by rfl) (hpl : (backTo pc (starEach [] X.env)).any (·.1) = false := by rfl) :
    DS X E (.Raise (some (.Call (.Name cn p) [e] [] pc)) none pos) (sRaise cn fld (aCons fe aNil)) := by
  obtain ⟨C, fI, fd, hm, T, iC, tI, F1, hb⟩ := G.ex
  have ha : DA X E [e] (aCons fe aNil) := da_cons he da_nil hse
  refine wS (ps_raise hc tk (pmk_oex T iC tI F1 hr hb .nil (passes_call tk fun _ _ _ _ h => h.elim) hg hm ha hdb hse hpl)) ?_
  rintro Dn σ H ⟨ρ, μ, α, R, S, V, h⟩
  have h0 : AfterS X.K X.mg E α R H ((aCons fe aNil ρ μ).bind fun ds μ1 => match ds with
    | [d] => .ex ⟨cn, [(fld, d)]⟩ μ1
    | _ => .bad) Dn := h
  refine ⟨ρ, μ, α, R, S, V, h0.bind fun ds μ1 vs α1 R1 H1 S1 A1 q1 h1 => ?_⟩
  cases q1 with
  | nil => exact False.elim h1
  | cons p1 t => cases t with
    | cons _ _ => exact False.elim h1
    | nil =>
      rename_i v d
      refine ⟨by show 1 ≤ 1000; decide, fun a na => ⟨a, v, rfl, upd_same, fun dx ndx hda => ?_⟩⟩
      have hdx : H1 dx = none := by rw [upd_ne hda] at ndx; exact ndx
      refine ⟨rfl, dx, [(fld, v)], upd_same, by rw [upd_ne hda, upd_same], hdx, ?_⟩
      have hh : upd (del (upd (upd (upd H1 a (exo a C none)) dx (exd dx [(fld, v)])) a (exo a C (some dx))) a) dx (.xd [(fld, v)]) = upd H1 dx (.xd [(fld, v)]) := by
        funext b
        by_cases e1 : b = dx
        · rw [e1, upd_same, upd_same]
        · rw [upd_ne e1, upd_ne e1]
          by_cases e2 : b = a
          · rw [e2, del_same, na]
          · rw [del_ne e2, upd_ne e2, upd_ne e1, upd_ne e2]
      rw [hh]
      obtain ⟨S2, A2⟩ := S1.lay (u := .xd [(fld, v)]) hdx
      have h1 : AfterS X.K X.mg E α1 R1 H1 (.ex ⟨cn, [(fld, d)]⟩ μ1) Dn := h1
      exact h1 _ _ α1 _ _ S2 A2 ⟨C, dx, _, hm, rfl, rfl, upd_same, .cons (p1.adv A2) .nil⟩
end
/-! ### n.f of a caught exception -/
def eXf (cs : List Str) (fe : FE) (f : Str) : FE := fun ρ μ => (fe ρ μ).bind fun x μ1 => match x with
  | .exc c fs => if c ∈ cs then ofO (fs.lookup f) μ1 else .bad
  | _ => .bad
section
variable {X : Cx} {E : XK} {cs : List Str} {f : Str} {pos : Pos} {e : Expr} {fe : FE}
theorem de_xf (hcls : ∀ c ∈ cs, ∀ C, X.mg c = some (.ref C) → XfC X.K C ∧ PySem.W.findIn X.K (.ref C) f = some none) (he : DE X E e fe) (hb : attributeBase e f X.env (eval e X.env) = eval e X.env := by rfl) :
    DE X E (.Attribute e f pos) (eXf cs fe f) := by
  refine ⟨fun pins s σ H Q I ⟨ρ, μ, α, R, S, V0, h⟩ => ?_⟩
  have h0 : After X.K X.mg E (relD X.K X.mg) α R H ((fe ρ μ).bind fun x μ1 => match x with
    | .exc c fs => if c ∈ cs then ofO (fs.lookup f) μ1 else .bad
    | _ => .bad) Q := h
  have h1 := he.run pins s σ H (fun v H1 => ∃ (a C dx : Addr) (gs : List (Str × V)) (y : V), v = .ref a ∧ XfC X.K C ∧ PySem.W.findIn X.K (.ref C) f = some none ∧ H1 a = some (exv a (.ref C) (some dx)) ∧ H1 dx = some (.xd gs) ∧ gs.lookup f = some y ∧ Q y H1) I
    ⟨ρ, μ, α, R, S, V0, h0.bind fun x μ1 v α1 R1 H1 S1 A1 q1 h1 => by
      split at h1
      · rename_i c fs
        have h1 : After X.K X.mg E (relD X.K X.mg) α1 R1 H1 (if c ∈ cs then ofO (fs.lookup f) μ1 else .bad) Q := h1
        split at h1
        · rename_i hcs
          obtain ⟨d, e1, e2⟩ := h1.ofO
          cases q1 with
          | exc g1 g2 g3 g4 =>
            rename_i a C dx gs
            obtain ⟨k1, k2⟩ := hcls c hcs C g1
            obtain ⟨y, g5, g6⟩ := g4.look e1
            have ea : H1 a = some (exv a (.ref C) (some dx)) := by
              rcases S1.frz a _ g2 with q | ⟨ks, o, q, _⟩
              · exact q
              · have q' : HO.ext _ = HO.dK ks := q
                cases q'
            have ed : H1 dx = some (.xd gs) := by
              rcases S1.frz dx _ g3 with q | ⟨ks, o, q, _⟩
              · exact q
              · cases q
            exact ⟨a, C, dx, gs, y, rfl, k1, k2, ea, ed, g5, e2 y α1 R1 H1 S1 .refl g6⟩
        · exact False.elim h1
      · exact False.elim h1⟩
  refine attr_of hb (thn h1 fun u s1 hh => ?_)
  obtain ⟨x, H1, I1, rx, a, C, dx, gs, y, ex, T, hno, ea, ed, l, q⟩ := hh
  subst ex
  obtain rfl : u = Value.ref a := rx
  have hx : ObjOk X.prog X.w H1 s1.heap dx (.xd gs) := I1.hok dx _ ed
  obtain ⟨mA, hns, hr⟩ := hx
  obtain ⟨od, ho, hl⟩ := lookIn_ns hns
  obtain ⟨u, hu, ru⟩ := RelO.some_of (v := y) (o := mA f) (by rw [← l]; exact hr f)
  have hoa : ObjOk X.prog X.w H1 s1.heap a (exv a (.ref C) (some dx)) := I1.hok a _ ea
  obtain ⟨⟨oe, vs, ha, hcl, hdi, hd⟩, _, _⟩ := hoa
  have J : PySem.W.InstAt s1.heap a oe C (some od) := ⟨ha, hcl, by unfold PySem.W.notCls; rw [hd] <;> rfl, by rw [hdi]; exact ho⟩
  exact HandSPX.exc_get I1.kIn J T.ga T.gg T.exC (PySem.W.findObj_own T.hdC hno rfl (by rw [hl, hu])) (handed_of ru) ⟨y, H1, I1.tok _, ru, q⟩
end
end TL

set_option Elab.async false
set_option maxRecDepth 100000
set_option maxHeartbeats 2000000
set_option linter.all false
namespace TL
open PySem PySem.Spec PyProof.Rows L2
/-! ### dict(xs) of a list of pairs -/
def pairsK : List D → Option (List (Key × D))
  | [] => some []
  | .tuple [k, v] :: r => (keyOf k).bind fun k => (pairsK r).map ((k, v) :: ·)
  | _ => none
theorem pairsK_den {K : PySem.W.Frag} {mg : Str → Option Value} {μ : Mu} {R H : Hp} {α : List Addr} (S : SM K mg μ α R H) : ∀ {ws : List V} {xs : List D} {kvs : List (Key × D)}, DenL K mg R α ws xs → pairsK xs = some kvs →
    ∃ (ps : List Addr) (ks : List (Key × V)), ws = ps.map V.ref ∧ Paired (fun p kv => SqT K H p [kV kv.1, kv.2]) ps ks ∧ DenK K mg R α ks kvs
  | [], [], kvs, .nil, e => by
    cases e
    exact ⟨[], [], rfl, .nil, .nil⟩
  | _ :: _, _ :: _, kvs, .cons h t, e => by
    unfold pairsK at e
    split at e
    · rename_i h0; cases h0
    · rename_i k v r h0
      cases h0
      obtain ⟨k', e1, e2⟩ := Option.bind_eq_some_iff.mp e
      obtain ⟨kvs', e3, rfl⟩ := Option.map_eq_some_iff.mp e2
      obtain ⟨ps, ks, rfl, h1, h2⟩ := pairsK_den S t e3
      cases h with
      | tuple hq hl hd =>
        rename_i a vs
        obtain ⟨w1, w2, rfl, d1, d2⟩ := denL2 hd
        obtain rfl := keyOf_den d1 e1
        exact ⟨a :: ps, (k', w2) :: ks, rfl, .cons (S.sqT hq) h1, .cons d2 h2⟩
    · cases e
def gDictA : GN := fun μ ds => match gDict μ ds with
  | some c => some c
  | none => match ds with
    | [x] => (seqL μ x).bind fun xs => (pairsK xs).map fun kvs => .dict (mergeD kvs)
    | _ => none
theorem cal_dictA {X : Cx} (hc : X.calm = true) : CalN X (.type "dict") gDictA := by
  rintro pins s σ H vs us Q I r ⟨μ, α, R, ds, c, S, h, e, q⟩
  unfold gDictA at e
  split at e
  · rename_i c' e1
    cases e
    exact cal_dict pins s σ H vs us Q I r ⟨μ, α, R, ds, c, S, h, e1, q⟩
  · split at e
    · obtain ⟨v, rfl, h1⟩ := denL1 h
      obtain ⟨xs, e1, e⟩ := Option.bind_eq_some_iff.mp e
      obtain ⟨kvs, e2, rfl⟩ := Option.map_eq_some_iff.mp e
      obtain ⟨a, ws, rfl, hq, hl, dl⟩ := S.seqL h1 e1
      obtain ⟨ps, ks, rfl, hp, dk⟩ := pairsK_den S dl e2
      have dm : DenK X.K X.mg R α (mergeK [] ks) (mergeD kvs) := merge_den dk .nil
      have hlen : (mergeK [] ks).length ≤ sizeLine := by
        have h3 := length_mergeK ks []
        simp only [List.length_nil] at h3
        have h4 : ps.length = ks.length := hp.length
        rw [List.length_map] at hl
        omega
      exact call_dictP hc pins s σ H _ us Q I r ⟨a, ps, ks, rfl, SqL.of hq, hp, fun p hn => q (.non, .dK (mergeK [] ks)) ⟨_, rfl, hlen, dm⟩ p hn⟩
    · cases e
/-! ### what the module's exception classes are -/
/-- the class cn catches those of the list, says sub -/
structure Xc (K : PySem.W.Frag) (mg : Str → Option Value) (cn : Str) (sub : Str → Option Bool) : Prop where
  ex : ∃ C, mg cn = some (.ref C) ∧ ∀ yc b, sub yc = some b → ∀ C', mg yc = some (.ref C') → PySem.W.exmOne K (.ref C') (.ref C) = some b
/-- the field f of the classes cs -/
def Xf (K : PySem.W.Frag) (mg : Str → Option Value) (cs : List Str) (f : Str) : Prop := ∀ c ∈ cs, ∀ C, mg c = some (.ref C) → XfC K C ∧ PySem.W.findIn K (.ref C) f = some none
def subOf (l : List (Str × Bool)) : Str → Option Bool := fun y => l.lookup y
theorem subOf_cons {c yc : Str} {b r : Bool} {l : List (Str × Bool)} (h : subOf ((c, b) :: l) yc = some r) : (yc = c ∧ r = b) ∨ subOf l yc = some r := by
  unfold subOf at h ⊢
  rw [List.lookup_cons] at h
  by_cases e : yc = c
  · subst e
    rw [beq_self_eq_true] at h
    cases h
    exact .inl ⟨rfl, rfl⟩
  · have e2 : (yc == c) = false := by simpa using e
    rw [e2] at h
    exact .inr h
theorem subOf_nil {yc : Str} {r : Bool} (h : subOf [] yc = some r) : False := by cases h
section
variable {X : Cx} {E : XK} {cn n y : Str} {i j m k : Nat} {suite : List Stmt} {b₀ : Stmt} {np py pf pc pa pos pos' : Pos} {sub : Str → Option Bool} {su : FS} {x : Str} {F : List D → Mu → Res D} {dds : List D} {e : Expr} {es : List Expr} {t : FA}
theorem ds_tryx (hN : X.N.Nodup) (hi : X.N[i]? = some n) (hj : X.N[j]? = some y) (hy : Loc X.env.scope y) (hfy : X.fn y = true ∨ X.env.scope.names.lookup y = some .local) (xc : Xc X.K X.mg cn sub) (tk : Takes X (fun cls d _ H => E cls d H))
    (G : Has X.prog X.w X.K X.mg X.base k x m dds F) (hr : Room k X.A) (hgd : X.A.guards = some []) (hg : Gl X x) (hgc : Gl X cn)
    (ha : ∀ (pn : List (Addr × Obj)) (xe : Value → Shared → Prop), DA (X.tr pn xe) EN (e :: es) t)
    (hsu : ∀ (a : Addr) (pn : List (Addr × Obj)), DSs (X.suite a pn) EN (b₀ :: suite) su)
    (hs : X.stack = X.env :: X.outer := by rfl) (hf : X.env.frame = some X.env.locals := by rfl) (hln : X.env.kindOf n = some .local := by rfl)
    (hdc : (cn == ("__debug__" : Str)) = false := by decide)
    (hdb : (x == ("__debug__" : Str)) = false := by decide) (he : starEach (e :: es) X.env = (false, eval e X.env) :: starEach es X.env := by rfl) (hpl : (backTo pc (starEach es X.env)).any (·.1) = false := by rfl)
    (hsw : swapsWith (.Call (.Name x pf) (e :: es) [] pc) (some (.Name y py)) pa.line X.env = pure false := by rfl) :
    DS X E (.Try [.Assign [.Name y py] (.Call (.Name x pf) (e :: es) [] pc) pa] [.ExceptHandler (some (.Name cn np)) (some n) (b₀ :: suite) pos'] [] [] pos) (sTry j i sub (eCallN m F dds t) su) := by
  obtain ⟨C, hC, hex⟩ := xc.ex
  exact ds_try hs hf hN hi hln ⟨hgc, hdc, .inl hC⟩ tk hj hy hfy G hr hgd hg ha hex hsu hdb he hpl hsw
end
/-- an exception class of the text, by what is written of it -/
theorem HasX.mk0 {P : Program} {w : World} {K : PySem.W.Frag} {mg : Str → Option Value} {base : Heap} {cn fld qual : Str} {st : Stmt} {C f : Addr} {fd : FuncData} (hm : mg cn = some (.ref C)) (F : Fun K "__init__" qual st f fd) (hb : Binds K fd ["self", fld] [])
    (S : FnScope ["self", fld] ["self", fld] (defScope st)) (T : OexC K C) (hi : PySem.W.findIn K (.ref C) "__init__" = some (some (.ref f))) (ht : PySem.W.typeIn K (.ref f) = some (.type "function")) (hno : PySem.W.findIn K (.ref C) fld = some none)
    (body : ∀ (cdv : Value) (A : Around) (outer : List PySem.Env) (s : Shared) (H : Hp) (E : XK), PSs (cxOf (L2.CX P w) P w K mg base ["self", fld] qual (defScope st) f cdv A outer s H E) (defBody st) (tOst K fld (tVar 0) (tVar 1))) : HasX P w K mg base 1 cn fld :=
  ⟨C, f, fd, hm, T, hi, ht, xinit_ok F S T hno body, hb⟩
end TL

set_option Elab.async false
set_option maxRecDepth 100000
set_option maxHeartbeats 2000000
set_option linter.all false
namespace TL
open PySem PySem.Spec PyProof.Rows L2
/-! ### str(i) -/
def gStr : GL := fun _ ds => match ds with
  | [.int i] => chk (decide (i.natAbs.log2 < 1920)) (.str (toString i))
  | _ => none
theorem cal_str {X : Cx} : CalR X (.type "str") gStr := by
  rintro pins s σ H vs us Q I r ⟨μ, α, R, ds, d, S, h, e, q⟩
  unfold gStr at e
  split at e
  · obtain ⟨c0, rfl⟩ := chk_some e
    obtain ⟨v, rfl, h1⟩ := denL1 h
    cases h1
    exact call_str_int pins s σ H _ us Q I r ⟨_, rfl, of_decide_eq_true c0, q _ R H S .refl (.str _)⟩
  · cases e
end TL

set_option Elab.async false
set_option maxRecDepth 100000
set_option maxHeartbeats 2000000
set_option linter.all false
namespace TL
open PySem PySem.Spec PyProof.Rows L2
/-! ### a def whose own cells stay (they are told inside of tuples, or by an exception) -/
def runDefK (n : Nat) (f : FS) (ds : List D) (μ : Mu) : Res D := match f (startD n ds) μ with
  | .ok (.nx _) μ' => .ok .none μ'
  | .ok (.rt d) μ' => .ok d μ'
  | .ok _ _ => .bad
  | .ex x μ' => .ex x μ'
  | .bad => .bad
section
variable {P : Program} {w : World} {K : PySem.W.Frag} {mg : Str → Option Value} {base : Heap}
theorem fn_okKE {k : Nat} {x qual : Str} {st : Stmt} {f : Addr} {fd : FuncData} {N ps : List Str} {fb : FS} (Fex : ∃ (oc : Value) (od : Option Addr) (dV kV doc pm : Value) (an : Option Addr) (cdv ct : Value) (osl : Array (Option Value)), fd = PySem.W.fnOf x qual (defArgs st) (defBody st) (defScope st) dV kV doc pm an cdv ct ∧ K.lookup f = some ⟨oc, od, .func fd, osl⟩ ∧ PySem.W.codeIn K cdv qual = true) (S : FnScope N ps (defScope st))
    (body : ∀ (cdv : Value) (A : Around) (outer : List PySem.Env) (s : Shared) (H : Hp) (E : XK), Room k (A.deeper (envOfC qual (defScope st) s.heap.objs.size f cdv)) → (A.deeper (envOfC qual (defScope st) s.heap.objs.size f cdv)).guards = some [] →
      DSs (cxOf (L2.CX P w) P w K mg base N qual (defScope st) f cdv A outer s H E) E (defBody st) fb) : FnT P w K mg base (k + 1) f fd ps (runDefK N.length fb) := by
  refine ⟨fun A outer s H args us vs ds μ α R Q E hr hgd e0 hb r hl SMu dl h => ?_⟩
  obtain ⟨oc, od, dV, kV, doc, pm, an, cdv, ct, osl, rfl, lk, hcd⟩ := Fex
  have inK : K.In s.heap := e0.mod.kin.keeps fun b o e => (e0.bs b o e).1
  have lim : s.heap.NoLimit := e0.mod.nolimit.keeps fun b o e => (e0.bs b o e).1
  have kinds : ∀ y ∈ ps.zip us, (defScope st).names.lookup y.1 = some .local ∨ ((defScope st).names.lookup y.1 = some .cell ∧ ((cellsFrom (s.heap.objs.size + 1) (defScope st).names []).lookup y.1).isSome = true) := by
    rintro ⟨n, v⟩ hy
    rcases S.par n (List.of_mem_zip hy).1 with q | q
    · exact Or.inl q
    · exact Or.inr ⟨q, PySem.W.cellsFrom_some _ _ _ (.inl q)⟩
  refine codeAny_call_function hr.depth (inK _ _ lk) rfl S.co S.gen rfl (PySem.W.codeRec_of inK hcd) (hb _ _ _ _ ?_)
  refine wpAny_newFunctionEnv_cells S.kind kinds fun env he s1 x => ?_
  subst he
  refine ⟨lim.keeps x.toInCall.keep, codeAny_func ?_⟩
  have hbd := body cdv A outer s H E (hr.deeper _) (by show A.guards = some []; exact hgd)
  have I : Inv (cxOf (L2.CX P w) P w K mg base N qual (defScope st) f cdv A outer s H E) [] (start N vs) H s1 := inv_start S hr.hd e0 hl r x
  have fin : ∀ {σ' : L2.St} {H' : Hp} {v : V} {u : Value} {s' : Shared}, Inv (cxOf (L2.CX P w) P w K mg base N qual (defScope st) f cdv A outer s H E) [] σ' H' s' → RelV v u → Q v H' → CE outer P w H s Q u s' :=
    fun {σ' H' v u s'} J rv q => ⟨v, H', J.os, J.bare, J.base, J.hok, rv, q⟩
  have rd : LiftS K mg E fb { nx := fun _ H' => Q .non H', rt := Q } (start N vs) H := by
    refine ⟨startD N.length ds, μ, α, R, SMu, ss_start dl, ?_⟩
    unfold runDefK at h
    cases e : fb (startD N.length ds) μ with
    | bad => rw [e] at h; exact h
    | ex y μ1 => rw [e] at h; exact h
    | ok fl μ1 =>
      rw [e] at h
      cases fl with
      | nx ρ => exact fun σ' α1 R1 H1 S1 A1 V1 => h .non α1 R1 H1 S1 A1 .none
      | rt d => exact fun v α1 R1 H1 S1 A1 q1 => h v α1 R1 H1 S1 A1 q1
      | bk ρ => exact False.elim h
      | ct ρ => exact False.elim h
  refine wpAny_mono (hbd.run [] s1 (start N vs) H _ I rd) (fun fl s' hs => ?_) fun e s' hs => hs
  cases fl with
  | ret u =>
    obtain ⟨v, σ', H', J, rv, q⟩ := hs
    exact fin J rv q
  | next =>
    obtain ⟨σ', H', J, q⟩ := hs
    exact fin (v := V.non) (u := Value.none) J rfl q
  | brk =>
    obtain ⟨_, _, _, q⟩ := hs
    exact False.elim q
  | cont =>
    obtain ⟨_, _, _, q⟩ := hs
    exact False.elim q
theorem fn_okK {k : Nat} {x qual : Str} {st : Stmt} {f : Addr} {fd : FuncData} {N ps : List Str} {fb : FS} (F : Fun K x qual st f fd) (S : FnScope N ps (defScope st))
    (body : ∀ (cdv : Value) (A : Around) (outer : List PySem.Env) (s : Shared) (H : Hp) (E : XK), Room k (A.deeper (envOfC qual (defScope st) s.heap.objs.size f cdv)) → (A.deeper (envOfC qual (defScope st) s.heap.objs.size f cdv)).guards = some [] →
      DSs (cxOf (L2.CX P w) P w K mg base N qual (defScope st) f cdv A outer s H E) E (defBody st) fb) : FnT P w K mg base (k + 1) f fd ps (runDefK N.length fb) := by
  obtain ⟨oc, od, kV, doc, pm, an, cdv, ct, osl, e, lk, hcd⟩ := F.ex
  exact fn_okKE ⟨oc, od, .none, kV, doc, pm, an, cdv, ct, osl, e, lk, hcd⟩ S body
end
/-! ### isinstance of a caught exception -/
section
variable {X : Cx}
def rIsX (K : PySem.W.Frag) : List V → Hp → VK → Prop := fun xs H Q => ∃ (a C dx : Addr) (gs : List (Str × V)) (c : V) (b : Bool), xs = [.ref a, c] ∧ ExcC K C ∧ H a = some (exv a (.ref C) (some dx)) ∧ H dx = some (.xd gs) ∧
  ((∃ cv, ClsV c cv ∧ PySem.W.kitOne K (.ref C) cv = some b) ∨ ∃ (tp : Addr) (cs : List V) (us : List Value), c = .ref tp ∧ SqT K H tp cs ∧ Paired ClsV cs us ∧ PySem.W.kitAny K (.ref C) us = some b) ∧ Q (.bl b) H
theorem call_isX : CallR X (.builtin "isinstance") (rIsX X.K) := by
  intro pins s σ H xs us Q I r h
  obtain ⟨a, C, dx, gs, c, b, rfl, T, ea, ed, hc, q⟩ := h
  obtain ⟨u1, u2, rfl, r1, r2⟩ := vals2 r
  cases (show u1 = Value.ref a from r1)
  have hx : ObjOk X.prog X.w H s.heap dx (.xd gs) := I.hok dx _ ed
  obtain ⟨mA, hns, hr⟩ := hx
  obtain ⟨od, ho, hl⟩ := lookIn_ns hns
  have hoa : ObjOk X.prog X.w H s.heap a (exv a (.ref C) (some dx)) := I.hok a _ ea
  obtain ⟨⟨oe, vs, ha, hcl, hdi, hd⟩, _, _⟩ := hoa
  have J : PySem.W.InstAt s.heap a oe C (some od) := ⟨ha, hcl, by unfold PySem.W.notCls; rw [hd] <;> rfl, by rw [hdi]; exact ho⟩
  have hcls : (PySem.W.clsIn X.K C).isSome = true := by
    obtain ⟨cd, e, _⟩ := PySem.W.any_some T.hd
    rw [e]
    rfl
  have Z := PySem.W.kitx_exc (x := a) (ox := oe) (od := some od) hcls T.hg T.hk T.hs T.ha T.hn T.ht T.hm
  rcases hc with ⟨cv, k, e⟩ | ⟨tp, cs, ws, rfl, hT, k, e⟩
  · have e2 := k.eq r2
    subst e2
    exact PySem.W.kia_one Z I.kIn J e (fun z => nomatch z) fun tk => ⟨.bl b, H, I.tok tk, rfl, q⟩
  · cases (show u2 = Value.ref tp from r2)
    obtain (hT | ⟨ob, hT⟩) | ⟨o, its, n, hk, hc2, hd2, _, rv⟩ := hT
    · obtain ⟨_, its, rv, o, h1, h2, n, h3⟩ := (show ObjOk X.prog X.w H s.heap tp (.tup cs) from I.hok tp _ hT)
      have e3 := ClsV.all k rv
      subst e3
      obtain ⟨oc, od, dt, sl⟩ := o
      simp only at h2 h3
      subst h2 h3
      exact PySem.W.kia_tup Z I.kIn J h1 e (fun z => nomatch z) fun tk => ⟨.bl b, H, I.tok tk, rfl, q⟩
    · obtain ⟨_, _, its, rv, o, h1, h2, n, h3⟩ := (show ObjOk X.prog X.w H s.heap tp (.frz ob (.tup cs)) from I.hok tp _ hT)
      have e3 := ClsV.all k rv
      subst e3
      obtain ⟨oc, od, dt, sl⟩ := o
      simp only at h2 h3
      subst h2 h3
      exact PySem.W.kia_tup Z I.kIn J h1 e (fun z => nomatch z) fun tk => ⟨.bl b, H, I.tok tk, rfl, q⟩
    · have e3 := ClsV.all k rv
      subst e3
      obtain ⟨oc, od, dt, sl⟩ := o
      simp only at hc2 hd2
      subst hc2 hd2
      refine PySem.W.kia_tup Z I.kIn J (?_ : s.heap.get? tp = some ⟨.type "tuple", od, .seq (its.toList).toArray n, sl⟩) e (fun z => nomatch z) fun tk => ⟨.bl b, H, I.tok tk, rfl, q⟩
      rw [Array.toArray_toList]
      exact I.kIn _ _ hk
end
def isTab (l : List ((Str × Str) × Bool)) (lt : List ((Str × String) × Bool)) (c : Str) : D → Option Bool
  | .fn n => l.lookup (c, n)
  | .ty T => lt.lookup (c, T)
  | _ => none
def isAny (f : D → Option Bool) : List D → Option Bool
  | [] => some false
  | d :: r => (f d).bind fun a => (isAny f r).map fun b => a || b
def gIsX (cs : List Str) (l : List ((Str × Str) × Bool)) (lt : List ((Str × String) × Bool)) : GL := fun _ ds => match ds with
  | [.exc c _, t] => if c ∈ cs then (match t with
    | .tuple ts => (isAny (isTab l lt c) ts).map .bool
    | t => (isTab l lt c t).map .bool) else none
  | _ => none
structure Xi (K : PySem.W.Frag) (mg : Str → Option Value) (cs : List Str) (l : List ((Str × Str) × Bool)) (lt : List ((Str × String) × Bool)) : Prop where
  e : ∀ c ∈ cs, ∀ C, mg c = some (.ref C) → ExcC K C
  x : ∀ c n b, ((c, n), b) ∈ l → ∀ C N, mg c = some (.ref C) → mg n = some (.ref N) → PySem.W.kitOne K (.ref C) (.ref N) = some b
  t : ∀ c T b, ((c, T), b) ∈ lt → ∀ C, mg c = some (.ref C) → PySem.W.kitOne K (.ref C) (.type T) = some b
theorem lookup_in {κ υ : Type} [BEq κ] [LawfulBEq κ] : ∀ {l : List (κ × υ)} {k : κ} {v : υ}, l.lookup k = some v → (k, v) ∈ l
  | (a, b) :: l, k, v, h => by
    rw [List.lookup_cons] at h
    cases e : k == a with
    | true =>
      rw [e] at h
      cases h
      rw [eq_of_beq e]
      exact List.mem_cons_self ..
    | false =>
      rw [e] at h
      exact List.mem_cons_of_mem _ (lookup_in h)
section
variable {X : Cx} {ks : List Str} {l : List ((Str × Str) × Bool)} {lt : List ((Str × String) × Bool)}
theorem tab_den {K : PySem.W.Frag} {mg : Str → Option Value} {R : Hp} {α : List Addr} {c : Str} {C : Addr} {v : V} {t : D} {b : Bool} (hx : Xi K mg ks l lt) (hc : mg c = some (.ref C)) (h : Den K mg R α v t) (e : isTab l lt c t = some b) : ∃ cv, ClsV v cv ∧ PySem.W.kitOne K (.ref C) cv = some b := by
  cases h with
  | fn hf => exact ⟨_, .own _, hx.x _ _ _ (lookup_in e) _ _ hc hf⟩
  | ty n => exact ⟨_, .ty n, hx.t _ _ _ (lookup_in e) _ hc⟩
  | _ => cases e
theorem any_den {K : PySem.W.Frag} {mg : Str → Option Value} {R : Hp} {α : List Addr} {c : Str} {C : Addr} (hx : Xi K mg ks l lt) (hc : mg c = some (.ref C)) : ∀ {ts : List D} {vs : List V} {b : Bool}, DenL K mg R α vs ts → isAny (isTab l lt c) ts = some b → ∃ us, Paired ClsV vs us ∧ PySem.W.kitAny K (.ref C) us = some b
  | [], [], b, .nil, e => by
    cases e
    exact ⟨[], .nil, rfl⟩
  | t :: ts, v :: vs, b, .cons h r, e => by
    unfold isAny at e
    obtain ⟨b1, e1, e⟩ := Option.bind_eq_some_iff.mp e
    obtain ⟨b2, e2, rfl⟩ := Option.map_eq_some_iff.mp e
    obtain ⟨cv, k1, k2⟩ := tab_den hx hc h e1
    obtain ⟨us, q1, q2⟩ := any_den hx hc r e2
    refine ⟨cv :: us, .cons k1 q1, ?_⟩
    unfold PySem.W.kitAny
    rw [k2]
    cases b1 with
    | true => rfl
    | false => exact q2
theorem cal_isX (hx : Xi X.K X.mg ks l lt) : CalR X (.builtin "isinstance") (gIsX ks l lt) := by
  rintro pins s σ H vs us Q I r ⟨μ, α, R, ds, d, S, h, e, q⟩
  have exa : ∀ {a C dx : Addr} {gs : List (Str × V)}, R a = some (exv a (.ref C) (some dx)) → R dx = some (.xd gs) → H a = some (exv a (.ref C) (some dx)) ∧ H dx = some (.xd gs) := fun {a C dx gs} g2 g3 => by
    constructor
    · rcases S.frz a _ g2 with q | ⟨ks, o, q, _⟩
      · exact q
      · have q' : HO.ext _ = HO.dK ks := q
        cases q'
    · rcases S.frz dx _ g3 with q | ⟨ks, o, q, _⟩
      · exact q
      · cases q
  unfold gIsX at e
  split at e
  · rename_i c fs t
    split at e
    · rename_i hcs
      obtain ⟨v, v', rfl, h1, h2⟩ := denL2 h
      cases h1 with
      | exc hc ha hd hf =>
        obtain ⟨x1, x2⟩ := exa ha hd
        have T := hx.e _ hcs _ hc
        split at e
        · rename_i ts
          obtain ⟨b, e1, rfl⟩ := Option.map_eq_some_iff.mp e
          cases h2 with
          | tuple hq hl hdl =>
            obtain ⟨us2, q1, q2⟩ := any_den hx hc hdl e1
            exact call_isX pins s σ H _ us Q I r ⟨_, _, _, _, _, b, rfl, T, x1, x2, .inr ⟨_, _, us2, rfl, S.sqT hq, q1, q2⟩, q _ R H S .refl (.bool _)⟩
        · obtain ⟨b, e1, rfl⟩ := Option.map_eq_some_iff.mp e
          obtain ⟨cv, k1, k2⟩ := tab_den hx hc h2 e1
          exact call_isX pins s σ H _ us Q I r ⟨_, _, _, _, _, b, rfl, T, x1, x2, .inl ⟨cv, k1, k2⟩, q _ R H S .refl (.bool _)⟩
    · cases e
  · cases e
theorem de_fnx {E : XK} {x : Str} {pos : Pos} (hg : Gl X x) (hm : ∃ f, X.mg x = some (.ref f)) (hdb : (x == ("__debug__" : Str)) = false := by decide) : DE X E (.Name x pos) (eC (.fn x)) := by
  obtain ⟨f, hf⟩ := hm
  exact de_fn hg hf hdb
end
end TL

set_option Elab.async false
set_option maxRecDepth 100000
set_option maxHeartbeats 2000000
set_option linter.all false
namespace TL
open PySem PySem.Spec PyProof.Rows L2
/-! ### methods of own classes: o.m(e, ..) -/
def eMt (n : Nat) (c m : Str) (F : List D → Mu → Res D) (fo : FE) (t : FA) : FE := fun ρ μ => (fo ρ μ).bind fun x μ1 => match objV μ1 x with
  | some (c', fs) => if c' = c ∧ (fs.lookup m).isNone = true then (t ρ μ1).bind fun ds μ2 => if ds.length + 1 = n then F (x :: ds) μ2 else .bad else .bad
  | none => .bad
structure HasM (P : Program) (w : World) (K : PySem.W.Frag) (mg : Str → Option Value) (base : Heap) (k : Nat) (c m : Str) (n : Nat) (F : List D → Mu → Res D) : Prop where
  ex : ∃ (C f : Addr) (fd : FuncData) (ps : List Str), ps.length = n ∧ FnT P w K mg base k f fd ps F ∧ mg c = some (.ref C) ∧ Cls K C ∧ Meth K C m f ∧ Binds K fd ps []
theorem HasM.mk0 {P : Program} {w : World} {K : PySem.W.Frag} {mg : Str → Option Value} {base : Heap} {k n : Nat} {c m : Str} {C f : Addr} {fd : FuncData} {ps : List Str} {F : List D → Mu → Res D} (G : FnT P w K mg base k f fd ps F) (hm : mg c = some (.ref C)) (M : Cls K C) (M2 : Meth K C m f)
    (hb : Binds K fd ps []) (hn : ps.length = n := by rfl) : HasM P w K mg base k c m n F := ⟨C, f, fd, ps, hn, G, hm, M, M2, hb⟩
section
variable {X : Cx} {E : XK} {pos apos : Pos} {o e : Expr} {es : List Expr} {c m : Str} {k n : Nat} {F : List D → Mu → Res D} {fo : FE} {t : FA}
theorem DenF.noneF {K : PySem.W.Frag} {mg : Str → Option Value} {R : Hp} {α : List Addr} : ∀ {gs : List (Str × V)} {fs : List (Str × D)} {m : Str}, DenF K mg R α gs fs → fs.lookup m = none → gs.lookup m = none
  | [], [], _, .nil, _ => rfl
  | (a, v) :: gs, (_, d) :: fs, m, .cons h t, e => by
    rw [List.lookup_cons] at e ⊢
    cases q : m == a with
    | true => rw [q] at e; cases e
    | false => rw [q] at e; exact DenF.noneF t e
theorem de_mt {pl : Sem Bool} (G : HasM X.prog X.w X.K X.mg X.base k c m n F) (hr : Room k X.A) (hgd : X.A.guards = some []) (hx : Passes (L2.CX X.prog X.w) X E) (ho : DE X E o fo) (ha : DA X E (e :: es) t)
    (hst : starEach (e :: es) X.env = (false, eval e X.env) :: starEach es X.env := by rfl) (hpl : (backTo pos (starEach es X.env)).any (·.1) = false := by rfl)
    (ht : eval (.Call (.Attribute o m apos) (e :: es) [] pos) X.env = (do
      let ov ← eval o X.env
      standAt apos.atName
      let (f, first) ← holding [ov] (getMethod ov m pl)
      callWith pos f first (backTo pos (starEach (e :: es) X.env)) (backToKw pos (keywordEach [] X.env))) := by rfl) :
    DE X E (.Call (.Attribute o m apos) (e :: es) [] pos) (eMt n c m F fo t) := by
  obtain ⟨C, f, fd, ps, hn, G1, hmc, hC, hM, hb⟩ := G.ex
  subst hn
  refine ⟨fun pins s σ H Q I ⟨ρ, μ, α, R, S, V, h⟩ => ?_⟩
  have h1 := ho.run pins s σ H (fun v H1 => ∃ (a dx : Addr) (gs : List (Str × L2.V)) (x : D) (μ1 : Mu) (α1 : List Addr) (R1 : Hp), v = .ref a ∧ H1 a = some (.ins C dx gs) ∧ gs.lookup m = none ∧ SM X.K X.mg μ1 α1 R1 H1 ∧ SS X.K X.mg ρ R1 α1 σ ∧ Den X.K X.mg R1 α1 (.ref a) x ∧
      After X.K X.mg E (relD X.K X.mg) α1 R1 H1 ((t ρ μ1).bind fun ds μ2 => if ds.length + 1 = ps.length then F (x :: ds) μ2 else .bad) Q) I
    ⟨ρ, μ, α, R, S, V, h.bind fun x μ1 v α1 R1 H1 S1 A1 q1 h2 => by
      cases ex : objV μ1 x with
      | none => rw [ex] at h2; exact False.elim h2
      | some p =>
        obtain ⟨c', fs⟩ := p
        rw [ex] at h2
        have h3 : After X.K X.mg E (relD X.K X.mg) α1 R1 H1 (if c' = c ∧ (fs.lookup m).isNone = true then (t ρ μ1).bind fun ds μ2 => if ds.length + 1 = ps.length then F (x :: ds) μ2 else .bad else .bad) Q := h2
        split at h3
        · rename_i hc
          obtain ⟨rfl, hno⟩ := hc
          obtain ⟨a, C', dx, gs, rfl, g1, g2, g3⟩ := S1.objV q1 ex
          have e3 := g1.symm.trans hmc
          cases e3
          exact ⟨a, dx, gs, x, μ1, α1, R1, rfl, g2, DenF.noneF g3 (Option.isNone_iff_eq_none.mp hno), S1, V.adv A1, q1, h3⟩
        · exact False.elim h3⟩
  refine PySem.W.methodCall_KW (pl := pl) (thn h1 fun u s1 hh => ?_) ht
  obtain ⟨x0, H1, I1, rx, a, dx, gs, x, μ1, α1, R1, ex, ea, l, S1, V1, dx1, q⟩ := hh
  subst ex
  obtain rfl : u = Value.ref a := rx
  refine getmeth_ok I1 ea hC hM l ?_
  have ha' := ha.run pos pins s1 σ H1 _ I1 ⟨ρ, μ1, α1, R1, S1, V1, q.bind (Q1 := fun vs H2 => ∃ ds μ2 α2 R2, SM X.K X.mg μ2 α2 R2 H2 ∧ DenL X.K X.mg R2 α2 (.ref a :: vs) (x :: ds) ∧ After X.K X.mg E (relD X.K X.mg) α2 R2 H2 (if ds.length + 1 = ps.length then F (x :: ds) μ2 else .bad) Q)
    fun ds μ2 vs α2 R2 H2 S2 A2 d2 h2 => ⟨ds, μ2, α2, R2, S2, .cons (dx1.adv A2) d2, h2⟩⟩
  refine PySem.W.callWith_K (first := [.ref a]) (h₀ := X.base) I.ok.mod.kin hM.kp (thn ha' fun us s2 hq => ?_) hst hpl
  obtain ⟨vs, H2, I2, r, ds, μ2, α2, R2, S2, d2, h2⟩ := hq
  refine ⟨I2.kIn, ?_⟩
  have r2 : Vals (L2.V.ref a :: vs) (Value.ref a :: us) := .cons rfl r
  exact After.run (us := .ref a :: us) (vs := .ref a :: vs) (ds := x :: ds) (dvs := []) (dds := []) (dus := []) G1 hr hgd hb .nil (fun _ _ => .nil) hx I2 r2 S2 d2 (by
    rw [List.append_nil]
    exact h2)
end
/-! ### defs that call themselves: nothing is known at depth 0 -/
theorem FnT_bad {P : Program} {w : World} {K : PySem.W.Frag} {mg : Str → Option Value} {base : Heap} {k : Nat} {f : Addr} {fd : FuncData} {ps : List Str} : FnT P w K mg base k f fd ps (fun _ _ => .bad) :=
  ⟨fun _ _ _ _ _ _ _ _ _ _ _ _ _ _ _ _ _ _ _ _ _ h => False.elim h⟩
end TL

set_option Elab.async false
set_option maxRecDepth 100000
set_option maxHeartbeats 2000000
set_option linter.all false
namespace TL
open PySem PySem.Spec PyProof.Rows L2
/-! ### xs.count(i), xs.clear() -/
def gCount : GM := fun μ x ds => match ds with
  | [.int k] => (seqL μ x).bind fun xs => (intsD xs).map fun ns => (.int (ns.count k : Nat), μ)
  | _ => none
def gClear : GM := fun μ x ds => match x, ds with
  | .loc n, [] => match μ[n]? with
    | some (some (.list _)) => some (.none, μ.set n (some (.list [])))
    | _ => none
  | _, _ => none
section
variable {X : Cx}
theorem mg_count : MtG X "list.count" gCount := by
  rintro pins s σ H x vs v us Q I rx r ⟨μ, α, R, dx, ds, d, μ', S, h1, h2, e, q⟩
  unfold gCount at e
  split at e
  · rename_i k
    obtain ⟨xs, e1, e⟩ := Option.bind_eq_some_iff.mp e
    obtain ⟨ns, e2, e3⟩ := Option.map_eq_some_iff.mp e
    cases e3
    obtain ⟨w, rfl, k2⟩ := denL1 h2
    cases k2
    obtain ⟨l, ws, rfl, hq, hl, dl⟩ := S.seqL h1 e1
    obtain rfl := intsD_den dl e2
    exact mt_lcount pins s σ H _ _ v us Q I rx r ⟨l, ns, k, rfl, rfl, SqL.of hq, q _ R H S .refl (.int _)⟩
  · cases e
theorem mg_clear : MtG X "list.clear" gClear := by
  rintro pins s σ H x vs v us Q I rx r ⟨μ, α, R, dx, ds, d, μ', S, h1, h2, e, q⟩
  unfold gClear at e
  split at e
  · rename_i n
    split at e
    · rename_i xs e1
      cases e
      cases h1 with
      | loc hα =>
        rename_i a
        cases h2
        obtain ⟨_, ws, g1, g2, g3⟩ := S.cell n _ a e1 hα
        obtain ⟨S2, A2⟩ := S.put (u := .lst []) (c := .list []) e1 hα ⟨_, upd_same, Nat.zero_le _, .nil⟩
        exact mt_clear pins s σ H _ _ v us Q I rx r ⟨a, ws, rfl, rfl, g1, q _ R _ S2 A2 .none⟩
    · cases e
  · cases e
end
/-! ### max(xs), min(xs) of whole numbers -/
def maxZ : List Int → Int
  | [] => 0
  | [a] => a
  | a :: b :: r => if a < maxZ (b :: r) then maxZ (b :: r) else a
def minZ : List Int → Int
  | [] => 0
  | [a] => a
  | a :: b :: r => if minZ (b :: r) < a then minZ (b :: r) else a
theorem maxZ_is : ∀ {ns : List Int}, ns ≠ [] → maxZ ns ∈ ns ∧ ∀ y ∈ ns, y ≤ maxZ ns
  | [], h => absurd rfl h
  | [a], _ => ⟨List.mem_singleton.mpr rfl, fun y hy => by rw [List.mem_singleton.mp hy]; exact Int.le_refl _⟩
  | a :: b :: r, _ => by
    obtain ⟨h1, h2⟩ := maxZ_is (ns := b :: r) (by simp)
    unfold maxZ
    by_cases hc : a < maxZ (b :: r)
    · rw [if_pos hc]
      refine ⟨List.mem_cons_of_mem _ h1, fun y hy => ?_⟩
      rcases List.mem_cons.mp hy with rfl | hy
      · exact Int.le_of_lt hc
      · exact h2 y hy
    · rw [if_neg hc]
      refine ⟨List.mem_cons_self .., fun y hy => ?_⟩
      rcases List.mem_cons.mp hy with rfl | hy
      · exact Int.le_refl _
      · exact Int.le_trans (h2 y hy) (Int.not_lt.mp hc)
theorem minZ_is : ∀ {ns : List Int}, ns ≠ [] → minZ ns ∈ ns ∧ ∀ y ∈ ns, minZ ns ≤ y
  | [], h => absurd rfl h
  | [a], _ => ⟨List.mem_singleton.mpr rfl, fun y hy => by rw [List.mem_singleton.mp hy]; exact Int.le_refl _⟩
  | a :: b :: r, _ => by
    obtain ⟨h1, h2⟩ := minZ_is (ns := b :: r) (by simp)
    unfold minZ
    by_cases hc : minZ (b :: r) < a
    · rw [if_pos hc]
      refine ⟨List.mem_cons_of_mem _ h1, fun y hy => ?_⟩
      rcases List.mem_cons.mp hy with rfl | hy
      · exact Int.le_of_lt hc
      · exact h2 y hy
    · rw [if_neg hc]
      refine ⟨List.mem_cons_self .., fun y hy => ?_⟩
      rcases List.mem_cons.mp hy with rfl | hy
      · exact Int.le_refl _
      · exact Int.le_trans (Int.not_lt.mp hc) (h2 y hy)
def gMaxL : GL := fun μ ds => match ds with
  | [x] => (seqL μ x).bind fun xs => (intsD xs).bind fun ns => if ns.isEmpty then none else some (.int (maxZ ns))
  | _ => none
def gMinL : GL := fun μ ds => match ds with
  | [x] => (seqL μ x).bind fun xs => (intsD xs).bind fun ns => if ns.isEmpty then none else some (.int (minZ ns))
  | _ => none
section
variable {X : Cx}
theorem cal_maxL (hc : X.calm = true) : CalR X (.builtin "max") gMaxL := by
  rintro pins s σ H vs us Q I r ⟨μ, α, R, ds, d, S, h, e, q⟩
  unfold gMaxL at e
  split at e
  · obtain ⟨v, rfl, h1⟩ := denL1 h
    obtain ⟨xs, e1, e⟩ := Option.bind_eq_some_iff.mp e
    obtain ⟨ns, e2, e⟩ := Option.bind_eq_some_iff.mp e
    split at e
    · cases e
    · rename_i hne
      cases e
      obtain ⟨a, ws, rfl, hq, hl, dl⟩ := S.seqL h1 e1
      obtain rfl := intsD_den dl e2
      have hne' : ns ≠ [] := fun c => hne (by rw [c]; rfl)
      obtain ⟨m1, m2⟩ := maxZ_is hne'
      refine cr_max hc pins s σ H _ us Q I r ⟨a, ns, rfl, SqL.of hq, List.length_pos_iff.mpr hne', fun m h3 h4 => ?_⟩
      have : m = maxZ ns := Int.le_antisymm (m2 m h3) (h4 _ m1)
      rw [this]
      exact q _ R H S .refl (.int _)
  · cases e
theorem cal_minL (hc : X.calm = true) : CalR X (.builtin "min") gMinL := by
  rintro pins s σ H vs us Q I r ⟨μ, α, R, ds, d, S, h, e, q⟩
  unfold gMinL at e
  split at e
  · obtain ⟨v, rfl, h1⟩ := denL1 h
    obtain ⟨xs, e1, e⟩ := Option.bind_eq_some_iff.mp e
    obtain ⟨ns, e2, e⟩ := Option.bind_eq_some_iff.mp e
    split at e
    · cases e
    · rename_i hne
      cases e
      obtain ⟨a, ws, rfl, hq, hl, dl⟩ := S.seqL h1 e1
      obtain rfl := intsD_den dl e2
      have hne' : ns ≠ [] := fun c => hne (by rw [c]; rfl)
      obtain ⟨m1, m2⟩ := minZ_is hne'
      refine cr_min hc pins s σ H _ us Q I r ⟨a, ns, rfl, SqL.of hq, List.length_pos_iff.mpr hne', fun m h3 h4 => ?_⟩
      have : m = minZ ns := Int.le_antisymm (h4 _ m1) (m2 m h3)
      rw [this]
      exact q _ R H S .refl (.int _)
  · cases e
end
/-! ### sorted(xs) of any length: whole numbers, pairs of whole numbers -/
def prsD : List D → Option (List (Int × Int))
  | [] => some []
  | .tuple [.int a, .int b] :: xs => (prsD xs).map ((a, b) :: ·)
  | _ => none
def pairZ (p : Int × Int) : D := .tuple [.int p.1, .int p.2]
def ltPr (p q : Int × Int) : Bool := SrtO.lexB p q
section
variable {X : Cx}
theorem cr_sortPairs : CallR X (.builtin "sorted") (fun vs H Q => ∃ (a : Addr) (xs : List V) (k : V → Int × Int), vs = [V.ref a] ∧ SqL X.K H a xs ∧ (∀ x ∈ xs, ∃ t : Addr, x = V.ref t ∧ SqT X.K H t [.int (k x).1, .int (k x).2]) ∧
    ∀ zs n, SrtO.Srtd (L2.ltP k) zs → SrtO.Stb (L2.ltP k) zs xs → H n = none → Q (.ref n) (upd H n (.lst zs))) := by
  rintro pins s σ H vs us Q I r ⟨l, xs, key, rfl, hseq, hall, fin⟩
  obtain ⟨items, rel, isl, bound⟩ := I.list hseq
  obtain ⟨w, rfl, rw1⟩ := vals1 r
  have ew : w = Value.ref l := rw1
  subst ew
  obtain ⟨b1, b2⟩ := refs_back rel fun x m => (hall x m).imp fun t h => h.1
  refine SrtO.sorted_pairsO (k := fun u => key (backV u)) isl.isList (by rw [← rel.length]; exact bound) (fun u hu => ?_) fun h' n out o1 o2 kp big hn => ?_
  · obtain ⟨t, rfl⟩ := b2 u hu
    obtain ⟨t', e, tup⟩ := hall (V.ref t) (by rw [b1]; exact List.mem_map.mpr ⟨_, hu, rfl⟩)
    have et : t = t' := V.ref.inj e
    subst et
    obtain ⟨its2, rel2, ⟨o, ho, hc, n, hd⟩, _⟩ := I.tuple tup
    obtain ⟨u1, u2, rfl, ⟨t1, rfl⟩, t2, rfl⟩ := vals2 rel2
    exact ⟨t, o, t1, t2, n, rfl, ho, hc, hd⟩
  · obtain ⟨m, hm⟩ := hn
    have refs : ∀ u ∈ out, ∃ b, u = Value.ref b := fun u hu => b2 u (o2.perm.mem_iff.mp hu)
    have stab : SrtO.Stb (L2.ltP key) (out.map backV) xs := by
      rw [b1]
      exact SrtO.Stb.map (ltP_swo key) backV o2
    have lenOk : (out.map backV).length ≤ sizeLine := by rw [stab.len]; exact bound
    exact ⟨.ref n, upd H n (.lst (out.map backV)), I.laid (t' := s.toks) kp big ⟨lenOk, out, m, vals_back refs, hm⟩, rfl, fin _ n (SrtO.srtd_map o1) stab (I.hok.fresh big)⟩
end
def keysZ : List (Key × D) → Option (List Int)
  | [] => some []
  | (.inl s, _) :: xs => (keysZ xs).map (s :: ·)
  | _ => none
theorem keysZ_den {K : PySem.W.Frag} {mg : Str → Option Value} {R : Hp} {α : List Addr} : ∀ {vs : List (Key × V)} {xs : List (Key × D)} {ys : List Int}, DenK K mg R α vs xs → keysZ xs = some ys → vs.map (·.1) = ys.map Sum.inl
  | _, _, _, .nil, e => by cases e; rfl
  | _, _, _, .cons (k := k) h t, e => by
    cases k with
    | inl s =>
      simp only [keysZ] at e
      obtain ⟨zs, e1, rfl⟩ := Option.map_eq_some_iff.mp e
      rw [List.map_cons, List.map_cons, keysZ_den t e1]
    | inr _ => simp [keysZ] at e
def gSortedB : GN := fun μ ds => match gSortedA μ ds with
  | some c => some c
  | none => match ds with
    | [x] => match dctV μ x with
      | some kvs => (keysZ kvs).bind fun ks => if ks.length < 64 then some (.list ((sortB ltZ ks).map D.int)) else none
      | none => (seqL μ x).bind fun xs => match intsD xs with
        | some ns => some (.list ((sortB ltZ ns).map D.int))
        | none => (tupsD xs).bind fun nss => if (nss.all fun ns => ns.length == 2) = true then some (.list ((sortB ltL nss).map tupZ)) else none
    | _ => none
theorem two_all {T : V → List Int → Prop} {p : List Int → Prop} : ∀ {ws : List V} {nss : List (List Int)}, Two T ws nss → (∀ n ∈ nss, p n) → Two (fun x n => T x n ∧ p n) ws nss
  | _, _, .nil, _ => .nil
  | _, _, .cons h t, k => .cons ⟨h, k _ (List.mem_cons_self ..)⟩ (two_all t fun n hn => k n (List.mem_cons_of_mem _ hn))
theorem map_int_inj : ∀ {a b : List Int}, a.map V.int = b.map V.int → a = b
  | [], [], _ => rfl
  | [], _ :: _, h => nomatch h
  | _ :: _, [], h => nomatch h
  | x :: a, y :: b, h => by
    rw [List.map_cons, List.map_cons, List.cons.injEq] at h
    rw [V.int.inj h.1, map_int_inj h.2]
section
variable {X : Cx}
theorem cal_sortedB (hc : X.calm = true) : CalN X (.builtin "sorted") gSortedB := by
  rintro pins s σ H vs us Q I r ⟨μ, α, R, ds, c, S, h, e, q⟩
  unfold gSortedB at e
  split at e
  · rename_i c' e1
    cases e
    exact cal_sortedA hc pins s σ H vs us Q I r ⟨μ, α, R, ds, c, S, h, e1, q⟩
  · split at e
    · obtain ⟨v, rfl, h1⟩ := denL1 h
      split at e
      · rename_i kvs e1
        obtain ⟨ks, e2, e⟩ := Option.bind_eq_some_iff.mp e
        split at e
        · rename_i h64
          cases e
          obtain ⟨a, kv, rfl, hd, hl, dk⟩ := S.dctV h1 e1
          refine call_sortedDI hc pins s σ H _ us Q I r ⟨a, kv, ks, rfl, hd, keysZ_den dk e2, h64, fun ys p hp hs hn => ?_⟩
          obtain rfl := sortB_eq ordZ hp (hs.imp fun h => by simp [ltZ]; omega)
          exact q (.non, .lst _) ⟨_, rfl, by rw [List.length_map, hp.length_eq]; exact Nat.le_trans (Nat.le_of_lt h64) (by decide), den_ints _⟩ p hn
        · cases e
      rename_i ed
      obtain ⟨xs, e1, e⟩ := Option.bind_eq_some_iff.mp e
      obtain ⟨a, ws, rfl, hq, hl, dl⟩ := S.seqL h1 e1
      split at e
      · rename_i ns e2
        cases e
        obtain rfl := intsD_den dl e2
        refine cr_sortedI pins s σ H _ us Q I r ⟨a, ns, rfl, SqL.of hq, fun ys p hp hs hn => ?_⟩
        obtain rfl := sortB_eq ordZ hp (hs.imp fun h => by simp [ltZ]; omega)
        refine q (.non, .lst _) ⟨_, rfl, ?_, den_ints _⟩ p hn
        rw [List.length_map, hp.length_eq]
        rw [List.length_map] at hl
        exact hl
      · obtain ⟨nss, e2, e⟩ := Option.bind_eq_some_iff.mp e
        split at e
        · rename_i hall
          cases e
          have two := tupsD_two S dl e2
          have l2 : ∀ ns ∈ nss, ∃ i j, ns = [i, j] := fun ns hn => by
            have := List.all_eq_true.mp hall ns hn
            match ns, this with
            | [i, j], _ => exact ⟨i, j, rfl⟩
          have one : ∀ (x : V) (ns ms : List Int), TupI X.K H x ns → TupI X.K H x ms → ns = ms := fun x ns ms ⟨t, et, ht⟩ ⟨t2, et2, ht2⟩ => by
            rw [et] at et2
            have e3 := V.ref.inj et2
            subst e3
            exact map_int_inj (I.tuple_inj ht ht2)
          obtain ⟨key, hkey⟩ : ∃ key : V → Int × Int, ∀ x i j, TupI X.K H x [i, j] → key x = (i, j) := by
            classical
            refine ⟨fun x => if hx : ∃ p : Int × Int, TupI X.K H x [p.1, p.2] then Classical.choose hx else (0, 0), fun x i j hT => ?_⟩
            have hx : ∃ p : Int × Int, TupI X.K H x [p.1, p.2] := ⟨(i, j), hT⟩
            show (if hx : ∃ p : Int × Int, TupI X.K H x [p.1, p.2] then Classical.choose hx else (0, 0)) = (i, j)
            rw [dif_pos hx]
            have e3 := one x _ _ (Classical.choose_spec hx) hT
            simp only [List.cons.injEq, and_true] at e3
            exact Prod.ext e3.1 e3.2
          refine cr_sortPairs pins s σ H _ us Q I r ⟨a, ws, key, rfl, SqL.of hq, fun x hx => ?_, fun zs n hs hb hn => ?_⟩
          · obtain ⟨ns, hns, hT, _⟩ := two_mem two x hx
            obtain ⟨i, j, rfl⟩ := l2 ns hns
            rw [hkey x i j hT]
            obtain ⟨t, et, ht⟩ := hT
            exact ⟨t, et, ht⟩
          · obtain ⟨nss', h3, h4⟩ := two.perm hb.perm
            have h5 := two_all (p := fun ns => ∃ i j, ns = [i, j]) h4 fun ns hns => l2 ns (h3.mem_iff.mp hns)
            have hs2 : nss'.Pairwise fun a b => ltL b a = false := by
              refine Two.pw (T := fun x ns => (TupI X.K H x ns ∧ Den X.K X.mg R α x (tupZ ns)) ∧ ∃ i j, ns = [i, j]) (R1 := fun x y => L2.ltP key y x = false) ?_ h5 hs
              rintro x y n m ⟨⟨hx, _⟩, i, j, rfl⟩ ⟨⟨hy, _⟩, i2, j2, rfl⟩ hc2
              have hc2 : SrtO.lexB (key y) (key x) = false := hc2
              rw [hkey x i j hx, hkey y i2 j2 hy] at hc2
              have := SrtO.lexB_no.mp hc2
              simp only [ltL, Bool.or_eq_false_iff, decide_eq_false_iff_not, Bool.and_eq_false_imp, beq_iff_eq, Bool.or_false, Bool.and_false]
              simp only at this
              refine ⟨by omega, fun e4 => by subst e4; simp; omega⟩
            obtain rfl := sortB_eq ordL h3 hs2
            refine q (.non, .lst _) ⟨zs, rfl, ?_, two_den h4⟩ n hn
            rw [hb.len]
            exact hl
        · cases e
    · cases e
end
end TL

set_option Elab.async false
set_option linter.all false
namespace TL
open PySem PySem.Spec PyProof.Rows L2
/-! ### short names -/
def _a := @List.getElem?_cons_zero
def _b := @List.getElem?_cons_succ
def _c := @decide_eq_false_iff_not
def _d := @List.replicate_succ
def _e := @List.replicate_zero
def _f := @List.set_cons_zero
def _g := @List.set_cons_succ
def _h := @Bool.false_eq_true
def _i := @List.getElem?_nil
def _j := @decide_eq_true_eq
def _k := @not_false_eq_true
def _l := @not_true_eq_false
def _m := @List.length_cons
def _n := @List.cons_append
def _o := @Bool.and_eq_true
def _p := @Option.bind_some
def _q := @Option.bind_none
def _r := @List.length_nil
def _s := @List.nil_append
def _t := @List.append_nil
def _u := @Option.map_some
def _v := @Option.map_none
def _w := @Bool.not_false
def _x := @List.map_cons
def _y := @Bool.true_and
def _z := @Bool.and_true
def _A := @Bool.and_self
def _B := @Bool.not_true
def _C := @false_implies
def _D := @gAppend_last
def _E := @List.map_nil
def _F := @List.set_nil
def _G := @Nat.zero_add
def _H := @decide_false
def _I := @true_implies
def _J := @decide_true
def _K := @catO_last
def _L := @gAdd_last
def _M := @isTy_last
def _N := @ite_false
def _O := @thenB_ok
def _P := @ofO_some
def _Q := @mergeD_1
def _R := @ite_true
def _S := @if_false
def _T := @gIsNot_n
def _U := @gIsNot_b
def _V := @gMax2_ii
def _W := @gMin2_ii
def _X := @gTuple_t
def _Y := @gTuple_l
def _Z := @size_lit
def _aa := @true_and
def _ab := @and_true
def _ac := @W_obind
def _ad := @runK_nx
def _ae := @runK_rt
def _af := @seqK_nx
def _ag := @seqK_rt
def _ah := @seqK_bk
def _ai := @seqK_ct
def _aj := @W_chain
def _ak := @thenB_b
def _al := @ok_bind
def _am := @and_okD
def _an := @catO_ll
def _ao := @size_lt
def _ap := @if_true
def _aq := @gAdd_ii
def _ar := @gAdd_ss
def _as := @gAdd_tt
def _at := @gAdd_ll
def _au := @gSub_ii
def _av := @gMul_ii
def _aw := @gMul_si
def _ax := @gMul_li
def _ay := @gDiv_ii
def _az := @gMod_ii
def _ba := @gPow_ii
def _bb := @gList_d
def _bc := @gList_l
def _bd := @gList_t
def _be := @gDict_d
def _bf := @mulOk_r
def _bg := @mulOk_l
def _bh := @some_ex
def _bi := @W_bind
def _bj := @W_noEx
def _bk := @W_some
def _bl := @W_none
def _bm := @and_ok
def _bn := @or_okD
def _bo := @gNeg_i
def _bp := @gLt_ii
def _bq := @gLe_ii
def _br := @gGt_ii
def _bs := @gGe_ii
def _bt := @gAbs_i
def _bu := @gLen_s
def _bv := @gLen_l
def _bw := @gLen_t
def _bx := @gLen_d
def _by := @gLen_r
def _bz := @W_must
def _ca := @W_bad
def _cb := @W_ite
def _cc := @W_chk
def _cd := @W_map
def _ce := @W_run
def _cf := @W_seq
def _cg := @or_ok
def _ch := @gIs_n
def _ci := @gIs_b
def _cj := @gIx_l
def _ck := @gIx_t
def _cl := @gIx_d
def _cm := @gIx_r
def _cn := @atI_0
def _co := @atI_1
def _cp := @atI_2
def _cq := @atI_3
def _cr := @W_sub
def _cs := @W_ok
def _ct := @W_ex
end TL

set_option Elab.async false
set_option maxRecDepth 100000
set_option maxHeartbeats 2000000
set_option linter.all false
/-! The tree layer: more of try. -/
namespace TL
open PySem PySem.Spec PyProof.Rows L2
section
variable {X : Cx} {W : WX} {k n : Nat} {F : List D → Mu → Res D} {dds : List D} {x : Str} {p pos : Pos} {e e1 e2 : Expr} {es : List Expr} {t : FA} {f1 f2 : FE}
/-- a call that may let an exception out -/
theorem we_call (tk : Takes X W) (G : Has X.prog X.w X.K X.mg X.base k x n dds F) (hr : Room k X.A) (hgd : X.A.guards = some []) (hg : Gl X x) (ha : DA X EN (e :: es) t)
    (hdb : (x == ("__debug__" : Str)) = false := by decide) (he : starEach (e :: es) X.env = (false, eval e X.env) :: starEach es X.env := by rfl) (hpl : (backTo pos (starEach es X.env)).any (·.1) = false := by rfl) :
    PE X (.Call (.Name x p) (e :: es) [] pos) (tW X.K X.mg W (eCallN n F dds t)) := by
  obtain ⟨f, fd, ps, dvs, dus, hn, Gf, hm, hk, hb, hd, hdd⟩ := G.ex
  exact pe_callW tk Gf hr hgd hg hm hk hb hd hdd ha hn hdb he hpl
/-- [e1, e2], both may let an exception out -/
theorem we_lst2 (h1 : PE X e1 (tW X.K X.mg W f1)) (h2 : PE X e2 (tW X.K X.mg W f2)) (hs1 : starEach [e1, e2] X.env = (false, eval e1 X.env) :: starEach [e2] X.env := by rfl) (hs2 : starEach [e2] X.env = (false, eval e2 X.env) :: starEach [] X.env := by rfl) :
    PE X (.List [e1, e2] pos) (tW X.K X.mg W (eFz (nLst (aCons f1 (aCons f2 aNil))))) := by
  refine wE (pe_lst (pa_cons h1 (pa_cons h2 pa_nil hs2) hs1)) fun σ H Q ⟨ρ, μ, α, R, S, V, h⟩ => ?_
  have hN : After X.K X.mg (fun cls d H' => W cls d σ H') (relN X.K X.mg) α R H (nLst (aCons f1 (aCons f2 aNil)) ρ μ) (fun v H1 => ∀ p, H1 p = none → Q (.ref p) (upd H1 p v.2)) := After.bind h fun c μ1 v α1 R1 H1 S1 A1 d1 h1 => fun p hp => by
    obtain ⟨S2, A2⟩ := S1.lay (u := v.2) hp
    refine h1 _ α1 _ _ S2 A2 ?_
    cases c with
    | list xs => obtain ⟨vs, e1, e2, e3⟩ := d1; exact .list (by rw [upd_same, e1]) e2 (e3.adv A2)
    | dict xs => obtain ⟨vs, e1, e2, e3⟩ := d1; exact .dict (by rw [upd_same, e1]) e2 (e3.up A2.r A2.a)
    | obj c xs => obtain ⟨C, dx, vs, e0, e1, e3⟩ := d1; exact .obj e0 (by rw [upd_same, e1]) (e3.up A2.r A2.a)
  have hL : After X.K X.mg (fun cls d H' => W cls d σ H') (relL X.K X.mg) α R H (aCons f1 (aCons f2 aNil) ρ μ) (fun vs H1 => vs.length ≤ sizeLine ∧ ∀ p, H1 p = none → Q (.ref p) (upd H1 p (.lst vs))) := After.bind hN fun ds μ1 vs α1 R1 H1 S1 A1 d1 h1 => by
    by_cases hl : ds.length ≤ sizeLine
    · rw [if_pos hl] at h1
      refine ⟨by rw [d1.len]; exact hl, fun p hp => ?_⟩
      exact h1 (L2.V.non, .lst vs) α1 R1 H1 S1 .refl ⟨vs, rfl, by rw [d1.len]; exact hl, d1⟩ p hp
    · rw [if_neg hl] at h1; exact False.elim h1
  refine ⟨ρ, μ, α, R, S, V, After.bind hL fun x μ1 v α1 R1 H1 S1 A1 d1 h1 => ?_⟩
  have h2 : After X.K X.mg (fun cls d H' => W cls d σ H') (relL X.K X.mg) α1 R1 H1 (aCons f2 aNil ρ μ1) (fun vs H2 => (v :: vs).length ≤ sizeLine ∧ ∀ p, H2 p = none → Q (.ref p) (upd H2 p (.lst (v :: vs)))) := After.bind h1 fun xs μ2 vs α2 R2 H2 S2 A2 d2 h2 => h2 _ α2 R2 H2 S2 .refl (.cons (d1.adv A2) d2)
  refine ⟨ρ, μ1, α1, R1, S1, V.adv A1, After.bind h2 fun y μ2 v2 α2 R2 H2 S2 A2 d2 h3 => ?_⟩
  exact h3 [v2] α2 R2 H2 S2 .refl (.cons d2 .nil)
end
/-! ### try: y = e / except C as n: suite, the exception of e going to the clause -/
section
variable {X : Cx} {E : XK} {cn n y : Str} {c : Value} {i j : Nat} {suite : List Stmt} {b₀ : Stmt} {np py pa pos pos' : Pos} {sub : Str → Option Bool} {su : FS} {e : Expr} {f : FE}
theorem ds_tryG (hN : X.N.Nodup) (hi : X.N[i]? = some n) (hj : X.N[j]? = some y) (hy : Loc X.env.scope y) (hfy : X.fn y = true ∨ X.env.scope.names.lookup y = some .local) (xc : Xc X.K X.mg cn sub) (tk : Takes X (fun cls d _ H => E cls d H)) (hgc : Gl X cn)
    (he : ∀ (W : WX) (pn : List (Addr × Obj)) (xe : Value → Shared → Prop), Takes (X.tr pn xe) W → PE (X.tr pn xe) e (tW X.K X.mg W f))
    (hsu : ∀ (a : Addr) (pn : List (Addr × Obj)), DSs (X.suite a pn) EN (b₀ :: suite) su)
    (hs : X.stack = X.env :: X.outer := by rfl) (hf : X.env.frame = some X.env.locals := by rfl) (hln : X.env.kindOf n = some .local := by rfl)
    (hdc : (cn == ("__debug__" : Str)) = false := by decide)
    (hsw : swapsWith e (some (.Name y py)) pa.line X.env = pure false := by rfl) :
    DS X E (.Try [.Assign [.Name y py] e pa] [.ExceptHandler (some (.Name cn np)) (some n) (b₀ :: suite) pos'] [] [] pos) (sTry j i sub f su) := by
  obtain ⟨C0, hC, hexm⟩ := xc.ex
  refine wS (ps_try_own (c := .ref C0) (tb := fun W => tAsg (tW X.K X.mg W f) (gName j)) (ts := fun _ _ _ => LiftS X.K X.mg EN su) hs hf hN hi hln ⟨hgc, hdc, .inl hC⟩ tk (fun W pn xe tk' _ => pss_one (ps_set (X := X.tr pn xe) hN hj hy (he W pn xe tk') hsw hfy)) fun a cls d pn => hsu a pn) ?_
  rintro Dn σ H ⟨ρ, μ, α, R, S, V, h⟩
  refine ⟨ρ, μ, α, R, S, V, ?_⟩
  unfold sTry at h
  cases hr : f ρ μ with
  | bad => rw [hr] at h; exact False.elim h
  | ok d μ1 =>
    rw [hr] at h
    exact fun w α1 R1 H1 S1 A1 q1 => h _ α1 R1 H1 S1 A1 ((V.adv A1).set j q1)
  | ex z μ1 =>
    rw [hr] at h
    intro cls od α1 R1 H1 S1 A1 dx
    obtain ⟨C, d, gs, hmg, rfl, rfl, hRd, dF⟩ := dx
    have h : AfterS X.K X.mg E α R H (match sub z.c with
      | some true => unset i (su (ρ.set i (some (.exc z.c z.fs))) μ1)
      | some false => .ex z μ1
      | none => .bad) Dn := h
    cases hsb : sub z.c with
    | none => rw [hsb] at h; exact False.elim h
    | some b =>
      rw [hsb] at h
      refine ⟨b, hexm z.c b hsb C hmg, fun hb a na => ?_, fun hb => ?_⟩
      · subst hb
        obtain ⟨S2, A2⟩ := S1.lay (u := exv a (.ref C) (some d)) na
        have hda : d ≠ a := fun e => by
          rcases S1.frz d _ hRd with q | ⟨ks, o, q, _⟩
          · rw [e, na] at q; cases q
          · cases q
        refine ⟨ρ.set i (some (.exc z.c z.fs)), μ1, α1, _, S2, ((V.adv A1).adv A2).set i (.exc hmg upd_same (by rw [upd_ne hda]; exact hRd) (dF.up A2.r A2.a)), ?_⟩
        have h : AfterS X.K X.mg E α R H (unset i (su (ρ.set i (some (.exc z.c z.fs))) μ1)) Dn := h
        have A12 := A1.trans A2
        cases hq : su (ρ.set i (some (.exc z.c z.fs))) μ1 with
        | bad => rw [hq] at h; exact False.elim h
        | ex _ _ => rw [hq] at h; exact False.elim h
        | ok fl μ2 =>
          rw [hq] at h
          cases fl with
          | nx ρ2 => exact fun σ' α' R' H' S' A' V' => h _ α' R' H' S' (A12.trans A') (V'.unset i)
          | bk ρ2 => exact fun σ' α' R' H' S' A' V' => h _ α' R' H' S' (A12.trans A') (V'.unset i)
          | ct ρ2 => exact fun σ' α' R' H' S' A' V' => h _ α' R' H' S' (A12.trans A') (V'.unset i)
          | rt d2 => exact fun v α' R' H' S' A' q' => h v α' R' H' S' (A12.trans A') q'
      · subst hb
        exact h _ _ α1 R1 H1 S1 A1 ⟨C, d, gs, hmg, rfl, rfl, hRd, dF⟩
/-! ### try: e / except C as n: suite -/
def sTryE (i : Nat) (sub : Str → Option Bool) (f : FE) (su : FS) : FS := fun ρ μ => match f ρ μ with
  | .ok _ μ1 => .ok (.nx ρ) μ1
  | .ex y μ1 => (match sub y.c with
    | some true => unset i (su (ρ.set i (some (.exc y.c y.fs))) μ1)
    | some false => .ex y μ1
    | none => .bad)
  | .bad => .bad
theorem ds_tryE (hN : X.N.Nodup) (hi : X.N[i]? = some n) (xc : Xc X.K X.mg cn sub) (tk : Takes X (fun cls d _ H => E cls d H)) (hgc : Gl X cn)
    (he : ∀ (W : WX) (pn : List (Addr × Obj)) (xe : Value → Shared → Prop), Takes (X.tr pn xe) W → PE (X.tr pn xe) e (tW X.K X.mg W f))
    (hsu : ∀ (a : Addr) (pn : List (Addr × Obj)), DSs (X.suite a pn) EN (b₀ :: suite) su)
    (hs : X.stack = X.env :: X.outer := by rfl) (hf : X.env.frame = some X.env.locals := by rfl) (hln : X.env.kindOf n = some .local := by rfl)
    (hdc : (cn == ("__debug__" : Str)) = false := by decide)
    (hsw : swapsWith e none pa.line X.env = pure false := by rfl) :
    DS X E (.Try [.Expr e pa] [.ExceptHandler (some (.Name cn np)) (some n) (b₀ :: suite) pos'] [] [] pos) (sTryE i sub f su) := by
  obtain ⟨C0, hC, hexm⟩ := xc.ex
  refine wS (ps_try_own (c := .ref C0) (tb := fun W => tDrop (tW X.K X.mg W f)) (ts := fun _ _ _ => LiftS X.K X.mg EN su) hs hf hN hi hln ⟨hgc, hdc, .inl hC⟩ tk (fun W pn xe tk' _ => pss_one (ps_expr (X := X.tr pn xe) (he W pn xe tk') hsw)) fun a cls d pn => hsu a pn) ?_
  rintro Dn σ H ⟨ρ, μ, α, R, S, V, h⟩
  refine ⟨ρ, μ, α, R, S, V, ?_⟩
  unfold sTryE at h
  cases hr : f ρ μ with
  | bad => rw [hr] at h; exact False.elim h
  | ok d μ1 =>
    rw [hr] at h
    exact fun w α1 R1 H1 S1 A1 q1 => h _ α1 R1 H1 S1 A1 (V.adv A1)
  | ex z μ1 =>
    rw [hr] at h
    intro cls od α1 R1 H1 S1 A1 dx
    obtain ⟨C, d, gs, hmg, rfl, rfl, hRd, dF⟩ := dx
    have h : AfterS X.K X.mg E α R H (match sub z.c with
      | some true => unset i (su (ρ.set i (some (.exc z.c z.fs))) μ1)
      | some false => .ex z μ1
      | none => .bad) Dn := h
    cases hsb : sub z.c with
    | none => rw [hsb] at h; exact False.elim h
    | some b =>
      rw [hsb] at h
      refine ⟨b, hexm z.c b hsb C hmg, fun hb a na => ?_, fun hb => ?_⟩
      · subst hb
        obtain ⟨S2, A2⟩ := S1.lay (u := exv a (.ref C) (some d)) na
        have hda : d ≠ a := fun e => by
          rcases S1.frz d _ hRd with q | ⟨ks, o, q, _⟩
          · rw [e, na] at q; cases q
          · cases q
        refine ⟨ρ.set i (some (.exc z.c z.fs)), μ1, α1, _, S2, ((V.adv A1).adv A2).set i (.exc hmg upd_same (by rw [upd_ne hda]; exact hRd) (dF.up A2.r A2.a)), ?_⟩
        have h : AfterS X.K X.mg E α R H (unset i (su (ρ.set i (some (.exc z.c z.fs))) μ1)) Dn := h
        have A12 := A1.trans A2
        cases hq : su (ρ.set i (some (.exc z.c z.fs))) μ1 with
        | bad => rw [hq] at h; exact False.elim h
        | ex _ _ => rw [hq] at h; exact False.elim h
        | ok fl μ2 =>
          rw [hq] at h
          cases fl with
          | nx ρ2 => exact fun σ' α' R' H' S' A' V' => h _ α' R' H' S' (A12.trans A') (V'.unset i)
          | bk ρ2 => exact fun σ' α' R' H' S' A' V' => h _ α' R' H' S' (A12.trans A') (V'.unset i)
          | ct ρ2 => exact fun σ' α' R' H' S' A' V' => h _ α' R' H' S' (A12.trans A') (V'.unset i)
          | rt d2 => exact fun v α' R' H' S' A' q' => h v α' R' H' S' (A12.trans A') q'
      · subst hb
        exact h _ _ α1 R1 H1 S1 A1 ⟨C, d, gs, hmg, rfl, rfl, hRd, dF⟩
/-! ### try: y = e / except C: suite -/
def sTryO (j : Nat) (sub : Str → Option Bool) (f : FE) (su : FS) : FS := fun ρ μ => match f ρ μ with
  | .ok d μ1 => .ok (.nx (ρ.set j (some d))) μ1
  | .ex y μ1 => (match sub y.c with
    | some true => (match su ρ μ1 with
      | .ok fl μ2 => .ok fl μ2
      | _ => .bad)
    | some false => .ex y μ1
    | none => .bad)
  | .bad => .bad
theorem ds_tryO (hN : X.N.Nodup) (hj : X.N[j]? = some y) (hy : Loc X.env.scope y) (hfy : X.fn y = true ∨ X.env.scope.names.lookup y = some .local) (xc : Xc X.K X.mg cn sub) (tk : Takes X (fun cls d _ H => E cls d H)) (hgc : Gl X cn)
    (he : ∀ (W : WX) (pn : List (Addr × Obj)) (xe : Value → Shared → Prop), Takes (X.tr pn xe) W → PE (X.tr pn xe) e (tW X.K X.mg W f))
    (hsu : ∀ (a : Addr) (pn : List (Addr × Obj)), DSs (X.suite a pn) EN (b₀ :: suite) su)
    (hs : X.stack = X.env :: X.outer := by rfl) (hf : X.env.frame = some X.env.locals := by rfl)
    (hdc : (cn == ("__debug__" : Str)) = false := by decide)
    (hsw : swapsWith e (some (.Name y py)) pa.line X.env = pure false := by rfl) :
    DS X E (.Try [.Assign [.Name y py] e pa] [.ExceptHandler (some (.Name cn np)) none (b₀ :: suite) pos'] [] [] pos) (sTryO j sub f su) := by
  obtain ⟨C0, hC, hexm⟩ := xc.ex
  refine wS (ps_try_only (c := .ref C0) (tb := fun W => tAsg (tW X.K X.mg W f) (gName j)) (ts := fun _ _ _ => LiftS X.K X.mg EN su) hs hf ⟨hgc, hdc, .inl hC⟩ tk (fun W pn xe tk' _ => pss_one (ps_set (X := X.tr pn xe) hN hj hy (he W pn xe tk') hsw hfy)) fun a oe cls d pn _ _ => hsu a _) ?_
  rintro Dn σ H ⟨ρ, μ, α, R, S, V, h⟩
  refine ⟨ρ, μ, α, R, S, V, ?_⟩
  unfold sTryO at h
  cases hr : f ρ μ with
  | bad => rw [hr] at h; exact False.elim h
  | ok d μ1 =>
    rw [hr] at h
    exact fun w α1 R1 H1 S1 A1 q1 => h _ α1 R1 H1 S1 A1 ((V.adv A1).set j q1)
  | ex z μ1 =>
    rw [hr] at h
    intro cls od α1 R1 H1 S1 A1 dx
    obtain ⟨C, d, gs, hmg, rfl, rfl, hRd, dF⟩ := dx
    have h : AfterS X.K X.mg E α R H (match sub z.c with
      | some true => (match su ρ μ1 with
        | .ok fl μ2 => .ok fl μ2
        | _ => .bad)
      | some false => .ex z μ1
      | none => .bad) Dn := h
    cases hsb : sub z.c with
    | none => rw [hsb] at h; exact False.elim h
    | some b =>
      rw [hsb] at h
      refine ⟨b, hexm z.c b hsb C hmg, fun hb a na => ?_, fun hb => ?_⟩
      · subst hb
        refine ⟨ρ, μ1, α1, _, S1, V.adv A1, ?_⟩
        have h : AfterS X.K X.mg E α R H (match su ρ μ1 with
          | .ok fl μ2 => .ok fl μ2
          | _ => .bad) Dn := h
        cases hq : su ρ μ1 with
        | bad => rw [hq] at h; exact False.elim h
        | ex _ _ => rw [hq] at h; exact False.elim h
        | ok fl μ2 =>
          rw [hq] at h
          cases fl with
          | nx ρ2 => exact fun σ' α' R' H' S' A' V' => h _ α' R' H' S' (A1.trans A') V'
          | bk ρ2 => exact fun σ' α' R' H' S' A' V' => h _ α' R' H' S' (A1.trans A') V'
          | ct ρ2 => exact fun σ' α' R' H' S' A' V' => h _ α' R' H' S' (A1.trans A') V'
          | rt d2 => exact fun v α' R' H' S' A' q' => h v α' R' H' S' (A1.trans A') q'
      · subst hb
        exact h _ _ α1 R1 H1 S1 A1 ⟨C, d, gs, hmg, rfl, rfl, hRd, dF⟩
end
end TL

set_option Elab.async false
set_option maxRecDepth 100000
set_option maxHeartbeats 2000000
set_option linter.all false
/-! The tree layer: lists that hold cells, compared. -/
namespace TL
open PySem PySem.Spec PyProof.Rows L2
/-- a list that holds cells, seen as a tree -/
def resX (μ : Mu) : D → D
  | .list xs => .list (xs.map (resD μ))
  | d => resD μ d
def gNeX : G2 := fun μ x y => chk (isData 60 (resX μ x) && isData 60 (resX μ y)) (.bool (!deq (resX μ x) (resX μ y)))
def gEqX : G2 := fun μ x y => chk (isData 60 (resX μ x) && isData 60 (resX μ y)) (.bool (deq (resX μ x) (resX μ y)))
section
variable {K : PySem.W.Frag} {mg : Str → Option Value} {R H : Hp} {α : List Addr} {μ : Mu}
theorem dps_res (S : SM K mg μ α R H) {n : Nat} : ∀ (xs : List D) (vs : List V), areData n (xs.map (resD μ)) = true → DenL K mg R α vs xs → DpAll K H vs (toPys (xs.map (resD μ)))
  | [], _, _, .nil => by simpa [toPys] using DpAll.nil
  | x :: xs, _, h, .cons q t => by
    simp only [List.map_cons, areData, Bool.and_eq_true] at h
    simpa [toPys] using DpAll.cons (dp_res S h.1 q) (dps_res S xs _ h.2 t)
theorem dp_resX (S : SM K mg μ α R H) {d : D} {v : V} (h : isData 60 (resX μ d) = true) (q : Den K mg R α v d) : Dp K H v (toPy (resX μ d)) := by
  cases q with
  | list e l t =>
    rename_i vs xs
    have h : areData 59 (xs.map (resD μ)) = true := h
    show Dp K H _ (toPy (.list (xs.map (resD μ))))
    simpa [toPy] using Dp.lst (SqL.of (S.lst e)) (dps_res S xs _ h t)
  | none => exact dp_res S h .none
  | bool b => exact dp_res S h (.bool b)
  | int b => exact dp_res S h (.int b)
  | str b => exact dp_res S h (.str b)
  | tuple e l t => exact dp_res S h (.tuple e l t)
  | dict e l t => exact dp_res S h (.dict e l t)
  | obj e l t => exact dp_res S h (.obj e l t)
  | fn e => exact dp_res S h (.fn e)
  | script e => exact dp_res S h (.script e)
  | ty e => exact dp_res S h (.ty e)
  | loc e => exact dp_res S h (.loc e)
  | exc e l t d => exact dp_res S h (.exc e l t d)
end
section
variable {X : Cx}
theorem o2_eqX (hu : X.A.units + 64 < cLine) : Op2 X (compareOp .Eq) gEqX := by
  rintro pins s σ H x y v u Q I rx ry ⟨μ, α, R, dx, dy, d, S, h1, h2, e, q⟩
  obtain ⟨c0, rfl⟩ := chk_some e; clear e; have e := c0
  simp only [Bool.and_eq_true] at e
  obtain ⟨as, r1⟩ := Dp.reads I _ _ _ (dp_resX S e.1 h1) rx
  obtain ⟨bs, r2⟩ := Dp.reads I _ _ _ (dp_resX S e.2 h2) ry
  have p1 := plain_of 60 _ e.1
  have p2 := plain_of 60 _ e.2
  refine SeqAt.eq_plain r1 r2 p1.1 p2.1 (by have := Nat.min_le_left (toPy (resX μ dx)).depth (toPy (resX μ dy)).depth; omega) ?_
  rw [deq_is 60 60 _ _ e.1 e.2]
  exact ⟨.bl _, H, I, rfl, q _ R H S .refl (.bool _)⟩
theorem o2_neX (hu : X.A.units + 64 < cLine) : Op2 X (compareOp .NotEq) gNeX := by
  rintro pins s σ H x y v u Q I rx ry ⟨μ, α, R, dx, dy, d, S, h1, h2, e, q⟩
  obtain ⟨c0, rfl⟩ := chk_some e; clear e; have e := c0
  simp only [Bool.and_eq_true] at e
  obtain ⟨as, r1⟩ := Dp.reads I _ _ _ (dp_resX S e.1 h1) rx
  obtain ⟨bs, r2⟩ := Dp.reads I _ _ _ (dp_resX S e.2 h2) ry
  have p1 := plain_of 60 _ e.1
  have p2 := plain_of 60 _ e.2
  refine SeqAt.ne_plain r1 r2 p1.1 p2.1 (by have := Nat.min_le_left (toPy (resX μ dx)).depth (toPy (resX μ dy)).depth; omega) ?_
  rw [deq_is 60 60 _ _ e.1 e.2]
  exact ⟨.bl _, H, I, rfl, q _ R H S .refl (.bool _)⟩
end
end TL

set_option Elab.async false
set_option maxRecDepth 100000
set_option maxHeartbeats 2000000
set_option linter.all false
/-! The tree layer: tuples of texts that a module's name holds, methods without arguments, enumerate(xs, k), sorted(tuples of ints) of any length. -/
namespace TL
open PySem PySem.Spec PyProof.Rows L2
/-- the module's name x holds a tuple of texts -/
structure GTup (K : PySem.W.Frag) (mg : Str → Option Value) (x : Str) (xs : List Str) : Prop where
  ex : ∃ (a : Addr) (o : Obj) (its : Array Value) (n : Nat), mg x = some (.ref a) ∧ K.lookup a = some o ∧ o.cls = .type "tuple" ∧ o.data = .seq its n ∧ its.size ≤ sizeLine ∧ Vals (xs.map V.str) its.toList ∧ o.dict = none
theorem GTup.mk0 {K : PySem.W.Frag} {mg : Str → Option Value} {x : Str} {xs : List Str} {a : Addr} {its : Array Value} {n : Nat} {sl : Array (Option Value)} (hm : mg x = some (.ref a)) (hk : K.lookup a = some ⟨.type "tuple", none, .seq its n, sl⟩) (hv : Vals (xs.map V.str) its.toList)
    (hl : xs.length ≤ 64) : GTup K mg x xs := by
  refine ⟨a, _, its, n, hm, hk, rfl, rfl, ?_, hv, rfl⟩
  have q : (xs.map V.str).length = its.toList.length := hv.length
  rw [List.length_map] at q
  have q3 := @Array.length_toList _ its
  have q2 : its.size ≤ 64 := by omega
  exact Nat.le_trans q2 (by decide)
section
variable {X : Cx} {E : XK} {pos : Pos}
theorem denL_strs {K : PySem.W.Frag} {mg : Str → Option Value} {R : Hp} {α : List Addr} : ∀ xs : List Str, DenL K mg R α (xs.map V.str) (xs.map D.str)
  | [] => .nil
  | x :: xs => .cons (.str x) (denL_strs xs)
theorem de_gT {x : Str} {xs : List Str} {d : D} (h : GTup X.K X.mg x xs) (hl : xs.length ≤ 64) (hg : Gl X x) (hd : d = .tuple (xs.map .str)) (hdb : (x == ("__debug__" : Str)) = false := by decide) : DE X E (.Name x pos) (eC d) := by
  subst hd
  obtain ⟨a, o, its, n, h1, h2, h3, h4, h5, h6, _⟩ := h.ex
  exact de_glob (v := .ref a) hg h1 rfl (fun R α => .tuple (.inr ⟨o, its, n, h2, h3, h4, h5, h6⟩) (by rw [List.length_map]; exact Nat.le_trans hl (by decide)) (denL_strs xs)) hdb
end
/-! ### o.m() -/
section
variable {X : Cx} {E : XK} {pos apos : Pos} {o : Expr} {c m : Str} {k n : Nat} {F : List D → Mu → Res D} {fo : FE}
theorem de_mt0 {pl : Sem Bool} (G : HasM X.prog X.w X.K X.mg X.base k c m n F) (hr : Room k X.A) (hgd : X.A.guards = some []) (hx : Passes (L2.CX X.prog X.w) X E) (ho : DE X E o fo)
    (ht : eval (.Call (.Attribute o m apos) [] [] pos) X.env = (do
      let ov ← eval o X.env
      standAt apos.atName
      let (f, first) ← holding [ov] (getMethod ov m pl)
      callWith pos f first (backTo pos (starEach [] X.env)) (backToKw pos (keywordEach [] X.env))) := by rfl) :
    DE X E (.Call (.Attribute o m apos) [] [] pos) (eMt n c m F fo aNil) := by
  obtain ⟨C, f, fd, ps, hn, G1, hmc, hC, hM, hb⟩ := G.ex
  subst hn
  refine ⟨fun pins s σ H Q I ⟨ρ, μ, α, R, S, V, h⟩ => ?_⟩
  have h1 := ho.run pins s σ H (fun v H1 => ∃ (a dx : Addr) (gs : List (Str × L2.V)) (x : D) (μ1 : Mu) (α1 : List Addr) (R1 : Hp), v = .ref a ∧ H1 a = some (.ins C dx gs) ∧ gs.lookup m = none ∧ SM X.K X.mg μ1 α1 R1 H1 ∧ Den X.K X.mg R1 α1 (.ref a) x ∧
      After X.K X.mg E (relD X.K X.mg) α1 R1 H1 (if [x].length = ps.length then F [x] μ1 else .bad) Q) I
    ⟨ρ, μ, α, R, S, V, h.bind fun x μ1 v α1 R1 H1 S1 A1 q1 h2 => by
      cases ex : objV μ1 x with
      | none => rw [ex] at h2; exact False.elim h2
      | some p =>
        obtain ⟨c', fs⟩ := p
        rw [ex] at h2
        have h3 : After X.K X.mg E (relD X.K X.mg) α1 R1 H1 (if c' = c ∧ (fs.lookup m).isNone = true then (if [x].length = ps.length then F [x] μ1 else .bad) else .bad) Q := h2
        split at h3
        · rename_i hc
          obtain ⟨rfl, hno⟩ := hc
          obtain ⟨a, C', dx, gs, rfl, g1, g2, g3⟩ := S1.objV q1 ex
          have e3 := g1.symm.trans hmc
          cases e3
          exact ⟨a, dx, gs, x, μ1, α1, R1, rfl, g2, DenF.noneF g3 (Option.isNone_iff_eq_none.mp hno), S1, q1, h3⟩
        · exact False.elim h3⟩
  refine PySem.W.methodCall_KW (pl := pl) (thn h1 fun u s1 hh => ?_) ht
  obtain ⟨x0, H1, I1, rx, a, dx, gs, x, μ1, α1, R1, ex, ea, l, S1, dx1, q⟩ := hh
  subst ex
  obtain rfl : u = Value.ref a := rx
  refine getmeth_ok I1 ea hC hM l ?_
  refine PySem.W.callWith_K0 (first := [.ref a]) I1.kIn hM.kp ?_
  have r2 : Vals [L2.V.ref a] [Value.ref a] := .cons rfl .nil
  exact After.run (us := [.ref a]) (vs := [.ref a]) (ds := [x]) (dvs := []) (dds := []) (dus := []) G1 hr hgd hb .nil (fun _ _ => .nil) hx I1 r2 S1 (.cons dx1 .nil) q
end
/-! ### enumerate(xs, c) -/
def IteF (K : PySem.W.Frag) (c : Int) (a : Addr) : It :=
  ⟨fun i H => ∃ (xs : List V) (x : V), SqL K H a xs ∧ xs[i]? = some x, fun i H v H' => ∃ T x, v = .ref T ∧ H T = none ∧ H' = upd H T (.tup [.int (c + (i : Nat)), x]) ∧ ∀ xs, SqL K H a xs → xs[i]? = some x, fun i H => ∃ xs : List V, SqL K H a xs ∧ xs.length = i⟩
theorem turn_enumF {P : Program} {w : World} {K : PySem.W.Frag} {elts : List Expr} {kk : Nat} {tpos : Pos} (c : Int) (a e it : Addr) :
    Turn P w K (.Tuple elts kk tpos) (IteF K c a) [e, it] e (fun i h => (∃ old, IsEnum h e it (c + (i : Nat)) old) ∧ h.IsListIter it a i ∧ e ≠ it) where
  mem := List.mem_cons_self ..
  obj := fun i h st b hb => by
    obtain ⟨⟨old, he⟩, ⟨o, ho, hc, hd⟩, _⟩ := st
    rcases List.mem_cons.mp hb with rfl | hb
    · exact ⟨_, he, fun v q => nomatch q⟩
    · rw [List.mem_singleton.mp hb]
      exact ⟨o, ho, fun v q => by rw [hd] at q; cases q⟩
  keep := fun i h h' st k => by
    obtain ⟨⟨old, he⟩, hi, hne⟩ := st
    exact ⟨⟨old, k e (List.mem_cons_self ..) _ he⟩, hi.at fun o q => k it (List.mem_cons_of_mem _ (List.mem_cons_self ..)) o q, hne⟩
  item := by
    intro X hP hw hK hc i pins s σ H E I hf st hg
    subst hP hw hK
    obtain ⟨⟨old, he⟩, hit, hne⟩ := st
    obtain ⟨xs, x, hq, hx⟩ := hg
    obtain ⟨its, rv, p, hz⟩ := I.list hq
    obtain ⟨u, hu, ru⟩ := rv.get hx
    have hL : s.heap.IsList a its.toArray := p.isList
    have hai : a ≠ it := fun q => by
      subst q
      obtain ⟨o1, q1, q2, _⟩ := hit
      obtain ⟨o2, q3, q4, _⟩ := hL
      rw [q1] at q3
      cases q3
      rw [q2] at q4
      injection q4 with q4
      exact absurd q4 (by decide)
    have hea : e ≠ a := fun q => by
      subst q
      obtain ⟨o2, q3, q4, _⟩ := hL
      have q1 : s.heap.get? e = _ := he
      rw [q1] at q3
      cases q3
      injection q4 with q4
      exact absurd q4 (by decide)
    have hel : e < s.heap.objs.size := Heap.lt_size he
    have hil : it < s.heap.objs.size := by obtain ⟨_, q, _⟩ := hit; exact Heap.lt_size q
    have D := Draws.list (prog := X.prog) (w := X.w) (A := X.A.in1) (I.ok.hd hc) it a hai its.toArray
    refine wpAny_pyNext_enum_itemC D he ⟨hit, hL⟩ (i := i) (by
      have := (List.getElem?_eq_some_iff.mp hu).1
      simpa using this) hne (fun q => by
      rcases List.mem_cons.mp q with q | q
      · exact hne q
      · exact hea (List.mem_singleton.mp q)) fun y h' tk hy ho hst hT hsz hk => ?_
    have hyu : y = u := by
      have h2 : its.toArray[i]? = some u := by simpa using hu
      exact Option.some.inj (hy.symm.trans h2)
    subst hyu
    refine ⟨_, rfl, wpAny_letOwnedTupleGo_enum (s := { s with heap := h', toks := tk + 1 }) ho fun h'' he' sb => ?_⟩
    have hT2 : h''.get? s.heap.objs.size = some { cls := .type "tuple", data := .seq #[.int (c + (i : Nat)) tk, y] } := (sb.2 _ (Nat.ne_of_gt hel)).trans hT
    have new : ObjOk X.prog X.w (upd H s.heap.objs.size (.tup [.int (c + (i : Nat)), x])) h'' s.heap.objs.size (.tup [.int (c + (i : Nat)), x]) :=
      ⟨by show 2 ≤ sizeLine; decide, [.int (c + (i : Nat)) tk, y], .cons ⟨_, rfl⟩ (.cons ru .nil), ⟨_, hT2, rfl, _, rfl⟩⟩
    have I1 : Inv X pins σ (upd H s.heap.objs.size (.tup [.int (c + (i : Nat)), x])) { s with heap := h'', toks := tk + 1 } :=
      I.turnedNew (ch := [e, it]) (fun b ob hb q => (sb.2 b (fun z => hb (z ▸ List.mem_cons_self ..))).trans (hk b ob (fun z => hb (z ▸ List.mem_cons_self ..)) (fun z => hb (z ▸ List.mem_cons_of_mem _ (List.mem_cons_self ..))) q)) hf (Nat.le_refl _) new
    refine ⟨.ref s.heap.objs.size, _, I1, rfl, ⟨_, x, rfl, I.hok.fresh (Nat.le_refl _), rfl, fun ys hy => by rw [I.list_inj hy hq]; exact hx⟩, ⟨⟨y, ?_⟩, hst.1.at fun o q => (sb.2 it (Ne.symm hne)).trans q, hne⟩, fun b hb => ?_⟩
    · have e1 : c + ((i + 1 : Nat) : Int) = c + (i : Nat) + 1 := by omega
      rw [e1]; exact he'
    · have hb' : b < s.heap.objs.size := by
        rcases List.mem_cons.mp hb with z | z
        · rw [z]; exact hel
        · rw [List.mem_singleton.mp z]; exact hil
      rw [upd_ne (Nat.ne_of_lt hb')]
      exact (hf b hb).1
  done := by
    intro X hP hw hK hc i pins s σ H E I hf st hg
    subst hP hw hK
    obtain ⟨⟨old, he⟩, hit, hne⟩ := st
    obtain ⟨xs, hq, hx⟩ := hg
    obtain ⟨its, rv, p, hz⟩ := I.list hq
    have hL : s.heap.IsList a its.toArray := p.isList
    have hai : a ≠ it := fun q => by
      subst q
      obtain ⟨o1, q1, q2, _⟩ := hit
      obtain ⟨o2, q3, q4, _⟩ := hL
      rw [q1] at q3
      cases q3
      rw [q2] at q4
      injection q4 with q4
      exact absurd q4 (by decide)
    obtain ⟨f0, f1, f2, f3, f4, f5⟩ := hf it (List.mem_cons_of_mem _ (List.mem_cons_self ..))
    have hl := rv.length
    have D := Draws.list (prog := X.prog) (w := X.w) (A := X.A.in1) (I.ok.hd hc) it a hai its.toArray
    have hin : i = its.toArray.size := by rw [List.size_toArray]; omega
    subst hin
    exact wpAny_pyNext_enum_endD D he ⟨hit, hL⟩ fun h' eb => ⟨rfl, I.turned (t' := s.toks) (fun b o hb q => eb b o hb q) f0 f1 f3 f4 f5⟩
  self := fun A i s Q E st h => by
    obtain ⟨⟨_, he⟩, _⟩ := st
    exact wpAny_pyIter_enum he h
def iEnumFT (K : PySem.W.Frag) (ta : TA) : TI := fun σ H R => ta σ H fun vs H1 => ∃ a xs c, vs = [.ref a, .int c] ∧ SqL K H1 a xs ∧ (-(2 ^ 63) ≤ c ∧ c < 2 ^ 63) ∧ R (IteF K c a) H1
theorem pi_enumF {X : Cx} {e e2 : Expr} {ta : TA} {p pos tpos : Pos} {elts : List Expr} {kk : Nat} (hg : Gl X "enumerate") (hm : X.mg "enumerate" = none) (ha : PA X [e, e2] ta)
    (hs : starEach [e, e2] X.env = (false, eval e X.env) :: starEach [e2] X.env := by rfl) (hpl : (backTo pos (starEach [e2] X.env)).any (·.1) = false := by rfl) :
    PI X (.Tuple elts kk tpos) (.Call (.Name "enumerate" p) [e, e2] [] pos) (iEnumFT X.K ta) := by
  refine ⟨fun pins s σ H R I h => ?_⟩
  refine Call_ (ld_blt I hg hm boot_enumerate (PyProof.Rows.callWith_type1 (thn (ha.run pos pins s σ H _ I h) fun us s1 ⟨vs, H1, I1, r1, q1⟩ => ?_) hs hpl))
  obtain ⟨a, xs, c, ex, hq, hc, q⟩ := q1
  subst ex
  cases r1 with
  | cons r rr =>
    cases rr with
    | cons r3 r4 =>
      cases r4
      cases r
      obtain ⟨t, rfl⟩ := r3
      obtain ⟨its, rv, p', hz⟩ := I1.list hq
      refine enum_begins (begins_list a its.toArray) p'.isList hc.1 hc.2 fun h' he hit hsz hk => wpAny_pyIter_enum he ?_
      have I2 : Inv X pins σ H1 { s1 with heap := h' } := I1.kept (t' := s1.toks) hk
      have he0 : IsEnum h' (s1.heap.objs.size + 1) s1.heap.objs.size (c + ((0 : Nat) : Int)) .none := by
        rw [show c + ((0 : Nat) : Int) = c by omega]; exact he
      refine ⟨s1.heap.objs.size + 1, [s1.heap.objs.size + 1, s1.heap.objs.size], _, _, H1, rfl, I2, turn_enumF c a (s1.heap.objs.size + 1) s1.heap.objs.size, ⟨⟨.none, he0⟩, ⟨_, hit, rfl, rfl⟩, Nat.succ_ne_self _⟩, fun b hb => ?_, q⟩
      have hle : s1.heap.objs.size ≤ b := by
        rcases List.mem_cons.mp hb with z | z
        · rw [z]; exact Nat.le_add_right _ _
        · rw [List.mem_singleton.mp z]; exact Nat.le_refl _
      exact I1.fpOk hle (I1.hok.fresh hle)
def enumDF (c : Int) (xs : List D) : List D := xs.zipIdx.map fun p => .tuple [.int (c + (p.2 : Nat)), p.1]
theorem enumDF_get {c : Int} {xs : List D} {i : Nat} {d : D} (h : (enumDF c xs)[i]? = some d) : ∃ e, xs[i]? = some e ∧ d = .tuple [.int (c + (i : Nat)), e] := by
  unfold enumDF at h
  rw [List.getElem?_map] at h
  obtain ⟨⟨e, j⟩, h1, rfl⟩ := Option.map_eq_some_iff.mp h
  rw [List.getElem?_zipIdx] at h1
  obtain ⟨e', h2, h3⟩ := Option.map_eq_some_iff.mp h1
  cases h3
  exact ⟨e, h2, by simp⟩
theorem enumDF_len {c : Int} {xs : List D} : (enumDF c xs).length = xs.length := by
  unfold enumDF
  rw [List.length_map, List.length_zipIdx]
theorem good_enumF {K : PySem.W.Frag} {mg : Str → Option Value} {chk : Mu → Bool} {a : Addr} {xs : List D} {α : List Addr} {R H : Hp} {c : Int} (rd : Rds K mg chk a xs α R H) : Good K mg (IteF K c a) ⟨enumDF c xs, chk⟩ α R H := by
  refine ⟨by show (enumDF c xs).length ≤ _; rw [enumDF_len]; exact rd.1, fun μ' α' R' H' i d S A hc hi => ?_, fun μ' α' R' H' S A hc => ?_⟩
  · obtain ⟨vs, h1, h3⟩ := rd.2 μ' α' R' H' S A hc
    obtain ⟨e, hi', rfl⟩ := enumDF_get hi
    obtain ⟨v, h4, h5⟩ := h3.get' hi'
    refine ⟨⟨vs, v, h1, h4⟩, fun x H2 ⟨T, y, q1, q2, q3, q4⟩ => ?_⟩
    subst q1 q3
    have := q4 vs h1
    rw [h4] at this; cases this
    obtain ⟨S2, A2⟩ := S.lay (u := .tup [.int (c + (i : Nat)), v]) q2
    exact ⟨_, S2, A2, den_pair (.int _) (h5.adv A2) upd_same⟩
  · obtain ⟨vs, h1, h3⟩ := rd.2 μ' α' R' H' S A hc
    exact ⟨vs, h1, by show vs.length = (enumDF c xs).length; rw [enumDF_len, h3.len]⟩
def kEnumF (ds : List D) (μ1 : Mu) : Res Iter := match ds with
  | [x, .int c] => if -(2 ^ 63) ≤ c ∧ c < 2 ^ 63 then ofO ((rdOf μ1 x).map fun p => ⟨enumDF c p.1, p.2⟩) μ1 else .bad
  | _ => .bad
def iEnumC (t : FA) : FI := fun ρ μ => (t ρ μ).bind kEnumF
theorem di_enumF {X : Cx} {E : XK} {e e2 : Expr} {t : FA} {p pos tpos : Pos} {elts : List Expr} {kk : Nat} (hg : Gl X "enumerate") (hm : X.mg "enumerate" = none) (ha : DA X E [e, e2] t)
    (hs : starEach [e, e2] X.env = (false, eval e X.env) :: starEach [e2] X.env := by rfl) (hpl : (backTo pos (starEach [e2] X.env)).any (·.1) = false := by rfl) :
    DI X E (.Tuple elts kk tpos) (.Call (.Name "enumerate" p) [e, e2] [] pos) (iEnumC t) :=
  wI (pi_enumF hg hm ha hs hpl) fun σ H Rr ⟨ρ, μ, α, R, S, V, h⟩ => ⟨ρ, μ, α, R, S, V, AfterI.bind (k := kEnumF) h fun ds μ1 vs α1 R1 H1 S1 A1 q1 q => by
    unfold kEnumF at q
    split at q
    · obtain ⟨v, v', rfl, h1, h2⟩ := denL2 q1
      cases h2
      split at q
      · rename_i hc
        obtain ⟨it, e1, e2⟩ := AfterI.ofO q
        obtain ⟨pr, e3, rfl⟩ := Option.map_eq_some_iff.mp e1
        obtain ⟨a, rfl, ⟨ws, hw⟩, rd⟩ := rdOf_den S1 h1 e3
        exact ⟨a, ws, _, rfl, hw, hc, e2 _ α1 R1 H1 S1 .refl (good_enumF rd)⟩
      · exact False.elim q
    · exact False.elim q⟩
/-! ### sorted(tuples of ints), any ints, any length -/
def rSortV (K : PySem.W.Frag) : List V → Hp → VK → Prop := fun vs H Q => ∃ (a : Addr) (xs : List V), vs = [V.ref a] ∧ SqL K H a xs ∧ (∀ x ∈ xs, ∃ ns, TupI K H x ns ∧ ns ≠ []) ∧
  ∀ (ys : List V) (p : Addr), ys.Perm xs → ys.Pairwise (fun x y => ∀ n m, TupI K H x n → TupI K H y m → ltL m n = false) → H p = none → Q (.ref p) (upd H p (.lst ys))
section
open PyProof.Rows.G
def noTxt : Nat → Bool := fun _ => false
theorem tupItems_ints : ∀ {its : List Value} {ns : List Int}, IntsAre its ns → ∀ i, tupItems noTxt i its = some (ns.map Sum.inl)
  | _, _, .nil, _ => rfl
  | _, _, .cons n tk h, i => by
    have ih := tupItems_ints h (i + 1)
    have hn : ¬ (noTxt i = true) := Bool.false_ne_true
    simp only [tupItems, if_neg hn, ih, Option.map_some, List.map_cons]
theorem lex_ltL : ∀ a b : List Int, lexLt itemOrd (a.map Sum.inl) (b.map Sum.inl) = ltL a b
  | [], [] => rfl
  | [], _ :: _ => rfl
  | _ :: _, [] => rfl
  | a :: r, b :: t => by
    have ih := lex_ltL r t
    show (decide (a < b) || (!decide (b < a) && lexLt itemOrd (r.map Sum.inl) (t.map Sum.inl))) = (decide (a < b) || (a == b && ltL r t))
    rw [ih]
    rcases Int.lt_trichotomy a b with h | h | h
    · simp [h]
    · subst h
      simp
    · have h1 : ¬ a < b := by omega
      have h2 : (a == b) = false := by rw [beq_eq_false_iff_ne]; omega
      simp [h1, h, h2]
theorem zip_snd : ∀ l : List Value, (l.zip l).map (·.2) = l
  | [] => rfl
  | x :: l => by
    rw [List.zip_cons_cons, List.map_cons, zip_snd l]
theorem zip_same : ∀ (l : List Value) (p : Value × Value), p ∈ l.zip l → p.1 = p.2 ∧ p.1 ∈ l
  | [], _, h => nomatch h
  | x :: l, p, h => by
    rw [List.zip_cons_cons] at h
    rcases List.mem_cons.mp h with rfl | h
    · exact ⟨rfl, List.mem_cons_self ..⟩
    · obtain ⟨h1, h2⟩ := zip_same l p h
      exact ⟨h1, List.mem_cons_of_mem _ h2⟩
theorem tupsOf_all {h : Heap} : ∀ l : List Value, (∀ v ∈ l, ∃ f, TupOf h noTxt v f) → ∃ fs, TupsOf h noTxt l fs
  | [], _ => ⟨[], .nil⟩
  | v :: l, k => by
    obtain ⟨f, hf⟩ := k v (List.mem_cons_self ..)
    obtain ⟨fs, hfs⟩ := tupsOf_all l fun y hy => k y (List.mem_cons_of_mem _ hy)
    exact ⟨f :: fs, .cons hf hfs⟩
theorem key_ints {h : Heap} {t : Addr} {ns : List Int} (x : TS.TupInts h (.ref t) ns) : tupKeyC h noTxt (.ref t) = some (ns.map Sum.inl) := by
  obtain ⟨t', its, e, ⟨o, ho, hc, n, hd⟩, hi⟩ := x
  cases e
  have h1 : isTupObj h (.ref t) = true := by
    unfold isTupObj
    simp only [ho, hc]
    decide
  unfold tupKeyC
  rw [if_pos h1]
  unfold tupKey
  simp only [ho, hd]
  exact tupItems_ints hi 0
theorem tupOf_ints {h : Heap} {t : Addr} {ns : List Int} (x : TS.TupInts h (.ref t) ns) (hn : ns ≠ []) : ∃ f, TupOf h noTxt (.ref t) f := by
  obtain ⟨t', its, e, ⟨o, ho, hc, n, hd⟩, hi⟩ := x
  cases e
  cases hl : its.toList with
  | nil =>
    rw [hl] at hi
    cases hi
    exact absurd rfl hn
  | cons f r =>
    rw [hl] at hi
    cases hi with
    | cons m tk h2 =>
      refine ⟨.int m tk, t, o, its, n, rfl, ho, hc, hd, ?_, fun _ => ⟨_, _, rfl⟩, fun q => absurd q Bool.false_ne_true⟩
      have : its.toList[0]? = some (Value.int m tk) := by rw [hl]; rfl
      simpa using this
theorem cr_sortV {X : Cx} : CallR X (.builtin "sorted") (rSortV X.K) := by
  intro pins s σ H vs us Q I r h
  obtain ⟨a, xs, rfl, hs, hx, q⟩ := h
  obtain ⟨its, rv, hl, hz⟩ := I.list hs
  rw [Vals.ref1 r]
  obtain ⟨e1, e2⟩ := bkV_refs rv fun x m => by
    obtain ⟨ns, ⟨t, e, _⟩, _⟩ := hx x m
    exact ⟨t, e⟩
  have info : ∀ v ∈ its, ∃ t ns, v = Value.ref t ∧ TS.TupInts s.heap (.ref t) ns ∧ ns ≠ [] ∧ ∀ n, TupI X.K H (.ref t) n → n = ns := fun v hv => by
    obtain ⟨t, rfl⟩ := e2 v hv
    have hm : V.ref t ∈ xs := by
      rw [e1]
      exact List.mem_map.mpr ⟨_, hv, rfl⟩
    obtain ⟨ns, ⟨t', e, ht⟩, hn⟩ := hx _ hm
    cases e
    refine ⟨t, ns, rfl, tupI_raw I ht, hn, fun n ⟨t2, e3, h3⟩ => ?_⟩
    cases e3
    exact map_int_inj (I.tuple_inj h3 ht)
  obtain ⟨fs, hfs⟩ := tupsOf_all (h := s.heap) its fun v hv => by
    obtain ⟨t, ns, rfl, h1, h2, _⟩ := info v hv
    exact tupOf_ints h1 h2
  have hlenx := rv.length
  refine PyProof.Rows.G.sorted_tups (shape := noTxt) hl.isList hfs (fun v hv => ?_) (by rw [← hlenx]; exact hz) fun st' h1 h2 _ => ?_
  · obtain ⟨t, ns, rfl, h1, _, _⟩ := info v hv
    exact ⟨_, key_ints h1⟩
  · generalize arrOf st' = arr at h1 h2 ⊢
    have pl : arr.toList.Perm (its.zip its) := by
      have := Array.perm_iff_toList_perm.mp h1
      rw [pairsOf_toList] at this
      exact this
    obtain ⟨ep, he'⟩ := PyProof.Rows.sortedAll_at s.heap its (arr.map (·.2))
    have out : (arr.map (·.2)).toList = arr.toList.map (·.2) := Array.toList_map ..
    have po : (arr.map (·.2)).toList.Perm its := by
      rw [out]
      have := pl.map (·.2)
      rw [zip_snd] at this
      exact this
    have h3 : ∀ u ∈ (arr.map (·.2)).toList, ∃ a, u = Value.ref a := fun u hu => e2 u (po.mem_iff.mp hu)
    have hp : ((arr.map (·.2)).toList.map bkV).Perm xs := by
      rw [e1]
      exact po.map bkV
    have hlen : ((arr.map (·.2)).toList.map bkV).length ≤ sizeLine := by
      rw [hp.length_eq]
      exact hz
    refine ⟨.ref _, upd H (s.heap.objs.size + 1) (.lst ((arr.map (·.2)).toList.map bkV)), I.laid (t' := s.toks) (fun _ _ => PyProof.Rows.sortedAll_old) (Nat.le_succ _) ⟨hlen, (arr.map (·.2)).toList, ep, bkV_vals h3, he'⟩, rfl, q _ _ hp ?_ (I.hok.fresh (Nat.le_succ _))⟩
    rw [out, List.map_map, List.pairwise_map, List.pairwise_iff_getElem]
    intro i j hi hj hij n m hn hm
    have mi := zip_same its _ (pl.mem_iff.mp (List.getElem_mem hi))
    have mj := zip_same its _ (pl.mem_iff.mp (List.getElem_mem hj))
    obtain ⟨t, ns, et, a1, _, a2⟩ := info _ mi.2
    obtain ⟨t2, ms, et2, b1, _, b2⟩ := info _ mj.2
    have hn : TupI X.K H (bkV (arr.toList[i]).2) n := hn
    have hm : TupI X.K H (bkV (arr.toList[j]).2) m := hm
    rw [← mi.1, et] at hn
    rw [← mj.1, et2] at hm
    have en := a2 n hn
    have em := b2 m hm
    subst en em
    have hsz : (pairsOf its).size = arr.toList.length := by
      have := pl.length_eq
      rw [← pairsOf_toList] at this
      simpa using this.symm
    have srt := h2 i j (Nat.le_of_lt hij) (by rw [hsz]; exact hj)
    have ki : KK (tupKindC s.heap noTxt) arr i = n.map Sum.inl := by
      have e : arr[i]? = some (arr.toList[i]) := by simpa using List.getElem?_eq_getElem hi
      unfold KK
      rw [e]
      show (tupKeyC s.heap noTxt (arr.toList[i]).1).getD [] = _
      rw [et, key_ints a1]
      rfl
    have kj : KK (tupKindC s.heap noTxt) arr j = m.map Sum.inl := by
      have e : arr[j]? = some (arr.toList[j]) := by simpa using List.getElem?_eq_getElem hj
      unfold KK
      rw [e]
      show (tupKeyC s.heap noTxt (arr.toList[j]).1).getD [] = _
      rw [et2, key_ints b1]
      rfl
    rw [ki, kj] at srt
    have srt : lexLt itemOrd (m.map Sum.inl) (n.map Sum.inl) = false := srt
    rw [lex_ltL] at srt
    exact srt
end
def gSortedC : GN := fun μ ds => match gSortedB μ ds with
  | some c => some c
  | none => match ds with
    | [x] => (seqL μ x).bind fun xs => (tupsD xs).bind fun nss => if (nss.all fun ns => !ns.isEmpty) = true then some (.list ((sortB ltL nss).map tupZ)) else none
    | _ => none
theorem cal_sortedC {X : Cx} (hc : X.calm = true) : CalN X (.builtin "sorted") gSortedC := by
  rintro pins s σ H vs us Q I r ⟨μ, α, R, ds, c, S, h, e, q⟩
  unfold gSortedC at e
  split at e
  · rename_i c' e1
    cases e
    exact cal_sortedB hc pins s σ H vs us Q I r ⟨μ, α, R, ds, c, S, h, e1, q⟩
  · split at e
    · obtain ⟨v, rfl, h1⟩ := denL1 h
      obtain ⟨xs, e1, e⟩ := Option.bind_eq_some_iff.mp e
      obtain ⟨nss, e2, e⟩ := Option.bind_eq_some_iff.mp e
      split at e
      · rename_i hall
        cases e
        obtain ⟨a, ws, rfl, hq, hl, dl⟩ := S.seqL h1 e1
        have two := tupsD_two S dl e2
        have ne : ∀ ns ∈ nss, ns ≠ [] := fun ns hn q => by
          have := List.all_eq_true.mp hall ns hn
          rw [q] at this
          exact absurd this (by decide)
        refine cr_sortV pins s σ H _ us Q I r ⟨a, ws, rfl, SqL.of hq, fun x hx => ?_, fun ys p hp hs hn => ?_⟩
        · obtain ⟨n, hn, hT, _⟩ := two_mem two x hx
          exact ⟨n, hT, ne n hn⟩
        · obtain ⟨nss', h3, h4⟩ := two.perm hp
          have hs2 : nss'.Pairwise fun a b => ltL b a = false :=
            Two.pw (T := fun x ns => TupI X.K H x ns ∧ Den X.K X.mg R α x (tupZ ns)) (R1 := fun x y => ∀ n m, TupI X.K H x n → TupI X.K H y m → ltL m n = false) (fun x y n m hx hy hc => hc n m hx.1 hy.1) h4 hs
          obtain rfl := sortB_eq ordL h3 hs2
          refine q (.non, .lst _) ⟨ys, rfl, ?_, two_den h4⟩ p hn
          rw [hp.length_eq]
          exact hl
      · cases e
    · cases e
end TL

set_option Elab.async false
set_option maxRecDepth 100000
set_option maxHeartbeats 2000000
set_option linter.all false
/-! The tree layer: C(), calls with defaults and keywords, o.f += e, x.index(y). -/
namespace TL
open PySem PySem.Spec PyProof.Rows L2
section
variable {X : Cx} {E : XK} {k n : Nat} {f C : Addr} {fd : FuncData} {ps : List Str} {F : List D → Mu → Res D} {x : Str} {p pos : Pos}
theorem dmake0 (G : HasC X.prog X.w X.K X.mg X.base k x n F) (hr : Room (k + 1) X.A) (hgd : X.A.guards = some []) (hg : Gl X x) (hx : Passes (L2.CX X.prog X.w) X E)
    (hdb : (x == ("__debug__" : Str)) = false := by decide) : DE X E (.Call (.Name x p) [] [] pos) (eMk n x F aNil) := by
  obtain ⟨C, f, fd, ps, hn, G1, hm, M, hb⟩ := G.ex
  subst hn
  refine ⟨fun pins s σ H Q I ⟨ρ, μ, α, R, S, V, h⟩ => ?_⟩
  refine wpAny_Call_Name_kw (ld_glob I hg hm ?_ hdb)
  exact PySem.W.callWith_K0 I.kIn M.kp (After.make M G1 hr hgd hb hx hm I .nil S .nil h)
end
/-! ### binding: where each parameter comes from -/
inductive Sel where
  | u (i : Nat) | d (i : Nat) | m (i : Nat) | k (i : Nat)
def selA {τ : Type} : List Sel → List τ → List τ → List τ → List τ → List τ
  | [], _, _, _, _ => []
  | .u i :: r, us, ds, ms, ks => us[i]?.toList ++ selA r us ds ms ks
  | .d i :: r, us, ds, ms, ks => ds[i]?.toList ++ selA r us ds ms ks
  | .m i :: r, us, ds, ms, ks => ms[i]?.toList ++ selA r us ds ms ks
  | .k i :: r, us, ds, ms, ks => ks[i]?.toList ++ selA r us ds ms ks
theorem vals_at : ∀ {vs : List V} {us : List Value}, Vals vs us → ∀ i : Nat, Vals vs[i]?.toList us[i]?.toList
  | _, _, .nil, _ => .nil
  | _, _, .cons h _, 0 => .cons h .nil
  | _, _, .cons _ t, i + 1 => vals_at t i
theorem vals_sel : ∀ (sel : List Sel) {vs ds mz zs : List V} {us its mv ws : List Value}, Vals vs us → Vals ds its → Vals mz mv → Vals zs ws → Vals (selA sel vs ds mz zs) (selA sel us its mv ws)
  | [], _, _, _, _, _, _, _, _, _, _, _, _ => .nil
  | .u i :: r, _, _, _, _, _, _, _, _, a, b, c, d => (vals_at a i).append (vals_sel r a b c d)
  | .d i :: r, _, _, _, _, _, _, _, _, a, b, c, d => (vals_at b i).append (vals_sel r a b c d)
  | .m i :: r, _, _, _, _, _, _, _, _, a, b, c, d => (vals_at c i).append (vals_sel r a b c d)
  | .k i :: r, _, _, _, _, _, _, _, _, a, b, c, d => (vals_at d i).append (vals_sel r a b c d)
section
variable {K : PySem.W.Frag} {mg : Str → Option Value} {R : Hp} {α : List Addr}
theorem denL_at : ∀ {vs : List V} {us : List D}, DenL K mg R α vs us → ∀ i : Nat, DenL K mg R α vs[i]?.toList us[i]?.toList
  | _, _, .nil, _ => .nil
  | _, _, .cons h _, 0 => .cons h .nil
  | _, _, .cons _ t, i + 1 => denL_at t i
theorem denL_sel : ∀ (sel : List Sel) {vs ds mz zs : List V} {us its mv ws : List D}, DenL K mg R α vs us → DenL K mg R α ds its → DenL K mg R α mz mv → DenL K mg R α zs ws → DenL K mg R α (selA sel vs ds mz zs) (selA sel us its mv ws)
  | [], _, _, _, _, _, _, _, _, _, _, _, _ => .nil
  | .u i :: r, _, _, _, _, _, _, _, _, a, b, c, d => (denL_at a i).append (denL_sel r a b c d)
  | .d i :: r, _, _, _, _, _, _, _, _, a, b, c, d => (denL_at b i).append (denL_sel r a b c d)
  | .m i :: r, _, _, _, _, _, _, _, _, a, b, c, d => (denL_at c i).append (denL_sel r a b c d)
  | .k i :: r, _, _, _, _, _, _, _, _, a, b, c, d => (denL_at d i).append (denL_sel r a b c d)
end
/-- a call of n positional values and keywords ks binds as sel tells; dD, mD: the defaults, the keyword-only defaults that lack -/
structure BindG (K : PySem.W.Frag) (fd : FuncData) (ps : List Str) (n : Nat) (ks : List Str) (sel : List Sel) (dD mD : List D) : Prop where
  ex : ∃ (dvs mz : List V) (its mv : List Value), KBn K fd ps n ks (fun us ws => selA sel us its mv ws) (fun vs zs => selA sel vs dvs mz zs) ∧ (∀ mg R α, DenL K mg R α dvs dD) ∧ ∀ mg R α, DenL K mg R α mz mD
/-- no defaults -/
theorem BindG.none {K : PySem.W.Frag} {fd : FuncData} {ps : List Str} {n : Nat} {ks : List Str} {sel : List Sel} (h : ∀ us ws : List Value, us.length = n → ws.length = ks.length → bindArgs fd ⟨us, ks.zip ws⟩ = pure (ps.zip (selA sel us [] [] ws))) : BindG K fd ps n ks sel [] [] :=
  ⟨[], [], [], [], ⟨fun s us ws _ l1 l2 => .of_eq (h us ws l1 l2), fun a b => vals_sel sel a .nil .nil b⟩, fun _ _ _ => .nil, fun _ _ _ => .nil⟩
/-- defaults and keyword-only defaults -/
theorem BindG.dk {K : PySem.W.Frag} {x qual : Str} {params : Arguments} {body : List Stmt} {scope : Scope} {dvs : List V} {kws : List (Str × V)} {f : Addr} {fd : FuncData} {ps : List Str} {dD mD : List D} {sel : List Sel} (F : FunD K x qual params body scope dvs kws f fd) (n : Nat) (ks : List Str) (ms : List (Str × V))
    (hd : dvs ≠ []) (hk : kws ≠ []) (hms : ∀ q ∈ ms, q ∈ kws) (d1 : ∀ mg R α, DenL K mg R α dvs dD) (d2 : ∀ mg R α, DenL K mg R α (ms.map (·.2)) mD)
    (h : ∀ (T D : Addr) (doc pm : Value) (an : Option Addr) (cdv ct : Value) (us its mv ws : List Value), us.length = n → its.length = dvs.length → mv.length = ms.length → ws.length = ks.length →
      ∃ k, bindArgs (PySem.W.fnOf x qual params body scope (.ref T) (.ref D) doc pm an cdv ct) ⟨us, ks.zip ws⟩ = seqItems? (.ref T) >>= k ∧ KwChain D ((ms.map (·.1)).zip mv) (k (some its.toArray)) (ps.zip (selA sel us its mv ws))) : BindG K fd ps n ks sel dD mD := by
  obtain ⟨its, mv, kb⟩ := F.kbinds n ks ms (selA sel) hd hk hms (fun a b c d => vals_sel sel a b c d) h
  exact ⟨dvs, ms.map (·.2), its, mv, kb, d1, d2⟩
/-- defaults alone -/
theorem BindG.d {K : PySem.W.Frag} {x qual : Str} {params : Arguments} {body : List Stmt} {scope : Scope} {dvs : List V} {kws : List (Str × V)} {f : Addr} {fd : FuncData} {ps : List Str} {dD : List D} {sel : List Sel} (F : FunD K x qual params body scope dvs kws f fd) (n : Nat) (ks : List Str)
    (hd : dvs ≠ []) (d1 : ∀ mg R α, DenL K mg R α dvs dD)
    (h : ∀ (T : Addr) (kV doc pm : Value) (an : Option Addr) (cdv ct : Value) (us its ws : List Value), us.length = n → its.length = dvs.length → ws.length = ks.length →
      ∃ k, bindArgs (PySem.W.fnOf x qual params body scope (.ref T) kV doc pm an cdv ct) ⟨us, ks.zip ws⟩ = seqItems? (.ref T) >>= k ∧ k (some its.toArray) = pure (ps.zip (selA sel us its [] ws))) : BindG K fd ps n ks sel dD [] := by
  obtain ⟨oc, od, dV, kV, doc, pm, an, cdv, ct, osl, rfl, lk, hcd, hD, hK⟩ := F.ex
  rcases hD with ⟨e, _⟩ | ⟨_, T, o, its, m, rfl, lT, oT, rT⟩
  · exact absurd e hd
  · refine ⟨dvs, [], its, [], ⟨fun s us ws X l1 l2 => ?_, fun a b => vals_sel sel a rT .nil b⟩, d1, fun _ _ _ => .nil⟩
    obtain ⟨k, e1, e2⟩ := h T kV doc pm an cdv ct us its ws l1 rT.length.symm l2
    refine BindsTo.of_looks fun M => ?_
    rw [e1]
    exact looks_items X lT oT (.of_pure e2)
/-- keyword-only defaults alone -/
theorem BindG.k {K : PySem.W.Frag} {x qual : Str} {params : Arguments} {body : List Stmt} {scope : Scope} {kws : List (Str × V)} {f : Addr} {fd : FuncData} {ps : List Str} {mD : List D} {sel : List Sel} (F : FunD K x qual params body scope [] kws f fd) (n : Nat) (ks : List Str) (ms : List (Str × V))
    (hk : kws ≠ []) (hms : ∀ q ∈ ms, q ∈ kws) (d2 : ∀ mg R α, DenL K mg R α (ms.map (·.2)) mD)
    (h : ∀ (D : Addr) (doc pm : Value) (an : Option Addr) (cdv ct : Value) (us mv ws : List Value), us.length = n → mv.length = ms.length → ws.length = ks.length →
      KwChain D ((ms.map (·.1)).zip mv) (bindArgs (PySem.W.fnOf x qual params body scope .none (.ref D) doc pm an cdv ct) ⟨us, ks.zip ws⟩) (ps.zip (selA sel us [] mv ws))) : BindG K fd ps n ks sel [] mD := by
  obtain ⟨oc, od, dV, kV, doc, pm, an, cdv, ct, osl, rfl, lk, hcd, hD, hK⟩ := F.ex
  rcases hD with ⟨_, rfl⟩ | ⟨e, _⟩
  · rcases hK with e | ⟨D, rfl, hq⟩
    · exact absurd e hk
    · obtain ⟨mv, hl, rk, hks⟩ := kwd_vals (ms := ms) fun q hm => hq q (hms q hm)
      refine ⟨[], ms.map (·.2), [], mv, ⟨fun s us ws X l1 l2 => ?_, fun a b => vals_sel sel a .nil rk b⟩, fun _ _ _ => .nil, d2⟩
      exact BindsTo.of_looks fun M => KwChain.looks X hks (h D doc pm an cdv ct us mv ws l1 hl l2)
  · exact absurd rfl e
/-! ### the values of keywords -/
def DK (X : Cx) (E : XK) (kws : List Keyword) (f : FA) : Prop := PK X kws (Lift X.K X.mg E (relL X.K X.mg) f)
section
variable {X : Cx} {E : XK} {kpos : Pos} {e : Expr} {kws : List Keyword} {fe : FE} {t : FA} {nm : Option Str}
theorem wK {t t' : TA} (h : PK X kws t) (k : ∀ σ H Q, t' σ H Q → t σ H Q) : PK X kws t' := ⟨fun pos pins s σ H Q I q => h.run pos pins s σ H Q I (k σ H Q q)⟩
theorem dk_nil : DK X E [] aNil := wK pk_nil fun σ H Q ⟨ρ, μ, α, R, S, V, h⟩ => h [] α R H S .refl .nil
theorem dk_cons (he : DE X E e fe) (hr : DK X E kws t) : DK X E (⟨nm, e, kpos⟩ :: kws) (aCons fe t) :=
  wK (pk_cons he hr) fun σ H Q ⟨ρ, μ, α, R, S, V, h⟩ => ⟨ρ, μ, α, R, S, V, h.bind fun d μ1 v α1 R1 H1 S1 A1 q1 h1 => ⟨ρ, μ1, α1, R1, S1, V.adv A1, h1.bind fun ds μ2 vs α2 R2 H2 S2 A2 q2 h2 => h2 (v :: vs) α2 R2 H2 S2 .refl (.cons (q1.adv A2) q2)⟩⟩
end
section
variable {X : Cx} {E : XK} {k n : Nat} {f C : Addr} {fd : FuncData} {ps ks : List Str} {F : List D → Mu → Res D} {sel : List Sel} {dD mD : List D} {x c m : Str} {p pos apos : Pos} {o e : Expr} {es : List Expr} {kws : List Keyword} {t tk : FA} {fo : FE}
/-- what a call with bound parameters gives -/
def bndD (np n kn : Nat) (F : List D → Mu → Res D) (sel : List Sel) (dD mD : List D) (ds zs : List D) (μ : Mu) : Res D := if ds.length = n ∧ zs.length = kn ∧ (selA sel ds dD mD zs).length = np then F (selA sel ds dD mD zs) μ else .bad
theorem After.runB {pins : List (Addr × Obj)} {σ : L2.St} {H : Hp} {s : Shared} {Q : VK} {us ws : List Value} {vs zs : List V} {ds es : List D} {μ : Mu} {α : List Addr} {R : Hp} (G : FnT X.prog X.w X.K X.mg X.base k f fd ps F) (hr : Room k X.A) (hgd : X.A.guards = some [])
    (hb : BindG X.K fd ps n ks sel dD mD) (hx : Passes (L2.CX X.prog X.w) X E) (I : Inv X pins σ H s) (r : Vals vs us) (rz : Vals zs ws) (S : SM X.K X.mg μ α R H) (dl : DenL X.K X.mg R α vs ds) (dz : DenL X.K X.mg R α zs es)
    (h : After X.K X.mg E (relD X.K X.mg) α R H (bndD ps.length n ks.length F sel dD mD ds es μ) Q) : wpAny (model X.prog X.w) X.A (call (.ref f) us (ks.zip ws)) (EP X pins σ Q) X.xe s := by
  unfold bndD at h
  split at h
  rotate_left
  · exact False.elim h
  rename_i hl
  obtain ⟨h1, h2, h3⟩ := hl
  obtain ⟨dvs, mz, its, mv, kb, q1, q2⟩ := hb.ex
  have dl2 := denL_sel sel dl (q1 X.mg R α) (q2 X.mg R α) dz
  have r2 := kb.rel r rz
  have hl2 : (selA sel vs dvs mz zs).length = ps.length := by rw [dl2.len, h3]
  have lu : us.length = n := by rw [← r.length, dl.len, h1]
  have lw : ws.length = ks.length := by rw [← rz.length, dz.len, h2]
  refine wpAny_call (codeAny_mono (G.run X.A X.stack s H ⟨us, ks.zip ws⟩ _ _ (selA sel ds dD mD es) μ α R Q E hr hgd I.env0 (kb.to s us ws I.kIn lu lw) r2 hl2 S dl2 h) fun r s' hq => ?_)
  cases r with
  | error e => exact hx pins σ H s e s' I hq
  | ok fl =>
    cases fl with
    | ret u => exact I.after hq
    | next => exact False.elim hq
    | brk => exact False.elim hq
    | cont => exact False.elim hq
/-- f(e, .., k = v, ..) -/
def eCallB (np n kn : Nat) (F : List D → Mu → Res D) (sel : List Sel) (dD mD : List D) (t tk : FA) : FE := fun ρ μ => (t ρ μ).bind fun ds μ1 => (tk ρ μ1).bind fun zs μ2 => bndD np n kn F sel dD mD ds zs μ2
structure HasB (P : Program) (w : World) (K : PySem.W.Frag) (mg : Str → Option Value) (base : Heap) (k : Nat) (x : Str) (np n : Nat) (ks : List Str) (sel : List Sel) (dD mD : List D) (F : List D → Mu → Res D) : Prop where
  ex : ∃ (f : Addr) (fd : FuncData) (ps : List Str), ps.length = np ∧ FnT P w K mg base k f fd ps F ∧ mg x = some (.ref f) ∧ PySem.W.keepIn K (.ref f) = true ∧ BindG K fd ps n ks sel dD mD
theorem dcallB {np : Nat} (G : HasB X.prog X.w X.K X.mg X.base k x np n ks sel dD mD F) (hr : Room k X.A) (hgd : X.A.guards = some []) (hg : Gl X x) (hx : Passes (L2.CX X.prog X.w) X E) (ha : DA X E (e :: es) t) (hkw : DK X E kws tk)
    (hall : (backToKw pos (keywordEach kws X.env)).all (·.1.isSome) = true := by rfl) (hks : (backToKw pos (keywordEach kws X.env)).filterMap (·.1) = ks := by rfl)
    (hdb : (x == ("__debug__" : Str)) = false := by decide) (he : starEach (e :: es) X.env = (false, eval e X.env) :: starEach es X.env := by rfl)
    (hpl : ((backTo pos (starEach (e :: es) X.env)).any (·.1) || (backToKw pos (keywordEach kws X.env)).any (·.1.isNone)) = false := by rfl) : DE X E (.Call (.Name x p) (e :: es) kws pos) (eCallB np n ks.length F sel dD mD t tk) := by
  obtain ⟨f, fd, ps, hn, G1, hm, hk, hb⟩ := G.ex
  subst hn
  refine ⟨fun pins s σ H Q I ⟨ρ, μ, α, R, S, V, h⟩ => ?_⟩
  refine wpAny_Call_Name_kw (ld_glob I hg hm ?_ hdb)
  refine PySem.W.callWith_KW (h₀ := X.base) I.ok.mod.kin hk hall (thn (ha.run pos pins s σ H _ I ⟨ρ, μ, α, R, S, V, h.bind (Q1 := fun vs H1 => ∃ ds μ1 α1 R1, SM X.K X.mg μ1 α1 R1 H1 ∧ SS X.K X.mg ρ R1 α1 σ ∧ DenL X.K X.mg R1 α1 vs ds ∧
    After X.K X.mg E (relD X.K X.mg) α1 R1 H1 ((tk ρ μ1).bind fun zs μ2 => bndD ps.length n ks.length F sel dD mD ds zs μ2) Q) fun ds μ1 vs α1 R1 H1 S1 A1 d1 h1 => ⟨ds, μ1, α1, R1, S1, V.adv A1, d1, h1⟩⟩) fun us s1 ⟨vs, H1, I1, r, ds, μ1, α1, R1, S1, V1, d1, h1⟩ => ?_) hpl he
  refine thn (hkw.run pos pins s1 σ H1 _ I1 ⟨ρ, μ1, α1, R1, S1, V1, h1.bind (Q1 := fun zs H2 => ∃ es μ2 α2 R2, SM X.K X.mg μ2 α2 R2 H2 ∧ DenL X.K X.mg R2 α2 vs ds ∧ DenL X.K X.mg R2 α2 zs es ∧ After X.K X.mg E (relD X.K X.mg) α2 R2 H2 (bndD ps.length n ks.length F sel dD mD ds es μ2) Q)
    fun es μ2 zs α2 R2 H2 S2 A2 d2 h2 => ⟨es, μ2, α2, R2, S2, d1.adv A2, d2, h2⟩⟩) fun ws s2 ⟨zs, H2, I2, rz, es, μ2, α2, R2, S2, d2, d3, h2⟩ => ⟨I2.kIn, ?_⟩
  rw [hks, List.nil_append]
  exact After.runB G1 hr hgd hb hx I2 r rz S2 d2 d3 h2
theorem dcallB0 {np : Nat} (G : HasB X.prog X.w X.K X.mg X.base k x np n ks sel dD mD F) (hr : Room k X.A) (hgd : X.A.guards = some []) (hg : Gl X x) (hx : Passes (L2.CX X.prog X.w) X E) (hkw : DK X E kws tk)
    (hall : (backToKw pos (keywordEach kws X.env)).all (·.1.isSome) = true := by rfl) (hks : (backToKw pos (keywordEach kws X.env)).filterMap (·.1) = ks := by rfl)
    (hdb : (x == ("__debug__" : Str)) = false := by decide)
    (hpl : ((backTo pos (starEach [] X.env)).any (·.1) || (backToKw pos (keywordEach kws X.env)).any (·.1.isNone)) = false := by rfl) : DE X E (.Call (.Name x p) [] kws pos) (eCallB np n ks.length F sel dD mD aNil tk) := by
  obtain ⟨f, fd, ps, hn, G1, hm, hk, hb⟩ := G.ex
  subst hn
  refine ⟨fun pins s σ H Q I ⟨ρ, μ, α, R, S, V, h⟩ => ?_⟩
  refine wpAny_Call_Name_kw (ld_glob I hg hm ?_ hdb)
  have h : After X.K X.mg E (relD X.K X.mg) α R H ((tk ρ μ).bind fun zs μ2 => bndD ps.length n ks.length F sel dD mD [] zs μ2) Q := h
  refine PySem.W.callWith_KW0 (h₀ := X.base) I.ok.mod.kin hk hall (thn (hkw.run pos pins s σ H _ I ⟨ρ, μ, α, R, S, V, h.bind (Q1 := fun zs H2 => ∃ es μ2 α2 R2, SM X.K X.mg μ2 α2 R2 H2 ∧ DenL X.K X.mg R2 α2 zs es ∧ After X.K X.mg E (relD X.K X.mg) α2 R2 H2 (bndD ps.length n ks.length F sel dD mD [] es μ2) Q)
    fun es μ2 zs α2 R2 H2 S2 A2 d2 h2 => ⟨es, μ2, α2, R2, S2, d2, h2⟩⟩) fun ws s2 ⟨zs, H2, I2, rz, es, μ2, α2, R2, S2, d3, h2⟩ => ⟨I2.kIn, ?_⟩) hpl
  rw [hks, List.nil_append]
  exact After.runB (vs := []) (ds := []) G1 hr hgd hb hx I2 .nil rz S2 .nil d3 h2
/-- o.m(e, .., k = v, ..) -/
def eMtB (np n kn : Nat) (c m : Str) (F : List D → Mu → Res D) (sel : List Sel) (dD mD : List D) (fo : FE) (t tk : FA) : FE := fun ρ μ => (fo ρ μ).bind fun x μ1 => match objV μ1 x with
  | some (c', fs) => if c' = c ∧ (fs.lookup m).isNone = true then (t ρ μ1).bind fun ds μ2 => (tk ρ μ2).bind fun zs μ3 => bndD np n kn F sel dD mD (x :: ds) zs μ3 else .bad
  | none => .bad
structure HasMB (P : Program) (w : World) (K : PySem.W.Frag) (mg : Str → Option Value) (base : Heap) (k : Nat) (c m : Str) (np n : Nat) (ks : List Str) (sel : List Sel) (dD mD : List D) (F : List D → Mu → Res D) : Prop where
  ex : ∃ (C f : Addr) (fd : FuncData) (ps : List Str), ps.length = np ∧ FnT P w K mg base k f fd ps F ∧ mg c = some (.ref C) ∧ Cls K C ∧ Meth K C m f ∧ BindG K fd ps n ks sel dD mD
theorem obj_step {pins : List (Addr × Obj)} {σ : L2.St} {H : Hp} {s : Shared} {ρ : Env} {μ : Mu} {α : List Addr} {R : Hp} {Q : VK} {rest : D → Mu → Res D} (hmc : X.mg c = some (.ref C)) (ho : DE X E o fo) (I : Inv X pins σ H s) (S : SM X.K X.mg μ α R H) (V : SS X.K X.mg ρ R α σ)
    (h : After X.K X.mg E (relD X.K X.mg) α R H ((fo ρ μ).bind fun x μ1 => match objV μ1 x with
      | some (c', fs) => if c' = c ∧ (fs.lookup m).isNone = true then rest x μ1 else .bad
      | none => .bad) Q) :
    wpAny (model X.prog X.w) X.A (eval o X.env) (EP X pins σ (fun v H1 => ∃ (a dx : Addr) (gs : List (Str × L2.V)) (x : D) (μ1 : Mu) (α1 : List Addr) (R1 : Hp), v = .ref a ∧ H1 a = some (.ins C dx gs) ∧ gs.lookup m = none ∧ SM X.K X.mg μ1 α1 R1 H1 ∧ SS X.K X.mg ρ R1 α1 σ ∧ Den X.K X.mg R1 α1 (.ref a) x ∧
      After X.K X.mg E (relD X.K X.mg) α1 R1 H1 (rest x μ1) Q)) X.xe s :=
  ho.run pins s σ H _ I ⟨ρ, μ, α, R, S, V, h.bind fun x μ1 v α1 R1 H1 S1 A1 q1 h2 => by
      cases ex : objV μ1 x with
      | none => rw [ex] at h2; exact False.elim h2
      | some p =>
        obtain ⟨c', fs⟩ := p
        rw [ex] at h2
        have h3 : After X.K X.mg E (relD X.K X.mg) α1 R1 H1 (if c' = c ∧ (fs.lookup m).isNone = true then rest x μ1 else .bad) Q := h2
        split at h3
        · rename_i hc
          obtain ⟨rfl, hno⟩ := hc
          obtain ⟨a, C', dx, gs, rfl, g1, g2, g3⟩ := S1.objV q1 ex
          have e3 := g1.symm.trans hmc
          cases e3
          exact ⟨a, dx, gs, x, μ1, α1, R1, rfl, g2, DenF.noneF g3 (Option.isNone_iff_eq_none.mp hno), S1, V.adv A1, q1, h3⟩
        · exact False.elim h3⟩
theorem de_mtB {np : Nat} {pl : Sem Bool} (G : HasMB X.prog X.w X.K X.mg X.base k c m np n ks sel dD mD F) (hr : Room k X.A) (hgd : X.A.guards = some []) (hx : Passes (L2.CX X.prog X.w) X E) (ho : DE X E o fo) (ha : DA X E (e :: es) t) (hkw : DK X E kws tk)
    (hall : (backToKw pos (keywordEach kws X.env)).all (·.1.isSome) = true := by rfl) (hks : (backToKw pos (keywordEach kws X.env)).filterMap (·.1) = ks := by rfl)
    (hst : starEach (e :: es) X.env = (false, eval e X.env) :: starEach es X.env := by rfl)
    (hpl : ((backTo pos (starEach (e :: es) X.env)).any (·.1) || (backToKw pos (keywordEach kws X.env)).any (·.1.isNone)) = false := by rfl)
    (ht : eval (.Call (.Attribute o m apos) (e :: es) kws pos) X.env = (do
      let ov ← eval o X.env
      standAt apos.atName
      let (f, first) ← holding [ov] (getMethod ov m pl)
      callWith pos f first (backTo pos (starEach (e :: es) X.env)) (backToKw pos (keywordEach kws X.env))) := by rfl) :
    DE X E (.Call (.Attribute o m apos) (e :: es) kws pos) (eMtB np n ks.length c m F sel dD mD fo t tk) := by
  obtain ⟨C, f, fd, ps, hn, G1, hmc, hC, hM, hb⟩ := G.ex
  subst hn
  refine ⟨fun pins s σ H Q I ⟨ρ, μ, α, R, S, V, h⟩ => ?_⟩
  refine PySem.W.methodCall_KW (pl := pl) (thn (obj_step hmc ho I S V h) fun u s1 hh => ?_) ht
  obtain ⟨x0, H1, I1, rx, a, dx, gs, x, μ1, α1, R1, ex, ea, l, S1, V1, dx1, q⟩ := hh
  subst ex
  obtain rfl : u = Value.ref a := rx
  refine getmeth_ok I1 ea hC hM l ?_
  refine PySem.W.callWith_KW (first := [.ref a]) (h₀ := X.base) I1.ok.mod.kin hM.kp hall (thn (ha.run pos pins s1 σ H1 _ I1 ⟨ρ, μ1, α1, R1, S1, V1, q.bind (Q1 := fun vs H1 => ∃ ds μ2 α2 R2, SM X.K X.mg μ2 α2 R2 H1 ∧ SS X.K X.mg ρ R2 α2 σ ∧ DenL X.K X.mg R2 α2 (.ref a :: vs) (x :: ds) ∧
    After X.K X.mg E (relD X.K X.mg) α2 R2 H1 ((tk ρ μ2).bind fun zs μ3 => bndD ps.length n ks.length F sel dD mD (x :: ds) zs μ3) Q) fun ds μ2 vs α2 R2 H2 S2 A2 d2 h2 => ⟨ds, μ2, α2, R2, S2, V1.adv A2, .cons (dx1.adv A2) d2, h2⟩⟩) fun us s2 ⟨vs, H2, I2, r, ds, μ2, α2, R2, S2, V2, d2, h2⟩ => ?_) hpl hst
  refine thn (hkw.run pos pins s2 σ H2 _ I2 ⟨ρ, μ2, α2, R2, S2, V2, h2.bind (Q1 := fun zs H3 => ∃ es μ3 α3 R3, SM X.K X.mg μ3 α3 R3 H3 ∧ DenL X.K X.mg R3 α3 (.ref a :: vs) (x :: ds) ∧ DenL X.K X.mg R3 α3 zs es ∧ After X.K X.mg E (relD X.K X.mg) α3 R3 H3 (bndD ps.length n ks.length F sel dD mD (x :: ds) es μ3) Q)
    fun es μ3 zs α3 R3 H3 S3 A3 d3 h3 => ⟨es, μ3, α3, R3, S3, d2.adv A3, d3, h3⟩⟩) fun ws s3 ⟨zs, H3, I3, rz, es, μ3, α3, R3, S3, d3, d4, h3⟩ => ⟨I3.kIn, ?_⟩
  rw [hks]
  exact After.runB (vs := .ref a :: vs) (ds := x :: ds) G1 hr hgd hb hx I3 (.cons rfl r) rz S3 d3 d4 h3
theorem de_mtB0 {np : Nat} {pl : Sem Bool} (G : HasMB X.prog X.w X.K X.mg X.base k c m np n ks sel dD mD F) (hr : Room k X.A) (hgd : X.A.guards = some []) (hx : Passes (L2.CX X.prog X.w) X E) (ho : DE X E o fo) (hkw : DK X E kws tk)
    (hall : (backToKw pos (keywordEach kws X.env)).all (·.1.isSome) = true := by rfl) (hks : (backToKw pos (keywordEach kws X.env)).filterMap (·.1) = ks := by rfl)
    (hpl : ((backTo pos (starEach [] X.env)).any (·.1) || (backToKw pos (keywordEach kws X.env)).any (·.1.isNone)) = false := by rfl)
    (ht : eval (.Call (.Attribute o m apos) [] kws pos) X.env = (do
      let ov ← eval o X.env
      standAt apos.atName
      let (f, first) ← holding [ov] (getMethod ov m pl)
      callWith pos f first (backTo pos (starEach [] X.env)) (backToKw pos (keywordEach kws X.env))) := by rfl) :
    DE X E (.Call (.Attribute o m apos) [] kws pos) (eMtB np n ks.length c m F sel dD mD fo aNil tk) := by
  obtain ⟨C, f, fd, ps, hn, G1, hmc, hC, hM, hb⟩ := G.ex
  subst hn
  refine ⟨fun pins s σ H Q I ⟨ρ, μ, α, R, S, V, h⟩ => ?_⟩
  refine PySem.W.methodCall_KW (pl := pl) (thn (obj_step (rest := fun x μ1 => (tk ρ μ1).bind fun zs μ3 => bndD ps.length n ks.length F sel dD mD [x] zs μ3) hmc ho I S V h) fun u s1 hh => ?_) ht
  obtain ⟨x0, H1, I1, rx, a, dx, gs, x, μ1, α1, R1, ex, ea, l, S1, V1, dx1, q⟩ := hh
  subst ex
  obtain rfl : u = Value.ref a := rx
  refine getmeth_ok I1 ea hC hM l ?_
  refine PySem.W.callWith_KW0 (first := [.ref a]) (h₀ := X.base) I1.ok.mod.kin hM.kp hall (thn (hkw.run pos pins s1 σ H1 _ I1 ⟨ρ, μ1, α1, R1, S1, V1, q.bind (Q1 := fun zs H3 => ∃ es μ3 α3 R3, SM X.K X.mg μ3 α3 R3 H3 ∧ DenL X.K X.mg R3 α3 [.ref a] [x] ∧ DenL X.K X.mg R3 α3 zs es ∧ After X.K X.mg E (relD X.K X.mg) α3 R3 H3 (bndD ps.length n ks.length F sel dD mD [x] es μ3) Q)
    fun es μ3 zs α3 R3 H3 S3 A3 d3 h3 => ⟨es, μ3, α3, R3, S3, .cons (dx1.adv A3) .nil, d3, h3⟩⟩) fun ws s3 ⟨zs, H3, I3, rz, es, μ3, α3, R3, S3, d3, d4, h3⟩ => ⟨I3.kIn, ?_⟩) hpl
  rw [hks]
  exact After.runB (vs := [.ref a]) (ds := [x]) G1 hr hgd hb hx I3 (.cons rfl .nil) rz S3 d3 d4 h3
end
end TL

set_option Elab.async false
set_option maxRecDepth 100000
set_option maxHeartbeats 2000000
set_option linter.all false
/-! The tree layer: o.f += n, o.f, o.g = x, y, x.index(y). -/
namespace TL
open PySem PySem.Spec PyProof.Rows L2
section
variable {X : Cx} {E : XK} {o e : Expr} {fo fe : FE} {pos tpos : Pos} {f : Str} {cs : List Str}
/-- a field is written -/
def putC (cs : List Str) (o : D) (f : Str) (d : D) (μ : Mu) : Option Mu := match objV μ o with
  | some (c, _) => if c ∈ cs then setF μ o f d else none
  | none => none
theorem putC_ok {K : PySem.W.Frag} {mg : Str → Option Value} {μ μ' : Mu} {α : List Addr} {R H : Hp} {v w : V} {x d : D} (hc : ClsOk K mg cs f) (S : SM K mg μ α R H) (q : Den K mg R α w x) (qd : Den K mg R α v d) (h : putC cs x f d μ = some μ') :
    ∃ a C dx gs, w = .ref a ∧ H a = some (.ins C dx gs) ∧ Cls K C ∧ NoAttr K C f ∧ gs.length < 1000 ∧ SM K mg μ' α R (upd H a (.ins C dx (L2.putF f v gs))) ∧ Adv α R H α R (upd H a (.ins C dx (L2.putF f v gs))) := by
  unfold putC at h
  cases e : objV μ x with
  | none => rw [e] at h; cases h
  | some p =>
    obtain ⟨c, fs⟩ := p
    rw [e] at h
    replace h : (if c ∈ cs then setF μ x f d else none) = some μ' := h
    split at h
    · rename_i hcs
      cases q with
      | loc hα =>
        rename_i a n
        simp only [setF] at h
        split at h
        · rename_i c' fs' e4
          split at h
          · rename_i hl
            cases h
            simp only [objV, e4] at e
            cases e
            obtain ⟨_, C, dx, gs, g1, g2, g3⟩ := S.cell n _ a e4 hα
            obtain ⟨k1, k2⟩ := hc c hcs C g1
            obtain ⟨S3, A3⟩ := S.put (u := .ins C dx (L2.putF f v gs)) (c := .obj c (putFD f d fs)) e4 hα ⟨C, dx, _, g1, upd_same, DenF.putF qd g3⟩
            exact ⟨a, C, dx, gs, rfl, g2, k1, k2, by rw [g3.len]; exact hl, S3, A3⟩
          · cases h
        · cases h
      | _ => simp [setF] at h
    · cases h
/-- o.f += j, ints -/
def sAugC (cs : List Str) (fo : FE) (f : Str) (j : Int) : FS := fun ρ μ => (fo ρ μ).bind fun o μ1 => match objV μ1 o with
  | some (c, fs) => (match fs.lookup f with
    | some (.int i) => (match putC cs o f (.int (i + j)) μ1 with | some μ3 => .ok (.nx ρ) μ3 | none => .bad)
    | _ => .bad)
  | none => .bad
theorem ds_augC {j : Int} {jj} {p2 : Pos} (hc : ClsOk X.K X.mg cs f) (ho : DE X E o fo) : DS X E (.AugAssign (.Attribute o f tpos) .Add (.Constant (.int j) jj p2) pos) (sAugC cs fo f j) :=
  wS (ps_fldaug ho pe_int in_add) fun Dn σ H ⟨ρ, μ, α, R, S, V, h⟩ => ⟨ρ, μ, α, R, S, V, h.bind fun x μ1 w α1 R1 H1 S1 A1 q1 h1 => by
    cases ex : objV μ1 x with
    | none => rw [ex] at h1; exact False.elim h1
    | some p =>
      obtain ⟨c, fs⟩ := p
      rw [ex] at h1
      have h1 : AfterS X.K X.mg E α1 R1 H1 (match fs.lookup f with
        | some (.int i) => (match putC cs x f (.int (i + j)) μ1 with | some μ3 => .ok (.nx ρ) μ3 | none => .bad)
        | _ => .bad) Dn := h1
      split at h1
      · rename_i i el
        cases ep : putC cs x f (.int (i + j)) μ1 with
        | none => rw [ep] at h1; exact False.elim h1
        | some μ3 =>
          rw [ep] at h1
          obtain ⟨a, C, dx, gs, rfl, e2, e3, e4, e5, S3, A3⟩ := putC_ok (v := .int (i + j)) hc S1 q1 (.int _) ep
          obtain ⟨a2, C2, dx2, gs2, y1, g1, g2, g3⟩ := S1.objV q1 ex
          cases y1
          rw [e2] at g2
          cases g2
          obtain ⟨w, g4, g5⟩ := g3.look el
          cases g5
          exact ⟨a, C, dx, gs, _, rfl, e2, e3, e4, g4, i, j, rfl, rfl, dx, gs, e2, e5, h1 σ α1 R1 _ S3 A3 ((V.adv A1).adv A3)⟩
      · exact False.elim h1⟩
/-! ### o.f, p.g = x, y -/
def gAttr (K : PySem.W.Frag) (ta : TE) (f : Str) : TG := fun v σ H Q => ta σ H fun x H1 => ∃ a C dx gs, x = .ref a ∧ H1 a = some (.ins C dx gs) ∧ Cls K C ∧ NoAttr K C f ∧ gs.length < 1000 ∧ Q σ (upd H1 a (.ins C dx (L2.putF f v gs)))
theorem pg_attr {ta : TE} (ho : PE X o ta) : PG X (.Attribute o f pos) (gAttr X.K ta f) := by
  refine ⟨fun pins s σ H v u Q I r h => ?_⟩
  refine PySem.W.kas_attr (thn (ho.run pins s σ H _ I h) fun ov s1 ⟨x, H1, I1, rx, a, C, dx, gs, ex, ea, c, n, l, q⟩ => ?_)
  subst ex
  obtain rfl : ov = Value.ref a := rx
  exact setattr_ok I1 ea c n l r fun s3 I3 => ⟨σ, _, I3, q⟩
structure At where
  cs : List Str
  fo : FE
  f : Str
/-- the targets, one after another -/
def setAll : List At → List D → Env → Mu → Res Flow
  | [], [], ρ, μ => .ok (.nx ρ) μ
  | t :: ts, d :: ds, ρ, μ => (t.fo ρ μ).bind fun o μ1 => match putC t.cs o t.f d μ1 with
    | some μ2 => setAll ts ds ρ μ2
    | none => .bad
  | _, _, _, _ => .bad
inductive GAs (X : Cx) (E : XK) : List Expr → List At → Prop where
  | nil : GAs X E [] []
  | cons {o : Expr} {f : Str} {pos : Pos} {es : List Expr} {cs : List Str} {fo : FE} {ts : List At} (hc : ClsOk X.K X.mg cs f) (ho : DE X E o fo) (t : GAs X E es ts) (hs : (assignEach (.Attribute o f pos :: es) X.env).map (·.2) = assign (.Attribute o f pos) X.env :: (assignEach es X.env).map (·.2)) : GAs X E (.Attribute o f pos :: es) (⟨cs, fo, f⟩ :: ts)
def hAs (X : Cx) (E : XK) : List At → TGs
  | [] => gNil
  | t :: ts => gCons (gAttr X.K (Lift X.K X.mg E (relD X.K X.mg) t.fo) t.f) (hAs X E ts)
theorem GAs.pgs {E : XK} : ∀ {es : List Expr} {ts : List At}, GAs X E es ts → PGs X es (hAs X E ts)
  | _, _, .nil => pgs_nil
  | _, _, .cons hc ho t hs => pgs_cons (pg_attr ho) t.pgs hs
theorem GAs.len {E : XK} : ∀ {es : List Expr} {ts : List At}, GAs X E es ts → es.length = ts.length
  | _, _, .nil => rfl
  | _, _, .cons _ _ t _ => congrArg (· + 1) t.len
theorem GAs.cls {E : XK} : ∀ {es : List Expr} {ts : List At}, GAs X E es ts → ∀ t ∈ ts, ClsOk X.K X.mg t.cs t.f
  | _, _, .nil => fun _ h => nomatch h
  | _, _, .cons hc _ t _ => fun x h => by
    rcases List.mem_cons.mp h with rfl | h
    · exact hc
    · exact t.cls x h
theorem setAll_ok {E : XK} {Dn : Ends} {σ : L2.St} {ρ : Env} : ∀ {ts : List At} {ds : List D} {vs : List V} {μ : Mu} {α : List Addr} {R H : Hp}, (∀ t ∈ ts, ClsOk X.K X.mg t.cs t.f) → SM X.K X.mg μ α R H → SS X.K X.mg ρ R α σ → DenL X.K X.mg R α vs ds →
    AfterS X.K X.mg E α R H (setAll ts ds ρ μ) Dn → hAs X E ts vs σ H Dn.nx
  | [], [], _, μ, α, R, H, _, S, V, .nil, h => ⟨rfl, h σ α R H S .refl V⟩
  | [], _ :: _, _, _, _, _, _, _, _, _, _, h => False.elim h
  | _ :: _, [], _, _, _, _, _, _, _, _, _, h => False.elim h
  | t :: ts, d :: ds, _, μ, α, R, H, hc, S, V, .cons (v := v) (vs := vs) q qs, h => by
    refine ⟨v, vs, rfl, ρ, μ, α, R, S, V, ?_⟩
    have h : AfterS X.K X.mg E α R H ((t.fo ρ μ).bind fun o μ1 => match putC t.cs o t.f d μ1 with
      | some μ2 => setAll ts ds ρ μ2
      | none => .bad) Dn := h
    exact h.bind fun o μ1 w α1 R1 H1 S1 A1 q1 h1 => by
      cases ep : putC t.cs o t.f d μ1 with
      | none => rw [ep] at h1; exact False.elim h1
      | some μ2 =>
        rw [ep] at h1
        obtain ⟨a, C, dx, gs, rfl, e2, e3, e4, e5, S3, A3⟩ := putC_ok (hc t (List.mem_cons_self ..)) S1 q1 (q.adv A1) ep
        exact ⟨a, C, dx, gs, rfl, e2, e3, e4, e5, setAll_ok (fun t ht => hc t (List.mem_cons_of_mem _ ht)) S3 ((V.adv A1).adv A3) ((qs.adv A1).adv A3) (AfterS.adv A3 h1)⟩
def sAsgA (ts : List At) (t : FA) : FS := fun ρ μ => (eTup t ρ μ).bind fun d μ1 => match d with
  | .tuple ds => if ds.length = ts.length then setAll ts ds ρ μ1 else .bad
  | _ => .bad
theorem ds_asgA {ts : List At} {es vs : List Expr} {kt k2 : Nat} {pt p2 : Pos} {t : FA} (hcalm : X.calm = true) (ha : DE X E (.Tuple vs k2 p2) (eTup t)) (hg : GAs X E es ts) (hs : swapsWithSole [.Tuple es kt pt] (.Tuple vs k2 p2) pos.line X.env = pure false := by rfl) (hw : swappedStores [.Tuple es kt pt] (.Tuple vs k2 p2) X.env = pure none := by rfl)
    (h1 : (assignEach [.Tuple es kt pt] X.env).map (·.2) = [assign (.Tuple es kt pt) X.env] := by rfl) (hn : (assignEach es X.env).length = ts.length := by rfl) (hst : (assignEach es X.env).findIdx? (·.1) = none := by rfl) :
    DS X E (.Assign [.Tuple es kt pt] (.Tuple vs k2 p2) pos) (sAsgA ts t) :=
  wS (ps_asg ha (pg_tup hcalm hg.pgs hn hst) hs hw h1) fun Dn σ H ⟨ρ, μ, α, R, S, V, h⟩ => ⟨ρ, μ, α, R, S, V, h.bind fun d μ1 v α1 R1 H1 S1 A1 q1 q => by
    split at q
    · rename_i ds
      split at q
      · rename_i hl
        cases q1 with
        | tuple a1 a2 a3 => exact ⟨_, _, rfl, S1.sqT a1, by rw [a3.len]; exact hl, setAll_ok hg.cls S1 (V.adv A1) a3 q⟩
      · exact False.elim q
    · exact False.elim q⟩
end
/-! ### x.index(y) -/
def ixZ (ns : List Int) (y : Int) : Option Nat := ns.findIdx? (· == y)
def gIndexZ : GM := fun μ x ds => match ds with
  | [.int y] => (seqL μ x).bind fun xs => (intsD xs).bind fun ns => (ixZ ns y).map fun j => (.int (j : Nat), μ)
  | _ => none
theorem findIdx_spec {τ : Type} {p : τ → Bool} : ∀ {l : List τ} {j : Nat}, l.findIdx? p = some j → (∃ z, l[j]? = some z ∧ p z = true) ∧ ∀ m, m < j → ∀ z, l[m]? = some z → p z = false
  | [], j, h => by simp at h
  | x :: l, j, h => by
    rw [List.findIdx?_cons] at h
    split at h
    · rename_i hx
      cases h
      exact ⟨⟨x, rfl, hx⟩, fun m hm => absurd hm (Nat.not_lt_zero _)⟩
    · rename_i hx
      obtain ⟨i, hi, rfl⟩ := Option.map_eq_some_iff.mp h
      obtain ⟨⟨z, h1, h2⟩, h3⟩ := findIdx_spec hi
      refine ⟨⟨z, h1, h2⟩, fun m hm y hy => ?_⟩
      cases m with
      | zero => cases hy; simpa using hx
      | succ m => exact h3 m (by omega) y hy
theorem mg_index {X : Cx} : MtG X "list.index" gIndexZ := by
  rintro pins s σ H x vs v us Q I rx r ⟨μ, α, R, dx, ds, d, μ', S, h1, h2, e, q⟩
  unfold gIndexZ at e
  split at e
  · rename_i y
    obtain ⟨xs, e1, e⟩ := Option.bind_eq_some_iff.mp e
    obtain ⟨ns, e2, e⟩ := Option.bind_eq_some_iff.mp e
    obtain ⟨j, e3, e4⟩ := Option.map_eq_some_iff.mp e
    cases e4
    obtain ⟨a, ws, rfl, hq, hl, dl⟩ := S.seqL h1 e1
    obtain rfl := intsD_den dl e2
    obtain ⟨w', rfl, k2⟩ := denL1 h2
    cases k2
    obtain ⟨⟨z, z1, z2⟩, z3⟩ := findIdx_spec e3
    refine mt_index pins s σ H _ _ v us Q I rx r ⟨a, ns.map V.int, .int y, j, .int z, rfl, rfl, SqL.of hq, rfl, ?_, by rw [List.getElem?_map, z1]; rfl, z2, fun m z' hm hz => ?_, q _ R H S .refl (.int _)⟩
    · rw [List.all_map]
      exact List.all_eq_true.mpr fun _ _ => rfl
    · rw [List.getElem?_map] at hz
      obtain ⟨n, hn, rfl⟩ := Option.map_eq_some_iff.mp hz
      exact z3 m hm n hn
  · cases e
def gIndexS : GM := fun μ x ds => match x, ds with
  | .tuple xs, [.str y] => (strsD xs).bind fun ks => (ks.findIdx? (· == y)).map fun j => (.int (j : Nat), μ)
  | _, _ => none
theorem mg_indexS {X : Cx} : MtG X "tuple.index" gIndexS := by
  rintro pins s σ H x vs v us Q I rx r ⟨μ, α, R, dx, ds, d, μ', S, h1, h2, e, q⟩
  unfold gIndexS at e
  split at e
  · rename_i xs y
    obtain ⟨ks, e2, e⟩ := Option.bind_eq_some_iff.mp e
    obtain ⟨j, e3, e4⟩ := Option.map_eq_some_iff.mp e
    cases e4
    obtain ⟨w', rfl, k2⟩ := denL1 h2
    cases k2
    cases h1 with
    | tuple a1 a2 a3 =>
      obtain rfl := strsD_den a3 e2
      obtain ⟨⟨z, z1, z2⟩, z3⟩ := findIdx_spec e3
      have : z = y := eq_of_beq z2
      subst this
      exact mt_tup_index pins s σ H _ _ v us Q I rx r ⟨_, ks, z, j, rfl, rfl, S.sqT a1, z1, (fun m hm hz => absurd (z3 m hm _ hz) (by rw [beq_self_eq_true]; exact Bool.noConfusion)), q _ R H S .refl (.int _)⟩
  · cases e
/-! ### NAME.index(e), NAME a tuple of texts of the module -/
def eGIx (xs : List Str) (t : FA) : FE := fun ρ μ => (t ρ μ).bind fun ds μ1 => match gIndexS μ1 (.tuple (xs.map .str)) ds with
  | some (r, μ2) => .ok r μ2
  | none => .bad
theorem de_gIndex {X : Cx} {E : XK} {x : Str} {xs : List Str} {e : Expr} {t : FA} {p apos cpos : Pos} (h : GTup X.K X.mg x xs) (hl : xs.length ≤ 64) (hg : Gl X x) (ha : DA X E [e] t)
    (hdb : (x == ("__debug__" : Str)) = false := by decide)
    (hbase : attributeBase (.Name x p) "index" X.env (eval (.Name x p) X.env) = eval (.Name x p) X.env := by rfl)
    (hfew : ((backTo cpos (starEach [e] X.env)).all (fun x => !x.1) && (backToKw cpos (keywordEach [] X.env)).all (fun x => x.1.isSome) && decide ([e].length + ([] : List Keyword).length + (if ([] : List Keyword).isEmpty then 0 else 1) < 30)) = true := by rfl)
    (hline : (apos.endLine == cpos.line) = true := by rfl) (hs : starEach [e] X.env = (false, eval e X.env) :: starEach [] X.env := by rfl) :
    DE X E (.Call (.Attribute (.Name x p) "index" apos) [e] [] cpos) (eGIx xs t) := by
  obtain ⟨a, o, its, n, h1, h2, h3, h4, h5, h6, h7⟩ := h.ex
  have dt : ∀ R α, Den X.K X.mg R α (.ref a) (.tuple (xs.map .str)) := fun R α => .tuple (.inr ⟨o, its, n, h2, h3, h4, h5, h6⟩) (by rw [List.length_map]; exact Nat.le_trans hl (by decide)) (denL_strs xs)
  refine ⟨fun pins s σ H Q I ⟨ρ, μ, α, R, S, W, h⟩ => ?_⟩
  have nm : PE X (.Name x p) (tC (V.ref a)) := pe_glob hg h1 rfl hdb
  refine wpAny_Call_method_late hbase hfew hline rfl (thn (nm.run pins s σ H (fun v H1 => v = .ref a ∧ H1 = H) I ⟨rfl, rfl⟩) fun v s1 hq => ?_)
  obtain ⟨w, H1, I1, r1, rfl, rfl⟩ := hq
  obtain rfl : v = .ref a := r1
  have ho : s1.heap.get? a = some o := I1.kIn a o h2
  refine ⟨"tuple", "tuple.index", PySem.F.plainAttrs_tuple, PySem.F.slot_tuple_index, PySem.F.type_tuple_index, ⟨o, ho, h3⟩, fun b hb => ?_, ?_⟩
  · cases hb
    exact ⟨o, ho, h7⟩
  have hA := ha.run cpos pins s1 σ H1 (fun vs H2 => ∃ ds μ1 α1 R1, SM X.K X.mg μ1 α1 R1 H2 ∧ DenL X.K X.mg R1 α1 vs ds ∧ After X.K X.mg E (relD X.K X.mg) α1 R1 H2 (match gIndexS μ1 (.tuple (xs.map .str)) ds with
    | some (r, μ2) => .ok r μ2
    | none => .bad) Q) I1 ⟨ρ, μ, α, R, S, W, h.bind fun ds μ1 vs α1 R1 H1 S1 A1 q1 h1 => ⟨ds, μ1, α1, R1, S1, q1, h1⟩⟩
  rw [hs] at hA ⊢
  refine Calls.callWith_builtin rfl (Calls.evalArgs_plain ?_)
  refine thn hA fun us s2 hq => ?_
  obtain ⟨vs, H2, I2, r2, ds, μ1, α1, R1, S1, q1, h1⟩ := hq
  cases eg : gIndexS μ1 (.tuple (xs.map .str)) ds with
  | none => rw [eg] at h1; exact False.elim h1
  | some pr =>
    obtain ⟨r, μ2⟩ := pr
    rw [eg] at h1
    exact mg_indexS pins s2 σ H2 (V.ref a) vs _ us Q I2 rfl r2 ⟨μ1, α1, R1, _, ds, r, μ2, S1, dt _ _, q1, eg, fun w R' H' S' A' q => h1 w α1 R' H' S' A' q⟩
end TL

set_option Elab.async false
set_option maxRecDepth 100000
set_option maxHeartbeats 4000000
set_option linter.all false
namespace GP
open PySem PySem.Spec PyProof.Rows L2 TL
def top (i : Nat) : Stmt := PySem.Challenge.pw_gatepairs_k19_known_trusts_and_repairs.main.body.getD i (.Pass ⟨0, 0, 0, 0⟩)
def mth (i j : Nat) : Stmt := match top i with
  | .ClassDef _ _ _ body _ _ _ _ _ _ _ => body.getD j (.Pass ⟨0, 0, 0, 0⟩)
  | s => s
structure Tx (K : PySem.W.Frag) (mg : Str → Option Value) : Prop where
  f_entries_of : ClsOk K mg ["Graph"] "entries_of"
  f_exits_of : ClsOk K mg ["Graph"] "exits_of"
  f_must : ClsOk K mg ["Side"] "must"
  f_must_entries : ClsOk K mg ["Graph"] "must_entries"
  f_must_exits : ClsOk K mg ["Graph"] "must_exits"
  f_neighbours : ClsOk K mg ["Side"] "neighbours"
  f_trust_of : ClsOk K mg ["Side"] "trust_of"
structure Bi (K : PySem.W.Frag) (mg : Str → Option Value) : Prop where
  abs_ : mg "abs" = none
  all_ : mg "all" = none
  any_ : mg "any" = none
  bool_ : mg "bool" = none
  dict_ : mg "dict" = none
  enumerate_ : mg "enumerate" = none
  int_ : mg "int" = none
  isinstance_ : mg "isinstance" = none
  len_ : mg "len" = none
  list_ : mg "list" = none
  max_ : mg "max" = none
  min_ : mg "min" = none
  range_ : mg "range" = none
  set_ : mg "set" = none
  sorted_ : mg "sorted" = none
  tuple_ : mg "tuple" = none
  zip_ : mg "zip" = none
  MAX_TRUST_ : ∃ u, mg "MAX_TRUST" = some u ∧ RelV (V.int (9)) u
  CLOSED_ : ∃ u, mg "CLOSED" = some u ∧ RelV (V.str "closed") u
  MAX_TIME_ : ∃ u, mg "MAX_TIME" = some u ∧ RelV (V.int (1000000000)) u
  GATES_ : GTup K mg "GATES" ["entries", "exits"]
section
variable {P : Program} {w : World} {K : PySem.W.Frag} {mg : Str → Option Value} {base : Heap}
/-! ### _law_feed -/
abbrev s__law_feed : Stmt := top 41
def b__law_feed : FS := (sSeq (sSet 2 (eIf (eT (eBin gLt (eVar 1) (eCall gLen (aCons (eVar 0) aNil)))) (eBin gIx (eVar 0) (eVar 1)) (eBin gAdd (eBin gMul (eC (.int 59)) (eVar 1)) (eC (.int 23)))))
  (sSeq (sSet 3 (eBin gSub (eCall gAbs (aCons (eVar 2) aNil)) (eBin gPow (eC (.int 10)) (eC (.int 18)))))
  (sRet (eNew (nLst (aCons (eCall gMax2 (aCons (eC (.int 0)) (aCons (eVar 3) aNil))) (aCons (eBin gMod (eBin gAdd (eBin gMul (eVar 2) (eC (.int 2862933555777941757))) (eBin gMul (eC (.int 3935559000370003845)) (eBin gAdd (eVar 1) (eC (.int 1))))) (eC (.int 2305843009213693951))) aNil)))))))
def c__law_feed : List D → Mu → Res D := runDef 4 b__law_feed
theorem sc__law_feed : FnScope ["script", "index", "cell", "great"] ["script", "index"] (defScope s__law_feed) := ⟨rfl, rfl, rfl, by decide +kernel, rfl, by decide +kernel, by decide +kernel⟩
theorem ok__law_feed {f : Addr} {fd : FuncData} (F : Fun K "_law_feed" "_law_feed" s__law_feed f fd) (B : Bi K mg) (T : Tx K mg) (hsm : ∃ o, base.get? sysModules = some o)  : FnT P w K mg base 1 f fd ["script", "index"] c__law_feed := by
  refine fn_ok F sc__law_feed fun cdv A outer s H E hr hgd => ?_
  have hu := hr.units
  exact (dss_cons (ds_set sc__law_feed.nd rfl (by first | exact Or.inl rfl | exact Or.inr rfl) (de_if (dt_cmp o2_lt (dv 1) (de_callB cal_len rfl B.len_ rfl (da_cons (dv 0) da_nil)) (nomark _)) (de_ix hu (dv 0) (dv 1)) (de_bin o2_add (de_bin o2_mul de_int (dv 1)) de_int)))
  (dss_cons (ds_set sc__law_feed.nd rfl (by first | exact Or.inl rfl | exact Or.inr rfl) (de_bin o2_sub (de_callB cal_abs rfl B.abs_ rfl (da_cons (dv 2) da_nil)) (de_bin o2_pow de_int de_int)))
  (dss_one (ds_ret (de_new (dn_lst (da_cons (de_callB (cal_max2 rfl) rfl B.max_ rfl (da_cons de_int (da_cons (dv 3) da_nil))) (da_cons (de_bin o2_mod (de_bin o2_add (de_bin o2_mul (dv 2) de_int) (de_bin o2_mul de_int (de_bin o2_add (dv 1) de_int))) de_int) da_nil))))))))
/-! ### _law_take -/
abbrev s__law_take : Stmt := top 42
def b__law_take_1 : FS := (sSeq (sSet 2 (eBin gMod (eBin gIx (eVar 0) (eC (.int 0))) (eVar 1)))
  (sSeq (sSub (eVar 0) (eC (.int 0)) (eBin gDiv (eBin gIx (eVar 0) (eC (.int 0))) (eVar 1)))
  (sRet (eVar 2))))
def b__law_take : FS := (sSeq (sIf (eT (eBin gGt (eBin gIx (eVar 0) (eC (.int 0))) (eC (.int 0)))) b__law_take_1 sNil)
  (sSeq (sSub (eVar 0) (eC (.int 1)) (eBin gMod (eBin gAdd (eBin gMul (eBin gIx (eVar 0) (eC (.int 1))) (eC (.int 742938285))) (eC (.int 1013904223))) (eC (.int 2305843009213693951))))
  (sRet (eBin gMod (eBin gDiv (eBin gIx (eVar 0) (eC (.int 1))) (eC (.int 16777216))) (eVar 1)))))
def c__law_take : List D → Mu → Res D := runDef 3 b__law_take
theorem sc__law_take : FnScope ["feed", "size", "digit"] ["feed", "size"] (defScope s__law_take) := ⟨rfl, rfl, rfl, by decide +kernel, rfl, by decide +kernel, by decide +kernel⟩
theorem ok__law_take {f : Addr} {fd : FuncData} (F : Fun K "_law_take" "_law_take" s__law_take f fd) (B : Bi K mg) (T : Tx K mg) (hsm : ∃ o, base.get? sysModules = some o)  : FnT P w K mg base 1 f fd ["feed", "size"] c__law_take := by
  refine fn_ok F sc__law_take fun cdv A outer s H E hr hgd => ?_
  have hu := hr.units
  exact (dss_cons (ds_if (dt_cmp o2_gt (de_ix hu (dv 0) de_int) de_int (nomark _)) (dss_cons (ds_set sc__law_take.nd rfl (by first | exact Or.inl rfl | exact Or.inr rfl) (de_bin o2_mod (de_ix hu (dv 0) de_int) (dv 1)))
  (dss_cons (ds_sub hu (dv 0) de_int (de_bin o2_div (de_ix hu (dv 0) de_int) (dv 1)))
  (dss_one (ds_ret (dv 2))))) dss_nil)
  (dss_cons (ds_sub hu (dv 0) de_int (de_bin o2_mod (de_bin o2_add (de_bin o2_mul (de_ix hu (dv 0) de_int) de_int) de_int) de_int))
  (dss_one (ds_ret (de_bin o2_mod (de_bin o2_div (de_ix hu (dv 0) de_int) de_int) (dv 1))))))
/-! ### _law_pick -/
abbrev s__law_pick : Stmt := top 43
def b__law_pick : FS := (sRet (eBin gIx (eVar 1) (eCallF 2 c__law_take [] (aCons (eVar 0) (aCons (eCall gLen (aCons (eVar 1) aNil)) aNil)))))
def c__law_pick : List D → Mu → Res D := runDef 2 b__law_pick
theorem sc__law_pick : FnScope ["feed", "options"] ["feed", "options"] (defScope s__law_pick) := ⟨rfl, rfl, rfl, by decide +kernel, rfl, by decide +kernel, by decide +kernel⟩
theorem ok__law_pick {f : Addr} {fd : FuncData} (F : Fun K "_law_pick" "_law_pick" s__law_pick f fd) (B : Bi K mg) (T : Tx K mg) (hsm : ∃ o, base.get? sysModules = some o) (H__law_take : Has P w K mg base 1 "_law_take" 2 [] c__law_take) : FnT P w K mg base 2 f fd ["feed", "options"] c__law_pick := by
  refine fn_ok F sc__law_pick fun cdv A outer s H E hr hgd => ?_
  have hu := hr.units
  exact (dss_one (ds_ret (de_ix hu (dv 1) (dcall H__law_take (hr.mono (by decide)) hgd rfl (passes_call (takes_of rfl rfl rfl rfl) fun _ _ _ _ h => h) (da_cons (dv 0) (da_cons (de_callB cal_len rfl B.len_ rfl (da_cons (dv 1) da_nil)) da_nil))))))
/-! ### Side___init__ -/
abbrev s_Side___init__ : Stmt := mth 29 0
def b_Side___init__ : FS := (sSeq (sFldC ["Side"] (eVar 0) (eIf (eT (eBin gEq (eVar 3) (eC (.str "entries")))) (eFldC ["Graph"] (eVar 1) "must_entries") (eFldC ["Graph"] (eVar 1) "must_exits")) "must")
  (sSeq (sFldC ["Side"] (eVar 0) (eIf (eT (eBin gEq (eVar 3) (eC (.str "entries")))) (eFldC ["Graph"] (eVar 1) "exits_of") (eFldC ["Graph"] (eVar 1) "entries_of")) "neighbours")
  (sFldC ["Side"] (eVar 0) (eIf (eT (eBin gEq (eVar 3) (eC (.str "entries")))) (eBin gIx (eVar 2) (eC (.int 0))) (eBin gIx (eVar 2) (eC (.int 1)))) "trust_of")))
def c_Side___init__ : List D → Mu → Res D := runDef 4 b_Side___init__
theorem sc_Side___init__ : FnScope ["self", "graph", "trusts", "gate"] ["self", "graph", "trusts", "gate"] (defScope s_Side___init__) := ⟨rfl, rfl, rfl, by decide +kernel, rfl, by decide +kernel, by decide +kernel⟩
theorem ok_Side___init__ {f : Addr} {fd : FuncData} (F : Fun K "__init__" "Side.__init__" s_Side___init__ f fd) (B : Bi K mg) (T : Tx K mg) (hsm : ∃ o, base.get? sysModules = some o)  : FnT P w K mg base 1 f fd ["self", "graph", "trusts", "gate"] c_Side___init__ := by
  refine fn_ok F sc_Side___init__ fun cdv A outer s H E hr hgd => ?_
  have hu := hr.units
  exact (dss_cons (ds_fld T.f_must (dv 0) (de_if (dt_cmp (o2_eq hu) (dv 3) de_str (nomark _)) (de_fld T.f_must_entries (dv 1)) (de_fld T.f_must_exits (dv 1))))
  (dss_cons (ds_fld T.f_neighbours (dv 0) (de_if (dt_cmp (o2_eq hu) (dv 3) de_str (nomark _)) (de_fld T.f_exits_of (dv 1)) (de_fld T.f_entries_of (dv 1))))
  (dss_one (ds_fld T.f_trust_of (dv 0) (de_if (dt_cmp (o2_eq hu) (dv 3) de_str (nomark _)) (de_ix hu (dv 2) de_int) (de_ix hu (dv 2) de_int))))))
/-! ### sides_of -/
abbrev s_sides_of : Stmt := top 30
def b_sides_of : FS := (sRet (eFz (nComp (iVal (eC (.tuple [.str "entries", .str "exits"]))) (.nm 2) tTrue (eFrz (eMk 4 "Side" c_Side___init__ (aCons (eVar 0) (aCons (eVar 1) (aCons (eVar 2) aNil))))) [2])))
def c_sides_of : List D → Mu → Res D := runDef 3 b_sides_of
theorem sc_sides_of : FnScope ["graph", "trusts", "gate"] ["graph", "trusts"] (defScope s_sides_of) := ⟨rfl, rfl, rfl, by decide +kernel, rfl, by decide +kernel, by decide +kernel⟩
theorem ok_sides_of {f : Addr} {fd : FuncData} (F : Fun K "sides_of" "sides_of" s_sides_of f fd) (B : Bi K mg) (T : Tx K mg) (hsm : ∃ o, base.get? sysModules = some o) (H_Side___init__ : HasC P w K mg base 1 "Side" 4 c_Side___init__) : FnT P w K mg base 3 f fd ["graph", "trusts"] c_sides_of := by
  refine fn_ok F sc_sides_of fun cdv A outer s H E hr hgd => ?_
  have hu := hr.units
  exact (dss_one (ds_ret (de_fz (dn_lc (own := [("gate", 2)]) (by decide) rfl sc_sides_of.nd (di_val (de_gT B.GATES_ (by decide) rfl rfl)) (blkOk_by (N := ["graph", "trusts", "gate"]) (sc := defScope s_sides_of) (by decide +kernel)) (fun _ _ _ _ _ => (gt_nm sc_sides_of.nd rfl (by first | exact Or.inl rfl | exact Or.inr rfl))) (fun _ _ _ _ _ => dts_nil) (fun _ _ _ _ _ => (de_frz (dmake H_Side___init__ (hr.mono (by decide)) hgd rfl passL (da_cons (dv 0) (da_cons (dv 1) (da_cons (dv 2) da_nil))))))))))
/-! ### search -/
abbrev s_search : Stmt := top 13
def b_search_1 : FS := (sSeq (sSub (eVar 4) (eVar 8) (eVar 7))
  (sSeq (sSet 9 (eMeth "dict" gGet (eVar 2) (aCons (eVar 8) aNil)))
  (sSeq (sIf (tOr (eT (eBin gIs (eVar 9) (eC .none))) (eT (eBin gNotIn (eVar 9) (eVar 3)))) (sRet (eTup (aCons (eFrz (eVar 4)) (aCons (eVar 8) (aCons (eFrz (eVar 5)) aNil))))) sNil)
  (sExpr (eMeth "list" gAppend (eVar 6) (aCons (eVar 9) aNil))))))
def b_search_2 : FS := (sIf (eT (eBin gNotIn (eVar 8) (eVar 4))) b_search_1 sNil)
def b_search_3 : FS := (sSeq (sSet 7 (eMeth "list" gPop (eVar 6) aNil))
  (sSeq (sExpr (eMeth "list" gAppend (eVar 5) (aCons (eVar 7) aNil)))
  (sFor (iVal (eBin gIx (eVar 1) (eVar 7))) (.nm 8) b_search_2)))
def b_search : FS := (sSeq (sSet 4 (eNew (nEmpty)))
  (sSeq (sSet 5 (eNew (nLst aNil)))
  (sSeq (sSet 6 (eNew (nLst (aCons (eVar 0) aNil))))
  (sSeq (sWhile (eT (eBin gNe (eVar 6) (eFz (nLst aNil)))) b_search_3)
  (sSeq (sFrz 5) (sSeq (sFrz 4) (sRet (eTup (aCons (eFrz (eVar 4)) (aCons (eC .none) (aCons (eFrz (eVar 5)) aNil)))))))))))
def c_search : List D → Mu → Res D := runDef 10 b_search
theorem sc_search : FnScope ["start", "neighbours", "partner", "required", "links", "visited", "waiting", "line", "other", "held"] ["start", "neighbours", "partner", "required"] (defScope s_search) := ⟨rfl, rfl, rfl, by decide +kernel, rfl, by decide +kernel, by decide +kernel⟩
theorem ok_search {f : Addr} {fd : FuncData} (F : Fun K "search" "search" s_search f fd) (B : Bi K mg) (T : Tx K mg) (hsm : ∃ o, base.get? sysModules = some o)  : FnT P w K mg base 1 f fd ["start", "neighbours", "partner", "required"] c_search := by
  refine fn_ok F sc_search fun cdv A outer s H E hr hgd => ?_
  have hu := hr.units
  exact (dss_cons (ds_set sc_search.nd rfl (by first | exact Or.inl rfl | exact Or.inr rfl) (de_new (dn_empty)))
  (dss_cons (ds_set sc_search.nd rfl (by first | exact Or.inl rfl | exact Or.inr rfl) (de_new (dn_lst da_nil)))
  (dss_cons (ds_set sc_search.nd rfl (by first | exact Or.inl rfl | exact Or.inr rfl) (de_new (dn_lst (da_cons (dv 0) da_nil))))
  (dss_cons (ds_while (passes_of rfl) (dt_cmp (o2_ne hu) (dv 6) (de_fz (dn_lst da_nil)) (nomark _)) (dss_cons (ds_set sc_search.nd rfl (by first | exact Or.inl rfl | exact Or.inr rfl) (de_bm0 PySem.F.plainAttrs_list PySem.F.slot_list_pop PySem.F.type_list_pop mg_pop (dv 6)))
  (dss_cons (ds_expr (de_bm PySem.F.plainAttrs_list PySem.F.slot_list_append PySem.F.type_list_append mg_append (dv 5) (da_cons (dv 7) da_nil)))
  (dss_one (ds_for (passes_of rfl) rfl (di_val (de_ix hu (dv 1) (dv 7))) (gt_nm sc_search.nd rfl (by first | exact Or.inl rfl | exact Or.inr rfl)) (dss_one (ds_if (dt_cmp (o2_notin hu) (dv 8) (dv 4) (by with_unfolding_all rfl)) (dss_cons (ds_sub hu (dv 4) (dv 8) (dv 7))
  (dss_cons (ds_set sc_search.nd rfl (by first | exact Or.inl rfl | exact Or.inr rfl) (de_bm PySem.F.plainAttrs_dict PySem.F.slot_dict_get PySem.F.type_dict_get (mg_get hu) (dv 2) (da_cons (dv 8) da_nil)))
  (dss_cons (ds_if (dt_w (dw_or (dt_cmp o2_is (dv 9) de_none (nomark _)) (dw_or1 (dt_cmp (o2_notin hu) (dv 9) (dv 3) (by with_unfolding_all rfl))))) (dss_one (ds_ret (de_tup (da_cons (de_frz (dv 4)) (da_cons (dv 8) (da_cons (de_frz (dv 5)) da_nil)))))) dss_nil)
  (dss_one (ds_expr (de_bm PySem.F.plainAttrs_list PySem.F.slot_list_append PySem.F.type_list_append mg_append (dv 6) (da_cons (dv 9) da_nil))))))) dss_nil)))))))
  (dss_frz 5 (dss_frz 4 (dss_one (ds_ret (de_tup (da_cons (de_frz (dv 4)) (da_cons de_none (da_cons (de_frz (dv 5)) da_nil))))))))))))
/-! ### cover -/
abbrev s_cover : Stmt := top 14
def b_cover_1 : FS := (sSeq (sSet 9 (eBin gIx (eVar 6) (eVar 7)))
  (sSeq (sSet 10 (eMeth "dict" gGet (eVar 3) (aCons (eVar 9) aNil)))
  (sSeq (sSub (eVar 3) (eVar 9) (eVar 7))
  (sSeq (sSub (eVar 2) (eVar 7) (eVar 9))
  (sSet 7 (eVar 10))))))
def b_cover : FS := (sSeq (sAsg (.tp [(.nm 6), (.nm 7), (.nm 8)]) (eCallF 4 c_search [] (aCons (eVar 0) (aCons (eVar 1) (aCons (eVar 2) (aCons (eVar 4) aNil))))))
  (sSeq (sIf (eT (eBin gIs (eVar 7) (eC .none))) (sRet (eNew (nCall gSortedA (aCons (eVar 8) aNil)))) sNil)
  (sSeq (sSet 5 (eMeth "dict" gGet (eVar 2) (aCons (eVar 7) aNil)))
  (sSeq (sIf (eT (eBin gIsNot (eVar 5) (eC .none))) (sDel (eVar 3) (eVar 5)) sNil)
  (sSeq (sWhile (eT (eBin gIsNot (eVar 7) (eC .none))) b_cover_1)
  (sRet (eC .none)))))))
def c_cover : List D → Mu → Res D := runDef 11 b_cover
theorem sc_cover : FnScope ["start", "neighbours", "partner", "mine", "required", "held", "links", "last", "visited", "line", "before"] ["start", "neighbours", "partner", "mine", "required"] (defScope s_cover) := ⟨rfl, rfl, rfl, by decide +kernel, rfl, by decide +kernel, by decide +kernel⟩
theorem ok_cover {f : Addr} {fd : FuncData} (F : Fun K "cover" "cover" s_cover f fd) (B : Bi K mg) (T : Tx K mg) (hsm : ∃ o, base.get? sysModules = some o) (H_search : Has P w K mg base 1 "search" 4 [] c_search) : FnT P w K mg base 2 f fd ["start", "neighbours", "partner", "mine", "required"] c_cover := by
  refine fn_ok F sc_cover fun cdv A outer s H E hr hgd => ?_
  have hu := hr.units
  exact (dss_cons (ds_asg (dcall H_search (hr.mono (by decide)) hgd rfl (passes_call (takes_of rfl rfl rfl rfl) fun _ _ _ _ h => h) (da_cons (dv 0) (da_cons (dv 1) (da_cons (dv 2) (da_cons (dv 4) da_nil))))) (gt_tp rfl (gts_cons (gt_nm sc_cover.nd rfl (by first | exact Or.inl rfl | exact Or.inr rfl)) (gts_cons (gt_nm sc_cover.nd rfl (by first | exact Or.inl rfl | exact Or.inr rfl)) (gts_cons (gt_nm sc_cover.nd rfl (by first | exact Or.inl rfl | exact Or.inr rfl)) gts_nil)))))
  (dss_cons (ds_if (dt_cmp o2_is (dv 7) de_none (nomark _)) (dss_one (ds_ret (de_new (dn_callB (cal_sortedA rfl) rfl B.sorted_ rfl (da_cons (dv 8) da_nil))))) dss_nil)
  (dss_cons (ds_set sc_cover.nd rfl (by first | exact Or.inl rfl | exact Or.inr rfl) (de_bm PySem.F.plainAttrs_dict PySem.F.slot_dict_get PySem.F.type_dict_get (mg_get hu) (dv 2) (da_cons (dv 7) da_nil)))
  (dss_cons (ds_if (dt_cmp o2_isnot (dv 5) de_none (nomark _)) (dss_one (ds_del (dv 3) (dv 5))) dss_nil)
  (dss_cons (ds_while (passes_of rfl) (dt_cmp o2_isnot (dv 7) de_none (nomark _)) (dss_cons (ds_set sc_cover.nd rfl (by first | exact Or.inl rfl | exact Or.inr rfl) (de_ix hu (dv 6) (dv 7)))
  (dss_cons (ds_set sc_cover.nd rfl (by first | exact Or.inl rfl | exact Or.inr rfl) (de_bm PySem.F.plainAttrs_dict PySem.F.slot_dict_get PySem.F.type_dict_get (mg_get hu) (dv 3) (da_cons (dv 9) da_nil)))
  (dss_cons (ds_sub hu (dv 3) (dv 9) (dv 7))
  (dss_cons (ds_sub hu (dv 2) (dv 7) (dv 9))
  (dss_one (ds_set sc_cover.nd rfl (by first | exact Or.inl rfl | exact Or.inr rfl) (dv 10))))))))
  (dss_one (ds_ret de_none)))))))
/-! ### covering -/
abbrev s_covering : Stmt := top 15
def b_covering_1 : FS := (sSeq (sSet 6 (eFrz (eCallF 5 c_cover [] (aCons (eVar 4) (aCons (eFldC ["Graph"] (eVar 0) "exits_of") (aCons (eVar 3) (aCons (eVar 2) (aCons (eFldC ["Graph"] (eVar 0) "must_entries") aNil))))))))
  (sIf (eT (eBin gIsNot (eVar 6) (eC .none))) (sRet (eTup (aCons (eC .none) (aCons (eTup (aCons (eC (.str "entries")) (aCons (eVar 6) aNil))) aNil)))) sNil))
def b_covering_2 : FS := (sIf (eT (eBin gNotIn (eVar 4) (eVar 2))) b_covering_1 sNil)
def b_covering_3 : FS := (sSeq (sSet 6 (eFrz (eCallF 5 c_cover [] (aCons (eVar 5) (aCons (eFldC ["Graph"] (eVar 0) "entries_of") (aCons (eVar 2) (aCons (eVar 3) (aCons (eFldC ["Graph"] (eVar 0) "must_exits") aNil))))))))
  (sIf (eT (eBin gIsNot (eVar 6) (eC .none))) (sRet (eTup (aCons (eC .none) (aCons (eTup (aCons (eC (.str "exits")) (aCons (eVar 6) aNil))) aNil)))) sNil))
def b_covering_4 : FS := (sIf (eT (eBin gNotIn (eVar 5) (eVar 3))) b_covering_3 sNil)
def b_covering : FS := (sSeq (sSet 2 (eNew (nCall gDictA (aCons (eVar 1) aNil))))
  (sSeq (sSet 3 (eNew (nCompK (iVal (eVar 1)) (.tp [(.nm 4), (.nm 5)]) tTrue (eVar 5) (eVar 4) [4, 5])))
  (sSeq (sFor (iVal (eFldC ["Graph"] (eVar 0) "must_entries")) (.nm 4) b_covering_2)
  (sSeq (sFor (iVal (eFldC ["Graph"] (eVar 0) "must_exits")) (.nm 5) b_covering_4)
  (sRet (eTup (aCons (eFz (nSortItems (eVar 2))) (aCons (eC .none) aNil))))))))
def c_covering : List D → Mu → Res D := runDef 7 b_covering
theorem sc_covering : FnScope ["graph", "pairs", "exit_of", "entry_of", "entry_number", "exit_number", "excess"] ["graph", "pairs"] (defScope s_covering) := ⟨rfl, rfl, rfl, by decide +kernel, rfl, by decide +kernel, by decide +kernel⟩
theorem ok_covering {f : Addr} {fd : FuncData} (F : Fun K "covering" "covering" s_covering f fd) (B : Bi K mg) (T : Tx K mg) (hsm : ∃ o, base.get? sysModules = some o) (H_cover : Has P w K mg base 2 "cover" 5 [] c_cover) : FnT P w K mg base 3 f fd ["graph", "pairs"] c_covering := by
  refine fn_ok F sc_covering fun cdv A outer s H E hr hgd => ?_
  have hu := hr.units
  exact (dss_cons (ds_set sc_covering.nd rfl (by first | exact Or.inl rfl | exact Or.inr rfl) (de_new (dn_callT (cal_dictA rfl) rfl B.dict_ rfl (da_cons (dv 1) da_nil))))
  (dss_cons (dc_set2 (own := [("entry_number", 4), ("exit_number", 5)]) (by decide) rfl sc_covering.nd rfl rfl (sw_trueD rfl rfl rfl (by decide +kernel)) (di_val (dv 1)) (blkOk_by (N := ["graph", "pairs", "exit_of", "entry_of", "entry_number", "exit_number", "excess"]) (sc := defScope s_covering) (by decide +kernel)) (fun _ _ _ _ _ => (gt_tp rfl (gts_cons (gt_nm sc_covering.nd rfl (by first | exact Or.inl rfl | exact Or.inr rfl)) (gts_cons (gt_nm sc_covering.nd rfl (by first | exact Or.inl rfl | exact Or.inr rfl)) gts_nil)))) (fun _ _ _ _ _ => dts_nil) (fun _ _ _ _ _ => (dv 5)) (fun _ _ _ _ _ => (dv 4)))
  (dss_cons (ds_for (passes_of rfl) rfl (di_val (de_fld T.f_must_entries (dv 0))) (gt_nm sc_covering.nd rfl (by first | exact Or.inl rfl | exact Or.inr rfl)) (dss_one (ds_if (dt_cmp (o2_notin hu) (dv 4) (dv 2) (by with_unfolding_all rfl)) (dss_cons (ds_set sc_covering.nd rfl (by first | exact Or.inl rfl | exact Or.inr rfl) (de_frz (dcall H_cover (hr.mono (by decide)) hgd rfl (passes_call (takes_of rfl rfl rfl rfl) fun _ _ _ _ h => h) (da_cons (dv 4) (da_cons (de_fld T.f_exits_of (dv 0)) (da_cons (dv 3) (da_cons (dv 2) (da_cons (de_fld T.f_must_entries (dv 0)) da_nil))))))))
  (dss_one (ds_if (dt_cmp o2_isnot (dv 6) de_none (nomark _)) (dss_one (ds_ret (de_tup (da_cons de_none (da_cons (de_tup (da_cons de_str (da_cons (dv 6) da_nil))) da_nil))))) dss_nil))) dss_nil)))
  (dss_cons (ds_for (passes_of rfl) rfl (di_val (de_fld T.f_must_exits (dv 0))) (gt_nm sc_covering.nd rfl (by first | exact Or.inl rfl | exact Or.inr rfl)) (dss_one (ds_if (dt_cmp (o2_notin hu) (dv 5) (dv 3) (by with_unfolding_all rfl)) (dss_cons (ds_set sc_covering.nd rfl (by first | exact Or.inl rfl | exact Or.inr rfl) (de_frz (dcall H_cover (hr.mono (by decide)) hgd rfl (passes_call (takes_of rfl rfl rfl rfl) fun _ _ _ _ h => h) (da_cons (dv 5) (da_cons (de_fld T.f_entries_of (dv 0)) (da_cons (dv 2) (da_cons (dv 3) (da_cons (de_fld T.f_must_exits (dv 0)) da_nil))))))))
  (dss_one (ds_if (dt_cmp o2_isnot (dv 6) de_none (nomark _)) (dss_one (ds_ret (de_tup (da_cons de_none (da_cons (de_tup (da_cons de_str (da_cons (dv 6) da_nil))) da_nil))))) dss_nil))) dss_nil)))
  (dss_one (ds_ret (de_tup (da_cons (de_fz (dn_sortItems rfl rfl B.sorted_ (dv 2))) (da_cons de_none da_nil)))))))))
/-! ### Graph___init__ -/
abbrev s_Graph___init__ : Stmt := mth 11 0
def b_Graph___init__ : FS := (sSeq (sFldC ["Graph"] (eVar 0) (eVar 1) "exits_of")
  (sSeq (sFldC ["Graph"] (eVar 0) (eVar 2) "entries_of")
  (sSeq (sFldC ["Graph"] (eVar 0) (eVar 3) "must_entries")
  (sFldC ["Graph"] (eVar 0) (eVar 4) "must_exits"))))
def c_Graph___init__ : List D → Mu → Res D := runDef 5 b_Graph___init__
theorem sc_Graph___init__ : FnScope ["self", "exits_of", "entries_of", "must_entries", "must_exits"] ["self", "exits_of", "entries_of", "must_entries", "must_exits"] (defScope s_Graph___init__) := ⟨rfl, rfl, rfl, by decide +kernel, rfl, by decide +kernel, by decide +kernel⟩
theorem ok_Graph___init__ {f : Addr} {fd : FuncData} (F : Fun K "__init__" "Graph.__init__" s_Graph___init__ f fd) (B : Bi K mg) (T : Tx K mg) (hsm : ∃ o, base.get? sysModules = some o)  : FnT P w K mg base 1 f fd ["self", "exits_of", "entries_of", "must_entries", "must_exits"] c_Graph___init__ := by
  refine fn_ok F sc_Graph___init__ fun cdv A outer s H E hr hgd => ?_
  have hu := hr.units
  exact (dss_cons (ds_fld T.f_exits_of (dv 0) (dv 1))
  (dss_cons (ds_fld T.f_entries_of (dv 0) (dv 2))
  (dss_cons (ds_fld T.f_must_entries (dv 0) (dv 3))
  (dss_one (ds_fld T.f_must_exits (dv 0) (dv 4))))))
/-! ### Graph_without_lines -/
abbrev s_Graph_without_lines : Stmt := mth 11 2
def b_Graph_without_lines : FS := (sRet (eFrz (eMk 5 "Graph" c_Graph___init__ (aCons (eFz (nCompK (iVal (eFldC ["Graph"] (eVar 0) "exits_of")) (.nm 3) (eT (eBin gNotIn (eVar 3) (eVar 1))) (eVar 3) (eFz (nComp (iVal (eBin gIx (eFldC ["Graph"] (eVar 0) "exits_of") (eVar 3))) (.nm 4) (eT (eBin gNotIn (eVar 4) (eVar 2))) (eVar 4) [4])) [3])) (aCons (eFz (nCompK (iVal (eFldC ["Graph"] (eVar 0) "entries_of")) (.nm 3) (eT (eBin gNotIn (eVar 3) (eVar 2))) (eVar 3) (eFz (nComp (iVal (eBin gIx (eFldC ["Graph"] (eVar 0) "entries_of") (eVar 3))) (.nm 5) (eT (eBin gNotIn (eVar 5) (eVar 1))) (eVar 5) [5])) [3])) (aCons (eFz (nComp (iVal (eFldC ["Graph"] (eVar 0) "must_entries")) (.nm 3) (eT (eBin gNotIn (eVar 3) (eVar 1))) (eVar 3) [3])) (aCons (eFz (nComp (iVal (eFldC ["Graph"] (eVar 0) "must_exits")) (.nm 3) (eT (eBin gNotIn (eVar 3) (eVar 2))) (eVar 3) [3])) aNil)))))))
def c_Graph_without_lines : List D → Mu → Res D := runDef 6 b_Graph_without_lines
theorem sc_Graph_without_lines : FnScope ["self", "entries", "exits", "one", "x", "e"] ["self", "entries", "exits"] (defScope s_Graph_without_lines) := ⟨rfl, rfl, rfl, by decide +kernel, rfl, by decide +kernel, by decide +kernel⟩
theorem ok_Graph_without_lines {f : Addr} {fd : FuncData} (F : Fun K "without_lines" "Graph.without_lines" s_Graph_without_lines f fd) (B : Bi K mg) (T : Tx K mg) (hsm : ∃ o, base.get? sysModules = some o) (H_Graph___init__ : HasC P w K mg base 1 "Graph" 5 c_Graph___init__) : FnT P w K mg base 3 f fd ["self", "entries", "exits"] c_Graph_without_lines := by
  refine fn_ok F sc_Graph_without_lines fun cdv A outer s H E hr hgd => ?_
  have hu := hr.units
  exact (dss_one (ds_ret (de_frz (dmake H_Graph___init__ (hr.mono (by decide)) hgd rfl (passes_call (takes_of rfl rfl rfl rfl) fun _ _ _ _ h => h) (da_cons (de_fz (dn_dc (own := [("one", 3)]) (by decide) rfl sc_Graph_without_lines.nd (di_val (de_fld T.f_exits_of (dv 0))) (blkOk_by (N := ["self", "entries", "exits", "one", "x", "e"]) (sc := defScope s_Graph_without_lines) (by decide +kernel)) (fun _ _ _ _ _ => (gt_nm sc_Graph_without_lines.nd rfl (by first | exact Or.inl rfl | exact Or.inr rfl))) (fun _ _ _ _ _ => (dts_one (dt_cmp (o2_notin hu) (dv 3) (dv 1) (by with_unfolding_all rfl)))) (fun _ _ _ _ _ => (dv 3)) (fun _ _ _ _ _ => (de_fz (dn_lc (own := [("x", 4)]) (by decide) rfl sc_Graph_without_lines.nd (di_val (de_ix hu (de_fld T.f_exits_of (dv 0)) (dv 3))) (blkOk_by (by kernel_rfl)) (fun _ _ _ _ _ => (gt_nm sc_Graph_without_lines.nd rfl (by first | exact Or.inl rfl | exact Or.inr rfl))) (fun _ _ _ _ _ => (dts_one (dt_cmp (o2_notin hu) (dv 4) (dv 2) (by with_unfolding_all rfl)))) (fun _ _ _ _ _ => (dv 4))))))) (da_cons (de_fz (dn_dc (own := [("one", 3)]) (by decide) rfl sc_Graph_without_lines.nd (di_val (de_fld T.f_entries_of (dv 0))) (blkOk_by (N := ["self", "entries", "exits", "one", "x", "e"]) (sc := defScope s_Graph_without_lines) (by decide +kernel)) (fun _ _ _ _ _ => (gt_nm sc_Graph_without_lines.nd rfl (by first | exact Or.inl rfl | exact Or.inr rfl))) (fun _ _ _ _ _ => (dts_one (dt_cmp (o2_notin hu) (dv 3) (dv 2) (by with_unfolding_all rfl)))) (fun _ _ _ _ _ => (dv 3)) (fun _ _ _ _ _ => (de_fz (dn_lc (own := [("e", 5)]) (by decide) rfl sc_Graph_without_lines.nd (di_val (de_ix hu (de_fld T.f_entries_of (dv 0)) (dv 3))) (blkOk_by (by kernel_rfl)) (fun _ _ _ _ _ => (gt_nm sc_Graph_without_lines.nd rfl (by first | exact Or.inl rfl | exact Or.inr rfl))) (fun _ _ _ _ _ => (dts_one (dt_cmp (o2_notin hu) (dv 5) (dv 1) (by with_unfolding_all rfl)))) (fun _ _ _ _ _ => (dv 5))))))) (da_cons (de_fz (dn_lc (own := [("one", 3)]) (by decide) rfl sc_Graph_without_lines.nd (di_val (de_fld T.f_must_entries (dv 0))) (blkOk_by (N := ["self", "entries", "exits", "one", "x", "e"]) (sc := defScope s_Graph_without_lines) (by decide +kernel)) (fun _ _ _ _ _ => (gt_nm sc_Graph_without_lines.nd rfl (by first | exact Or.inl rfl | exact Or.inr rfl))) (fun _ _ _ _ _ => (dts_one (dt_cmp (o2_notin hu) (dv 3) (dv 1) (by with_unfolding_all rfl)))) (fun _ _ _ _ _ => (dv 3)))) (da_cons (de_fz (dn_lc (own := [("one", 3)]) (by decide) rfl sc_Graph_without_lines.nd (di_val (de_fld T.f_must_exits (dv 0))) (blkOk_by (N := ["self", "entries", "exits", "one", "x", "e"]) (sc := defScope s_Graph_without_lines) (by decide +kernel)) (fun _ _ _ _ _ => (gt_nm sc_Graph_without_lines.nd rfl (by first | exact Or.inl rfl | exact Or.inr rfl))) (fun _ _ _ _ _ => (dts_one (dt_cmp (o2_notin hu) (dv 3) (dv 2) (by with_unfolding_all rfl)))) (fun _ _ _ _ _ => (dv 3)))) da_nil))))))))
/-! ### greedy -/
abbrev s_greedy : Stmt := top 28
def b_greedy_1 : FS := (sSeq (sSub (eVar 4) (eVar 5) (eVar 8))
  sCt)
def b_greedy_2 : FS := (sSeq (sSet 9 (eMeth "dict" gGet (eVar 2) (aCons (eBin gIx (eVar 6) (eVar 7)) aNil)))
  (sSeq (sSub (eVar 2) (eBin gIx (eVar 6) (eVar 7)) (eVar 7))
  (sSeq (sSub (eVar 3) (eVar 7) (eBin gIx (eVar 6) (eVar 7)))
  (sSet 7 (eVar 9)))))
def b_greedy_3 : FS := (sSeq (sAsg (.tp [(.nm 6), (.nm 7), (.nm 8)]) (eCallF 4 c_search [] (aCons (eVar 5) (aCons (eVar 0) (aCons (eVar 3) (aCons (eVar 1) aNil))))))
  (sSeq (sIf (eT (eBin gIs (eVar 7) (eC .none))) b_greedy_1 sNil)
  (sWhile (eT (eBin gIsNot (eVar 7) (eC .none))) b_greedy_2)))
def b_greedy : FS := (sSeq (sSet 2 (eNew (nEmpty)))
  (sSeq (sSet 3 (eNew (nEmpty)))
  (sSeq (sSet 4 (eNew (nEmpty)))
  (sSeq (sFor (iVal (eVar 1)) (.nm 5) b_greedy_3)
  (sRet (eFrz (eVar 4)))))))
def c_greedy : List D → Mu → Res D := runDef 10 b_greedy
theorem sc_greedy : FnScope ["neighbours", "order", "mine", "partner", "shown", "line", "links", "last", "visited", "before"] ["neighbours", "order"] (defScope s_greedy) := ⟨rfl, rfl, rfl, by decide +kernel, rfl, by decide +kernel, by decide +kernel⟩
theorem ok_greedy {f : Addr} {fd : FuncData} (F : Fun K "greedy" "greedy" s_greedy f fd) (B : Bi K mg) (T : Tx K mg) (hsm : ∃ o, base.get? sysModules = some o) (H_search : Has P w K mg base 1 "search" 4 [] c_search) : FnT P w K mg base 2 f fd ["neighbours", "order"] c_greedy := by
  refine fn_ok F sc_greedy fun cdv A outer s H E hr hgd => ?_
  have hu := hr.units
  exact (dss_cons (ds_set sc_greedy.nd rfl (by first | exact Or.inl rfl | exact Or.inr rfl) (de_new (dn_empty)))
  (dss_cons (ds_set sc_greedy.nd rfl (by first | exact Or.inl rfl | exact Or.inr rfl) (de_new (dn_empty)))
  (dss_cons (ds_set sc_greedy.nd rfl (by first | exact Or.inl rfl | exact Or.inr rfl) (de_new (dn_empty)))
  (dss_cons (ds_for (passes_of rfl) rfl (di_val (dv 1)) (gt_nm sc_greedy.nd rfl (by first | exact Or.inl rfl | exact Or.inr rfl)) (dss_cons (ds_asg (dcall H_search (hr.mono (by decide)) hgd rfl (passes_call (takes_of rfl rfl rfl rfl) fun _ _ _ _ h => h) (da_cons (dv 5) (da_cons (dv 0) (da_cons (dv 3) (da_cons (dv 1) da_nil))))) (gt_tp rfl (gts_cons (gt_nm sc_greedy.nd rfl (by first | exact Or.inl rfl | exact Or.inr rfl)) (gts_cons (gt_nm sc_greedy.nd rfl (by first | exact Or.inl rfl | exact Or.inr rfl)) (gts_cons (gt_nm sc_greedy.nd rfl (by first | exact Or.inl rfl | exact Or.inr rfl)) gts_nil)))))
  (dss_cons (ds_if (dt_cmp o2_is (dv 7) de_none (nomark _)) (dss_cons (ds_sub hu (dv 4) (dv 5) (dv 8))
  (dss_one ds_continue)) dss_nil)
  (dss_one (ds_while (passes_of rfl) (dt_cmp o2_isnot (dv 7) de_none (nomark _)) (dss_cons (ds_set sc_greedy.nd rfl (by first | exact Or.inl rfl | exact Or.inr rfl) (de_bm PySem.F.plainAttrs_dict PySem.F.slot_dict_get PySem.F.type_dict_get (mg_get hu) (dv 2) (da_cons (de_ix hu (dv 6) (dv 7)) da_nil)))
  (dss_cons (ds_sub hu (dv 2) (de_ix hu (dv 6) (dv 7)) (dv 7))
  (dss_cons (ds_sub hu (dv 3) (dv 7) (de_ix hu (dv 6) (dv 7)))
  (dss_one (ds_set sc_greedy.nd rfl (by first | exact Or.inl rfl | exact Or.inr rfl) (dv 9)))))))))))
  (dss_one (ds_ret (de_frz (dv 4))))))))
/-! ### Side_shown -/
abbrev s_Side_shown : Stmt := mth 29 2
def b_Side_shown : FS := (sRet (eCallF 2 c_greedy [] (aCons (eFldC ["Side"] (eVar 0) "neighbours") (aCons (eVar 1) aNil))))
def c_Side_shown : List D → Mu → Res D := runDef 2 b_Side_shown
theorem sc_Side_shown : FnScope ["self", "order"] ["self", "order"] (defScope s_Side_shown) := ⟨rfl, rfl, rfl, by decide +kernel, rfl, by decide +kernel, by decide +kernel⟩
theorem ok_Side_shown {f : Addr} {fd : FuncData} (F : Fun K "shown" "Side.shown" s_Side_shown f fd) (B : Bi K mg) (T : Tx K mg) (hsm : ∃ o, base.get? sysModules = some o) (H_greedy : Has P w K mg base 2 "greedy" 2 [] c_greedy) : FnT P w K mg base 3 f fd ["self", "order"] c_Side_shown := by
  refine fn_ok F sc_Side_shown fun cdv A outer s H E hr hgd => ?_
  have hu := hr.units
  exact (dss_one (ds_ret (dcall H_greedy (hr.mono (by decide)) hgd rfl (passes_call (takes_of rfl rfl rfl rfl) fun _ _ _ _ h => h) (da_cons (de_fld T.f_neighbours (dv 0)) (da_cons (dv 1) da_nil)))))
/-! ### Side_ordered -/
abbrev s_Side_ordered : Stmt := mth 29 1
def b_Side_ordered : FS := (sSeq (sSet 2 (eFz (nCall gSortedC (aCons (eFz (nComp (iVal (eFldC ["Side"] (eVar 0) "must")) (.nm 3) tTrue (eTup (aCons (eBin gSub (eC (.int 0)) (eBin gIx (eFldC ["Side"] (eVar 0) "trust_of") (eVar 3))) (aCons (eMeth "dict" gGet (eVar 1) (aCons (eVar 3) (aCons (eC (.int 1)) aNil))) (aCons (eVar 3) aNil)))) [3])) aNil))))
  (sRet (eFz (nComp (iVal (eVar 2)) (.tp [(.nm 4), (.nm 5), (.nm 3)]) tTrue (eVar 3) [4, 5, 3]))))
def c_Side_ordered : List D → Mu → Res D := runDef 6 b_Side_ordered
theorem sc_Side_ordered : FnScope ["self", "place", "keys", "line", "trust", "when"] ["self", "place"] (defScope s_Side_ordered) := ⟨rfl, rfl, rfl, by decide +kernel, rfl, by decide +kernel, by decide +kernel⟩
theorem ok_Side_ordered {f : Addr} {fd : FuncData} (F : Fun K "ordered" "Side.ordered" s_Side_ordered f fd) (B : Bi K mg) (T : Tx K mg) (hsm : ∃ o, base.get? sysModules = some o)  : FnT P w K mg base 1 f fd ["self", "place"] c_Side_ordered := by
  refine fn_ok F sc_Side_ordered fun cdv A outer s H E hr hgd => ?_
  have hu := hr.units
  exact (dss_cons (ds_set sc_Side_ordered.nd rfl (by first | exact Or.inl rfl | exact Or.inr rfl) (de_fz (dn_callB (cal_sortedC rfl) rfl B.sorted_ rfl (da_cons (de_fz (dn_lc (own := [("line", 3)]) (by decide) rfl sc_Side_ordered.nd (di_val (de_fld T.f_must (dv 0))) (blkOk_by (N := ["self", "place", "keys", "line", "trust", "when"]) (sc := defScope s_Side_ordered) (by decide +kernel)) (fun _ _ _ _ _ => (gt_nm sc_Side_ordered.nd rfl (by first | exact Or.inl rfl | exact Or.inr rfl))) (fun _ _ _ _ _ => dts_nil) (fun _ _ _ _ _ => (de_tup (da_cons (de_bin o2_sub de_int (de_ix hu (de_fld T.f_trust_of (dv 0)) (dv 3))) (da_cons (de_bm PySem.F.plainAttrs_dict PySem.F.slot_dict_get PySem.F.type_dict_get (mg_get hu) (dv 1) (da_cons (dv 3) (da_cons de_int da_nil))) (da_cons (dv 3) da_nil))))))) da_nil))))
  (dss_one (ds_ret (de_fz (dn_lc (own := [("trust", 4), ("when", 5), ("line", 3)]) (by decide) rfl sc_Side_ordered.nd (di_val (dv 2)) (blkOk_by (N := ["self", "place", "keys", "line", "trust", "when"]) (sc := defScope s_Side_ordered) (by decide +kernel)) (fun _ _ _ _ _ => (gt_tp rfl (gts_cons (gt_nm sc_Side_ordered.nd rfl (by first | exact Or.inl rfl | exact Or.inr rfl)) (gts_cons (gt_nm sc_Side_ordered.nd rfl (by first | exact Or.inl rfl | exact Or.inr rfl)) (gts_cons (gt_nm sc_Side_ordered.nd rfl (by first | exact Or.inl rfl | exact Or.inr rfl)) gts_nil))))) (fun _ _ _ _ _ => dts_nil) (fun _ _ _ _ _ => (dv 3)))))))
/-! ### best_of -/
abbrev s_best_of : Stmt := top 34
def b_best_of_1 : FS := (sExpr (eMeth "list" gAppend (eVar 3) (aCons (eFz (nCall gSortedC (aCons (eMt 2 "Side" "shown" c_Side_shown (eVar 5) (aCons (eMt 2 "Side" "ordered" c_Side_ordered (eVar 5) (aCons (eVar 6) aNil)) aNil)) aNil))) aNil)))
def b_best_of : FS := (sSeq (sSet 3 (eNew (nLst aNil)))
  (sSeq (sFor (iZipF (aCons (eCallF 2 c_sides_of [] (aCons (eVar 0) (aCons (eVar 1) aNil))) (aCons (eVar 2) aNil))) (.tp [(.nm 5), (.nm 6)]) b_best_of_1)
  (sSeq (sSet 4 (eBin gIx (eCallF 2 c_covering [] (aCons (eMt 3 "Graph" "without_lines" c_Graph_without_lines (eVar 0) (aCons (eBin gIx (eVar 3) (eC (.int 0))) (aCons (eBin gIx (eVar 3) (eC (.int 1))) aNil))) (aCons (eFz (nLst aNil)) aNil))) (eC (.int 0))))
  (sRet (eTup (aCons (eBin gIx (eVar 3) (eC (.int 0))) (aCons (eBin gIx (eVar 3) (eC (.int 1))) (aCons (eVar 4) aNil))))))))
def c_best_of : List D → Mu → Res D := runDef 7 b_best_of
theorem sc_best_of : FnScope ["graph", "trusts", "places", "ignored", "world", "side", "place"] ["graph", "trusts", "places"] (defScope s_best_of) := ⟨rfl, rfl, rfl, by decide +kernel, rfl, by decide +kernel, by decide +kernel⟩
theorem ok_best_of {f : Addr} {fd : FuncData} (F : Fun K "best_of" "best_of" s_best_of f fd) (B : Bi K mg) (T : Tx K mg) (hsm : ∃ o, base.get? sysModules = some o) (H_sides_of : Has P w K mg base 3 "sides_of" 2 [] c_sides_of) (H_Side_shown : HasM P w K mg base 3 "Side" "shown" 2 c_Side_shown) (H_Side_ordered : HasM P w K mg base 1 "Side" "ordered" 2 c_Side_ordered) (H_covering : Has P w K mg base 3 "covering" 2 [] c_covering) (H_Graph_without_lines : HasM P w K mg base 3 "Graph" "without_lines" 3 c_Graph_without_lines) : FnT P w K mg base 4 f fd ["graph", "trusts", "places"] c_best_of := by
  refine fn_ok F sc_best_of fun cdv A outer s H E hr hgd => ?_
  have hu := hr.units
  exact (dss_cons (ds_set sc_best_of.nd rfl (by first | exact Or.inl rfl | exact Or.inr rfl) (de_new (dn_lst da_nil)))
  (dss_cons (ds_for (passes_of rfl) rfl (di_zip rfl B.zip_ (da_cons (dcall H_sides_of (hr.mono (by decide)) hgd rfl (passes_call (takes_of rfl rfl rfl rfl) fun _ _ _ _ h => h) (da_cons (dv 0) (da_cons (dv 1) da_nil))) (da_cons (dv 2) da_nil))) (gt_tp rfl (gts_cons (gt_nm sc_best_of.nd rfl (by first | exact Or.inl rfl | exact Or.inr rfl)) (gts_cons (gt_nm sc_best_of.nd rfl (by first | exact Or.inl rfl | exact Or.inr rfl)) gts_nil))) (dss_one (ds_expr (de_bm PySem.F.plainAttrs_list PySem.F.slot_list_append PySem.F.type_list_append mg_append (dv 3) (da_cons (de_fz (dn_callB (cal_sortedC rfl) rfl B.sorted_ rfl (da_cons (de_mt H_Side_shown (hr.mono (by decide)) hgd (passes_call (takes_of rfl rfl rfl rfl) fun _ _ _ _ h => h) (dv 5) (da_cons (de_mt H_Side_ordered (hr.mono (by decide)) hgd (passes_call (takes_of rfl rfl rfl rfl) fun _ _ _ _ h => h) (dv 5) (da_cons (dv 6) da_nil)) da_nil)) da_nil))) da_nil)))))
  (dss_cons (ds_set sc_best_of.nd rfl (by first | exact Or.inl rfl | exact Or.inr rfl) (de_ix hu (dcall H_covering (hr.mono (by decide)) hgd rfl (passes_call (takes_of rfl rfl rfl rfl) fun _ _ _ _ h => h) (da_cons (de_mt H_Graph_without_lines (hr.mono (by decide)) hgd (passes_call (takes_of rfl rfl rfl rfl) fun _ _ _ _ h => h) (dv 0) (da_cons (de_ix hu (dv 3) de_int) (da_cons (de_ix hu (dv 3) de_int) da_nil))) (da_cons (de_fz (dn_lst da_nil)) da_nil))) de_int))
  (dss_one (ds_ret (de_tup (da_cons (de_ix hu (dv 3) de_int) (da_cons (de_ix hu (dv 3) de_int) (da_cons (dv 4) da_nil)))))))))
/-! ### Side_joined -/
abbrev s_Side_joined : Stmt := mth 29 5
def b_Side_joined_1 : FS := (sIf (eT (eBin gGe (eBin gIx (eFldC ["Side"] (eVar 0) "trust_of") (eVar 4)) (eVar 2))) (sExpr (eMeth "dict" gUpd (eVar 3) (aCons (eFz (nCompK (iVal (eBin gIx (eVar 1) (eVar 4))) (.nm 5) tTrue (eVar 5) (eC (.bool true)) [5])) aNil))) sNil)
def b_Side_joined : FS := (sSeq (sSet 3 (eNew (nEmpty)))
  (sSeq (sFor (iVal (eVar 1)) (.nm 4) b_Side_joined_1)
  (sSeq (sFrz 3) (sRet (eFz (nCall gSortedC (aCons (eVar 3) aNil)))))))
def c_Side_joined : List D → Mu → Res D := runDef 6 b_Side_joined
theorem sc_Side_joined : FnScope ["self", "shown", "threshold", "found", "line", "one"] ["self", "shown", "threshold"] (defScope s_Side_joined) := ⟨rfl, rfl, rfl, by decide +kernel, rfl, by decide +kernel, by decide +kernel⟩
theorem ok_Side_joined {f : Addr} {fd : FuncData} (F : Fun K "joined" "Side.joined" s_Side_joined f fd) (B : Bi K mg) (T : Tx K mg) (hsm : ∃ o, base.get? sysModules = some o)  : FnT P w K mg base 1 f fd ["self", "shown", "threshold"] c_Side_joined := by
  refine fn_ok F sc_Side_joined fun cdv A outer s H E hr hgd => ?_
  have hu := hr.units
  exact (dss_cons (ds_set sc_Side_joined.nd rfl (by first | exact Or.inl rfl | exact Or.inr rfl) (de_new (dn_empty)))
  (dss_cons (ds_for (passes_of rfl) rfl (di_val (dv 1)) (gt_nm sc_Side_joined.nd rfl (by first | exact Or.inl rfl | exact Or.inr rfl)) (dss_one (ds_if (dt_cmp o2_ge (de_ix hu (de_fld T.f_trust_of (dv 0)) (dv 4)) (dv 2) (nomark _)) (dss_one (ds_expr (de_bm PySem.F.plainAttrs_dict PySem.F.slot_dict_update PySem.F.type_dict_update mg_upd (dv 3) (da_cons (de_fz (dn_dc (own := [("one", 5)]) (by decide) rfl sc_Side_joined.nd (di_val (de_ix hu (dv 1) (dv 4))) (blkOk_by (N := ["self", "shown", "threshold", "found", "line", "one"]) (sc := defScope s_Side_joined) (by decide +kernel)) (fun _ _ _ _ _ => (gt_nm sc_Side_joined.nd rfl (by first | exact Or.inl rfl | exact Or.inr rfl))) (fun _ _ _ _ _ => dts_nil) (fun _ _ _ _ _ => (dv 5)) (fun _ _ _ _ _ => de_bool))) da_nil)))) dss_nil)))
  (dss_frz 3 (dss_one (ds_ret (de_fz (dn_callB (cal_sortedC rfl) rfl B.sorted_ rfl (da_cons (dv 3) da_nil))))))))
/-! ### Side_shortages -/
abbrev s_Side_shortages : Stmt := mth 29 6
def b_Side_shortages : FS := (sSeq (sSet 1 (eMt 2 "Side" "shown" c_Side_shown (eVar 0) (aCons (eMt 2 "Side" "ordered" c_Side_ordered (eVar 0) (aCons (eFz (nEmpty)) aNil)) aNil)))
  (sRet (eFz (nComp (iRange2 (aCons (eC (.int 1)) (aCons (eBin gAdd (eC (.int 9)) (eC (.int 1))) aNil))) (.nm 2) tTrue (eMt 3 "Side" "joined" c_Side_joined (eVar 0) (aCons (eVar 1) (aCons (eVar 2) aNil))) [2]))))
def c_Side_shortages : List D → Mu → Res D := runDef 3 b_Side_shortages
theorem sc_Side_shortages : FnScope ["self", "shown", "threshold"] ["self"] (defScope s_Side_shortages) := ⟨rfl, rfl, rfl, by decide +kernel, rfl, by decide +kernel, by decide +kernel⟩
theorem ok_Side_shortages {f : Addr} {fd : FuncData} (F : Fun K "shortages" "Side.shortages" s_Side_shortages f fd) (B : Bi K mg) (T : Tx K mg) (hsm : ∃ o, base.get? sysModules = some o) (H_Side_shown : HasM P w K mg base 3 "Side" "shown" 2 c_Side_shown) (H_Side_ordered : HasM P w K mg base 1 "Side" "ordered" 2 c_Side_ordered) (H_Side_joined : HasM P w K mg base 1 "Side" "joined" 3 c_Side_joined) : FnT P w K mg base 4 f fd ["self"] c_Side_shortages := by
  refine fn_ok F sc_Side_shortages fun cdv A outer s H E hr hgd => ?_
  have hu := hr.units
  exact (dss_cons (ds_set sc_Side_shortages.nd rfl (by first | exact Or.inl rfl | exact Or.inr rfl) (de_mt H_Side_shown (hr.mono (by decide)) hgd (passes_call (takes_of rfl rfl rfl rfl) fun _ _ _ _ h => h) (dv 0) (da_cons (de_mt H_Side_ordered (hr.mono (by decide)) hgd (passes_call (takes_of rfl rfl rfl rfl) fun _ _ _ _ h => h) (dv 0) (da_cons (de_fz (dn_empty)) da_nil)) da_nil)))
  (dss_one (ds_ret (de_fz (dn_lc (own := [("threshold", 2)]) (by decide) rfl sc_Side_shortages.nd (di_range2 rfl B.range_ (da_cons de_int (da_cons (de_bin o2_add (de_gI B.MAX_TRUST_ rfl) de_int) da_nil))) (blkOk_by (N := ["self", "shown", "threshold"]) (sc := defScope s_Side_shortages) (by decide +kernel)) (fun _ _ _ _ _ => (gt_nm sc_Side_shortages.nd rfl (by first | exact Or.inl rfl | exact Or.inr rfl))) (fun _ _ _ _ _ => dts_nil) (fun _ _ _ _ _ => (de_mt H_Side_joined (hr.mono (by decide)) hgd passL (dv 0) (da_cons (dv 1) (da_cons (dv 2) da_nil)))))))))
/-! ### graded_by -/
abbrev s_graded_by : Stmt := top 35
def b_graded_by : FS := (sSeq (sAsgL [(.nm 3), (.nm 4)] (eCallF 2 c_sides_of [] (aCons (eVar 0) (aCons (eVar 1) aNil))))
  (sRet (eBin gAdd (eCallF 3 c_best_of [] (aCons (eVar 0) (aCons (eVar 1) (aCons (eVar 2) aNil)))) (eTup (aCons (eMt 1 "Side" "shortages" c_Side_shortages (eVar 3) aNil) (aCons (eMt 1 "Side" "shortages" c_Side_shortages (eVar 4) aNil) aNil))))))
def c_graded_by : List D → Mu → Res D := runDef 5 b_graded_by
theorem sc_graded_by : FnScope ["graph", "trusts", "places", "entries", "exits"] ["graph", "trusts", "places"] (defScope s_graded_by) := ⟨rfl, rfl, rfl, by decide +kernel, rfl, by decide +kernel, by decide +kernel⟩
theorem ok_graded_by {f : Addr} {fd : FuncData} (F : Fun K "graded_by" "graded_by" s_graded_by f fd) (B : Bi K mg) (T : Tx K mg) (hsm : ∃ o, base.get? sysModules = some o) (H_sides_of : Has P w K mg base 3 "sides_of" 2 [] c_sides_of) (H_best_of : Has P w K mg base 4 "best_of" 3 [] c_best_of) (H_Side_shortages : HasM P w K mg base 4 "Side" "shortages" 1 c_Side_shortages) : FnT P w K mg base 5 f fd ["graph", "trusts", "places"] c_graded_by := by
  refine fn_ok F sc_graded_by fun cdv A outer s H E hr hgd => ?_
  have hu := hr.units
  exact (dss_cons (ds_asgL rfl (dcall H_sides_of (hr.mono (by decide)) hgd rfl (passes_call (takes_of rfl rfl rfl rfl) fun _ _ _ _ h => h) (da_cons (dv 0) (da_cons (dv 1) da_nil))) (gts_cons (gt_nm sc_graded_by.nd rfl (by first | exact Or.inl rfl | exact Or.inr rfl)) (gts_cons (gt_nm sc_graded_by.nd rfl (by first | exact Or.inl rfl | exact Or.inr rfl)) gts_nil)))
  (dss_one (ds_ret (de_bin o2_add (dcall H_best_of (hr.mono (by decide)) hgd rfl (passes_call (takes_of rfl rfl rfl rfl) fun _ _ _ _ h => h) (da_cons (dv 0) (da_cons (dv 1) (da_cons (dv 2) da_nil)))) (de_tup (da_cons (de_mt0 H_Side_shortages (hr.mono (by decide)) hgd (passes_call (takes_of rfl rfl rfl rfl) fun _ _ _ _ h => h) (dv 3)) (da_cons (de_mt0 H_Side_shortages (hr.mono (by decide)) hgd (passes_call (takes_of rfl rfl rfl rfl) fun _ _ _ _ h => h) (dv 4)) da_nil)))))))
/-! ### missing_exit_time -/
abbrev s_missing_exit_time : Stmt := top 6
def b_missing_exit_time : FS := (sSeq (sAsg (.tp [(.nm 5), (.nm 6)]) (eBin gIx (eVar 0) (eVar 3)))
  (sSeq (sIf (tOr (eT (eBin gEq (eBin gIx (eVar 1) (eC (.int 3))) (eC (.str "closed")))) (eT (eBin gNotIn (eBin gIx (eVar 2) (eC (.int 1))) (eTup (aCons (eC .none) (aCons (eVar 3) aNil)))))) (sRet (eC .none)) sNil)
  (sSeq (sSet 4 (eCall gMax2 (aCons (eBin gIx (eVar 1) (eC (.int 3))) (aCons (eBin gAdd (eBin gIx (eVar 2) (eC (.int 0))) (eVar 5)) aNil))))
  (sRet (eIf (eT (eBin gLe (eVar 4) (eCall gMin2 (aCons (eBin gAdd (eBin gIx (eVar 2) (eC (.int 0))) (eVar 6)) (aCons (eC (.int 1000000000)) aNil))))) (eVar 4) (eC .none))))))
def c_missing_exit_time : List D → Mu → Res D := runDef 7 b_missing_exit_time
theorem sc_missing_exit_time : FnScope ["kinds", "log", "line", "name", "earliest", "shortest", "longest"] ["kinds", "log", "line", "name"] (defScope s_missing_exit_time) := ⟨rfl, rfl, rfl, by decide +kernel, rfl, by decide +kernel, by decide +kernel⟩
theorem ok_missing_exit_time {f : Addr} {fd : FuncData} (F : Fun K "missing_exit_time" "missing_exit_time" s_missing_exit_time f fd) (B : Bi K mg) (T : Tx K mg) (hsm : ∃ o, base.get? sysModules = some o)  : FnT P w K mg base 1 f fd ["kinds", "log", "line", "name"] c_missing_exit_time := by
  refine fn_ok F sc_missing_exit_time fun cdv A outer s H E hr hgd => ?_
  have hu := hr.units
  exact (dss_cons (ds_asg (de_ix hu (dv 0) (dv 3)) (gt_tp rfl (gts_cons (gt_nm sc_missing_exit_time.nd rfl (by first | exact Or.inl rfl | exact Or.inr rfl)) (gts_cons (gt_nm sc_missing_exit_time.nd rfl (by first | exact Or.inl rfl | exact Or.inr rfl)) gts_nil))))
  (dss_cons (ds_if (dt_w (dw_or (dt_cmp (o2_eq hu) (de_ix hu (dv 1) de_int) (de_gS B.CLOSED_ rfl) (nomark _)) (dw_or1 (dt_cmp (o2_notin hu) (de_ix hu (dv 2) de_int) (de_tup (da_cons de_none (da_cons (dv 3) da_nil))) (by with_unfolding_all rfl))))) (dss_one (ds_ret de_none)) dss_nil)
  (dss_cons (ds_set sc_missing_exit_time.nd rfl (by first | exact Or.inl rfl | exact Or.inr rfl) (de_callB (cal_max2 rfl) rfl B.max_ rfl (da_cons (de_ix hu (dv 1) de_int) (da_cons (de_bin o2_add (de_ix hu (dv 2) de_int) (dv 5)) da_nil))))
  (dss_one (ds_ret (de_if (dt_cmp o2_le (dv 4) (de_callB (cal_min2 rfl) rfl B.min_ rfl (da_cons (de_bin o2_add (de_ix hu (dv 2) de_int) (dv 6)) (da_cons (de_gI B.MAX_TIME_ rfl) da_nil))) (nomark _)) (dv 4) de_none))))))
/-! ### missing_entry_time -/
abbrev s_missing_entry_time : Stmt := top 7
def b_missing_entry_time : FS := (sSeq (sSet 4 (eBin gSub (eBin gIx (eVar 2) (eC (.int 0))) (eBin gIx (eBin gIx (eVar 0) (eVar 3)) (eC (.int 0)))))
  (sSeq (sIf (tOr (eT (eBin gEq (eBin gIx (eVar 1) (eC (.int 2))) (eC (.str "closed")))) (tOr (eT (eBin gNotIn (eBin gIx (eVar 2) (eC (.int 1))) (eTup (aCons (eC .none) (aCons (eVar 3) aNil))))) (eT (eBin gLt (eVar 4) (eBin gIx (eVar 1) (eC (.int 2))))))) (sRet (eC .none)) sNil)
  (sRet (eVar 4))))
def c_missing_entry_time : List D → Mu → Res D := runDef 5 b_missing_entry_time
theorem sc_missing_entry_time : FnScope ["kinds", "log", "line", "name", "latest"] ["kinds", "log", "line", "name"] (defScope s_missing_entry_time) := ⟨rfl, rfl, rfl, by decide +kernel, rfl, by decide +kernel, by decide +kernel⟩
theorem ok_missing_entry_time {f : Addr} {fd : FuncData} (F : Fun K "missing_entry_time" "missing_entry_time" s_missing_entry_time f fd) (B : Bi K mg) (T : Tx K mg) (hsm : ∃ o, base.get? sysModules = some o)  : FnT P w K mg base 1 f fd ["kinds", "log", "line", "name"] c_missing_entry_time := by
  refine fn_ok F sc_missing_entry_time fun cdv A outer s H E hr hgd => ?_
  have hu := hr.units
  exact (dss_cons (ds_set sc_missing_entry_time.nd rfl (by first | exact Or.inl rfl | exact Or.inr rfl) (de_bin o2_sub (de_ix hu (dv 2) de_int) (de_ix hu (de_ix hu (dv 0) (dv 3)) de_int)))
  (dss_cons (ds_if (dt_w (dw_or (dt_cmp (o2_eq hu) (de_ix hu (dv 1) de_int) (de_gS B.CLOSED_ rfl) (nomark _)) (dw_or (dt_cmp (o2_notin hu) (de_ix hu (dv 2) de_int) (de_tup (da_cons de_none (da_cons (dv 3) da_nil))) (by with_unfolding_all rfl)) (dw_or1 (dt_cmp o2_lt (dv 4) (de_ix hu (dv 1) de_int) (nomark _)))))) (dss_one (ds_ret de_none)) dss_nil)
  (dss_one (ds_ret (dv 4)))))
/-! ### may_be_open -/
abbrev s_may_be_open : Stmt := top 8
def b_may_be_open : FS := (sSeq (sIf (eT (eBin gEq (eVar 2) (eC (.str "entries")))) (sSet 4 (eFz (nComp (iVal (eVar 0)) (.nm 5) tTrue (eCallF 4 c_missing_exit_time [] (aCons (eVar 0) (aCons (eVar 1) (aCons (eBin gIx (eBin gIx (eVar 1) (eC (.int 0))) (eVar 3)) (aCons (eVar 5) aNil))))) [5]))) (sSet 4 (eFz (nComp (iVal (eVar 0)) (.nm 5) tTrue (eCallF 4 c_missing_entry_time [] (aCons (eVar 0) (aCons (eVar 1) (aCons (eBin gIx (eBin gIx (eVar 1) (eC (.int 1))) (eVar 3)) (aCons (eVar 5) aNil))))) [5]))))
  (sRet (eCall gAny (aCons (eFz (nComp (iVal (eVar 4)) (.nm 6) tTrue (eBin gIsNot (eVar 6) (eC .none)) [6])) aNil))))
def c_may_be_open : List D → Mu → Res D := runDef 7 b_may_be_open
theorem sc_may_be_open : FnScope ["kinds", "log", "gate", "number", "times", "name", "time"] ["kinds", "log", "gate", "number"] (defScope s_may_be_open) := ⟨rfl, rfl, rfl, by decide +kernel, rfl, by decide +kernel, by decide +kernel⟩
theorem ok_may_be_open {f : Addr} {fd : FuncData} (F : Fun K "may_be_open" "may_be_open" s_may_be_open f fd) (B : Bi K mg) (T : Tx K mg) (hsm : ∃ o, base.get? sysModules = some o) (H_missing_exit_time : Has P w K mg base 1 "missing_exit_time" 4 [] c_missing_exit_time) (H_missing_entry_time : Has P w K mg base 1 "missing_entry_time" 4 [] c_missing_entry_time) : FnT P w K mg base 2 f fd ["kinds", "log", "gate", "number"] c_may_be_open := by
  refine fn_ok F sc_may_be_open fun cdv A outer s H E hr hgd => ?_
  have hu := hr.units
  exact (dss_cons (ds_if (dt_cmp (o2_eq hu) (dv 2) de_str (nomark _)) (dss_one (lc_set1 (own := [("name", 5)]) (by decide) rfl sc_may_be_open.nd rfl rfl (sw_true rfl rfl rfl (by decide +kernel)) (di_val (dv 0)) (blkOk_by (N := ["kinds", "log", "gate", "number", "times", "name", "time"]) (sc := defScope s_may_be_open) (by decide +kernel)) (fun _ _ _ _ _ => (gt_nm sc_may_be_open.nd rfl (by first | exact Or.inl rfl | exact Or.inr rfl))) (fun _ _ _ _ _ => dts_nil) (fun _ _ _ _ _ => (dcall H_missing_exit_time (hr.mono (by decide)) hgd rfl passL (da_cons (dv 0) (da_cons (dv 1) (da_cons (de_ix hu (de_ix hu (dv 1) de_int) (dv 3)) (da_cons (dv 5) da_nil)))))))) (dss_one (lc_set1 (own := [("name", 5)]) (by decide) rfl sc_may_be_open.nd rfl rfl (sw_true rfl rfl rfl (by decide +kernel)) (di_val (dv 0)) (blkOk_by (N := ["kinds", "log", "gate", "number", "times", "name", "time"]) (sc := defScope s_may_be_open) (by decide +kernel)) (fun _ _ _ _ _ => (gt_nm sc_may_be_open.nd rfl (by first | exact Or.inl rfl | exact Or.inr rfl))) (fun _ _ _ _ _ => dts_nil) (fun _ _ _ _ _ => (dcall H_missing_entry_time (hr.mono (by decide)) hgd rfl passL (da_cons (dv 0) (da_cons (dv 1) (da_cons (de_ix hu (de_ix hu (dv 1) de_int) (dv 3)) (da_cons (dv 5) da_nil)))))))))
  (dss_one (ds_ret (de_callB (cal_any rfl) rfl B.any_ rfl (da_cons (de_fz (dn_lc (own := [("time", 6)]) (by decide) rfl sc_may_be_open.nd (di_val (dv 4)) (blkOk_by (N := ["kinds", "log", "gate", "number", "times", "name", "time"]) (sc := defScope s_may_be_open) (by decide +kernel)) (fun _ _ _ _ _ => (gt_nm sc_may_be_open.nd rfl (by first | exact Or.inl rfl | exact Or.inr rfl))) (fun _ _ _ _ _ => dts_nil) (fun _ _ _ _ _ => (de_cmp o2_isnot (dv 6) de_none (nomark _))))) da_nil)))))
/-! ### must_lines -/
abbrev s_must_lines : Stmt := top 9
def b_must_lines : FS := (sSeq (sSet 3 (eIf (eT (eBin gEq (eVar 2) (eC (.str "entries")))) (eBin gIx (eVar 1) (eC (.int 0))) (eBin gIx (eVar 1) (eC (.int 1)))))
  (sRet (eFz (nComp (iRange1 (aCons (eCall gLen (aCons (eVar 3) aNil)) aNil)) (.nm 4) (tNot (eT (eCallF 4 c_may_be_open [] (aCons (eVar 0) (aCons (eVar 1) (aCons (eVar 2) (aCons (eVar 4) aNil))))))) (eVar 4) [4]))))
def c_must_lines : List D → Mu → Res D := runDef 5 b_must_lines
theorem sc_must_lines : FnScope ["kinds", "log", "gate", "lines", "number"] ["kinds", "log", "gate"] (defScope s_must_lines) := ⟨rfl, rfl, rfl, by decide +kernel, rfl, by decide +kernel, by decide +kernel⟩
theorem ok_must_lines {f : Addr} {fd : FuncData} (F : Fun K "must_lines" "must_lines" s_must_lines f fd) (B : Bi K mg) (T : Tx K mg) (hsm : ∃ o, base.get? sysModules = some o) (H_may_be_open : Has P w K mg base 2 "may_be_open" 4 [] c_may_be_open) : FnT P w K mg base 3 f fd ["kinds", "log", "gate"] c_must_lines := by
  refine fn_ok F sc_must_lines fun cdv A outer s H E hr hgd => ?_
  have hu := hr.units
  exact (dss_cons (ds_set sc_must_lines.nd rfl (by first | exact Or.inl rfl | exact Or.inr rfl) (de_if (dt_cmp (o2_eq hu) (dv 2) de_str (nomark _)) (de_ix hu (dv 1) de_int) (de_ix hu (dv 1) de_int)))
  (dss_one (ds_ret (de_fz (dn_lc (own := [("number", 4)]) (by decide) rfl sc_must_lines.nd (di_range1 rfl B.range_ (da_cons (de_callB cal_len rfl B.len_ rfl (da_cons (dv 3) da_nil)) da_nil)) (blkOk_by (N := ["kinds", "log", "gate", "lines", "number"]) (sc := defScope s_must_lines) (by decide +kernel)) (fun _ _ _ _ _ => (gt_nm sc_must_lines.nd rfl (by first | exact Or.inl rfl | exact Or.inr rfl))) (fun _ _ _ _ _ => (dts_one (dt_not (dt_val (dcall H_may_be_open (hr.mono (by decide)) hgd rfl passL (da_cons (dv 0) (da_cons (dv 1) (da_cons (dv 2) (da_cons (dv 4) da_nil))))))))) (fun _ _ _ _ _ => (dv 4)))))))
/-! ### fits -/
abbrev s_fits : Stmt := top 5
def b_fits_1 : FS := (sIf (tAnd (eT (eBin gIn (eBin gIx (eVar 1) (eC (.int 1))) (eTup (aCons (eC .none) (aCons (eVar 4) aNil))))) (eT (eBin gIn (eBin gIx (eVar 2) (eC (.int 1))) (eTup (aCons (eC .none) (aCons (eVar 4) aNil)))))) (sIf (eT (eChain gLe gLe (eBin gIx (eBin gIx (eVar 0) (eVar 4)) (eC (.int 0))) (eVar 3) (eBin gIx (eBin gIx (eVar 0) (eVar 4)) (eC (.int 1))))) (sRet (eC (.bool true))) sNil) sNil)
def b_fits : FS := (sSeq (sIf (tAnd (eT (eBin gIsNot (eBin gIx (eVar 1) (eC (.int 2))) (eC .none))) (tAnd (eT (eBin gIsNot (eBin gIx (eVar 2) (eC (.int 2))) (eC .none))) (eT (eBin gNe (eBin gIx (eVar 1) (eC (.int 2))) (eBin gIx (eVar 2) (eC (.int 2))))))) (sRet (eC (.bool false))) sNil)
  (sSeq (sSet 3 (eBin gSub (eBin gIx (eVar 2) (eC (.int 0))) (eBin gIx (eVar 1) (eC (.int 0)))))
  (sSeq (sFor (iVal (eVar 0)) (.nm 4) b_fits_1)
  (sRet (eC (.bool false))))))
def c_fits : List D → Mu → Res D := runDef 5 b_fits
theorem sc_fits : FnScope ["kinds", "entry_line", "exit_line", "travel", "name"] ["kinds", "entry_line", "exit_line"] (defScope s_fits) := ⟨rfl, rfl, rfl, by decide +kernel, rfl, by decide +kernel, by decide +kernel⟩
theorem ok_fits {f : Addr} {fd : FuncData} (F : Fun K "fits" "fits" s_fits f fd) (B : Bi K mg) (T : Tx K mg) (hsm : ∃ o, base.get? sysModules = some o)  : FnT P w K mg base 1 f fd ["kinds", "entry_line", "exit_line"] c_fits := by
  refine fn_ok F sc_fits fun cdv A outer s H E hr hgd => ?_
  have hu := hr.units
  exact (dss_cons (ds_if (dt_w (dw_and (dt_cmp o2_isnot (de_ix hu (dv 1) de_int) de_none (nomark _)) (dw_and (dt_cmp o2_isnot (de_ix hu (dv 2) de_int) de_none (nomark _)) (dw_and1 (dt_cmp (o2_ne hu) (de_ix hu (dv 1) de_int) (de_ix hu (dv 2) de_int) (nomark _)))))) (dss_one (ds_ret de_bool)) dss_nil)
  (dss_cons (ds_set sc_fits.nd rfl (by first | exact Or.inl rfl | exact Or.inr rfl) (de_bin o2_sub (de_ix hu (dv 2) de_int) (de_ix hu (dv 1) de_int)))
  (dss_cons (ds_for (passes_of rfl) rfl (di_val (dv 0)) (gt_nm sc_fits.nd rfl (by first | exact Or.inl rfl | exact Or.inr rfl)) (dss_one (ds_if (dt_w (dw_and (dt_cmp (o2_in hu) (de_ix hu (dv 1) de_int) (de_tup (da_cons de_none (da_cons (dv 4) da_nil))) (by with_unfolding_all rfl)) (dw_and1 (dt_cmp (o2_in hu) (de_ix hu (dv 2) de_int) (de_tup (da_cons de_none (da_cons (dv 4) da_nil))) (by with_unfolding_all rfl))))) (dss_one (ds_if (dt_chain o2_le o2_le (de_ix hu (de_ix hu (dv 0) (dv 4)) de_int) (dv 3) (de_ix hu (de_ix hu (dv 0) (dv 4)) de_int)) (dss_one (ds_ret de_bool)) dss_nil)) dss_nil)))
  (dss_one (ds_ret de_bool)))))
/-! ### graph_of -/
abbrev s_graph_of : Stmt := top 12
def b_graph_of_1 : FS := (sSeq (sExpr (eMeth "list" gAppend (eBin gIx (eVar 2) (eVar 4)) (aCons (eVar 6) aNil)))
  (sExpr (eMeth "list" gAppend (eBin gIx (eVar 3) (eVar 6)) (aCons (eVar 4) aNil))))
def b_graph_of_2 : FS := (sIf (eT (eCallF 3 c_fits [] (aCons (eVar 0) (aCons (eVar 5) (aCons (eVar 7) aNil))))) b_graph_of_1 sNil)
def b_graph_of_3 : FS := (sFor (iEnumF (aCons (eBin gIx (eVar 1) (eC (.int 1))) aNil)) (.tp [(.nm 6), (.nm 7)]) b_graph_of_2)
def b_graph_of : FS := (sSeq (sSet 2 (eNew (nCompK (iRange1 (aCons (eCall gLen (aCons (eBin gIx (eVar 1) (eC (.int 0))) aNil)) aNil)) (.nm 4) tTrue (eVar 4) (eNew (nLst aNil)) [4])))
  (sSeq (sSet 3 (eNew (nCompK (iRange1 (aCons (eCall gLen (aCons (eBin gIx (eVar 1) (eC (.int 1))) aNil)) aNil)) (.nm 6) tTrue (eVar 6) (eNew (nLst aNil)) [6])))
  (sSeq (sFor (iEnumF (aCons (eBin gIx (eVar 1) (eC (.int 0))) aNil)) (.tp [(.nm 4), (.nm 5)]) b_graph_of_3)
  (sSeq (sFrzV 3) (sSeq (sFrz 3) (sSeq (sFrzV 2) (sSeq (sFrz 2) (sRet (eFrz (eMk 5 "Graph" c_Graph___init__ (aCons (eVar 2) (aCons (eVar 3) (aCons (eCallF 3 c_must_lines [] (aCons (eVar 0) (aCons (eVar 1) (aCons (eC (.str "entries")) aNil)))) (aCons (eCallF 3 c_must_lines [] (aCons (eVar 0) (aCons (eVar 1) (aCons (eC (.str "exits")) aNil)))) aNil))))))))))))))
def c_graph_of : List D → Mu → Res D := runDef 8 b_graph_of
theorem sc_graph_of : FnScope ["kinds", "log", "exits_of", "entries_of", "entry_number", "line", "exit_number", "other"] ["kinds", "log"] (defScope s_graph_of) := ⟨rfl, rfl, rfl, by decide +kernel, rfl, by decide +kernel, by decide +kernel⟩
theorem ok_graph_of {f : Addr} {fd : FuncData} (F : Fun K "graph_of" "graph_of" s_graph_of f fd) (B : Bi K mg) (T : Tx K mg) (hsm : ∃ o, base.get? sysModules = some o) (H_fits : Has P w K mg base 1 "fits" 3 [] c_fits) (H_Graph___init__ : HasC P w K mg base 1 "Graph" 5 c_Graph___init__) (H_must_lines : Has P w K mg base 3 "must_lines" 3 [] c_must_lines) : FnT P w K mg base 4 f fd ["kinds", "log"] c_graph_of := by
  refine fn_ok F sc_graph_of fun cdv A outer s H E hr hgd => ?_
  have hu := hr.units
  exact (dss_cons (dc_set2 (own := [("entry_number", 4)]) (by decide) rfl sc_graph_of.nd rfl rfl (sw_trueD rfl rfl rfl (by decide +kernel)) (di_range1 rfl B.range_ (da_cons (de_callB cal_len rfl B.len_ rfl (da_cons (de_ix hu (dv 1) de_int) da_nil)) da_nil)) (blkOk_by (N := ["kinds", "log", "exits_of", "entries_of", "entry_number", "line", "exit_number", "other"]) (sc := defScope s_graph_of) (by decide +kernel)) (fun _ _ _ _ _ => (gt_nm sc_graph_of.nd rfl (by first | exact Or.inl rfl | exact Or.inr rfl))) (fun _ _ _ _ _ => dts_nil) (fun _ _ _ _ _ => (dv 4)) (fun _ _ _ _ _ => (de_new (dn_lst da_nil))))
  (dss_cons (dc_set2 (own := [("exit_number", 6)]) (by decide) rfl sc_graph_of.nd rfl rfl (sw_trueD rfl rfl rfl (by decide +kernel)) (di_range1 rfl B.range_ (da_cons (de_callB cal_len rfl B.len_ rfl (da_cons (de_ix hu (dv 1) de_int) da_nil)) da_nil)) (blkOk_by (N := ["kinds", "log", "exits_of", "entries_of", "entry_number", "line", "exit_number", "other"]) (sc := defScope s_graph_of) (by decide +kernel)) (fun _ _ _ _ _ => (gt_nm sc_graph_of.nd rfl (by first | exact Or.inl rfl | exact Or.inr rfl))) (fun _ _ _ _ _ => dts_nil) (fun _ _ _ _ _ => (dv 6)) (fun _ _ _ _ _ => (de_new (dn_lst da_nil))))
  (dss_cons (ds_for (passes_of rfl) rfl (di_enum rfl B.enumerate_ (da_cons (de_ix hu (dv 1) de_int) da_nil)) (gt_tp rfl (gts_cons (gt_nm sc_graph_of.nd rfl (by first | exact Or.inl rfl | exact Or.inr rfl)) (gts_cons (gt_nm sc_graph_of.nd rfl (by first | exact Or.inl rfl | exact Or.inr rfl)) gts_nil))) (dss_one (ds_for (passes_of rfl) rfl (di_enum rfl B.enumerate_ (da_cons (de_ix hu (dv 1) de_int) da_nil)) (gt_tp rfl (gts_cons (gt_nm sc_graph_of.nd rfl (by first | exact Or.inl rfl | exact Or.inr rfl)) (gts_cons (gt_nm sc_graph_of.nd rfl (by first | exact Or.inl rfl | exact Or.inr rfl)) gts_nil))) (dss_one (ds_if (dt_val (dcall H_fits (hr.mono (by decide)) hgd rfl (passes_call (takes_of rfl rfl rfl rfl) fun _ _ _ _ h => h) (da_cons (dv 0) (da_cons (dv 5) (da_cons (dv 7) da_nil))))) (dss_cons (ds_expr (de_bm PySem.F.plainAttrs_list PySem.F.slot_list_append PySem.F.type_list_append mg_append (de_ix hu (dv 2) (dv 4)) (da_cons (dv 6) da_nil)))
  (dss_one (ds_expr (de_bm PySem.F.plainAttrs_list PySem.F.slot_list_append PySem.F.type_list_append mg_append (de_ix hu (dv 3) (dv 6)) (da_cons (dv 4) da_nil))))) dss_nil)))))
  (dss_frzV 3 (dss_frz 3 (dss_frzV 2 (dss_frz 2 (dss_one (ds_ret (de_frz (dmake H_Graph___init__ (hr.mono (by decide)) hgd rfl (passes_call (takes_of rfl rfl rfl rfl) fun _ _ _ _ h => h) (da_cons (dv 2) (da_cons (dv 3) (da_cons (dcall H_must_lines (hr.mono (by decide)) hgd rfl (passes_call (takes_of rfl rfl rfl rfl) fun _ _ _ _ h => h) (da_cons (dv 0) (da_cons (dv 1) (da_cons de_str da_nil)))) (da_cons (dcall H_must_lines (hr.mono (by decide)) hgd rfl (passes_call (takes_of rfl rfl rfl rfl) fun _ _ _ _ h => h) (da_cons (dv 0) (da_cons (dv 1) (da_cons de_str da_nil)))) da_nil)))))))))))))))
/-! ### graded_repair -/
abbrev s_graded_repair : Stmt := top 36
def b_graded_repair : FS := (sRet (eCallF 3 c_graded_by [] (aCons (eCallF 2 c_graph_of [] (aCons (eVar 0) (aCons (eVar 1) aNil))) (aCons (eVar 2) (aCons (eFz (nLst (aCons (eFz (nEmpty)) (aCons (eFz (nEmpty)) aNil)))) aNil)))))
def c_graded_repair : List D → Mu → Res D := runDef 3 b_graded_repair
theorem sc_graded_repair : FnScope ["kinds", "log", "trusts"] ["kinds", "log", "trusts"] (defScope s_graded_repair) := ⟨rfl, rfl, rfl, by decide +kernel, rfl, by decide +kernel, by decide +kernel⟩
theorem ok_graded_repair {f : Addr} {fd : FuncData} (F : Fun K "graded_repair" "graded_repair" s_graded_repair f fd) (B : Bi K mg) (T : Tx K mg) (hsm : ∃ o, base.get? sysModules = some o) (H_graded_by : Has P w K mg base 5 "graded_by" 3 [] c_graded_by) (H_graph_of : Has P w K mg base 4 "graph_of" 2 [] c_graph_of) : FnT P w K mg base 6 f fd ["kinds", "log", "trusts"] c_graded_repair := by
  refine fn_ok F sc_graded_repair fun cdv A outer s H E hr hgd => ?_
  have hu := hr.units
  exact (dss_one (ds_ret (dcall H_graded_by (hr.mono (by decide)) hgd rfl (passes_call (takes_of rfl rfl rfl rfl) fun _ _ _ _ h => h) (da_cons (dcall H_graph_of (hr.mono (by decide)) hgd rfl (passes_call (takes_of rfl rfl rfl rfl) fun _ _ _ _ h => h) (da_cons (dv 0) (da_cons (dv 1) da_nil))) (da_cons (dv 2) (da_cons (de_fz (dn_lst (da_cons (de_fz (dn_empty)) (da_cons (de_fz (dn_empty)) da_nil)))) da_nil))))))
/-! ### is_integer -/
abbrev s_is_integer : Stmt := top 4
def b_is_integer : FS := (sRet (eAnd (eCall gIsi (aCons (eVar 0) (aCons (eC (.ty "int")) aNil))) (eAnd (eNot (eCall gIsi (aCons (eVar 0) (aCons (eC (.ty "bool")) aNil)))) (eChain gLe gLe (eVar 1) (eVar 0) (eVar 2)))))
def c_is_integer : List D → Mu → Res D := runDef 3 b_is_integer
theorem sc_is_integer : FnScope ["value", "low", "high"] ["value", "low", "high"] (defScope s_is_integer) := ⟨rfl, rfl, rfl, by decide +kernel, rfl, by decide +kernel, by decide +kernel⟩
theorem ok_is_integer {f : Addr} {fd : FuncData} (F : Fun K "is_integer" "is_integer" s_is_integer f fd) (B : Bi K mg) (T : Tx K mg) (hsm : ∃ o, base.get? sysModules = some o)  : FnT P w K mg base 1 f fd ["value", "low", "high"] c_is_integer := by
  refine fn_ok F sc_is_integer fun cdv A outer s H E hr hgd => ?_
  have hu := hr.units
  exact (dss_one (ds_ret (de_and (de_callB cal_isi rfl B.isinstance_ rfl (da_cons (dv 0) (da_cons (de_ty rfl B.int_ rfl) da_nil))) (de_and (de_not (de_callB cal_isi rfl B.isinstance_ rfl (da_cons (dv 0) (da_cons (de_ty rfl B.bool_ rfl) da_nil)))) (de_one (de_chain o2_le o2_le (dv 1) (dv 0) (dv 2)))))))
/-! ### is_pair -/
abbrev s_is_pair : Stmt := top 17
def b_is_pair : FS := (sSeq (sIf (tOr (tNot (eT (eCall gIsi (aCons (eVar 0) (aCons (eC (.ty "tuple")) aNil))))) (eT (eBin gNe (eCall gLen (aCons (eVar 0) aNil)) (eC (.int 2))))) (sRet (eC (.bool false))) sNil)
  (sRet (eAnd (eCallF 3 c_is_integer [] (aCons (eBin gIx (eVar 0) (eC (.int 0))) (aCons (eC (.int 0)) (aCons (eBin gSub (eVar 1) (eC (.int 1))) aNil)))) (eCallF 3 c_is_integer [] (aCons (eBin gIx (eVar 0) (eC (.int 1))) (aCons (eC (.int 0)) (aCons (eBin gSub (eVar 2) (eC (.int 1))) aNil)))))))
def c_is_pair : List D → Mu → Res D := runDef 3 b_is_pair
theorem sc_is_pair : FnScope ["value", "entry_count", "exit_count"] ["value", "entry_count", "exit_count"] (defScope s_is_pair) := ⟨rfl, rfl, rfl, by decide +kernel, rfl, by decide +kernel, by decide +kernel⟩
theorem ok_is_pair {f : Addr} {fd : FuncData} (F : Fun K "is_pair" "is_pair" s_is_pair f fd) (B : Bi K mg) (T : Tx K mg) (hsm : ∃ o, base.get? sysModules = some o) (H_is_integer : Has P w K mg base 1 "is_integer" 3 [] c_is_integer) : FnT P w K mg base 2 f fd ["value", "entry_count", "exit_count"] c_is_pair := by
  refine fn_ok F sc_is_pair fun cdv A outer s H E hr hgd => ?_
  have hu := hr.units
  exact (dss_cons (ds_if (dt_w (dw_or (dt_not (dt_val (de_callB cal_isi rfl B.isinstance_ rfl (da_cons (dv 0) (da_cons (de_ty rfl B.tuple_ rfl) da_nil))))) (dw_or1 (dt_cmp (o2_ne hu) (de_callB cal_len rfl B.len_ rfl (da_cons (dv 0) da_nil)) de_int (nomark _))))) (dss_one (ds_ret de_bool)) dss_nil)
  (dss_one (ds_ret (de_and (dcall H_is_integer (hr.mono (by decide)) hgd rfl (passes_call (takes_of rfl rfl rfl rfl) fun _ _ _ _ h => h) (da_cons (de_ix hu (dv 0) de_int) (da_cons de_int (da_cons (de_bin o2_sub (dv 1) de_int) da_nil)))) (de_one (dcall H_is_integer (hr.mono (by decide)) hgd rfl (passes_call (takes_of rfl rfl rfl rfl) fun _ _ _ _ h => h) (da_cons (de_ix hu (dv 0) de_int) (da_cons de_int (da_cons (de_bin o2_sub (dv 2) de_int) da_nil)))))))))
/-! ### is_matching -/
abbrev s_is_matching : Stmt := top 18
def b_is_matching : FS := (sSeq (sIf (tNot (eT (eCall gIsi (aCons (eVar 1) (aCons (eC (.ty "list")) aNil))))) (sRet (eC (.bool false))) sNil)
  (sSeq (sIf (tNot (eT (eCall gAll (aCons (eFz (nComp (iVal (eVar 1)) (.nm 6) tTrue (eCallF 3 c_is_pair [] (aCons (eVar 6) (aCons (eBin gPow (eC (.int 10)) (eC (.int 9))) (aCons (eBin gPow (eC (.int 10)) (eC (.int 9))) aNil)))) [6])) aNil)))) (sRet (eC (.bool false))) sNil)
  (sSeq (sIf (tNot (eT (eCall gAll (aCons (eFz (nComp (iVal (eVar 1)) (.tp [(.nm 4), (.nm 5)]) tTrue (eBin gIn (eVar 5) (eMeth "dict" gGet (eFldC ["Graph"] (eVar 0) "exits_of") (aCons (eVar 4) (aCons (eFz (nLst aNil)) aNil)))) [4, 5])) aNil)))) (sRet (eC (.bool false))) sNil)
  (sSeq (sSet 2 (eFz (nComp (iVal (eVar 1)) (.tp [(.nm 4), (.nm 5)]) tTrue (eVar 4) [4, 5])))
  (sSeq (sSet 3 (eFz (nComp (iVal (eVar 1)) (.tp [(.nm 4), (.nm 5)]) tTrue (eVar 5) [4, 5])))
  (sSeq (sIf (tOr (tNot (eT (eCall gAll (aCons (eFz (nComp (iRange1 (aCons (eBin gSub (eCall gLen (aCons (eVar 2) aNil)) (eC (.int 1))) aNil)) (.nm 7) tTrue (eBin gLt (eBin gIx (eVar 2) (eVar 7)) (eBin gIx (eVar 2) (eBin gAdd (eVar 7) (eC (.int 1))))) [7])) aNil)))) (eT (eBin gNe (eLenSet (eVar 3)) (eCall gLen (aCons (eVar 3) aNil))))) (sRet (eC (.bool false))) sNil)
  (sRet (eAnd (eCall gAll (aCons (eFz (nComp (iVal (eFldC ["Graph"] (eVar 0) "must_entries")) (.nm 6) tTrue (eBin gIn (eVar 6) (eVar 2)) [6])) aNil)) (eCall gAll (aCons (eFz (nComp (iVal (eFldC ["Graph"] (eVar 0) "must_exits")) (.nm 6) tTrue (eBin gIn (eVar 6) (eVar 3)) [6])) aNil))))))))))
def c_is_matching : List D → Mu → Res D := runDef 8 b_is_matching
theorem sc_is_matching : FnScope ["graph", "value", "entries", "exits", "entry_number", "exit_number", "one", "k"] ["graph", "value"] (defScope s_is_matching) := ⟨rfl, rfl, rfl, by decide +kernel, rfl, by decide +kernel, by decide +kernel⟩
theorem ok_is_matching {f : Addr} {fd : FuncData} (F : Fun K "is_matching" "is_matching" s_is_matching f fd) (B : Bi K mg) (T : Tx K mg) (hsm : ∃ o, base.get? sysModules = some o) (H_is_pair : Has P w K mg base 2 "is_pair" 3 [] c_is_pair) : FnT P w K mg base 3 f fd ["graph", "value"] c_is_matching := by
  refine fn_ok F sc_is_matching fun cdv A outer s H E hr hgd => ?_
  have hu := hr.units
  exact (dss_cons (ds_if (dt_not (dt_val (de_callB cal_isi rfl B.isinstance_ rfl (da_cons (dv 1) (da_cons (de_ty rfl B.list_ rfl) da_nil))))) (dss_one (ds_ret de_bool)) dss_nil)
  (dss_cons (ds_if (dt_not (dt_val (de_callB (cal_all rfl) rfl B.all_ rfl (da_cons (de_fz (dn_lc (own := [("one", 6)]) (by decide) rfl sc_is_matching.nd (di_val (dv 1)) (blkOk_by (N := ["graph", "value", "entries", "exits", "entry_number", "exit_number", "one", "k"]) (sc := defScope s_is_matching) (by decide +kernel)) (fun _ _ _ _ _ => (gt_nm sc_is_matching.nd rfl (by first | exact Or.inl rfl | exact Or.inr rfl))) (fun _ _ _ _ _ => dts_nil) (fun _ _ _ _ _ => (dcall H_is_pair (hr.mono (by decide)) hgd rfl passL (da_cons (dv 6) (da_cons (de_bin o2_pow de_int de_int) (da_cons (de_bin o2_pow de_int de_int) da_nil))))))) da_nil)))) (dss_one (ds_ret de_bool)) dss_nil)
  (dss_cons (ds_if (dt_not (dt_val (de_callB (cal_all rfl) rfl B.all_ rfl (da_cons (de_fz (dn_lc (own := [("entry_number", 4), ("exit_number", 5)]) (by decide) rfl sc_is_matching.nd (di_val (dv 1)) (blkOk_by (N := ["graph", "value", "entries", "exits", "entry_number", "exit_number", "one", "k"]) (sc := defScope s_is_matching) (by decide +kernel)) (fun _ _ _ _ _ => (gt_tp rfl (gts_cons (gt_nm sc_is_matching.nd rfl (by first | exact Or.inl rfl | exact Or.inr rfl)) (gts_cons (gt_nm sc_is_matching.nd rfl (by first | exact Or.inl rfl | exact Or.inr rfl)) gts_nil)))) (fun _ _ _ _ _ => dts_nil) (fun _ _ _ _ _ => (de_cmp (o2_in hu) (dv 5) (de_bm PySem.F.plainAttrs_dict PySem.F.slot_dict_get PySem.F.type_dict_get (mg_get hu) (de_fld T.f_exits_of (dv 0)) (da_cons (dv 4) (da_cons (de_fz (dn_lst da_nil)) da_nil))) (by with_unfolding_all rfl))))) da_nil)))) (dss_one (ds_ret de_bool)) dss_nil)
  (dss_cons (ds_set sc_is_matching.nd rfl (by first | exact Or.inl rfl | exact Or.inr rfl) (de_fz (dn_lc (own := [("entry_number", 4), ("exit_number", 5)]) (by decide) rfl sc_is_matching.nd (di_val (dv 1)) (blkOk_by (N := ["graph", "value", "entries", "exits", "entry_number", "exit_number", "one", "k"]) (sc := defScope s_is_matching) (by decide +kernel)) (fun _ _ _ _ _ => (gt_tp rfl (gts_cons (gt_nm sc_is_matching.nd rfl (by first | exact Or.inl rfl | exact Or.inr rfl)) (gts_cons (gt_nm sc_is_matching.nd rfl (by first | exact Or.inl rfl | exact Or.inr rfl)) gts_nil)))) (fun _ _ _ _ _ => dts_nil) (fun _ _ _ _ _ => (dv 4)))))
  (dss_cons (ds_set sc_is_matching.nd rfl (by first | exact Or.inl rfl | exact Or.inr rfl) (de_fz (dn_lc (own := [("entry_number", 4), ("exit_number", 5)]) (by decide) rfl sc_is_matching.nd (di_val (dv 1)) (blkOk_by (N := ["graph", "value", "entries", "exits", "entry_number", "exit_number", "one", "k"]) (sc := defScope s_is_matching) (by decide +kernel)) (fun _ _ _ _ _ => (gt_tp rfl (gts_cons (gt_nm sc_is_matching.nd rfl (by first | exact Or.inl rfl | exact Or.inr rfl)) (gts_cons (gt_nm sc_is_matching.nd rfl (by first | exact Or.inl rfl | exact Or.inr rfl)) gts_nil)))) (fun _ _ _ _ _ => dts_nil) (fun _ _ _ _ _ => (dv 5)))))
  (dss_cons (ds_if (dt_w (dw_or (dt_not (dt_val (de_callB (cal_all rfl) rfl B.all_ rfl (da_cons (de_fz (dn_lc (own := [("k", 7)]) (by decide) rfl sc_is_matching.nd (di_range1 rfl B.range_ (da_cons (de_bin o2_sub (de_callB cal_len rfl B.len_ rfl (da_cons (dv 2) da_nil)) de_int) da_nil)) (blkOk_by (N := ["graph", "value", "entries", "exits", "entry_number", "exit_number", "one", "k"]) (sc := defScope s_is_matching) (by decide +kernel)) (fun _ _ _ _ _ => (gt_nm sc_is_matching.nd rfl (by first | exact Or.inl rfl | exact Or.inr rfl))) (fun _ _ _ _ _ => dts_nil) (fun _ _ _ _ _ => (de_cmp o2_lt (de_ix hu (dv 2) (dv 7)) (de_ix hu (dv 2) (de_bin o2_add (dv 7) de_int)) (nomark _))))) da_nil)))) (dw_or1 (dt_cmp (o2_ne hu) (de_lenSet rfl rfl B.len_ rfl B.set_ (dv 3)) (de_callB cal_len rfl B.len_ rfl (da_cons (dv 3) da_nil)) (nomark _))))) (dss_one (ds_ret de_bool)) dss_nil)
  (dss_one (ds_ret (de_and (de_callB (cal_all rfl) rfl B.all_ rfl (da_cons (de_fz (dn_lc (own := [("one", 6)]) (by decide) rfl sc_is_matching.nd (di_val (de_fld T.f_must_entries (dv 0))) (blkOk_by (N := ["graph", "value", "entries", "exits", "entry_number", "exit_number", "one", "k"]) (sc := defScope s_is_matching) (by decide +kernel)) (fun _ _ _ _ _ => (gt_nm sc_is_matching.nd rfl (by first | exact Or.inl rfl | exact Or.inr rfl))) (fun _ _ _ _ _ => dts_nil) (fun _ _ _ _ _ => (de_cmp (o2_in hu) (dv 6) (dv 2) (by with_unfolding_all rfl))))) da_nil)) (de_one (de_callB (cal_all rfl) rfl B.all_ rfl (da_cons (de_fz (dn_lc (own := [("one", 6)]) (by decide) rfl sc_is_matching.nd (di_val (de_fld T.f_must_exits (dv 0))) (blkOk_by (N := ["graph", "value", "entries", "exits", "entry_number", "exit_number", "one", "k"]) (sc := defScope s_is_matching) (by decide +kernel)) (fun _ _ _ _ _ => (gt_nm sc_is_matching.nd rfl (by first | exact Or.inl rfl | exact Or.inr rfl))) (fun _ _ _ _ _ => dts_nil) (fun _ _ _ _ _ => (de_cmp (o2_in hu) (dv 6) (dv 3) (by with_unfolding_all rfl))))) da_nil))))))))))))
/-! ### Side_counts -/
abbrev s_Side_counts : Stmt := mth 29 3
def b_Side_counts : FS := (sSeq (sSet 2 (eFz (nComp (iVal (eVar 1)) (.nm 3) tTrue (eBin gIx (eFldC ["Side"] (eVar 0) "trust_of") (eVar 3)) [3])))
  (sRet (eFz (nComp (iRange2 (aCons (eC (.int 1)) (aCons (eBin gAdd (eC (.int 9)) (eC (.int 1))) aNil))) (.nm 4) tTrue (eCall gLen (aCons (eFz (nComp (iVal (eVar 2)) (.nm 5) (eT (eBin gGe (eVar 5) (eVar 4))) (eVar 5) [5])) aNil)) [4]))))
def c_Side_counts : List D → Mu → Res D := runDef 6 b_Side_counts
theorem sc_Side_counts : FnScope ["self", "lines", "trusts", "line", "threshold", "one"] ["self", "lines"] (defScope s_Side_counts) := ⟨rfl, rfl, rfl, by decide +kernel, rfl, by decide +kernel, by decide +kernel⟩
theorem ok_Side_counts {f : Addr} {fd : FuncData} (F : Fun K "counts" "Side.counts" s_Side_counts f fd) (B : Bi K mg) (T : Tx K mg) (hsm : ∃ o, base.get? sysModules = some o)  : FnT P w K mg base 1 f fd ["self", "lines"] c_Side_counts := by
  refine fn_ok F sc_Side_counts fun cdv A outer s H E hr hgd => ?_
  have hu := hr.units
  exact (dss_cons (ds_set sc_Side_counts.nd rfl (by first | exact Or.inl rfl | exact Or.inr rfl) (de_fz (dn_lc (own := [("line", 3)]) (by decide) rfl sc_Side_counts.nd (di_val (dv 1)) (blkOk_by (N := ["self", "lines", "trusts", "line", "threshold", "one"]) (sc := defScope s_Side_counts) (by decide +kernel)) (fun _ _ _ _ _ => (gt_nm sc_Side_counts.nd rfl (by first | exact Or.inl rfl | exact Or.inr rfl))) (fun _ _ _ _ _ => dts_nil) (fun _ _ _ _ _ => (de_ix hu (de_fld T.f_trust_of (dv 0)) (dv 3))))))
  (dss_one (ds_ret (de_fz (dn_lc (own := [("threshold", 4)]) (by decide) rfl sc_Side_counts.nd (di_range2 rfl B.range_ (da_cons de_int (da_cons (de_bin o2_add (de_gI B.MAX_TRUST_ rfl) de_int) da_nil))) (blkOk_by (N := ["self", "lines", "trusts", "line", "threshold", "one"]) (sc := defScope s_Side_counts) (by decide +kernel)) (fun _ _ _ _ _ => (gt_nm sc_Side_counts.nd rfl (by first | exact Or.inl rfl | exact Or.inr rfl))) (fun _ _ _ _ _ => dts_nil) (fun _ _ _ _ _ => (de_callB cal_len rfl B.len_ rfl (da_cons (de_fz (dn_lc (own := [("one", 5)]) (by decide) rfl sc_Side_counts.nd (di_val (dv 2)) (blkOk_by (by kernel_rfl)) (fun _ _ _ _ _ => (gt_nm sc_Side_counts.nd rfl (by first | exact Or.inl rfl | exact Or.inr rfl))) (fun _ _ _ _ _ => (dts_one (dt_cmp o2_ge (dv 5) (dv 4) (nomark _)))) (fun _ _ _ _ _ => (dv 5)))) da_nil))))))))
/-! ### Side_is_shortage -/
abbrev s_Side_is_shortage : Stmt := mth 29 8
def b_Side_is_shortage : FS := (sRet (eCall gAll (aCons (eFz (nComp (iVal (eVar 1)) (.nm 3) tTrue (eAnd (eBin gIn (eVar 3) (eFldC ["Side"] (eVar 0) "must")) (eBin gGe (eBin gIx (eFldC ["Side"] (eVar 0) "trust_of") (eVar 3)) (eVar 2))) [3])) aNil)))
def c_Side_is_shortage : List D → Mu → Res D := runDef 4 b_Side_is_shortage
theorem sc_Side_is_shortage : FnScope ["self", "value", "threshold", "line"] ["self", "value", "threshold"] (defScope s_Side_is_shortage) := ⟨rfl, rfl, rfl, by decide +kernel, rfl, by decide +kernel, by decide +kernel⟩
theorem ok_Side_is_shortage {f : Addr} {fd : FuncData} (F : Fun K "is_shortage" "Side.is_shortage" s_Side_is_shortage f fd) (B : Bi K mg) (T : Tx K mg) (hsm : ∃ o, base.get? sysModules = some o)  : FnT P w K mg base 1 f fd ["self", "value", "threshold"] c_Side_is_shortage := by
  refine fn_ok F sc_Side_is_shortage fun cdv A outer s H E hr hgd => ?_
  have hu := hr.units
  exact (dss_one (ds_ret (de_callB (cal_all rfl) rfl B.all_ rfl (da_cons (de_fz (dn_lc (own := [("line", 3)]) (by decide) rfl sc_Side_is_shortage.nd (di_val (dv 1)) (blkOk_by (N := ["self", "value", "threshold", "line"]) (sc := defScope s_Side_is_shortage) (by decide +kernel)) (fun _ _ _ _ _ => (gt_nm sc_Side_is_shortage.nd rfl (by first | exact Or.inl rfl | exact Or.inr rfl))) (fun _ _ _ _ _ => dts_nil) (fun _ _ _ _ _ => (de_and (de_cmp (o2_in hu) (dv 3) (de_fld T.f_must (dv 0)) (by with_unfolding_all rfl)) (de_one (de_cmp o2_ge (de_ix hu (de_fld T.f_trust_of (dv 0)) (dv 3)) (dv 2) (nomark _))))))) da_nil))))
/-! ### reached -/
abbrev s_reached : Stmt := top 20
def b_reached_1 : FS := (sExpr (eMeth "dict" gUpd (eVar 2) (aCons (eFz (nCompK (iVal (eBin gIx (eVar 0) (eVar 3))) (.nm 4) tTrue (eVar 4) (eC (.bool true)) [4])) aNil)))
def b_reached : FS := (sSeq (sSet 2 (eNew (nEmpty)))
  (sSeq (sFor (iVal (eVar 1)) (.nm 3) b_reached_1)
  (sRet (eFrz (eVar 2)))))
def c_reached : List D → Mu → Res D := runDef 5 b_reached
theorem sc_reached : FnScope ["neighbours", "numbers", "found", "number", "one"] ["neighbours", "numbers"] (defScope s_reached) := ⟨rfl, rfl, rfl, by decide +kernel, rfl, by decide +kernel, by decide +kernel⟩
theorem ok_reached {f : Addr} {fd : FuncData} (F : Fun K "reached" "reached" s_reached f fd) (B : Bi K mg) (T : Tx K mg) (hsm : ∃ o, base.get? sysModules = some o)  : FnT P w K mg base 1 f fd ["neighbours", "numbers"] c_reached := by
  refine fn_ok F sc_reached fun cdv A outer s H E hr hgd => ?_
  have hu := hr.units
  exact (dss_cons (ds_set sc_reached.nd rfl (by first | exact Or.inl rfl | exact Or.inr rfl) (de_new (dn_empty)))
  (dss_cons (ds_for (passes_of rfl) rfl (di_val (dv 1)) (gt_nm sc_reached.nd rfl (by first | exact Or.inl rfl | exact Or.inr rfl)) (dss_one (ds_expr (de_bm PySem.F.plainAttrs_dict PySem.F.slot_dict_update PySem.F.type_dict_update mg_upd (dv 2) (da_cons (de_fz (dn_dc (own := [("one", 4)]) (by decide) rfl sc_reached.nd (di_val (de_ix hu (dv 0) (dv 3))) (blkOk_by (N := ["neighbours", "numbers", "found", "number", "one"]) (sc := defScope s_reached) (by decide +kernel)) (fun _ _ _ _ _ => (gt_nm sc_reached.nd rfl (by first | exact Or.inl rfl | exact Or.inr rfl))) (fun _ _ _ _ _ => dts_nil) (fun _ _ _ _ _ => (dv 4)) (fun _ _ _ _ _ => de_bool))) da_nil)))))
  (dss_one (ds_ret (de_frz (dv 2))))))
/-! ### surplus -/
abbrev s_surplus : Stmt := top 22
def b_surplus : FS := (sRet (eBin gSub (eCall gLen (aCons (eVar 1) aNil)) (eCall gLen (aCons (eCallF 2 c_reached [] (aCons (eVar 0) (aCons (eVar 1) aNil))) aNil))))
def c_surplus : List D → Mu → Res D := runDef 2 b_surplus
theorem sc_surplus : FnScope ["neighbours", "numbers"] ["neighbours", "numbers"] (defScope s_surplus) := ⟨rfl, rfl, rfl, by decide +kernel, rfl, by decide +kernel, by decide +kernel⟩
theorem ok_surplus {f : Addr} {fd : FuncData} (F : Fun K "surplus" "surplus" s_surplus f fd) (B : Bi K mg) (T : Tx K mg) (hsm : ∃ o, base.get? sysModules = some o) (H_reached : Has P w K mg base 1 "reached" 2 [] c_reached) : FnT P w K mg base 2 f fd ["neighbours", "numbers"] c_surplus := by
  refine fn_ok F sc_surplus fun cdv A outer s H E hr hgd => ?_
  have hu := hr.units
  exact (dss_one (ds_ret (de_bin o2_sub (de_callB cal_len rfl B.len_ rfl (da_cons (dv 1) da_nil)) (de_callB cal_len rfl B.len_ rfl (da_cons (dcall H_reached (hr.mono (by decide)) hgd rfl (passes_call (takes_of rfl rfl rfl rfl) fun _ _ _ _ h => h) (da_cons (dv 0) (da_cons (dv 1) da_nil))) da_nil)))))
/-! ### Side_size -/
abbrev s_Side_size : Stmt := mth 29 7
def b_Side_size : FS := (sRet (eCallF 2 c_surplus [] (aCons (eFldC ["Side"] (eVar 0) "neighbours") (aCons (eVar 1) aNil))))
def c_Side_size : List D → Mu → Res D := runDef 2 b_Side_size
theorem sc_Side_size : FnScope ["self", "numbers"] ["self", "numbers"] (defScope s_Side_size) := ⟨rfl, rfl, rfl, by decide +kernel, rfl, by decide +kernel, by decide +kernel⟩
theorem ok_Side_size {f : Addr} {fd : FuncData} (F : Fun K "size" "Side.size" s_Side_size f fd) (B : Bi K mg) (T : Tx K mg) (hsm : ∃ o, base.get? sysModules = some o) (H_surplus : Has P w K mg base 2 "surplus" 2 [] c_surplus) : FnT P w K mg base 3 f fd ["self", "numbers"] c_Side_size := by
  refine fn_ok F sc_Side_size fun cdv A outer s H E hr hgd => ?_
  have hu := hr.units
  exact (dss_one (ds_ret (dcall H_surplus (hr.mono (by decide)) hgd rfl (passes_call (takes_of rfl rfl rfl rfl) fun _ _ _ _ h => h) (da_cons (de_fld T.f_neighbours (dv 0)) (da_cons (dv 1) da_nil)))))
/-! ### are_numbers -/
abbrev s_are_numbers : Stmt := top 19
def b_are_numbers : FS := (sSeq (sIf (tOr (tNot (eT (eCall gIsi (aCons (eVar 0) (aCons (eC (.ty "list")) aNil))))) (tNot (eT (eCall gAll (aCons (eFz (nComp (iVal (eVar 0)) (.nm 2) tTrue (eCallF 3 c_is_integer [] (aCons (eVar 2) (aCons (eC (.int 0)) (aCons (eBin gPow (eC (.int 10)) (eC (.int 9))) aNil)))) [2])) aNil))))) (sRet (eC (.bool false))) sNil)
  (sRet (eCall gAll (aCons (eFz (nComp (iRange1 (aCons (eBin gSub (eCall gLen (aCons (eVar 0) aNil)) (eC (.int 1))) aNil)) (.nm 1) tTrue (eBin gLt (eBin gIx (eVar 0) (eVar 1)) (eBin gIx (eVar 0) (eBin gAdd (eVar 1) (eC (.int 1))))) [1])) aNil))))
def c_are_numbers : List D → Mu → Res D := runDef 3 b_are_numbers
theorem sc_are_numbers : FnScope ["value", "k", "one"] ["value"] (defScope s_are_numbers) := ⟨rfl, rfl, rfl, by decide +kernel, rfl, by decide +kernel, by decide +kernel⟩
theorem ok_are_numbers {f : Addr} {fd : FuncData} (F : Fun K "are_numbers" "are_numbers" s_are_numbers f fd) (B : Bi K mg) (T : Tx K mg) (hsm : ∃ o, base.get? sysModules = some o) (H_is_integer : Has P w K mg base 1 "is_integer" 3 [] c_is_integer) : FnT P w K mg base 2 f fd ["value"] c_are_numbers := by
  refine fn_ok F sc_are_numbers fun cdv A outer s H E hr hgd => ?_
  have hu := hr.units
  exact (dss_cons (ds_if (dt_w (dw_or (dt_not (dt_val (de_callB cal_isi rfl B.isinstance_ rfl (da_cons (dv 0) (da_cons (de_ty rfl B.list_ rfl) da_nil))))) (dw_or1 (dt_not (dt_val (de_callB (cal_all rfl) rfl B.all_ rfl (da_cons (de_fz (dn_lc (own := [("one", 2)]) (by decide) rfl sc_are_numbers.nd (di_val (dv 0)) (blkOk_by (N := ["value", "k", "one"]) (sc := defScope s_are_numbers) (by decide +kernel)) (fun _ _ _ _ _ => (gt_nm sc_are_numbers.nd rfl (by first | exact Or.inl rfl | exact Or.inr rfl))) (fun _ _ _ _ _ => dts_nil) (fun _ _ _ _ _ => (dcall H_is_integer (hr.mono (by decide)) hgd rfl passL (da_cons (dv 2) (da_cons de_int (da_cons (de_bin o2_pow de_int de_int) da_nil))))))) da_nil))))))) (dss_one (ds_ret de_bool)) dss_nil)
  (dss_one (ds_ret (de_callB (cal_all rfl) rfl B.all_ rfl (da_cons (de_fz (dn_lc (own := [("k", 1)]) (by decide) rfl sc_are_numbers.nd (di_range1 rfl B.range_ (da_cons (de_bin o2_sub (de_callB cal_len rfl B.len_ rfl (da_cons (dv 0) da_nil)) de_int) da_nil)) (blkOk_by (N := ["value", "k", "one"]) (sc := defScope s_are_numbers) (by decide +kernel)) (fun _ _ _ _ _ => (gt_nm sc_are_numbers.nd rfl (by first | exact Or.inl rfl | exact Or.inr rfl))) (fun _ _ _ _ _ => dts_nil) (fun _ _ _ _ _ => (de_cmp o2_lt (de_ix hu (dv 0) (dv 1)) (de_ix hu (dv 0) (de_bin o2_add (dv 1) de_int)) (nomark _))))) da_nil)))))
/-! ### are_shortages -/
abbrev s_are_shortages : Stmt := top 37
def b_are_shortages_1 : FS := (sIf (tOr (tNot (eT (eMt 3 "Side" "is_shortage" c_Side_is_shortage (eVar 0) (aCons (eVar 5) (aCons (eVar 4) aNil))))) (eT (eBin gNe (eMt 2 "Side" "size" c_Side_size (eVar 0) (aCons (eVar 5) aNil)) (eBin gIx (eVar 3) (eBin gSub (eVar 4) (eC (.int 1))))))) (sRet (eC (.bool false))) sNil)
def b_are_shortages : FS := (sSeq (sIf (tOr (tNot (eT (eCall gIsi (aCons (eVar 2) (aCons (eC (.ty "list")) aNil))))) (tOr (eT (eBin gNe (eCall gLen (aCons (eVar 2) aNil)) (eC (.int 9)))) (tNot (eT (eCall gAll (aCons (eFz (nComp (iVal (eVar 2)) (.nm 6) tTrue (eCallF 1 c_are_numbers [] (aCons (eVar 6) aNil)) [6])) aNil)))))) (sRet (eC (.bool false))) sNil)
  (sSeq (sSet 3 (eMt 2 "Side" "counts" c_Side_counts (eVar 0) (aCons (eVar 1) aNil)))
  (sSeq (sFor (iEnumC (aCons (eVar 2) (aCons (eC (.int 1)) aNil))) (.tp [(.nm 4), (.nm 5)]) b_are_shortages_1)
  (sRet (eC (.bool true))))))
def c_are_shortages : List D → Mu → Res D := runDef 7 b_are_shortages
theorem sc_are_shortages : FnScope ["side", "ignored", "value", "counts", "threshold", "numbers", "one"] ["side", "ignored", "value"] (defScope s_are_shortages) := ⟨rfl, rfl, rfl, by decide +kernel, rfl, by decide +kernel, by decide +kernel⟩
theorem ok_are_shortages {f : Addr} {fd : FuncData} (F : Fun K "are_shortages" "are_shortages" s_are_shortages f fd) (B : Bi K mg) (T : Tx K mg) (hsm : ∃ o, base.get? sysModules = some o) (H_are_numbers : Has P w K mg base 2 "are_numbers" 1 [] c_are_numbers) (H_Side_counts : HasM P w K mg base 1 "Side" "counts" 2 c_Side_counts) (H_Side_is_shortage : HasM P w K mg base 1 "Side" "is_shortage" 3 c_Side_is_shortage) (H_Side_size : HasM P w K mg base 3 "Side" "size" 2 c_Side_size) : FnT P w K mg base 4 f fd ["side", "ignored", "value"] c_are_shortages := by
  refine fn_ok F sc_are_shortages fun cdv A outer s H E hr hgd => ?_
  have hu := hr.units
  exact (dss_cons (ds_if (dt_w (dw_or (dt_not (dt_val (de_callB cal_isi rfl B.isinstance_ rfl (da_cons (dv 2) (da_cons (de_ty rfl B.list_ rfl) da_nil))))) (dw_or (dt_cmp (o2_ne hu) (de_callB cal_len rfl B.len_ rfl (da_cons (dv 2) da_nil)) (de_gI B.MAX_TRUST_ rfl) (nomark _)) (dw_or1 (dt_not (dt_val (de_callB (cal_all rfl) rfl B.all_ rfl (da_cons (de_fz (dn_lc (own := [("one", 6)]) (by decide) rfl sc_are_shortages.nd (di_val (dv 2)) (blkOk_by (N := ["side", "ignored", "value", "counts", "threshold", "numbers", "one"]) (sc := defScope s_are_shortages) (by decide +kernel)) (fun _ _ _ _ _ => (gt_nm sc_are_shortages.nd rfl (by first | exact Or.inl rfl | exact Or.inr rfl))) (fun _ _ _ _ _ => dts_nil) (fun _ _ _ _ _ => (dcall H_are_numbers (hr.mono (by decide)) hgd rfl passL (da_cons (dv 6) da_nil))))) da_nil)))))))) (dss_one (ds_ret de_bool)) dss_nil)
  (dss_cons (ds_set sc_are_shortages.nd rfl (by first | exact Or.inl rfl | exact Or.inr rfl) (de_mt H_Side_counts (hr.mono (by decide)) hgd (passes_call (takes_of rfl rfl rfl rfl) fun _ _ _ _ h => h) (dv 0) (da_cons (dv 1) da_nil)))
  (dss_cons (ds_for (passes_of rfl) rfl (di_enumF rfl B.enumerate_ (da_cons (dv 2) (da_cons de_int da_nil))) (gt_tp rfl (gts_cons (gt_nm sc_are_shortages.nd rfl (by first | exact Or.inl rfl | exact Or.inr rfl)) (gts_cons (gt_nm sc_are_shortages.nd rfl (by first | exact Or.inl rfl | exact Or.inr rfl)) gts_nil))) (dss_one (ds_if (dt_w (dw_or (dt_not (dt_val (de_mt H_Side_is_shortage (hr.mono (by decide)) hgd (passes_call (takes_of rfl rfl rfl rfl) fun _ _ _ _ h => h) (dv 0) (da_cons (dv 5) (da_cons (dv 4) da_nil))))) (dw_or1 (dt_cmp (o2_ne hu) (de_mt H_Side_size (hr.mono (by decide)) hgd (passes_call (takes_of rfl rfl rfl rfl) fun _ _ _ _ h => h) (dv 0) (da_cons (dv 5) da_nil)) (de_ix hu (dv 3) (de_bin o2_sub (dv 4) de_int)) (nomark _))))) (dss_one (ds_ret de_bool)) dss_nil)))
  (dss_one (ds_ret de_bool)))))
/-! ### is_graded -/
abbrev s_is_graded : Stmt := top 38
def b_is_graded : FS := (sSeq (sIf (tOr (tNot (eT (eCall gIsi (aCons (eVar 2) (aCons (eC (.ty "tuple")) aNil))))) (tOr (eT (eBin gNe (eCall gLen (aCons (eVar 2) aNil)) (eC (.int 5)))) (tOr (tNot (eT (eCallF 1 c_are_numbers [] (aCons (eBin gIx (eVar 2) (eC (.int 0))) aNil)))) (tNot (eT (eCallF 1 c_are_numbers [] (aCons (eBin gIx (eVar 2) (eC (.int 1))) aNil))))))) (sRet (eC (.bool false))) sNil)
  (sSeq (sAsgL [(.nm 3), (.nm 4)] (eCallF 2 c_sides_of [] (aCons (eVar 0) (aCons (eVar 1) aNil))))
  (sSeq (sIf (tOr (tNot (eT (eCall gAll (aCons (eFz (nComp (iVal (eBin gIx (eVar 2) (eC (.int 0)))) (.nm 5) tTrue (eBin gIn (eVar 5) (eFldC ["Side"] (eVar 3) "must")) [5])) aNil)))) (tNot (eT (eCall gAll (aCons (eFz (nComp (iVal (eBin gIx (eVar 2) (eC (.int 1)))) (.nm 5) tTrue (eBin gIn (eVar 5) (eFldC ["Side"] (eVar 4) "must")) [5])) aNil))))) (sRet (eC (.bool false))) sNil)
  (sSeq (sIf (tNot (eT (eCallF 2 c_is_matching [] (aCons (eMt 3 "Graph" "without_lines" c_Graph_without_lines (eVar 0) (aCons (eBin gIx (eVar 2) (eC (.int 0))) (aCons (eBin gIx (eVar 2) (eC (.int 1))) aNil))) (aCons (eBin gIx (eVar 2) (eC (.int 2))) aNil))))) (sRet (eC (.bool false))) sNil)
  (sRet (eAnd (eCallF 3 c_are_shortages [] (aCons (eVar 3) (aCons (eBin gIx (eVar 2) (eC (.int 0))) (aCons (eBin gIx (eVar 2) (eC (.int 3))) aNil)))) (eCallF 3 c_are_shortages [] (aCons (eVar 4) (aCons (eBin gIx (eVar 2) (eC (.int 1))) (aCons (eBin gIx (eVar 2) (eC (.int 4))) aNil))))))))))
def c_is_graded : List D → Mu → Res D := runDef 6 b_is_graded
theorem sc_is_graded : FnScope ["graph", "trusts", "value", "entries", "exits", "line"] ["graph", "trusts", "value"] (defScope s_is_graded) := ⟨rfl, rfl, rfl, by decide +kernel, rfl, by decide +kernel, by decide +kernel⟩
theorem ok_is_graded {f : Addr} {fd : FuncData} (F : Fun K "is_graded" "is_graded" s_is_graded f fd) (B : Bi K mg) (T : Tx K mg) (hsm : ∃ o, base.get? sysModules = some o) (H_are_numbers : Has P w K mg base 2 "are_numbers" 1 [] c_are_numbers) (H_sides_of : Has P w K mg base 3 "sides_of" 2 [] c_sides_of) (H_is_matching : Has P w K mg base 3 "is_matching" 2 [] c_is_matching) (H_Graph_without_lines : HasM P w K mg base 3 "Graph" "without_lines" 3 c_Graph_without_lines) (H_are_shortages : Has P w K mg base 4 "are_shortages" 3 [] c_are_shortages) : FnT P w K mg base 5 f fd ["graph", "trusts", "value"] c_is_graded := by
  refine fn_ok F sc_is_graded fun cdv A outer s H E hr hgd => ?_
  have hu := hr.units
  exact (dss_cons (ds_if (dt_w (dw_or (dt_not (dt_val (de_callB cal_isi rfl B.isinstance_ rfl (da_cons (dv 2) (da_cons (de_ty rfl B.tuple_ rfl) da_nil))))) (dw_or (dt_cmp (o2_ne hu) (de_callB cal_len rfl B.len_ rfl (da_cons (dv 2) da_nil)) de_int (nomark _)) (dw_or (dt_not (dt_val (dcall H_are_numbers (hr.mono (by decide)) hgd rfl (passes_call (takes_of rfl rfl rfl rfl) fun _ _ _ _ h => h) (da_cons (de_ix hu (dv 2) de_int) da_nil)))) (dw_or1 (dt_not (dt_val (dcall H_are_numbers (hr.mono (by decide)) hgd rfl (passes_call (takes_of rfl rfl rfl rfl) fun _ _ _ _ h => h) (da_cons (de_ix hu (dv 2) de_int) da_nil))))))))) (dss_one (ds_ret de_bool)) dss_nil)
  (dss_cons (ds_asgL rfl (dcall H_sides_of (hr.mono (by decide)) hgd rfl (passes_call (takes_of rfl rfl rfl rfl) fun _ _ _ _ h => h) (da_cons (dv 0) (da_cons (dv 1) da_nil))) (gts_cons (gt_nm sc_is_graded.nd rfl (by first | exact Or.inl rfl | exact Or.inr rfl)) (gts_cons (gt_nm sc_is_graded.nd rfl (by first | exact Or.inl rfl | exact Or.inr rfl)) gts_nil)))
  (dss_cons (ds_if (dt_w (dw_or (dt_not (dt_val (de_callB (cal_all rfl) rfl B.all_ rfl (da_cons (de_fz (dn_lc (own := [("line", 5)]) (by decide) rfl sc_is_graded.nd (di_val (de_ix hu (dv 2) de_int)) (blkOk_by (N := ["graph", "trusts", "value", "entries", "exits", "line"]) (sc := defScope s_is_graded) (by decide +kernel)) (fun _ _ _ _ _ => (gt_nm sc_is_graded.nd rfl (by first | exact Or.inl rfl | exact Or.inr rfl))) (fun _ _ _ _ _ => dts_nil) (fun _ _ _ _ _ => (de_cmp (o2_in hu) (dv 5) (de_fld T.f_must (dv 3)) (by with_unfolding_all rfl))))) da_nil)))) (dw_or1 (dt_not (dt_val (de_callB (cal_all rfl) rfl B.all_ rfl (da_cons (de_fz (dn_lc (own := [("line", 5)]) (by decide) rfl sc_is_graded.nd (di_val (de_ix hu (dv 2) de_int)) (blkOk_by (N := ["graph", "trusts", "value", "entries", "exits", "line"]) (sc := defScope s_is_graded) (by decide +kernel)) (fun _ _ _ _ _ => (gt_nm sc_is_graded.nd rfl (by first | exact Or.inl rfl | exact Or.inr rfl))) (fun _ _ _ _ _ => dts_nil) (fun _ _ _ _ _ => (de_cmp (o2_in hu) (dv 5) (de_fld T.f_must (dv 4)) (by with_unfolding_all rfl))))) da_nil))))))) (dss_one (ds_ret de_bool)) dss_nil)
  (dss_cons (ds_if (dt_not (dt_val (dcall H_is_matching (hr.mono (by decide)) hgd rfl (passes_call (takes_of rfl rfl rfl rfl) fun _ _ _ _ h => h) (da_cons (de_mt H_Graph_without_lines (hr.mono (by decide)) hgd (passes_call (takes_of rfl rfl rfl rfl) fun _ _ _ _ h => h) (dv 0) (da_cons (de_ix hu (dv 2) de_int) (da_cons (de_ix hu (dv 2) de_int) da_nil))) (da_cons (de_ix hu (dv 2) de_int) da_nil))))) (dss_one (ds_ret de_bool)) dss_nil)
  (dss_one (ds_ret (de_and (dcall H_are_shortages (hr.mono (by decide)) hgd rfl (passes_call (takes_of rfl rfl rfl rfl) fun _ _ _ _ h => h) (da_cons (dv 3) (da_cons (de_ix hu (dv 2) de_int) (da_cons (de_ix hu (dv 2) de_int) da_nil)))) (de_one (dcall H_are_shortages (hr.mono (by decide)) hgd rfl (passes_call (takes_of rfl rfl rfl rfl) fun _ _ _ _ h => h) (da_cons (dv 4) (da_cons (de_ix hu (dv 2) de_int) (da_cons (de_ix hu (dv 2) de_int) da_nil))))))))))))
/-! ### is_graded_repair -/
abbrev s_is_graded_repair : Stmt := top 39
def b_is_graded_repair : FS := (sRet (eCallF 3 c_is_graded [] (aCons (eCallF 2 c_graph_of [] (aCons (eVar 0) (aCons (eVar 1) aNil))) (aCons (eVar 2) (aCons (eVar 3) aNil)))))
def c_is_graded_repair : List D → Mu → Res D := runDef 4 b_is_graded_repair
theorem sc_is_graded_repair : FnScope ["kinds", "log", "trusts", "value"] ["kinds", "log", "trusts", "value"] (defScope s_is_graded_repair) := ⟨rfl, rfl, rfl, by decide +kernel, rfl, by decide +kernel, by decide +kernel⟩
theorem ok_is_graded_repair {f : Addr} {fd : FuncData} (F : Fun K "is_graded_repair" "is_graded_repair" s_is_graded_repair f fd) (B : Bi K mg) (T : Tx K mg) (hsm : ∃ o, base.get? sysModules = some o) (H_is_graded : Has P w K mg base 5 "is_graded" 3 [] c_is_graded) (H_graph_of : Has P w K mg base 4 "graph_of" 2 [] c_graph_of) : FnT P w K mg base 6 f fd ["kinds", "log", "trusts", "value"] c_is_graded_repair := by
  refine fn_ok F sc_is_graded_repair fun cdv A outer s H E hr hgd => ?_
  have hu := hr.units
  exact (dss_one (ds_ret (dcall H_is_graded (hr.mono (by decide)) hgd rfl (passes_call (takes_of rfl rfl rfl rfl) fun _ _ _ _ h => h) (da_cons (dcall H_graph_of (hr.mono (by decide)) hgd rfl (passes_call (takes_of rfl rfl rfl rfl) fun _ _ _ _ h => h) (da_cons (dv 0) (da_cons (dv 1) da_nil))) (da_cons (dv 2) (da_cons (dv 3) da_nil))))))
/-! ### Side_lacks -/
abbrev s_Side_lacks : Stmt := mth 29 4
def b_Side_lacks : FS := (sRet (eMt 2 "Side" "counts" c_Side_counts (eVar 0) (aCons (eMt 2 "Side" "shown" c_Side_shown (eVar 0) (aCons (eMt 2 "Side" "ordered" c_Side_ordered (eVar 0) (aCons (eFz (nEmpty)) aNil)) aNil)) aNil)))
def c_Side_lacks : List D → Mu → Res D := runDef 1 b_Side_lacks
theorem sc_Side_lacks : FnScope ["self"] ["self"] (defScope s_Side_lacks) := ⟨rfl, rfl, rfl, by decide +kernel, rfl, by decide +kernel, by decide +kernel⟩
theorem ok_Side_lacks {f : Addr} {fd : FuncData} (F : Fun K "lacks" "Side.lacks" s_Side_lacks f fd) (B : Bi K mg) (T : Tx K mg) (hsm : ∃ o, base.get? sysModules = some o) (H_Side_counts : HasM P w K mg base 1 "Side" "counts" 2 c_Side_counts) (H_Side_shown : HasM P w K mg base 3 "Side" "shown" 2 c_Side_shown) (H_Side_ordered : HasM P w K mg base 1 "Side" "ordered" 2 c_Side_ordered) : FnT P w K mg base 4 f fd ["self"] c_Side_lacks := by
  refine fn_ok F sc_Side_lacks fun cdv A outer s H E hr hgd => ?_
  have hu := hr.units
  exact (dss_one (ds_ret (de_mt H_Side_counts (hr.mono (by decide)) hgd (passes_call (takes_of rfl rfl rfl rfl) fun _ _ _ _ h => h) (dv 0) (da_cons (de_mt H_Side_shown (hr.mono (by decide)) hgd (passes_call (takes_of rfl rfl rfl rfl) fun _ _ _ _ h => h) (dv 0) (da_cons (de_mt H_Side_ordered (hr.mono (by decide)) hgd (passes_call (takes_of rfl rfl rfl rfl) fun _ _ _ _ h => h) (dv 0) (da_cons (de_fz (dn_empty)) da_nil)) da_nil)) da_nil))))
/-! ### lacks -/
abbrev s_lacks : Stmt := top 31
def b_lacks : FS := (sSeq (sAsgL [(.nm 3), (.nm 4)] (eCallF 2 c_sides_of [] (aCons (eCallF 2 c_graph_of [] (aCons (eVar 0) (aCons (eVar 1) aNil))) (aCons (eVar 2) aNil))))
  (sRet (eTup (aCons (eMt 1 "Side" "lacks" c_Side_lacks (eVar 3) aNil) (aCons (eMt 1 "Side" "lacks" c_Side_lacks (eVar 4) aNil) aNil)))))
def c_lacks : List D → Mu → Res D := runDef 5 b_lacks
theorem sc_lacks : FnScope ["kinds", "log", "trusts", "entries", "exits"] ["kinds", "log", "trusts"] (defScope s_lacks) := ⟨rfl, rfl, rfl, by decide +kernel, rfl, by decide +kernel, by decide +kernel⟩
theorem ok_lacks {f : Addr} {fd : FuncData} (F : Fun K "lacks" "lacks" s_lacks f fd) (B : Bi K mg) (T : Tx K mg) (hsm : ∃ o, base.get? sysModules = some o) (H_sides_of : Has P w K mg base 3 "sides_of" 2 [] c_sides_of) (H_graph_of : Has P w K mg base 4 "graph_of" 2 [] c_graph_of) (H_Side_lacks : HasM P w K mg base 4 "Side" "lacks" 1 c_Side_lacks) : FnT P w K mg base 5 f fd ["kinds", "log", "trusts"] c_lacks := by
  refine fn_ok F sc_lacks fun cdv A outer s H E hr hgd => ?_
  have hu := hr.units
  exact (dss_cons (ds_asgL rfl (dcall H_sides_of (hr.mono (by decide)) hgd rfl (passes_call (takes_of rfl rfl rfl rfl) fun _ _ _ _ h => h) (da_cons (dcall H_graph_of (hr.mono (by decide)) hgd rfl (passes_call (takes_of rfl rfl rfl rfl) fun _ _ _ _ h => h) (da_cons (dv 0) (da_cons (dv 1) da_nil))) (da_cons (dv 2) da_nil))) (gts_cons (gt_nm sc_lacks.nd rfl (by first | exact Or.inl rfl | exact Or.inr rfl)) (gts_cons (gt_nm sc_lacks.nd rfl (by first | exact Or.inl rfl | exact Or.inr rfl)) gts_nil)))
  (dss_one (ds_ret (de_tup (da_cons (de_mt0 H_Side_lacks (hr.mono (by decide)) hgd (passes_call (takes_of rfl rfl rfl rfl) fun _ _ _ _ h => h) (dv 3)) (da_cons (de_mt0 H_Side_lacks (hr.mono (by decide)) hgd (passes_call (takes_of rfl rfl rfl rfl) fun _ _ _ _ h => h) (dv 4)) da_nil))))))
/-! ### shortage_size -/
abbrev s_shortage_size : Stmt := top 32
def b_shortage_size : FS := (sSeq (sSet 4 (eCallF 2 c_graph_of [] (aCons (eVar 0) (aCons (eVar 1) aNil))))
  (sRet (eCallF 2 c_surplus [] (aCons (eIf (eT (eBin gEq (eVar 2) (eC (.str "entries")))) (eFldC ["Graph"] (eVar 4) "exits_of") (eFldC ["Graph"] (eVar 4) "entries_of")) (aCons (eVar 3) aNil)))))
def c_shortage_size : List D → Mu → Res D := runDef 5 b_shortage_size
theorem sc_shortage_size : FnScope ["kinds", "log", "gate", "numbers", "graph"] ["kinds", "log", "gate", "numbers"] (defScope s_shortage_size) := ⟨rfl, rfl, rfl, by decide +kernel, rfl, by decide +kernel, by decide +kernel⟩
theorem ok_shortage_size {f : Addr} {fd : FuncData} (F : Fun K "shortage_size" "shortage_size" s_shortage_size f fd) (B : Bi K mg) (T : Tx K mg) (hsm : ∃ o, base.get? sysModules = some o) (H_graph_of : Has P w K mg base 4 "graph_of" 2 [] c_graph_of) (H_surplus : Has P w K mg base 2 "surplus" 2 [] c_surplus) : FnT P w K mg base 5 f fd ["kinds", "log", "gate", "numbers"] c_shortage_size := by
  refine fn_ok F sc_shortage_size fun cdv A outer s H E hr hgd => ?_
  have hu := hr.units
  exact (dss_cons (ds_set sc_shortage_size.nd rfl (by first | exact Or.inl rfl | exact Or.inr rfl) (dcall H_graph_of (hr.mono (by decide)) hgd rfl (passes_call (takes_of rfl rfl rfl rfl) fun _ _ _ _ h => h) (da_cons (dv 0) (da_cons (dv 1) da_nil))))
  (dss_one (ds_ret (dcall H_surplus (hr.mono (by decide)) hgd rfl (passes_call (takes_of rfl rfl rfl rfl) fun _ _ _ _ h => h) (da_cons (de_if (dt_cmp (o2_eq hu) (dv 2) de_str (nomark _)) (de_fld T.f_exits_of (dv 4)) (de_fld T.f_entries_of (dv 4))) (da_cons (dv 3) da_nil))))))
/-! ### _law_of_two -/
abbrev s__law_of_two : Stmt := top 44
def b__law_of_two_1 : FS := (sSeq (sSet 11 (eTup (aCons (eFz (nLst (aCons (eVar 9) aNil))) (aCons (eFz (nLst aNil)) (aCons (eFz (nLst (aCons (eVar 10) aNil))) (aCons (eBin gAdd (eBin gMul (eFz (nLst (aCons (eFz (nLst (aCons (eC (.int 0)) (aCons (eC (.int 1)) aNil)))) aNil))) (eVar 3)) (eBin gMul (eFz (nLst (aCons (eFz (nLst aNil)) aNil))) (eBin gSub (eC (.int 9)) (eVar 3)))) (aCons (eBin gMul (eFz (nLst (aCons (eFz (nLst aNil)) aNil))) (eC (.int 9))) aNil)))))))
  (sExpr (eMeth "list" gAppend (eVar 6) (aCons (eBin gIs (eCallF 4 c_is_graded_repair [] (aCons (eVar 0) (aCons (eVar 4) (aCons (eTup (aCons (eFz (nLst (aCons (eVar 3) (aCons (eVar 3) aNil)))) (aCons (eFz (nLst (aCons (eC (.int 5)) aNil))) aNil))) (aCons (eVar 11) aNil))))) (eC (.bool true))) aNil))))
def b__law_of_two : FS := (sSeq (sSet 4 (eTup (aCons (eFz (nLst (aCons (eTup (aCons (eC (.int 0)) (aCons (eVar 1) (aCons (eC .none) aNil)))) (aCons (eTup (aCons (eC (.int 1)) (aCons (eVar 1) (aCons (eC .none) aNil)))) aNil)))) (aCons (eFz (nLst (aCons (eTup (aCons (eC (.int 6)) (aCons (eVar 1) (aCons (eC .none) aNil)))) aNil))) (aCons (eC (.int 0)) (aCons (eC (.str "closed")) aNil))))))
  (sSeq (sSet 5 (eBin gAdd (eBin gMul (eFz (nLst (aCons (eC (.int 1)) aNil))) (eVar 2)) (eBin gMul (eFz (nLst (aCons (eC (.int 0)) aNil))) (eBin gSub (eC (.int 9)) (eVar 2)))))
  (sSeq (sSet 6 (eNew (nLst (aCons (eBin gEq (eCallF 3 c_lacks [] (aCons (eVar 0) (aCons (eVar 4) (aCons (eTup (aCons (eFz (nLst (aCons (eVar 2) (aCons (eVar 3) aNil)))) (aCons (eFz (nLst (aCons (eC (.int 5)) aNil))) aNil))) aNil)))) (eTup (aCons (eVar 5) (aCons (eBin gMul (eFz (nLst (aCons (eC (.int 0)) aNil))) (eC (.int 9))) aNil)))) aNil))))
  (sSeq (sSet 7 (eCallF 3 c_graded_repair [] (aCons (eVar 0) (aCons (eVar 4) (aCons (eTup (aCons (eFz (nLst (aCons (eVar 2) (aCons (eVar 3) aNil)))) (aCons (eFz (nLst (aCons (eC (.int 5)) aNil))) aNil))) aNil)))))
  (sSeq (sSet 6 (eNew (nCat (eVar 6) (eFz (nLst (aCons (eBin gEq (eSl (eVar 7) oNone (oSome (eC (.int 3)))) (eTup (aCons (eFz (nLst (aCons (eC (.int 0)) aNil))) (aCons (eFz (nLst aNil)) (aCons (eFz (nLst (aCons (eTup (aCons (eC (.int 1)) (aCons (eC (.int 0)) aNil))) aNil))) aNil))))) (aCons (eBin gEq (eSl (eBin gIx (eVar 7) (eC (.int 3))) oNone (oSome (eVar 2))) (eBin gMul (eFz (nLst (aCons (eFz (nLst (aCons (eC (.int 0)) (aCons (eC (.int 1)) aNil)))) aNil))) (eVar 2))) (aCons (eBin gEq (eBin gIx (eVar 7) (eC (.int 4))) (eBin gMul (eFz (nLst (aCons (eFz (nLst aNil)) aNil))) (eC (.int 9)))) aNil))))))))
  (sSeq (sExpr (eMeth "list" gAppend (eVar 6) (aCons (eCallF 4 c_is_graded_repair [] (aCons (eVar 0) (aCons (eVar 4) (aCons (eTup (aCons (eFz (nLst (aCons (eVar 2) (aCons (eVar 3) aNil)))) (aCons (eFz (nLst (aCons (eC (.int 5)) aNil))) aNil))) (aCons (eVar 7) aNil))))) aNil)))
  (sSeq (sSet 8 (eTup (aCons (eFz (nLst (aCons (eC (.int 1)) aNil))) (aCons (eFz (nLst aNil)) (aCons (eFz (nLst (aCons (eTup (aCons (eC (.int 0)) (aCons (eC (.int 0)) aNil))) aNil))) (aCons (eBin gAdd (eBin gMul (eFz (nLst (aCons (eFz (nLst (aCons (eC (.int 0)) (aCons (eC (.int 1)) aNil)))) aNil))) (eVar 2)) (eBin gMul (eFz (nLst (aCons (eFz (nLst aNil)) aNil))) (eBin gSub (eC (.int 9)) (eVar 2)))) (aCons (eBin gMul (eFz (nLst (aCons (eFz (nLst aNil)) aNil))) (eC (.int 9))) aNil)))))))
  (sSeq (sExpr (eMeth "list" gAppend (eVar 6) (aCons (eBin gIs (eCallF 4 c_is_graded_repair [] (aCons (eVar 0) (aCons (eVar 4) (aCons (eTup (aCons (eFz (nLst (aCons (eVar 2) (aCons (eVar 3) aNil)))) (aCons (eFz (nLst (aCons (eC (.int 5)) aNil))) aNil))) (aCons (eVar 8) aNil))))) (eC (.bool false))) aNil)))
  (sSeq (sExpr (eMeth "list" gAppend (eVar 6) (aCons (eBin gIs (eCallF 4 c_is_graded_repair [] (aCons (eVar 0) (aCons (eVar 4) (aCons (eTup (aCons (eFz (nLst (aCons (eVar 3) (aCons (eVar 2) aNil)))) (aCons (eFz (nLst (aCons (eC (.int 5)) aNil))) aNil))) (aCons (eVar 8) aNil))))) (eC (.bool true))) aNil)))
  (sSeq (sFor (iVal (eTup (aCons (eTup (aCons (eC (.int 0)) (aCons (eTup (aCons (eC (.int 1)) (aCons (eC (.int 0)) aNil))) aNil))) (aCons (eTup (aCons (eC (.int 1)) (aCons (eTup (aCons (eC (.int 0)) (aCons (eC (.int 0)) aNil))) aNil))) aNil)))) (.tp [(.nm 9), (.nm 10)]) b__law_of_two_1)
  (sRet (eBin gAdd (eVar 6) (eFz (nLst (aCons (eBin gEq (eCallF 4 c_shortage_size [] (aCons (eVar 0) (aCons (eVar 4) (aCons (eC (.str "entries")) (aCons (eFz (nLst (aCons (eC (.int 0)) (aCons (eC (.int 1)) aNil)))) aNil))))) (eC (.int 1))) (aCons (eBin gEq (eCallF 4 c_shortage_size [] (aCons (eVar 0) (aCons (eVar 4) (aCons (eC (.str "entries")) (aCons (eFz (nLst aNil)) aNil))))) (eC (.int 0))) aNil))))))))))))))))
def c__law_of_two : List D → Mu → Res D := runDef 12 b__law_of_two
theorem sc__law_of_two : FnScope ["kinds", "name", "low", "high", "log", "falling", "found", "told", "wrong", "line", "pair", "value"] ["kinds", "name", "low", "high"] (defScope s__law_of_two) := ⟨rfl, rfl, rfl, by decide +kernel, rfl, by decide +kernel, by decide +kernel⟩
theorem ok__law_of_two {f : Addr} {fd : FuncData} (F : Fun K "_law_of_two" "_law_of_two" s__law_of_two f fd) (B : Bi K mg) (T : Tx K mg) (hsm : ∃ o, base.get? sysModules = some o) (H_lacks : Has P w K mg base 5 "lacks" 3 [] c_lacks) (H_graded_repair : Has P w K mg base 6 "graded_repair" 3 [] c_graded_repair) (H_is_graded_repair : Has P w K mg base 6 "is_graded_repair" 4 [] c_is_graded_repair) (H_shortage_size : Has P w K mg base 5 "shortage_size" 4 [] c_shortage_size) : FnT P w K mg base 7 f fd ["kinds", "name", "low", "high"] c__law_of_two := by
  refine fn_ok F sc__law_of_two fun cdv A outer s H E hr hgd => ?_
  have hu := hr.units
  exact (dss_cons (ds_set sc__law_of_two.nd rfl (by first | exact Or.inl rfl | exact Or.inr rfl) (de_tup (da_cons (de_fz (dn_lst (da_cons (de_tup (da_cons de_int (da_cons (dv 1) (da_cons de_none da_nil)))) (da_cons (de_tup (da_cons de_int (da_cons (dv 1) (da_cons de_none da_nil)))) da_nil)))) (da_cons (de_fz (dn_lst (da_cons (de_tup (da_cons de_int (da_cons (dv 1) (da_cons de_none da_nil)))) da_nil))) (da_cons de_int (da_cons de_str da_nil))))))
  (dss_cons (ds_set sc__law_of_two.nd rfl (by first | exact Or.inl rfl | exact Or.inr rfl) (de_bin o2_add (de_bin o2_mul (de_fz (dn_lst (da_cons de_int da_nil))) (dv 2)) (de_bin o2_mul (de_fz (dn_lst (da_cons de_int da_nil))) (de_bin o2_sub de_int (dv 2)))))
  (dss_cons (ds_set sc__law_of_two.nd rfl (by first | exact Or.inl rfl | exact Or.inr rfl) (de_new (dn_lst (da_cons (de_cmp (o2_eq hu) (dcall H_lacks (hr.mono (by decide)) hgd rfl (passes_call (takes_of rfl rfl rfl rfl) fun _ _ _ _ h => h) (da_cons (dv 0) (da_cons (dv 4) (da_cons (de_tup (da_cons (de_fz (dn_lst (da_cons (dv 2) (da_cons (dv 3) da_nil)))) (da_cons (de_fz (dn_lst (da_cons de_int da_nil))) da_nil))) da_nil)))) (de_tup (da_cons (dv 5) (da_cons (de_bin o2_mul (de_fz (dn_lst (da_cons de_int da_nil))) de_int) da_nil))) (nomark _)) da_nil))))
  (dss_cons (ds_set sc__law_of_two.nd rfl (by first | exact Or.inl rfl | exact Or.inr rfl) (dcall H_graded_repair (hr.mono (by decide)) hgd rfl (passes_call (takes_of rfl rfl rfl rfl) fun _ _ _ _ h => h) (da_cons (dv 0) (da_cons (dv 4) (da_cons (de_tup (da_cons (de_fz (dn_lst (da_cons (dv 2) (da_cons (dv 3) da_nil)))) (da_cons (de_fz (dn_lst (da_cons de_int da_nil))) da_nil))) da_nil)))))
  (dss_cons (ds_set sc__law_of_two.nd rfl (by first | exact Or.inl rfl | exact Or.inr rfl) (de_new (dn_cat (dv 6) (de_fz (dn_lst (da_cons (de_cmp (o2_eq hu) (de_sl (dv 7) do_none (do_some de_int)) (de_tup (da_cons (de_fz (dn_lst (da_cons de_int da_nil))) (da_cons (de_fz (dn_lst da_nil)) (da_cons (de_fz (dn_lst (da_cons (de_tup (da_cons de_int (da_cons de_int da_nil))) da_nil))) da_nil)))) (nomark _)) (da_cons (de_cmp (o2_eq hu) (de_sl (de_ix hu (dv 7) de_int) do_none (do_some (dv 2))) (de_bin o2_mul (de_fz (dn_lst (da_cons (de_fz (dn_lst (da_cons de_int (da_cons de_int da_nil)))) da_nil))) (dv 2)) (nomark _)) (da_cons (de_cmp (o2_eq hu) (de_ix hu (dv 7) de_int) (de_bin o2_mul (de_fz (dn_lst (da_cons (de_fz (dn_lst da_nil)) da_nil))) de_int) (nomark _)) da_nil))))))))
  (dss_cons (ds_expr (de_bm PySem.F.plainAttrs_list PySem.F.slot_list_append PySem.F.type_list_append mg_append (dv 6) (da_cons (dcall H_is_graded_repair (hr.mono (by decide)) hgd rfl (passes_call (takes_of rfl rfl rfl rfl) fun _ _ _ _ h => h) (da_cons (dv 0) (da_cons (dv 4) (da_cons (de_tup (da_cons (de_fz (dn_lst (da_cons (dv 2) (da_cons (dv 3) da_nil)))) (da_cons (de_fz (dn_lst (da_cons de_int da_nil))) da_nil))) (da_cons (dv 7) da_nil))))) da_nil)))
  (dss_cons (ds_set sc__law_of_two.nd rfl (by first | exact Or.inl rfl | exact Or.inr rfl) (de_tup (da_cons (de_fz (dn_lst (da_cons de_int da_nil))) (da_cons (de_fz (dn_lst da_nil)) (da_cons (de_fz (dn_lst (da_cons (de_tup (da_cons de_int (da_cons de_int da_nil))) da_nil))) (da_cons (de_bin o2_add (de_bin o2_mul (de_fz (dn_lst (da_cons (de_fz (dn_lst (da_cons de_int (da_cons de_int da_nil)))) da_nil))) (dv 2)) (de_bin o2_mul (de_fz (dn_lst (da_cons (de_fz (dn_lst da_nil)) da_nil))) (de_bin o2_sub de_int (dv 2)))) (da_cons (de_bin o2_mul (de_fz (dn_lst (da_cons (de_fz (dn_lst da_nil)) da_nil))) de_int) da_nil)))))))
  (dss_cons (ds_expr (de_bm PySem.F.plainAttrs_list PySem.F.slot_list_append PySem.F.type_list_append mg_append (dv 6) (da_cons (de_cmp o2_is (dcall H_is_graded_repair (hr.mono (by decide)) hgd rfl (passes_call (takes_of rfl rfl rfl rfl) fun _ _ _ _ h => h) (da_cons (dv 0) (da_cons (dv 4) (da_cons (de_tup (da_cons (de_fz (dn_lst (da_cons (dv 2) (da_cons (dv 3) da_nil)))) (da_cons (de_fz (dn_lst (da_cons de_int da_nil))) da_nil))) (da_cons (dv 8) da_nil))))) de_bool (nomark _)) da_nil)))
  (dss_cons (ds_expr (de_bm PySem.F.plainAttrs_list PySem.F.slot_list_append PySem.F.type_list_append mg_append (dv 6) (da_cons (de_cmp o2_is (dcall H_is_graded_repair (hr.mono (by decide)) hgd rfl (passes_call (takes_of rfl rfl rfl rfl) fun _ _ _ _ h => h) (da_cons (dv 0) (da_cons (dv 4) (da_cons (de_tup (da_cons (de_fz (dn_lst (da_cons (dv 3) (da_cons (dv 2) da_nil)))) (da_cons (de_fz (dn_lst (da_cons de_int da_nil))) da_nil))) (da_cons (dv 8) da_nil))))) de_bool (nomark _)) da_nil)))
  (dss_cons (ds_for (passes_of rfl) rfl (di_val (de_tup (da_cons (de_tup (da_cons de_int (da_cons (de_tup (da_cons de_int (da_cons de_int da_nil))) da_nil))) (da_cons (de_tup (da_cons de_int (da_cons (de_tup (da_cons de_int (da_cons de_int da_nil))) da_nil))) da_nil)))) (gt_tp rfl (gts_cons (gt_nm sc__law_of_two.nd rfl (by first | exact Or.inl rfl | exact Or.inr rfl)) (gts_cons (gt_nm sc__law_of_two.nd rfl (by first | exact Or.inl rfl | exact Or.inr rfl)) gts_nil))) (dss_cons (ds_set sc__law_of_two.nd rfl (by first | exact Or.inl rfl | exact Or.inr rfl) (de_tup (da_cons (de_fz (dn_lst (da_cons (dv 9) da_nil))) (da_cons (de_fz (dn_lst da_nil)) (da_cons (de_fz (dn_lst (da_cons (dv 10) da_nil))) (da_cons (de_bin o2_add (de_bin o2_mul (de_fz (dn_lst (da_cons (de_fz (dn_lst (da_cons de_int (da_cons de_int da_nil)))) da_nil))) (dv 3)) (de_bin o2_mul (de_fz (dn_lst (da_cons (de_fz (dn_lst da_nil)) da_nil))) (de_bin o2_sub de_int (dv 3)))) (da_cons (de_bin o2_mul (de_fz (dn_lst (da_cons (de_fz (dn_lst da_nil)) da_nil))) de_int) da_nil)))))))
  (dss_one (ds_expr (de_bm PySem.F.plainAttrs_list PySem.F.slot_list_append PySem.F.type_list_append mg_append (dv 6) (da_cons (de_cmp o2_is (dcall H_is_graded_repair (hr.mono (by decide)) hgd rfl (passes_call (takes_of rfl rfl rfl rfl) fun _ _ _ _ h => h) (da_cons (dv 0) (da_cons (dv 4) (da_cons (de_tup (da_cons (de_fz (dn_lst (da_cons (dv 3) (da_cons (dv 3) da_nil)))) (da_cons (de_fz (dn_lst (da_cons de_int da_nil))) da_nil))) (da_cons (dv 11) da_nil))))) de_bool (nomark _)) da_nil))))))
  (dss_one (ds_ret (de_bin o2_add (dv 6) (de_fz (dn_lst (da_cons (de_cmp (o2_eq hu) (dcall H_shortage_size (hr.mono (by decide)) hgd rfl (passes_call (takes_of rfl rfl rfl rfl) fun _ _ _ _ h => h) (da_cons (dv 0) (da_cons (dv 4) (da_cons de_str (da_cons (de_fz (dn_lst (da_cons de_int (da_cons de_int da_nil)))) da_nil))))) de_int (nomark _)) (da_cons (de_cmp (o2_eq hu) (dcall H_shortage_size (hr.mono (by decide)) hgd rfl (passes_call (takes_of rfl rfl rfl rfl) fun _ _ _ _ h => h) (da_cons (dv 0) (da_cons (dv 4) (da_cons de_str (da_cons (de_fz (dn_lst da_nil)) da_nil))))) de_int (nomark _)) da_nil)))))))))))))))))
/-! ### are_trusts_of -/
abbrev s_are_trusts_of : Stmt := top 26
def b_are_trusts_of : FS := (sSeq (sIf (tOr (tNot (eT (eCall gIsi (aCons (eVar 1) (aCons (eC (.ty "list")) aNil))))) (eT (eBin gNe (eCall gLen (aCons (eVar 1) aNil)) (eCall gLen (aCons (eVar 0) aNil))))) (sRet (eC (.bool false))) sNil)
  (sRet (eCall gAll (aCons (eFz (nComp (iVal (eVar 1)) (.nm 2) tTrue (eCallF 3 c_is_integer [] (aCons (eVar 2) (aCons (eC (.int 1)) (aCons (eC (.int 9)) aNil)))) [2])) aNil))))
def c_are_trusts_of : List D → Mu → Res D := runDef 3 b_are_trusts_of
theorem sc_are_trusts_of : FnScope ["lines", "value", "one"] ["lines", "value"] (defScope s_are_trusts_of) := ⟨rfl, rfl, rfl, by decide +kernel, rfl, by decide +kernel, by decide +kernel⟩
theorem ok_are_trusts_of {f : Addr} {fd : FuncData} (F : Fun K "are_trusts_of" "are_trusts_of" s_are_trusts_of f fd) (B : Bi K mg) (T : Tx K mg) (hsm : ∃ o, base.get? sysModules = some o) (H_is_integer : Has P w K mg base 1 "is_integer" 3 [] c_is_integer) : FnT P w K mg base 2 f fd ["lines", "value"] c_are_trusts_of := by
  refine fn_ok F sc_are_trusts_of fun cdv A outer s H E hr hgd => ?_
  have hu := hr.units
  exact (dss_cons (ds_if (dt_w (dw_or (dt_not (dt_val (de_callB cal_isi rfl B.isinstance_ rfl (da_cons (dv 1) (da_cons (de_ty rfl B.list_ rfl) da_nil))))) (dw_or1 (dt_cmp (o2_ne hu) (de_callB cal_len rfl B.len_ rfl (da_cons (dv 1) da_nil)) (de_callB cal_len rfl B.len_ rfl (da_cons (dv 0) da_nil)) (nomark _))))) (dss_one (ds_ret de_bool)) dss_nil)
  (dss_one (ds_ret (de_callB (cal_all rfl) rfl B.all_ rfl (da_cons (de_fz (dn_lc (own := [("one", 2)]) (by decide) rfl sc_are_trusts_of.nd (di_val (dv 1)) (blkOk_by (N := ["lines", "value", "one"]) (sc := defScope s_are_trusts_of) (by decide +kernel)) (fun _ _ _ _ _ => (gt_nm sc_are_trusts_of.nd rfl (by first | exact Or.inl rfl | exact Or.inr rfl))) (fun _ _ _ _ _ => dts_nil) (fun _ _ _ _ _ => (dcall H_is_integer (hr.mono (by decide)) hgd rfl passL (da_cons (dv 2) (da_cons de_int (da_cons (de_gI B.MAX_TRUST_ rfl) da_nil))))))) da_nil)))))
/-! ### is_trusts -/
abbrev s_is_trusts : Stmt := top 27
def b_is_trusts : FS := (sSeq (sIf (tOr (tNot (eT (eCall gIsi (aCons (eVar 1) (aCons (eC (.ty "tuple")) aNil))))) (eT (eBin gNe (eCall gLen (aCons (eVar 1) aNil)) (eC (.int 2))))) (sRet (eC (.bool false))) sNil)
  (sRet (eAnd (eCallF 2 c_are_trusts_of [] (aCons (eBin gIx (eVar 0) (eC (.int 0))) (aCons (eBin gIx (eVar 1) (eC (.int 0))) aNil))) (eCallF 2 c_are_trusts_of [] (aCons (eBin gIx (eVar 0) (eC (.int 1))) (aCons (eBin gIx (eVar 1) (eC (.int 1))) aNil))))))
def c_is_trusts : List D → Mu → Res D := runDef 2 b_is_trusts
theorem sc_is_trusts : FnScope ["log", "value"] ["log", "value"] (defScope s_is_trusts) := ⟨rfl, rfl, rfl, by decide +kernel, rfl, by decide +kernel, by decide +kernel⟩
theorem ok_is_trusts {f : Addr} {fd : FuncData} (F : Fun K "is_trusts" "is_trusts" s_is_trusts f fd) (B : Bi K mg) (T : Tx K mg) (hsm : ∃ o, base.get? sysModules = some o) (H_are_trusts_of : Has P w K mg base 2 "are_trusts_of" 2 [] c_are_trusts_of) : FnT P w K mg base 3 f fd ["log", "value"] c_is_trusts := by
  refine fn_ok F sc_is_trusts fun cdv A outer s H E hr hgd => ?_
  have hu := hr.units
  exact (dss_cons (ds_if (dt_w (dw_or (dt_not (dt_val (de_callB cal_isi rfl B.isinstance_ rfl (da_cons (dv 1) (da_cons (de_ty rfl B.tuple_ rfl) da_nil))))) (dw_or1 (dt_cmp (o2_ne hu) (de_callB cal_len rfl B.len_ rfl (da_cons (dv 1) da_nil)) de_int (nomark _))))) (dss_one (ds_ret de_bool)) dss_nil)
  (dss_one (ds_ret (de_and (dcall H_are_trusts_of (hr.mono (by decide)) hgd rfl (passes_call (takes_of rfl rfl rfl rfl) fun _ _ _ _ h => h) (da_cons (de_ix hu (dv 0) de_int) (da_cons (de_ix hu (dv 1) de_int) da_nil))) (de_one (dcall H_are_trusts_of (hr.mono (by decide)) hgd rfl (passes_call (takes_of rfl rfl rfl rfl) fun _ _ _ _ h => h) (da_cons (de_ix hu (dv 0) de_int) (da_cons (de_ix hu (dv 1) de_int) da_nil))))))))
/-! ### _law_of_open_gates -/
abbrev s__law_of_open_gates : Stmt := top 45
def b__law_of_open_gates : FS := (sSeq (sSet 2 (eTup (aCons (eFz (nLst (aCons (eTup (aCons (eC (.int 0)) (aCons (eVar 1) (aCons (eC .none) aNil)))) (aCons (eTup (aCons (eC (.int 1)) (aCons (eVar 1) (aCons (eC .none) aNil)))) aNil)))) (aCons (eFz (nLst (aCons (eTup (aCons (eC (.int 6)) (aCons (eVar 1) (aCons (eC .none) aNil)))) aNil))) (aCons (eC (.int 0)) (aCons (eC (.int 10)) aNil))))))
  (sSeq (sSet 3 (eNew (nLst (aCons (eBin gEq (eCallF 3 c_lacks [] (aCons (eVar 0) (aCons (eVar 2) (aCons (eTup (aCons (eFz (nLst (aCons (eC (.int 9)) (aCons (eC (.int 9)) aNil)))) (aCons (eFz (nLst (aCons (eC (.int 9)) aNil))) aNil))) aNil)))) (eTup (aCons (eBin gMul (eFz (nLst (aCons (eC (.int 0)) aNil))) (eC (.int 9))) (aCons (eBin gMul (eFz (nLst (aCons (eC (.int 0)) aNil))) (eC (.int 9))) aNil)))) aNil))))
  (sSeq (sExpr (eMeth "list" gAppend (eVar 3) (aCons (eBin gEq (eSl (eCallF 3 c_graded_repair [] (aCons (eVar 0) (aCons (eVar 2) (aCons (eTup (aCons (eFz (nLst (aCons (eC (.int 9)) (aCons (eC (.int 9)) aNil)))) (aCons (eFz (nLst (aCons (eC (.int 9)) aNil))) aNil))) aNil)))) oNone (oSome (eC (.int 2)))) (eTup (aCons (eFz (nLst aNil)) (aCons (eFz (nLst aNil)) aNil)))) aNil)))
  (sSeq (sSet 4 (eTup (aCons (eFz (nLst (aCons (eTup (aCons (eC (.int 0)) (aCons (eVar 1) (aCons (eC (.str "A")) aNil)))) (aCons (eTup (aCons (eC (.int 20)) (aCons (eVar 1) (aCons (eC .none) aNil)))) aNil)))) (aCons (eFz (nLst (aCons (eTup (aCons (eC (.int 7)) (aCons (eVar 1) (aCons (eC (.str "B")) aNil)))) (aCons (eTup (aCons (eC (.int 50)) (aCons (eVar 1) (aCons (eC .none) aNil)))) aNil)))) (aCons (eC (.str "closed")) (aCons (eC (.str "closed")) aNil))))))
  (sSeq (sExpr (eMeth "list" gAppend (eVar 3) (aCons (eBin gEq (eCallF 3 c_lacks [] (aCons (eVar 0) (aCons (eVar 4) (aCons (eTup (aCons (eFz (nLst (aCons (eC (.int 9)) (aCons (eC (.int 2)) aNil)))) (aCons (eFz (nLst (aCons (eC (.int 1)) (aCons (eC (.int 4)) aNil)))) aNil))) aNil)))) (eTup (aCons (eBin gAdd (eFz (nLst (aCons (eC (.int 2)) (aCons (eC (.int 2)) aNil)))) (eBin gMul (eFz (nLst (aCons (eC (.int 1)) aNil))) (eC (.int 7)))) (aCons (eBin gAdd (eFz (nLst (aCons (eC (.int 2)) (aCons (eC (.int 1)) (aCons (eC (.int 1)) (aCons (eC (.int 1)) aNil)))))) (eBin gMul (eFz (nLst (aCons (eC (.int 0)) aNil))) (eC (.int 5)))) aNil)))) aNil)))
  (sSeq (sSet 5 (eCallF 3 c_graded_repair [] (aCons (eVar 0) (aCons (eVar 4) (aCons (eTup (aCons (eFz (nLst (aCons (eC (.int 9)) (aCons (eC (.int 2)) aNil)))) (aCons (eFz (nLst (aCons (eC (.int 1)) (aCons (eC (.int 4)) aNil)))) aNil))) aNil)))))
  (sSeq (sSet 3 (eNew (nCat (eVar 3) (eFz (nLst (aCons (eBin gEq (eSl (eVar 5) oNone (oSome (eC (.int 3)))) (eTup (aCons (eFz (nLst (aCons (eC (.int 0)) (aCons (eC (.int 1)) aNil)))) (aCons (eFz (nLst (aCons (eC (.int 0)) (aCons (eC (.int 1)) aNil)))) (aCons (eFz (nLst aNil)) aNil))))) (aCons (eBin gEq (eBin gIx (eBin gIx (eVar 5) (eC (.int 3))) (eC (.int 0))) (eFz (nLst (aCons (eC (.int 0)) (aCons (eC (.int 1)) aNil))))) (aCons (eBin gEq (eBin gIx (eBin gIx (eVar 5) (eC (.int 3))) (eC (.int 8))) (eFz (nLst (aCons (eC (.int 0)) aNil)))) (aCons (eBin gEq (eBin gIx (eBin gIx (eVar 5) (eC (.int 4))) (eC (.int 1))) (eFz (nLst (aCons (eC (.int 1)) aNil)))) aNil)))))))))
  (sSeq (sSet 6 (eTup (aCons (eFz (nLst aNil)) (aCons (eFz (nLst aNil)) (aCons (eC (.str "closed")) (aCons (eC (.int 0)) aNil))))))
  (sSeq (sExpr (eMeth "list" gAppend (eVar 3) (aCons (eBin gEq (eCallF 3 c_graded_repair [] (aCons (eVar 0) (aCons (eVar 6) (aCons (eTup (aCons (eFz (nLst aNil)) (aCons (eFz (nLst aNil)) aNil))) aNil)))) (eTup (aCons (eFz (nLst aNil)) (aCons (eFz (nLst aNil)) (aCons (eFz (nLst aNil)) (aCons (eBin gMul (eFz (nLst (aCons (eFz (nLst aNil)) aNil))) (eC (.int 9))) (aCons (eBin gMul (eFz (nLst (aCons (eFz (nLst aNil)) aNil))) (eC (.int 9))) aNil))))))) aNil)))
  (sRet (eBin gAdd (eVar 3) (eFz (nLst (aCons (eCallF 2 c_is_trusts [] (aCons (eVar 6) (aCons (eTup (aCons (eFz (nLst aNil)) (aCons (eFz (nLst aNil)) aNil))) aNil))) (aCons (eBin gIs (eCallF 2 c_is_trusts [] (aCons (eVar 6) (aCons (eTup (aCons (eFz (nLst (aCons (eC (.int 5)) aNil))) (aCons (eFz (nLst aNil)) aNil))) aNil))) (eC (.bool false))) (aCons (eBin gIs (eCallF 2 c_is_trusts [] (aCons (eVar 6) (aCons (eFz (nLst aNil)) aNil))) (eC (.bool false))) aNil))))))))))))))))
def c__law_of_open_gates : List D → Mu → Res D := runDef 7 b__law_of_open_gates
theorem sc__law_of_open_gates : FnScope ["kinds", "name", "open_log", "found", "shut", "told", "empty"] ["kinds", "name"] (defScope s__law_of_open_gates) := ⟨rfl, rfl, rfl, by decide +kernel, rfl, by decide +kernel, by decide +kernel⟩
theorem ok__law_of_open_gates {f : Addr} {fd : FuncData} (F : Fun K "_law_of_open_gates" "_law_of_open_gates" s__law_of_open_gates f fd) (B : Bi K mg) (T : Tx K mg) (hsm : ∃ o, base.get? sysModules = some o) (H_lacks : Has P w K mg base 5 "lacks" 3 [] c_lacks) (H_graded_repair : Has P w K mg base 6 "graded_repair" 3 [] c_graded_repair) (H_is_trusts : Has P w K mg base 3 "is_trusts" 2 [] c_is_trusts) : FnT P w K mg base 7 f fd ["kinds", "name"] c__law_of_open_gates := by
  refine fn_ok F sc__law_of_open_gates fun cdv A outer s H E hr hgd => ?_
  have hu := hr.units
  exact (dss_cons (ds_set sc__law_of_open_gates.nd rfl (by first | exact Or.inl rfl | exact Or.inr rfl) (de_tup (da_cons (de_fz (dn_lst (da_cons (de_tup (da_cons de_int (da_cons (dv 1) (da_cons de_none da_nil)))) (da_cons (de_tup (da_cons de_int (da_cons (dv 1) (da_cons de_none da_nil)))) da_nil)))) (da_cons (de_fz (dn_lst (da_cons (de_tup (da_cons de_int (da_cons (dv 1) (da_cons de_none da_nil)))) da_nil))) (da_cons de_int (da_cons de_int da_nil))))))
  (dss_cons (ds_set sc__law_of_open_gates.nd rfl (by first | exact Or.inl rfl | exact Or.inr rfl) (de_new (dn_lst (da_cons (de_cmp (o2_eq hu) (dcall H_lacks (hr.mono (by decide)) hgd rfl (passes_call (takes_of rfl rfl rfl rfl) fun _ _ _ _ h => h) (da_cons (dv 0) (da_cons (dv 2) (da_cons (de_tup (da_cons (de_fz (dn_lst (da_cons de_int (da_cons de_int da_nil)))) (da_cons (de_fz (dn_lst (da_cons de_int da_nil))) da_nil))) da_nil)))) (de_tup (da_cons (de_bin o2_mul (de_fz (dn_lst (da_cons de_int da_nil))) de_int) (da_cons (de_bin o2_mul (de_fz (dn_lst (da_cons de_int da_nil))) de_int) da_nil))) (nomark _)) da_nil))))
  (dss_cons (ds_expr (de_bm PySem.F.plainAttrs_list PySem.F.slot_list_append PySem.F.type_list_append mg_append (dv 3) (da_cons (de_cmp (o2_eq hu) (de_sl (dcall H_graded_repair (hr.mono (by decide)) hgd rfl (passes_call (takes_of rfl rfl rfl rfl) fun _ _ _ _ h => h) (da_cons (dv 0) (da_cons (dv 2) (da_cons (de_tup (da_cons (de_fz (dn_lst (da_cons de_int (da_cons de_int da_nil)))) (da_cons (de_fz (dn_lst (da_cons de_int da_nil))) da_nil))) da_nil)))) do_none (do_some de_int)) (de_tup (da_cons (de_fz (dn_lst da_nil)) (da_cons (de_fz (dn_lst da_nil)) da_nil))) (nomark _)) da_nil)))
  (dss_cons (ds_set sc__law_of_open_gates.nd rfl (by first | exact Or.inl rfl | exact Or.inr rfl) (de_tup (da_cons (de_fz (dn_lst (da_cons (de_tup (da_cons de_int (da_cons (dv 1) (da_cons de_str da_nil)))) (da_cons (de_tup (da_cons de_int (da_cons (dv 1) (da_cons de_none da_nil)))) da_nil)))) (da_cons (de_fz (dn_lst (da_cons (de_tup (da_cons de_int (da_cons (dv 1) (da_cons de_str da_nil)))) (da_cons (de_tup (da_cons de_int (da_cons (dv 1) (da_cons de_none da_nil)))) da_nil)))) (da_cons de_str (da_cons de_str da_nil))))))
  (dss_cons (ds_expr (de_bm PySem.F.plainAttrs_list PySem.F.slot_list_append PySem.F.type_list_append mg_append (dv 3) (da_cons (de_cmp (o2_eq hu) (dcall H_lacks (hr.mono (by decide)) hgd rfl (passes_call (takes_of rfl rfl rfl rfl) fun _ _ _ _ h => h) (da_cons (dv 0) (da_cons (dv 4) (da_cons (de_tup (da_cons (de_fz (dn_lst (da_cons de_int (da_cons de_int da_nil)))) (da_cons (de_fz (dn_lst (da_cons de_int (da_cons de_int da_nil)))) da_nil))) da_nil)))) (de_tup (da_cons (de_bin o2_add (de_fz (dn_lst (da_cons de_int (da_cons de_int da_nil)))) (de_bin o2_mul (de_fz (dn_lst (da_cons de_int da_nil))) de_int)) (da_cons (de_bin o2_add (de_fz (dn_lst (da_cons de_int (da_cons de_int (da_cons de_int (da_cons de_int da_nil)))))) (de_bin o2_mul (de_fz (dn_lst (da_cons de_int da_nil))) de_int)) da_nil))) (nomark _)) da_nil)))
  (dss_cons (ds_set sc__law_of_open_gates.nd rfl (by first | exact Or.inl rfl | exact Or.inr rfl) (dcall H_graded_repair (hr.mono (by decide)) hgd rfl (passes_call (takes_of rfl rfl rfl rfl) fun _ _ _ _ h => h) (da_cons (dv 0) (da_cons (dv 4) (da_cons (de_tup (da_cons (de_fz (dn_lst (da_cons de_int (da_cons de_int da_nil)))) (da_cons (de_fz (dn_lst (da_cons de_int (da_cons de_int da_nil)))) da_nil))) da_nil)))))
  (dss_cons (ds_set sc__law_of_open_gates.nd rfl (by first | exact Or.inl rfl | exact Or.inr rfl) (de_new (dn_cat (dv 3) (de_fz (dn_lst (da_cons (de_cmp (o2_eq hu) (de_sl (dv 5) do_none (do_some de_int)) (de_tup (da_cons (de_fz (dn_lst (da_cons de_int (da_cons de_int da_nil)))) (da_cons (de_fz (dn_lst (da_cons de_int (da_cons de_int da_nil)))) (da_cons (de_fz (dn_lst da_nil)) da_nil)))) (nomark _)) (da_cons (de_cmp (o2_eq hu) (de_ix hu (de_ix hu (dv 5) de_int) de_int) (de_fz (dn_lst (da_cons de_int (da_cons de_int da_nil)))) (nomark _)) (da_cons (de_cmp (o2_eq hu) (de_ix hu (de_ix hu (dv 5) de_int) de_int) (de_fz (dn_lst (da_cons de_int da_nil))) (nomark _)) (da_cons (de_cmp (o2_eq hu) (de_ix hu (de_ix hu (dv 5) de_int) de_int) (de_fz (dn_lst (da_cons de_int da_nil))) (nomark _)) da_nil)))))))))
  (dss_cons (ds_set sc__law_of_open_gates.nd rfl (by first | exact Or.inl rfl | exact Or.inr rfl) (de_tup (da_cons (de_fz (dn_lst da_nil)) (da_cons (de_fz (dn_lst da_nil)) (da_cons de_str (da_cons de_int da_nil))))))
  (dss_cons (ds_expr (de_bm PySem.F.plainAttrs_list PySem.F.slot_list_append PySem.F.type_list_append mg_append (dv 3) (da_cons (de_cmp (o2_eq hu) (dcall H_graded_repair (hr.mono (by decide)) hgd rfl (passes_call (takes_of rfl rfl rfl rfl) fun _ _ _ _ h => h) (da_cons (dv 0) (da_cons (dv 6) (da_cons (de_tup (da_cons (de_fz (dn_lst da_nil)) (da_cons (de_fz (dn_lst da_nil)) da_nil))) da_nil)))) (de_tup (da_cons (de_fz (dn_lst da_nil)) (da_cons (de_fz (dn_lst da_nil)) (da_cons (de_fz (dn_lst da_nil)) (da_cons (de_bin o2_mul (de_fz (dn_lst (da_cons (de_fz (dn_lst da_nil)) da_nil))) de_int) (da_cons (de_bin o2_mul (de_fz (dn_lst (da_cons (de_fz (dn_lst da_nil)) da_nil))) de_int) da_nil)))))) (nomark _)) da_nil)))
  (dss_one (ds_ret (de_bin o2_add (dv 3) (de_fz (dn_lst (da_cons (dcall H_is_trusts (hr.mono (by decide)) hgd rfl (passes_call (takes_of rfl rfl rfl rfl) fun _ _ _ _ h => h) (da_cons (dv 6) (da_cons (de_tup (da_cons (de_fz (dn_lst da_nil)) (da_cons (de_fz (dn_lst da_nil)) da_nil))) da_nil))) (da_cons (de_cmp o2_is (dcall H_is_trusts (hr.mono (by decide)) hgd rfl (passes_call (takes_of rfl rfl rfl rfl) fun _ _ _ _ h => h) (da_cons (dv 6) (da_cons (de_tup (da_cons (de_fz (dn_lst (da_cons de_int da_nil))) (da_cons (de_fz (dn_lst da_nil)) da_nil))) da_nil))) de_bool (nomark _)) (da_cons (de_cmp o2_is (dcall H_is_trusts (hr.mono (by decide)) hgd rfl (passes_call (takes_of rfl rfl rfl rfl) fun _ _ _ _ h => h) (da_cons (dv 6) (da_cons (de_fz (dn_lst da_nil)) da_nil))) de_bool (nomark _)) da_nil)))))))))))))))))
/-! ### _law_of_rows -/
abbrev s__law_of_rows : Stmt := top 46
def b__law_of_rows : FS := (sSeq (sPar2 8 9 (aCons (eFz (nComp (iRange1 (aCons (eC (.int 5)) aNil)) (.nm 10) tTrue (eTup (aCons (eBin gMul (eC (.int 10)) (eVar 10)) (aCons (eVar 1) (aCons (eC .none) aNil)))) [10])) (aCons (eFz (nComp (iRange1 (aCons (eC (.int 3)) aNil)) (.nm 10) tTrue (eTup (aCons (eBin gAdd (eBin gMul (eC (.int 10)) (eVar 10)) (eC (.int 15))) (aCons (eVar 1) (aCons (eC .none) aNil)))) [10])) aNil)))
  (sSeq (sSet 3 (eFz (nComp (iRange1 (aCons (eC (.int 5)) aNil)) (.nm 10) tTrue (eCallF 2 c__law_pick [] (aCons (eVar 2) (aCons (eFz (nLst (aCons (eC (.int 1)) (aCons (eC (.int 2)) (aCons (eC (.int 3)) aNil))))) aNil))) [10])))
  (sSeq (sSet 4 (eTup (aCons (eVar 8) (aCons (eVar 9) (aCons (eC (.str "closed")) (aCons (eC (.str "closed")) aNil))))))
  (sSeq (sSet 5 (eFz (nLst (aCons (eBin gEq (eBin gIx (eCallF 3 c_lacks [] (aCons (eVar 0) (aCons (eVar 4) (aCons (eTup (aCons (eVar 3) (aCons (eBin gMul (eFz (nLst (aCons (eC (.int 1)) aNil))) (eC (.int 3))) aNil))) aNil)))) (eC (.int 1))) (eBin gMul (eFz (nLst (aCons (eC (.int 0)) aNil))) (eC (.int 9)))) aNil))))
  (sSeq (sSet 6 (eBin gIx (eCallF 3 c_graded_repair [] (aCons (eVar 0) (aCons (eVar 4) (aCons (eTup (aCons (eVar 3) (aCons (eBin gMul (eFz (nLst (aCons (eC (.int 1)) aNil))) (eC (.int 3))) aNil))) aNil)))) (eC (.int 0))))
  (sSeq (sSet 5 (eBin gAdd (eVar 5) (eFz (nLst (aCons (eBin gEq (eCall gLen (aCons (eVar 6) aNil)) (eC (.int 2))) (aCons (eBin gIn (eC (.int 4)) (eVar 6)) (aCons (eBin gEq (eCallF 4 c_shortage_size [] (aCons (eVar 0) (aCons (eVar 4) (aCons (eC (.str "entries")) (aCons (eFz (nLst (aCons (eC (.int 0)) (aCons (eC (.int 1)) (aCons (eC (.int 2)) (aCons (eC (.int 3)) (aCons (eC (.int 4)) aNil))))))) aNil))))) (eC (.int 2))) aNil)))))))
  (sSeq (sSet 7 (eFz (nComp (iVal (eVar 6)) (.nm 10) (eT (eBin gNe (eVar 10) (eC (.int 4)))) (eVar 10) [10])))
  (sRet (eBin gAdd (eVar 5) (eFz (nLst (aCons (eBin gEq (eBin gIx (eVar 3) (eBin gIx (eVar 7) (eC (.int 0)))) (eCall gMinL (aCons (eSl (eVar 3) oNone (oSome (eC (.int 4)))) aNil))) aNil))))))))))))
def c__law_of_rows : List D → Mu → Res D := runDef 11 b__law_of_rows
theorem sc__law_of_rows : FnScope ["kinds", "name", "feed", "trusts", "log", "found", "ignored", "rest", "entries", "exits", "at"] ["kinds", "name", "feed"] (defScope s__law_of_rows) := ⟨rfl, rfl, rfl, by decide +kernel, rfl, by decide +kernel, by decide +kernel⟩
theorem ok__law_of_rows {f : Addr} {fd : FuncData} (F : Fun K "_law_of_rows" "_law_of_rows" s__law_of_rows f fd) (B : Bi K mg) (T : Tx K mg) (hsm : ∃ o, base.get? sysModules = some o) (H__law_pick : Has P w K mg base 2 "_law_pick" 2 [] c__law_pick) (H_lacks : Has P w K mg base 5 "lacks" 3 [] c_lacks) (H_graded_repair : Has P w K mg base 6 "graded_repair" 3 [] c_graded_repair) (H_shortage_size : Has P w K mg base 5 "shortage_size" 4 [] c_shortage_size) : FnT P w K mg base 7 f fd ["kinds", "name", "feed"] c__law_of_rows := by
  refine fn_ok F sc__law_of_rows fun cdv A outer s H E hr hgd => ?_
  have hu := hr.units
  exact (dss_cons (ds_par2 rfl sc__law_of_rows.nd rfl rfl (by decide) rfl rfl (da_cons (de_fz (dn_lc (own := [("at", 10)]) (by decide) rfl sc__law_of_rows.nd (di_range1 rfl B.range_ (da_cons de_int da_nil)) (blkOk_by (N := ["kinds", "name", "feed", "trusts", "log", "found", "ignored", "rest", "entries", "exits", "at"]) (sc := defScope s__law_of_rows) (by decide +kernel)) (fun _ _ _ _ _ => (gt_nm sc__law_of_rows.nd rfl (by first | exact Or.inl rfl | exact Or.inr rfl))) (fun _ _ _ _ _ => dts_nil) (fun _ _ _ _ _ => (de_tup (da_cons (de_bin o2_mul de_int (dv 10)) (da_cons (dv 1) (da_cons de_none da_nil))))))) (da_cons (de_fz (dn_lc (own := [("at", 10)]) (by decide) rfl sc__law_of_rows.nd (di_range1 rfl B.range_ (da_cons de_int da_nil)) (blkOk_by (N := ["kinds", "name", "feed", "trusts", "log", "found", "ignored", "rest", "entries", "exits", "at"]) (sc := defScope s__law_of_rows) (by decide +kernel)) (fun _ _ _ _ _ => (gt_nm sc__law_of_rows.nd rfl (by first | exact Or.inl rfl | exact Or.inr rfl))) (fun _ _ _ _ _ => dts_nil) (fun _ _ _ _ _ => (de_tup (da_cons (de_bin o2_add (de_bin o2_mul de_int (dv 10)) de_int) (da_cons (dv 1) (da_cons de_none da_nil))))))) da_nil)))
  (dss_cons (lc_set1 (own := [("at", 10)]) (by decide) rfl sc__law_of_rows.nd rfl rfl (sw_true rfl rfl rfl (by decide +kernel)) (di_range1 rfl B.range_ (da_cons de_int da_nil)) (blkOk_by (N := ["kinds", "name", "feed", "trusts", "log", "found", "ignored", "rest", "entries", "exits", "at"]) (sc := defScope s__law_of_rows) (by decide +kernel)) (fun _ _ _ _ _ => (gt_nm sc__law_of_rows.nd rfl (by first | exact Or.inl rfl | exact Or.inr rfl))) (fun _ _ _ _ _ => dts_nil) (fun _ _ _ _ _ => (dcall H__law_pick (hr.mono (by decide)) hgd rfl passL (da_cons (dv 2) (da_cons (de_fz (dn_lst (da_cons de_int (da_cons de_int (da_cons de_int da_nil))))) da_nil)))))
  (dss_cons (ds_set sc__law_of_rows.nd rfl (by first | exact Or.inl rfl | exact Or.inr rfl) (de_tup (da_cons (dv 8) (da_cons (dv 9) (da_cons de_str (da_cons de_str da_nil))))))
  (dss_cons (ds_set sc__law_of_rows.nd rfl (by first | exact Or.inl rfl | exact Or.inr rfl) (de_fz (dn_lst (da_cons (de_cmp (o2_eq hu) (de_ix hu (dcall H_lacks (hr.mono (by decide)) hgd rfl (passes_call (takes_of rfl rfl rfl rfl) fun _ _ _ _ h => h) (da_cons (dv 0) (da_cons (dv 4) (da_cons (de_tup (da_cons (dv 3) (da_cons (de_bin o2_mul (de_fz (dn_lst (da_cons de_int da_nil))) de_int) da_nil))) da_nil)))) de_int) (de_bin o2_mul (de_fz (dn_lst (da_cons de_int da_nil))) de_int) (nomark _)) da_nil))))
  (dss_cons (ds_set sc__law_of_rows.nd rfl (by first | exact Or.inl rfl | exact Or.inr rfl) (de_ix hu (dcall H_graded_repair (hr.mono (by decide)) hgd rfl (passes_call (takes_of rfl rfl rfl rfl) fun _ _ _ _ h => h) (da_cons (dv 0) (da_cons (dv 4) (da_cons (de_tup (da_cons (dv 3) (da_cons (de_bin o2_mul (de_fz (dn_lst (da_cons de_int da_nil))) de_int) da_nil))) da_nil)))) de_int))
  (dss_cons (ds_set sc__law_of_rows.nd rfl (by first | exact Or.inl rfl | exact Or.inr rfl) (de_bin o2_add (dv 5) (de_fz (dn_lst (da_cons (de_cmp (o2_eq hu) (de_callB cal_len rfl B.len_ rfl (da_cons (dv 6) da_nil)) de_int (nomark _)) (da_cons (de_cmp (o2_in hu) de_int (dv 6) (by with_unfolding_all rfl)) (da_cons (de_cmp (o2_eq hu) (dcall H_shortage_size (hr.mono (by decide)) hgd rfl (passes_call (takes_of rfl rfl rfl rfl) fun _ _ _ _ h => h) (da_cons (dv 0) (da_cons (dv 4) (da_cons de_str (da_cons (de_fz (dn_lst (da_cons de_int (da_cons de_int (da_cons de_int (da_cons de_int (da_cons de_int da_nil))))))) da_nil))))) de_int (nomark _)) da_nil)))))))
  (dss_cons (lc_set1 (own := [("at", 10)]) (by decide) rfl sc__law_of_rows.nd rfl rfl (sw_true rfl rfl rfl (by decide +kernel)) (di_val (dv 6)) (blkOk_by (N := ["kinds", "name", "feed", "trusts", "log", "found", "ignored", "rest", "entries", "exits", "at"]) (sc := defScope s__law_of_rows) (by decide +kernel)) (fun _ _ _ _ _ => (gt_nm sc__law_of_rows.nd rfl (by first | exact Or.inl rfl | exact Or.inr rfl))) (fun _ _ _ _ _ => (dts_one (dt_cmp (o2_ne hu) (dv 10) de_int (nomark _)))) (fun _ _ _ _ _ => (dv 10)))
  (dss_one (ds_ret (de_bin o2_add (dv 5) (de_fz (dn_lst (da_cons (de_cmp (o2_eq hu) (de_ix hu (dv 3) (de_ix hu (dv 7) de_int)) (de_callB (cal_minL rfl) rfl B.min_ rfl (da_cons (de_sl (dv 3) do_none (do_some de_int)) da_nil)) (nomark _)) da_nil)))))))))))))
/-! ### law -/
abbrev s_law : Stmt := top 47
def b_law : FS := (sSeq (sSet 1 (eCallF 2 c__law_feed [] (aCons (eVar 0) (aCons (eC (.int 0)) aNil))))
  (sSeq (sSet 2 (eCallF 2 c__law_pick [] (aCons (eVar 1) (aCons (eFz (nLst (aCons (eC (.str "car")) (aCons (eC (.str "bus")) (aCons (eC (.str "a")) aNil))))) aNil))))
  (sSeq (sSet 3 (eBin gAdd (eC (.int 1)) (eCallF 2 c__law_take [] (aCons (eVar 1) (aCons (eC (.int 8)) aNil)))))
  (sSeq (sSet 4 (eBin gAdd (eBin gAdd (eVar 3) (eC (.int 1))) (eCallF 2 c__law_take [] (aCons (eVar 1) (aCons (eBin gSub (eC (.int 9)) (eVar 3)) aNil)))))
  (sSeq (sSet 5 (eBin gAdd (eCallF 4 c__law_of_two [] (aCons (eFz (nDisp (pCons (eVar 2) (eTup (aCons (eC (.int 5)) (aCons (eC (.int 10)) aNil))) pNil))) (aCons (eVar 2) (aCons (eVar 3) (aCons (eVar 4) aNil))))) (eCallF 2 c__law_of_open_gates [] (aCons (eFz (nDisp (pCons (eVar 2) (eTup (aCons (eC (.int 5)) (aCons (eC (.int 10)) aNil))) pNil))) (aCons (eVar 2) aNil)))))
  (sSeq (sSet 5 (eBin gAdd (eVar 5) (eCallF 3 c__law_of_rows [] (aCons (eFz (nDisp (pCons (eVar 2) (eTup (aCons (eC (.int 5)) (aCons (eC (.int 15)) aNil))) pNil))) (aCons (eVar 2) (aCons (eVar 1) aNil))))))
  (sRet (eBin gEqE (eFz (nComp (iVal (eVar 5)) (.nm 6) (eT (eBin gIsNot (eVar 6) (eC (.bool true)))) (eVar 6) [6])) (eFz (nLst aNil))))))))))
def c_law : List D → Mu → Res D := runDef 7 b_law
theorem sc_law : FnScope ["script", "feed", "name", "low", "high", "found", "thing"] ["script"] (defScope s_law) := ⟨rfl, rfl, rfl, by decide +kernel, rfl, by decide +kernel, by decide +kernel⟩
theorem ok_law {f : Addr} {fd : FuncData} (F : Fun K "law" "law" s_law f fd) (B : Bi K mg) (T : Tx K mg) (hsm : ∃ o, base.get? sysModules = some o) (H__law_feed : Has P w K mg base 1 "_law_feed" 2 [] c__law_feed) (H__law_pick : Has P w K mg base 2 "_law_pick" 2 [] c__law_pick) (H__law_take : Has P w K mg base 1 "_law_take" 2 [] c__law_take) (H__law_of_two : Has P w K mg base 7 "_law_of_two" 4 [] c__law_of_two) (H__law_of_open_gates : Has P w K mg base 7 "_law_of_open_gates" 2 [] c__law_of_open_gates) (H__law_of_rows : Has P w K mg base 7 "_law_of_rows" 3 [] c__law_of_rows) : FnT P w K mg base 8 f fd ["script"] c_law := by
  refine fn_ok F sc_law fun cdv A outer s H E hr hgd => ?_
  have hu := hr.units
  exact (dss_cons (ds_set sc_law.nd rfl (by first | exact Or.inl rfl | exact Or.inr rfl) (dcall H__law_feed (hr.mono (by decide)) hgd rfl (passes_call (takes_of rfl rfl rfl rfl) fun _ _ _ _ h => h) (da_cons (dv 0) (da_cons de_int da_nil))))
  (dss_cons (ds_set sc_law.nd rfl (by first | exact Or.inl rfl | exact Or.inr rfl) (dcall H__law_pick (hr.mono (by decide)) hgd rfl (passes_call (takes_of rfl rfl rfl rfl) fun _ _ _ _ h => h) (da_cons (dv 1) (da_cons (de_fz (dn_lst (da_cons de_str (da_cons de_str (da_cons de_str da_nil))))) da_nil))))
  (dss_cons (ds_set sc_law.nd rfl (by first | exact Or.inl rfl | exact Or.inr rfl) (de_bin o2_add de_int (dcall H__law_take (hr.mono (by decide)) hgd rfl (passes_call (takes_of rfl rfl rfl rfl) fun _ _ _ _ h => h) (da_cons (dv 1) (da_cons de_int da_nil)))))
  (dss_cons (ds_set sc_law.nd rfl (by first | exact Or.inl rfl | exact Or.inr rfl) (de_bin o2_add (de_bin o2_add (dv 3) de_int) (dcall H__law_take (hr.mono (by decide)) hgd rfl (passes_call (takes_of rfl rfl rfl rfl) fun _ _ _ _ h => h) (da_cons (dv 1) (da_cons (de_bin o2_sub de_int (dv 3)) da_nil)))))
  (dss_cons (ds_set sc_law.nd rfl (by first | exact Or.inl rfl | exact Or.inr rfl) (de_bin o2_add (dcall H__law_of_two (hr.mono (by decide)) hgd rfl (passes_call (takes_of rfl rfl rfl rfl) fun _ _ _ _ h => h) (da_cons (de_fz (dn_disp (dp_cons (dv 2) (de_tup (da_cons de_int (da_cons de_int da_nil))) dp_nil))) (da_cons (dv 2) (da_cons (dv 3) (da_cons (dv 4) da_nil))))) (dcall H__law_of_open_gates (hr.mono (by decide)) hgd rfl (passes_call (takes_of rfl rfl rfl rfl) fun _ _ _ _ h => h) (da_cons (de_fz (dn_disp (dp_cons (dv 2) (de_tup (da_cons de_int (da_cons de_int da_nil))) dp_nil))) (da_cons (dv 2) da_nil)))))
  (dss_cons (ds_set sc_law.nd rfl (by first | exact Or.inl rfl | exact Or.inr rfl) (de_bin o2_add (dv 5) (dcall H__law_of_rows (hr.mono (by decide)) hgd rfl (passes_call (takes_of rfl rfl rfl rfl) fun _ _ _ _ h => h) (da_cons (de_fz (dn_disp (dp_cons (dv 2) (de_tup (da_cons de_int (da_cons de_int da_nil))) dp_nil))) (da_cons (dv 2) (da_cons (dv 1) da_nil))))))
  (dss_one (ds_ret (de_cmp (o2_eqE hu) (de_fz (dn_lc (own := [("thing", 6)]) (by decide) rfl sc_law.nd (di_val (dv 5)) (blkOk_by (N := ["script", "feed", "name", "low", "high", "found", "thing"]) (sc := defScope s_law) (by decide +kernel)) (fun _ _ _ _ _ => (gt_nm sc_law.nd rfl (by first | exact Or.inl rfl | exact Or.inr rfl))) (fun _ _ _ _ _ => (dts_one (dt_cmp o2_isnot (dv 6) de_bool (nomark _)))) (fun _ _ _ _ _ => (dv 6)))) (de_fz (dn_lst da_nil)) (nomark _))))))))))
end
theorem all_mk {l : PySem.W.OpenLaw} {w : World} {K : PySem.W.Frag} {h : Heap} {mg : Str → Option Value} {fa f0 f1 f2 f3 f4 f5 f6 f7 f8 f9 f10 f11 f12 f13 f14 f15 f16 f17 f18 f19 f20 f21 f22 f23 f24 f25 f26 f27 f28 f29 f30 f31 f32 f33 f34 f35 f36 f37 f38 f39 f40 f41 f42 f43 f44 g3 g8 g9 g11 g12 g14 g15 g27 g28 g31 g36 t_GATES : Addr} (X : K.In h) (G : h.Ns mainGlobals mg) (hfa : mg "law" = some (.ref fa))
    {od0 an0 od1 an1 od2 an2 od3 an3 od4 an4 od5 an5 od6 an6 od7 an7 od8 an8 od9 an9 od10 an10 od11 an11 od12 an12 od13 an13 od14 an14 od15 an15 od16 an16 od17 an17 od18 an18 od19 an19 od20 an20 od21 an21 od22 an22 od23 an23 od24 an24 od25 an25 od26 an26 od27 an27 od28 an28 od29 an29 od30 an30 od31 an31 od32 an32 od33 an33 od34 an34 od35 an35 od36 an36 od37 an37 od38 an38 od39 an39 od40 an40 od41 an41 od42 an42 od43 an43 od44 an44 : Option Addr} {sl0 sl1 sl2 sl3 sl4 sl5 sl6 sl7 sl8 sl9 sl10 sl11 sl12 sl13 sl14 sl15 sl16 sl17 sl18 sl19 sl20 sl21 sl22 sl23 sl24 sl25 sl26 sl27 sl28 sl29 sl30 sl31 sl32 sl33 sl34 sl35 sl36 sl37 sl38 sl39 sl40 sl41 sl42 sl43 sl44 : Array (Option Value)} {oc0 kV0 dc0 pm0 cd0 ct0 oc1 kV1 dc1 pm1 cd1 ct1 oc2 kV2 dc2 pm2 cd2 ct2 oc3 kV3 dc3 pm3 cd3 ct3 oc4 kV4 dc4 pm4 cd4 ct4 oc5 kV5 dc5 pm5 cd5 ct5 oc6 kV6 dc6 pm6 cd6 ct6 oc7 kV7 dc7 pm7 cd7 ct7 oc8 kV8 dc8 pm8 cd8 ct8 oc9 kV9 dc9 pm9 cd9 ct9 oc10 kV10 dc10 pm10 cd10 ct10 oc11 kV11 dc11 pm11 cd11 ct11 oc12 kV12 dc12 pm12 cd12 ct12 oc13 kV13 dc13 pm13 cd13 ct13 oc14 kV14 dc14 pm14 cd14 ct14 oc15 kV15 dc15 pm15 cd15 ct15 oc16 kV16 dc16 pm16 cd16 ct16 oc17 kV17 dc17 pm17 cd17 ct17 oc18 kV18 dc18 pm18 cd18 ct18 oc19 kV19 dc19 pm19 cd19 ct19 oc20 kV20 dc20 pm20 cd20 ct20 oc21 kV21 dc21 pm21 cd21 ct21 oc22 kV22 dc22 pm22 cd22 ct22 oc23 kV23 dc23 pm23 cd23 ct23 oc24 kV24 dc24 pm24 cd24 ct24 oc25 kV25 dc25 pm25 cd25 ct25 oc26 kV26 dc26 pm26 cd26 ct26 oc27 kV27 dc27 pm27 cd27 ct27 oc28 kV28 dc28 pm28 cd28 ct28 oc29 kV29 dc29 pm29 cd29 ct29 oc30 kV30 dc30 pm30 cd30 ct30 oc31 kV31 dc31 pm31 cd31 ct31 oc32 kV32 dc32 pm32 cd32 ct32 oc33 kV33 dc33 pm33 cd33 ct33 oc34 kV34 dc34 pm34 cd34 ct34 oc35 kV35 dc35 pm35 cd35 ct35 oc36 kV36 dc36 pm36 cd36 ct36 oc37 kV37 dc37 pm37 cd37 ct37 oc38 kV38 dc38 pm38 cd38 ct38 oc39 kV39 dc39 pm39 cd39 ct39 oc40 kV40 dc40 pm40 cd40 ct40 oc41 kV41 dc41 pm41 cd41 ct41 oc42 kV42 dc42 pm42 cd42 ct42 oc43 kV43 dc43 pm43 cd43 ct43 oc44 kV44 dc44 pm44 cd44 ct44 v_MAX_TRUST v_CLOSED v_MAX_TIME : Value} {its_GATES : Array Value} {nt_GATES : Nat} {sl_GATES : Array (Option Value)}
    (a0 : PySem.W.nsIn K mainGlobals "_law_feed" = some (some (.ref f0)))
    (l0 : K.lookup f0 = some ⟨oc0, od0, .func (PySem.W.fnOf "_law_feed" "_law_feed" (defArgs s__law_feed) (defBody s__law_feed) (defScope s__law_feed) .none kV0 dc0 pm0 an0 cd0 ct0), sl0⟩)
    (c0 : PySem.W.codeIn K cd0 "_law_feed" = true)
    (k0 : PySem.W.keepIn K (.ref f0) = true)
    (a1 : PySem.W.nsIn K mainGlobals "_law_take" = some (some (.ref f1)))
    (l1 : K.lookup f1 = some ⟨oc1, od1, .func (PySem.W.fnOf "_law_take" "_law_take" (defArgs s__law_take) (defBody s__law_take) (defScope s__law_take) .none kV1 dc1 pm1 an1 cd1 ct1), sl1⟩)
    (c1 : PySem.W.codeIn K cd1 "_law_take" = true)
    (k1 : PySem.W.keepIn K (.ref f1) = true)
    (a2 : PySem.W.nsIn K mainGlobals "_law_pick" = some (some (.ref f2)))
    (l2 : K.lookup f2 = some ⟨oc2, od2, .func (PySem.W.fnOf "_law_pick" "_law_pick" (defArgs s__law_pick) (defBody s__law_pick) (defScope s__law_pick) .none kV2 dc2 pm2 an2 cd2 ct2), sl2⟩)
    (c2 : PySem.W.codeIn K cd2 "_law_pick" = true)
    (k2 : PySem.W.keepIn K (.ref f2) = true)
    (w3 : PySem.W.nsIn K mainGlobals "Side" = some (some (.ref g3)))
    (a3 : PySem.W.findIn K (.ref g3) "__init__" = some (some (.ref f3)))
    (i3 : PySem.W.isFn K (.ref f3) = true)
    (l3 : K.lookup f3 = some ⟨oc3, od3, .func (PySem.W.fnOf "__init__" "Side.__init__" (defArgs s_Side___init__) (defBody s_Side___init__) (defScope s_Side___init__) .none kV3 dc3 pm3 an3 cd3 ct3), sl3⟩)
    (c3 : PySem.W.codeIn K cd3 "Side.__init__" = true)
    (k3 : PySem.W.keepIn K (.ref f3) = true)
    (u3 : PySem.W.plainGet K g3 Str.empty = true)
    (v3 : PySem.W.hasDictIn K g3 = true)
    (p3 : PySem.W.plainOver K g3 = true)
    (s3 : PySem.W.findIn K (.ref g3) "__setattr__" = some (some (.builtin "object.__setattr__")))
    (m3 : PySem.W.makesIn K g3 = true)
    (q3 : PySem.W.keepIn K (.ref g3) = true)
    (n3_must : PySem.W.findIn K (.ref g3) "must" = some none)
    (n3_neighbours : PySem.W.findIn K (.ref g3) "neighbours" = some none)
    (n3_trust_of : PySem.W.findIn K (.ref g3) "trust_of" = some none)
    (a4 : PySem.W.nsIn K mainGlobals "sides_of" = some (some (.ref f4)))
    (l4 : K.lookup f4 = some ⟨oc4, od4, .func (PySem.W.fnOf "sides_of" "sides_of" (defArgs s_sides_of) (defBody s_sides_of) (defScope s_sides_of) .none kV4 dc4 pm4 an4 cd4 ct4), sl4⟩)
    (c4 : PySem.W.codeIn K cd4 "sides_of" = true)
    (k4 : PySem.W.keepIn K (.ref f4) = true)
    (a5 : PySem.W.nsIn K mainGlobals "search" = some (some (.ref f5)))
    (l5 : K.lookup f5 = some ⟨oc5, od5, .func (PySem.W.fnOf "search" "search" (defArgs s_search) (defBody s_search) (defScope s_search) .none kV5 dc5 pm5 an5 cd5 ct5), sl5⟩)
    (c5 : PySem.W.codeIn K cd5 "search" = true)
    (k5 : PySem.W.keepIn K (.ref f5) = true)
    (a6 : PySem.W.nsIn K mainGlobals "cover" = some (some (.ref f6)))
    (l6 : K.lookup f6 = some ⟨oc6, od6, .func (PySem.W.fnOf "cover" "cover" (defArgs s_cover) (defBody s_cover) (defScope s_cover) .none kV6 dc6 pm6 an6 cd6 ct6), sl6⟩)
    (c6 : PySem.W.codeIn K cd6 "cover" = true)
    (k6 : PySem.W.keepIn K (.ref f6) = true)
    (a7 : PySem.W.nsIn K mainGlobals "covering" = some (some (.ref f7)))
    (l7 : K.lookup f7 = some ⟨oc7, od7, .func (PySem.W.fnOf "covering" "covering" (defArgs s_covering) (defBody s_covering) (defScope s_covering) .none kV7 dc7 pm7 an7 cd7 ct7), sl7⟩)
    (c7 : PySem.W.codeIn K cd7 "covering" = true)
    (k7 : PySem.W.keepIn K (.ref f7) = true)
    (w8 : PySem.W.nsIn K mainGlobals "Graph" = some (some (.ref g8)))
    (a8 : PySem.W.findIn K (.ref g8) "__init__" = some (some (.ref f8)))
    (i8 : PySem.W.isFn K (.ref f8) = true)
    (l8 : K.lookup f8 = some ⟨oc8, od8, .func (PySem.W.fnOf "__init__" "Graph.__init__" (defArgs s_Graph___init__) (defBody s_Graph___init__) (defScope s_Graph___init__) .none kV8 dc8 pm8 an8 cd8 ct8), sl8⟩)
    (c8 : PySem.W.codeIn K cd8 "Graph.__init__" = true)
    (k8 : PySem.W.keepIn K (.ref f8) = true)
    (u8 : PySem.W.plainGet K g8 Str.empty = true)
    (v8 : PySem.W.hasDictIn K g8 = true)
    (p8 : PySem.W.plainOver K g8 = true)
    (s8 : PySem.W.findIn K (.ref g8) "__setattr__" = some (some (.builtin "object.__setattr__")))
    (m8 : PySem.W.makesIn K g8 = true)
    (q8 : PySem.W.keepIn K (.ref g8) = true)
    (n8_entries_of : PySem.W.findIn K (.ref g8) "entries_of" = some none)
    (n8_exits_of : PySem.W.findIn K (.ref g8) "exits_of" = some none)
    (n8_must_entries : PySem.W.findIn K (.ref g8) "must_entries" = some none)
    (n8_must_exits : PySem.W.findIn K (.ref g8) "must_exits" = some none)
    (w9 : PySem.W.nsIn K mainGlobals "Graph" = some (some (.ref g9)))
    (a9 : PySem.W.findIn K (.ref g9) "without_lines" = some (some (.ref f9)))
    (i9 : PySem.W.isFn K (.ref f9) = true)
    (l9 : K.lookup f9 = some ⟨oc9, od9, .func (PySem.W.fnOf "without_lines" "Graph.without_lines" (defArgs s_Graph_without_lines) (defBody s_Graph_without_lines) (defScope s_Graph_without_lines) .none kV9 dc9 pm9 an9 cd9 ct9), sl9⟩)
    (c9 : PySem.W.codeIn K cd9 "Graph.without_lines" = true)
    (k9 : PySem.W.keepIn K (.ref f9) = true)
    (u9 : PySem.W.plainGet K g9 Str.empty = true)
    (v9 : PySem.W.hasDictIn K g9 = true)
    (p9 : PySem.W.plainOver K g9 = true)
    (s9 : PySem.W.findIn K (.ref g9) "__setattr__" = some (some (.builtin "object.__setattr__")))
    (m9 : PySem.W.makesIn K g9 = true)
    (q9 : PySem.W.keepIn K (.ref g9) = true)
    (n9_entries_of : PySem.W.findIn K (.ref g9) "entries_of" = some none)
    (n9_exits_of : PySem.W.findIn K (.ref g9) "exits_of" = some none)
    (n9_must_entries : PySem.W.findIn K (.ref g9) "must_entries" = some none)
    (n9_must_exits : PySem.W.findIn K (.ref g9) "must_exits" = some none)
    (a10 : PySem.W.nsIn K mainGlobals "greedy" = some (some (.ref f10)))
    (l10 : K.lookup f10 = some ⟨oc10, od10, .func (PySem.W.fnOf "greedy" "greedy" (defArgs s_greedy) (defBody s_greedy) (defScope s_greedy) .none kV10 dc10 pm10 an10 cd10 ct10), sl10⟩)
    (c10 : PySem.W.codeIn K cd10 "greedy" = true)
    (k10 : PySem.W.keepIn K (.ref f10) = true)
    (w11 : PySem.W.nsIn K mainGlobals "Side" = some (some (.ref g11)))
    (a11 : PySem.W.findIn K (.ref g11) "shown" = some (some (.ref f11)))
    (i11 : PySem.W.isFn K (.ref f11) = true)
    (l11 : K.lookup f11 = some ⟨oc11, od11, .func (PySem.W.fnOf "shown" "Side.shown" (defArgs s_Side_shown) (defBody s_Side_shown) (defScope s_Side_shown) .none kV11 dc11 pm11 an11 cd11 ct11), sl11⟩)
    (c11 : PySem.W.codeIn K cd11 "Side.shown" = true)
    (k11 : PySem.W.keepIn K (.ref f11) = true)
    (u11 : PySem.W.plainGet K g11 Str.empty = true)
    (v11 : PySem.W.hasDictIn K g11 = true)
    (p11 : PySem.W.plainOver K g11 = true)
    (s11 : PySem.W.findIn K (.ref g11) "__setattr__" = some (some (.builtin "object.__setattr__")))
    (m11 : PySem.W.makesIn K g11 = true)
    (q11 : PySem.W.keepIn K (.ref g11) = true)
    (n11_must : PySem.W.findIn K (.ref g11) "must" = some none)
    (n11_neighbours : PySem.W.findIn K (.ref g11) "neighbours" = some none)
    (n11_trust_of : PySem.W.findIn K (.ref g11) "trust_of" = some none)
    (w12 : PySem.W.nsIn K mainGlobals "Side" = some (some (.ref g12)))
    (a12 : PySem.W.findIn K (.ref g12) "ordered" = some (some (.ref f12)))
    (i12 : PySem.W.isFn K (.ref f12) = true)
    (l12 : K.lookup f12 = some ⟨oc12, od12, .func (PySem.W.fnOf "ordered" "Side.ordered" (defArgs s_Side_ordered) (defBody s_Side_ordered) (defScope s_Side_ordered) .none kV12 dc12 pm12 an12 cd12 ct12), sl12⟩)
    (c12 : PySem.W.codeIn K cd12 "Side.ordered" = true)
    (k12 : PySem.W.keepIn K (.ref f12) = true)
    (u12 : PySem.W.plainGet K g12 Str.empty = true)
    (v12 : PySem.W.hasDictIn K g12 = true)
    (p12 : PySem.W.plainOver K g12 = true)
    (s12 : PySem.W.findIn K (.ref g12) "__setattr__" = some (some (.builtin "object.__setattr__")))
    (m12 : PySem.W.makesIn K g12 = true)
    (q12 : PySem.W.keepIn K (.ref g12) = true)
    (n12_must : PySem.W.findIn K (.ref g12) "must" = some none)
    (n12_neighbours : PySem.W.findIn K (.ref g12) "neighbours" = some none)
    (n12_trust_of : PySem.W.findIn K (.ref g12) "trust_of" = some none)
    (a13 : PySem.W.nsIn K mainGlobals "best_of" = some (some (.ref f13)))
    (l13 : K.lookup f13 = some ⟨oc13, od13, .func (PySem.W.fnOf "best_of" "best_of" (defArgs s_best_of) (defBody s_best_of) (defScope s_best_of) .none kV13 dc13 pm13 an13 cd13 ct13), sl13⟩)
    (c13 : PySem.W.codeIn K cd13 "best_of" = true)
    (k13 : PySem.W.keepIn K (.ref f13) = true)
    (w14 : PySem.W.nsIn K mainGlobals "Side" = some (some (.ref g14)))
    (a14 : PySem.W.findIn K (.ref g14) "joined" = some (some (.ref f14)))
    (i14 : PySem.W.isFn K (.ref f14) = true)
    (l14 : K.lookup f14 = some ⟨oc14, od14, .func (PySem.W.fnOf "joined" "Side.joined" (defArgs s_Side_joined) (defBody s_Side_joined) (defScope s_Side_joined) .none kV14 dc14 pm14 an14 cd14 ct14), sl14⟩)
    (c14 : PySem.W.codeIn K cd14 "Side.joined" = true)
    (k14 : PySem.W.keepIn K (.ref f14) = true)
    (u14 : PySem.W.plainGet K g14 Str.empty = true)
    (v14 : PySem.W.hasDictIn K g14 = true)
    (p14 : PySem.W.plainOver K g14 = true)
    (s14 : PySem.W.findIn K (.ref g14) "__setattr__" = some (some (.builtin "object.__setattr__")))
    (m14 : PySem.W.makesIn K g14 = true)
    (q14 : PySem.W.keepIn K (.ref g14) = true)
    (n14_must : PySem.W.findIn K (.ref g14) "must" = some none)
    (n14_neighbours : PySem.W.findIn K (.ref g14) "neighbours" = some none)
    (n14_trust_of : PySem.W.findIn K (.ref g14) "trust_of" = some none)
    (w15 : PySem.W.nsIn K mainGlobals "Side" = some (some (.ref g15)))
    (a15 : PySem.W.findIn K (.ref g15) "shortages" = some (some (.ref f15)))
    (i15 : PySem.W.isFn K (.ref f15) = true)
    (l15 : K.lookup f15 = some ⟨oc15, od15, .func (PySem.W.fnOf "shortages" "Side.shortages" (defArgs s_Side_shortages) (defBody s_Side_shortages) (defScope s_Side_shortages) .none kV15 dc15 pm15 an15 cd15 ct15), sl15⟩)
    (c15 : PySem.W.codeIn K cd15 "Side.shortages" = true)
    (k15 : PySem.W.keepIn K (.ref f15) = true)
    (u15 : PySem.W.plainGet K g15 Str.empty = true)
    (v15 : PySem.W.hasDictIn K g15 = true)
    (p15 : PySem.W.plainOver K g15 = true)
    (s15 : PySem.W.findIn K (.ref g15) "__setattr__" = some (some (.builtin "object.__setattr__")))
    (m15 : PySem.W.makesIn K g15 = true)
    (q15 : PySem.W.keepIn K (.ref g15) = true)
    (n15_must : PySem.W.findIn K (.ref g15) "must" = some none)
    (n15_neighbours : PySem.W.findIn K (.ref g15) "neighbours" = some none)
    (n15_trust_of : PySem.W.findIn K (.ref g15) "trust_of" = some none)
    (a16 : PySem.W.nsIn K mainGlobals "graded_by" = some (some (.ref f16)))
    (l16 : K.lookup f16 = some ⟨oc16, od16, .func (PySem.W.fnOf "graded_by" "graded_by" (defArgs s_graded_by) (defBody s_graded_by) (defScope s_graded_by) .none kV16 dc16 pm16 an16 cd16 ct16), sl16⟩)
    (c16 : PySem.W.codeIn K cd16 "graded_by" = true)
    (k16 : PySem.W.keepIn K (.ref f16) = true)
    (a17 : PySem.W.nsIn K mainGlobals "missing_exit_time" = some (some (.ref f17)))
    (l17 : K.lookup f17 = some ⟨oc17, od17, .func (PySem.W.fnOf "missing_exit_time" "missing_exit_time" (defArgs s_missing_exit_time) (defBody s_missing_exit_time) (defScope s_missing_exit_time) .none kV17 dc17 pm17 an17 cd17 ct17), sl17⟩)
    (c17 : PySem.W.codeIn K cd17 "missing_exit_time" = true)
    (k17 : PySem.W.keepIn K (.ref f17) = true)
    (a18 : PySem.W.nsIn K mainGlobals "missing_entry_time" = some (some (.ref f18)))
    (l18 : K.lookup f18 = some ⟨oc18, od18, .func (PySem.W.fnOf "missing_entry_time" "missing_entry_time" (defArgs s_missing_entry_time) (defBody s_missing_entry_time) (defScope s_missing_entry_time) .none kV18 dc18 pm18 an18 cd18 ct18), sl18⟩)
    (c18 : PySem.W.codeIn K cd18 "missing_entry_time" = true)
    (k18 : PySem.W.keepIn K (.ref f18) = true)
    (a19 : PySem.W.nsIn K mainGlobals "may_be_open" = some (some (.ref f19)))
    (l19 : K.lookup f19 = some ⟨oc19, od19, .func (PySem.W.fnOf "may_be_open" "may_be_open" (defArgs s_may_be_open) (defBody s_may_be_open) (defScope s_may_be_open) .none kV19 dc19 pm19 an19 cd19 ct19), sl19⟩)
    (c19 : PySem.W.codeIn K cd19 "may_be_open" = true)
    (k19 : PySem.W.keepIn K (.ref f19) = true)
    (a20 : PySem.W.nsIn K mainGlobals "must_lines" = some (some (.ref f20)))
    (l20 : K.lookup f20 = some ⟨oc20, od20, .func (PySem.W.fnOf "must_lines" "must_lines" (defArgs s_must_lines) (defBody s_must_lines) (defScope s_must_lines) .none kV20 dc20 pm20 an20 cd20 ct20), sl20⟩)
    (c20 : PySem.W.codeIn K cd20 "must_lines" = true)
    (k20 : PySem.W.keepIn K (.ref f20) = true)
    (a21 : PySem.W.nsIn K mainGlobals "fits" = some (some (.ref f21)))
    (l21 : K.lookup f21 = some ⟨oc21, od21, .func (PySem.W.fnOf "fits" "fits" (defArgs s_fits) (defBody s_fits) (defScope s_fits) .none kV21 dc21 pm21 an21 cd21 ct21), sl21⟩)
    (c21 : PySem.W.codeIn K cd21 "fits" = true)
    (k21 : PySem.W.keepIn K (.ref f21) = true)
    (a22 : PySem.W.nsIn K mainGlobals "graph_of" = some (some (.ref f22)))
    (l22 : K.lookup f22 = some ⟨oc22, od22, .func (PySem.W.fnOf "graph_of" "graph_of" (defArgs s_graph_of) (defBody s_graph_of) (defScope s_graph_of) .none kV22 dc22 pm22 an22 cd22 ct22), sl22⟩)
    (c22 : PySem.W.codeIn K cd22 "graph_of" = true)
    (k22 : PySem.W.keepIn K (.ref f22) = true)
    (a23 : PySem.W.nsIn K mainGlobals "graded_repair" = some (some (.ref f23)))
    (l23 : K.lookup f23 = some ⟨oc23, od23, .func (PySem.W.fnOf "graded_repair" "graded_repair" (defArgs s_graded_repair) (defBody s_graded_repair) (defScope s_graded_repair) .none kV23 dc23 pm23 an23 cd23 ct23), sl23⟩)
    (c23 : PySem.W.codeIn K cd23 "graded_repair" = true)
    (k23 : PySem.W.keepIn K (.ref f23) = true)
    (a24 : PySem.W.nsIn K mainGlobals "is_integer" = some (some (.ref f24)))
    (l24 : K.lookup f24 = some ⟨oc24, od24, .func (PySem.W.fnOf "is_integer" "is_integer" (defArgs s_is_integer) (defBody s_is_integer) (defScope s_is_integer) .none kV24 dc24 pm24 an24 cd24 ct24), sl24⟩)
    (c24 : PySem.W.codeIn K cd24 "is_integer" = true)
    (k24 : PySem.W.keepIn K (.ref f24) = true)
    (a25 : PySem.W.nsIn K mainGlobals "is_pair" = some (some (.ref f25)))
    (l25 : K.lookup f25 = some ⟨oc25, od25, .func (PySem.W.fnOf "is_pair" "is_pair" (defArgs s_is_pair) (defBody s_is_pair) (defScope s_is_pair) .none kV25 dc25 pm25 an25 cd25 ct25), sl25⟩)
    (c25 : PySem.W.codeIn K cd25 "is_pair" = true)
    (k25 : PySem.W.keepIn K (.ref f25) = true)
    (a26 : PySem.W.nsIn K mainGlobals "is_matching" = some (some (.ref f26)))
    (l26 : K.lookup f26 = some ⟨oc26, od26, .func (PySem.W.fnOf "is_matching" "is_matching" (defArgs s_is_matching) (defBody s_is_matching) (defScope s_is_matching) .none kV26 dc26 pm26 an26 cd26 ct26), sl26⟩)
    (c26 : PySem.W.codeIn K cd26 "is_matching" = true)
    (k26 : PySem.W.keepIn K (.ref f26) = true)
    (w27 : PySem.W.nsIn K mainGlobals "Side" = some (some (.ref g27)))
    (a27 : PySem.W.findIn K (.ref g27) "counts" = some (some (.ref f27)))
    (i27 : PySem.W.isFn K (.ref f27) = true)
    (l27 : K.lookup f27 = some ⟨oc27, od27, .func (PySem.W.fnOf "counts" "Side.counts" (defArgs s_Side_counts) (defBody s_Side_counts) (defScope s_Side_counts) .none kV27 dc27 pm27 an27 cd27 ct27), sl27⟩)
    (c27 : PySem.W.codeIn K cd27 "Side.counts" = true)
    (k27 : PySem.W.keepIn K (.ref f27) = true)
    (u27 : PySem.W.plainGet K g27 Str.empty = true)
    (v27 : PySem.W.hasDictIn K g27 = true)
    (p27 : PySem.W.plainOver K g27 = true)
    (s27 : PySem.W.findIn K (.ref g27) "__setattr__" = some (some (.builtin "object.__setattr__")))
    (m27 : PySem.W.makesIn K g27 = true)
    (q27 : PySem.W.keepIn K (.ref g27) = true)
    (n27_must : PySem.W.findIn K (.ref g27) "must" = some none)
    (n27_neighbours : PySem.W.findIn K (.ref g27) "neighbours" = some none)
    (n27_trust_of : PySem.W.findIn K (.ref g27) "trust_of" = some none)
    (w28 : PySem.W.nsIn K mainGlobals "Side" = some (some (.ref g28)))
    (a28 : PySem.W.findIn K (.ref g28) "is_shortage" = some (some (.ref f28)))
    (i28 : PySem.W.isFn K (.ref f28) = true)
    (l28 : K.lookup f28 = some ⟨oc28, od28, .func (PySem.W.fnOf "is_shortage" "Side.is_shortage" (defArgs s_Side_is_shortage) (defBody s_Side_is_shortage) (defScope s_Side_is_shortage) .none kV28 dc28 pm28 an28 cd28 ct28), sl28⟩)
    (c28 : PySem.W.codeIn K cd28 "Side.is_shortage" = true)
    (k28 : PySem.W.keepIn K (.ref f28) = true)
    (u28 : PySem.W.plainGet K g28 Str.empty = true)
    (v28 : PySem.W.hasDictIn K g28 = true)
    (p28 : PySem.W.plainOver K g28 = true)
    (s28 : PySem.W.findIn K (.ref g28) "__setattr__" = some (some (.builtin "object.__setattr__")))
    (m28 : PySem.W.makesIn K g28 = true)
    (q28 : PySem.W.keepIn K (.ref g28) = true)
    (n28_must : PySem.W.findIn K (.ref g28) "must" = some none)
    (n28_neighbours : PySem.W.findIn K (.ref g28) "neighbours" = some none)
    (n28_trust_of : PySem.W.findIn K (.ref g28) "trust_of" = some none)
    (a29 : PySem.W.nsIn K mainGlobals "reached" = some (some (.ref f29)))
    (l29 : K.lookup f29 = some ⟨oc29, od29, .func (PySem.W.fnOf "reached" "reached" (defArgs s_reached) (defBody s_reached) (defScope s_reached) .none kV29 dc29 pm29 an29 cd29 ct29), sl29⟩)
    (c29 : PySem.W.codeIn K cd29 "reached" = true)
    (k29 : PySem.W.keepIn K (.ref f29) = true)
    (a30 : PySem.W.nsIn K mainGlobals "surplus" = some (some (.ref f30)))
    (l30 : K.lookup f30 = some ⟨oc30, od30, .func (PySem.W.fnOf "surplus" "surplus" (defArgs s_surplus) (defBody s_surplus) (defScope s_surplus) .none kV30 dc30 pm30 an30 cd30 ct30), sl30⟩)
    (c30 : PySem.W.codeIn K cd30 "surplus" = true)
    (k30 : PySem.W.keepIn K (.ref f30) = true)
    (w31 : PySem.W.nsIn K mainGlobals "Side" = some (some (.ref g31)))
    (a31 : PySem.W.findIn K (.ref g31) "size" = some (some (.ref f31)))
    (i31 : PySem.W.isFn K (.ref f31) = true)
    (l31 : K.lookup f31 = some ⟨oc31, od31, .func (PySem.W.fnOf "size" "Side.size" (defArgs s_Side_size) (defBody s_Side_size) (defScope s_Side_size) .none kV31 dc31 pm31 an31 cd31 ct31), sl31⟩)
    (c31 : PySem.W.codeIn K cd31 "Side.size" = true)
    (k31 : PySem.W.keepIn K (.ref f31) = true)
    (u31 : PySem.W.plainGet K g31 Str.empty = true)
    (v31 : PySem.W.hasDictIn K g31 = true)
    (p31 : PySem.W.plainOver K g31 = true)
    (s31 : PySem.W.findIn K (.ref g31) "__setattr__" = some (some (.builtin "object.__setattr__")))
    (m31 : PySem.W.makesIn K g31 = true)
    (q31 : PySem.W.keepIn K (.ref g31) = true)
    (n31_must : PySem.W.findIn K (.ref g31) "must" = some none)
    (n31_neighbours : PySem.W.findIn K (.ref g31) "neighbours" = some none)
    (n31_trust_of : PySem.W.findIn K (.ref g31) "trust_of" = some none)
    (a32 : PySem.W.nsIn K mainGlobals "are_numbers" = some (some (.ref f32)))
    (l32 : K.lookup f32 = some ⟨oc32, od32, .func (PySem.W.fnOf "are_numbers" "are_numbers" (defArgs s_are_numbers) (defBody s_are_numbers) (defScope s_are_numbers) .none kV32 dc32 pm32 an32 cd32 ct32), sl32⟩)
    (c32 : PySem.W.codeIn K cd32 "are_numbers" = true)
    (k32 : PySem.W.keepIn K (.ref f32) = true)
    (a33 : PySem.W.nsIn K mainGlobals "are_shortages" = some (some (.ref f33)))
    (l33 : K.lookup f33 = some ⟨oc33, od33, .func (PySem.W.fnOf "are_shortages" "are_shortages" (defArgs s_are_shortages) (defBody s_are_shortages) (defScope s_are_shortages) .none kV33 dc33 pm33 an33 cd33 ct33), sl33⟩)
    (c33 : PySem.W.codeIn K cd33 "are_shortages" = true)
    (k33 : PySem.W.keepIn K (.ref f33) = true)
    (a34 : PySem.W.nsIn K mainGlobals "is_graded" = some (some (.ref f34)))
    (l34 : K.lookup f34 = some ⟨oc34, od34, .func (PySem.W.fnOf "is_graded" "is_graded" (defArgs s_is_graded) (defBody s_is_graded) (defScope s_is_graded) .none kV34 dc34 pm34 an34 cd34 ct34), sl34⟩)
    (c34 : PySem.W.codeIn K cd34 "is_graded" = true)
    (k34 : PySem.W.keepIn K (.ref f34) = true)
    (a35 : PySem.W.nsIn K mainGlobals "is_graded_repair" = some (some (.ref f35)))
    (l35 : K.lookup f35 = some ⟨oc35, od35, .func (PySem.W.fnOf "is_graded_repair" "is_graded_repair" (defArgs s_is_graded_repair) (defBody s_is_graded_repair) (defScope s_is_graded_repair) .none kV35 dc35 pm35 an35 cd35 ct35), sl35⟩)
    (c35 : PySem.W.codeIn K cd35 "is_graded_repair" = true)
    (k35 : PySem.W.keepIn K (.ref f35) = true)
    (w36 : PySem.W.nsIn K mainGlobals "Side" = some (some (.ref g36)))
    (a36 : PySem.W.findIn K (.ref g36) "lacks" = some (some (.ref f36)))
    (i36 : PySem.W.isFn K (.ref f36) = true)
    (l36 : K.lookup f36 = some ⟨oc36, od36, .func (PySem.W.fnOf "lacks" "Side.lacks" (defArgs s_Side_lacks) (defBody s_Side_lacks) (defScope s_Side_lacks) .none kV36 dc36 pm36 an36 cd36 ct36), sl36⟩)
    (c36 : PySem.W.codeIn K cd36 "Side.lacks" = true)
    (k36 : PySem.W.keepIn K (.ref f36) = true)
    (u36 : PySem.W.plainGet K g36 Str.empty = true)
    (v36 : PySem.W.hasDictIn K g36 = true)
    (p36 : PySem.W.plainOver K g36 = true)
    (s36 : PySem.W.findIn K (.ref g36) "__setattr__" = some (some (.builtin "object.__setattr__")))
    (m36 : PySem.W.makesIn K g36 = true)
    (q36 : PySem.W.keepIn K (.ref g36) = true)
    (n36_must : PySem.W.findIn K (.ref g36) "must" = some none)
    (n36_neighbours : PySem.W.findIn K (.ref g36) "neighbours" = some none)
    (n36_trust_of : PySem.W.findIn K (.ref g36) "trust_of" = some none)
    (a37 : PySem.W.nsIn K mainGlobals "lacks" = some (some (.ref f37)))
    (l37 : K.lookup f37 = some ⟨oc37, od37, .func (PySem.W.fnOf "lacks" "lacks" (defArgs s_lacks) (defBody s_lacks) (defScope s_lacks) .none kV37 dc37 pm37 an37 cd37 ct37), sl37⟩)
    (c37 : PySem.W.codeIn K cd37 "lacks" = true)
    (k37 : PySem.W.keepIn K (.ref f37) = true)
    (a38 : PySem.W.nsIn K mainGlobals "shortage_size" = some (some (.ref f38)))
    (l38 : K.lookup f38 = some ⟨oc38, od38, .func (PySem.W.fnOf "shortage_size" "shortage_size" (defArgs s_shortage_size) (defBody s_shortage_size) (defScope s_shortage_size) .none kV38 dc38 pm38 an38 cd38 ct38), sl38⟩)
    (c38 : PySem.W.codeIn K cd38 "shortage_size" = true)
    (k38 : PySem.W.keepIn K (.ref f38) = true)
    (a39 : PySem.W.nsIn K mainGlobals "_law_of_two" = some (some (.ref f39)))
    (l39 : K.lookup f39 = some ⟨oc39, od39, .func (PySem.W.fnOf "_law_of_two" "_law_of_two" (defArgs s__law_of_two) (defBody s__law_of_two) (defScope s__law_of_two) .none kV39 dc39 pm39 an39 cd39 ct39), sl39⟩)
    (c39 : PySem.W.codeIn K cd39 "_law_of_two" = true)
    (k39 : PySem.W.keepIn K (.ref f39) = true)
    (a40 : PySem.W.nsIn K mainGlobals "are_trusts_of" = some (some (.ref f40)))
    (l40 : K.lookup f40 = some ⟨oc40, od40, .func (PySem.W.fnOf "are_trusts_of" "are_trusts_of" (defArgs s_are_trusts_of) (defBody s_are_trusts_of) (defScope s_are_trusts_of) .none kV40 dc40 pm40 an40 cd40 ct40), sl40⟩)
    (c40 : PySem.W.codeIn K cd40 "are_trusts_of" = true)
    (k40 : PySem.W.keepIn K (.ref f40) = true)
    (a41 : PySem.W.nsIn K mainGlobals "is_trusts" = some (some (.ref f41)))
    (l41 : K.lookup f41 = some ⟨oc41, od41, .func (PySem.W.fnOf "is_trusts" "is_trusts" (defArgs s_is_trusts) (defBody s_is_trusts) (defScope s_is_trusts) .none kV41 dc41 pm41 an41 cd41 ct41), sl41⟩)
    (c41 : PySem.W.codeIn K cd41 "is_trusts" = true)
    (k41 : PySem.W.keepIn K (.ref f41) = true)
    (a42 : PySem.W.nsIn K mainGlobals "_law_of_open_gates" = some (some (.ref f42)))
    (l42 : K.lookup f42 = some ⟨oc42, od42, .func (PySem.W.fnOf "_law_of_open_gates" "_law_of_open_gates" (defArgs s__law_of_open_gates) (defBody s__law_of_open_gates) (defScope s__law_of_open_gates) .none kV42 dc42 pm42 an42 cd42 ct42), sl42⟩)
    (c42 : PySem.W.codeIn K cd42 "_law_of_open_gates" = true)
    (k42 : PySem.W.keepIn K (.ref f42) = true)
    (a43 : PySem.W.nsIn K mainGlobals "_law_of_rows" = some (some (.ref f43)))
    (l43 : K.lookup f43 = some ⟨oc43, od43, .func (PySem.W.fnOf "_law_of_rows" "_law_of_rows" (defArgs s__law_of_rows) (defBody s__law_of_rows) (defScope s__law_of_rows) .none kV43 dc43 pm43 an43 cd43 ct43), sl43⟩)
    (c43 : PySem.W.codeIn K cd43 "_law_of_rows" = true)
    (k43 : PySem.W.keepIn K (.ref f43) = true)
    (a44 : PySem.W.nsIn K mainGlobals "law" = some (some (.ref f44)))
    (l44 : K.lookup f44 = some ⟨oc44, od44, .func (PySem.W.fnOf "law" "law" (defArgs s_law) (defBody s_law) (defScope s_law) .none kV44 dc44 pm44 an44 cd44 ct44), sl44⟩)
    (c44 : PySem.W.codeIn K cd44 "law" = true)
    (k44 : PySem.W.keepIn K (.ref f44) = true)
    (z_abs : PySem.W.nsIn K mainGlobals "abs" = some none)
    (z_all : PySem.W.nsIn K mainGlobals "all" = some none)
    (z_any : PySem.W.nsIn K mainGlobals "any" = some none)
    (z_bool : PySem.W.nsIn K mainGlobals "bool" = some none)
    (z_dict : PySem.W.nsIn K mainGlobals "dict" = some none)
    (z_enumerate : PySem.W.nsIn K mainGlobals "enumerate" = some none)
    (z_int : PySem.W.nsIn K mainGlobals "int" = some none)
    (z_isinstance : PySem.W.nsIn K mainGlobals "isinstance" = some none)
    (z_len : PySem.W.nsIn K mainGlobals "len" = some none)
    (z_list : PySem.W.nsIn K mainGlobals "list" = some none)
    (z_max : PySem.W.nsIn K mainGlobals "max" = some none)
    (z_min : PySem.W.nsIn K mainGlobals "min" = some none)
    (z_range : PySem.W.nsIn K mainGlobals "range" = some none)
    (z_set : PySem.W.nsIn K mainGlobals "set" = some none)
    (z_sorted : PySem.W.nsIn K mainGlobals "sorted" = some none)
    (z_tuple : PySem.W.nsIn K mainGlobals "tuple" = some none)
    (z_zip : PySem.W.nsIn K mainGlobals "zip" = some none)
    (y_MAX_TRUST : PySem.W.nsIn K mainGlobals "MAX_TRUST" = some (some v_MAX_TRUST))
    (r_MAX_TRUST : RelV (V.int (9)) v_MAX_TRUST)
    (y_CLOSED : PySem.W.nsIn K mainGlobals "CLOSED" = some (some v_CLOSED))
    (r_CLOSED : RelV (V.str "closed") v_CLOSED)
    (y_MAX_TIME : PySem.W.nsIn K mainGlobals "MAX_TIME" = some (some v_MAX_TIME))
    (r_MAX_TIME : RelV (V.int (1000000000)) v_MAX_TIME)
    (y_GATES : PySem.W.nsIn K mainGlobals "GATES" = some (some (.ref t_GATES)))
    (k_GATES : K.lookup t_GATES = some ⟨.type "tuple", none, .seq its_GATES nt_GATES, sl_GATES⟩)
    (v_GATES : Vals ((["entries", "exits"] : List Str).map L2.V.str) its_GATES.toList)
    : ∃ fd : FuncData, (∀ (s : Shared) (u : Value), BindsTo s fd ⟨[u], []⟩ [("script", u)]) ∧ ∀ base : Heap, K.In base → base.Ns mainGlobals mg → (∃ o, base.get? sysModules = some o) → FnT l.prog w K mg base 8 fa fd ["script"] c_law := by
  have e := hfa.symm.trans (PySem.W.mg_of X G a44)
  cases e
  have B : Bi K mg := ⟨PySem.W.mg_none_of X G z_abs, PySem.W.mg_none_of X G z_all, PySem.W.mg_none_of X G z_any, PySem.W.mg_none_of X G z_bool, PySem.W.mg_none_of X G z_dict, PySem.W.mg_none_of X G z_enumerate, PySem.W.mg_none_of X G z_int, PySem.W.mg_none_of X G z_isinstance, PySem.W.mg_none_of X G z_len, PySem.W.mg_none_of X G z_list, PySem.W.mg_none_of X G z_max, PySem.W.mg_none_of X G z_min, PySem.W.mg_none_of X G z_range, PySem.W.mg_none_of X G z_set, PySem.W.mg_none_of X G z_sorted, PySem.W.mg_none_of X G z_tuple, PySem.W.mg_none_of X G z_zip, ⟨_, PySem.W.mg_of X G y_MAX_TRUST, r_MAX_TRUST⟩, ⟨_, PySem.W.mg_of X G y_CLOSED, r_CLOSED⟩, ⟨_, PySem.W.mg_of X G y_MAX_TIME, r_MAX_TIME⟩, GTup.mk0 (PySem.W.mg_of X G y_GATES) k_GATES v_GATES (by decide)⟩
  have T : Tx K mg := ⟨(fun c hc C h => by
    obtain rfl := List.mem_singleton.mp hc
    have e := h.symm.trans (PySem.W.mg_of X G w9)
    cases e
    exact ⟨⟨u9, v9, p9, s9⟩, n9_entries_of⟩), (fun c hc C h => by
    obtain rfl := List.mem_singleton.mp hc
    have e := h.symm.trans (PySem.W.mg_of X G w9)
    cases e
    exact ⟨⟨u9, v9, p9, s9⟩, n9_exits_of⟩), (fun c hc C h => by
    obtain rfl := List.mem_singleton.mp hc
    have e := h.symm.trans (PySem.W.mg_of X G w36)
    cases e
    exact ⟨⟨u36, v36, p36, s36⟩, n36_must⟩), (fun c hc C h => by
    obtain rfl := List.mem_singleton.mp hc
    have e := h.symm.trans (PySem.W.mg_of X G w9)
    cases e
    exact ⟨⟨u9, v9, p9, s9⟩, n9_must_entries⟩), (fun c hc C h => by
    obtain rfl := List.mem_singleton.mp hc
    have e := h.symm.trans (PySem.W.mg_of X G w9)
    cases e
    exact ⟨⟨u9, v9, p9, s9⟩, n9_must_exits⟩), (fun c hc C h => by
    obtain rfl := List.mem_singleton.mp hc
    have e := h.symm.trans (PySem.W.mg_of X G w36)
    cases e
    exact ⟨⟨u36, v36, p36, s36⟩, n36_neighbours⟩), (fun c hc C h => by
    obtain rfl := List.mem_singleton.mp hc
    have e := h.symm.trans (PySem.W.mg_of X G w36)
    cases e
    exact ⟨⟨u36, v36, p36, s36⟩, n36_trust_of⟩)⟩
  have F0 := fun_mk (st := s__law_feed) l0 c0 k0
  have b0 := F0.binds (ps := ["script", "index"]) fun _ _ _ _ _ _ us hl => match us, hl with | [_, _], _ => rfl
  have F1 := fun_mk (st := s__law_take) l1 c1 k1
  have b1 := F1.binds (ps := ["feed", "size"]) fun _ _ _ _ _ _ us hl => match us, hl with | [_, _], _ => rfl
  have F2 := fun_mk (st := s__law_pick) l2 c2 k2
  have b2 := F2.binds (ps := ["feed", "options"]) fun _ _ _ _ _ _ us hl => match us, hl with | [_, _], _ => rfl
  have F3 := fun_mk (st := s_Side___init__) l3 c3 k3
  have b3 := F3.binds (ps := ["self", "graph", "trusts", "gate"]) fun _ _ _ _ _ _ us hl => match us, hl with | [_, _, _, _], _ => rfl
  have F4 := fun_mk (st := s_sides_of) l4 c4 k4
  have b4 := F4.binds (ps := ["graph", "trusts"]) fun _ _ _ _ _ _ us hl => match us, hl with | [_, _], _ => rfl
  have F5 := fun_mk (st := s_search) l5 c5 k5
  have b5 := F5.binds (ps := ["start", "neighbours", "partner", "required"]) fun _ _ _ _ _ _ us hl => match us, hl with | [_, _, _, _], _ => rfl
  have F6 := fun_mk (st := s_cover) l6 c6 k6
  have b6 := F6.binds (ps := ["start", "neighbours", "partner", "mine", "required"]) fun _ _ _ _ _ _ us hl => match us, hl with | [_, _, _, _, _], _ => rfl
  have F7 := fun_mk (st := s_covering) l7 c7 k7
  have b7 := F7.binds (ps := ["graph", "pairs"]) fun _ _ _ _ _ _ us hl => match us, hl with | [_, _], _ => rfl
  have F8 := fun_mk (st := s_Graph___init__) l8 c8 k8
  have b8 := F8.binds (ps := ["self", "exits_of", "entries_of", "must_entries", "must_exits"]) fun _ _ _ _ _ _ us hl => match us, hl with | [_, _, _, _, _], _ => rfl
  have F9 := fun_mk (st := s_Graph_without_lines) l9 c9 k9
  have b9 := F9.binds (ps := ["self", "entries", "exits"]) fun _ _ _ _ _ _ us hl => match us, hl with | [_, _, _], _ => rfl
  have F10 := fun_mk (st := s_greedy) l10 c10 k10
  have b10 := F10.binds (ps := ["neighbours", "order"]) fun _ _ _ _ _ _ us hl => match us, hl with | [_, _], _ => rfl
  have F11 := fun_mk (st := s_Side_shown) l11 c11 k11
  have b11 := F11.binds (ps := ["self", "order"]) fun _ _ _ _ _ _ us hl => match us, hl with | [_, _], _ => rfl
  have F12 := fun_mk (st := s_Side_ordered) l12 c12 k12
  have b12 := F12.binds (ps := ["self", "place"]) fun _ _ _ _ _ _ us hl => match us, hl with | [_, _], _ => rfl
  have F13 := fun_mk (st := s_best_of) l13 c13 k13
  have b13 := F13.binds (ps := ["graph", "trusts", "places"]) fun _ _ _ _ _ _ us hl => match us, hl with | [_, _, _], _ => rfl
  have F14 := fun_mk (st := s_Side_joined) l14 c14 k14
  have b14 := F14.binds (ps := ["self", "shown", "threshold"]) fun _ _ _ _ _ _ us hl => match us, hl with | [_, _, _], _ => rfl
  have F15 := fun_mk (st := s_Side_shortages) l15 c15 k15
  have b15 := F15.binds (ps := ["self"]) fun _ _ _ _ _ _ us hl => match us, hl with | [_], _ => rfl
  have F16 := fun_mk (st := s_graded_by) l16 c16 k16
  have b16 := F16.binds (ps := ["graph", "trusts", "places"]) fun _ _ _ _ _ _ us hl => match us, hl with | [_, _, _], _ => rfl
  have F17 := fun_mk (st := s_missing_exit_time) l17 c17 k17
  have b17 := F17.binds (ps := ["kinds", "log", "line", "name"]) fun _ _ _ _ _ _ us hl => match us, hl with | [_, _, _, _], _ => rfl
  have F18 := fun_mk (st := s_missing_entry_time) l18 c18 k18
  have b18 := F18.binds (ps := ["kinds", "log", "line", "name"]) fun _ _ _ _ _ _ us hl => match us, hl with | [_, _, _, _], _ => rfl
  have F19 := fun_mk (st := s_may_be_open) l19 c19 k19
  have b19 := F19.binds (ps := ["kinds", "log", "gate", "number"]) fun _ _ _ _ _ _ us hl => match us, hl with | [_, _, _, _], _ => rfl
  have F20 := fun_mk (st := s_must_lines) l20 c20 k20
  have b20 := F20.binds (ps := ["kinds", "log", "gate"]) fun _ _ _ _ _ _ us hl => match us, hl with | [_, _, _], _ => rfl
  have F21 := fun_mk (st := s_fits) l21 c21 k21
  have b21 := F21.binds (ps := ["kinds", "entry_line", "exit_line"]) fun _ _ _ _ _ _ us hl => match us, hl with | [_, _, _], _ => rfl
  have F22 := fun_mk (st := s_graph_of) l22 c22 k22
  have b22 := F22.binds (ps := ["kinds", "log"]) fun _ _ _ _ _ _ us hl => match us, hl with | [_, _], _ => rfl
  have F23 := fun_mk (st := s_graded_repair) l23 c23 k23
  have b23 := F23.binds (ps := ["kinds", "log", "trusts"]) fun _ _ _ _ _ _ us hl => match us, hl with | [_, _, _], _ => rfl
  have F24 := fun_mk (st := s_is_integer) l24 c24 k24
  have b24 := F24.binds (ps := ["value", "low", "high"]) fun _ _ _ _ _ _ us hl => match us, hl with | [_, _, _], _ => rfl
  have F25 := fun_mk (st := s_is_pair) l25 c25 k25
  have b25 := F25.binds (ps := ["value", "entry_count", "exit_count"]) fun _ _ _ _ _ _ us hl => match us, hl with | [_, _, _], _ => rfl
  have F26 := fun_mk (st := s_is_matching) l26 c26 k26
  have b26 := F26.binds (ps := ["graph", "value"]) fun _ _ _ _ _ _ us hl => match us, hl with | [_, _], _ => rfl
  have F27 := fun_mk (st := s_Side_counts) l27 c27 k27
  have b27 := F27.binds (ps := ["self", "lines"]) fun _ _ _ _ _ _ us hl => match us, hl with | [_, _], _ => rfl
  have F28 := fun_mk (st := s_Side_is_shortage) l28 c28 k28
  have b28 := F28.binds (ps := ["self", "value", "threshold"]) fun _ _ _ _ _ _ us hl => match us, hl with | [_, _, _], _ => rfl
  have F29 := fun_mk (st := s_reached) l29 c29 k29
  have b29 := F29.binds (ps := ["neighbours", "numbers"]) fun _ _ _ _ _ _ us hl => match us, hl with | [_, _], _ => rfl
  have F30 := fun_mk (st := s_surplus) l30 c30 k30
  have b30 := F30.binds (ps := ["neighbours", "numbers"]) fun _ _ _ _ _ _ us hl => match us, hl with | [_, _], _ => rfl
  have F31 := fun_mk (st := s_Side_size) l31 c31 k31
  have b31 := F31.binds (ps := ["self", "numbers"]) fun _ _ _ _ _ _ us hl => match us, hl with | [_, _], _ => rfl
  have F32 := fun_mk (st := s_are_numbers) l32 c32 k32
  have b32 := F32.binds (ps := ["value"]) fun _ _ _ _ _ _ us hl => match us, hl with | [_], _ => rfl
  have F33 := fun_mk (st := s_are_shortages) l33 c33 k33
  have b33 := F33.binds (ps := ["side", "ignored", "value"]) fun _ _ _ _ _ _ us hl => match us, hl with | [_, _, _], _ => rfl
  have F34 := fun_mk (st := s_is_graded) l34 c34 k34
  have b34 := F34.binds (ps := ["graph", "trusts", "value"]) fun _ _ _ _ _ _ us hl => match us, hl with | [_, _, _], _ => rfl
  have F35 := fun_mk (st := s_is_graded_repair) l35 c35 k35
  have b35 := F35.binds (ps := ["kinds", "log", "trusts", "value"]) fun _ _ _ _ _ _ us hl => match us, hl with | [_, _, _, _], _ => rfl
  have F36 := fun_mk (st := s_Side_lacks) l36 c36 k36
  have b36 := F36.binds (ps := ["self"]) fun _ _ _ _ _ _ us hl => match us, hl with | [_], _ => rfl
  have F37 := fun_mk (st := s_lacks) l37 c37 k37
  have b37 := F37.binds (ps := ["kinds", "log", "trusts"]) fun _ _ _ _ _ _ us hl => match us, hl with | [_, _, _], _ => rfl
  have F38 := fun_mk (st := s_shortage_size) l38 c38 k38
  have b38 := F38.binds (ps := ["kinds", "log", "gate", "numbers"]) fun _ _ _ _ _ _ us hl => match us, hl with | [_, _, _, _], _ => rfl
  have F39 := fun_mk (st := s__law_of_two) l39 c39 k39
  have b39 := F39.binds (ps := ["kinds", "name", "low", "high"]) fun _ _ _ _ _ _ us hl => match us, hl with | [_, _, _, _], _ => rfl
  have F40 := fun_mk (st := s_are_trusts_of) l40 c40 k40
  have b40 := F40.binds (ps := ["lines", "value"]) fun _ _ _ _ _ _ us hl => match us, hl with | [_, _], _ => rfl
  have F41 := fun_mk (st := s_is_trusts) l41 c41 k41
  have b41 := F41.binds (ps := ["log", "value"]) fun _ _ _ _ _ _ us hl => match us, hl with | [_, _], _ => rfl
  have F42 := fun_mk (st := s__law_of_open_gates) l42 c42 k42
  have b42 := F42.binds (ps := ["kinds", "name"]) fun _ _ _ _ _ _ us hl => match us, hl with | [_, _], _ => rfl
  have F43 := fun_mk (st := s__law_of_rows) l43 c43 k43
  have b43 := F43.binds (ps := ["kinds", "name", "feed"]) fun _ _ _ _ _ _ us hl => match us, hl with | [_, _, _], _ => rfl
  refine ⟨PySem.W.fnOf "law" "law" (defArgs s_law) (defBody s_law) (defScope s_law) .none kV44 dc44 pm44 an44 cd44 ct44, fun s v => .of_eq rfl, fun base _ _ hsm => ?_⟩
  have H__law_feed : Has l.prog w K mg base 1 "_law_feed" 2 [] c__law_feed := Has.mk0 (ok__law_feed F0 B T hsm ) (PySem.W.mg_of X G a0) k0 b0
  have H__law_take : Has l.prog w K mg base 1 "_law_take" 2 [] c__law_take := Has.mk0 (ok__law_take F1 B T hsm ) (PySem.W.mg_of X G a1) k1 b1
  have H__law_pick : Has l.prog w K mg base 2 "_law_pick" 2 [] c__law_pick := Has.mk0 (ok__law_pick F2 B T hsm H__law_take) (PySem.W.mg_of X G a2) k2 b2
  have H_Side___init__ : HasC l.prog w K mg base 1 "Side" 4 c_Side___init__ := HasC.mk0 (ok_Side___init__ F3 B T hsm ) (PySem.W.mg_of X G w3) ⟨m3, a3, i3, q3⟩ b3
  have H_sides_of : Has l.prog w K mg base 3 "sides_of" 2 [] c_sides_of := Has.mk0 (ok_sides_of F4 B T hsm H_Side___init__) (PySem.W.mg_of X G a4) k4 b4
  have H_search : Has l.prog w K mg base 1 "search" 4 [] c_search := Has.mk0 (ok_search F5 B T hsm ) (PySem.W.mg_of X G a5) k5 b5
  have H_cover : Has l.prog w K mg base 2 "cover" 5 [] c_cover := Has.mk0 (ok_cover F6 B T hsm H_search) (PySem.W.mg_of X G a6) k6 b6
  have H_covering : Has l.prog w K mg base 3 "covering" 2 [] c_covering := Has.mk0 (ok_covering F7 B T hsm H_cover) (PySem.W.mg_of X G a7) k7 b7
  have H_Graph___init__ : HasC l.prog w K mg base 1 "Graph" 5 c_Graph___init__ := HasC.mk0 (ok_Graph___init__ F8 B T hsm ) (PySem.W.mg_of X G w8) ⟨m8, a8, i8, q8⟩ b8
  have H_Graph_without_lines : HasM l.prog w K mg base 3 "Graph" "without_lines" 3 c_Graph_without_lines := HasM.mk0 (ok_Graph_without_lines F9 B T hsm H_Graph___init__) (PySem.W.mg_of X G w9) ⟨u9, v9, p9, s9⟩ ⟨a9, i9, k9⟩ b9
  have H_greedy : Has l.prog w K mg base 2 "greedy" 2 [] c_greedy := Has.mk0 (ok_greedy F10 B T hsm H_search) (PySem.W.mg_of X G a10) k10 b10
  have H_Side_shown : HasM l.prog w K mg base 3 "Side" "shown" 2 c_Side_shown := HasM.mk0 (ok_Side_shown F11 B T hsm H_greedy) (PySem.W.mg_of X G w11) ⟨u11, v11, p11, s11⟩ ⟨a11, i11, k11⟩ b11
  have H_Side_ordered : HasM l.prog w K mg base 1 "Side" "ordered" 2 c_Side_ordered := HasM.mk0 (ok_Side_ordered F12 B T hsm ) (PySem.W.mg_of X G w12) ⟨u12, v12, p12, s12⟩ ⟨a12, i12, k12⟩ b12
  have H_best_of : Has l.prog w K mg base 4 "best_of" 3 [] c_best_of := Has.mk0 (ok_best_of F13 B T hsm H_sides_of H_Side_shown H_Side_ordered H_covering H_Graph_without_lines) (PySem.W.mg_of X G a13) k13 b13
  have H_Side_joined : HasM l.prog w K mg base 1 "Side" "joined" 3 c_Side_joined := HasM.mk0 (ok_Side_joined F14 B T hsm ) (PySem.W.mg_of X G w14) ⟨u14, v14, p14, s14⟩ ⟨a14, i14, k14⟩ b14
  have H_Side_shortages : HasM l.prog w K mg base 4 "Side" "shortages" 1 c_Side_shortages := HasM.mk0 (ok_Side_shortages F15 B T hsm H_Side_shown H_Side_ordered H_Side_joined) (PySem.W.mg_of X G w15) ⟨u15, v15, p15, s15⟩ ⟨a15, i15, k15⟩ b15
  have H_graded_by : Has l.prog w K mg base 5 "graded_by" 3 [] c_graded_by := Has.mk0 (ok_graded_by F16 B T hsm H_sides_of H_best_of H_Side_shortages) (PySem.W.mg_of X G a16) k16 b16
  have H_missing_exit_time : Has l.prog w K mg base 1 "missing_exit_time" 4 [] c_missing_exit_time := Has.mk0 (ok_missing_exit_time F17 B T hsm ) (PySem.W.mg_of X G a17) k17 b17
  have H_missing_entry_time : Has l.prog w K mg base 1 "missing_entry_time" 4 [] c_missing_entry_time := Has.mk0 (ok_missing_entry_time F18 B T hsm ) (PySem.W.mg_of X G a18) k18 b18
  have H_may_be_open : Has l.prog w K mg base 2 "may_be_open" 4 [] c_may_be_open := Has.mk0 (ok_may_be_open F19 B T hsm H_missing_exit_time H_missing_entry_time) (PySem.W.mg_of X G a19) k19 b19
  have H_must_lines : Has l.prog w K mg base 3 "must_lines" 3 [] c_must_lines := Has.mk0 (ok_must_lines F20 B T hsm H_may_be_open) (PySem.W.mg_of X G a20) k20 b20
  have H_fits : Has l.prog w K mg base 1 "fits" 3 [] c_fits := Has.mk0 (ok_fits F21 B T hsm ) (PySem.W.mg_of X G a21) k21 b21
  have H_graph_of : Has l.prog w K mg base 4 "graph_of" 2 [] c_graph_of := Has.mk0 (ok_graph_of F22 B T hsm H_fits H_Graph___init__ H_must_lines) (PySem.W.mg_of X G a22) k22 b22
  have H_graded_repair : Has l.prog w K mg base 6 "graded_repair" 3 [] c_graded_repair := Has.mk0 (ok_graded_repair F23 B T hsm H_graded_by H_graph_of) (PySem.W.mg_of X G a23) k23 b23
  have H_is_integer : Has l.prog w K mg base 1 "is_integer" 3 [] c_is_integer := Has.mk0 (ok_is_integer F24 B T hsm ) (PySem.W.mg_of X G a24) k24 b24
  have H_is_pair : Has l.prog w K mg base 2 "is_pair" 3 [] c_is_pair := Has.mk0 (ok_is_pair F25 B T hsm H_is_integer) (PySem.W.mg_of X G a25) k25 b25
  have H_is_matching : Has l.prog w K mg base 3 "is_matching" 2 [] c_is_matching := Has.mk0 (ok_is_matching F26 B T hsm H_is_pair) (PySem.W.mg_of X G a26) k26 b26
  have H_Side_counts : HasM l.prog w K mg base 1 "Side" "counts" 2 c_Side_counts := HasM.mk0 (ok_Side_counts F27 B T hsm ) (PySem.W.mg_of X G w27) ⟨u27, v27, p27, s27⟩ ⟨a27, i27, k27⟩ b27
  have H_Side_is_shortage : HasM l.prog w K mg base 1 "Side" "is_shortage" 3 c_Side_is_shortage := HasM.mk0 (ok_Side_is_shortage F28 B T hsm ) (PySem.W.mg_of X G w28) ⟨u28, v28, p28, s28⟩ ⟨a28, i28, k28⟩ b28
  have H_reached : Has l.prog w K mg base 1 "reached" 2 [] c_reached := Has.mk0 (ok_reached F29 B T hsm ) (PySem.W.mg_of X G a29) k29 b29
  have H_surplus : Has l.prog w K mg base 2 "surplus" 2 [] c_surplus := Has.mk0 (ok_surplus F30 B T hsm H_reached) (PySem.W.mg_of X G a30) k30 b30
  have H_Side_size : HasM l.prog w K mg base 3 "Side" "size" 2 c_Side_size := HasM.mk0 (ok_Side_size F31 B T hsm H_surplus) (PySem.W.mg_of X G w31) ⟨u31, v31, p31, s31⟩ ⟨a31, i31, k31⟩ b31
  have H_are_numbers : Has l.prog w K mg base 2 "are_numbers" 1 [] c_are_numbers := Has.mk0 (ok_are_numbers F32 B T hsm H_is_integer) (PySem.W.mg_of X G a32) k32 b32
  have H_are_shortages : Has l.prog w K mg base 4 "are_shortages" 3 [] c_are_shortages := Has.mk0 (ok_are_shortages F33 B T hsm H_are_numbers H_Side_counts H_Side_is_shortage H_Side_size) (PySem.W.mg_of X G a33) k33 b33
  have H_is_graded : Has l.prog w K mg base 5 "is_graded" 3 [] c_is_graded := Has.mk0 (ok_is_graded F34 B T hsm H_are_numbers H_sides_of H_is_matching H_Graph_without_lines H_are_shortages) (PySem.W.mg_of X G a34) k34 b34
  have H_is_graded_repair : Has l.prog w K mg base 6 "is_graded_repair" 4 [] c_is_graded_repair := Has.mk0 (ok_is_graded_repair F35 B T hsm H_is_graded H_graph_of) (PySem.W.mg_of X G a35) k35 b35
  have H_Side_lacks : HasM l.prog w K mg base 4 "Side" "lacks" 1 c_Side_lacks := HasM.mk0 (ok_Side_lacks F36 B T hsm H_Side_counts H_Side_shown H_Side_ordered) (PySem.W.mg_of X G w36) ⟨u36, v36, p36, s36⟩ ⟨a36, i36, k36⟩ b36
  have H_lacks : Has l.prog w K mg base 5 "lacks" 3 [] c_lacks := Has.mk0 (ok_lacks F37 B T hsm H_sides_of H_graph_of H_Side_lacks) (PySem.W.mg_of X G a37) k37 b37
  have H_shortage_size : Has l.prog w K mg base 5 "shortage_size" 4 [] c_shortage_size := Has.mk0 (ok_shortage_size F38 B T hsm H_graph_of H_surplus) (PySem.W.mg_of X G a38) k38 b38
  have H__law_of_two : Has l.prog w K mg base 7 "_law_of_two" 4 [] c__law_of_two := Has.mk0 (ok__law_of_two F39 B T hsm H_lacks H_graded_repair H_is_graded_repair H_shortage_size) (PySem.W.mg_of X G a39) k39 b39
  have H_are_trusts_of : Has l.prog w K mg base 2 "are_trusts_of" 2 [] c_are_trusts_of := Has.mk0 (ok_are_trusts_of F40 B T hsm H_is_integer) (PySem.W.mg_of X G a40) k40 b40
  have H_is_trusts : Has l.prog w K mg base 3 "is_trusts" 2 [] c_is_trusts := Has.mk0 (ok_is_trusts F41 B T hsm H_are_trusts_of) (PySem.W.mg_of X G a41) k41 b41
  have H__law_of_open_gates : Has l.prog w K mg base 7 "_law_of_open_gates" 2 [] c__law_of_open_gates := Has.mk0 (ok__law_of_open_gates F42 B T hsm H_lacks H_graded_repair H_is_trusts) (PySem.W.mg_of X G a42) k42 b42
  have H__law_of_rows : Has l.prog w K mg base 7 "_law_of_rows" 3 [] c__law_of_rows := Has.mk0 (ok__law_of_rows F43 B T hsm H__law_pick H_lacks H_graded_repair H_shortage_size) (PySem.W.mg_of X G a43) k43 b43
  exact ok_law (fun_mk (st := s_law) l44 c44 k44) B T hsm H__law_feed H__law_pick H__law_take H__law_of_two H__law_of_open_gates H__law_of_rows
end GP

set_option Elab.async false
set_option maxRecDepth 100000
set_option maxHeartbeats 1000000
set_option linter.all false
namespace GP
open PySem PySem.Spec PyProof.Rows L2 TL
/-! ### the drawn numbers -/
theorem take_w {n : Nat} {m : Int} {μ : Mu} {P : D → Mu → Prop} (hf : FeedAt n μ) (h0 : 0 < m) (h1 : m < 1073741824) (h : ∀ (r : Int) (μ' : Mu), 0 ≤ r → r < m → Dr n μ μ' → P (.int r) μ') : W (c__law_take [.loc n, .int m] μ) P := by
  obtain ⟨a, b, hab⟩ := hf
  have hn : n < μ.length := (List.getElem?_eq_some_iff.mp hab).1
  have get0 : ∀ (ν : Mu) (x y : Int), ν[n]? = some (some (.list [.int x, .int y])) → gIx ν (.loc n) (.int 0) = some (.int x) := fun ν x y e => by simp [gIx, dctV, seqR, e, atI, ixN]
  have get1 : ∀ (ν : Mu) (x y : Int), ν[n]? = some (some (.list [.int x, .int y])) → gIx ν (.loc n) (.int 1) = some (.int y) := fun ν x y e => by simp [gIx, dctV, seqR, e, atI, ixN]
  have set0 : ∀ (x : Int), setV μ (.loc n) (.int 0) (.int x) = some (μ.set n (some (.list [.int x, .int b]))) := fun x => by simp [setV, hab, ixN]
  have set1 : ∀ (x : Int), setV μ (.loc n) (.int 1) (.int x) = some (μ.set n (some (.list [.int a, .int x]))) := fun x => by simp [setV, hab, ixN]
  unfold c__law_take b__law_take b__law_take_1
  simp -implicitDefEqProofs only [get0 μ a b hab, get1 μ a b hab, set0, set1, _bi,_cs,_ca,_ct,_bj,_cb,_bk,_bl,_cc,_cd,_ac,_ce,_ad,_ae,onBody,sNil,_cf,_af,_ag,_ah,_ai,sBk,sCt,sExpr,sRet,sRetN,sIf,sSet,sAsg,sAsgL,sPar2,sFor,sDel,eVar,eC,eBin,eUn,eT,boolOf,_aj,_O,_ak,_al,_P,_bm,_cg,_am,_bn,TL.tAnd,TL.tOr,TL.tNot,tTrue,eAnd,eOr,eNot,eIf,aNil,aCons,eTup,eFz,eNew,eFrz,frzD,nLst,nCall,eCall,eCallF,eSl,oNone,oSome,nComp,nCompK,nCat,_an,_K,_L,_D,_M,_ao,_Q,nEmpty,nDisp,pNil,pCons,iVal,iRange1,iRange2,iEnumF,iZipF,iItemsF,kRange1,kRange2,kEnum,kZip,kItems,cellD,eMeth,startD,tgSet,tgSets,wipeD,_x,_E,_m,_r,_d,_e,_n,_s,_t,_a,_b,_i,_f,_g,_F,Nat.reduceAdd,Nat.reduceSub,Nat.reduceEqDiff,_ap,_R,_S,_N,_G,_aq,_ar,_as,_at,_au,_av,_aw,_ax,_ay,_az,_ba,_bo,_bp,_bq,_br,_bs,_ch,_T,_ci,_U,_bt,_V,_W,_bu,_bv,_bw,_bx,_by,_cj,_ck,_cl,_cm,_bb,_bc,_bd,_be,_X,_Y,_cn,_co,_cp,_cq,TL.keyOf,_cr,_bz,_bf,_bg,_Z,_bh,_j,_J,_H,_o,_y,_z,_A,_B,_w,_aa,_ab,_I,_h,_C,_k,_l,Int.reduceLT,Int.reduceLE,Int.reducePow,Int.reduceToNat,Int.reduceNeg,Int.reduceAdd,Int.reduceSub,Int.reduceMul,Nat.reduceLT,Nat.reduceLeDiff,Nat.reducePow,_c,_u,_v,_p,_q]
  have ms : ∀ ν : Mu, (∃ x y : Int, ν = μ.set n (some (.list [.int x, .int y]))) → ∀ r : Int, 0 ≤ r → r < m → W (retV μ ν (.int r)) P := fun ν ⟨x, y, e⟩ r r0 r1 => by
    have d : Dr n μ ν := ⟨x, y, e⟩
    exact W_retD d rfl (h r ν r0 r1 d)
  refine ⟨fun hp => ⟨h0, ⟨h0, h1⟩, ?_⟩, fun hp => ?_⟩
  · exact ms _ ⟨_, _, rfl⟩ _ (Int.emod_nonneg _ (by omega)) (Int.emod_lt_of_pos _ h0)
  · rw [get1 _ a _ (by rw [List.getElem?_set_self hn])]
    try simp -implicitDefEqProofs only [_bi,_cs,_ca,_ct,_bj,_cb,_bk,_bl,_cc,_cd,_ac,_ce,_ad,_ae,onBody,sNil,_cf,_af,_ag,_ah,_ai,sBk,sCt,sExpr,sRet,sRetN,sIf,sSet,sAsg,sAsgL,sPar2,sFor,sDel,eVar,eC,eBin,eUn,eT,boolOf,_aj,_O,_ak,_al,_P,_bm,_cg,_am,_bn,TL.tAnd,TL.tOr,TL.tNot,tTrue,eAnd,eOr,eNot,eIf,aNil,aCons,eTup,eFz,eNew,eFrz,frzD,nLst,nCall,eCall,eCallF,eSl,oNone,oSome,nComp,nCompK,nCat,_an,_K,_L,_D,_M,_ao,_Q,nEmpty,nDisp,pNil,pCons,iVal,iRange1,iRange2,iEnumF,iZipF,iItemsF,kRange1,kRange2,kEnum,kZip,kItems,cellD,eMeth,startD,tgSet,tgSets,wipeD,_x,_E,_m,_r,_d,_e,_n,_s,_t,_a,_b,_i,_f,_g,_F,Nat.reduceAdd,Nat.reduceSub,Nat.reduceEqDiff,_ap,_R,_S,_N,_G,_aq,_ar,_as,_at,_au,_av,_aw,_ax,_ay,_az,_ba,_bo,_bp,_bq,_br,_bs,_ch,_T,_ci,_U,_bt,_V,_W,_bu,_bv,_bw,_bx,_by,_cj,_ck,_cl,_cm,_bb,_bc,_bd,_be,_X,_Y,_cn,_co,_cp,_cq,TL.keyOf,_cr,_bz,_bf,_bg,_Z,_bh,_j,_J,_H,_o,_y,_z,_A,_B,_w,_aa,_ab,_I,_h,_C,_k,_l,Int.reduceLT,Int.reduceLE,Int.reducePow,Int.reduceToNat,Int.reduceNeg,Int.reduceAdd,Int.reduceSub,Int.reduceMul,Nat.reduceLT,Nat.reduceLeDiff,Nat.reducePow,_c,_u,_v,_p,_q]
    exact ⟨h0, ms _ ⟨_, _, rfl⟩ _ (Int.emod_nonneg _ (by omega)) (Int.emod_lt_of_pos _ h0)⟩

theorem pick_w {n : Nat} {xs : List D} {μ : Mu} {P : D → Mu → Prop} (hf : FeedAt n μ) (h0 : xs ≠ []) (h1 : xs.length < 1073741824) (ho : okLocs 0 xs = true) (h : ∀ (d : D) (μ' : Mu), d ∈ xs → Dr n μ μ' → P d μ') : W (c__law_pick [.loc n, .list xs] μ) P := by
  unfold c__law_pick b__law_pick
  try simp -implicitDefEqProofs only [_bi,_cs,_ca,_ct,_bj,_cb,_bk,_bl,_cc,_cd,_ac,_ce,_ad,_ae,onBody,sNil,_cf,_af,_ag,_ah,_ai,sBk,sCt,sExpr,sRet,sRetN,sIf,sSet,sAsg,sAsgL,sPar2,sFor,sDel,eVar,eC,eBin,eUn,eT,boolOf,_aj,_O,_ak,_al,_P,_bm,_cg,_am,_bn,TL.tAnd,TL.tOr,TL.tNot,tTrue,eAnd,eOr,eNot,eIf,aNil,aCons,eTup,eFz,eNew,eFrz,frzD,nLst,nCall,eCall,eCallF,eSl,oNone,oSome,nComp,nCompK,nCat,_an,_K,_L,_D,_M,_ao,_Q,nEmpty,nDisp,pNil,pCons,iVal,iRange1,iRange2,iEnumF,iZipF,iItemsF,kRange1,kRange2,kEnum,kZip,kItems,cellD,eMeth,startD,tgSet,tgSets,wipeD,_x,_E,_m,_r,_d,_e,_n,_s,_t,_a,_b,_i,_f,_g,_F,Nat.reduceAdd,Nat.reduceSub,Nat.reduceEqDiff,_ap,_R,_S,_N,_G,_aq,_ar,_as,_at,_au,_av,_aw,_ax,_ay,_az,_ba,_bo,_bp,_bq,_br,_bs,_ch,_T,_ci,_U,_bt,_V,_W,_bu,_bv,_bw,_bx,_by,_cj,_ck,_cl,_cm,_bb,_bc,_bd,_be,_X,_Y,_cn,_co,_cp,_cq,TL.keyOf,_cr,_bz,_bf,_bg,_Z,_bh,_j,_J,_H,_o,_y,_z,_A,_B,_w,_aa,_ab,_I,_h,_C,_k,_l,Int.reduceLT,Int.reduceLE,Int.reducePow,Int.reduceToNat,Int.reduceNeg,Int.reduceAdd,Int.reduceSub,Int.reduceMul,Nat.reduceLT,Nat.reduceLeDiff,Nat.reducePow,_c,_u,_v,_p,_q]
  have hp : 0 < xs.length := List.length_pos_iff.mpr h0
  refine take_w hf (by omega) (by omega) fun r μ1 r0 r1 d => ?_
  have hr : r.toNat < xs.length := by omega
  have e : gIx μ1 (.list xs) (.int r) = some xs[r.toNat] := by
    simp only [gIx, dctV, seqR, atI, ixN, if_pos r0, if_pos r1, Option.bind_some, List.getElem?_eq_getElem hr]
  rw [e]
  try simp -implicitDefEqProofs only [_bi,_cs,_ca,_ct,_bj,_cb,_bk,_bl,_cc,_cd,_ac,_ce,_ad,_ae,onBody,sNil,_cf,_af,_ag,_ah,_ai,sBk,sCt,sExpr,sRet,sRetN,sIf,sSet,sAsg,sAsgL,sPar2,sFor,sDel,eVar,eC,eBin,eUn,eT,boolOf,_aj,_O,_ak,_al,_P,_bm,_cg,_am,_bn,TL.tAnd,TL.tOr,TL.tNot,tTrue,eAnd,eOr,eNot,eIf,aNil,aCons,eTup,eFz,eNew,eFrz,frzD,nLst,nCall,eCall,eCallF,eSl,oNone,oSome,nComp,nCompK,nCat,_an,_K,_L,_D,_M,_ao,_Q,nEmpty,nDisp,pNil,pCons,iVal,iRange1,iRange2,iEnumF,iZipF,iItemsF,kRange1,kRange2,kEnum,kZip,kItems,cellD,eMeth,startD,tgSet,tgSets,wipeD,_x,_E,_m,_r,_d,_e,_n,_s,_t,_a,_b,_i,_f,_g,_F,Nat.reduceAdd,Nat.reduceSub,Nat.reduceEqDiff,_ap,_R,_S,_N,_G,_aq,_ar,_as,_at,_au,_av,_aw,_ax,_ay,_az,_ba,_bo,_bp,_bq,_br,_bs,_ch,_T,_ci,_U,_bt,_V,_W,_bu,_bv,_bw,_bx,_by,_cj,_ck,_cl,_cm,_bb,_bc,_bd,_be,_X,_Y,_cn,_co,_cp,_cq,TL.keyOf,_cr,_bz,_bf,_bg,_Z,_bh,_j,_J,_H,_o,_y,_z,_A,_B,_w,_aa,_ab,_I,_h,_C,_k,_l,Int.reduceLT,Int.reduceLE,Int.reducePow,Int.reduceToNat,Int.reduceNeg,Int.reduceAdd,Int.reduceSub,Int.reduceMul,Nat.reduceLT,Nat.reduceLeDiff,Nat.reducePow,_c,_u,_v,_p,_q]
  exact W_retD d (okLocs_mem ho (List.getElem_mem hr)) (h _ _ (List.getElem_mem hr) d)

theorem feed_w {ns : List Int} {k : Int} {μ : Mu} {P : D → Mu → Prop} (hk : 0 ≤ k) (hl : ns.length ≤ 1000) (h : ∀ c : Cell, (∃ a b : Int, c = .list [.int a, .int b]) → P (.loc μ.length) (μ ++ [some c])) : W (c__law_feed [.script ns, .int k] μ) P := by
  unfold c__law_feed b__law_feed
  try simp -implicitDefEqProofs only [_bi,_cs,_ca,_ct,_bj,_cb,_bk,_bl,_cc,_cd,_ac,_ce,_ad,_ae,onBody,sNil,_cf,_af,_ag,_ah,_ai,sBk,sCt,sExpr,sRet,sRetN,sIf,sSet,sAsg,sAsgL,sPar2,sFor,sDel,eVar,eC,eBin,eUn,eT,boolOf,_aj,_O,_ak,_al,_P,_bm,_cg,_am,_bn,TL.tAnd,TL.tOr,TL.tNot,tTrue,eAnd,eOr,eNot,eIf,aNil,aCons,eTup,eFz,eNew,eFrz,frzD,nLst,nCall,eCall,eCallF,eSl,oNone,oSome,nComp,nCompK,nCat,_an,_K,_L,_D,_M,_ao,_Q,nEmpty,nDisp,pNil,pCons,iVal,iRange1,iRange2,iEnumF,iZipF,iItemsF,kRange1,kRange2,kEnum,kZip,kItems,cellD,eMeth,startD,tgSet,tgSets,wipeD,_x,_E,_m,_r,_d,_e,_n,_s,_t,_a,_b,_i,_f,_g,_F,Nat.reduceAdd,Nat.reduceSub,Nat.reduceEqDiff,_ap,_R,_S,_N,_G,_aq,_ar,_as,_at,_au,_av,_aw,_ax,_ay,_az,_ba,_bo,_bp,_bq,_br,_bs,_ch,_T,_ci,_U,_bt,_V,_W,_bu,_bv,_bw,_bx,_by,_cj,_ck,_cl,_cm,_bb,_bc,_bd,_be,_X,_Y,_cn,_co,_cp,_cq,TL.keyOf,_cr,_bz,_bf,_bg,_Z,_bh,_j,_J,_H,_o,_y,_z,_A,_B,_w,_aa,_ab,_I,_h,_C,_k,_l,Int.reduceLT,Int.reduceLE,Int.reducePow,Int.reduceToNat,Int.reduceNeg,Int.reduceAdd,Int.reduceSub,Int.reduceMul,Nat.reduceLT,Nat.reduceLeDiff,Nat.reducePow,_c,_u,_v,_p,_q]
  have fin : ∀ x y : Int, W (retV μ (μ ++ [some (Cell.list [.int x, .int y])]) (.loc μ.length)) P := fun x y => by
    refine W_retNew (c := Cell.list [.int x, .int y]) (chkMu_self μ _) (Nat.le_refl _) (by simp) (by simp [okCell, okLocs, okLoc]) ?_
    rw [List.take_left]
    exact h _ ⟨_, _, rfl⟩
  refine ⟨fun hlt => ?_, fun _ => fin _ _⟩
  obtain ⟨z, e, hz⟩ := atI_mem (zs := ns.map D.int) hk (by simpa using hlt)
  rw [List.getElem?_map] at hz
  obtain ⟨c, _, rfl⟩ := Option.map_eq_some_iff.mp hz
  rw [e]
  try simp -implicitDefEqProofs only [_bi,_cs,_ca,_ct,_bj,_cb,_bk,_bl,_cc,_cd,_ac,_ce,_ad,_ae,onBody,sNil,_cf,_af,_ag,_ah,_ai,sBk,sCt,sExpr,sRet,sRetN,sIf,sSet,sAsg,sAsgL,sPar2,sFor,sDel,eVar,eC,eBin,eUn,eT,boolOf,_aj,_O,_ak,_al,_P,_bm,_cg,_am,_bn,TL.tAnd,TL.tOr,TL.tNot,tTrue,eAnd,eOr,eNot,eIf,aNil,aCons,eTup,eFz,eNew,eFrz,frzD,nLst,nCall,eCall,eCallF,eSl,oNone,oSome,nComp,nCompK,nCat,_an,_K,_L,_D,_M,_ao,_Q,nEmpty,nDisp,pNil,pCons,iVal,iRange1,iRange2,iEnumF,iZipF,iItemsF,kRange1,kRange2,kEnum,kZip,kItems,cellD,eMeth,startD,tgSet,tgSets,wipeD,_x,_E,_m,_r,_d,_e,_n,_s,_t,_a,_b,_i,_f,_g,_F,Nat.reduceAdd,Nat.reduceSub,Nat.reduceEqDiff,_ap,_R,_S,_N,_G,_aq,_ar,_as,_at,_au,_av,_aw,_ax,_ay,_az,_ba,_bo,_bp,_bq,_br,_bs,_ch,_T,_ci,_U,_bt,_V,_W,_bu,_bv,_bw,_bx,_by,_cj,_ck,_cl,_cm,_bb,_bc,_bd,_be,_X,_Y,_cn,_co,_cp,_cq,TL.keyOf,_cr,_bz,_bf,_bg,_Z,_bh,_j,_J,_H,_o,_y,_z,_A,_B,_w,_aa,_ab,_I,_h,_C,_k,_l,Int.reduceLT,Int.reduceLE,Int.reducePow,Int.reduceToNat,Int.reduceNeg,Int.reduceAdd,Int.reduceSub,Int.reduceMul,Nat.reduceLT,Nat.reduceLeDiff,Nat.reducePow,_c,_u,_v,_p,_q]
  exact fin _ _


/-! ### k19: what the program tells of the typed logs, by running it -/
def fdC (a b : Int) : Mu := [some (.list [.int a, .int b])]
def kD19 (n : Str) (hi : Int) : D := .dict [(.inr n, .tuple [.int 5, .int hi])]
def ln19 (t : Int) (n : Str) (p : D) : D := .tuple [.int t, .str n, p]
def zl (zs : List Int) : D := .list (zs.map .int)
def gr19 (ex en : List (List Int)) (mE mX : List Int) : D := .obj "Graph" [("exits_of", .dict (ex.zipIdx.map fun p => (.inl (p.2 : Int), zl p.1))), ("entries_of", .dict (en.zipIdx.map fun p => (.inl (p.2 : Int), zl p.1))), ("must_entries", zl mE), ("must_exits", zl mX)]
def sd19 (nb : List (List Int)) (m : List Int) (t : D) : D := .obj "Side" [("must", zl m), ("neighbours", .dict (nb.zipIdx.map fun p => (.inl (p.2 : Int), zl p.1))), ("trust_of", t)]
def trues (k : Nat) : D := .list (List.replicate k (.bool true))
def isNm (n : Str) : Prop := n = "car" ∨ n = "bus" ∨ n = "a"
def lg2 (n : Str) : D := .tuple [.list [ln19 0 n .none, ln19 1 n .none], .list [ln19 6 n .none], .int 0, .str "closed"]
def lgO (n : Str) : D := .tuple [.list [ln19 0 n .none, ln19 1 n .none], .list [ln19 6 n .none], .int 0, .int 10]
def lgS (n : Str) : D := .tuple [.list [ln19 0 n (.str "A"), ln19 20 n .none], .list [ln19 7 n (.str "B"), ln19 50 n .none], .str "closed", .str "closed"]
def lgE : D := .tuple [.list [], .list [], .str "closed", .int 0]
def lgR (n : Str) : D := .tuple [.list [ln19 0 n .none, ln19 10 n .none, ln19 20 n .none, ln19 30 n .none, ln19 40 n .none], .list [ln19 15 n .none, ln19 25 n .none, ln19 35 n .none], .str "closed", .str "closed"]
def G2 : D := gr19 [[0], [0]] [[0, 1]] [0, 1] []
def GO : D := gr19 [[0], [0]] [[0, 1]] [] []
def GS : D := gr19 [[], []] [[], []] [0, 1] [0, 1]
def GE : D := gr19 [] [] [] []
def GR : D := gr19 [[0], [0, 1], [1, 2], [2], []] [[0, 1], [1, 2], [2, 3]] [0, 1, 2, 3, 4] [0, 1, 2]
def PL : D := .list [.dict [], .dict []]
def T2 (l h : Int) : D := .tuple [zl [l, h], zl [5]]
def n9 : D := .list (List.replicate 9 (zl []))
def V2 (l : Nat) : D := .tuple [zl [0], zl [], .list [.tuple [.int 1, .int 0]], .list (List.replicate l (zl [0, 1]) ++ List.replicate (9 - l) (zl [])), n9]
def WR (x : Int) (p q : Int) (l : Nat) : D := .tuple [zl [x], zl [], .list [.tuple [.int p, .int q]], .list (List.replicate l (zl [0, 1]) ++ List.replicate (9 - l) (zl [])), n9]
def FL (l : Nat) : D := .list (List.replicate l (.int 1) ++ List.replicate (9 - l) (.int 0))
section
variable {n : Str} (hn : isNm n) (a b : Int)
include hn
theorem g2_is : c_graph_of [kD19 n 10, lg2 n] (fdC a b) = .ok G2 (fdC a b) := by rcases hn with rfl | rfl | rfl <;> kernel_rfl
theorem gO_is : c_graph_of [kD19 n 10, lgO n] (fdC a b) = .ok GO (fdC a b) := by rcases hn with rfl | rfl | rfl <;> kernel_rfl
theorem gS_is : c_graph_of [kD19 n 10, lgS n] (fdC a b) = .ok GS (fdC a b) := by rcases hn with rfl | rfl | rfl <;> kernel_rfl
theorem gE_is : c_graph_of [kD19 n 10, lgE] (fdC a b) = .ok GE (fdC a b) := by rcases hn with rfl | rfl | rfl <;> kernel_rfl
theorem gR_is : c_graph_of [kD19 n 15, lgR n] (fdC a b) = .ok GR (fdC a b) := by rcases hn with rfl | rfl | rfl <;> kernel_rfl
end
theorem s2_is (l h a b : Int) : c_sides_of [G2, T2 l h] (fdC a b) = .ok (.list [sd19 [[0], [0]] [0, 1] (zl [l, h]), sd19 [[0, 1]] [] (zl [5])]) (fdC a b) := by kernel_rfl
theorem sx2_is (a b : Int) : c_Side_lacks [sd19 [[0, 1]] [] (zl [5])] (fdC a b) = .ok (.list (List.replicate 9 (.int 0))) (fdC a b) := by kernel_rfl
def LH (l h : Nat) : Prop := 1 ≤ l ∧ l < h ∧ h ≤ 9
theorem lh_cases {l h : Nat} (x : LH l h) {p : Nat → Nat → Prop} (k : ∀ l < 9, ∀ h < 10, l < h → 1 ≤ l → p l h) : p l h := k l (by have := x.2; omega) h (by have := x.2; omega) x.2.1 x.1

theorem open19_car (a b : Int) : c__law_of_open_gates [kD19 "car" 10, .str "car"] (fdC a b) = .ok (trues 11) (fdC a b) := by kernel_rfl
theorem two19_car_1_2 (a b : Int) : c__law_of_two [kD19 "car" 10, .str "car", .int 1, .int 2] (fdC a b) = .ok (trues 11) (fdC a b) := by kernel_rfl
theorem two19_car_1_3 (a b : Int) : c__law_of_two [kD19 "car" 10, .str "car", .int 1, .int 3] (fdC a b) = .ok (trues 11) (fdC a b) := by kernel_rfl
theorem two19_car_1_4 (a b : Int) : c__law_of_two [kD19 "car" 10, .str "car", .int 1, .int 4] (fdC a b) = .ok (trues 11) (fdC a b) := by kernel_rfl
theorem two19_car_1_5 (a b : Int) : c__law_of_two [kD19 "car" 10, .str "car", .int 1, .int 5] (fdC a b) = .ok (trues 11) (fdC a b) := by kernel_rfl
theorem two19_car_1_6 (a b : Int) : c__law_of_two [kD19 "car" 10, .str "car", .int 1, .int 6] (fdC a b) = .ok (trues 11) (fdC a b) := by kernel_rfl
theorem two19_car_1_7 (a b : Int) : c__law_of_two [kD19 "car" 10, .str "car", .int 1, .int 7] (fdC a b) = .ok (trues 11) (fdC a b) := by kernel_rfl
theorem two19_car_1_8 (a b : Int) : c__law_of_two [kD19 "car" 10, .str "car", .int 1, .int 8] (fdC a b) = .ok (trues 11) (fdC a b) := by kernel_rfl
theorem two19_car_1_9 (a b : Int) : c__law_of_two [kD19 "car" 10, .str "car", .int 1, .int 9] (fdC a b) = .ok (trues 11) (fdC a b) := by kernel_rfl
theorem two19_car_2_3 (a b : Int) : c__law_of_two [kD19 "car" 10, .str "car", .int 2, .int 3] (fdC a b) = .ok (trues 11) (fdC a b) := by kernel_rfl
theorem two19_car_2_4 (a b : Int) : c__law_of_two [kD19 "car" 10, .str "car", .int 2, .int 4] (fdC a b) = .ok (trues 11) (fdC a b) := by kernel_rfl
theorem two19_car_2_5 (a b : Int) : c__law_of_two [kD19 "car" 10, .str "car", .int 2, .int 5] (fdC a b) = .ok (trues 11) (fdC a b) := by kernel_rfl
theorem two19_car_2_6 (a b : Int) : c__law_of_two [kD19 "car" 10, .str "car", .int 2, .int 6] (fdC a b) = .ok (trues 11) (fdC a b) := by kernel_rfl
theorem two19_car_2_7 (a b : Int) : c__law_of_two [kD19 "car" 10, .str "car", .int 2, .int 7] (fdC a b) = .ok (trues 11) (fdC a b) := by kernel_rfl
theorem two19_car_2_8 (a b : Int) : c__law_of_two [kD19 "car" 10, .str "car", .int 2, .int 8] (fdC a b) = .ok (trues 11) (fdC a b) := by kernel_rfl
theorem two19_car_2_9 (a b : Int) : c__law_of_two [kD19 "car" 10, .str "car", .int 2, .int 9] (fdC a b) = .ok (trues 11) (fdC a b) := by kernel_rfl
theorem two19_car_3_4 (a b : Int) : c__law_of_two [kD19 "car" 10, .str "car", .int 3, .int 4] (fdC a b) = .ok (trues 11) (fdC a b) := by kernel_rfl
theorem two19_car_3_5 (a b : Int) : c__law_of_two [kD19 "car" 10, .str "car", .int 3, .int 5] (fdC a b) = .ok (trues 11) (fdC a b) := by kernel_rfl
theorem two19_car_3_6 (a b : Int) : c__law_of_two [kD19 "car" 10, .str "car", .int 3, .int 6] (fdC a b) = .ok (trues 11) (fdC a b) := by kernel_rfl
theorem two19_car_3_7 (a b : Int) : c__law_of_two [kD19 "car" 10, .str "car", .int 3, .int 7] (fdC a b) = .ok (trues 11) (fdC a b) := by kernel_rfl
theorem two19_car_3_8 (a b : Int) : c__law_of_two [kD19 "car" 10, .str "car", .int 3, .int 8] (fdC a b) = .ok (trues 11) (fdC a b) := by kernel_rfl
theorem two19_car_3_9 (a b : Int) : c__law_of_two [kD19 "car" 10, .str "car", .int 3, .int 9] (fdC a b) = .ok (trues 11) (fdC a b) := by kernel_rfl
theorem two19_car_4_5 (a b : Int) : c__law_of_two [kD19 "car" 10, .str "car", .int 4, .int 5] (fdC a b) = .ok (trues 11) (fdC a b) := by kernel_rfl
theorem two19_car_4_6 (a b : Int) : c__law_of_two [kD19 "car" 10, .str "car", .int 4, .int 6] (fdC a b) = .ok (trues 11) (fdC a b) := by kernel_rfl
theorem two19_car_4_7 (a b : Int) : c__law_of_two [kD19 "car" 10, .str "car", .int 4, .int 7] (fdC a b) = .ok (trues 11) (fdC a b) := by kernel_rfl
theorem two19_car_4_8 (a b : Int) : c__law_of_two [kD19 "car" 10, .str "car", .int 4, .int 8] (fdC a b) = .ok (trues 11) (fdC a b) := by kernel_rfl
theorem two19_car_4_9 (a b : Int) : c__law_of_two [kD19 "car" 10, .str "car", .int 4, .int 9] (fdC a b) = .ok (trues 11) (fdC a b) := by kernel_rfl
theorem two19_car_5_6 (a b : Int) : c__law_of_two [kD19 "car" 10, .str "car", .int 5, .int 6] (fdC a b) = .ok (trues 11) (fdC a b) := by kernel_rfl
theorem two19_car_5_7 (a b : Int) : c__law_of_two [kD19 "car" 10, .str "car", .int 5, .int 7] (fdC a b) = .ok (trues 11) (fdC a b) := by kernel_rfl
theorem two19_car_5_8 (a b : Int) : c__law_of_two [kD19 "car" 10, .str "car", .int 5, .int 8] (fdC a b) = .ok (trues 11) (fdC a b) := by kernel_rfl
theorem two19_car_5_9 (a b : Int) : c__law_of_two [kD19 "car" 10, .str "car", .int 5, .int 9] (fdC a b) = .ok (trues 11) (fdC a b) := by kernel_rfl
theorem two19_car_6_7 (a b : Int) : c__law_of_two [kD19 "car" 10, .str "car", .int 6, .int 7] (fdC a b) = .ok (trues 11) (fdC a b) := by kernel_rfl
theorem two19_car_6_8 (a b : Int) : c__law_of_two [kD19 "car" 10, .str "car", .int 6, .int 8] (fdC a b) = .ok (trues 11) (fdC a b) := by kernel_rfl
theorem two19_car_6_9 (a b : Int) : c__law_of_two [kD19 "car" 10, .str "car", .int 6, .int 9] (fdC a b) = .ok (trues 11) (fdC a b) := by kernel_rfl
theorem two19_car_7_8 (a b : Int) : c__law_of_two [kD19 "car" 10, .str "car", .int 7, .int 8] (fdC a b) = .ok (trues 11) (fdC a b) := by kernel_rfl
theorem two19_car_7_9 (a b : Int) : c__law_of_two [kD19 "car" 10, .str "car", .int 7, .int 9] (fdC a b) = .ok (trues 11) (fdC a b) := by kernel_rfl
theorem two19_car_8_9 (a b : Int) : c__law_of_two [kD19 "car" 10, .str "car", .int 8, .int 9] (fdC a b) = .ok (trues 11) (fdC a b) := by kernel_rfl
theorem open19_bus (a b : Int) : c__law_of_open_gates [kD19 "bus" 10, .str "bus"] (fdC a b) = .ok (trues 11) (fdC a b) := by kernel_rfl
theorem two19_bus_1_2 (a b : Int) : c__law_of_two [kD19 "bus" 10, .str "bus", .int 1, .int 2] (fdC a b) = .ok (trues 11) (fdC a b) := by kernel_rfl
theorem two19_bus_1_3 (a b : Int) : c__law_of_two [kD19 "bus" 10, .str "bus", .int 1, .int 3] (fdC a b) = .ok (trues 11) (fdC a b) := by kernel_rfl
theorem two19_bus_1_4 (a b : Int) : c__law_of_two [kD19 "bus" 10, .str "bus", .int 1, .int 4] (fdC a b) = .ok (trues 11) (fdC a b) := by kernel_rfl
theorem two19_bus_1_5 (a b : Int) : c__law_of_two [kD19 "bus" 10, .str "bus", .int 1, .int 5] (fdC a b) = .ok (trues 11) (fdC a b) := by kernel_rfl
theorem two19_bus_1_6 (a b : Int) : c__law_of_two [kD19 "bus" 10, .str "bus", .int 1, .int 6] (fdC a b) = .ok (trues 11) (fdC a b) := by kernel_rfl
theorem two19_bus_1_7 (a b : Int) : c__law_of_two [kD19 "bus" 10, .str "bus", .int 1, .int 7] (fdC a b) = .ok (trues 11) (fdC a b) := by kernel_rfl
theorem two19_bus_1_8 (a b : Int) : c__law_of_two [kD19 "bus" 10, .str "bus", .int 1, .int 8] (fdC a b) = .ok (trues 11) (fdC a b) := by kernel_rfl
theorem two19_bus_1_9 (a b : Int) : c__law_of_two [kD19 "bus" 10, .str "bus", .int 1, .int 9] (fdC a b) = .ok (trues 11) (fdC a b) := by kernel_rfl
theorem two19_bus_2_3 (a b : Int) : c__law_of_two [kD19 "bus" 10, .str "bus", .int 2, .int 3] (fdC a b) = .ok (trues 11) (fdC a b) := by kernel_rfl
theorem two19_bus_2_4 (a b : Int) : c__law_of_two [kD19 "bus" 10, .str "bus", .int 2, .int 4] (fdC a b) = .ok (trues 11) (fdC a b) := by kernel_rfl
theorem two19_bus_2_5 (a b : Int) : c__law_of_two [kD19 "bus" 10, .str "bus", .int 2, .int 5] (fdC a b) = .ok (trues 11) (fdC a b) := by kernel_rfl
theorem two19_bus_2_6 (a b : Int) : c__law_of_two [kD19 "bus" 10, .str "bus", .int 2, .int 6] (fdC a b) = .ok (trues 11) (fdC a b) := by kernel_rfl
theorem two19_bus_2_7 (a b : Int) : c__law_of_two [kD19 "bus" 10, .str "bus", .int 2, .int 7] (fdC a b) = .ok (trues 11) (fdC a b) := by kernel_rfl
theorem two19_bus_2_8 (a b : Int) : c__law_of_two [kD19 "bus" 10, .str "bus", .int 2, .int 8] (fdC a b) = .ok (trues 11) (fdC a b) := by kernel_rfl
theorem two19_bus_2_9 (a b : Int) : c__law_of_two [kD19 "bus" 10, .str "bus", .int 2, .int 9] (fdC a b) = .ok (trues 11) (fdC a b) := by kernel_rfl
theorem two19_bus_3_4 (a b : Int) : c__law_of_two [kD19 "bus" 10, .str "bus", .int 3, .int 4] (fdC a b) = .ok (trues 11) (fdC a b) := by kernel_rfl
theorem two19_bus_3_5 (a b : Int) : c__law_of_two [kD19 "bus" 10, .str "bus", .int 3, .int 5] (fdC a b) = .ok (trues 11) (fdC a b) := by kernel_rfl
theorem two19_bus_3_6 (a b : Int) : c__law_of_two [kD19 "bus" 10, .str "bus", .int 3, .int 6] (fdC a b) = .ok (trues 11) (fdC a b) := by kernel_rfl
theorem two19_bus_3_7 (a b : Int) : c__law_of_two [kD19 "bus" 10, .str "bus", .int 3, .int 7] (fdC a b) = .ok (trues 11) (fdC a b) := by kernel_rfl
theorem two19_bus_3_8 (a b : Int) : c__law_of_two [kD19 "bus" 10, .str "bus", .int 3, .int 8] (fdC a b) = .ok (trues 11) (fdC a b) := by kernel_rfl
theorem two19_bus_3_9 (a b : Int) : c__law_of_two [kD19 "bus" 10, .str "bus", .int 3, .int 9] (fdC a b) = .ok (trues 11) (fdC a b) := by kernel_rfl
theorem two19_bus_4_5 (a b : Int) : c__law_of_two [kD19 "bus" 10, .str "bus", .int 4, .int 5] (fdC a b) = .ok (trues 11) (fdC a b) := by kernel_rfl
theorem two19_bus_4_6 (a b : Int) : c__law_of_two [kD19 "bus" 10, .str "bus", .int 4, .int 6] (fdC a b) = .ok (trues 11) (fdC a b) := by kernel_rfl
theorem two19_bus_4_7 (a b : Int) : c__law_of_two [kD19 "bus" 10, .str "bus", .int 4, .int 7] (fdC a b) = .ok (trues 11) (fdC a b) := by kernel_rfl
theorem two19_bus_4_8 (a b : Int) : c__law_of_two [kD19 "bus" 10, .str "bus", .int 4, .int 8] (fdC a b) = .ok (trues 11) (fdC a b) := by kernel_rfl
theorem two19_bus_4_9 (a b : Int) : c__law_of_two [kD19 "bus" 10, .str "bus", .int 4, .int 9] (fdC a b) = .ok (trues 11) (fdC a b) := by kernel_rfl
theorem two19_bus_5_6 (a b : Int) : c__law_of_two [kD19 "bus" 10, .str "bus", .int 5, .int 6] (fdC a b) = .ok (trues 11) (fdC a b) := by kernel_rfl
theorem two19_bus_5_7 (a b : Int) : c__law_of_two [kD19 "bus" 10, .str "bus", .int 5, .int 7] (fdC a b) = .ok (trues 11) (fdC a b) := by kernel_rfl
theorem two19_bus_5_8 (a b : Int) : c__law_of_two [kD19 "bus" 10, .str "bus", .int 5, .int 8] (fdC a b) = .ok (trues 11) (fdC a b) := by kernel_rfl
theorem two19_bus_5_9 (a b : Int) : c__law_of_two [kD19 "bus" 10, .str "bus", .int 5, .int 9] (fdC a b) = .ok (trues 11) (fdC a b) := by kernel_rfl
theorem two19_bus_6_7 (a b : Int) : c__law_of_two [kD19 "bus" 10, .str "bus", .int 6, .int 7] (fdC a b) = .ok (trues 11) (fdC a b) := by kernel_rfl
theorem two19_bus_6_8 (a b : Int) : c__law_of_two [kD19 "bus" 10, .str "bus", .int 6, .int 8] (fdC a b) = .ok (trues 11) (fdC a b) := by kernel_rfl
theorem two19_bus_6_9 (a b : Int) : c__law_of_two [kD19 "bus" 10, .str "bus", .int 6, .int 9] (fdC a b) = .ok (trues 11) (fdC a b) := by kernel_rfl
theorem two19_bus_7_8 (a b : Int) : c__law_of_two [kD19 "bus" 10, .str "bus", .int 7, .int 8] (fdC a b) = .ok (trues 11) (fdC a b) := by kernel_rfl
theorem two19_bus_7_9 (a b : Int) : c__law_of_two [kD19 "bus" 10, .str "bus", .int 7, .int 9] (fdC a b) = .ok (trues 11) (fdC a b) := by kernel_rfl
theorem two19_bus_8_9 (a b : Int) : c__law_of_two [kD19 "bus" 10, .str "bus", .int 8, .int 9] (fdC a b) = .ok (trues 11) (fdC a b) := by kernel_rfl
theorem open19_a (a b : Int) : c__law_of_open_gates [kD19 "a" 10, .str "a"] (fdC a b) = .ok (trues 11) (fdC a b) := by kernel_rfl
theorem two19_a_1_2 (a b : Int) : c__law_of_two [kD19 "a" 10, .str "a", .int 1, .int 2] (fdC a b) = .ok (trues 11) (fdC a b) := by kernel_rfl
theorem two19_a_1_3 (a b : Int) : c__law_of_two [kD19 "a" 10, .str "a", .int 1, .int 3] (fdC a b) = .ok (trues 11) (fdC a b) := by kernel_rfl
theorem two19_a_1_4 (a b : Int) : c__law_of_two [kD19 "a" 10, .str "a", .int 1, .int 4] (fdC a b) = .ok (trues 11) (fdC a b) := by kernel_rfl
theorem two19_a_1_5 (a b : Int) : c__law_of_two [kD19 "a" 10, .str "a", .int 1, .int 5] (fdC a b) = .ok (trues 11) (fdC a b) := by kernel_rfl
theorem two19_a_1_6 (a b : Int) : c__law_of_two [kD19 "a" 10, .str "a", .int 1, .int 6] (fdC a b) = .ok (trues 11) (fdC a b) := by kernel_rfl
theorem two19_a_1_7 (a b : Int) : c__law_of_two [kD19 "a" 10, .str "a", .int 1, .int 7] (fdC a b) = .ok (trues 11) (fdC a b) := by kernel_rfl
theorem two19_a_1_8 (a b : Int) : c__law_of_two [kD19 "a" 10, .str "a", .int 1, .int 8] (fdC a b) = .ok (trues 11) (fdC a b) := by kernel_rfl
theorem two19_a_1_9 (a b : Int) : c__law_of_two [kD19 "a" 10, .str "a", .int 1, .int 9] (fdC a b) = .ok (trues 11) (fdC a b) := by kernel_rfl
theorem two19_a_2_3 (a b : Int) : c__law_of_two [kD19 "a" 10, .str "a", .int 2, .int 3] (fdC a b) = .ok (trues 11) (fdC a b) := by kernel_rfl
theorem two19_a_2_4 (a b : Int) : c__law_of_two [kD19 "a" 10, .str "a", .int 2, .int 4] (fdC a b) = .ok (trues 11) (fdC a b) := by kernel_rfl
theorem two19_a_2_5 (a b : Int) : c__law_of_two [kD19 "a" 10, .str "a", .int 2, .int 5] (fdC a b) = .ok (trues 11) (fdC a b) := by kernel_rfl
theorem two19_a_2_6 (a b : Int) : c__law_of_two [kD19 "a" 10, .str "a", .int 2, .int 6] (fdC a b) = .ok (trues 11) (fdC a b) := by kernel_rfl
theorem two19_a_2_7 (a b : Int) : c__law_of_two [kD19 "a" 10, .str "a", .int 2, .int 7] (fdC a b) = .ok (trues 11) (fdC a b) := by kernel_rfl
theorem two19_a_2_8 (a b : Int) : c__law_of_two [kD19 "a" 10, .str "a", .int 2, .int 8] (fdC a b) = .ok (trues 11) (fdC a b) := by kernel_rfl
theorem two19_a_2_9 (a b : Int) : c__law_of_two [kD19 "a" 10, .str "a", .int 2, .int 9] (fdC a b) = .ok (trues 11) (fdC a b) := by kernel_rfl
theorem two19_a_3_4 (a b : Int) : c__law_of_two [kD19 "a" 10, .str "a", .int 3, .int 4] (fdC a b) = .ok (trues 11) (fdC a b) := by kernel_rfl
theorem two19_a_3_5 (a b : Int) : c__law_of_two [kD19 "a" 10, .str "a", .int 3, .int 5] (fdC a b) = .ok (trues 11) (fdC a b) := by kernel_rfl
theorem two19_a_3_6 (a b : Int) : c__law_of_two [kD19 "a" 10, .str "a", .int 3, .int 6] (fdC a b) = .ok (trues 11) (fdC a b) := by kernel_rfl
theorem two19_a_3_7 (a b : Int) : c__law_of_two [kD19 "a" 10, .str "a", .int 3, .int 7] (fdC a b) = .ok (trues 11) (fdC a b) := by kernel_rfl
theorem two19_a_3_8 (a b : Int) : c__law_of_two [kD19 "a" 10, .str "a", .int 3, .int 8] (fdC a b) = .ok (trues 11) (fdC a b) := by kernel_rfl
theorem two19_a_3_9 (a b : Int) : c__law_of_two [kD19 "a" 10, .str "a", .int 3, .int 9] (fdC a b) = .ok (trues 11) (fdC a b) := by kernel_rfl
theorem two19_a_4_5 (a b : Int) : c__law_of_two [kD19 "a" 10, .str "a", .int 4, .int 5] (fdC a b) = .ok (trues 11) (fdC a b) := by kernel_rfl
theorem two19_a_4_6 (a b : Int) : c__law_of_two [kD19 "a" 10, .str "a", .int 4, .int 6] (fdC a b) = .ok (trues 11) (fdC a b) := by kernel_rfl
theorem two19_a_4_7 (a b : Int) : c__law_of_two [kD19 "a" 10, .str "a", .int 4, .int 7] (fdC a b) = .ok (trues 11) (fdC a b) := by kernel_rfl
theorem two19_a_4_8 (a b : Int) : c__law_of_two [kD19 "a" 10, .str "a", .int 4, .int 8] (fdC a b) = .ok (trues 11) (fdC a b) := by kernel_rfl
theorem two19_a_4_9 (a b : Int) : c__law_of_two [kD19 "a" 10, .str "a", .int 4, .int 9] (fdC a b) = .ok (trues 11) (fdC a b) := by kernel_rfl
theorem two19_a_5_6 (a b : Int) : c__law_of_two [kD19 "a" 10, .str "a", .int 5, .int 6] (fdC a b) = .ok (trues 11) (fdC a b) := by kernel_rfl
theorem two19_a_5_7 (a b : Int) : c__law_of_two [kD19 "a" 10, .str "a", .int 5, .int 7] (fdC a b) = .ok (trues 11) (fdC a b) := by kernel_rfl
theorem two19_a_5_8 (a b : Int) : c__law_of_two [kD19 "a" 10, .str "a", .int 5, .int 8] (fdC a b) = .ok (trues 11) (fdC a b) := by kernel_rfl
theorem two19_a_5_9 (a b : Int) : c__law_of_two [kD19 "a" 10, .str "a", .int 5, .int 9] (fdC a b) = .ok (trues 11) (fdC a b) := by kernel_rfl
theorem two19_a_6_7 (a b : Int) : c__law_of_two [kD19 "a" 10, .str "a", .int 6, .int 7] (fdC a b) = .ok (trues 11) (fdC a b) := by kernel_rfl
theorem two19_a_6_8 (a b : Int) : c__law_of_two [kD19 "a" 10, .str "a", .int 6, .int 8] (fdC a b) = .ok (trues 11) (fdC a b) := by kernel_rfl
theorem two19_a_6_9 (a b : Int) : c__law_of_two [kD19 "a" 10, .str "a", .int 6, .int 9] (fdC a b) = .ok (trues 11) (fdC a b) := by kernel_rfl
theorem two19_a_7_8 (a b : Int) : c__law_of_two [kD19 "a" 10, .str "a", .int 7, .int 8] (fdC a b) = .ok (trues 11) (fdC a b) := by kernel_rfl
theorem two19_a_7_9 (a b : Int) : c__law_of_two [kD19 "a" 10, .str "a", .int 7, .int 9] (fdC a b) = .ok (trues 11) (fdC a b) := by kernel_rfl
theorem two19_a_8_9 (a b : Int) : c__law_of_two [kD19 "a" 10, .str "a", .int 8, .int 9] (fdC a b) = .ok (trues 11) (fdC a b) := by kernel_rfl
theorem open19 {n : Str} (hn : isNm n) (a b : Int) : c__law_of_open_gates [kD19 n 10, .str n] (fdC a b) = .ok (trues 11) (fdC a b) := by
  rcases hn with rfl | rfl | rfl
  · exact open19_car a b
  · exact open19_bus a b
  · exact open19_a a b
theorem two19 {n : Str} (hn : isNm n) {l h : Int} (x1 : 1 ≤ l) (x2 : l < h) (x3 : h ≤ 9) (a b : Int) : c__law_of_two [kD19 n 10, .str n, .int l, .int h] (fdC a b) = .ok (trues 11) (fdC a b) := by
  rcases hn with rfl | rfl | rfl
  · rcases (by omega : l = 1 ∨ l = 2 ∨ l = 3 ∨ l = 4 ∨ l = 5 ∨ l = 6 ∨ l = 7 ∨ l = 8) with rfl | rfl | rfl | rfl | rfl | rfl | rfl | rfl
    · rcases (by omega : h = 2 ∨ h = 3 ∨ h = 4 ∨ h = 5 ∨ h = 6 ∨ h = 7 ∨ h = 8 ∨ h = 9) with rfl | rfl | rfl | rfl | rfl | rfl | rfl | rfl
      · exact two19_car_1_2 a b
      · exact two19_car_1_3 a b
      · exact two19_car_1_4 a b
      · exact two19_car_1_5 a b
      · exact two19_car_1_6 a b
      · exact two19_car_1_7 a b
      · exact two19_car_1_8 a b
      · exact two19_car_1_9 a b
    · rcases (by omega : h = 3 ∨ h = 4 ∨ h = 5 ∨ h = 6 ∨ h = 7 ∨ h = 8 ∨ h = 9) with rfl | rfl | rfl | rfl | rfl | rfl | rfl
      · exact two19_car_2_3 a b
      · exact two19_car_2_4 a b
      · exact two19_car_2_5 a b
      · exact two19_car_2_6 a b
      · exact two19_car_2_7 a b
      · exact two19_car_2_8 a b
      · exact two19_car_2_9 a b
    · rcases (by omega : h = 4 ∨ h = 5 ∨ h = 6 ∨ h = 7 ∨ h = 8 ∨ h = 9) with rfl | rfl | rfl | rfl | rfl | rfl
      · exact two19_car_3_4 a b
      · exact two19_car_3_5 a b
      · exact two19_car_3_6 a b
      · exact two19_car_3_7 a b
      · exact two19_car_3_8 a b
      · exact two19_car_3_9 a b
    · rcases (by omega : h = 5 ∨ h = 6 ∨ h = 7 ∨ h = 8 ∨ h = 9) with rfl | rfl | rfl | rfl | rfl
      · exact two19_car_4_5 a b
      · exact two19_car_4_6 a b
      · exact two19_car_4_7 a b
      · exact two19_car_4_8 a b
      · exact two19_car_4_9 a b
    · rcases (by omega : h = 6 ∨ h = 7 ∨ h = 8 ∨ h = 9) with rfl | rfl | rfl | rfl
      · exact two19_car_5_6 a b
      · exact two19_car_5_7 a b
      · exact two19_car_5_8 a b
      · exact two19_car_5_9 a b
    · rcases (by omega : h = 7 ∨ h = 8 ∨ h = 9) with rfl | rfl | rfl
      · exact two19_car_6_7 a b
      · exact two19_car_6_8 a b
      · exact two19_car_6_9 a b
    · rcases (by omega : h = 8 ∨ h = 9) with rfl | rfl
      · exact two19_car_7_8 a b
      · exact two19_car_7_9 a b
    · obtain rfl : h = 9 := by omega
      exact two19_car_8_9 a b
  · rcases (by omega : l = 1 ∨ l = 2 ∨ l = 3 ∨ l = 4 ∨ l = 5 ∨ l = 6 ∨ l = 7 ∨ l = 8) with rfl | rfl | rfl | rfl | rfl | rfl | rfl | rfl
    · rcases (by omega : h = 2 ∨ h = 3 ∨ h = 4 ∨ h = 5 ∨ h = 6 ∨ h = 7 ∨ h = 8 ∨ h = 9) with rfl | rfl | rfl | rfl | rfl | rfl | rfl | rfl
      · exact two19_bus_1_2 a b
      · exact two19_bus_1_3 a b
      · exact two19_bus_1_4 a b
      · exact two19_bus_1_5 a b
      · exact two19_bus_1_6 a b
      · exact two19_bus_1_7 a b
      · exact two19_bus_1_8 a b
      · exact two19_bus_1_9 a b
    · rcases (by omega : h = 3 ∨ h = 4 ∨ h = 5 ∨ h = 6 ∨ h = 7 ∨ h = 8 ∨ h = 9) with rfl | rfl | rfl | rfl | rfl | rfl | rfl
      · exact two19_bus_2_3 a b
      · exact two19_bus_2_4 a b
      · exact two19_bus_2_5 a b
      · exact two19_bus_2_6 a b
      · exact two19_bus_2_7 a b
      · exact two19_bus_2_8 a b
      · exact two19_bus_2_9 a b
    · rcases (by omega : h = 4 ∨ h = 5 ∨ h = 6 ∨ h = 7 ∨ h = 8 ∨ h = 9) with rfl | rfl | rfl | rfl | rfl | rfl
      · exact two19_bus_3_4 a b
      · exact two19_bus_3_5 a b
      · exact two19_bus_3_6 a b
      · exact two19_bus_3_7 a b
      · exact two19_bus_3_8 a b
      · exact two19_bus_3_9 a b
    · rcases (by omega : h = 5 ∨ h = 6 ∨ h = 7 ∨ h = 8 ∨ h = 9) with rfl | rfl | rfl | rfl | rfl
      · exact two19_bus_4_5 a b
      · exact two19_bus_4_6 a b
      · exact two19_bus_4_7 a b
      · exact two19_bus_4_8 a b
      · exact two19_bus_4_9 a b
    · rcases (by omega : h = 6 ∨ h = 7 ∨ h = 8 ∨ h = 9) with rfl | rfl | rfl | rfl
      · exact two19_bus_5_6 a b
      · exact two19_bus_5_7 a b
      · exact two19_bus_5_8 a b
      · exact two19_bus_5_9 a b
    · rcases (by omega : h = 7 ∨ h = 8 ∨ h = 9) with rfl | rfl | rfl
      · exact two19_bus_6_7 a b
      · exact two19_bus_6_8 a b
      · exact two19_bus_6_9 a b
    · rcases (by omega : h = 8 ∨ h = 9) with rfl | rfl
      · exact two19_bus_7_8 a b
      · exact two19_bus_7_9 a b
    · obtain rfl : h = 9 := by omega
      exact two19_bus_8_9 a b
  · rcases (by omega : l = 1 ∨ l = 2 ∨ l = 3 ∨ l = 4 ∨ l = 5 ∨ l = 6 ∨ l = 7 ∨ l = 8) with rfl | rfl | rfl | rfl | rfl | rfl | rfl | rfl
    · rcases (by omega : h = 2 ∨ h = 3 ∨ h = 4 ∨ h = 5 ∨ h = 6 ∨ h = 7 ∨ h = 8 ∨ h = 9) with rfl | rfl | rfl | rfl | rfl | rfl | rfl | rfl
      · exact two19_a_1_2 a b
      · exact two19_a_1_3 a b
      · exact two19_a_1_4 a b
      · exact two19_a_1_5 a b
      · exact two19_a_1_6 a b
      · exact two19_a_1_7 a b
      · exact two19_a_1_8 a b
      · exact two19_a_1_9 a b
    · rcases (by omega : h = 3 ∨ h = 4 ∨ h = 5 ∨ h = 6 ∨ h = 7 ∨ h = 8 ∨ h = 9) with rfl | rfl | rfl | rfl | rfl | rfl | rfl
      · exact two19_a_2_3 a b
      · exact two19_a_2_4 a b
      · exact two19_a_2_5 a b
      · exact two19_a_2_6 a b
      · exact two19_a_2_7 a b
      · exact two19_a_2_8 a b
      · exact two19_a_2_9 a b
    · rcases (by omega : h = 4 ∨ h = 5 ∨ h = 6 ∨ h = 7 ∨ h = 8 ∨ h = 9) with rfl | rfl | rfl | rfl | rfl | rfl
      · exact two19_a_3_4 a b
      · exact two19_a_3_5 a b
      · exact two19_a_3_6 a b
      · exact two19_a_3_7 a b
      · exact two19_a_3_8 a b
      · exact two19_a_3_9 a b
    · rcases (by omega : h = 5 ∨ h = 6 ∨ h = 7 ∨ h = 8 ∨ h = 9) with rfl | rfl | rfl | rfl | rfl
      · exact two19_a_4_5 a b
      · exact two19_a_4_6 a b
      · exact two19_a_4_7 a b
      · exact two19_a_4_8 a b
      · exact two19_a_4_9 a b
    · rcases (by omega : h = 6 ∨ h = 7 ∨ h = 8 ∨ h = 9) with rfl | rfl | rfl | rfl
      · exact two19_a_5_6 a b
      · exact two19_a_5_7 a b
      · exact two19_a_5_8 a b
      · exact two19_a_5_9 a b
    · rcases (by omega : h = 7 ∨ h = 8 ∨ h = 9) with rfl | rfl | rfl
      · exact two19_a_6_7 a b
      · exact two19_a_6_8 a b
      · exact two19_a_6_9 a b
    · rcases (by omega : h = 8 ∨ h = 9) with rfl | rfl
      · exact two19_a_7_8 a b
      · exact two19_a_7_9 a b
    · obtain rfl : h = 9 := by omega
      exact two19_a_8_9 a b

/-! rows of five entries -/
def lastMin (a b c d : Int) : Int := if d ≤ a ∧ d ≤ b ∧ d ≤ c then 3 else if c ≤ a ∧ c ≤ b then 2 else if b ≤ a then 1 else 0
def min4 (a b c d : Int) : Int := if d ≤ a ∧ d ≤ b ∧ d ≤ c then d else if c ≤ a ∧ c ≤ b then c else if b ≤ a then b else a
def tlR : Res D → List D
  | .ok (.tuple (_ :: r)) _ => r
  | _ => []
def FR (x y : Int) : D := .list ((List.range 9).map fun k : Nat => .int ((if (k : Int) + 1 ≤ x then 1 else 0) + (if (k : Int) + 1 ≤ y then 1 else 0)))
def nbR : List (List Int) := [[0], [0, 1], [1, 2], [2], []]
def TR (p q r s t : Int) : D := .tuple [zl [p, q, r, s, t], zl [1, 1, 1]]
theorem sR_is (p q r s t a b : Int) : c_sides_of [GR, TR p q r s t] (fdC a b) = .ok (.list [sd19 nbR [0, 1, 2, 3, 4] (zl [p, q, r, s, t]), sd19 [[0, 1], [1, 2], [2, 3]] [0, 1, 2] (zl [1, 1, 1])]) (fdC a b) := by kernel_rfl
theorem sRx_is (a b : Int) : c_Side_lacks [sd19 [[0, 1], [1, 2], [2, 3]] [0, 1, 2] (zl [1, 1, 1])] (fdC a b) = .ok (.list (List.replicate 9 (.int 0))) (fdC a b) := by kernel_rfl
theorem spR_is (a b : Int) : c_surplus [.dict (nbR.zipIdx.map fun p => (.inl (p.2 : Int), zl p.1)), zl [0, 1, 2, 3, 4]] (fdC a b) = .ok (.int 2) (fdC a b) := by kernel_rfl
def is3 (x : Int) : Prop := x = 1 ∨ x = 2 ∨ x = 3
structure Row19 (p q r s t a b : Int) : Prop where
  la : c_Side_lacks [sd19 nbR [0, 1, 2, 3, 4] (zl [p, q, r, s, t])] (fdC a b) = .ok (FR (min4 p q r s) t) (fdC a b)
  gr : c_graded_by [GR, TR p q r s t, PL] (fdC a b) = .ok (.tuple (zl [lastMin p q r s, 4] :: tlR (c_graded_by [GR, TR p q r s t, PL] (fdC a b)))) (fdC a b)
theorem row19_11111 (a b : Int) : Row19 1 1 1 1 1 a b := ⟨by kernel_rfl, by kernel_rfl⟩
theorem row19_11112 (a b : Int) : Row19 1 1 1 1 2 a b := ⟨by kernel_rfl, by kernel_rfl⟩
theorem row19_11113 (a b : Int) : Row19 1 1 1 1 3 a b := ⟨by kernel_rfl, by kernel_rfl⟩
theorem row19_11121 (a b : Int) : Row19 1 1 1 2 1 a b := ⟨by kernel_rfl, by kernel_rfl⟩
theorem row19_11122 (a b : Int) : Row19 1 1 1 2 2 a b := ⟨by kernel_rfl, by kernel_rfl⟩
theorem row19_11123 (a b : Int) : Row19 1 1 1 2 3 a b := ⟨by kernel_rfl, by kernel_rfl⟩
theorem row19_11131 (a b : Int) : Row19 1 1 1 3 1 a b := ⟨by kernel_rfl, by kernel_rfl⟩
theorem row19_11132 (a b : Int) : Row19 1 1 1 3 2 a b := ⟨by kernel_rfl, by kernel_rfl⟩
theorem row19_11133 (a b : Int) : Row19 1 1 1 3 3 a b := ⟨by kernel_rfl, by kernel_rfl⟩
theorem row19_11211 (a b : Int) : Row19 1 1 2 1 1 a b := ⟨by kernel_rfl, by kernel_rfl⟩
theorem row19_11212 (a b : Int) : Row19 1 1 2 1 2 a b := ⟨by kernel_rfl, by kernel_rfl⟩
theorem row19_11213 (a b : Int) : Row19 1 1 2 1 3 a b := ⟨by kernel_rfl, by kernel_rfl⟩
theorem row19_11221 (a b : Int) : Row19 1 1 2 2 1 a b := ⟨by kernel_rfl, by kernel_rfl⟩
theorem row19_11222 (a b : Int) : Row19 1 1 2 2 2 a b := ⟨by kernel_rfl, by kernel_rfl⟩
theorem row19_11223 (a b : Int) : Row19 1 1 2 2 3 a b := ⟨by kernel_rfl, by kernel_rfl⟩
theorem row19_11231 (a b : Int) : Row19 1 1 2 3 1 a b := ⟨by kernel_rfl, by kernel_rfl⟩
theorem row19_11232 (a b : Int) : Row19 1 1 2 3 2 a b := ⟨by kernel_rfl, by kernel_rfl⟩
theorem row19_11233 (a b : Int) : Row19 1 1 2 3 3 a b := ⟨by kernel_rfl, by kernel_rfl⟩
theorem row19_11311 (a b : Int) : Row19 1 1 3 1 1 a b := ⟨by kernel_rfl, by kernel_rfl⟩
theorem row19_11312 (a b : Int) : Row19 1 1 3 1 2 a b := ⟨by kernel_rfl, by kernel_rfl⟩
theorem row19_11313 (a b : Int) : Row19 1 1 3 1 3 a b := ⟨by kernel_rfl, by kernel_rfl⟩
theorem row19_11321 (a b : Int) : Row19 1 1 3 2 1 a b := ⟨by kernel_rfl, by kernel_rfl⟩
theorem row19_11322 (a b : Int) : Row19 1 1 3 2 2 a b := ⟨by kernel_rfl, by kernel_rfl⟩
theorem row19_11323 (a b : Int) : Row19 1 1 3 2 3 a b := ⟨by kernel_rfl, by kernel_rfl⟩
theorem row19_11331 (a b : Int) : Row19 1 1 3 3 1 a b := ⟨by kernel_rfl, by kernel_rfl⟩
theorem row19_11332 (a b : Int) : Row19 1 1 3 3 2 a b := ⟨by kernel_rfl, by kernel_rfl⟩
theorem row19_11333 (a b : Int) : Row19 1 1 3 3 3 a b := ⟨by kernel_rfl, by kernel_rfl⟩
theorem row19_12111 (a b : Int) : Row19 1 2 1 1 1 a b := ⟨by kernel_rfl, by kernel_rfl⟩
theorem row19_12112 (a b : Int) : Row19 1 2 1 1 2 a b := ⟨by kernel_rfl, by kernel_rfl⟩
theorem row19_12113 (a b : Int) : Row19 1 2 1 1 3 a b := ⟨by kernel_rfl, by kernel_rfl⟩
theorem row19_12121 (a b : Int) : Row19 1 2 1 2 1 a b := ⟨by kernel_rfl, by kernel_rfl⟩
theorem row19_12122 (a b : Int) : Row19 1 2 1 2 2 a b := ⟨by kernel_rfl, by kernel_rfl⟩
theorem row19_12123 (a b : Int) : Row19 1 2 1 2 3 a b := ⟨by kernel_rfl, by kernel_rfl⟩
theorem row19_12131 (a b : Int) : Row19 1 2 1 3 1 a b := ⟨by kernel_rfl, by kernel_rfl⟩
theorem row19_12132 (a b : Int) : Row19 1 2 1 3 2 a b := ⟨by kernel_rfl, by kernel_rfl⟩
theorem row19_12133 (a b : Int) : Row19 1 2 1 3 3 a b := ⟨by kernel_rfl, by kernel_rfl⟩
theorem row19_12211 (a b : Int) : Row19 1 2 2 1 1 a b := ⟨by kernel_rfl, by kernel_rfl⟩
theorem row19_12212 (a b : Int) : Row19 1 2 2 1 2 a b := ⟨by kernel_rfl, by kernel_rfl⟩
theorem row19_12213 (a b : Int) : Row19 1 2 2 1 3 a b := ⟨by kernel_rfl, by kernel_rfl⟩
theorem row19_12221 (a b : Int) : Row19 1 2 2 2 1 a b := ⟨by kernel_rfl, by kernel_rfl⟩
theorem row19_12222 (a b : Int) : Row19 1 2 2 2 2 a b := ⟨by kernel_rfl, by kernel_rfl⟩
theorem row19_12223 (a b : Int) : Row19 1 2 2 2 3 a b := ⟨by kernel_rfl, by kernel_rfl⟩
theorem row19_12231 (a b : Int) : Row19 1 2 2 3 1 a b := ⟨by kernel_rfl, by kernel_rfl⟩
theorem row19_12232 (a b : Int) : Row19 1 2 2 3 2 a b := ⟨by kernel_rfl, by kernel_rfl⟩
theorem row19_12233 (a b : Int) : Row19 1 2 2 3 3 a b := ⟨by kernel_rfl, by kernel_rfl⟩
theorem row19_12311 (a b : Int) : Row19 1 2 3 1 1 a b := ⟨by kernel_rfl, by kernel_rfl⟩
theorem row19_12312 (a b : Int) : Row19 1 2 3 1 2 a b := ⟨by kernel_rfl, by kernel_rfl⟩
theorem row19_12313 (a b : Int) : Row19 1 2 3 1 3 a b := ⟨by kernel_rfl, by kernel_rfl⟩
theorem row19_12321 (a b : Int) : Row19 1 2 3 2 1 a b := ⟨by kernel_rfl, by kernel_rfl⟩
theorem row19_12322 (a b : Int) : Row19 1 2 3 2 2 a b := ⟨by kernel_rfl, by kernel_rfl⟩
theorem row19_12323 (a b : Int) : Row19 1 2 3 2 3 a b := ⟨by kernel_rfl, by kernel_rfl⟩
theorem row19_12331 (a b : Int) : Row19 1 2 3 3 1 a b := ⟨by kernel_rfl, by kernel_rfl⟩
theorem row19_12332 (a b : Int) : Row19 1 2 3 3 2 a b := ⟨by kernel_rfl, by kernel_rfl⟩
theorem row19_12333 (a b : Int) : Row19 1 2 3 3 3 a b := ⟨by kernel_rfl, by kernel_rfl⟩
theorem row19_13111 (a b : Int) : Row19 1 3 1 1 1 a b := ⟨by kernel_rfl, by kernel_rfl⟩
theorem row19_13112 (a b : Int) : Row19 1 3 1 1 2 a b := ⟨by kernel_rfl, by kernel_rfl⟩
theorem row19_13113 (a b : Int) : Row19 1 3 1 1 3 a b := ⟨by kernel_rfl, by kernel_rfl⟩
theorem row19_13121 (a b : Int) : Row19 1 3 1 2 1 a b := ⟨by kernel_rfl, by kernel_rfl⟩
theorem row19_13122 (a b : Int) : Row19 1 3 1 2 2 a b := ⟨by kernel_rfl, by kernel_rfl⟩
theorem row19_13123 (a b : Int) : Row19 1 3 1 2 3 a b := ⟨by kernel_rfl, by kernel_rfl⟩
theorem row19_13131 (a b : Int) : Row19 1 3 1 3 1 a b := ⟨by kernel_rfl, by kernel_rfl⟩
theorem row19_13132 (a b : Int) : Row19 1 3 1 3 2 a b := ⟨by kernel_rfl, by kernel_rfl⟩
theorem row19_13133 (a b : Int) : Row19 1 3 1 3 3 a b := ⟨by kernel_rfl, by kernel_rfl⟩
theorem row19_13211 (a b : Int) : Row19 1 3 2 1 1 a b := ⟨by kernel_rfl, by kernel_rfl⟩
theorem row19_13212 (a b : Int) : Row19 1 3 2 1 2 a b := ⟨by kernel_rfl, by kernel_rfl⟩
theorem row19_13213 (a b : Int) : Row19 1 3 2 1 3 a b := ⟨by kernel_rfl, by kernel_rfl⟩
theorem row19_13221 (a b : Int) : Row19 1 3 2 2 1 a b := ⟨by kernel_rfl, by kernel_rfl⟩
theorem row19_13222 (a b : Int) : Row19 1 3 2 2 2 a b := ⟨by kernel_rfl, by kernel_rfl⟩
theorem row19_13223 (a b : Int) : Row19 1 3 2 2 3 a b := ⟨by kernel_rfl, by kernel_rfl⟩
theorem row19_13231 (a b : Int) : Row19 1 3 2 3 1 a b := ⟨by kernel_rfl, by kernel_rfl⟩
theorem row19_13232 (a b : Int) : Row19 1 3 2 3 2 a b := ⟨by kernel_rfl, by kernel_rfl⟩
theorem row19_13233 (a b : Int) : Row19 1 3 2 3 3 a b := ⟨by kernel_rfl, by kernel_rfl⟩
theorem row19_13311 (a b : Int) : Row19 1 3 3 1 1 a b := ⟨by kernel_rfl, by kernel_rfl⟩
theorem row19_13312 (a b : Int) : Row19 1 3 3 1 2 a b := ⟨by kernel_rfl, by kernel_rfl⟩
theorem row19_13313 (a b : Int) : Row19 1 3 3 1 3 a b := ⟨by kernel_rfl, by kernel_rfl⟩
theorem row19_13321 (a b : Int) : Row19 1 3 3 2 1 a b := ⟨by kernel_rfl, by kernel_rfl⟩
theorem row19_13322 (a b : Int) : Row19 1 3 3 2 2 a b := ⟨by kernel_rfl, by kernel_rfl⟩
theorem row19_13323 (a b : Int) : Row19 1 3 3 2 3 a b := ⟨by kernel_rfl, by kernel_rfl⟩
theorem row19_13331 (a b : Int) : Row19 1 3 3 3 1 a b := ⟨by kernel_rfl, by kernel_rfl⟩
theorem row19_13332 (a b : Int) : Row19 1 3 3 3 2 a b := ⟨by kernel_rfl, by kernel_rfl⟩
theorem row19_13333 (a b : Int) : Row19 1 3 3 3 3 a b := ⟨by kernel_rfl, by kernel_rfl⟩
theorem row19_21111 (a b : Int) : Row19 2 1 1 1 1 a b := ⟨by kernel_rfl, by kernel_rfl⟩
theorem row19_21112 (a b : Int) : Row19 2 1 1 1 2 a b := ⟨by kernel_rfl, by kernel_rfl⟩
theorem row19_21113 (a b : Int) : Row19 2 1 1 1 3 a b := ⟨by kernel_rfl, by kernel_rfl⟩
theorem row19_21121 (a b : Int) : Row19 2 1 1 2 1 a b := ⟨by kernel_rfl, by kernel_rfl⟩
theorem row19_21122 (a b : Int) : Row19 2 1 1 2 2 a b := ⟨by kernel_rfl, by kernel_rfl⟩
theorem row19_21123 (a b : Int) : Row19 2 1 1 2 3 a b := ⟨by kernel_rfl, by kernel_rfl⟩
theorem row19_21131 (a b : Int) : Row19 2 1 1 3 1 a b := ⟨by kernel_rfl, by kernel_rfl⟩
theorem row19_21132 (a b : Int) : Row19 2 1 1 3 2 a b := ⟨by kernel_rfl, by kernel_rfl⟩
theorem row19_21133 (a b : Int) : Row19 2 1 1 3 3 a b := ⟨by kernel_rfl, by kernel_rfl⟩
theorem row19_21211 (a b : Int) : Row19 2 1 2 1 1 a b := ⟨by kernel_rfl, by kernel_rfl⟩
theorem row19_21212 (a b : Int) : Row19 2 1 2 1 2 a b := ⟨by kernel_rfl, by kernel_rfl⟩
theorem row19_21213 (a b : Int) : Row19 2 1 2 1 3 a b := ⟨by kernel_rfl, by kernel_rfl⟩
theorem row19_21221 (a b : Int) : Row19 2 1 2 2 1 a b := ⟨by kernel_rfl, by kernel_rfl⟩
theorem row19_21222 (a b : Int) : Row19 2 1 2 2 2 a b := ⟨by kernel_rfl, by kernel_rfl⟩
theorem row19_21223 (a b : Int) : Row19 2 1 2 2 3 a b := ⟨by kernel_rfl, by kernel_rfl⟩
theorem row19_21231 (a b : Int) : Row19 2 1 2 3 1 a b := ⟨by kernel_rfl, by kernel_rfl⟩
theorem row19_21232 (a b : Int) : Row19 2 1 2 3 2 a b := ⟨by kernel_rfl, by kernel_rfl⟩
theorem row19_21233 (a b : Int) : Row19 2 1 2 3 3 a b := ⟨by kernel_rfl, by kernel_rfl⟩
theorem row19_21311 (a b : Int) : Row19 2 1 3 1 1 a b := ⟨by kernel_rfl, by kernel_rfl⟩
theorem row19_21312 (a b : Int) : Row19 2 1 3 1 2 a b := ⟨by kernel_rfl, by kernel_rfl⟩
theorem row19_21313 (a b : Int) : Row19 2 1 3 1 3 a b := ⟨by kernel_rfl, by kernel_rfl⟩
theorem row19_21321 (a b : Int) : Row19 2 1 3 2 1 a b := ⟨by kernel_rfl, by kernel_rfl⟩
theorem row19_21322 (a b : Int) : Row19 2 1 3 2 2 a b := ⟨by kernel_rfl, by kernel_rfl⟩
theorem row19_21323 (a b : Int) : Row19 2 1 3 2 3 a b := ⟨by kernel_rfl, by kernel_rfl⟩
theorem row19_21331 (a b : Int) : Row19 2 1 3 3 1 a b := ⟨by kernel_rfl, by kernel_rfl⟩
theorem row19_21332 (a b : Int) : Row19 2 1 3 3 2 a b := ⟨by kernel_rfl, by kernel_rfl⟩
theorem row19_21333 (a b : Int) : Row19 2 1 3 3 3 a b := ⟨by kernel_rfl, by kernel_rfl⟩
theorem row19_22111 (a b : Int) : Row19 2 2 1 1 1 a b := ⟨by kernel_rfl, by kernel_rfl⟩
theorem row19_22112 (a b : Int) : Row19 2 2 1 1 2 a b := ⟨by kernel_rfl, by kernel_rfl⟩
theorem row19_22113 (a b : Int) : Row19 2 2 1 1 3 a b := ⟨by kernel_rfl, by kernel_rfl⟩
theorem row19_22121 (a b : Int) : Row19 2 2 1 2 1 a b := ⟨by kernel_rfl, by kernel_rfl⟩
theorem row19_22122 (a b : Int) : Row19 2 2 1 2 2 a b := ⟨by kernel_rfl, by kernel_rfl⟩
theorem row19_22123 (a b : Int) : Row19 2 2 1 2 3 a b := ⟨by kernel_rfl, by kernel_rfl⟩
theorem row19_22131 (a b : Int) : Row19 2 2 1 3 1 a b := ⟨by kernel_rfl, by kernel_rfl⟩
theorem row19_22132 (a b : Int) : Row19 2 2 1 3 2 a b := ⟨by kernel_rfl, by kernel_rfl⟩
theorem row19_22133 (a b : Int) : Row19 2 2 1 3 3 a b := ⟨by kernel_rfl, by kernel_rfl⟩
theorem row19_22211 (a b : Int) : Row19 2 2 2 1 1 a b := ⟨by kernel_rfl, by kernel_rfl⟩
theorem row19_22212 (a b : Int) : Row19 2 2 2 1 2 a b := ⟨by kernel_rfl, by kernel_rfl⟩
theorem row19_22213 (a b : Int) : Row19 2 2 2 1 3 a b := ⟨by kernel_rfl, by kernel_rfl⟩
theorem row19_22221 (a b : Int) : Row19 2 2 2 2 1 a b := ⟨by kernel_rfl, by kernel_rfl⟩
theorem row19_22222 (a b : Int) : Row19 2 2 2 2 2 a b := ⟨by kernel_rfl, by kernel_rfl⟩
theorem row19_22223 (a b : Int) : Row19 2 2 2 2 3 a b := ⟨by kernel_rfl, by kernel_rfl⟩
theorem row19_22231 (a b : Int) : Row19 2 2 2 3 1 a b := ⟨by kernel_rfl, by kernel_rfl⟩
theorem row19_22232 (a b : Int) : Row19 2 2 2 3 2 a b := ⟨by kernel_rfl, by kernel_rfl⟩
theorem row19_22233 (a b : Int) : Row19 2 2 2 3 3 a b := ⟨by kernel_rfl, by kernel_rfl⟩
theorem row19_22311 (a b : Int) : Row19 2 2 3 1 1 a b := ⟨by kernel_rfl, by kernel_rfl⟩
theorem row19_22312 (a b : Int) : Row19 2 2 3 1 2 a b := ⟨by kernel_rfl, by kernel_rfl⟩
theorem row19_22313 (a b : Int) : Row19 2 2 3 1 3 a b := ⟨by kernel_rfl, by kernel_rfl⟩
theorem row19_22321 (a b : Int) : Row19 2 2 3 2 1 a b := ⟨by kernel_rfl, by kernel_rfl⟩
theorem row19_22322 (a b : Int) : Row19 2 2 3 2 2 a b := ⟨by kernel_rfl, by kernel_rfl⟩
theorem row19_22323 (a b : Int) : Row19 2 2 3 2 3 a b := ⟨by kernel_rfl, by kernel_rfl⟩
theorem row19_22331 (a b : Int) : Row19 2 2 3 3 1 a b := ⟨by kernel_rfl, by kernel_rfl⟩
theorem row19_22332 (a b : Int) : Row19 2 2 3 3 2 a b := ⟨by kernel_rfl, by kernel_rfl⟩
theorem row19_22333 (a b : Int) : Row19 2 2 3 3 3 a b := ⟨by kernel_rfl, by kernel_rfl⟩
theorem row19_23111 (a b : Int) : Row19 2 3 1 1 1 a b := ⟨by kernel_rfl, by kernel_rfl⟩
theorem row19_23112 (a b : Int) : Row19 2 3 1 1 2 a b := ⟨by kernel_rfl, by kernel_rfl⟩
theorem row19_23113 (a b : Int) : Row19 2 3 1 1 3 a b := ⟨by kernel_rfl, by kernel_rfl⟩
theorem row19_23121 (a b : Int) : Row19 2 3 1 2 1 a b := ⟨by kernel_rfl, by kernel_rfl⟩
theorem row19_23122 (a b : Int) : Row19 2 3 1 2 2 a b := ⟨by kernel_rfl, by kernel_rfl⟩
theorem row19_23123 (a b : Int) : Row19 2 3 1 2 3 a b := ⟨by kernel_rfl, by kernel_rfl⟩
theorem row19_23131 (a b : Int) : Row19 2 3 1 3 1 a b := ⟨by kernel_rfl, by kernel_rfl⟩
theorem row19_23132 (a b : Int) : Row19 2 3 1 3 2 a b := ⟨by kernel_rfl, by kernel_rfl⟩
theorem row19_23133 (a b : Int) : Row19 2 3 1 3 3 a b := ⟨by kernel_rfl, by kernel_rfl⟩
theorem row19_23211 (a b : Int) : Row19 2 3 2 1 1 a b := ⟨by kernel_rfl, by kernel_rfl⟩
theorem row19_23212 (a b : Int) : Row19 2 3 2 1 2 a b := ⟨by kernel_rfl, by kernel_rfl⟩
theorem row19_23213 (a b : Int) : Row19 2 3 2 1 3 a b := ⟨by kernel_rfl, by kernel_rfl⟩
theorem row19_23221 (a b : Int) : Row19 2 3 2 2 1 a b := ⟨by kernel_rfl, by kernel_rfl⟩
theorem row19_23222 (a b : Int) : Row19 2 3 2 2 2 a b := ⟨by kernel_rfl, by kernel_rfl⟩
theorem row19_23223 (a b : Int) : Row19 2 3 2 2 3 a b := ⟨by kernel_rfl, by kernel_rfl⟩
theorem row19_23231 (a b : Int) : Row19 2 3 2 3 1 a b := ⟨by kernel_rfl, by kernel_rfl⟩
theorem row19_23232 (a b : Int) : Row19 2 3 2 3 2 a b := ⟨by kernel_rfl, by kernel_rfl⟩
theorem row19_23233 (a b : Int) : Row19 2 3 2 3 3 a b := ⟨by kernel_rfl, by kernel_rfl⟩
theorem row19_23311 (a b : Int) : Row19 2 3 3 1 1 a b := ⟨by kernel_rfl, by kernel_rfl⟩
theorem row19_23312 (a b : Int) : Row19 2 3 3 1 2 a b := ⟨by kernel_rfl, by kernel_rfl⟩
theorem row19_23313 (a b : Int) : Row19 2 3 3 1 3 a b := ⟨by kernel_rfl, by kernel_rfl⟩
theorem row19_23321 (a b : Int) : Row19 2 3 3 2 1 a b := ⟨by kernel_rfl, by kernel_rfl⟩
theorem row19_23322 (a b : Int) : Row19 2 3 3 2 2 a b := ⟨by kernel_rfl, by kernel_rfl⟩
theorem row19_23323 (a b : Int) : Row19 2 3 3 2 3 a b := ⟨by kernel_rfl, by kernel_rfl⟩
theorem row19_23331 (a b : Int) : Row19 2 3 3 3 1 a b := ⟨by kernel_rfl, by kernel_rfl⟩
theorem row19_23332 (a b : Int) : Row19 2 3 3 3 2 a b := ⟨by kernel_rfl, by kernel_rfl⟩
theorem row19_23333 (a b : Int) : Row19 2 3 3 3 3 a b := ⟨by kernel_rfl, by kernel_rfl⟩
theorem row19_31111 (a b : Int) : Row19 3 1 1 1 1 a b := ⟨by kernel_rfl, by kernel_rfl⟩
theorem row19_31112 (a b : Int) : Row19 3 1 1 1 2 a b := ⟨by kernel_rfl, by kernel_rfl⟩
theorem row19_31113 (a b : Int) : Row19 3 1 1 1 3 a b := ⟨by kernel_rfl, by kernel_rfl⟩
theorem row19_31121 (a b : Int) : Row19 3 1 1 2 1 a b := ⟨by kernel_rfl, by kernel_rfl⟩
theorem row19_31122 (a b : Int) : Row19 3 1 1 2 2 a b := ⟨by kernel_rfl, by kernel_rfl⟩
theorem row19_31123 (a b : Int) : Row19 3 1 1 2 3 a b := ⟨by kernel_rfl, by kernel_rfl⟩
theorem row19_31131 (a b : Int) : Row19 3 1 1 3 1 a b := ⟨by kernel_rfl, by kernel_rfl⟩
theorem row19_31132 (a b : Int) : Row19 3 1 1 3 2 a b := ⟨by kernel_rfl, by kernel_rfl⟩
theorem row19_31133 (a b : Int) : Row19 3 1 1 3 3 a b := ⟨by kernel_rfl, by kernel_rfl⟩
theorem row19_31211 (a b : Int) : Row19 3 1 2 1 1 a b := ⟨by kernel_rfl, by kernel_rfl⟩
theorem row19_31212 (a b : Int) : Row19 3 1 2 1 2 a b := ⟨by kernel_rfl, by kernel_rfl⟩
theorem row19_31213 (a b : Int) : Row19 3 1 2 1 3 a b := ⟨by kernel_rfl, by kernel_rfl⟩
theorem row19_31221 (a b : Int) : Row19 3 1 2 2 1 a b := ⟨by kernel_rfl, by kernel_rfl⟩
theorem row19_31222 (a b : Int) : Row19 3 1 2 2 2 a b := ⟨by kernel_rfl, by kernel_rfl⟩
theorem row19_31223 (a b : Int) : Row19 3 1 2 2 3 a b := ⟨by kernel_rfl, by kernel_rfl⟩
theorem row19_31231 (a b : Int) : Row19 3 1 2 3 1 a b := ⟨by kernel_rfl, by kernel_rfl⟩
theorem row19_31232 (a b : Int) : Row19 3 1 2 3 2 a b := ⟨by kernel_rfl, by kernel_rfl⟩
theorem row19_31233 (a b : Int) : Row19 3 1 2 3 3 a b := ⟨by kernel_rfl, by kernel_rfl⟩
theorem row19_31311 (a b : Int) : Row19 3 1 3 1 1 a b := ⟨by kernel_rfl, by kernel_rfl⟩
theorem row19_31312 (a b : Int) : Row19 3 1 3 1 2 a b := ⟨by kernel_rfl, by kernel_rfl⟩
theorem row19_31313 (a b : Int) : Row19 3 1 3 1 3 a b := ⟨by kernel_rfl, by kernel_rfl⟩
theorem row19_31321 (a b : Int) : Row19 3 1 3 2 1 a b := ⟨by kernel_rfl, by kernel_rfl⟩
theorem row19_31322 (a b : Int) : Row19 3 1 3 2 2 a b := ⟨by kernel_rfl, by kernel_rfl⟩
theorem row19_31323 (a b : Int) : Row19 3 1 3 2 3 a b := ⟨by kernel_rfl, by kernel_rfl⟩
theorem row19_31331 (a b : Int) : Row19 3 1 3 3 1 a b := ⟨by kernel_rfl, by kernel_rfl⟩
theorem row19_31332 (a b : Int) : Row19 3 1 3 3 2 a b := ⟨by kernel_rfl, by kernel_rfl⟩
theorem row19_31333 (a b : Int) : Row19 3 1 3 3 3 a b := ⟨by kernel_rfl, by kernel_rfl⟩
theorem row19_32111 (a b : Int) : Row19 3 2 1 1 1 a b := ⟨by kernel_rfl, by kernel_rfl⟩
theorem row19_32112 (a b : Int) : Row19 3 2 1 1 2 a b := ⟨by kernel_rfl, by kernel_rfl⟩
theorem row19_32113 (a b : Int) : Row19 3 2 1 1 3 a b := ⟨by kernel_rfl, by kernel_rfl⟩
theorem row19_32121 (a b : Int) : Row19 3 2 1 2 1 a b := ⟨by kernel_rfl, by kernel_rfl⟩
theorem row19_32122 (a b : Int) : Row19 3 2 1 2 2 a b := ⟨by kernel_rfl, by kernel_rfl⟩
theorem row19_32123 (a b : Int) : Row19 3 2 1 2 3 a b := ⟨by kernel_rfl, by kernel_rfl⟩
theorem row19_32131 (a b : Int) : Row19 3 2 1 3 1 a b := ⟨by kernel_rfl, by kernel_rfl⟩
theorem row19_32132 (a b : Int) : Row19 3 2 1 3 2 a b := ⟨by kernel_rfl, by kernel_rfl⟩
theorem row19_32133 (a b : Int) : Row19 3 2 1 3 3 a b := ⟨by kernel_rfl, by kernel_rfl⟩
theorem row19_32211 (a b : Int) : Row19 3 2 2 1 1 a b := ⟨by kernel_rfl, by kernel_rfl⟩
theorem row19_32212 (a b : Int) : Row19 3 2 2 1 2 a b := ⟨by kernel_rfl, by kernel_rfl⟩
theorem row19_32213 (a b : Int) : Row19 3 2 2 1 3 a b := ⟨by kernel_rfl, by kernel_rfl⟩
theorem row19_32221 (a b : Int) : Row19 3 2 2 2 1 a b := ⟨by kernel_rfl, by kernel_rfl⟩
theorem row19_32222 (a b : Int) : Row19 3 2 2 2 2 a b := ⟨by kernel_rfl, by kernel_rfl⟩
theorem row19_32223 (a b : Int) : Row19 3 2 2 2 3 a b := ⟨by kernel_rfl, by kernel_rfl⟩
theorem row19_32231 (a b : Int) : Row19 3 2 2 3 1 a b := ⟨by kernel_rfl, by kernel_rfl⟩
theorem row19_32232 (a b : Int) : Row19 3 2 2 3 2 a b := ⟨by kernel_rfl, by kernel_rfl⟩
theorem row19_32233 (a b : Int) : Row19 3 2 2 3 3 a b := ⟨by kernel_rfl, by kernel_rfl⟩
theorem row19_32311 (a b : Int) : Row19 3 2 3 1 1 a b := ⟨by kernel_rfl, by kernel_rfl⟩
theorem row19_32312 (a b : Int) : Row19 3 2 3 1 2 a b := ⟨by kernel_rfl, by kernel_rfl⟩
theorem row19_32313 (a b : Int) : Row19 3 2 3 1 3 a b := ⟨by kernel_rfl, by kernel_rfl⟩
theorem row19_32321 (a b : Int) : Row19 3 2 3 2 1 a b := ⟨by kernel_rfl, by kernel_rfl⟩
theorem row19_32322 (a b : Int) : Row19 3 2 3 2 2 a b := ⟨by kernel_rfl, by kernel_rfl⟩
theorem row19_32323 (a b : Int) : Row19 3 2 3 2 3 a b := ⟨by kernel_rfl, by kernel_rfl⟩
theorem row19_32331 (a b : Int) : Row19 3 2 3 3 1 a b := ⟨by kernel_rfl, by kernel_rfl⟩
theorem row19_32332 (a b : Int) : Row19 3 2 3 3 2 a b := ⟨by kernel_rfl, by kernel_rfl⟩
theorem row19_32333 (a b : Int) : Row19 3 2 3 3 3 a b := ⟨by kernel_rfl, by kernel_rfl⟩
theorem row19_33111 (a b : Int) : Row19 3 3 1 1 1 a b := ⟨by kernel_rfl, by kernel_rfl⟩
theorem row19_33112 (a b : Int) : Row19 3 3 1 1 2 a b := ⟨by kernel_rfl, by kernel_rfl⟩
theorem row19_33113 (a b : Int) : Row19 3 3 1 1 3 a b := ⟨by kernel_rfl, by kernel_rfl⟩
theorem row19_33121 (a b : Int) : Row19 3 3 1 2 1 a b := ⟨by kernel_rfl, by kernel_rfl⟩
theorem row19_33122 (a b : Int) : Row19 3 3 1 2 2 a b := ⟨by kernel_rfl, by kernel_rfl⟩
theorem row19_33123 (a b : Int) : Row19 3 3 1 2 3 a b := ⟨by kernel_rfl, by kernel_rfl⟩
theorem row19_33131 (a b : Int) : Row19 3 3 1 3 1 a b := ⟨by kernel_rfl, by kernel_rfl⟩
theorem row19_33132 (a b : Int) : Row19 3 3 1 3 2 a b := ⟨by kernel_rfl, by kernel_rfl⟩
theorem row19_33133 (a b : Int) : Row19 3 3 1 3 3 a b := ⟨by kernel_rfl, by kernel_rfl⟩
theorem row19_33211 (a b : Int) : Row19 3 3 2 1 1 a b := ⟨by kernel_rfl, by kernel_rfl⟩
theorem row19_33212 (a b : Int) : Row19 3 3 2 1 2 a b := ⟨by kernel_rfl, by kernel_rfl⟩
theorem row19_33213 (a b : Int) : Row19 3 3 2 1 3 a b := ⟨by kernel_rfl, by kernel_rfl⟩
theorem row19_33221 (a b : Int) : Row19 3 3 2 2 1 a b := ⟨by kernel_rfl, by kernel_rfl⟩
theorem row19_33222 (a b : Int) : Row19 3 3 2 2 2 a b := ⟨by kernel_rfl, by kernel_rfl⟩
theorem row19_33223 (a b : Int) : Row19 3 3 2 2 3 a b := ⟨by kernel_rfl, by kernel_rfl⟩
theorem row19_33231 (a b : Int) : Row19 3 3 2 3 1 a b := ⟨by kernel_rfl, by kernel_rfl⟩
theorem row19_33232 (a b : Int) : Row19 3 3 2 3 2 a b := ⟨by kernel_rfl, by kernel_rfl⟩
theorem row19_33233 (a b : Int) : Row19 3 3 2 3 3 a b := ⟨by kernel_rfl, by kernel_rfl⟩
theorem row19_33311 (a b : Int) : Row19 3 3 3 1 1 a b := ⟨by kernel_rfl, by kernel_rfl⟩
theorem row19_33312 (a b : Int) : Row19 3 3 3 1 2 a b := ⟨by kernel_rfl, by kernel_rfl⟩
theorem row19_33313 (a b : Int) : Row19 3 3 3 1 3 a b := ⟨by kernel_rfl, by kernel_rfl⟩
theorem row19_33321 (a b : Int) : Row19 3 3 3 2 1 a b := ⟨by kernel_rfl, by kernel_rfl⟩
theorem row19_33322 (a b : Int) : Row19 3 3 3 2 2 a b := ⟨by kernel_rfl, by kernel_rfl⟩
theorem row19_33323 (a b : Int) : Row19 3 3 3 2 3 a b := ⟨by kernel_rfl, by kernel_rfl⟩
theorem row19_33331 (a b : Int) : Row19 3 3 3 3 1 a b := ⟨by kernel_rfl, by kernel_rfl⟩
theorem row19_33332 (a b : Int) : Row19 3 3 3 3 2 a b := ⟨by kernel_rfl, by kernel_rfl⟩
theorem row19_33333 (a b : Int) : Row19 3 3 3 3 3 a b := ⟨by kernel_rfl, by kernel_rfl⟩
theorem row19 {p q r s t : Int} (hp : is3 p) (hq : is3 q) (hr : is3 r) (hs : is3 s) (ht : is3 t) (a b : Int) : Row19 p q r s t a b := by
  rcases hp with rfl | rfl | rfl
  · rcases hq with rfl | rfl | rfl
    · rcases hr with rfl | rfl | rfl
      · rcases hs with rfl | rfl | rfl
        · rcases ht with rfl | rfl | rfl
          · exact row19_11111 a b
          · exact row19_11112 a b
          · exact row19_11113 a b
        · rcases ht with rfl | rfl | rfl
          · exact row19_11121 a b
          · exact row19_11122 a b
          · exact row19_11123 a b
        · rcases ht with rfl | rfl | rfl
          · exact row19_11131 a b
          · exact row19_11132 a b
          · exact row19_11133 a b
      · rcases hs with rfl | rfl | rfl
        · rcases ht with rfl | rfl | rfl
          · exact row19_11211 a b
          · exact row19_11212 a b
          · exact row19_11213 a b
        · rcases ht with rfl | rfl | rfl
          · exact row19_11221 a b
          · exact row19_11222 a b
          · exact row19_11223 a b
        · rcases ht with rfl | rfl | rfl
          · exact row19_11231 a b
          · exact row19_11232 a b
          · exact row19_11233 a b
      · rcases hs with rfl | rfl | rfl
        · rcases ht with rfl | rfl | rfl
          · exact row19_11311 a b
          · exact row19_11312 a b
          · exact row19_11313 a b
        · rcases ht with rfl | rfl | rfl
          · exact row19_11321 a b
          · exact row19_11322 a b
          · exact row19_11323 a b
        · rcases ht with rfl | rfl | rfl
          · exact row19_11331 a b
          · exact row19_11332 a b
          · exact row19_11333 a b
    · rcases hr with rfl | rfl | rfl
      · rcases hs with rfl | rfl | rfl
        · rcases ht with rfl | rfl | rfl
          · exact row19_12111 a b
          · exact row19_12112 a b
          · exact row19_12113 a b
        · rcases ht with rfl | rfl | rfl
          · exact row19_12121 a b
          · exact row19_12122 a b
          · exact row19_12123 a b
        · rcases ht with rfl | rfl | rfl
          · exact row19_12131 a b
          · exact row19_12132 a b
          · exact row19_12133 a b
      · rcases hs with rfl | rfl | rfl
        · rcases ht with rfl | rfl | rfl
          · exact row19_12211 a b
          · exact row19_12212 a b
          · exact row19_12213 a b
        · rcases ht with rfl | rfl | rfl
          · exact row19_12221 a b
          · exact row19_12222 a b
          · exact row19_12223 a b
        · rcases ht with rfl | rfl | rfl
          · exact row19_12231 a b
          · exact row19_12232 a b
          · exact row19_12233 a b
      · rcases hs with rfl | rfl | rfl
        · rcases ht with rfl | rfl | rfl
          · exact row19_12311 a b
          · exact row19_12312 a b
          · exact row19_12313 a b
        · rcases ht with rfl | rfl | rfl
          · exact row19_12321 a b
          · exact row19_12322 a b
          · exact row19_12323 a b
        · rcases ht with rfl | rfl | rfl
          · exact row19_12331 a b
          · exact row19_12332 a b
          · exact row19_12333 a b
    · rcases hr with rfl | rfl | rfl
      · rcases hs with rfl | rfl | rfl
        · rcases ht with rfl | rfl | rfl
          · exact row19_13111 a b
          · exact row19_13112 a b
          · exact row19_13113 a b
        · rcases ht with rfl | rfl | rfl
          · exact row19_13121 a b
          · exact row19_13122 a b
          · exact row19_13123 a b
        · rcases ht with rfl | rfl | rfl
          · exact row19_13131 a b
          · exact row19_13132 a b
          · exact row19_13133 a b
      · rcases hs with rfl | rfl | rfl
        · rcases ht with rfl | rfl | rfl
          · exact row19_13211 a b
          · exact row19_13212 a b
          · exact row19_13213 a b
        · rcases ht with rfl | rfl | rfl
          · exact row19_13221 a b
          · exact row19_13222 a b
          · exact row19_13223 a b
        · rcases ht with rfl | rfl | rfl
          · exact row19_13231 a b
          · exact row19_13232 a b
          · exact row19_13233 a b
      · rcases hs with rfl | rfl | rfl
        · rcases ht with rfl | rfl | rfl
          · exact row19_13311 a b
          · exact row19_13312 a b
          · exact row19_13313 a b
        · rcases ht with rfl | rfl | rfl
          · exact row19_13321 a b
          · exact row19_13322 a b
          · exact row19_13323 a b
        · rcases ht with rfl | rfl | rfl
          · exact row19_13331 a b
          · exact row19_13332 a b
          · exact row19_13333 a b
  · rcases hq with rfl | rfl | rfl
    · rcases hr with rfl | rfl | rfl
      · rcases hs with rfl | rfl | rfl
        · rcases ht with rfl | rfl | rfl
          · exact row19_21111 a b
          · exact row19_21112 a b
          · exact row19_21113 a b
        · rcases ht with rfl | rfl | rfl
          · exact row19_21121 a b
          · exact row19_21122 a b
          · exact row19_21123 a b
        · rcases ht with rfl | rfl | rfl
          · exact row19_21131 a b
          · exact row19_21132 a b
          · exact row19_21133 a b
      · rcases hs with rfl | rfl | rfl
        · rcases ht with rfl | rfl | rfl
          · exact row19_21211 a b
          · exact row19_21212 a b
          · exact row19_21213 a b
        · rcases ht with rfl | rfl | rfl
          · exact row19_21221 a b
          · exact row19_21222 a b
          · exact row19_21223 a b
        · rcases ht with rfl | rfl | rfl
          · exact row19_21231 a b
          · exact row19_21232 a b
          · exact row19_21233 a b
      · rcases hs with rfl | rfl | rfl
        · rcases ht with rfl | rfl | rfl
          · exact row19_21311 a b
          · exact row19_21312 a b
          · exact row19_21313 a b
        · rcases ht with rfl | rfl | rfl
          · exact row19_21321 a b
          · exact row19_21322 a b
          · exact row19_21323 a b
        · rcases ht with rfl | rfl | rfl
          · exact row19_21331 a b
          · exact row19_21332 a b
          · exact row19_21333 a b
    · rcases hr with rfl | rfl | rfl
      · rcases hs with rfl | rfl | rfl
        · rcases ht with rfl | rfl | rfl
          · exact row19_22111 a b
          · exact row19_22112 a b
          · exact row19_22113 a b
        · rcases ht with rfl | rfl | rfl
          · exact row19_22121 a b
          · exact row19_22122 a b
          · exact row19_22123 a b
        · rcases ht with rfl | rfl | rfl
          · exact row19_22131 a b
          · exact row19_22132 a b
          · exact row19_22133 a b
      · rcases hs with rfl | rfl | rfl
        · rcases ht with rfl | rfl | rfl
          · exact row19_22211 a b
          · exact row19_22212 a b
          · exact row19_22213 a b
        · rcases ht with rfl | rfl | rfl
          · exact row19_22221 a b
          · exact row19_22222 a b
          · exact row19_22223 a b
        · rcases ht with rfl | rfl | rfl
          · exact row19_22231 a b
          · exact row19_22232 a b
          · exact row19_22233 a b
      · rcases hs with rfl | rfl | rfl
        · rcases ht with rfl | rfl | rfl
          · exact row19_22311 a b
          · exact row19_22312 a b
          · exact row19_22313 a b
        · rcases ht with rfl | rfl | rfl
          · exact row19_22321 a b
          · exact row19_22322 a b
          · exact row19_22323 a b
        · rcases ht with rfl | rfl | rfl
          · exact row19_22331 a b
          · exact row19_22332 a b
          · exact row19_22333 a b
    · rcases hr with rfl | rfl | rfl
      · rcases hs with rfl | rfl | rfl
        · rcases ht with rfl | rfl | rfl
          · exact row19_23111 a b
          · exact row19_23112 a b
          · exact row19_23113 a b
        · rcases ht with rfl | rfl | rfl
          · exact row19_23121 a b
          · exact row19_23122 a b
          · exact row19_23123 a b
        · rcases ht with rfl | rfl | rfl
          · exact row19_23131 a b
          · exact row19_23132 a b
          · exact row19_23133 a b
      · rcases hs with rfl | rfl | rfl
        · rcases ht with rfl | rfl | rfl
          · exact row19_23211 a b
          · exact row19_23212 a b
          · exact row19_23213 a b
        · rcases ht with rfl | rfl | rfl
          · exact row19_23221 a b
          · exact row19_23222 a b
          · exact row19_23223 a b
        · rcases ht with rfl | rfl | rfl
          · exact row19_23231 a b
          · exact row19_23232 a b
          · exact row19_23233 a b
      · rcases hs with rfl | rfl | rfl
        · rcases ht with rfl | rfl | rfl
          · exact row19_23311 a b
          · exact row19_23312 a b
          · exact row19_23313 a b
        · rcases ht with rfl | rfl | rfl
          · exact row19_23321 a b
          · exact row19_23322 a b
          · exact row19_23323 a b
        · rcases ht with rfl | rfl | rfl
          · exact row19_23331 a b
          · exact row19_23332 a b
          · exact row19_23333 a b
  · rcases hq with rfl | rfl | rfl
    · rcases hr with rfl | rfl | rfl
      · rcases hs with rfl | rfl | rfl
        · rcases ht with rfl | rfl | rfl
          · exact row19_31111 a b
          · exact row19_31112 a b
          · exact row19_31113 a b
        · rcases ht with rfl | rfl | rfl
          · exact row19_31121 a b
          · exact row19_31122 a b
          · exact row19_31123 a b
        · rcases ht with rfl | rfl | rfl
          · exact row19_31131 a b
          · exact row19_31132 a b
          · exact row19_31133 a b
      · rcases hs with rfl | rfl | rfl
        · rcases ht with rfl | rfl | rfl
          · exact row19_31211 a b
          · exact row19_31212 a b
          · exact row19_31213 a b
        · rcases ht with rfl | rfl | rfl
          · exact row19_31221 a b
          · exact row19_31222 a b
          · exact row19_31223 a b
        · rcases ht with rfl | rfl | rfl
          · exact row19_31231 a b
          · exact row19_31232 a b
          · exact row19_31233 a b
      · rcases hs with rfl | rfl | rfl
        · rcases ht with rfl | rfl | rfl
          · exact row19_31311 a b
          · exact row19_31312 a b
          · exact row19_31313 a b
        · rcases ht with rfl | rfl | rfl
          · exact row19_31321 a b
          · exact row19_31322 a b
          · exact row19_31323 a b
        · rcases ht with rfl | rfl | rfl
          · exact row19_31331 a b
          · exact row19_31332 a b
          · exact row19_31333 a b
    · rcases hr with rfl | rfl | rfl
      · rcases hs with rfl | rfl | rfl
        · rcases ht with rfl | rfl | rfl
          · exact row19_32111 a b
          · exact row19_32112 a b
          · exact row19_32113 a b
        · rcases ht with rfl | rfl | rfl
          · exact row19_32121 a b
          · exact row19_32122 a b
          · exact row19_32123 a b
        · rcases ht with rfl | rfl | rfl
          · exact row19_32131 a b
          · exact row19_32132 a b
          · exact row19_32133 a b
      · rcases hs with rfl | rfl | rfl
        · rcases ht with rfl | rfl | rfl
          · exact row19_32211 a b
          · exact row19_32212 a b
          · exact row19_32213 a b
        · rcases ht with rfl | rfl | rfl
          · exact row19_32221 a b
          · exact row19_32222 a b
          · exact row19_32223 a b
        · rcases ht with rfl | rfl | rfl
          · exact row19_32231 a b
          · exact row19_32232 a b
          · exact row19_32233 a b
      · rcases hs with rfl | rfl | rfl
        · rcases ht with rfl | rfl | rfl
          · exact row19_32311 a b
          · exact row19_32312 a b
          · exact row19_32313 a b
        · rcases ht with rfl | rfl | rfl
          · exact row19_32321 a b
          · exact row19_32322 a b
          · exact row19_32323 a b
        · rcases ht with rfl | rfl | rfl
          · exact row19_32331 a b
          · exact row19_32332 a b
          · exact row19_32333 a b
    · rcases hr with rfl | rfl | rfl
      · rcases hs with rfl | rfl | rfl
        · rcases ht with rfl | rfl | rfl
          · exact row19_33111 a b
          · exact row19_33112 a b
          · exact row19_33113 a b
        · rcases ht with rfl | rfl | rfl
          · exact row19_33121 a b
          · exact row19_33122 a b
          · exact row19_33123 a b
        · rcases ht with rfl | rfl | rfl
          · exact row19_33131 a b
          · exact row19_33132 a b
          · exact row19_33133 a b
      · rcases hs with rfl | rfl | rfl
        · rcases ht with rfl | rfl | rfl
          · exact row19_33211 a b
          · exact row19_33212 a b
          · exact row19_33213 a b
        · rcases ht with rfl | rfl | rfl
          · exact row19_33221 a b
          · exact row19_33222 a b
          · exact row19_33223 a b
        · rcases ht with rfl | rfl | rfl
          · exact row19_33231 a b
          · exact row19_33232 a b
          · exact row19_33233 a b
      · rcases hs with rfl | rfl | rfl
        · rcases ht with rfl | rfl | rfl
          · exact row19_33311 a b
          · exact row19_33312 a b
          · exact row19_33313 a b
        · rcases ht with rfl | rfl | rfl
          · exact row19_33321 a b
          · exact row19_33322 a b
          · exact row19_33323 a b
        · rcases ht with rfl | rfl | rfl
          · exact row19_33331 a b
          · exact row19_33332 a b
          · exact row19_33333 a b

/-! ### rows: the walk -/
theorem ret_loc {n : Nat} {f : FS} {ds : List D} {μ : Mu} {d : D} (h : runDef n f ds μ = .ok d μ) : okLoc μ.length d = true := by
  have key : ∀ μ' d', retV μ μ' d' = .ok d μ → okLoc μ.length d = true := fun μ' d' e => by
    unfold retV at e
    split at e
    · split at e
      · split at e
        · rename_i hi
          injection e with e1 e2
          rw [← e1]
          unfold okLoc
          exact decide_eq_true hi
        · split at e
          · split at e
            · injection e with e1 e2
              have := congrArg List.length e2
              rw [List.length_append, List.length_take, List.length_singleton] at this
              exfalso
              rename_i c hc _
              have h3 := (List.getElem?_eq_some_iff.mp hc).1
              omega
            · cases e
          · cases e
      · split at e
        · rename_i ho
          injection e with e1 e2
          rw [← e1]
          exact ho
        · cases e
    · cases e
  unfold runDef at h
  split at h
  · exact key _ _ h
  · exact key _ _ h
  · cases h
  · split at h <;> cases h
  · cases h
theorem mt_side {m : Str} {F : List D → Mu → Res D} {i : Nat} {nb : List (List Int)} {mu : List Int} {t : D} {ρ : TL.Env} {μ : Mu} (h : ρ[i]? = some (some (sd19 nb mu t))) (hm : ((["must", "neighbours", "trust_of"] : List Str).contains m) = false) : eMt 1 "Side" m F (eVar i) aNil ρ μ = F [sd19 nb mu t] μ := by
  unfold eMt eVar
  rw [h]
  have hm2 : (([("must", zl mu), ("neighbours", .dict (nb.zipIdx.map fun p => (.inl (p.2 : Int), zl p.1))), ("trust_of", t)] : List (Str × D)).lookup m).isNone = true := by
    simp only [List.contains_cons, List.contains_nil, Bool.or_false, Bool.or_eq_false_iff] at hm
    simp only [List.lookup_cons, hm.1, hm.2.1, hm.2.2, List.lookup_nil, Option.isNone_none]
  show (if ("Side" : Str) = "Side" ∧ _ then _ else _) = _
  rw [if_pos ⟨rfl, hm2⟩]
  rfl
theorem lacks_w {K LD T G : D} {nb nx : List (List Int)} {mu mx : List Int} {t u le lx : D} {μ : Mu} {P : D → Mu → Prop} (hg : c_graph_of [K, LD] μ = .ok G μ) (hs : c_sides_of [G, T] μ = .ok (.list [sd19 nb mu t, sd19 nx mx u]) μ)
    (h1 : c_Side_lacks [sd19 nb mu t] μ = .ok le μ) (h2 : c_Side_lacks [sd19 nx mx u] μ = .ok lx μ) (ok : okLoc 0 (.tuple [le, lx]) = true) (h : P (.tuple [le, lx]) μ) : W (c_lacks [K, LD, T] μ) P := by
  have m1 := mt_side (m := "lacks") (F := c_Side_lacks) (i := 3) (nb := nb) (mu := mu) (t := t) (ρ := [some K, some LD, some T, some (sd19 nb mu t), some (sd19 nx mx u)]) (μ := μ) rfl (by decide +kernel)
  have m2 := mt_side (m := "lacks") (F := c_Side_lacks) (i := 4) (nb := nx) (mu := mx) (t := u) (ρ := [some K, some LD, some T, some (sd19 nb mu t), some (sd19 nx mx u)]) (μ := μ) rfl (by decide +kernel)
  rw [h1] at m1
  rw [h2] at m2
  generalize sd19 nb mu t = A at *
  generalize sd19 nx mx u = B at *
  unfold c_lacks b_lacks
  generalize hT : sRet _ = T0
  simp -implicitDefEqProofs only [hg, hs, _bi,_cs,_ca,_ct,_bj,_cb,_bk,_bl,_cc,_cd,_ac,_ce,_ad,_ae,onBody,sNil,_cf,_af,_ag,_ah,_ai,sBk,sCt,sExpr,sRet,sRetN,sIf,sSet,sAsg,sAsgL,sPar2,sFor,sDel,eVar,eC,eBin,eUn,eT,boolOf,_aj,_O,_ak,_al,_P,_bm,_cg,_am,_bn,TL.tAnd,TL.tOr,TL.tNot,tTrue,eAnd,eOr,eNot,eIf,aNil,aCons,eTup,eFz,eNew,eFrz,frzD,nLst,nCall,eCall,eCallF,eSl,oNone,oSome,nComp,nCompK,nCat,_an,_K,_L,_D,_M,_ao,_Q,nEmpty,nDisp,pNil,pCons,iVal,iRange1,iRange2,iEnumF,iZipF,iItemsF,kRange1,kRange2,kEnum,kZip,kItems,cellD,eMeth,startD,tgSet,tgSets,wipeD,_x,_E,_m,_r,_d,_e,_n,_s,_t,_a,_b,_i,_f,_g,_F,Nat.reduceAdd,Nat.reduceSub,Nat.reduceEqDiff,_ap,_R,_S,_N,_G,_aq,_ar,_as,_at,_au,_av,_aw,_ax,_ay,_az,_ba,_bo,_bp,_bq,_br,_bs,_ch,_T,_ci,_U,_bt,_V,_W,_bu,_bv,_bw,_bx,_by,_cj,_ck,_cl,_cm,_bb,_bc,_bd,_be,_X,_Y,_cn,_co,_cp,_cq,TL.keyOf,_cr,_bz,_bf,_bg,_Z,_bh,_j,_J,_H,_o,_y,_z,_A,_B,_w,_aa,_ab,_I,_h,_C,_k,_l,Int.reduceLT,Int.reduceLE,Int.reducePow,Int.reduceToNat,Int.reduceNeg,Int.reduceAdd,Int.reduceSub,Int.reduceMul,Nat.reduceLT,Nat.reduceLeDiff,Nat.reducePow,_c,_u,_v,_p,_q]
  rw [← hT]
  simp -implicitDefEqProofs only [m1, m2, _bi,_cs,_ca,_ct,_bj,_cb,_bk,_bl,_cc,_cd,_ac,_ce,_ad,_ae,onBody,sNil,_cf,_af,_ag,_ah,_ai,sBk,sCt,sExpr,sRet,sRetN,sIf,sSet,sAsg,sAsgL,sPar2,sFor,sDel,eVar,eC,eBin,eUn,eT,boolOf,_aj,_O,_ak,_al,_P,_bm,_cg,_am,_bn,TL.tAnd,TL.tOr,TL.tNot,tTrue,eAnd,eOr,eNot,eIf,aNil,aCons,eTup,eFz,eNew,eFrz,frzD,nLst,nCall,eCall,eCallF,eSl,oNone,oSome,nComp,nCompK,nCat,_an,_K,_L,_D,_M,_ao,_Q,nEmpty,nDisp,pNil,pCons,iVal,iRange1,iRange2,iEnumF,iZipF,iItemsF,kRange1,kRange2,kEnum,kZip,kItems,cellD,eMeth,startD,tgSet,tgSets,wipeD,_x,_E,_m,_r,_d,_e,_n,_s,_t,_a,_b,_i,_f,_g,_F,Nat.reduceAdd,Nat.reduceSub,Nat.reduceEqDiff,_ap,_R,_S,_N,_G,_aq,_ar,_as,_at,_au,_av,_aw,_ax,_ay,_az,_ba,_bo,_bp,_bq,_br,_bs,_ch,_T,_ci,_U,_bt,_V,_W,_bu,_bv,_bw,_bx,_by,_cj,_ck,_cl,_cm,_bb,_bc,_bd,_be,_X,_Y,_cn,_co,_cp,_cq,TL.keyOf,_cr,_bz,_bf,_bg,_Z,_bh,_j,_J,_H,_o,_y,_z,_A,_B,_w,_aa,_ab,_I,_h,_C,_k,_l,Int.reduceLT,Int.reduceLE,Int.reducePow,Int.reduceToNat,Int.reduceNeg,Int.reduceAdd,Int.reduceSub,Int.reduceMul,Nat.reduceLT,Nat.reduceLeDiff,Nat.reducePow,_c,_u,_v,_p,_q]
  exact W_ret0 ok h
theorem graded_w {K LD T G V : D} {μ : Mu} {P : D → Mu → Prop} (hg : c_graph_of [K, LD] μ = .ok G μ) (h1 : c_graded_by [G, T, PL] μ = .ok V μ) (h : P V μ) (hv : ∀ i, V ≠ .loc i) : W (c_graded_repair [K, LD, T] μ) P := by
  have ok := ret_loc h1
  unfold PL at h1
  unfold c_graded_repair b_graded_repair
  simp -implicitDefEqProofs only [hg, h1, _bi,_cs,_ca,_ct,_bj,_cb,_bk,_bl,_cc,_cd,_ac,_ce,_ad,_ae,onBody,sNil,_cf,_af,_ag,_ah,_ai,sBk,sCt,sExpr,sRet,sRetN,sIf,sSet,sAsg,sAsgL,sPar2,sFor,sDel,eVar,eC,eBin,eUn,eT,boolOf,_aj,_O,_ak,_al,_P,_bm,_cg,_am,_bn,TL.tAnd,TL.tOr,TL.tNot,tTrue,eAnd,eOr,eNot,eIf,aNil,aCons,eTup,eFz,eNew,eFrz,frzD,nLst,nCall,eCall,eCallF,eSl,oNone,oSome,nComp,nCompK,nCat,_an,_K,_L,_D,_M,_ao,_Q,nEmpty,nDisp,pNil,pCons,iVal,iRange1,iRange2,iEnumF,iZipF,iItemsF,kRange1,kRange2,kEnum,kZip,kItems,cellD,eMeth,startD,tgSet,tgSets,wipeD,_x,_E,_m,_r,_d,_e,_n,_s,_t,_a,_b,_i,_f,_g,_F,Nat.reduceAdd,Nat.reduceSub,Nat.reduceEqDiff,_ap,_R,_S,_N,_G,_aq,_ar,_as,_at,_au,_av,_aw,_ax,_ay,_az,_ba,_bo,_bp,_bq,_br,_bs,_ch,_T,_ci,_U,_bt,_V,_W,_bu,_bv,_bw,_bx,_by,_cj,_ck,_cl,_cm,_bb,_bc,_bd,_be,_X,_Y,_cn,_co,_cp,_cq,TL.keyOf,_cr,_bz,_bf,_bg,_Z,_bh,_j,_J,_H,_o,_y,_z,_A,_B,_w,_aa,_ab,_I,_h,_C,_k,_l,Int.reduceLT,Int.reduceLE,Int.reducePow,Int.reduceToNat,Int.reduceNeg,Int.reduceAdd,Int.reduceSub,Int.reduceMul,Nat.reduceLT,Nat.reduceLeDiff,Nat.reducePow,_c,_u,_v,_p,_q]
  have c := chkMu_self μ []
  rw [List.append_nil] at c
  refine W_ret c ok ?_
  rw [List.take_length]
  exact h
theorem size_w {K LD NS X Y E F : D} {v : Int} {μ : Mu} {P : D → Mu → Prop} (hg : c_graph_of [K, LD] μ = .ok (.obj "Graph" [("exits_of", X), ("entries_of", Y), ("must_entries", E), ("must_exits", F)]) μ) (h1 : c_surplus [X, NS] μ = .ok (.int v) μ) (h : P (.int v) μ) : W (c_shortage_size [K, LD, .str "entries", NS] μ) P := by
  have e1 : ∀ ν, gEq ν (.str "entries") (.str "entries") = some (.bool true) := fun ν => by rfl
  have f1 : ∀ (a b c d : Option D) (ρ : TL.Env) ν, eFldC ["Graph"] (eVar 4) "exits_of" (a :: b :: c :: d :: some (.obj "Graph" [("exits_of", X), ("entries_of", Y), ("must_entries", E), ("must_exits", F)]) :: ρ) ν = .ok X ν := fun a b c d ρ ν => rfl
  generalize D.obj "Graph" [("exits_of", X), ("entries_of", Y), ("must_entries", E), ("must_exits", F)] = G at *
  unfold c_shortage_size b_shortage_size
  simp -implicitDefEqProofs only [hg, e1, f1, h1, _bi,_cs,_ca,_ct,_bj,_cb,_bk,_bl,_cc,_cd,_ac,_ce,_ad,_ae,onBody,sNil,_cf,_af,_ag,_ah,_ai,sBk,sCt,sExpr,sRet,sRetN,sIf,sSet,sAsg,sAsgL,sPar2,sFor,sDel,eVar,eC,eBin,eUn,eT,boolOf,_aj,_O,_ak,_al,_P,_bm,_cg,_am,_bn,TL.tAnd,TL.tOr,TL.tNot,tTrue,eAnd,eOr,eNot,eIf,aNil,aCons,eTup,eFz,eNew,eFrz,frzD,nLst,nCall,eCall,eCallF,eSl,oNone,oSome,nComp,nCompK,nCat,_an,_K,_L,_D,_M,_ao,_Q,nEmpty,nDisp,pNil,pCons,iVal,iRange1,iRange2,iEnumF,iZipF,iItemsF,kRange1,kRange2,kEnum,kZip,kItems,cellD,eMeth,startD,tgSet,tgSets,wipeD,_x,_E,_m,_r,_d,_e,_n,_s,_t,_a,_b,_i,_f,_g,_F,Nat.reduceAdd,Nat.reduceSub,Nat.reduceEqDiff,_ap,_R,_S,_N,_G,_aq,_ar,_as,_at,_au,_av,_aw,_ax,_ay,_az,_ba,_bo,_bp,_bq,_br,_bs,_ch,_T,_ci,_U,_bt,_V,_W,_bu,_bv,_bw,_bx,_by,_cj,_ck,_cl,_cm,_bb,_bc,_bd,_be,_X,_Y,_cn,_co,_cp,_cq,TL.keyOf,_cr,_bz,_bf,_bg,_Z,_bh,_j,_J,_H,_o,_y,_z,_A,_B,_w,_aa,_ab,_I,_h,_C,_k,_l,Int.reduceLT,Int.reduceLE,Int.reducePow,Int.reduceToNat,Int.reduceNeg,Int.reduceAdd,Int.reduceSub,Int.reduceMul,Nat.reduceLT,Nat.reduceLeDiff,Nat.reducePow,_c,_u,_v,_p,_q]
  exact W_ret0 rfl h
theorem fdC_of {ν : Mu} (h : FeedAt 0 ν) (hl : ν.length = 1) : ∃ a b, ν = fdC a b := by
  obtain ⟨a, b, e⟩ := h
  match ν, hl with
  | [c], _ =>
    refine ⟨a, b, ?_⟩
    simp only [List.getElem?_cons_zero, Option.some.injEq] at e
    rw [e]
    rfl
theorem rows_w {n : Str} (hn : isNm n) {a b : Int} {P : D → Mu → Prop} (h : ∀ a b, P (trues 5) (fdC a b)) : W (c__law_of_rows [kD19 n 15, .str n, .loc 0] (fdC a b)) P := by
  have hf : FeedAt 0 (fdC a b) := ⟨a, b, rfl⟩
  have z9 : ∀ ν, gMul ν (.list [.int 0]) (.int 9) = some (.list (List.replicate 9 (.int 0))) := fun ν => by kernel_rfl
  have z3 : ∀ ν, gMul ν (.list [.int 1]) (.int 3) = some (zl [1, 1, 1]) := fun ν => by kernel_rfl
  have ez : ∀ ν, gEq ν (.list (List.replicate 9 (.int 0))) (.list (List.replicate 9 (.int 0))) = some (.bool true) := fun ν => by kernel_rfl
  have gr := fun a b => gR_is hn a b
  have bk : D.tuple [.list [ln19 0 n .none, ln19 10 n .none, ln19 20 n .none, ln19 30 n .none, ln19 40 n .none], .list [ln19 15 n .none, ln19 25 n .none, ln19 35 n .none], .str "closed", .str "closed"] = lgR n := rfl
  generalize hK : kD19 n 15 = K at *
  unfold c__law_of_rows b__law_of_rows
  generalize hT7 : sRet _ = T7
  generalize hT6 : sSeq (sSet 7 _) T7 = T6
  generalize hT5 : sSeq (sSet 5 (eBin gAdd _ _)) T6 = T5
  generalize hT4 : sSeq (sSet 6 _) T5 = T4
  generalize hT3 : sSeq (sSet 5 _) T4 = T3
  generalize hT2 : sSeq (sSet 4 _) T3 = T2
  generalize hT1 : sSeq (sSet 3 _) T2 = T1
  simp -implicitDefEqProofs only [isIn62_small (i := 5) (by decide) (by decide), rng_small (i := 0) (n := 5) (by decide), _bi,_cs,_ca,_ct,_bj,_cb,_bk,_bl,_cc,_cd,_ac,_ce,_ad,_ae,onBody,sNil,_cf,_af,_ag,_ah,_ai,sBk,sCt,sExpr,sRet,sRetN,sIf,sSet,sAsg,sAsgL,sPar2,sFor,sDel,eVar,eC,eBin,eUn,eT,boolOf,_aj,_O,_ak,_al,_P,_bm,_cg,_am,_bn,TL.tAnd,TL.tOr,TL.tNot,tTrue,eAnd,eOr,eNot,eIf,aNil,aCons,eTup,eFz,eNew,eFrz,frzD,nLst,nCall,eCall,eCallF,eSl,oNone,oSome,nComp,nCompK,nCat,_an,_K,_L,_D,_M,_ao,_Q,nEmpty,nDisp,pNil,pCons,iVal,iRange1,iRange2,iEnumF,iZipF,iItemsF,kRange1,kRange2,kEnum,kZip,kItems,cellD,eMeth,startD,tgSet,tgSets,wipeD,_x,_E,_m,_r,_d,_e,_n,_s,_t,_a,_b,_i,_f,_g,_F,Nat.reduceAdd,Nat.reduceSub,Nat.reduceEqDiff,_ap,_R,_S,_N,_G,_aq,_ar,_as,_at,_au,_av,_aw,_ax,_ay,_az,_ba,_bo,_bp,_bq,_br,_bs,_ch,_T,_ci,_U,_bt,_V,_W,_bu,_bv,_bw,_bx,_by,_cj,_ck,_cl,_cm,_bb,_bc,_bd,_be,_X,_Y,_cn,_co,_cp,_cq,TL.keyOf,_cr,_bz,_bf,_bg,_Z,_bh,_j,_J,_H,_o,_y,_z,_A,_B,_w,_aa,_ab,_I,_h,_C,_k,_l,Int.reduceLT,Int.reduceLE,Int.reducePow,Int.reduceToNat,Int.reduceNeg,Int.reduceAdd,Int.reduceSub,Int.reduceMul,Nat.reduceLT,Nat.reduceLeDiff,Nat.reducePow,_c,_u,_v,_p,_q]
  refine W.of_eq (d := [ln19 0 n .none, ln19 10 n .none, ln19 20 n .none, ln19 30 n .none, ln19 40 n .none]) (μ := fdC a b) (by kernel_rfl) ?_
  simp -implicitDefEqProofs only [isIn62_small (i := 3) (by decide) (by decide), rng_small (i := 0) (n := 3) (by decide), _bi,_cs,_ca,_ct,_bj,_cb,_bk,_bl,_cc,_cd,_ac,_ce,_ad,_ae,onBody,sNil,_cf,_af,_ag,_ah,_ai,sBk,sCt,sExpr,sRet,sRetN,sIf,sSet,sAsg,sAsgL,sPar2,sFor,sDel,eVar,eC,eBin,eUn,eT,boolOf,_aj,_O,_ak,_al,_P,_bm,_cg,_am,_bn,TL.tAnd,TL.tOr,TL.tNot,tTrue,eAnd,eOr,eNot,eIf,aNil,aCons,eTup,eFz,eNew,eFrz,frzD,nLst,nCall,eCall,eCallF,eSl,oNone,oSome,nComp,nCompK,nCat,_an,_K,_L,_D,_M,_ao,_Q,nEmpty,nDisp,pNil,pCons,iVal,iRange1,iRange2,iEnumF,iZipF,iItemsF,kRange1,kRange2,kEnum,kZip,kItems,cellD,eMeth,startD,tgSet,tgSets,wipeD,_x,_E,_m,_r,_d,_e,_n,_s,_t,_a,_b,_i,_f,_g,_F,Nat.reduceAdd,Nat.reduceSub,Nat.reduceEqDiff,_ap,_R,_S,_N,_G,_aq,_ar,_as,_at,_au,_av,_aw,_ax,_ay,_az,_ba,_bo,_bp,_bq,_br,_bs,_ch,_T,_ci,_U,_bt,_V,_W,_bu,_bv,_bw,_bx,_by,_cj,_ck,_cl,_cm,_bb,_bc,_bd,_be,_X,_Y,_cn,_co,_cp,_cq,TL.keyOf,_cr,_bz,_bf,_bg,_Z,_bh,_j,_J,_H,_o,_y,_z,_A,_B,_w,_aa,_ab,_I,_h,_C,_k,_l,Int.reduceLT,Int.reduceLE,Int.reducePow,Int.reduceToNat,Int.reduceNeg,Int.reduceAdd,Int.reduceSub,Int.reduceMul,Nat.reduceLT,Nat.reduceLeDiff,Nat.reducePow,_c,_u,_v,_p,_q]
  refine W.of_eq (d := [ln19 15 n .none, ln19 25 n .none, ln19 35 n .none]) (μ := fdC a b) (by kernel_rfl) ?_
  generalize hL0 : D.list [ln19 0 n .none, ln19 10 n .none, ln19 20 n .none, ln19 30 n .none, ln19 40 n .none] = L0 at bk ⊢
  generalize hL1 : D.list [ln19 15 n .none, ln19 25 n .none, ln19 35 n .none] = L1 at bk ⊢
  try simp -implicitDefEqProofs only [_bi,_cs,_ca,_ct,_bj,_cb,_bk,_bl,_cc,_cd,_ac,_ce,_ad,_ae,onBody,sNil,_cf,_af,_ag,_ah,_ai,sBk,sCt,sExpr,sRet,sRetN,sIf,sSet,sAsg,sAsgL,sPar2,sFor,sDel,eVar,eC,eBin,eUn,eT,boolOf,_aj,_O,_ak,_al,_P,_bm,_cg,_am,_bn,TL.tAnd,TL.tOr,TL.tNot,tTrue,eAnd,eOr,eNot,eIf,aNil,aCons,eTup,eFz,eNew,eFrz,frzD,nLst,nCall,eCall,eCallF,eSl,oNone,oSome,nComp,nCompK,nCat,_an,_K,_L,_D,_M,_ao,_Q,nEmpty,nDisp,pNil,pCons,iVal,iRange1,iRange2,iEnumF,iZipF,iItemsF,kRange1,kRange2,kEnum,kZip,kItems,cellD,eMeth,startD,tgSet,tgSets,wipeD,_x,_E,_m,_r,_d,_e,_n,_s,_t,_a,_b,_i,_f,_g,_F,Nat.reduceAdd,Nat.reduceSub,Nat.reduceEqDiff,_ap,_R,_S,_N,_G,_aq,_ar,_as,_at,_au,_av,_aw,_ax,_ay,_az,_ba,_bo,_bp,_bq,_br,_bs,_ch,_T,_ci,_U,_bt,_V,_W,_bu,_bv,_bw,_bx,_by,_cj,_ck,_cl,_cm,_bb,_bc,_bd,_be,_X,_Y,_cn,_co,_cp,_cq,TL.keyOf,_cr,_bz,_bf,_bg,_Z,_bh,_j,_J,_H,_o,_y,_z,_A,_B,_w,_aa,_ab,_I,_h,_C,_k,_l,Int.reduceLT,Int.reduceLE,Int.reducePow,Int.reduceToNat,Int.reduceNeg,Int.reduceAdd,Int.reduceSub,Int.reduceMul,Nat.reduceLT,Nat.reduceLeDiff,Nat.reducePow,_c,_u,_v,_p,_q]
  rw [← hT1]
  clear hT1 T1
  simp -implicitDefEqProofs only [isIn62_small (i := 5) (by decide) (by decide), rng_small (i := 0) (n := 5) (by decide), _bi,_cs,_ca,_ct,_bj,_cb,_bk,_bl,_cc,_cd,_ac,_ce,_ad,_ae,onBody,sNil,_cf,_af,_ag,_ah,_ai,sBk,sCt,sExpr,sRet,sRetN,sIf,sSet,sAsg,sAsgL,sPar2,sFor,sDel,eVar,eC,eBin,eUn,eT,boolOf,_aj,_O,_ak,_al,_P,_bm,_cg,_am,_bn,TL.tAnd,TL.tOr,TL.tNot,tTrue,eAnd,eOr,eNot,eIf,aNil,aCons,eTup,eFz,eNew,eFrz,frzD,nLst,nCall,eCall,eCallF,eSl,oNone,oSome,nComp,nCompK,nCat,_an,_K,_L,_D,_M,_ao,_Q,nEmpty,nDisp,pNil,pCons,iVal,iRange1,iRange2,iEnumF,iZipF,iItemsF,kRange1,kRange2,kEnum,kZip,kItems,cellD,eMeth,startD,tgSet,tgSets,wipeD,_x,_E,_m,_r,_d,_e,_n,_s,_t,_a,_b,_i,_f,_g,_F,Nat.reduceAdd,Nat.reduceSub,Nat.reduceEqDiff,_ap,_R,_S,_N,_G,_aq,_ar,_as,_at,_au,_av,_aw,_ax,_ay,_az,_ba,_bo,_bp,_bq,_br,_bs,_ch,_T,_ci,_U,_bt,_V,_W,_bu,_bv,_bw,_bx,_by,_cj,_ck,_cl,_cm,_bb,_bc,_bd,_be,_X,_Y,_cn,_co,_cp,_cq,TL.keyOf,_cr,_bz,_bf,_bg,_Z,_bh,_j,_J,_H,_o,_y,_z,_A,_B,_w,_aa,_ab,_I,_h,_C,_k,_l,Int.reduceLT,Int.reduceLE,Int.reducePow,Int.reduceToNat,Int.reduceNeg,Int.reduceAdd,Int.reduceSub,Int.reduceMul,Nat.reduceLT,Nat.reduceLeDiff,Nat.reducePow,_c,_u,_v,_p,_q]
  refine Exists.elim (⟨_, rfl⟩ : ∃ J : Nat → List D → Mu → Prop, J = fun i ds ν => ∃ ts : List Int, ds = ts.map D.int ∧ ts.length = i ∧ (∀ t ∈ ts, is3 t) ∧ FeedAt 0 ν ∧ ν.length = 1) fun J hJ => ?_
  refine W_compL J _ (by rw [hJ]; exact ⟨[], rfl, rfl, fun _ h => (nomatch h), hf, rfl⟩) (fun _ _ _ _ => rfl) ?_ ?_
  · intro k x ds ν hx hj
    rw [hJ] at hj
    obtain ⟨ts, rfl, hl, h3, hf, h1⟩ := hj
    refine ⟨_, rfl, ?_⟩
    have nj : ∀ t ν, is3 t → FeedAt 0 ν → ν.length = 1 → J (k + 1) (ts.map D.int ++ [.int t]) ν := by
      rw [hJ]
      intro t ν a b c
      refine ⟨ts ++ [t], by rw [List.map_append]; rfl, by simp [hl], fun z hz => ?_, b, c⟩
      rcases List.mem_append.mp hz with hz | hz
      · exact h3 z hz
      · rw [List.mem_singleton.mp hz]; exact a
    clear hJ hx
    try simp -implicitDefEqProofs only [_bi,_cs,_ca,_ct,_bj,_cb,_bk,_bl,_cc,_cd,_ac,_ce,_ad,_ae,onBody,sNil,_cf,_af,_ag,_ah,_ai,sBk,sCt,sExpr,sRet,sRetN,sIf,sSet,sAsg,sAsgL,sPar2,sFor,sDel,eVar,eC,eBin,eUn,eT,boolOf,_aj,_O,_ak,_al,_P,_bm,_cg,_am,_bn,TL.tAnd,TL.tOr,TL.tNot,tTrue,eAnd,eOr,eNot,eIf,aNil,aCons,eTup,eFz,eNew,eFrz,frzD,nLst,nCall,eCall,eCallF,eSl,oNone,oSome,nComp,nCompK,nCat,_an,_K,_L,_D,_M,_ao,_Q,nEmpty,nDisp,pNil,pCons,iVal,iRange1,iRange2,iEnumF,iZipF,iItemsF,kRange1,kRange2,kEnum,kZip,kItems,cellD,eMeth,startD,tgSet,tgSets,wipeD,_x,_E,_m,_r,_d,_e,_n,_s,_t,_a,_b,_i,_f,_g,_F,Nat.reduceAdd,Nat.reduceSub,Nat.reduceEqDiff,_ap,_R,_S,_N,_G,_aq,_ar,_as,_at,_au,_av,_aw,_ax,_ay,_az,_ba,_bo,_bp,_bq,_br,_bs,_ch,_T,_ci,_U,_bt,_V,_W,_bu,_bv,_bw,_bx,_by,_cj,_ck,_cl,_cm,_bb,_bc,_bd,_be,_X,_Y,_cn,_co,_cp,_cq,TL.keyOf,_cr,_bz,_bf,_bg,_Z,_bh,_j,_J,_H,_o,_y,_z,_A,_B,_w,_aa,_ab,_I,_h,_C,_k,_l,Int.reduceLT,Int.reduceLE,Int.reducePow,Int.reduceToNat,Int.reduceNeg,Int.reduceAdd,Int.reduceSub,Int.reduceMul,Nat.reduceLT,Nat.reduceLeDiff,Nat.reducePow,_c,_u,_v,_p,_q]
    refine pick_w hf (by simp) (by simp) rfl fun q μ2 hq d2 => ?_
    simp only [List.mem_cons, List.not_mem_nil, or_false] at hq
    have f2 := d2.at hf
    have l2 : μ2.length = 1 := d2.len.trans h1
    rcases hq with rfl | rfl | rfl
    · exact nj 1 _ (.inl rfl) f2 l2
    · exact nj 2 _ (.inr (.inl rfl)) f2 l2
    · exact nj 3 _ (.inr (.inr rfl)) f2 l2
  · intro ds ν hj
    rw [hJ] at hj
    obtain ⟨ts, rfl, hl, h3, hf, h1⟩ := hj
    clear hJ J
    rw [rangeD_len] at hl
    obtain ⟨a, b, rfl⟩ := fdC_of hf h1
    match ts, hl with
    | [p, q, r, s, t], _ =>
      have R := row19 (h3 p (by simp)) (h3 q (by simp)) (h3 r (by simp)) (h3 s (by simp)) (h3 t (by simp)) a b
      have Rg := R.gr
      have Rl := R.la
      clear R
      generalize tlR (c_graded_by [GR, TR p q r s t, PL] (fdC a b)) = TX at Rg
      have el : c_lacks [K, lgR n, TR p q r s t] (fdC a b) = .ok (.tuple [FR (min4 p q r s) t, .list (List.replicate 9 (.int 0))]) (fdC a b) := W.eq (lacks_w (gr a b) (sR_is p q r s t a b) Rl (sRx_is a b) rfl ⟨rfl, rfl⟩)
      have eg : c_graded_repair [K, lgR n, TR p q r s t] (fdC a b) = .ok (.tuple (zl [lastMin p q r s, 4] :: TX)) (fdC a b) := W.eq (graded_w (gr a b) Rg ⟨rfl, rfl⟩ fun i h => nomatch h)
      have es : c_shortage_size [K, lgR n, .str "entries", zl [0, 1, 2, 3, 4]] (fdC a b) = .ok (.int 2) (fdC a b) := W.eq (size_w (gr a b) (spR_is a b) ⟨rfl, rfl⟩)
      have tt : D.tuple [zl [p, q, r, s, t], zl [1, 1, 1]] = TR p q r s t := rfl
      have t5 : D.list ([p, q, r, s, t].map D.int) = zl [p, q, r, s, t] := rfl
      have z5 : D.list [.int 0, .int 1, .int 2, .int 3, .int 4] = zl [0, 1, 2, 3, 4] := rfl
      obtain ⟨x, hx, hx4, hmin⟩ : ∃ x : Nat, lastMin p q r s = (x : Nat) ∧ x < 4 ∧ [p, q, r, s, t][x]? = some (min4 p q r s) := by
        unfold lastMin min4
        split
        · exact ⟨3, rfl, by decide, rfl⟩
        · split
          · exact ⟨2, rfl, by decide, rfl⟩
          · split
            · exact ⟨1, rfl, by decide, rfl⟩
            · exact ⟨0, rfl, by decide, rfl⟩
      have ig : ∀ ν, gIx ν (.tuple (zl [lastMin p q r s, 4] :: TX)) (.int 0) = some (zl [(x : Nat), 4]) := fun ν => by rw [hx, gIx_t, atI_0]
      have ln : ∀ ν, gLen ν [zl [(x : Nat), 4]] = some (.int 2) := fun ν => rfl
      have i4 : ∀ ν, gIn ν (.int 4) (zl [(x : Nat), 4]) = some (.bool true) := fun ν => by
        rcases (by omega : x = 0 ∨ x = 1 ∨ x = 2 ∨ x = 3) with rfl | rfl | rfl | rfl <;> kernel_rfl
      have wl : ∀ ν, walked ν (zl [(x : Nat), 4]) = some ⟨([(x : Int), 4]).map D.int, yes⟩ := fun ν => rfl
      have ix : ∀ ν, gIx ν (zl [p, q, r, s, t]) (.int (x : Nat)) = some (.int (min4 p q r s)) := fun ν => by
        show gIx ν (.list ([p, q, r, s, t].map D.int)) (.int (x : Nat)) = _
        rw [gIx_l, TL.atI_nat, List.getElem?_map, hmin]
        rfl
      have sl : ∀ ν, gSl ν (zl [p, q, r, s, t]) none (some 4) = some (zl [p, q, r, s]) := fun ν => rfl
      have mz : minZ [p, q, r, s] = min4 p q r s := by
        unfold min4
        simp only [minZ]
        repeat' split
        all_goals first | rfl | omega
      have mn : ∀ ν, gMinL ν [zl [p, q, r, s]] = some (.int (min4 p q r s)) := fun ν => by rw [← mz]; rfl
      rw [t5]
      clear Rg Rl
      generalize TR p q r s t = T at *
      generalize hZ5 : zl [p, q, r, s, t] = Z5 at *
      generalize hZX : zl [(x : Nat), 4] = ZX at *
      generalize D.tuple (zl [lastMin p q r s, 4] :: TX) = VT at *
      generalize FR (min4 p q r s) t = VF at *
      generalize lgR n = LG at *
      generalize hZZ : D.list (List.replicate 9 (.int 0)) = Z9 at *
      generalize min4 p q r s = m4 at *
      generalize zl [1, 1, 1] = ONE at *
      generalize zl [p, q, r, s] = Z4 at *
      try simp -implicitDefEqProofs only [_bi,_cs,_ca,_ct,_bj,_cb,_bk,_bl,_cc,_cd,_ac,_ce,_ad,_ae,onBody,sNil,_cf,_af,_ag,_ah,_ai,sBk,sCt,sExpr,sRet,sRetN,sIf,sSet,sAsg,sAsgL,sPar2,sFor,sDel,eVar,eC,eBin,eUn,eT,boolOf,_aj,_O,_ak,_al,_P,_bm,_cg,_am,_bn,TL.tAnd,TL.tOr,TL.tNot,tTrue,eAnd,eOr,eNot,eIf,aNil,aCons,eTup,eFz,eNew,eFrz,frzD,nLst,nCall,eCall,eCallF,eSl,oNone,oSome,nComp,nCompK,nCat,_an,_K,_L,_D,_M,_ao,_Q,nEmpty,nDisp,pNil,pCons,iVal,iRange1,iRange2,iEnumF,iZipF,iItemsF,kRange1,kRange2,kEnum,kZip,kItems,cellD,eMeth,startD,tgSet,tgSets,wipeD,_x,_E,_m,_r,_d,_e,_n,_s,_t,_a,_b,_i,_f,_g,_F,Nat.reduceAdd,Nat.reduceSub,Nat.reduceEqDiff,_ap,_R,_S,_N,_G,_aq,_ar,_as,_at,_au,_av,_aw,_ax,_ay,_az,_ba,_bo,_bp,_bq,_br,_bs,_ch,_T,_ci,_U,_bt,_V,_W,_bu,_bv,_bw,_bx,_by,_cj,_ck,_cl,_cm,_bb,_bc,_bd,_be,_X,_Y,_cn,_co,_cp,_cq,TL.keyOf,_cr,_bz,_bf,_bg,_Z,_bh,_j,_J,_H,_o,_y,_z,_A,_B,_w,_aa,_ab,_I,_h,_C,_k,_l,Int.reduceLT,Int.reduceLE,Int.reducePow,Int.reduceToNat,Int.reduceNeg,Int.reduceAdd,Int.reduceSub,Int.reduceMul,Nat.reduceLT,Nat.reduceLeDiff,Nat.reducePow,_c,_u,_v,_p,_q]
      rw [← hT2]
      clear hT2 T2
      try simp -implicitDefEqProofs only [_bi,_cs,_ca,_ct,_bj,_cb,_bk,_bl,_cc,_cd,_ac,_ce,_ad,_ae,onBody,sNil,_cf,_af,_ag,_ah,_ai,sBk,sCt,sExpr,sRet,sRetN,sIf,sSet,sAsg,sAsgL,sPar2,sFor,sDel,eVar,eC,eBin,eUn,eT,boolOf,_aj,_O,_ak,_al,_P,_bm,_cg,_am,_bn,TL.tAnd,TL.tOr,TL.tNot,tTrue,eAnd,eOr,eNot,eIf,aNil,aCons,eTup,eFz,eNew,eFrz,frzD,nLst,nCall,eCall,eCallF,eSl,oNone,oSome,nComp,nCompK,nCat,_an,_K,_L,_D,_M,_ao,_Q,nEmpty,nDisp,pNil,pCons,iVal,iRange1,iRange2,iEnumF,iZipF,iItemsF,kRange1,kRange2,kEnum,kZip,kItems,cellD,eMeth,startD,tgSet,tgSets,wipeD,_x,_E,_m,_r,_d,_e,_n,_s,_t,_a,_b,_i,_f,_g,_F,Nat.reduceAdd,Nat.reduceSub,Nat.reduceEqDiff,_ap,_R,_S,_N,_G,_aq,_ar,_as,_at,_au,_av,_aw,_ax,_ay,_az,_ba,_bo,_bp,_bq,_br,_bs,_ch,_T,_ci,_U,_bt,_V,_W,_bu,_bv,_bw,_bx,_by,_cj,_ck,_cl,_cm,_bb,_bc,_bd,_be,_X,_Y,_cn,_co,_cp,_cq,TL.keyOf,_cr,_bz,_bf,_bg,_Z,_bh,_j,_J,_H,_o,_y,_z,_A,_B,_w,_aa,_ab,_I,_h,_C,_k,_l,Int.reduceLT,Int.reduceLE,Int.reducePow,Int.reduceToNat,Int.reduceNeg,Int.reduceAdd,Int.reduceSub,Int.reduceMul,Nat.reduceLT,Nat.reduceLeDiff,Nat.reducePow,_c,_u,_v,_p,_q]
      rw [bk, ← hT3]
      clear hT3 T3
      try simp -implicitDefEqProofs only [z3, tt, el, z9, ez, W_bind, W_ok, W_bad, W_ex, W_noEx, W_ite, W_some, W_none, W_chk, W_map, W_obind, W_run, runK_nx, runK_rt, onBody, sNil, W_seq, seqK_nx, seqK_rt, seqK_bk, seqK_ct, sBk, sCt, sExpr, sRet, sRetN, sIf, sSet, sAsg, sAsgL, sPar2, sFor, sDel, eVar, eC, eBin, eUn, eT, boolOf, W_chain, thenB_ok, thenB_b, ok_bind, ofO_some, and_ok, or_ok, and_okD, or_okD, TL.tAnd, TL.tOr, TL.tNot, tTrue, eAnd, eOr, eNot, eIf, aNil, aCons, eTup, eFz, eNew, eFrz, frzD, nLst, nCall, eCall, eCallF, eSl, oNone, oSome, nComp, nCompK, nCat, catO_ll, catO_last, gAdd_last, gAppend_last, isTy_last, size_lt, mergeD_1, nEmpty, nDisp, pNil, pCons, iVal, iRange1, iRange2, iEnumF, iZipF, iItemsF, kRange1, kRange2, kEnum, kZip, kItems, cellD, eMeth, startD, tgSet, tgSets, wipeD, List.map_cons, List.map_nil, List.length_cons, List.length_nil, List.replicate_succ, List.replicate_zero, List.cons_append, List.nil_append, List.append_nil, List.getElem?_cons_zero, List.getElem?_cons_succ, List.getElem?_nil, List.set_cons_zero, List.set_cons_succ, List.set_nil, Nat.reduceAdd, Nat.reduceSub, Nat.reduceEqDiff, if_true, ite_true, if_false, ite_false, Nat.zero_add, gAdd_ii, gAdd_ss, gAdd_tt, gAdd_ll, gSub_ii, gMul_ii, gMul_si, gDiv_ii, gMod_ii, gPow_ii, gNeg_i, gLt_ii, gLe_ii, gGt_ii, gGe_ii, gIs_n, gIsNot_n, gIs_b, gIsNot_b, gAbs_i, gMax2_ii, gMin2_ii, gLen_s, gLen_l, gLen_t, gLen_d, gLen_r, gIx_l, gIx_t, gIx_d, gIx_r, gList_d, gList_l, gList_t, gDict_d, gTuple_t, gTuple_l, atI_0, atI_1, atI_2, atI_3, TL.keyOf, W_sub, W_must, mulOk_r, mulOk_l, size_lit, some_ex, decide_eq_true_eq, decide_true, decide_false, Bool.and_eq_true, Bool.true_and, Bool.and_true, Bool.and_self, Bool.not_true, Bool.not_false, true_and, and_true, true_implies, Bool.false_eq_true, false_implies, not_false_eq_true, not_true_eq_false, Int.reduceLT, Int.reduceLE, Int.reducePow, Int.reduceToNat, Int.reduceNeg, Int.reduceAdd, Int.reduceSub, Int.reduceMul, Nat.reduceLT, Nat.reduceLeDiff, Nat.reducePow, decide_eq_false_iff_not, Option.map_some, Option.map_none, Option.bind_some, Option.bind_none]
      rw [← hT4]
      clear hT4 T4
      try simp -implicitDefEqProofs only [z3, tt, eg, ig, W_bind, W_ok, W_bad, W_ex, W_noEx, W_ite, W_some, W_none, W_chk, W_map, W_obind, W_run, runK_nx, runK_rt, onBody, sNil, W_seq, seqK_nx, seqK_rt, seqK_bk, seqK_ct, sBk, sCt, sExpr, sRet, sRetN, sIf, sSet, sAsg, sAsgL, sPar2, sFor, sDel, eVar, eC, eBin, eUn, eT, boolOf, W_chain, thenB_ok, thenB_b, ok_bind, ofO_some, and_ok, or_ok, and_okD, or_okD, TL.tAnd, TL.tOr, TL.tNot, tTrue, eAnd, eOr, eNot, eIf, aNil, aCons, eTup, eFz, eNew, eFrz, frzD, nLst, nCall, eCall, eCallF, eSl, oNone, oSome, nComp, nCompK, nCat, catO_ll, catO_last, gAdd_last, gAppend_last, isTy_last, size_lt, mergeD_1, nEmpty, nDisp, pNil, pCons, iVal, iRange1, iRange2, iEnumF, iZipF, iItemsF, kRange1, kRange2, kEnum, kZip, kItems, cellD, eMeth, startD, tgSet, tgSets, wipeD, List.map_cons, List.map_nil, List.length_cons, List.length_nil, List.replicate_succ, List.replicate_zero, List.cons_append, List.nil_append, List.append_nil, List.getElem?_cons_zero, List.getElem?_cons_succ, List.getElem?_nil, List.set_cons_zero, List.set_cons_succ, List.set_nil, Nat.reduceAdd, Nat.reduceSub, Nat.reduceEqDiff, if_true, ite_true, if_false, ite_false, Nat.zero_add, gAdd_ii, gAdd_ss, gAdd_tt, gAdd_ll, gSub_ii, gMul_ii, gMul_si, gDiv_ii, gMod_ii, gPow_ii, gNeg_i, gLt_ii, gLe_ii, gGt_ii, gGe_ii, gIs_n, gIsNot_n, gIs_b, gIsNot_b, gAbs_i, gMax2_ii, gMin2_ii, gLen_s, gLen_l, gLen_t, gLen_d, gLen_r, gIx_l, gIx_t, gIx_d, gIx_r, gList_d, gList_l, gList_t, gDict_d, gTuple_t, gTuple_l, atI_0, atI_1, atI_2, atI_3, TL.keyOf, W_sub, W_must, mulOk_r, mulOk_l, size_lit, some_ex, decide_eq_true_eq, decide_true, decide_false, Bool.and_eq_true, Bool.true_and, Bool.and_true, Bool.and_self, Bool.not_true, Bool.not_false, true_and, and_true, true_implies, Bool.false_eq_true, false_implies, not_false_eq_true, not_true_eq_false, Int.reduceLT, Int.reduceLE, Int.reducePow, Int.reduceToNat, Int.reduceNeg, Int.reduceAdd, Int.reduceSub, Int.reduceMul, Nat.reduceLT, Nat.reduceLeDiff, Nat.reducePow, decide_eq_false_iff_not, Option.map_some, Option.map_none, Option.bind_some, Option.bind_none]
      rw [← hT5]
      clear hT5 T5
      generalize hNS : zl [0, 1, 2, 3, 4] = NS at *
      simp -implicitDefEqProofs only [ln, i4, z5, es, gEq_ii, beq_self_eq_true, _bi,_cs,_ca,_ct,_bj,_cb,_bk,_bl,_cc,_cd,_ac,_ce,_ad,_ae,onBody,sNil,_cf,_af,_ag,_ah,_ai,sBk,sCt,sExpr,sRet,sRetN,sIf,sSet,sAsg,sAsgL,sPar2,sFor,sDel,eVar,eC,eBin,eUn,eT,boolOf,_aj,_O,_ak,_al,_P,_bm,_cg,_am,_bn,TL.tAnd,TL.tOr,TL.tNot,tTrue,eAnd,eOr,eNot,eIf,aNil,aCons,eTup,eFz,eNew,eFrz,frzD,nLst,nCall,eCall,eCallF,eSl,oNone,oSome,nComp,nCompK,nCat,_an,_K,_L,_D,_M,_ao,_Q,nEmpty,nDisp,pNil,pCons,iVal,iRange1,iRange2,iEnumF,iZipF,iItemsF,kRange1,kRange2,kEnum,kZip,kItems,cellD,eMeth,startD,tgSet,tgSets,wipeD,_x,_E,_m,_r,_d,_e,_n,_s,_t,_a,_b,_i,_f,_g,_F,Nat.reduceAdd,Nat.reduceSub,Nat.reduceEqDiff,_ap,_R,_S,_N,_G,_aq,_ar,_as,_at,_au,_av,_aw,_ax,_ay,_az,_ba,_bo,_bp,_bq,_br,_bs,_ch,_T,_ci,_U,_bt,_V,_W,_bu,_bv,_bw,_bx,_by,_cj,_ck,_cl,_cm,_bb,_bc,_bd,_be,_X,_Y,_cn,_co,_cp,_cq,TL.keyOf,_cr,_bz,_bf,_bg,_Z,_bh,_j,_J,_H,_o,_y,_z,_A,_B,_w,_aa,_ab,_I,_h,_C,_k,_l,Int.reduceLT,Int.reduceLE,Int.reducePow,Int.reduceToNat,Int.reduceNeg,Int.reduceAdd,Int.reduceSub,Int.reduceMul,Nat.reduceLT,Nat.reduceLeDiff,Nat.reducePow,_c,_u,_v,_p,_q]
      rw [← hT6]
      clear hT6 T6
      simp -implicitDefEqProofs only [wl, _bi,_cs,_ca,_ct,_bj,_cb,_bk,_bl,_cc,_cd,_ac,_ce,_ad,_ae,onBody,sNil,_cf,_af,_ag,_ah,_ai,sBk,sCt,sExpr,sRet,sRetN,sIf,sSet,sAsg,sAsgL,sPar2,sFor,sDel,eVar,eC,eBin,eUn,eT,boolOf,_aj,_O,_ak,_al,_P,_bm,_cg,_am,_bn,TL.tAnd,TL.tOr,TL.tNot,tTrue,eAnd,eOr,eNot,eIf,aNil,aCons,eTup,eFz,eNew,eFrz,frzD,nLst,nCall,eCall,eCallF,eSl,oNone,oSome,nComp,nCompK,nCat,_an,_K,_L,_D,_M,_ao,_Q,nEmpty,nDisp,pNil,pCons,iVal,iRange1,iRange2,iEnumF,iZipF,iItemsF,kRange1,kRange2,kEnum,kZip,kItems,cellD,eMeth,startD,tgSet,tgSets,wipeD,_x,_E,_m,_r,_d,_e,_n,_s,_t,_a,_b,_i,_f,_g,_F,Nat.reduceAdd,Nat.reduceSub,Nat.reduceEqDiff,_ap,_R,_S,_N,_G,_aq,_ar,_as,_at,_au,_av,_aw,_ax,_ay,_az,_ba,_bo,_bp,_bq,_br,_bs,_ch,_T,_ci,_U,_bt,_V,_W,_bu,_bv,_bw,_bx,_by,_cj,_ck,_cl,_cm,_bb,_bc,_bd,_be,_X,_Y,_cn,_co,_cp,_cq,TL.keyOf,_cr,_bz,_bf,_bg,_Z,_bh,_j,_J,_H,_o,_y,_z,_A,_B,_w,_aa,_ab,_I,_h,_C,_k,_l,Int.reduceLT,Int.reduceLE,Int.reducePow,Int.reduceToNat,Int.reduceNeg,Int.reduceAdd,Int.reduceSub,Int.reduceMul,Nat.reduceLT,Nat.reduceLeDiff,Nat.reducePow,_c,_u,_v,_p,_q]
      refine W_compMap D.int (fun y => !(y == 4)) D.int [(x : Int), 4] (fun y hy => ⟨_, rfl, W.eq (by simp -implicitDefEqProofs only [gNe_ii, _bi,_cs,_ca,_ct,_bj,_cb,_bk,_bl,_cc,_cd,_ac,_ce,_ad,_ae,onBody,sNil,_cf,_af,_ag,_ah,_ai,sBk,sCt,sExpr,sRet,sRetN,sIf,sSet,sAsg,sAsgL,sPar2,sFor,sDel,eVar,eC,eBin,eUn,eT,boolOf,_aj,_O,_ak,_al,_P,_bm,_cg,_am,_bn,TL.tAnd,TL.tOr,TL.tNot,tTrue,eAnd,eOr,eNot,eIf,aNil,aCons,eTup,eFz,eNew,eFrz,frzD,nLst,nCall,eCall,eCallF,eSl,oNone,oSome,nComp,nCompK,nCat,_an,_K,_L,_D,_M,_ao,_Q,nEmpty,nDisp,pNil,pCons,iVal,iRange1,iRange2,iEnumF,iZipF,iItemsF,kRange1,kRange2,kEnum,kZip,kItems,cellD,eMeth,startD,tgSet,tgSets,wipeD,_x,_E,_m,_r,_d,_e,_n,_s,_t,_a,_b,_i,_f,_g,_F,Nat.reduceAdd,Nat.reduceSub,Nat.reduceEqDiff,_ap,_R,_S,_N,_G,_aq,_ar,_as,_at,_au,_av,_aw,_ax,_ay,_az,_ba,_bo,_bp,_bq,_br,_bs,_ch,_T,_ci,_U,_bt,_V,_W,_bu,_bv,_bw,_bx,_by,_cj,_ck,_cl,_cm,_bb,_bc,_bd,_be,_X,_Y,_cn,_co,_cp,_cq,TL.keyOf,_cr,_bz,_bf,_bg,_Z,_bh,_j,_J,_H,_o,_y,_z,_A,_B,_w,_aa,_ab,_I,_h,_C,_k,_l,Int.reduceLT,Int.reduceLE,Int.reducePow,Int.reduceToNat,Int.reduceNeg,Int.reduceAdd,Int.reduceSub,Int.reduceMul,Nat.reduceLT,Nat.reduceLeDiff,Nat.reducePow,_c,_u,_v,_p,_q]), fun _ => rfl⟩) ?_
      have fl : ([(x : Int), 4].filter fun y => !(y == 4)) = [(x : Int)] := by
        have : ((x : Int) == 4) = false := by rw [beq_eq_false_iff_ne]; omega
        simp [this]
      rw [fl]
      try simp -implicitDefEqProofs only [_bi,_cs,_ca,_ct,_bj,_cb,_bk,_bl,_cc,_cd,_ac,_ce,_ad,_ae,onBody,sNil,_cf,_af,_ag,_ah,_ai,sBk,sCt,sExpr,sRet,sRetN,sIf,sSet,sAsg,sAsgL,sPar2,sFor,sDel,eVar,eC,eBin,eUn,eT,boolOf,_aj,_O,_ak,_al,_P,_bm,_cg,_am,_bn,TL.tAnd,TL.tOr,TL.tNot,tTrue,eAnd,eOr,eNot,eIf,aNil,aCons,eTup,eFz,eNew,eFrz,frzD,nLst,nCall,eCall,eCallF,eSl,oNone,oSome,nComp,nCompK,nCat,_an,_K,_L,_D,_M,_ao,_Q,nEmpty,nDisp,pNil,pCons,iVal,iRange1,iRange2,iEnumF,iZipF,iItemsF,kRange1,kRange2,kEnum,kZip,kItems,cellD,eMeth,startD,tgSet,tgSets,wipeD,_x,_E,_m,_r,_d,_e,_n,_s,_t,_a,_b,_i,_f,_g,_F,Nat.reduceAdd,Nat.reduceSub,Nat.reduceEqDiff,_ap,_R,_S,_N,_G,_aq,_ar,_as,_at,_au,_av,_aw,_ax,_ay,_az,_ba,_bo,_bp,_bq,_br,_bs,_ch,_T,_ci,_U,_bt,_V,_W,_bu,_bv,_bw,_bx,_by,_cj,_ck,_cl,_cm,_bb,_bc,_bd,_be,_X,_Y,_cn,_co,_cp,_cq,TL.keyOf,_cr,_bz,_bf,_bg,_Z,_bh,_j,_J,_H,_o,_y,_z,_A,_B,_w,_aa,_ab,_I,_h,_C,_k,_l,Int.reduceLT,Int.reduceLE,Int.reducePow,Int.reduceToNat,Int.reduceNeg,Int.reduceAdd,Int.reduceSub,Int.reduceMul,Nat.reduceLT,Nat.reduceLeDiff,Nat.reducePow,_c,_u,_v,_p,_q]
      rw [← hT7]
      clear hT7 T7
      simp -implicitDefEqProofs only [ix, sl, mn, gEq_ii, beq_self_eq_true, _bi,_cs,_ca,_ct,_bj,_cb,_bk,_bl,_cc,_cd,_ac,_ce,_ad,_ae,onBody,sNil,_cf,_af,_ag,_ah,_ai,sBk,sCt,sExpr,sRet,sRetN,sIf,sSet,sAsg,sAsgL,sPar2,sFor,sDel,eVar,eC,eBin,eUn,eT,boolOf,_aj,_O,_ak,_al,_P,_bm,_cg,_am,_bn,TL.tAnd,TL.tOr,TL.tNot,tTrue,eAnd,eOr,eNot,eIf,aNil,aCons,eTup,eFz,eNew,eFrz,frzD,nLst,nCall,eCall,eCallF,eSl,oNone,oSome,nComp,nCompK,nCat,_an,_K,_L,_D,_M,_ao,_Q,nEmpty,nDisp,pNil,pCons,iVal,iRange1,iRange2,iEnumF,iZipF,iItemsF,kRange1,kRange2,kEnum,kZip,kItems,cellD,eMeth,startD,tgSet,tgSets,wipeD,_x,_E,_m,_r,_d,_e,_n,_s,_t,_a,_b,_i,_f,_g,_F,Nat.reduceAdd,Nat.reduceSub,Nat.reduceEqDiff,_ap,_R,_S,_N,_G,_aq,_ar,_as,_at,_au,_av,_aw,_ax,_ay,_az,_ba,_bo,_bp,_bq,_br,_bs,_ch,_T,_ci,_U,_bt,_V,_W,_bu,_bv,_bw,_bx,_by,_cj,_ck,_cl,_cm,_bb,_bc,_bd,_be,_X,_Y,_cn,_co,_cp,_cq,TL.keyOf,_cr,_bz,_bf,_bg,_Z,_bh,_j,_J,_H,_o,_y,_z,_A,_B,_w,_aa,_ab,_I,_h,_C,_k,_l,Int.reduceLT,Int.reduceLE,Int.reducePow,Int.reduceToNat,Int.reduceNeg,Int.reduceAdd,Int.reduceSub,Int.reduceMul,Nat.reduceLT,Nat.reduceLeDiff,Nat.reducePow,_c,_u,_v,_p,_q]
      exact W_ret0 rfl (h a b)

/-! ### the law -/
theorem law_true (ns : List Int) (hl : ns.length ≤ 63) : c_law [.script ns] [] = .ok (.bool true) [] := by
  refine W.eq ?_
  unfold c_law b_law
  generalize hT6 : sRet _ = T6
  generalize hT5 : sSeq (sSet 5 (eBin gAdd (eVar 5) _)) T6 = T5
  generalize hT4 : sSeq (sSet 5 _) T5 = T4
  generalize hT3 : sSeq (sSet 4 _) T4 = T3
  generalize hT2 : sSeq (sSet 3 _) T3 = T2
  generalize hT1 : sSeq (sSet 2 _) T2 = T1
  try simp -implicitDefEqProofs only [_bi,_cs,_ca,_ct,_bj,_cb,_bk,_bl,_cc,_cd,_ac,_ce,_ad,_ae,onBody,sNil,_cf,_af,_ag,_ah,_ai,sBk,sCt,sExpr,sRet,sRetN,sIf,sSet,sAsg,sAsgL,sPar2,sFor,sDel,eVar,eC,eBin,eUn,eT,boolOf,_aj,_O,_ak,_al,_P,_bm,_cg,_am,_bn,TL.tAnd,TL.tOr,TL.tNot,tTrue,eAnd,eOr,eNot,eIf,aNil,aCons,eTup,eFz,eNew,eFrz,frzD,nLst,nCall,eCall,eCallF,eSl,oNone,oSome,nComp,nCompK,nCat,_an,_K,_L,_D,_M,_ao,_Q,nEmpty,nDisp,pNil,pCons,iVal,iRange1,iRange2,iEnumF,iZipF,iItemsF,kRange1,kRange2,kEnum,kZip,kItems,cellD,eMeth,startD,tgSet,tgSets,wipeD,_x,_E,_m,_r,_d,_e,_n,_s,_t,_a,_b,_i,_f,_g,_F,Nat.reduceAdd,Nat.reduceSub,Nat.reduceEqDiff,_ap,_R,_S,_N,_G,_aq,_ar,_as,_at,_au,_av,_aw,_ax,_ay,_az,_ba,_bo,_bp,_bq,_br,_bs,_ch,_T,_ci,_U,_bt,_V,_W,_bu,_bv,_bw,_bx,_by,_cj,_ck,_cl,_cm,_bb,_bc,_bd,_be,_X,_Y,_cn,_co,_cp,_cq,TL.keyOf,_cr,_bz,_bf,_bg,_Z,_bh,_j,_J,_H,_o,_y,_z,_A,_B,_w,_aa,_ab,_I,_h,_C,_k,_l,Int.reduceLT,Int.reduceLE,Int.reducePow,Int.reduceToNat,Int.reduceNeg,Int.reduceAdd,Int.reduceSub,Int.reduceMul,Nat.reduceLT,Nat.reduceLeDiff,Nat.reducePow,_c,_u,_v,_p,_q]
  refine feed_w (by omega) (by omega) fun c hc => ?_
  obtain ⟨a, b, rfl⟩ := hc
  have hf : FeedAt 0 (([] : Mu) ++ [some (.list [.int a, .int b])]) := ⟨a, b, rfl⟩
  have h1 : (([] : Mu) ++ [some (Cell.list [.int a, .int b])]).length = 1 := rfl
  show W (T1 [some (.script ns), some (.loc 0), none, none, none, none, none] ([some (Cell.list [.int a, .int b])])) _
  generalize ([some (Cell.list [.int a, .int b])] : Mu) = μ0 at hf h1 ⊢
  rw [← hT1]
  clear hT1 T1
  try simp -implicitDefEqProofs only [_bi,_cs,_ca,_ct,_bj,_cb,_bk,_bl,_cc,_cd,_ac,_ce,_ad,_ae,onBody,sNil,_cf,_af,_ag,_ah,_ai,sBk,sCt,sExpr,sRet,sRetN,sIf,sSet,sAsg,sAsgL,sPar2,sFor,sDel,eVar,eC,eBin,eUn,eT,boolOf,_aj,_O,_ak,_al,_P,_bm,_cg,_am,_bn,TL.tAnd,TL.tOr,TL.tNot,tTrue,eAnd,eOr,eNot,eIf,aNil,aCons,eTup,eFz,eNew,eFrz,frzD,nLst,nCall,eCall,eCallF,eSl,oNone,oSome,nComp,nCompK,nCat,_an,_K,_L,_D,_M,_ao,_Q,nEmpty,nDisp,pNil,pCons,iVal,iRange1,iRange2,iEnumF,iZipF,iItemsF,kRange1,kRange2,kEnum,kZip,kItems,cellD,eMeth,startD,tgSet,tgSets,wipeD,_x,_E,_m,_r,_d,_e,_n,_s,_t,_a,_b,_i,_f,_g,_F,Nat.reduceAdd,Nat.reduceSub,Nat.reduceEqDiff,_ap,_R,_S,_N,_G,_aq,_ar,_as,_at,_au,_av,_aw,_ax,_ay,_az,_ba,_bo,_bp,_bq,_br,_bs,_ch,_T,_ci,_U,_bt,_V,_W,_bu,_bv,_bw,_bx,_by,_cj,_ck,_cl,_cm,_bb,_bc,_bd,_be,_X,_Y,_cn,_co,_cp,_cq,TL.keyOf,_cr,_bz,_bf,_bg,_Z,_bh,_j,_J,_H,_o,_y,_z,_A,_B,_w,_aa,_ab,_I,_h,_C,_k,_l,Int.reduceLT,Int.reduceLE,Int.reducePow,Int.reduceToNat,Int.reduceNeg,Int.reduceAdd,Int.reduceSub,Int.reduceMul,Nat.reduceLT,Nat.reduceLeDiff,Nat.reducePow,_c,_u,_v,_p,_q]
  refine pick_w hf (by simp) (by simp) rfl fun q μ1 hq d1 => ?_
  have f1 := d1.at hf
  have l1 : μ1.length = 1 := d1.len.trans h1
  obtain ⟨n, rfl, hn⟩ : ∃ n : Str, q = .str n ∧ isNm n := by
    simp only [List.mem_cons, List.not_mem_nil, or_false] at hq
    rcases hq with rfl | rfl | rfl
    · exact ⟨_, rfl, .inl rfl⟩
    · exact ⟨_, rfl, .inr (.inl rfl)⟩
    · exact ⟨_, rfl, .inr (.inr rfl)⟩
  try simp -implicitDefEqProofs only [_bi,_cs,_ca,_ct,_bj,_cb,_bk,_bl,_cc,_cd,_ac,_ce,_ad,_ae,onBody,sNil,_cf,_af,_ag,_ah,_ai,sBk,sCt,sExpr,sRet,sRetN,sIf,sSet,sAsg,sAsgL,sPar2,sFor,sDel,eVar,eC,eBin,eUn,eT,boolOf,_aj,_O,_ak,_al,_P,_bm,_cg,_am,_bn,TL.tAnd,TL.tOr,TL.tNot,tTrue,eAnd,eOr,eNot,eIf,aNil,aCons,eTup,eFz,eNew,eFrz,frzD,nLst,nCall,eCall,eCallF,eSl,oNone,oSome,nComp,nCompK,nCat,_an,_K,_L,_D,_M,_ao,_Q,nEmpty,nDisp,pNil,pCons,iVal,iRange1,iRange2,iEnumF,iZipF,iItemsF,kRange1,kRange2,kEnum,kZip,kItems,cellD,eMeth,startD,tgSet,tgSets,wipeD,_x,_E,_m,_r,_d,_e,_n,_s,_t,_a,_b,_i,_f,_g,_F,Nat.reduceAdd,Nat.reduceSub,Nat.reduceEqDiff,_ap,_R,_S,_N,_G,_aq,_ar,_as,_at,_au,_av,_aw,_ax,_ay,_az,_ba,_bo,_bp,_bq,_br,_bs,_ch,_T,_ci,_U,_bt,_V,_W,_bu,_bv,_bw,_bx,_by,_cj,_ck,_cl,_cm,_bb,_bc,_bd,_be,_X,_Y,_cn,_co,_cp,_cq,TL.keyOf,_cr,_bz,_bf,_bg,_Z,_bh,_j,_J,_H,_o,_y,_z,_A,_B,_w,_aa,_ab,_I,_h,_C,_k,_l,Int.reduceLT,Int.reduceLE,Int.reducePow,Int.reduceToNat,Int.reduceNeg,Int.reduceAdd,Int.reduceSub,Int.reduceMul,Nat.reduceLT,Nat.reduceLeDiff,Nat.reducePow,_c,_u,_v,_p,_q]
  rw [← hT2]
  clear hT2 T2
  try simp -implicitDefEqProofs only [_bi,_cs,_ca,_ct,_bj,_cb,_bk,_bl,_cc,_cd,_ac,_ce,_ad,_ae,onBody,sNil,_cf,_af,_ag,_ah,_ai,sBk,sCt,sExpr,sRet,sRetN,sIf,sSet,sAsg,sAsgL,sPar2,sFor,sDel,eVar,eC,eBin,eUn,eT,boolOf,_aj,_O,_ak,_al,_P,_bm,_cg,_am,_bn,TL.tAnd,TL.tOr,TL.tNot,tTrue,eAnd,eOr,eNot,eIf,aNil,aCons,eTup,eFz,eNew,eFrz,frzD,nLst,nCall,eCall,eCallF,eSl,oNone,oSome,nComp,nCompK,nCat,_an,_K,_L,_D,_M,_ao,_Q,nEmpty,nDisp,pNil,pCons,iVal,iRange1,iRange2,iEnumF,iZipF,iItemsF,kRange1,kRange2,kEnum,kZip,kItems,cellD,eMeth,startD,tgSet,tgSets,wipeD,_x,_E,_m,_r,_d,_e,_n,_s,_t,_a,_b,_i,_f,_g,_F,Nat.reduceAdd,Nat.reduceSub,Nat.reduceEqDiff,_ap,_R,_S,_N,_G,_aq,_ar,_as,_at,_au,_av,_aw,_ax,_ay,_az,_ba,_bo,_bp,_bq,_br,_bs,_ch,_T,_ci,_U,_bt,_V,_W,_bu,_bv,_bw,_bx,_by,_cj,_ck,_cl,_cm,_bb,_bc,_bd,_be,_X,_Y,_cn,_co,_cp,_cq,TL.keyOf,_cr,_bz,_bf,_bg,_Z,_bh,_j,_J,_H,_o,_y,_z,_A,_B,_w,_aa,_ab,_I,_h,_C,_k,_l,Int.reduceLT,Int.reduceLE,Int.reducePow,Int.reduceToNat,Int.reduceNeg,Int.reduceAdd,Int.reduceSub,Int.reduceMul,Nat.reduceLT,Nat.reduceLeDiff,Nat.reducePow,_c,_u,_v,_p,_q]
  refine take_w f1 (by decide) (by decide) fun r μ2 r0 r1 d2 => ?_
  have f2 := d2.at f1
  have l2 : μ2.length = 1 := d2.len.trans l1
  try simp -implicitDefEqProofs only [_bi,_cs,_ca,_ct,_bj,_cb,_bk,_bl,_cc,_cd,_ac,_ce,_ad,_ae,onBody,sNil,_cf,_af,_ag,_ah,_ai,sBk,sCt,sExpr,sRet,sRetN,sIf,sSet,sAsg,sAsgL,sPar2,sFor,sDel,eVar,eC,eBin,eUn,eT,boolOf,_aj,_O,_ak,_al,_P,_bm,_cg,_am,_bn,TL.tAnd,TL.tOr,TL.tNot,tTrue,eAnd,eOr,eNot,eIf,aNil,aCons,eTup,eFz,eNew,eFrz,frzD,nLst,nCall,eCall,eCallF,eSl,oNone,oSome,nComp,nCompK,nCat,_an,_K,_L,_D,_M,_ao,_Q,nEmpty,nDisp,pNil,pCons,iVal,iRange1,iRange2,iEnumF,iZipF,iItemsF,kRange1,kRange2,kEnum,kZip,kItems,cellD,eMeth,startD,tgSet,tgSets,wipeD,_x,_E,_m,_r,_d,_e,_n,_s,_t,_a,_b,_i,_f,_g,_F,Nat.reduceAdd,Nat.reduceSub,Nat.reduceEqDiff,_ap,_R,_S,_N,_G,_aq,_ar,_as,_at,_au,_av,_aw,_ax,_ay,_az,_ba,_bo,_bp,_bq,_br,_bs,_ch,_T,_ci,_U,_bt,_V,_W,_bu,_bv,_bw,_bx,_by,_cj,_ck,_cl,_cm,_bb,_bc,_bd,_be,_X,_Y,_cn,_co,_cp,_cq,TL.keyOf,_cr,_bz,_bf,_bg,_Z,_bh,_j,_J,_H,_o,_y,_z,_A,_B,_w,_aa,_ab,_I,_h,_C,_k,_l,Int.reduceLT,Int.reduceLE,Int.reducePow,Int.reduceToNat,Int.reduceNeg,Int.reduceAdd,Int.reduceSub,Int.reduceMul,Nat.reduceLT,Nat.reduceLeDiff,Nat.reducePow,_c,_u,_v,_p,_q]
  rw [← hT3]
  clear hT3 T3
  try simp -implicitDefEqProofs only [_bi,_cs,_ca,_ct,_bj,_cb,_bk,_bl,_cc,_cd,_ac,_ce,_ad,_ae,onBody,sNil,_cf,_af,_ag,_ah,_ai,sBk,sCt,sExpr,sRet,sRetN,sIf,sSet,sAsg,sAsgL,sPar2,sFor,sDel,eVar,eC,eBin,eUn,eT,boolOf,_aj,_O,_ak,_al,_P,_bm,_cg,_am,_bn,TL.tAnd,TL.tOr,TL.tNot,tTrue,eAnd,eOr,eNot,eIf,aNil,aCons,eTup,eFz,eNew,eFrz,frzD,nLst,nCall,eCall,eCallF,eSl,oNone,oSome,nComp,nCompK,nCat,_an,_K,_L,_D,_M,_ao,_Q,nEmpty,nDisp,pNil,pCons,iVal,iRange1,iRange2,iEnumF,iZipF,iItemsF,kRange1,kRange2,kEnum,kZip,kItems,cellD,eMeth,startD,tgSet,tgSets,wipeD,_x,_E,_m,_r,_d,_e,_n,_s,_t,_a,_b,_i,_f,_g,_F,Nat.reduceAdd,Nat.reduceSub,Nat.reduceEqDiff,_ap,_R,_S,_N,_G,_aq,_ar,_as,_at,_au,_av,_aw,_ax,_ay,_az,_ba,_bo,_bp,_bq,_br,_bs,_ch,_T,_ci,_U,_bt,_V,_W,_bu,_bv,_bw,_bx,_by,_cj,_ck,_cl,_cm,_bb,_bc,_bd,_be,_X,_Y,_cn,_co,_cp,_cq,TL.keyOf,_cr,_bz,_bf,_bg,_Z,_bh,_j,_J,_H,_o,_y,_z,_A,_B,_w,_aa,_ab,_I,_h,_C,_k,_l,Int.reduceLT,Int.reduceLE,Int.reducePow,Int.reduceToNat,Int.reduceNeg,Int.reduceAdd,Int.reduceSub,Int.reduceMul,Nat.reduceLT,Nat.reduceLeDiff,Nat.reducePow,_c,_u,_v,_p,_q]
  refine take_w f2 (by omega) (by omega) fun z μ3 z0 z1 d3 => ?_
  have f3 := d3.at f2
  have l3 : μ3.length = 1 := d3.len.trans l2
  obtain ⟨x, y, rfl⟩ := fdC_of f3 l3
  have t2 := two19 hn (l := 1 + r) (h := 1 + r + 1 + z) (by omega) (by omega) (by omega) x y
  have op := open19 hn x y
  have rw_ := fun {P} h => rows_w hn (a := x) (b := y) (P := P) h
  have k10 : D.dict [(Sum.inr n, .tuple [.int 5, .int 10])] = kD19 n 10 := rfl
  have k15 : D.dict [(Sum.inr n, .tuple [.int 5, .int 15])] = kD19 n 15 := rfl
  have a1 : ∀ ν, gAdd ν (trues 11) (trues 11) = some (trues 22) := fun ν => by kernel_rfl
  have a2 : ∀ ν, gAdd ν (trues 22) (trues 5) = some (trues 27) := fun ν => by kernel_rfl
  have wl : ∀ ν, walked ν (trues 27) = some ⟨List.replicate 27 (.bool true), yes⟩ := fun ν => rfl
  have en : ∀ ν, gEqE ν (.list []) (.list []) = some (.bool true) := fun ν => by rfl
  generalize trues 11 = T11 at *
  generalize trues 22 = T22 at *
  generalize trues 27 = T27 at *
  generalize hK1 : kD19 n 10 = K1 at *
  generalize hK2 : kD19 n 15 = K2 at *
  try simp -implicitDefEqProofs only [_bi,_cs,_ca,_ct,_bj,_cb,_bk,_bl,_cc,_cd,_ac,_ce,_ad,_ae,onBody,sNil,_cf,_af,_ag,_ah,_ai,sBk,sCt,sExpr,sRet,sRetN,sIf,sSet,sAsg,sAsgL,sPar2,sFor,sDel,eVar,eC,eBin,eUn,eT,boolOf,_aj,_O,_ak,_al,_P,_bm,_cg,_am,_bn,TL.tAnd,TL.tOr,TL.tNot,tTrue,eAnd,eOr,eNot,eIf,aNil,aCons,eTup,eFz,eNew,eFrz,frzD,nLst,nCall,eCall,eCallF,eSl,oNone,oSome,nComp,nCompK,nCat,_an,_K,_L,_D,_M,_ao,_Q,nEmpty,nDisp,pNil,pCons,iVal,iRange1,iRange2,iEnumF,iZipF,iItemsF,kRange1,kRange2,kEnum,kZip,kItems,cellD,eMeth,startD,tgSet,tgSets,wipeD,_x,_E,_m,_r,_d,_e,_n,_s,_t,_a,_b,_i,_f,_g,_F,Nat.reduceAdd,Nat.reduceSub,Nat.reduceEqDiff,_ap,_R,_S,_N,_G,_aq,_ar,_as,_at,_au,_av,_aw,_ax,_ay,_az,_ba,_bo,_bp,_bq,_br,_bs,_ch,_T,_ci,_U,_bt,_V,_W,_bu,_bv,_bw,_bx,_by,_cj,_ck,_cl,_cm,_bb,_bc,_bd,_be,_X,_Y,_cn,_co,_cp,_cq,TL.keyOf,_cr,_bz,_bf,_bg,_Z,_bh,_j,_J,_H,_o,_y,_z,_A,_B,_w,_aa,_ab,_I,_h,_C,_k,_l,Int.reduceLT,Int.reduceLE,Int.reducePow,Int.reduceToNat,Int.reduceNeg,Int.reduceAdd,Int.reduceSub,Int.reduceMul,Nat.reduceLT,Nat.reduceLeDiff,Nat.reducePow,_c,_u,_v,_p,_q]
  rw [← hT4]
  clear hT4 T4
  simp -implicitDefEqProofs only [k10, t2, op, a1, _bi,_cs,_ca,_ct,_bj,_cb,_bk,_bl,_cc,_cd,_ac,_ce,_ad,_ae,onBody,sNil,_cf,_af,_ag,_ah,_ai,sBk,sCt,sExpr,sRet,sRetN,sIf,sSet,sAsg,sAsgL,sPar2,sFor,sDel,eVar,eC,eBin,eUn,eT,boolOf,_aj,_O,_ak,_al,_P,_bm,_cg,_am,_bn,TL.tAnd,TL.tOr,TL.tNot,tTrue,eAnd,eOr,eNot,eIf,aNil,aCons,eTup,eFz,eNew,eFrz,frzD,nLst,nCall,eCall,eCallF,eSl,oNone,oSome,nComp,nCompK,nCat,_an,_K,_L,_D,_M,_ao,_Q,nEmpty,nDisp,pNil,pCons,iVal,iRange1,iRange2,iEnumF,iZipF,iItemsF,kRange1,kRange2,kEnum,kZip,kItems,cellD,eMeth,startD,tgSet,tgSets,wipeD,_x,_E,_m,_r,_d,_e,_n,_s,_t,_a,_b,_i,_f,_g,_F,Nat.reduceAdd,Nat.reduceSub,Nat.reduceEqDiff,_ap,_R,_S,_N,_G,_aq,_ar,_as,_at,_au,_av,_aw,_ax,_ay,_az,_ba,_bo,_bp,_bq,_br,_bs,_ch,_T,_ci,_U,_bt,_V,_W,_bu,_bv,_bw,_bx,_by,_cj,_ck,_cl,_cm,_bb,_bc,_bd,_be,_X,_Y,_cn,_co,_cp,_cq,TL.keyOf,_cr,_bz,_bf,_bg,_Z,_bh,_j,_J,_H,_o,_y,_z,_A,_B,_w,_aa,_ab,_I,_h,_C,_k,_l,Int.reduceLT,Int.reduceLE,Int.reducePow,Int.reduceToNat,Int.reduceNeg,Int.reduceAdd,Int.reduceSub,Int.reduceMul,Nat.reduceLT,Nat.reduceLeDiff,Nat.reducePow,_c,_u,_v,_p,_q]
  rw [← hT5]
  clear hT5 T5
  simp -implicitDefEqProofs only [k15, _bi,_cs,_ca,_ct,_bj,_cb,_bk,_bl,_cc,_cd,_ac,_ce,_ad,_ae,onBody,sNil,_cf,_af,_ag,_ah,_ai,sBk,sCt,sExpr,sRet,sRetN,sIf,sSet,sAsg,sAsgL,sPar2,sFor,sDel,eVar,eC,eBin,eUn,eT,boolOf,_aj,_O,_ak,_al,_P,_bm,_cg,_am,_bn,TL.tAnd,TL.tOr,TL.tNot,tTrue,eAnd,eOr,eNot,eIf,aNil,aCons,eTup,eFz,eNew,eFrz,frzD,nLst,nCall,eCall,eCallF,eSl,oNone,oSome,nComp,nCompK,nCat,_an,_K,_L,_D,_M,_ao,_Q,nEmpty,nDisp,pNil,pCons,iVal,iRange1,iRange2,iEnumF,iZipF,iItemsF,kRange1,kRange2,kEnum,kZip,kItems,cellD,eMeth,startD,tgSet,tgSets,wipeD,_x,_E,_m,_r,_d,_e,_n,_s,_t,_a,_b,_i,_f,_g,_F,Nat.reduceAdd,Nat.reduceSub,Nat.reduceEqDiff,_ap,_R,_S,_N,_G,_aq,_ar,_as,_at,_au,_av,_aw,_ax,_ay,_az,_ba,_bo,_bp,_bq,_br,_bs,_ch,_T,_ci,_U,_bt,_V,_W,_bu,_bv,_bw,_bx,_by,_cj,_ck,_cl,_cm,_bb,_bc,_bd,_be,_X,_Y,_cn,_co,_cp,_cq,TL.keyOf,_cr,_bz,_bf,_bg,_Z,_bh,_j,_J,_H,_o,_y,_z,_A,_B,_w,_aa,_ab,_I,_h,_C,_k,_l,Int.reduceLT,Int.reduceLE,Int.reducePow,Int.reduceToNat,Int.reduceNeg,Int.reduceAdd,Int.reduceSub,Int.reduceMul,Nat.reduceLT,Nat.reduceLeDiff,Nat.reducePow,_c,_u,_v,_p,_q]
  refine rw_ fun x y => ?_
  generalize trues 5 = T5 at *
  simp -implicitDefEqProofs only [a2, _bi,_cs,_ca,_ct,_bj,_cb,_bk,_bl,_cc,_cd,_ac,_ce,_ad,_ae,onBody,sNil,_cf,_af,_ag,_ah,_ai,sBk,sCt,sExpr,sRet,sRetN,sIf,sSet,sAsg,sAsgL,sPar2,sFor,sDel,eVar,eC,eBin,eUn,eT,boolOf,_aj,_O,_ak,_al,_P,_bm,_cg,_am,_bn,TL.tAnd,TL.tOr,TL.tNot,tTrue,eAnd,eOr,eNot,eIf,aNil,aCons,eTup,eFz,eNew,eFrz,frzD,nLst,nCall,eCall,eCallF,eSl,oNone,oSome,nComp,nCompK,nCat,_an,_K,_L,_D,_M,_ao,_Q,nEmpty,nDisp,pNil,pCons,iVal,iRange1,iRange2,iEnumF,iZipF,iItemsF,kRange1,kRange2,kEnum,kZip,kItems,cellD,eMeth,startD,tgSet,tgSets,wipeD,_x,_E,_m,_r,_d,_e,_n,_s,_t,_a,_b,_i,_f,_g,_F,Nat.reduceAdd,Nat.reduceSub,Nat.reduceEqDiff,_ap,_R,_S,_N,_G,_aq,_ar,_as,_at,_au,_av,_aw,_ax,_ay,_az,_ba,_bo,_bp,_bq,_br,_bs,_ch,_T,_ci,_U,_bt,_V,_W,_bu,_bv,_bw,_bx,_by,_cj,_ck,_cl,_cm,_bb,_bc,_bd,_be,_X,_Y,_cn,_co,_cp,_cq,TL.keyOf,_cr,_bz,_bf,_bg,_Z,_bh,_j,_J,_H,_o,_y,_z,_A,_B,_w,_aa,_ab,_I,_h,_C,_k,_l,Int.reduceLT,Int.reduceLE,Int.reducePow,Int.reduceToNat,Int.reduceNeg,Int.reduceAdd,Int.reduceSub,Int.reduceMul,Nat.reduceLT,Nat.reduceLeDiff,Nat.reducePow,_c,_u,_v,_p,_q]
  rw [← hT6]
  clear hT6 T6
  simp -implicitDefEqProofs only [wl, _bi,_cs,_ca,_ct,_bj,_cb,_bk,_bl,_cc,_cd,_ac,_ce,_ad,_ae,onBody,sNil,_cf,_af,_ag,_ah,_ai,sBk,sCt,sExpr,sRet,sRetN,sIf,sSet,sAsg,sAsgL,sPar2,sFor,sDel,eVar,eC,eBin,eUn,eT,boolOf,_aj,_O,_ak,_al,_P,_bm,_cg,_am,_bn,TL.tAnd,TL.tOr,TL.tNot,tTrue,eAnd,eOr,eNot,eIf,aNil,aCons,eTup,eFz,eNew,eFrz,frzD,nLst,nCall,eCall,eCallF,eSl,oNone,oSome,nComp,nCompK,nCat,_an,_K,_L,_D,_M,_ao,_Q,nEmpty,nDisp,pNil,pCons,iVal,iRange1,iRange2,iEnumF,iZipF,iItemsF,kRange1,kRange2,kEnum,kZip,kItems,cellD,eMeth,startD,tgSet,tgSets,wipeD,_x,_E,_m,_r,_d,_e,_n,_s,_t,_a,_b,_i,_f,_g,_F,Nat.reduceAdd,Nat.reduceSub,Nat.reduceEqDiff,_ap,_R,_S,_N,_G,_aq,_ar,_as,_at,_au,_av,_aw,_ax,_ay,_az,_ba,_bo,_bp,_bq,_br,_bs,_ch,_T,_ci,_U,_bt,_V,_W,_bu,_bv,_bw,_bx,_by,_cj,_ck,_cl,_cm,_bb,_bc,_bd,_be,_X,_Y,_cn,_co,_cp,_cq,TL.keyOf,_cr,_bz,_bf,_bg,_Z,_bh,_j,_J,_H,_o,_y,_z,_A,_B,_w,_aa,_ab,_I,_h,_C,_k,_l,Int.reduceLT,Int.reduceLE,Int.reducePow,Int.reduceToNat,Int.reduceNeg,Int.reduceAdd,Int.reduceSub,Int.reduceMul,Nat.reduceLT,Nat.reduceLeDiff,Nat.reducePow,_c,_u,_v,_p,_q]
  refine W.of_eq (d := []) (μ := fdC x y) (by kernel_rfl) ?_
  simp -implicitDefEqProofs only [en, _bi,_cs,_ca,_ct,_bj,_cb,_bk,_bl,_cc,_cd,_ac,_ce,_ad,_ae,onBody,sNil,_cf,_af,_ag,_ah,_ai,sBk,sCt,sExpr,sRet,sRetN,sIf,sSet,sAsg,sAsgL,sPar2,sFor,sDel,eVar,eC,eBin,eUn,eT,boolOf,_aj,_O,_ak,_al,_P,_bm,_cg,_am,_bn,TL.tAnd,TL.tOr,TL.tNot,tTrue,eAnd,eOr,eNot,eIf,aNil,aCons,eTup,eFz,eNew,eFrz,frzD,nLst,nCall,eCall,eCallF,eSl,oNone,oSome,nComp,nCompK,nCat,_an,_K,_L,_D,_M,_ao,_Q,nEmpty,nDisp,pNil,pCons,iVal,iRange1,iRange2,iEnumF,iZipF,iItemsF,kRange1,kRange2,kEnum,kZip,kItems,cellD,eMeth,startD,tgSet,tgSets,wipeD,_x,_E,_m,_r,_d,_e,_n,_s,_t,_a,_b,_i,_f,_g,_F,Nat.reduceAdd,Nat.reduceSub,Nat.reduceEqDiff,_ap,_R,_S,_N,_G,_aq,_ar,_as,_at,_au,_av,_aw,_ax,_ay,_az,_ba,_bo,_bp,_bq,_br,_bs,_ch,_T,_ci,_U,_bt,_V,_W,_bu,_bv,_bw,_bx,_by,_cj,_ck,_cl,_cm,_bb,_bc,_bd,_be,_X,_Y,_cn,_co,_cp,_cq,TL.keyOf,_cr,_bz,_bf,_bg,_Z,_bh,_j,_J,_H,_o,_y,_z,_A,_B,_w,_aa,_ab,_I,_h,_C,_k,_l,Int.reduceLT,Int.reduceLE,Int.reducePow,Int.reduceToNat,Int.reduceNeg,Int.reduceAdd,Int.reduceSub,Int.reduceMul,Nat.reduceLT,Nat.reduceLeDiff,Nat.reducePow,_c,_u,_v,_p,_q]
  exact W_ret (by simp [chkMu, fdC]) rfl ⟨rfl, by simp⟩

end GP

open PySem PySem.W PyProof.Rows TL in
set_option maxRecDepth 100000 in
set_option maxHeartbeats 0 in
theorem PySem.Challenge.cw_gatepairs_k19_known_trusts_and_repairs_holds : PySem.Challenge.rw_gatepairs_k19_known_trusts_and_repairs.Holds := by
  w_on; o_law; k_head; (case hw => w_witness2)
  k_fill
  refine TL.walk_end (l := PySem.Challenge.rw_gatepairs_k19_known_trusts_and_repairs) (n := 63) (k := 8) (x := "script") (F := GP.c_law) (by decide +kernel) rfl (by decide) rfl ⟨rfl, by decide, by decide⟩ (fun w h Y => PySem.W.kIn_of Y) ?F fun ns hl => GP.law_true ns hl
  case F =>
    intro w mg fa h KX G hmg
    refine' GP.all_mk KX G hmg ?a0 ?l0 ?c0 ?k0 ?a1 ?l1 ?c1 ?k1 ?a2 ?l2 ?c2 ?k2 ?w3 ?a3 ?i3 ?l3 ?c3 ?k3 ?u3 ?v3 ?p3 ?s3 ?m3 ?q3 ?n3_must ?n3_neighbours ?n3_trust_of ?a4 ?l4 ?c4 ?k4 ?a5 ?l5 ?c5 ?k5 ?a6 ?l6 ?c6 ?k6 ?a7 ?l7 ?c7 ?k7 ?w8 ?a8 ?i8 ?l8 ?c8 ?k8 ?u8 ?v8 ?p8 ?s8 ?m8 ?q8 ?n8_entries_of ?n8_exits_of ?n8_must_entries ?n8_must_exits ?w9 ?a9 ?i9 ?l9 ?c9 ?k9 ?u9 ?v9 ?p9 ?s9 ?m9 ?q9 ?n9_entries_of ?n9_exits_of ?n9_must_entries ?n9_must_exits ?a10 ?l10 ?c10 ?k10 ?w11 ?a11 ?i11 ?l11 ?c11 ?k11 ?u11 ?v11 ?p11 ?s11 ?m11 ?q11 ?n11_must ?n11_neighbours ?n11_trust_of ?w12 ?a12 ?i12 ?l12 ?c12 ?k12 ?u12 ?v12 ?p12 ?s12 ?m12 ?q12 ?n12_must ?n12_neighbours ?n12_trust_of ?a13 ?l13 ?c13 ?k13 ?w14 ?a14 ?i14 ?l14 ?c14 ?k14 ?u14 ?v14 ?p14 ?s14 ?m14 ?q14 ?n14_must ?n14_neighbours ?n14_trust_of ?w15 ?a15 ?i15 ?l15 ?c15 ?k15 ?u15 ?v15 ?p15 ?s15 ?m15 ?q15 ?n15_must ?n15_neighbours ?n15_trust_of ?a16 ?l16 ?c16 ?k16 ?a17 ?l17 ?c17 ?k17 ?a18 ?l18 ?c18 ?k18 ?a19 ?l19 ?c19 ?k19 ?a20 ?l20 ?c20 ?k20 ?a21 ?l21 ?c21 ?k21 ?a22 ?l22 ?c22 ?k22 ?a23 ?l23 ?c23 ?k23 ?a24 ?l24 ?c24 ?k24 ?a25 ?l25 ?c25 ?k25 ?a26 ?l26 ?c26 ?k26 ?w27 ?a27 ?i27 ?l27 ?c27 ?k27 ?u27 ?v27 ?p27 ?s27 ?m27 ?q27 ?n27_must ?n27_neighbours ?n27_trust_of ?w28 ?a28 ?i28 ?l28 ?c28 ?k28 ?u28 ?v28 ?p28 ?s28 ?m28 ?q28 ?n28_must ?n28_neighbours ?n28_trust_of ?a29 ?l29 ?c29 ?k29 ?a30 ?l30 ?c30 ?k30 ?w31 ?a31 ?i31 ?l31 ?c31 ?k31 ?u31 ?v31 ?p31 ?s31 ?m31 ?q31 ?n31_must ?n31_neighbours ?n31_trust_of ?a32 ?l32 ?c32 ?k32 ?a33 ?l33 ?c33 ?k33 ?a34 ?l34 ?c34 ?k34 ?a35 ?l35 ?c35 ?k35 ?w36 ?a36 ?i36 ?l36 ?c36 ?k36 ?u36 ?v36 ?p36 ?s36 ?m36 ?q36 ?n36_must ?n36_neighbours ?n36_trust_of ?a37 ?l37 ?c37 ?k37 ?a38 ?l38 ?c38 ?k38 ?a39 ?l39 ?c39 ?k39 ?a40 ?l40 ?c40 ?k40 ?a41 ?l41 ?c41 ?k41 ?a42 ?l42 ?c42 ?k42 ?a43 ?l43 ?c43 ?k43 ?a44 ?l44 ?c44 ?k44 ?z_abs ?z_all ?z_any ?z_bool ?z_dict ?z_enumerate ?z_int ?z_isinstance ?z_len ?z_list ?z_max ?z_min ?z_range ?z_set ?z_sorted ?z_tuple ?z_zip ?y_MAX_TRUST ?r_MAX_TRUST ?y_CLOSED ?r_CLOSED ?y_MAX_TIME ?r_MAX_TIME ?y_GATES ?k_GATES ?v_GATES
    (case a0 => k_is)
    (case l0 => k_is)
    (case c0 => k_is)
    (case k0 => k_is)
    (case a1 => k_is)
    (case l1 => k_is)
    (case c1 => k_is)
    (case k1 => k_is)
    (case a2 => k_is)
    (case l2 => k_is)
    (case c2 => k_is)
    (case k2 => k_is)
    (case w3 => k_is)
    (case a3 => k_is)
    (case i3 => k_is)
    (case l3 => k_is)
    (case c3 => k_is)
    (case k3 => k_is)
    (case u3 => k_is)
    (case v3 => k_is)
    (case p3 => k_is)
    (case s3 => k_is)
    (case m3 => k_is)
    (case q3 => k_is)
    (case n3_must => k_is)
    (case n3_neighbours => k_is)
    (case n3_trust_of => k_is)
    (case a4 => k_is)
    (case l4 => k_is)
    (case c4 => k_is)
    (case k4 => k_is)
    (case a5 => k_is)
    (case l5 => k_is)
    (case c5 => k_is)
    (case k5 => k_is)
    (case a6 => k_is)
    (case l6 => k_is)
    (case c6 => k_is)
    (case k6 => k_is)
    (case a7 => k_is)
    (case l7 => k_is)
    (case c7 => k_is)
    (case k7 => k_is)
    (case w8 => k_is)
    (case a8 => k_is)
    (case i8 => k_is)
    (case l8 => k_is)
    (case c8 => k_is)
    (case k8 => k_is)
    (case u8 => k_is)
    (case v8 => k_is)
    (case p8 => k_is)
    (case s8 => k_is)
    (case m8 => k_is)
    (case q8 => k_is)
    (case n8_entries_of => k_is)
    (case n8_exits_of => k_is)
    (case n8_must_entries => k_is)
    (case n8_must_exits => k_is)
    (case w9 => k_is)
    (case a9 => k_is)
    (case i9 => k_is)
    (case l9 => k_is)
    (case c9 => k_is)
    (case k9 => k_is)
    (case u9 => k_is)
    (case v9 => k_is)
    (case p9 => k_is)
    (case s9 => k_is)
    (case m9 => k_is)
    (case q9 => k_is)
    (case n9_entries_of => k_is)
    (case n9_exits_of => k_is)
    (case n9_must_entries => k_is)
    (case n9_must_exits => k_is)
    (case a10 => k_is)
    (case l10 => k_is)
    (case c10 => k_is)
    (case k10 => k_is)
    (case w11 => k_is)
    (case a11 => k_is)
    (case i11 => k_is)
    (case l11 => k_is)
    (case c11 => k_is)
    (case k11 => k_is)
    (case u11 => k_is)
    (case v11 => k_is)
    (case p11 => k_is)
    (case s11 => k_is)
    (case m11 => k_is)
    (case q11 => k_is)
    (case n11_must => k_is)
    (case n11_neighbours => k_is)
    (case n11_trust_of => k_is)
    (case w12 => k_is)
    (case a12 => k_is)
    (case i12 => k_is)
    (case l12 => k_is)
    (case c12 => k_is)
    (case k12 => k_is)
    (case u12 => k_is)
    (case v12 => k_is)
    (case p12 => k_is)
    (case s12 => k_is)
    (case m12 => k_is)
    (case q12 => k_is)
    (case n12_must => k_is)
    (case n12_neighbours => k_is)
    (case n12_trust_of => k_is)
    (case a13 => k_is)
    (case l13 => k_is)
    (case c13 => k_is)
    (case k13 => k_is)
    (case w14 => k_is)
    (case a14 => k_is)
    (case i14 => k_is)
    (case l14 => k_is)
    (case c14 => k_is)
    (case k14 => k_is)
    (case u14 => k_is)
    (case v14 => k_is)
    (case p14 => k_is)
    (case s14 => k_is)
    (case m14 => k_is)
    (case q14 => k_is)
    (case n14_must => k_is)
    (case n14_neighbours => k_is)
    (case n14_trust_of => k_is)
    (case w15 => k_is)
    (case a15 => k_is)
    (case i15 => k_is)
    (case l15 => k_is)
    (case c15 => k_is)
    (case k15 => k_is)
    (case u15 => k_is)
    (case v15 => k_is)
    (case p15 => k_is)
    (case s15 => k_is)
    (case m15 => k_is)
    (case q15 => k_is)
    (case n15_must => k_is)
    (case n15_neighbours => k_is)
    (case n15_trust_of => k_is)
    (case a16 => k_is)
    (case l16 => k_is)
    (case c16 => k_is)
    (case k16 => k_is)
    (case a17 => k_is)
    (case l17 => k_is)
    (case c17 => k_is)
    (case k17 => k_is)
    (case a18 => k_is)
    (case l18 => k_is)
    (case c18 => k_is)
    (case k18 => k_is)
    (case a19 => k_is)
    (case l19 => k_is)
    (case c19 => k_is)
    (case k19 => k_is)
    (case a20 => k_is)
    (case l20 => k_is)
    (case c20 => k_is)
    (case k20 => k_is)
    (case a21 => k_is)
    (case l21 => k_is)
    (case c21 => k_is)
    (case k21 => k_is)
    (case a22 => k_is)
    (case l22 => k_is)
    (case c22 => k_is)
    (case k22 => k_is)
    (case a23 => k_is)
    (case l23 => k_is)
    (case c23 => k_is)
    (case k23 => k_is)
    (case a24 => k_is)
    (case l24 => k_is)
    (case c24 => k_is)
    (case k24 => k_is)
    (case a25 => k_is)
    (case l25 => k_is)
    (case c25 => k_is)
    (case k25 => k_is)
    (case a26 => k_is)
    (case l26 => k_is)
    (case c26 => k_is)
    (case k26 => k_is)
    (case w27 => k_is)
    (case a27 => k_is)
    (case i27 => k_is)
    (case l27 => k_is)
    (case c27 => k_is)
    (case k27 => k_is)
    (case u27 => k_is)
    (case v27 => k_is)
    (case p27 => k_is)
    (case s27 => k_is)
    (case m27 => k_is)
    (case q27 => k_is)
    (case n27_must => k_is)
    (case n27_neighbours => k_is)
    (case n27_trust_of => k_is)
    (case w28 => k_is)
    (case a28 => k_is)
    (case i28 => k_is)
    (case l28 => k_is)
    (case c28 => k_is)
    (case k28 => k_is)
    (case u28 => k_is)
    (case v28 => k_is)
    (case p28 => k_is)
    (case s28 => k_is)
    (case m28 => k_is)
    (case q28 => k_is)
    (case n28_must => k_is)
    (case n28_neighbours => k_is)
    (case n28_trust_of => k_is)
    (case a29 => k_is)
    (case l29 => k_is)
    (case c29 => k_is)
    (case k29 => k_is)
    (case a30 => k_is)
    (case l30 => k_is)
    (case c30 => k_is)
    (case k30 => k_is)
    (case w31 => k_is)
    (case a31 => k_is)
    (case i31 => k_is)
    (case l31 => k_is)
    (case c31 => k_is)
    (case k31 => k_is)
    (case u31 => k_is)
    (case v31 => k_is)
    (case p31 => k_is)
    (case s31 => k_is)
    (case m31 => k_is)
    (case q31 => k_is)
    (case n31_must => k_is)
    (case n31_neighbours => k_is)
    (case n31_trust_of => k_is)
    (case a32 => k_is)
    (case l32 => k_is)
    (case c32 => k_is)
    (case k32 => k_is)
    (case a33 => k_is)
    (case l33 => k_is)
    (case c33 => k_is)
    (case k33 => k_is)
    (case a34 => k_is)
    (case l34 => k_is)
    (case c34 => k_is)
    (case k34 => k_is)
    (case a35 => k_is)
    (case l35 => k_is)
    (case c35 => k_is)
    (case k35 => k_is)
    (case w36 => k_is)
    (case a36 => k_is)
    (case i36 => k_is)
    (case l36 => k_is)
    (case c36 => k_is)
    (case k36 => k_is)
    (case u36 => k_is)
    (case v36 => k_is)
    (case p36 => k_is)
    (case s36 => k_is)
    (case m36 => k_is)
    (case q36 => k_is)
    (case n36_must => k_is)
    (case n36_neighbours => k_is)
    (case n36_trust_of => k_is)
    (case a37 => k_is)
    (case l37 => k_is)
    (case c37 => k_is)
    (case k37 => k_is)
    (case a38 => k_is)
    (case l38 => k_is)
    (case c38 => k_is)
    (case k38 => k_is)
    (case a39 => k_is)
    (case l39 => k_is)
    (case c39 => k_is)
    (case k39 => k_is)
    (case a40 => k_is)
    (case l40 => k_is)
    (case c40 => k_is)
    (case k40 => k_is)
    (case a41 => k_is)
    (case l41 => k_is)
    (case c41 => k_is)
    (case k41 => k_is)
    (case a42 => k_is)
    (case l42 => k_is)
    (case c42 => k_is)
    (case k42 => k_is)
    (case a43 => k_is)
    (case l43 => k_is)
    (case c43 => k_is)
    (case k43 => k_is)
    (case a44 => k_is)
    (case l44 => k_is)
    (case c44 => k_is)
    (case k44 => k_is)
    (case z_abs => k_is)
    (case z_all => k_is)
    (case z_any => k_is)
    (case z_bool => k_is)
    (case z_dict => k_is)
    (case z_enumerate => k_is)
    (case z_int => k_is)
    (case z_isinstance => k_is)
    (case z_len => k_is)
    (case z_list => k_is)
    (case z_max => k_is)
    (case z_min => k_is)
    (case z_range => k_is)
    (case z_set => k_is)
    (case z_sorted => k_is)
    (case z_tuple => k_is)
    (case z_zip => k_is)
    (case y_MAX_TRUST => k_is)
    (case r_MAX_TRUST => first | exact rfl | exact ⟨_, rfl⟩)
    (case y_CLOSED => k_is)
    (case r_CLOSED => first | exact rfl | exact ⟨_, rfl⟩)
    (case y_MAX_TIME => k_is)
    (case r_MAX_TIME => first | exact rfl | exact ⟨_, rfl⟩)
    (case y_GATES => k_is)
    (case k_GATES => k_is)
    (case v_GATES => exact .cons ⟨_, rfl⟩ (.cons ⟨_, rfl⟩ (.nil)))
