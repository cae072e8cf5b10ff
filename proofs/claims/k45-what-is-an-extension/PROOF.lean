import PyProof.Rows.All
import Wide.All
import OpenK.AllK
import Wide.FinOn
import HandS.ForMost
import HandS.ForExc
import HandS.Walk
import HandS.Flow
import HandS.TupAny
import HandS.IsInst
import HandS.Style
import HandS.Small
import HandS.SetIn
import KE.DataEq
import HandS.Deep
import HandS.More
import HandS.DictComp
import PySem.Challenge.RW_gatepairs_k45_what_is_an_extension
set_option Elab.async false
set_option maxRecDepth 100000
set_option maxHeartbeats 1000000
set_option linter.all false
/-! The tree layer, part a: values as trees, cells, the relation to HandS's abstract heap, results. -/
namespace TL
open PySem PySem.Spec PyProof.Rows L2

/-- a value as a tree; loc n: the cell n of the store; fn x: what the module's name x holds (a def, a class) -/
inductive D where
  | none | bool (b : Bool) | int (i : Int) | str (s : Str) | list (xs : List D) | tuple (xs : List D)
  | dict (kvs : List (Key × D)) | obj (c : Str) (fs : List (Str × D)) | loc (n : Nat) | fn (x : Str) | script (ns : List Int) | ty (n : String)
instance : Inhabited D := ⟨.none⟩
/-- an object that may change -/
inductive Cell where
  | list (xs : List D) | dict (kvs : List (Key × D)) | obj (c : Str) (fs : List (Str × D))
instance : Inhabited Cell := ⟨.list []⟩
/-- the store; none: a cell that may not be looked at any more -/
abbrev Mu := List (Option Cell)
abbrev Env := List (Option D)
structure Exc where
  c : Str
  fs : List (Str × D)
inductive Res (τ : Type) where
  | ok (d : τ) (μ : Mu) | ex (x : Exc) (μ : Mu) | bad
def Res.bind {τ υ : Type} (r : Res τ) (f : τ → Mu → Res υ) : Res υ := match r with
  | .ok d μ => f d μ
  | .ex x μ => .ex x μ
  | .bad => .bad

mutual
inductive Den (K : PySem.W.Frag) (mg : Str → Option Value) (R : Hp) (α : List Addr) : V → D → Prop where
  | none : Den K mg R α .non .none
  | bool (b : Bool) : Den K mg R α (.bl b) (.bool b)
  | int (i : Int) : Den K mg R α (.int i) (.int i)
  | str (s : Str) : Den K mg R α (.str s) (.str s)
  | list {a : Addr} {vs : List V} {xs : List D} (h : R a = some (.lst vs)) (l : vs.length ≤ sizeLine) (d : DenL K mg R α vs xs) : Den K mg R α (.ref a) (.list xs)
  | tuple {a : Addr} {vs : List V} {xs : List D} (h : SqT K R a vs) (l : vs.length ≤ sizeLine) (d : DenL K mg R α vs xs) : Den K mg R α (.ref a) (.tuple xs)
  | dict {a : Addr} {ks : List (Key × V)} {kvs : List (Key × D)} (h : R a = some (.dK ks)) (l : ks.length ≤ sizeLine) (d : DenK K mg R α ks kvs) : Den K mg R α (.ref a) (.dict kvs)
  | obj {a C dx : Addr} {gs : List (Str × V)} {c : Str} {fs : List (Str × D)} (hc : mg c = some (.ref C)) (h : R a = some (.ins C dx gs)) (d : DenF K mg R α gs fs) : Den K mg R α (.ref a) (.obj c fs)
  | loc {a : Addr} {n : Nat} (h : α[n]? = some a) : Den K mg R α (.ref a) (.loc n)
  | fn {f : Addr} {x : Str} (h : mg x = some (.ref f)) : Den K mg R α (.ref f) (.fn x)
  | script {a : Addr} {ns : List Int} (h : SqL K R a (ns.map V.int)) : Den K mg R α (.ref a) (.script ns)
  | ty (n : String) : Den K mg R α (.ty n) (.ty n)
inductive DenL (K : PySem.W.Frag) (mg : Str → Option Value) (R : Hp) (α : List Addr) : List V → List D → Prop where
  | nil : DenL K mg R α [] []
  | cons {v : V} {d : D} {vs : List V} {ds : List D} (h : Den K mg R α v d) (t : DenL K mg R α vs ds) : DenL K mg R α (v :: vs) (d :: ds)
inductive DenK (K : PySem.W.Frag) (mg : Str → Option Value) (R : Hp) (α : List Addr) : List (Key × V) → List (Key × D) → Prop where
  | nil : DenK K mg R α [] []
  | cons {k : Key} {v : V} {d : D} {vs : List (Key × V)} {ds : List (Key × D)} (h : Den K mg R α v d) (t : DenK K mg R α vs ds) : DenK K mg R α ((k, v) :: vs) ((k, d) :: ds)
inductive DenF (K : PySem.W.Frag) (mg : Str → Option Value) (R : Hp) (α : List Addr) : List (Str × V) → List (Str × D) → Prop where
  | nil : DenF K mg R α [] []
  | cons {k : Str} {v : V} {d : D} {vs : List (Str × V)} {ds : List (Str × D)} (h : Den K mg R α v d) (t : DenF K mg R α vs ds) : DenF K mg R α ((k, v) :: vs) ((k, d) :: ds)
end

section
variable {K : PySem.W.Frag} {mg : Str → Option Value} {R R' H H' : Hp} {α α' : List Addr}
theorem SqL.up (h1 : ∀ a u, R a = some u → R' a = some u) {a : Addr} {vs : List V} (h : SqL K R a vs) : SqL K R' a vs := by
  rcases h with h | h
  · rcases h with h | ⟨o, h⟩
    · exact .inl (.inl (h1 _ _ h))
    · exact .inl (.inr ⟨o, h1 _ _ h⟩)
  · exact .inr h
theorem SqT.up (h1 : ∀ a u, R a = some u → R' a = some u) {a : Addr} {vs : List V} (h : SqT K R a vs) : SqT K R' a vs := by
  rcases h with h | h
  · rcases h with h | ⟨o, h⟩
    · exact .inl (.inl (h1 _ _ h))
    · exact .inl (.inr ⟨o, h1 _ _ h⟩)
  · exact .inr h
mutual
theorem Den.up (h1 : ∀ a u, R a = some u → R' a = some u) (h2 : ∀ (n : Nat) x, α[n]? = some x → α'[n]? = some x) : ∀ {v : V} {d : D}, Den K mg R α v d → Den K mg R' α' v d
  | _, _, .none => .none
  | _, _, .bool b => .bool b
  | _, _, .int b => .int b
  | _, _, .str b => .str b
  | _, _, .list h l d => .list (h1 _ _ h) l (DenL.up h1 h2 d)
  | _, _, .tuple h l d => .tuple (SqT.up h1 h) l (DenL.up h1 h2 d)
  | _, _, .dict h l d => .dict (h1 _ _ h) l (DenK.up h1 h2 d)
  | _, _, .obj hc h d => .obj hc (h1 _ _ h) (DenF.up h1 h2 d)
  | _, _, .loc h => .loc (h2 _ _ h)
  | _, _, .fn h => .fn h
  | _, _, .script h => .script (SqL.up h1 h)
  | _, _, .ty n => .ty n
theorem DenL.up (h1 : ∀ a u, R a = some u → R' a = some u) (h2 : ∀ (n : Nat) x, α[n]? = some x → α'[n]? = some x) : ∀ {v : List V} {d : List D}, DenL K mg R α v d → DenL K mg R' α' v d
  | _, _, .nil => .nil
  | _, _, .cons h t => .cons (Den.up h1 h2 h) (DenL.up h1 h2 t)
theorem DenK.up (h1 : ∀ a u, R a = some u → R' a = some u) (h2 : ∀ (n : Nat) x, α[n]? = some x → α'[n]? = some x) : ∀ {v : List (Key × V)} {d : List (Key × D)}, DenK K mg R α v d → DenK K mg R' α' v d
  | _, _, .nil => .nil
  | _, _, .cons h t => .cons (Den.up h1 h2 h) (DenK.up h1 h2 t)
theorem DenF.up (h1 : ∀ a u, R a = some u → R' a = some u) (h2 : ∀ (n : Nat) x, α[n]? = some x → α'[n]? = some x) : ∀ {v : List (Str × V)} {d : List (Str × D)}, DenF K mg R α v d → DenF K mg R' α' v d
  | _, _, .nil => .nil
  | _, _, .cons h t => .cons (Den.up h1 h2 h) (DenF.up h1 h2 t)
end
theorem DenL.len : ∀ {v : List V} {d : List D}, DenL K mg R α v d → v.length = d.length
  | _, _, .nil => rfl
  | _, _, .cons _ t => congrArg (· + 1) (DenL.len t)
theorem DenK.len : ∀ {v : List (Key × V)} {d : List (Key × D)}, DenK K mg R α v d → v.length = d.length
  | _, _, .nil => rfl
  | _, _, .cons _ t => congrArg (· + 1) (DenK.len t)
theorem DenL.get : ∀ {v : List V} {d : List D} {i : Nat} {x : V}, DenL K mg R α v d → v[i]? = some x → ∃ e, d[i]? = some e ∧ Den K mg R α x e
  | _, _, _, _, .nil, e => by simp at e
  | _, _, 0, _, .cons h _, e => by simp at e; subst e; exact ⟨_, rfl, h⟩
  | _, _, i + 1, x, .cons _ t, e => by
    obtain ⟨u, q1, q2⟩ := DenL.get (i := i) (x := x) t (by simpa using e)
    exact ⟨u, by simpa using q1, q2⟩
theorem DenL.get' : ∀ {v : List V} {d : List D} {i : Nat} {e : D}, DenL K mg R α v d → d[i]? = some e → ∃ x, v[i]? = some x ∧ Den K mg R α x e
  | _, _, _, _, .nil, e => by simp at e
  | _, _, 0, _, .cons h _, e => by simp at e; subst e; exact ⟨_, rfl, h⟩
  | _, _, i + 1, x, .cons _ t, e => by
    obtain ⟨u, q1, q2⟩ := DenL.get' (i := i) (e := x) t (by simpa using e)
    exact ⟨u, by simpa using q1, q2⟩
theorem DenL.append : ∀ {v v' : List V} {d d' : List D}, DenL K mg R α v d → DenL K mg R α v' d' → DenL K mg R α (v ++ v') (d ++ d')
  | _, _, _, _, .nil, q => q
  | _, _, _, _, .cons h t, q => .cons h (DenL.append t q)
theorem DenL.take : ∀ (n : Nat) {v : List V} {d : List D}, DenL K mg R α v d → DenL K mg R α (v.take n) (d.take n)
  | 0, _, _, _ => .nil
  | _ + 1, _, _, .nil => .nil
  | n + 1, _, _, .cons h t => .cons h (DenL.take n t)
theorem DenL.drop : ∀ (n : Nat) {v : List V} {d : List D}, DenL K mg R α v d → DenL K mg R α (v.drop n) (d.drop n)
  | 0, _, _, q => q
  | _ + 1, _, _, .nil => .nil
  | n + 1, _, _, .cons h t => DenL.drop n t
theorem DenL.set {x : V} {e : D} (h : Den K mg R α x e) : ∀ (n : Nat) {v : List V} {d : List D}, DenL K mg R α v d → DenL K mg R α (v.set n x) (d.set n e)
  | _, _, _, .nil => .nil
  | 0, _, _, .cons _ t => .cons h t
  | n + 1, _, _, .cons q t => .cons q (DenL.set h n t)
theorem DenL.erase : ∀ (n : Nat) {v : List V} {d : List D}, DenL K mg R α v d → DenL K mg R α (v.eraseIdx n) (d.eraseIdx n)
  | _, _, _, .nil => .nil
  | 0, _, _, .cons _ t => t
  | n + 1, _, _, .cons q t => .cons q (DenL.erase n t)
end

/-! ### the state -/
section
variable (K : PySem.W.Frag) (mg : Str → Option Value)
def CellOk (R : Hp) (α : List Addr) (H : Hp) (a : Addr) : Cell → Prop
  | .list xs => ∃ vs, H a = some (.lst vs) ∧ vs.length ≤ sizeLine ∧ DenL K mg R α vs xs
  | .dict kvs => ∃ ks, H a = some (.dK ks) ∧ ks.length ≤ sizeLine ∧ DenK K mg R α ks kvs
  | .obj c fs => ∃ C dx gs, mg c = some (.ref C) ∧ H a = some (.ins C dx gs) ∧ DenF K mg R α gs fs
/-- the store and the trees, told of the abstract heap: R what is frozen, α where the cells stand -/
structure SM (μ : Mu) (α : List Addr) (R H : Hp) : Prop where
  len : α.length = μ.length
  frz : ∀ a u, R a = some u → H a = some u ∨ ∃ ks o, u = .dK ks ∧ H a = some (.frz o u)
  trk : ∀ a ∈ α, ∃ o, H a = some o
  nod : α.Nodup
  cell : ∀ (n : Nat) c a, μ[n]? = some (some c) → α[n]? = some a → R a = none ∧ CellOk K mg R α H a c
def SS (ρ : Env) (R : Hp) (α : List Addr) (σ : L2.St) : Prop :=
  ρ.length = σ.length ∧ ∀ (i : Nat) d, ρ[i]? = some (some d) → ∃ v, σ[i]? = some (some v) ∧ Den K mg R α v d
end
/-- an address that the state tells of -/
def Kn (α : List Addr) (R : Hp) (b : Addr) : Prop := b ∈ α ∨ ∃ u, R b = some u
structure Adv (α : List Addr) (R H : Hp) (α' : List Addr) (R' H' : Hp) : Prop where
  r : ∀ a u, R a = some u → R' a = some u
  a : ∀ (n : Nat) x, α[n]? = some x → α'[n]? = some x
  f : ∀ b o u, H b = some (.frz o u) → H' b = some (.frz o u)
  t : ∀ b o, H b = some o → ∃ o', H' b = some o'
  k : ∀ b o, H b = some o → ¬ Kn α R b → H' b = some o
  n : ∀ b, Kn α' R' b → Kn α R b ∨ H b = none
section
variable {K : PySem.W.Frag} {mg : Str → Option Value} {R R' R2 H H' H2 : Hp} {α α' α2 : List Addr} {μ μ' : Mu} {ρ : Env} {σ : L2.St}
theorem Adv.refl : Adv α R H α R H := ⟨fun _ _ h => h, fun _ _ h => h, fun _ _ _ h => h, fun _ o h => ⟨o, h⟩, fun _ _ h _ => h, fun _ h => .inl h⟩
theorem Adv.trans (x : Adv α R H α' R' H') (y : Adv α' R' H' α2 R2 H2) : Adv α R H α2 R2 H2 :=
  ⟨fun a u h => y.r a u (x.r a u h), fun n z h => y.a n z (x.a n z h), fun b o u h => y.f b o u (x.f b o u h), fun b o h => by
    obtain ⟨o1, h1⟩ := x.t b o h
    exact y.t b o1 h1, fun b o h nk => y.k b o (x.k b o h nk) fun q => (x.n b q).elim nk (fun z => by rw [h] at z; cases z), fun b q => (y.n b q).elim (x.n b) fun z => by
      cases e : H b with
      | none => exact .inr rfl
      | some o =>
        obtain ⟨o', h'⟩ := x.t b o e
        rw [z] at h'; cases h'⟩
theorem Den.adv {v : V} {d : D} (h : Den K mg R α v d) (x : Adv α R H α' R' H') : Den K mg R' α' v d := h.up x.r x.a
theorem DenL.adv {v : List V} {d : List D} (h : DenL K mg R α v d) (x : Adv α R H α' R' H') : DenL K mg R' α' v d := h.up x.r x.a
theorem SS.adv (h : SS K mg ρ R α σ) (x : Adv α R H α' R' H') : SS K mg ρ R' α' σ := ⟨h.1, fun i d q => by
  obtain ⟨v, h1, h2⟩ := h.2 i d q
  exact ⟨v, h1, h2.adv x⟩⟩
/-- a new object, frozen at once -/
theorem SM.lay {p : Addr} {u : HO} (S : SM K mg μ α R H) (hp : H p = none) : SM K mg μ α (upd R p u) (upd H p u) ∧ Adv α R H α (upd R p u) (upd H p u) := by
  have ne : ∀ {b : Addr} {o : HO}, H b = some o → b ≠ p := fun h => ne_of_none h hp
  have nr : R p = none := by
    cases e : R p with
    | none => rfl
    | some x =>
      rcases S.frz p x e with q | ⟨ks, o, _, q⟩
      · rw [hp] at q; cases q
      · rw [hp] at q; cases q
  have r1 : ∀ a x, R a = some x → upd R p u a = some x := fun a x h => by rw [upd_ne (ne_of_none h nr)]; exact h
  refine ⟨⟨S.len, fun a x h => ?_, fun a h => ?_, S.nod, fun n c a h1 h2 => ?_⟩, ⟨r1, fun _ _ h => h, fun b o x h => by rw [upd_ne (ne h)]; exact h, fun b o h => by rw [upd_ne (ne h)]; exact ⟨o, h⟩, fun b o h _ => by rw [upd_ne (ne h)]; exact h, fun b q => ?_⟩⟩
  rotate_left 3
  · by_cases e : b = p
    · subst e; exact .inr hp
    · rcases q with q | ⟨u', q⟩
      · exact .inl (.inl q)
      · rw [upd_ne e] at q; exact .inl (.inr ⟨u', q⟩)
  · by_cases e : a = p
    · subst e; rw [upd_same] at h; cases h; exact .inl upd_same
    · rw [upd_ne e] at h
      rcases S.frz a x h with q | ⟨ks, o, q0, q⟩
      · exact .inl (by rw [upd_ne e]; exact q)
      · exact .inr ⟨ks, o, q0, by rw [upd_ne e]; exact q⟩
  · obtain ⟨o, q⟩ := S.trk a h
    exact ⟨o, by rw [upd_ne (ne q)]; exact q⟩
  · obtain ⟨o, q⟩ := S.trk a (List.mem_of_getElem? h2)
    obtain ⟨h3, h4⟩ := S.cell n c a h1 h2
    refine ⟨by rw [upd_ne (ne q)]; exact h3, ?_⟩
    cases c with
    | list xs => obtain ⟨vs, e1, e2, e3⟩ := h4; exact ⟨vs, by rw [upd_ne (ne q)]; exact e1, e2, e3.up r1 fun _ _ h => h⟩
    | dict xs => obtain ⟨vs, e1, e2, e3⟩ := h4; exact ⟨vs, by rw [upd_ne (ne q)]; exact e1, e2, e3.up r1 fun _ _ h => h⟩
    | obj c xs => obtain ⟨C, dx, vs, e0, e1, e3⟩ := h4; exact ⟨C, dx, vs, e0, by rw [upd_ne (ne q)]; exact e1, e3.up r1 fun _ _ h => h⟩
/-- the heap changes at places that nobody of ours knows (or that are written to the same) -/
theorem SM.heap (S : SM K mg μ α R H) (h1 : ∀ a u, R a = some u → H' a = some u ∨ ∃ ks o, u = .dK ks ∧ H' a = some (.frz o u)) (h2 : ∀ (n : Nat) c a, μ[n]? = some (some c) → α[n]? = some a → H' a = H a) (h3 : ∀ a ∈ α, ∃ o, H' a = some o) : SM K mg μ α R H' :=
  ⟨S.len, h1, h3, S.nod, fun n c a q1 q2 => by
    obtain ⟨h3, h4⟩ := S.cell n c a q1 q2
    have e := h2 n c a q1 q2
    refine ⟨h3, ?_⟩
    cases c with
    | list xs => obtain ⟨vs, e1, e2, e3⟩ := h4; exact ⟨vs, by rw [e]; exact e1, e2, e3⟩
    | dict xs => obtain ⟨vs, e1, e2, e3⟩ := h4; exact ⟨vs, by rw [e]; exact e1, e2, e3⟩
    | obj c xs => obtain ⟨C, dx, vs, e0, e1, e3⟩ := h4; exact ⟨C, dx, vs, e0, by rw [e]; exact e1, e3⟩⟩
/-- a new object becomes a cell -/
theorem SM.cellNew {p : Addr} {u : HO} {c : Cell} (S : SM K mg μ α R H) (hp : H p = none) (hc : CellOk K mg R α (upd H p u) p c) :
    SM K mg (μ ++ [some c]) (α ++ [p]) R (upd H p u) ∧ Adv α R H (α ++ [p]) R (upd H p u) ∧ (α ++ [p])[μ.length]? = some p := by
  have ne : ∀ {b : Addr} {o : HO}, H b = some o → b ≠ p := fun h => ne_of_none h hp
  have nr : R p = none := by
    cases e : R p with
    | none => rfl
    | some x =>
      rcases S.frz p x e with q | ⟨ks, o, _, q⟩
      · rw [hp] at q; cases q
      · rw [hp] at q; cases q
  have a1 : ∀ (n : Nat) x, α[n]? = some x → (α ++ [p])[n]? = some x := fun n x h => by
    rw [List.getElem?_append_left (List.getElem?_eq_some_iff.mp h).1]; exact h
  have up : ∀ {a : Addr} {c : Cell} {G G' : Hp}, G a = G' a → CellOk K mg R α G a c → CellOk K mg R (α ++ [p]) G' a c := fun {a c G G'} e h4 => by
    cases c with
    | list xs => obtain ⟨vs, e1, e2, e3⟩ := h4; exact ⟨vs, by rw [← e]; exact e1, e2, e3.up (fun _ _ h => h) a1⟩
    | dict xs => obtain ⟨vs, e1, e2, e3⟩ := h4; exact ⟨vs, by rw [← e]; exact e1, e2, e3.up (fun _ _ h => h) a1⟩
    | obj c xs => obtain ⟨C, dx, vs, e0, e1, e3⟩ := h4; exact ⟨C, dx, vs, e0, by rw [← e]; exact e1, e3.up (fun _ _ h => h) a1⟩
  have last : (α ++ [p])[μ.length]? = some p := by rw [← S.len]; simp
  refine ⟨⟨by simp [S.len], fun a x h => ?_, fun a h => ?_, ?_, fun n c' a h1 h2 => ?_⟩, ⟨fun _ _ h => h, a1, fun b o x h => by rw [upd_ne (ne h)]; exact h, fun b o h => by rw [upd_ne (ne h)]; exact ⟨o, h⟩, fun b o h _ => by rw [upd_ne (ne h)]; exact h, fun b q => ?_⟩, last⟩
  rotate_left 4
  · rcases q with q | q
    · rcases List.mem_append.mp q with q | q
      · exact .inl (.inl q)
      · obtain rfl := List.mem_singleton.mp q; exact .inr hp
    · exact .inl (.inr q)
  · have e : a ≠ p := ne_of_none h nr
    rcases S.frz a x h with q | ⟨ks, o, q0, q⟩
    · exact .inl (by rw [upd_ne e]; exact q)
    · exact .inr ⟨ks, o, q0, by rw [upd_ne e]; exact q⟩
  · rcases List.mem_append.mp h with h | h
    · obtain ⟨o, q⟩ := S.trk a h
      exact ⟨o, by rw [upd_ne (ne q)]; exact q⟩
    · obtain rfl := List.mem_singleton.mp h
      exact ⟨u, upd_same⟩
  · refine List.nodup_append.mpr ⟨S.nod, by simp, fun a h b h' => ?_⟩
    obtain rfl := List.mem_singleton.mp h'
    obtain ⟨o, q⟩ := S.trk a h
    exact ne q
  · by_cases e : n < μ.length
    · rw [List.getElem?_append_left e] at h1
      rw [List.getElem?_append_left (by rw [S.len]; exact e)] at h2
      obtain ⟨o, q⟩ := S.trk a (List.mem_of_getElem? h2)
      obtain ⟨h3, h4⟩ := S.cell n c' a h1 h2
      exact ⟨h3, up (by rw [upd_ne (ne q)]) h4⟩
    · have hn : n = μ.length := by
        have := (List.getElem?_eq_some_iff.mp h1).1
        simp at this; omega
      subst hn
      rw [last] at h2; cases h2
      rw [List.getElem?_append_right (Nat.le_refl _)] at h1
      simp at h1; subst h1
      exact ⟨nr, up rfl hc⟩
theorem SM.ne (S : SM K mg μ α R H) {n m : Nat} {a b : Addr} (h1 : α[n]? = some a) (h2 : α[m]? = some b) (h : a = b) : n = m := by
  subst h
  exact (List.getElem?_inj (List.getElem?_eq_some_iff.mp h1).1 S.nod).mp (h1.trans h2.symm)
/-- a cell is written -/
theorem SM.put {n : Nat} {a : Addr} {u : HO} {c c' : Cell} (S : SM K mg μ α R H) (h1 : μ[n]? = some (some c')) (h2 : α[n]? = some a) (hc : CellOk K mg R α (upd H a u) a c) :
    SM K mg (μ.set n (some c)) α R (upd H a u) ∧ Adv α R H α R (upd H a u) := by
  have nr := (S.cell n c' a h1 h2).1
  have nf : ∀ o x, H a ≠ some (.frz o x) := fun o x q => by
    have h4 := (S.cell n c' a h1 h2).2
    cases c' with
    | list xs => obtain ⟨vs, e1, _⟩ := h4; rw [q] at e1; cases e1
    | dict xs => obtain ⟨vs, e1, _⟩ := h4; rw [q] at e1; cases e1
    | obj c xs => obtain ⟨C, dx, vs, e0, e1, _⟩ := h4; rw [q] at e1; cases e1
  refine ⟨⟨by simp [S.len], fun b x h => ?_, fun b h => ?_, S.nod, fun m d b q1 q2 => ?_⟩, ⟨fun _ _ h => h, fun _ _ h => h, fun b o x h => ?_, fun b o h => ?_, fun b o h nk => by rw [upd_ne (fun e => nk (.inl (by rw [e]; exact List.mem_of_getElem? h2)))]; exact h, fun b h => .inl h⟩⟩
  · have e : b ≠ a := ne_of_none h nr
    rcases S.frz b x h with q | ⟨ks, o, q0, q⟩
    · exact .inl (by rw [upd_ne e]; exact q)
    · exact .inr ⟨ks, o, q0, by rw [upd_ne e]; exact q⟩
  · by_cases e : b = a
    · subst e; exact ⟨u, upd_same⟩
    · obtain ⟨o, q⟩ := S.trk b h; exact ⟨o, by rw [upd_ne e]; exact q⟩
  · by_cases e : n = m
    · subst e
      rw [h2] at q2; cases q2
      have hl : n < μ.length := (List.getElem?_eq_some_iff.mp h1).1
      rw [List.getElem?_set_self hl] at q1
      cases q1
      exact ⟨nr, hc⟩
    · rw [List.getElem?_set_ne e] at q1
      have ne : b ≠ a := fun q => e (S.ne h2 q2 q.symm)
      obtain ⟨h3, h4⟩ := S.cell m d b q1 q2
      refine ⟨h3, ?_⟩
      cases d with
      | list xs => obtain ⟨vs, e1, e2, e3⟩ := h4; exact ⟨vs, by rw [upd_ne ne]; exact e1, e2, e3⟩
      | dict xs => obtain ⟨vs, e1, e2, e3⟩ := h4; exact ⟨vs, by rw [upd_ne ne]; exact e1, e2, e3⟩
      | obj c xs => obtain ⟨C, dx, vs, e0, e1, e3⟩ := h4; exact ⟨C, dx, vs, e0, by rw [upd_ne ne]; exact e1, e3⟩
  · by_cases e : b = a
    · subst e; exact absurd h (nf _ _)
    · rw [upd_ne e]; exact h
  · by_cases e : b = a
    · subst e; exact ⟨u, upd_same⟩
    · exact ⟨o, by rw [upd_ne e]; exact h⟩
end

/-! ### the lift -/
/-- what an exception is -/
def DenX (K : PySem.W.Frag) (mg : Str → Option Value) (R : Hp) (α : List Addr) (H : Hp) (cls : Value) (od : Option Addr) (x : Exc) : Prop :=
  ∃ C d gs, mg x.c = some (.ref C) ∧ cls = .ref C ∧ od = some d ∧ H d = some (.xd gs) ∧ DenF K mg R α gs x.fs
section
variable (K : PySem.W.Frag) (mg : Str → Option Value) (E : XK)
def After {ω τ : Type} (rel : Hp → List Addr → ω → τ → Prop) (α : List Addr) (R H : Hp) (r : Res τ) (Q : ω → Hp → Prop) : Prop := match r with
  | .ok d μ' => ∀ w α' R' H', SM K mg μ' α' R' H' → Adv α R H α' R' H' → rel R' α' w d → Q w H'
  | .ex x μ' => ∀ cls od α' R' H', SM K mg μ' α' R' H' → Adv α R H α' R' H' → DenX K mg R' α' H' cls od x → E cls od H'
  | .bad => False
def Lift {ω τ : Type} (rel : Hp → List Addr → ω → τ → Prop) (f : Env → Mu → Res τ) : L2.St → Hp → (ω → Hp → Prop) → Prop := fun σ H Q =>
  ∃ ρ μ α R, SM K mg μ α R H ∧ SS K mg ρ R α σ ∧ After K mg E rel α R H (f ρ μ) Q
end
section
variable {K : PySem.W.Frag} {mg : Str → Option Value} {E : XK} {R R' H H' : Hp} {α α' : List Addr} {μ μ' : Mu} {ω τ ω' τ' : Type} {rel : Hp → List Addr → ω → τ → Prop} {rel' : Hp → List Addr → ω' → τ' → Prop}
theorem After.bind {r : Res τ} {k : τ → Mu → Res τ'} {Q : ω' → Hp → Prop} {Q1 : ω → Hp → Prop} (h : After K mg E rel' α R H (r.bind k) Q)
    (go : ∀ d μ1 w α1 R1 H1, SM K mg μ1 α1 R1 H1 → Adv α R H α1 R1 H1 → rel R1 α1 w d → After K mg E rel' α1 R1 H1 (k d μ1) Q → Q1 w H1) : After K mg E rel α R H r Q1 := by
  cases r with
  | ok d μ1 =>
    intro w α1 R1 H1 S A q
    refine go d μ1 w α1 R1 H1 S A q ?_
    have h' : After K mg E rel' α R H (k d μ1) Q := h
    revert h'
    cases k d μ1 with
    | ok e μ2 => exact fun h' w2 α2 R2 H2 S2 A2 q2 => h' w2 α2 R2 H2 S2 (A.trans A2) q2
    | ex x μ2 => exact fun h' c o α2 R2 H2 S2 A2 q2 => h' c o α2 R2 H2 S2 (A.trans A2) q2
    | bad => exact fun h' => h'
  | ex x μ1 => exact h
  | bad => exact h
theorem After.imp {r : Res τ} {Q Q1 : ω → Hp → Prop} (h : After K mg E rel α R H r Q)
    (go : ∀ d μ1 w α1 R1 H1, r = .ok d μ1 → SM K mg μ1 α1 R1 H1 → Adv α R H α1 R1 H1 → rel R1 α1 w d → Q w H1 → Q1 w H1) : After K mg E rel α R H r Q1 := by
  cases r with
  | ok d μ1 => exact fun w α1 R1 H1 S A q => go d μ1 w α1 R1 H1 rfl S A q (h w α1 R1 H1 S A q)
  | ex x μ1 => exact h
  | bad => exact h
end
abbrev relD (K : PySem.W.Frag) (mg : Str → Option Value) : Hp → List Addr → V → D → Prop := fun R α v d => Den K mg R α v d
abbrev relL (K : PySem.W.Frag) (mg : Str → Option Value) : Hp → List Addr → List V → List D → Prop := fun R α v d => DenL K mg R α v d
abbrev relB : Hp → List Addr → Bool → Bool → Prop := fun _ _ a b => a = b
abbrev FE := Env → Mu → Res D
abbrev FT := Env → Mu → Res Bool
abbrev FA := Env → Mu → Res (List D)
def DE (X : Cx) (E : XK) (e : Expr) (f : FE) : Prop := PE X e (Lift X.K X.mg E (relD X.K X.mg) f)
def DT (X : Cx) (E : XK) (e : Expr) (f : FT) : Prop := PT X e (Lift X.K X.mg E relB f)
def DW (X : Cx) (E : XK) (e : Expr) (f : FT) : Prop := PW X e (Lift X.K X.mg E relB f)
def DA (X : Cx) (E : XK) (es : List Expr) (f : FA) : Prop := PA X es (Lift X.K X.mg E (relL X.K X.mg) f)
theorem wE {X : Cx} {e : Expr} {t t' : TE} (h : PE X e t) (k : ∀ σ H Q, t' σ H Q → t σ H Q) : PE X e t' := ⟨fun pins s σ H Q I q => h.run pins s σ H Q I (k σ H Q q)⟩
theorem wT {X : Cx} {e : Expr} {t t' : TT} (h : PT X e t) (k : ∀ σ H Q, t' σ H Q → t σ H Q) : PT X e t' := ⟨fun pins s σ H Q I q => h.run pins s σ H Q I (k σ H Q q)⟩
theorem wW {X : Cx} {e : Expr} {t t' : TT} (h : PW X e t) (k : ∀ σ H Q, t' σ H Q → t σ H Q) : PW X e t' := ⟨fun wh pins s σ H Q I q => h.run wh pins s σ H Q I (k σ H Q q)⟩
theorem wA {X : Cx} {e : List Expr} {t t' : TA} (h : PA X e t) (k : ∀ σ H Q, t' σ H Q → t σ H Q) : PA X e t' := ⟨fun pos pins s σ H Q I q => h.run pos pins s σ H Q I (k σ H Q q)⟩
theorem wS {X : Cx} {e : Stmt} {t t' : TS} (h : PS X e t) (k : ∀ D σ H, t' D σ H → t D σ H) : PS X e t' := ⟨fun pins s σ H D I q => h.run pins s σ H D I (k D σ H q)⟩
theorem wSs {X : Cx} {e : List Stmt} {t t' : TS} (h : PSs X e t) (k : ∀ D σ H, t' D σ H → t D σ H) : PSs X e t' := ⟨fun pins s σ H D I q => h.run pins s σ H D I (k D σ H q)⟩
end TL

set_option Elab.async false
set_option maxRecDepth 100000
set_option maxHeartbeats 1000000
set_option linter.all false
/-! The tree layer, part b: expressions. -/
namespace TL
open PySem PySem.Spec PyProof.Rows L2

def ofO {τ : Type} (o : Option τ) (μ : Mu) : Res τ := match o with
  | some d => .ok d μ
  | none => .bad
/-- a list, exactly (a tree, or a live cell) -/
def seqL (μ : Mu) : D → Option (List D)
  | .list xs => some xs
  | .loc n => match μ[n]? with
    | some (some (.list xs)) => some xs
    | _ => none
  | _ => none
/-- what may be walked or indexed: a list, a tuple, the script -/
def seqR (μ : Mu) : D → Option (List D)
  | .list xs => some xs
  | .tuple xs => some xs
  | .script ns => some (ns.map .int)
  | .loc n => match μ[n]? with
    | some (some (.list xs)) => some xs
    | _ => none
  | _ => none
def dctV (μ : Mu) : D → Option (List (Key × D))
  | .dict kvs => some kvs
  | .loc n => match μ[n]? with
    | some (some (.dict kvs)) => some kvs
    | _ => none
  | _ => none
def objV (μ : Mu) : D → Option (Str × List (Str × D))
  | .obj c fs => some (c, fs)
  | .loc n => match μ[n]? with
    | some (some (.obj c fs)) => some (c, fs)
    | _ => none
  | _ => none
section
variable {K : PySem.W.Frag} {mg : Str → Option Value} {E : XK} {R R' R2 H H' H2 : Hp} {α α' α2 : List Addr} {μ μ' : Mu} {ρ : Env} {σ : L2.St} {v : V} {d : D}
theorem After.ofO {ω τ : Type} {rel : Hp → List Addr → ω → τ → Prop} {o : Option τ} {Q : ω → Hp → Prop} (h : After K mg E rel α R H (TL.ofO o μ) Q) :
    ∃ d, o = some d ∧ ∀ w α' R' H', SM K mg μ α' R' H' → Adv α R H α' R' H' → rel R' α' w d → Q w H' := by
  cases o with
  | none => exact False.elim h
  | some d => exact ⟨d, rfl, h⟩
theorem DenL.ints : ∀ {ns : List Int}, DenL K mg R α (ns.map V.int) (ns.map D.int)
  | [] => .nil
  | n :: ns => .cons (.int n) DenL.ints
theorem SM.lst (S : SM K mg μ α R H) {a : Addr} {vs : List V} (h : R a = some (.lst vs)) : H a = some (.lst vs) := by
  rcases S.frz a _ h with q | ⟨ks, o, q, _⟩
  · exact q
  · cases q
theorem SM.sqT (S : SM K mg μ α R H) {a : Addr} {vs : List V} (h : SqT K R a vs) : SqT K H a vs := by
  rcases h with h | h
  · rcases h with h | ⟨o, h⟩
    · rcases S.frz a _ h with q | ⟨ks, o, q, _⟩
      · exact .inl (.inl q)
      · cases q
    · rcases S.frz a _ h with q | ⟨ks, o, q, _⟩
      · exact .inl (.inr ⟨_, q⟩)
      · cases q
  · exact .inr h
theorem SM.sqL (S : SM K mg μ α R H) {a : Addr} {vs : List V} (h : SqL K R a vs) : SqL K H a vs := by
  rcases h with h | h
  · rcases h with h | ⟨o, h⟩
    · rcases S.frz a _ h with q | ⟨ks, o, q, _⟩
      · exact .inl (.inl q)
      · cases q
    · rcases S.frz a _ h with q | ⟨ks, o, q, _⟩
      · exact .inl (.inr ⟨_, q⟩)
      · cases q
  · exact .inr h
theorem SM.dct (S : SM K mg μ α R H) {a : Addr} {ks : List (Key × V)} (h : R a = some (.dK ks)) : Rd H a (.dK ks) := by
  rcases S.frz a _ h with q | ⟨ks, o, _, q⟩
  · exact .inl q
  · exact .inr ⟨o, q⟩
theorem SM.ins (S : SM K mg μ α R H) {a C dx : Addr} {gs : List (Str × V)} (h : R a = some (.ins C dx gs)) : H a = some (.ins C dx gs) := by
  rcases S.frz a _ h with q | ⟨ks, o, q, _⟩
  · exact q
  · cases q
/-- a readable list: its place and its items -/
theorem SM.seqL (S : SM K mg μ α R H) {xs : List D} (h : Den K mg R α v d) (e : TL.seqL μ d = some xs) : ∃ a vs, v = .ref a ∧ H a = some (.lst vs) ∧ vs.length ≤ sizeLine ∧ DenL K mg R α vs xs := by
  cases h with
  | list h l dl => cases e; exact ⟨_, _, rfl, S.lst h, l, dl⟩
  | loc h =>
    rename_i a n
    simp only [TL.seqL] at e
    split at e
    · rename_i ys e2
      cases e
      obtain ⟨_, vs, h1, h2, h3⟩ := S.cell n _ a e2 h
      exact ⟨a, vs, rfl, h1, h2, h3⟩
    · cases e
  | _ => cases e
theorem SM.seqR (S : SM K mg μ α R H) {xs : List D} (h : Den K mg R α v d) (e : TL.seqR μ d = some xs) : ∃ a vs, v = .ref a ∧ (SqL K H a vs ∨ SqT K H a vs) ∧ DenL K mg R α vs xs := by
  cases h with
  | list h l dl => cases e; exact ⟨_, _, rfl, .inl (SqL.of (S.lst h)), dl⟩
  | tuple h l dl => cases e; exact ⟨_, _, rfl, .inr (S.sqT h), dl⟩
  | script h => cases e; exact ⟨_, _, rfl, .inl (S.sqL h), DenL.ints⟩
  | loc h =>
    rename_i a n
    simp only [TL.seqR] at e
    split at e
    · rename_i ys e2
      cases e
      obtain ⟨_, vs, h1, h2, h3⟩ := S.cell n _ a e2 h
      exact ⟨a, vs, rfl, .inl (SqL.of h1), h3⟩
    · cases e
  | _ => cases e
theorem SM.dctV (S : SM K mg μ α R H) {kvs : List (Key × D)} (h : Den K mg R α v d) (e : TL.dctV μ d = some kvs) : ∃ a ks, v = .ref a ∧ Rd H a (.dK ks) ∧ ks.length ≤ sizeLine ∧ DenK K mg R α ks kvs := by
  cases h with
  | dict h l dl => cases e; exact ⟨_, _, rfl, S.dct h, l, dl⟩
  | loc h =>
    rename_i a n
    simp only [TL.dctV] at e
    split at e
    · rename_i ys e2
      cases e
      obtain ⟨_, vs, h1, h2, h3⟩ := S.cell n _ a e2 h
      exact ⟨a, vs, rfl, .inl h1, h2, h3⟩
    · cases e
  | _ => cases e
theorem SM.objV (S : SM K mg μ α R H) {c : Str} {fs : List (Str × D)} (h : Den K mg R α v d) (e : TL.objV μ d = some (c, fs)) :
    ∃ a C dx gs, v = .ref a ∧ mg c = some (.ref C) ∧ H a = some (.ins C dx gs) ∧ DenF K mg R α gs fs := by
  cases h with
  | obj hc h dl => cases e; exact ⟨_, _, _, _, rfl, hc, S.ins h, dl⟩
  | loc h =>
    rename_i a n
    simp only [TL.objV] at e
    split at e
    · rename_i c' fs' e2
      cases e
      obtain ⟨_, C, dx, gs, h0, h1, h3⟩ := S.cell n _ a e2 h
      exact ⟨a, C, dx, gs, rfl, h0, h1, h3⟩
    · cases e
  | _ => cases e
end

/-! ### names and constants -/
def eVar (i : Nat) : FE := fun ρ μ => match ρ[i]? with
  | some (some d) => .ok d μ
  | _ => .bad
def eC (d : D) : FE := fun _ μ => .ok d μ
section
variable {X : Cx} {E : XK} {a b c e : Expr} {fa fb fc : FE} {pos : Pos}
theorem de_var {i : Nat} {x : Str} (hN : X.N[i]? = some x) (hv : Vis X.env.scope x) (hd : (x == ("__debug__" : Str)) = false := by decide) (hcd : (x == ("__classdict__" : Str)) = false := by decide) : DE X E (.Name x pos) (eVar i) :=
  wE (pe_var hN hv hd hcd) fun σ H Q ⟨ρ, μ, α, R, S, V, h⟩ => by
    unfold eVar at h
    split at h
    · rename_i d e
      obtain ⟨v, h1, h2⟩ := V.2 i d e
      exact ⟨v, h1, h v α R H S .refl h2⟩
    · exact False.elim h
theorem de_cst {v : V} {d : D} (h : PE X e (tC v)) (hd : ∀ R α, Den X.K X.mg R α v d) : DE X E e (eC d) :=
  wE h fun σ H Q ⟨ρ, μ, α, R, S, V, h⟩ => h v α R H S .refl (hd R α)
theorem de_int {i j} : DE X E (.Constant (.int i) j pos) (eC (.int i)) := de_cst pe_int fun _ _ => .int i
theorem de_bool {i j} : DE X E (.Constant (.bool i) j pos) (eC (.bool i)) := de_cst pe_bl fun _ _ => .bool i
theorem de_none {j} : DE X E (.Constant .none j pos) (eC .none) := de_cst pe_non fun _ _ => .none
theorem de_str {i j} : DE X E (.Constant (.str i) j pos) (eC (.str i)) := de_cst pe_str fun _ _ => .str i
theorem de_glob {x : Str} {v : V} {u : Value} {d : D} (hg : Gl X x) (hm : X.mg x = some u) (r : RelV v u) (hd : ∀ R α, Den X.K X.mg R α v d) (hdb : (x == ("__debug__" : Str)) = false := by decide) : DE X E (.Name x pos) (eC d) :=
  de_cst (pe_glob hg hm r hdb) hd
theorem de_fn {x : Str} {f : Addr} (hg : Gl X x) (hm : X.mg x = some (.ref f)) (hdb : (x == ("__debug__" : Str)) = false := by decide) : DE X E (.Name x pos) (eC (.fn x)) :=
  de_cst (v := .ref f) (pe_glob hg hm rfl hdb) fun _ _ => .fn hm

/-! ### two-place operations without an effect on the store -/
abbrev G2 := Mu → D → D → Option D
def Op2 (X : Cx) (f : Value → Value → Sem Value) (g : G2) : Prop := OpR X f fun x y H Q =>
  ∃ μ α R dx dy d, SM X.K X.mg μ α R H ∧ Den X.K X.mg R α x dx ∧ Den X.K X.mg R α y dy ∧ g μ dx dy = some d ∧
    ∀ w R' H', SM X.K X.mg μ α R' H' → Adv α R H α R' H' → Den X.K X.mg R' α w d → Q w H'
def eBin (g : G2) (fa fb : FE) : FE := fun ρ μ => (fa ρ μ).bind fun x μ1 => (fb ρ μ1).bind fun y μ2 => ofO (g μ2 x y) μ2
theorem de_bin {op : Operator} {g : G2} (ho : Op2 X (binaryOp op) g) (ha : DE X E a fa) (hb : DE X E b fb) : DE X E (.BinOp a op b pos) (eBin g fa fb) :=
  wE (pe_op ho ha hb) fun σ H Q ⟨ρ, μ, α, R, S, V, h⟩ => ⟨ρ, μ, α, R, S, V, h.bind fun x μ1 v α1 R1 H1 S1 A1 d1 h1 => ⟨ρ, μ1, α1, R1, S1, V.adv A1, h1.bind fun y μ2 u α2 R2 H2 S2 A2 d2 h2 => by
    obtain ⟨d, e1, e2⟩ := h2.ofO
    exact ⟨μ2, α2, R2, x, y, d, S2, d1.adv A2, d2, e1, fun w R' H' S' A' q => e2 w α2 R' H' S' A' q⟩⟩⟩
theorem de_cmp {op : CmpOp} {g : G2} (ho : Op2 X (compareOp op) g) (ha : DE X E a fa) (hb : DE X E b fb) (hm : behindInMarks op b = false) : DE X E (.Compare a [op] [b] pos) (eBin g fa fb) :=
  wE (pe_cmpR ho ha hb hm) fun σ H Q ⟨ρ, μ, α, R, S, V, h⟩ => ⟨ρ, μ, α, R, S, V, h.bind fun x μ1 v α1 R1 H1 S1 A1 d1 h1 => ⟨ρ, μ1, α1, R1, S1, V.adv A1, h1.bind fun y μ2 u α2 R2 H2 S2 A2 d2 h2 => by
    obtain ⟨d, e1, e2⟩ := h2.ofO
    exact ⟨μ2, α2, R2, x, y, d, S2, d1.adv A2, d2, e1, fun w R' H' S' A' q => e2 w α2 R' H' S' A' q⟩⟩⟩
/-- a value as a test -/
def boolOf (d : D) (μ : Mu) : Res Bool := match d with
  | .bool b => .ok b μ
  | _ => .bad
def eT (f : FE) : FT := fun ρ μ => (f ρ μ).bind boolOf
theorem after_bool {K : PySem.W.Frag} {mg : Str → Option Value} {α : List Addr} {R H : Hp} {μ : Mu} {v : V} {d : D} {Q : Bool → Hp → Prop} (S : SM K mg μ α R H) (q : Den K mg R α v d)
    (h : After K mg E relB α R H (boolOf d μ) Q) : ∃ c, v = .bl c ∧ Q c H := by
  cases q with
  | bool b => exact ⟨b, rfl, h b α R H S .refl rfl⟩
  | _ => exact False.elim h
theorem lift_bool {K : PySem.W.Frag} {mg : Str → Option Value} {f : FE} {σ : L2.St} {H : Hp} {Q : Bool → Hp → Prop} (h : Lift K mg E relB (eT f) σ H Q) : Lift K mg E (relD K mg) f σ H fun x H1 => ∃ c, x = .bl c ∧ Q c H1 := by
  obtain ⟨ρ, μ, α, R, S, V, h⟩ := h
  exact ⟨ρ, μ, α, R, S, V, After.bind (k := boolOf) h fun d μ1 v α1 R1 H1 S1 A1 d1 h1 => after_bool S1 d1 h1⟩
theorem dt_cmp {op : CmpOp} {g : G2} (ho : Op2 X (compareOp op) g) (ha : DE X E a fa) (hb : DE X E b fb) (hm : behindInMarks op b = false) : DT X E (.Compare a [op] [b] pos) (eT (eBin g fa fb)) :=
  wT (pt_cmpR ho ha hb hm) fun σ H Q h => by
    obtain ⟨ρ, μ, α, R, S, V, h⟩ := lift_bool h
    exact ⟨ρ, μ, α, R, S, V, h.bind fun x μ1 v α1 R1 H1 S1 A1 d1 h1 => ⟨ρ, μ1, α1, R1, S1, V.adv A1, h1.bind fun y μ2 u α2 R2 H2 S2 A2 d2 h2 => by
      obtain ⟨d, e1, e2⟩ := h2.ofO
      exact ⟨μ2, α2, R2, x, y, d, S2, d1.adv A2, d2, e1, fun w R' H' S' A' q => e2 w α2 R' H' S' A' q⟩⟩⟩
theorem dt_val {f : FE} (h : DE X E e f) (he : ∀ whole, isTrue e X.env whole = (do let v ← whole; standAt e.pos; holding [v] (truthy v)) := by intro _; rfl) : DT X E e (eT f) :=
  wT (pt_val h he) fun σ H Q h => lift_bool h
def eChain (g g' : G2) (fa fb fc : FE) : FE := fun ρ μ => (fa ρ μ).bind fun x μ1 => (fb ρ μ1).bind fun y μ2 => (ofO (g μ2 x y) μ2).bind fun z μ3 => match z with
  | .bool true => (fc ρ μ3).bind fun w μ4 => ofO (g' μ4 y w) μ4
  | .bool false => .ok (.bool false) μ3
  | _ => .bad
theorem chain_lift {g g' : G2} {K : PySem.W.Frag} {mg : Str → Option Value} {σ : L2.St} {H : Hp} {Q : VK} (h : Lift K mg E (relD K mg) (eChain g g' fa fb fc) σ H Q) :
    tChain (fun x y H Q => ∃ μ α R dx dy d, SM K mg μ α R H ∧ Den K mg R α x dx ∧ Den K mg R α y dy ∧ g μ dx dy = some d ∧ ∀ w R' H', SM K mg μ α R' H' → Adv α R H α R' H' → Den K mg R' α w d → Q w H')
      (fun x y H Q => ∃ μ α R dx dy d, SM K mg μ α R H ∧ Den K mg R α x dx ∧ Den K mg R α y dy ∧ g' μ dx dy = some d ∧ ∀ w R' H', SM K mg μ α R' H' → Adv α R H α R' H' → Den K mg R' α w d → Q w H')
      (Lift K mg E (relD K mg) fa) (Lift K mg E (relD K mg) fb) (Lift K mg E (relD K mg) fc) σ H Q := by
  obtain ⟨ρ, μ, α, R, S, V, h⟩ := h
  refine ⟨ρ, μ, α, R, S, V, h.bind fun x μ1 v α1 R1 H1 S1 A1 d1 h1 => ⟨ρ, μ1, α1, R1, S1, V.adv A1, h1.bind fun y μ2 u α2 R2 H2 S2 A2 d2 h2 => ?_⟩⟩
  cases e : g μ2 x y with
  | none => rw [e] at h2; exact False.elim h2
  | some d =>
    rw [e] at h2
    refine ⟨μ2, α2, R2, x, y, d, S2, d1.adv A2, d2, e, fun w R' H' S' A' q => ?_⟩
    cases q with
    | bool b =>
      refine ⟨b, rfl, ?_⟩
      cases b with
      | true =>
        refine ⟨ρ, μ2, α2, R', S', ((V.adv A1).adv A2).adv A', ?_⟩
        have h3 : After K mg E (relD K mg) α2 R2 H2 ((fc ρ μ2).bind fun w μ4 => ofO (g' μ4 y w) μ4) Q := h2
        have h4 : After K mg E (relD K mg) α2 R' H' ((fc ρ μ2).bind fun w μ4 => ofO (g' μ4 y w) μ4) Q := by
          revert h3
          cases (fc ρ μ2).bind fun w μ4 => ofO (g' μ4 y w) μ4 with
          | ok d μ => exact fun h w α' R3 H3 S3 A3 q => h w α' R3 H3 S3 (A'.trans A3) q
          | ex d μ => exact fun h w o α' R3 H3 S3 A3 q => h w o α' R3 H3 S3 (A'.trans A3) q
          | bad => exact fun h => h
        exact h4.bind fun w μ4 z α4 R4 H4 S4 A4 d4 h5 => by
          obtain ⟨d', e1, e2⟩ := h5.ofO
          exact ⟨μ4, α4, R4, y, w, d', S4, (d2.adv A').adv A4, d4, e1, fun w R' H' S' A' q => e2 w α4 R' H' S' A' q⟩
      | false => exact h2 _ α2 R' H' S' A' (.bool false)
    | _ => exact False.elim h2
theorem de_chain {op op' : CmpOp} {g g' : G2} (ho : Op2 X (compareOp op) g) (ho' : Op2 X (compareOp op') g') (ha : DE X E a fa) (hb : DE X E b fb) (hc : DE X E c fc)
    (hm : lastMarks [op, op'] [b, c] = false := by with_unfolding_all rfl) : DE X E (.Compare a [op, op'] [b, c] pos) (eChain g g' fa fb fc) :=
  wE (pe_chain ho ho' ha hb hc hm) fun σ H Q h => chain_lift h
theorem dt_chain {op op' : CmpOp} {g g' : G2} (ho : Op2 X (compareOp op) g) (ho' : Op2 X (compareOp op') g') (ha : DE X E a fa) (hb : DE X E b fb) (hc : DE X E c fc)
    (hm : lastMarks [op, op'] [b, c] = false := by with_unfolding_all rfl) : DT X E (.Compare a [op, op'] [b, c] pos) (eT (eChain g g' fa fb fc)) :=
  wT (pt_chain ho ho' ha hb hc hm) fun σ H Q h => chain_lift (lift_bool h)
/-! ### and, or, not, if else -/
variable {ta tb : FT} {rest : List Expr}
def tAnd (f g : FT) : FT := fun ρ μ => (f ρ μ).bind fun b μ1 => if b = true then g ρ μ1 else .ok false μ1
def tOr (f g : FT) : FT := fun ρ μ => (f ρ μ).bind fun b μ1 => if b = true then .ok true μ1 else g ρ μ1
def tNot (f : FT) : FT := fun ρ μ => (f ρ μ).bind fun b μ1 => .ok (!b) μ1
theorem dw_and1 (ha : DT X E a ta) : DW X E (.BoolOp .And [a] pos) ta := pw_and1 ha
theorem dw_or1 (ha : DT X E a ta) : DW X E (.BoolOp .Or [a] pos) ta := pw_or1 ha
theorem dw_and (ha : DT X E a ta) (hb : DW X E (.BoolOp .And (b :: rest) pos) tb) : DW X E (.BoolOp .And (a :: b :: rest) pos) (tAnd ta tb) :=
  wW (pw_and ha hb) fun σ H Q ⟨ρ, μ, α, R, S, V, h⟩ => ⟨ρ, μ, α, R, S, V, h.bind fun x μ1 v α1 R1 H1 S1 A1 d1 h1 => by
    cases d1
    cases x with
    | true => exact ⟨ρ, μ1, α1, R1, S1, V.adv A1, h1⟩
    | false => exact h1 false α1 R1 H1 S1 .refl rfl⟩
theorem dw_or (ha : DT X E a ta) (hb : DW X E (.BoolOp .Or (b :: rest) pos) tb) : DW X E (.BoolOp .Or (a :: b :: rest) pos) (tOr ta tb) :=
  wW (pw_or ha hb) fun σ H Q ⟨ρ, μ, α, R, S, V, h⟩ => ⟨ρ, μ, α, R, S, V, h.bind fun x μ1 v α1 R1 H1 S1 A1 d1 h1 => by
    cases d1
    cases x with
    | true => exact h1 true α1 R1 H1 S1 .refl rfl
    | false => exact ⟨ρ, μ1, α1, R1, S1, V.adv A1, h1⟩⟩
theorem dt_w (h : DW X E e ta) : DT X E e ta := h.pt
theorem dt_not (ha : DT X E a ta) : DT X E (.UnaryOp .Not a pos) (tNot ta) :=
  wT (pt_not ha) fun σ H Q ⟨ρ, μ, α, R, S, V, h⟩ => ⟨ρ, μ, α, R, S, V, h.bind fun x μ1 v α1 R1 H1 S1 A1 d1 h1 => by
    cases d1
    exact h1 _ α1 R1 H1 S1 .refl rfl⟩
def eAnd (f g : FE) : FE := fun ρ μ => (f ρ μ).bind fun d μ1 => match d with
  | .bool b => if b = true then g ρ μ1 else .ok (.bool false) μ1
  | _ => .bad
def eOr (f g : FE) : FE := fun ρ μ => (f ρ μ).bind fun d μ1 => match d with
  | .bool b => if b = true then .ok (.bool true) μ1 else g ρ μ1
  | _ => .bad
def eNot (f : FE) : FE := fun ρ μ => (f ρ μ).bind fun d μ1 => match d with
  | .bool b => .ok (.bool (!b)) μ1
  | _ => .bad
theorem de_one {op} (h : DE X E a fa) : DE X E (.BoolOp op [a] pos) fa := pe_one h
theorem de_and (ha : DE X E a fa) (hb : DE X E (.BoolOp .And (b :: rest) pos) fb) : DE X E (.BoolOp .And (a :: b :: rest) pos) (eAnd fa fb) :=
  wE (pe_and ha hb) fun σ H Q ⟨ρ, μ, α, R, S, V, h⟩ => ⟨ρ, μ, α, R, S, V, h.bind fun x μ1 v α1 R1 H1 S1 A1 d1 h1 => by
    cases d1 with
    | bool c =>
      refine ⟨c, rfl, ?_⟩
      cases c with
      | true => exact ⟨ρ, μ1, α1, R1, S1, V.adv A1, h1⟩
      | false => exact h1 _ α1 R1 H1 S1 .refl (.bool false)
    | _ => exact False.elim h1⟩
theorem de_or (ha : DE X E a fa) (hb : DE X E (.BoolOp .Or (b :: rest) pos) fb) : DE X E (.BoolOp .Or (a :: b :: rest) pos) (eOr fa fb) :=
  wE (pe_or ha hb) fun σ H Q ⟨ρ, μ, α, R, S, V, h⟩ => ⟨ρ, μ, α, R, S, V, h.bind fun x μ1 v α1 R1 H1 S1 A1 d1 h1 => by
    cases d1 with
    | bool c =>
      refine ⟨c, rfl, ?_⟩
      cases c with
      | true => exact h1 _ α1 R1 H1 S1 .refl (.bool true)
      | false => exact ⟨ρ, μ1, α1, R1, S1, V.adv A1, h1⟩
    | _ => exact False.elim h1⟩
theorem de_not (ha : DE X E a fa) : DE X E (.UnaryOp .Not a pos) (eNot fa) :=
  wE (pe_not ha) fun σ H Q ⟨ρ, μ, α, R, S, V, h⟩ => ⟨ρ, μ, α, R, S, V, h.bind fun x μ1 v α1 R1 H1 S1 A1 d1 h1 => by
    cases d1 with
    | bool c => exact ⟨c, rfl, h1 _ α1 R1 H1 S1 .refl (.bool _)⟩
    | _ => exact False.elim h1⟩
def eIf (t : FT) (f g : FE) : FE := fun ρ μ => (t ρ μ).bind fun b μ1 => if b = true then f ρ μ1 else g ρ μ1
theorem de_if (hc : DT X E c ta) (ha : DE X E a fa) (hb : DE X E b fb) : DE X E (.IfExp c a b pos) (eIf ta fa fb) :=
  wE (pe_ifExp hc ha hb) fun σ H Q ⟨ρ, μ, α, R, S, V, h⟩ => ⟨ρ, μ, α, R, S, V, h.bind fun x μ1 v α1 R1 H1 S1 A1 d1 h1 => by
    cases d1
    cases x with
    | true => exact ⟨ρ, μ1, α1, R1, S1, V.adv A1, h1⟩
    | false => exact ⟨ρ, μ1, α1, R1, S1, V.adv A1, h1⟩⟩
/-! ### one-place operations, calls of built-ins -/
abbrev G1 := Mu → D → Option D
def Op1 (X : Cx) (f : Value → Sem Value) (g : G1) : Prop := UnR X f fun x H Q =>
  ∃ μ α R dx d, SM X.K X.mg μ α R H ∧ Den X.K X.mg R α x dx ∧ g μ dx = some d ∧ ∀ w R' H', SM X.K X.mg μ α R' H' → Adv α R H α R' H' → Den X.K X.mg R' α w d → Q w H'
def eUn (g : G1) (fa : FE) : FE := fun ρ μ => (fa ρ μ).bind fun x μ1 => ofO (g μ1 x) μ1
theorem de_un {op : UnaryOp} {g : G1} (ho : Op1 X (unaryOp op) g) (ha : DE X E a fa) : DE X E (.UnaryOp op a pos) (eUn g fa) :=
  wE (pe_un ho ha) fun σ H Q ⟨ρ, μ, α, R, S, V, h⟩ => ⟨ρ, μ, α, R, S, V, h.bind fun x μ1 v α1 R1 H1 S1 A1 d1 h1 => by
    obtain ⟨d, e1, e2⟩ := h1.ofO
    exact ⟨μ1, α1, R1, x, d, S1, d1, e1, fun w R' H' S' A' q => e2 w α1 R' H' S' A' q⟩⟩
/-! ### arguments -/
def aNil : FA := fun _ μ => .ok [] μ
def aCons (f : FE) (g : FA) : FA := fun ρ μ => (f ρ μ).bind fun d μ1 => (g ρ μ1).bind fun ds μ2 => .ok (d :: ds) μ2
variable {es : List Expr} {t : FA}
theorem da_nil : DA X E [] aNil := wA pa_nil fun σ H Q ⟨ρ, μ, α, R, S, V, h⟩ => h [] α R H S .refl .nil
theorem da_cons (ha : DE X E e fa) (hr : DA X E es t) (hs : starEach (e :: es) X.env = (false, eval e X.env) :: starEach es X.env := by rfl) : DA X E (e :: es) (aCons fa t) :=
  wA (pa_cons ha hr hs) fun σ H Q ⟨ρ, μ, α, R, S, V, h⟩ => ⟨ρ, μ, α, R, S, V, h.bind fun x μ1 v α1 R1 H1 S1 A1 d1 h1 => ⟨ρ, μ1, α1, R1, S1, V.adv A1, h1.bind fun xs μ2 vs α2 R2 H2 S2 A2 d2 h2 =>
    h2 _ α2 R2 H2 S2 .refl (.cons (d1.adv A2) d2)⟩⟩
def eTup (t : FA) : FE := fun ρ μ => (t ρ μ).bind fun ds μ1 => if ds.length ≤ sizeLine then .ok (.tuple ds) μ1 else .bad
theorem de_tup {x1} (ht : DA X E es t) : DE X E (.Tuple es x1 pos) (eTup t) :=
  wE (pe_tup ht) fun σ H Q ⟨ρ, μ, α, R, S, V, h⟩ => ⟨ρ, μ, α, R, S, V, h.bind fun ds μ1 vs α1 R1 H1 S1 A1 d1 h1 => by
    by_cases hl : ds.length ≤ sizeLine
    · rw [if_pos hl] at h1
      refine ⟨by rw [d1.len]; exact hl, fun p hp => ?_⟩
      obtain ⟨S2, A2⟩ := S1.lay (u := .tup vs) hp
      exact h1 _ α1 _ _ S2 A2 (.tuple (.inl (.inl upd_same)) (by rw [d1.len]; exact hl) (d1.adv A2))
    · rw [if_neg hl] at h1; exact False.elim h1⟩
/-! ### new objects: frozen at once, or a cell -/
/-- a new object's content: DN e f: e makes a new object that nobody else knows, f gives what stands there -/
abbrev FN := Env → Mu → Res Cell
def relN (K : PySem.W.Frag) (mg : Str → Option Value) (R : Hp) (α : List Addr) (v : V × HO) (c : Cell) : Prop := match c with
  | .list xs => ∃ vs, v.2 = .lst vs ∧ vs.length ≤ sizeLine ∧ DenL K mg R α vs xs
  | .dict kvs => ∃ ks, v.2 = .dK ks ∧ ks.length ≤ sizeLine ∧ DenK K mg R α ks kvs
  | .obj c fs => ∃ C dx gs, mg c = some (.ref C) ∧ v.2 = .ins C dx gs ∧ DenF K mg R α gs fs
def tNew (K : PySem.W.Frag) (mg : Str → Option Value) (E : XK) (f : FN) : TE := fun σ H Q =>
  ∃ ρ μ α R, SM K mg μ α R H ∧ SS K mg ρ R α σ ∧ After K mg E (relN K mg) α R H (f ρ μ) fun x H1 => ∀ p, H1 p = none → Q (.ref p) (upd H1 p x.2)
def DN (X : Cx) (E : XK) (e : Expr) (f : FN) : Prop := PE X e (tNew X.K X.mg E f)
def cellD : Cell → D
  | .list xs => .list xs
  | .dict kvs => .dict kvs
  | .obj c fs => .obj c fs
def eFz (f : FN) : FE := fun ρ μ => (f ρ μ).bind fun c μ1 => .ok (cellD c) μ1
def eNew (f : FN) : FE := fun ρ μ => (f ρ μ).bind fun c μ1 => .ok (.loc μ1.length) (μ1 ++ [some c])
theorem de_fz {f : FN} (h : DN X E e f) : DE X E e (eFz f) :=
  wE h fun σ H Q ⟨ρ, μ, α, R, S, V, h⟩ => ⟨ρ, μ, α, R, S, V, h.bind fun c μ1 v α1 R1 H1 S1 A1 d1 h1 => fun p hp => by
    obtain ⟨S2, A2⟩ := S1.lay (u := v.2) hp
    refine h1 _ α1 _ _ S2 A2 ?_
    cases c with
    | list xs => obtain ⟨vs, e1, e2, e3⟩ := d1; exact .list (by rw [upd_same, e1]) e2 (e3.adv A2)
    | dict xs => obtain ⟨vs, e1, e2, e3⟩ := d1; exact .dict (by rw [upd_same, e1]) e2 (e3.up A2.r A2.a)
    | obj c xs => obtain ⟨C, dx, vs, e0, e1, e3⟩ := d1; exact .obj e0 (by rw [upd_same, e1]) (e3.up A2.r A2.a)⟩
theorem de_new {f : FN} (h : DN X E e f) : DE X E e (eNew f) :=
  wE h fun σ H Q ⟨ρ, μ, α, R, S, V, h⟩ => ⟨ρ, μ, α, R, S, V, h.bind fun c μ1 v α1 R1 H1 S1 A1 d1 h1 => fun p hp => by
    have hc : CellOk X.K X.mg R1 α1 (upd H1 p v.2) p c := by
      cases c with
      | list xs => obtain ⟨vs, e1, e2, e3⟩ := d1; exact ⟨vs, by rw [upd_same, e1], e2, e3⟩
      | dict xs => obtain ⟨vs, e1, e2, e3⟩ := d1; exact ⟨vs, by rw [upd_same, e1], e2, e3⟩
      | obj c xs => obtain ⟨C, dx, vs, e0, e1, e3⟩ := d1; exact ⟨C, dx, vs, e0, by rw [upd_same, e1], e3⟩
    obtain ⟨S2, A2, hl⟩ := S1.cellNew hp hc
    exact h1 _ _ _ _ S2 A2 (.loc hl)⟩
def nLst (t : FA) : FN := fun ρ μ => (t ρ μ).bind fun ds μ1 => if ds.length ≤ sizeLine then .ok (.list ds) μ1 else .bad
theorem dn_lst (ht : DA X E es t) : DN X E (.List es pos) (nLst t) :=
  wE (pe_lst ht) fun σ H Q ⟨ρ, μ, α, R, S, V, h⟩ => ⟨ρ, μ, α, R, S, V, h.bind fun ds μ1 vs α1 R1 H1 S1 A1 d1 h1 => by
    by_cases hl : ds.length ≤ sizeLine
    · rw [if_pos hl] at h1
      refine ⟨by rw [d1.len]; exact hl, fun p hp => ?_⟩
      exact h1 (L2.V.non, .lst vs) α1 R1 H1 S1 .refl ⟨vs, rfl, by rw [d1.len]; exact hl, d1⟩ p hp
    · rw [if_neg hl] at h1; exact False.elim h1⟩
end
end TL

set_option Elab.async false
set_option maxRecDepth 100000
set_option maxHeartbeats 1000000
set_option linter.all false
/-! The tree layer, part c: the operations. -/
namespace TL
open PySem PySem.Spec PyProof.Rows L2

/-! ### data: what == and in are told of -/
mutual
def toPy : D → PyData
  | .none => .none
  | .bool b => .bool b
  | .int i => .int i
  | .str s => .str s
  | .list xs => .list (toPys xs)
  | .tuple xs => .tuple (toPys xs)
  | .dict _ => .none
  | .obj _ _ => .none
  | .loc _ => .none
  | .fn _ => .none
  | .script _ => .none
  | .ty _ => .none
def toPys : List D → List PyData
  | [] => []
  | x :: xs => toPy x :: toPys xs
end
mutual
/-- None, bools, ints, texts, lists and tuples of these, at most n deep -/
def isData : Nat → D → Bool
  | _, .none => true
  | _, .bool _ => true
  | _, .int _ => true
  | _, .str _ => true
  | n + 1, .list xs => areData n xs
  | n + 1, .tuple xs => areData n xs
  | _, _ => false
def areData : Nat → List D → Bool
  | _, [] => true
  | n, x :: xs => isData n x && areData n xs
end
mutual
def deq : D → D → Bool
  | .none, .none => true
  | .bool a, .bool b => a == b
  | .bool a, .int j => (if a then 1 else 0) == j
  | .int i, .bool b => i == (if b then 1 else 0)
  | .int i, .int j => i == j
  | .str x, .str y => x == y
  | .list xs, .list ys => deqs xs ys
  | .tuple xs, .tuple ys => deqs xs ys
  | _, _ => false
def deqs : List D → List D → Bool
  | [], [] => true
  | x :: xs, y :: ys => deq x y && deqs xs ys
  | _, _ => false
end
mutual
theorem plain_of : ∀ (n : Nat) (d : D), isData n d = true → (toPy d).plain = true ∧ (toPy d).depth ≤ n
  | n, .none, _ => ⟨by simp [toPy, PyData.plain], by simp [toPy, PyData.depth]⟩
  | n, .bool _, _ => ⟨by simp [toPy, PyData.plain], by simp [toPy, PyData.depth]⟩
  | n, .int _, _ => ⟨by simp [toPy, PyData.plain], by simp [toPy, PyData.depth]⟩
  | n, .str _, _ => ⟨by simp [toPy, PyData.plain], by simp [toPy, PyData.depth]⟩
  | n + 1, .list xs, h => by
    have q := plains_of n xs (by simpa [isData] using h)
    exact ⟨by simpa [toPy, PyData.plain] using q.1, by simpa [toPy, PyData.depth] using q.2⟩
  | n + 1, .tuple xs, h => by
    have q := plains_of n xs (by simpa [isData] using h)
    exact ⟨by simpa [toPy, PyData.plain] using q.1, by simpa [toPy, PyData.depth] using q.2⟩
  | 0, .list _, h => by simp [isData] at h
  | 0, .tuple _, h => by simp [isData] at h
  | n, .dict _, h => by simp [isData] at h
  | n, .obj _ _, h => by simp [isData] at h
  | n, .loc _, h => by simp [isData] at h
  | n, .fn _, h => by simp [isData] at h
  | n, .script _, h => by simp [isData] at h
  | n, .ty _, h => by simp [isData] at h
theorem plains_of : ∀ (n : Nat) (d : List D), areData n d = true → PyData.plainAll (toPys d) = true ∧ PyData.depthAll (toPys d) ≤ n
  | n, [], _ => ⟨by simp [toPys, PyData.plainAll], by simp [toPys, PyData.depthAll]⟩
  | n, x :: xs, h => by
    simp only [areData, Bool.and_eq_true] at h
    have h1 := plain_of n x h.1
    have h2 := plains_of n xs h.2
    exact ⟨by simp [toPys, PyData.plainAll, h1.1, h2.1], by simp only [toPys, PyData.depthAll]; exact Nat.max_le.mpr ⟨h1.2, h2.2⟩⟩
end
mutual
theorem deq_is : ∀ (n m : Nat) (a b : D), isData n a = true → isData m b = true → PyData.eqv (toPy a) (toPy b) = deq a b
  | n, m, .none, b, _, hb => by cases b <;> simp [isData] at hb <;> simp [toPy, PyData.eqv, deq]
  | n, m, .bool _, b, _, hb => by cases b <;> simp [isData] at hb <;> simp [toPy, PyData.eqv, deq]
  | n, m, .int _, b, _, hb => by cases b <;> simp [isData] at hb <;> simp [toPy, PyData.eqv, deq]
  | n, m, .str _, b, _, hb => by cases b <;> simp [isData] at hb <;> simp [toPy, PyData.eqv, deq]
  | n + 1, m, .list xs, b, ha, hb => by
    cases b with
    | list ys =>
      cases m with
      | zero => simp [isData] at hb
      | succ m =>
        simp only [toPy, PyData.eqv, deq]
        exact deqs_is n m xs ys (by simpa [isData] using ha) (by simpa [isData] using hb)
    | _ => first | (simp [isData] at hb; done) | (simp [toPy, PyData.eqv, deq])
  | n + 1, m, .tuple xs, b, ha, hb => by
    cases b with
    | tuple ys =>
      cases m with
      | zero => simp [isData] at hb
      | succ m =>
        simp only [toPy, PyData.eqv, deq]
        exact deqs_is n m xs ys (by simpa [isData] using ha) (by simpa [isData] using hb)
    | _ => first | (simp [isData] at hb; done) | (simp [toPy, PyData.eqv, deq])
  | 0, _, .list _, _, h, _ => by simp [isData] at h
  | 0, _, .tuple _, _, h, _ => by simp [isData] at h
  | n, _, .dict _, _, h, _ => by simp [isData] at h
  | n, _, .obj _ _, _, h, _ => by simp [isData] at h
  | n, _, .loc _, _, h, _ => by simp [isData] at h
  | n, _, .fn _, _, h, _ => by simp [isData] at h
  | n, _, .script _, _, h, _ => by simp [isData] at h
  | n, _, .ty _, _, h, _ => by simp [isData] at h
theorem deqs_is : ∀ (n m : Nat) (a b : List D), areData n a = true → areData m b = true → PyData.eqvAll (toPys a) (toPys b) = deqs a b
  | n, m, [], [], _, _ => by simp [toPys, PyData.eqvAll, deqs]
  | n, m, [], _ :: _, _, _ => by simp [toPys, PyData.eqvAll, deqs]
  | n, m, _ :: _, [], _, _ => by simp [toPys, PyData.eqvAll, deqs]
  | n, m, x :: xs, y :: ys, ha, hb => by
    simp only [areData, Bool.and_eq_true] at ha hb
    simp only [toPys, PyData.eqvAll, deqs, deq_is n m x y ha.1 hb.1, deqs_is n m xs ys ha.2 hb.2]
end
/-- a live list cell as the list that it is now -/
def resD (μ : Mu) : D → D
  | .loc n => match μ[n]? with
    | some (some (.list xs)) => .list xs
    | _ => .loc n
  | d => d
section
variable {K : PySem.W.Frag} {mg : Str → Option Value} {R H : Hp} {α : List Addr} {μ : Mu}
mutual
theorem dp_of (S : SM K mg μ α R H) : ∀ (n : Nat) (d : D) (v : V), isData n d = true → Den K mg R α v d → Dp K H v (toPy d)
  | n, .none, _, _, .none => by simpa [toPy] using Dp.non
  | n, .bool b, _, _, .bool _ => by simpa [toPy] using Dp.bl b
  | n, .int b, _, _, .int _ => by simpa [toPy] using Dp.int b
  | n, .str b, _, _, .str _ => by simpa [toPy] using Dp.str b
  | n + 1, .list xs, _, h, .list e _ q => by
    simpa [toPy] using Dp.lst (SqL.of (S.lst e)) (dps_of S n xs _ (by simpa [isData] using h) q)
  | n + 1, .tuple xs, _, h, .tuple e _ q => by
    simpa [toPy] using Dp.tup (S.sqT e) (dps_of S n xs _ (by simpa [isData] using h) q)
  | 0, .list _, _, h, _ => by simp [isData] at h
  | 0, .tuple _, _, h, _ => by simp [isData] at h
  | n, .dict _, _, h, _ => by simp [isData] at h
  | n, .obj _ _, _, h, _ => by simp [isData] at h
  | n, .loc _, _, h, _ => by simp [isData] at h
  | n, .fn _, _, h, _ => by simp [isData] at h
  | n, .script _, _, h, _ => by simp [isData] at h
  | n, .ty _, _, h, _ => by simp [isData] at h
theorem dps_of (S : SM K mg μ α R H) : ∀ (n : Nat) (d : List D) (v : List V), areData n d = true → DenL K mg R α v d → DpAll K H v (toPys d)
  | n, [], _, _, .nil => by simpa [toPys] using DpAll.nil
  | n, x :: xs, _, h, .cons q t => by
    simp only [areData, Bool.and_eq_true] at h
    simpa [toPys] using DpAll.cons (dp_of S n x _ h.1 q) (dps_of S n xs _ h.2 t)
end
theorem dp_res (S : SM K mg μ α R H) {n : Nat} {d : D} {v : V} (h : isData n (resD μ d) = true) (q : Den K mg R α v d) : Dp K H v (toPy (resD μ d)) := by
  cases q with
  | loc e =>
    rename_i a k
    simp only [resD] at h ⊢
    split at h
    · rename_i xs e2
      obtain ⟨_, vs, h1, h2, h3⟩ := S.cell k _ a e2 e
      cases n with
      | zero => simp [isData] at h
      | succ n => simpa [toPy] using Dp.lst (SqL.of h1) (dps_of S n xs _ (by simpa [isData] using h) h3)
    · simp [isData] at h
  | none => exact dp_of S n _ _ h .none
  | bool b => exact dp_of S n _ _ h (.bool b)
  | int b => exact dp_of S n _ _ h (.int b)
  | str b => exact dp_of S n _ _ h (.str b)
  | list e l t => exact dp_of S n _ _ h (.list e l t)
  | tuple e l t => exact dp_of S n _ _ h (.tuple e l t)
  | dict e l t => simp [resD, isData] at h
  | obj e l t => simp [resD, isData] at h
  | fn e => simp [resD, isData] at h
  | script e => simp [resD, isData] at h
  | ty e => simp [resD, isData] at h
end

/-! ### operators -/
def chk {τ : Type} (b : Bool) (x : τ) : Option τ := if b = true then some x else none
theorem chk_some {τ : Type} {b : Bool} {x y : τ} (h : chk b x = some y) : b = true ∧ x = y := by
  unfold chk at h
  split at h
  · rename_i e; exact ⟨e, Option.some.inj h⟩
  · cases h
def gAdd : G2 := fun μ x y => match x, y with
  | .int i, .int j => some (.int (i + j))
  | .str s, .str t => chk (decide (s.length + t.length ≤ sizeLine)) (.str (s ++ t))
  | .tuple xs, .tuple ys => chk (decide (xs.length + ys.length ≤ sizeLine)) (.tuple (xs ++ ys))
  | x, y => match seqL μ x, seqL μ y with
    | some xs, some ys => chk (decide (xs.length + ys.length ≤ sizeLine)) (.list (xs ++ ys))
    | _, _ => none
def gSub : G2 := fun _ x y => match x, y with
  | .int i, .int j => some (.int (i - j))
  | _, _ => none
def mulOk (i j : Int) : Bool := (decide (-(2 ^ 64) < i) && decide (i < 2 ^ 64)) || (decide (-(2 ^ 64) < j) && decide (j < 2 ^ 64))
/-- a text, n times -/
def strRep (z : Str) (n : Nat) : Str := ⟨(List.replicate n z.cps.toList).flatten.toArray⟩
def gMul : G2 := fun μ x y => match x, y with
  | .int i, .int j => chk (mulOk i j) (.int (i * j))
  | .str z, .int n => chk (decide (0 ≤ n) && decide (n ≤ 1000) && decide (z.length ≤ 1000)) (.str (strRep z n.toNat))
  | x, .int k => match seqL μ x with
    | some xs => chk (decide (-(2 ^ 63) ≤ k) && decide (k < 2 ^ 63) && decide (xs.length * k.toNat ≤ sizeLine)) (.list (List.replicate k.toNat xs).flatten)
    | none => none
  | _, _ => none
def gDiv : G2 := fun _ x y => match x, y with
  | .int i, .int j => chk (decide (0 < j) && decide (j < 1073741824)) (.int (i / j))
  | _, _ => none
def gMod : G2 := fun _ x y => match x, y with
  | .int i, .int j => chk (decide (0 < j)) (.int (i % j))
  | _, _ => none
def gPow : G2 := fun _ x y => match x, y with
  | .int i, .int j => chk (decide (0 ≤ j) && decide (j ≤ 1000000) && decide (i.natAbs < 2 ^ 64)) (.int (i ^ j.toNat))
  | _, _ => none
def gNeg : G1 := fun _ x => match x with
  | .int i => some (.int (-i))
  | _ => none
def gLt : G2 := fun _ x y => match x, y with
  | .int i, .int j => some (.bool (decide (i < j)))
  | _, _ => none
def gLe : G2 := fun _ x y => match x, y with
  | .int i, .int j => some (.bool (decide (i ≤ j)))
  | _, _ => none
def gGt : G2 := fun _ x y => match x, y with
  | .int i, .int j => some (.bool (decide (j < i)))
  | _, _ => none
def gGe : G2 := fun _ x y => match x, y with
  | .int i, .int j => some (.bool (decide (j ≤ i)))
  | _, _ => none
def gEq : G2 := fun μ x y => chk (isData 60 (resD μ x) && isData 60 (resD μ y)) (.bool (deq (resD μ x) (resD μ y)))
def gNe : G2 := fun μ x y => chk (isData 60 (resD μ x) && isData 60 (resD μ y)) (.bool (!deq (resD μ x) (resD μ y)))
def isNone : D → Bool
  | .none => true
  | _ => false
def gIs : G2 := fun _ x y => match y with
  | .none => some (.bool (isNone x))
  | .bool b => (match x with | .bool a => some (.bool (decide (a = b))) | _ => none)
  | _ => none
def gIsNot : G2 := fun _ x y => match y with
  | .none => some (.bool (!isNone x))
  | .bool b => (match x with | .bool a => some (.bool (!decide (a = b))) | _ => none)
  | _ => none
def keyOf : D → Option Key
  | .int i => some (.inl i)
  | .str s => some (.inr s)
  | _ => none
def getK (kvs : List (Key × D)) (k : Key) : Option D := (kvs.find? fun kv => decide (kv.1 = k)).map (·.2)
def inD (μ : Mu) (x y : D) : Option Bool := match y with
  | .str t => (match x with | .str s => (match s.cps.toList with | [c] => some (decide (c ∈ t.cps.toList)) | _ => none) | _ => none)
  | y => match dctV μ y with
    | some kvs => (keyOf x).map fun k => (getK kvs k).isSome
    | none => match seqR μ y with
      | some ys => chk (isData 60 (resD μ x) && areData 59 ys) (ys.any fun z => deq z (resD μ x))
      | none => none
def gIn : G2 := fun μ x y => (inD μ x y).map .bool
def gNotIn : G2 := fun μ x y => (inD μ x y).map fun b => .bool (!b)
section
variable {X : Cx}
theorem o2_add : Op2 X (binaryOp .Add) gAdd := by
  rintro pins s σ H x y v u Q I rx ry ⟨μ, α, R, dx, dy, d, S, h1, h2, e, q⟩
  have lists : ∀ xs ys, seqL μ dx = some xs → seqL μ dy = some ys → chk (decide (xs.length + ys.length ≤ sizeLine)) (D.list (xs ++ ys)) = some d → wpAny (model X.prog X.w) X.A (binaryOp .Add v u) (EP X pins σ Q) X.xe s := by
    intro xs ys e1 e2 e3
    obtain ⟨e4, rfl⟩ := chk_some e3
    obtain ⟨a, vs, rfl, i1, i2, i3⟩ := S.seqL h1 e1
    obtain ⟨b, ws, rfl, j1, j2, j3⟩ := S.seqL h2 e2
    have hl : vs.length + ws.length ≤ sizeLine := by rw [i3.len, j3.len]; exact of_decide_eq_true e4
    refine op_cat pins s σ H _ _ v u Q I rx ry ⟨a, b, vs, ws, rfl, rfl, i1, j1, hl, fun p hp => ?_⟩
    obtain ⟨S2, A2⟩ := S.lay (u := .lst (vs ++ ws)) hp
    exact q _ _ _ S2 A2 (.list upd_same (by simpa using hl) ((i3.append j3).adv A2))
  unfold gAdd at e
  split at e
  · cases e; cases h1; cases h2
    exact op_add pins s σ H _ _ v u Q I rx ry ⟨_, _, rfl, rfl, q _ R H S .refl (.int _)⟩
  · obtain ⟨c0, rfl⟩ := chk_some e; clear e; have e := c0; cases h1; cases h2
    exact op_add_str pins s σ H _ _ v u Q I rx ry ⟨_, _, rfl, rfl, of_decide_eq_true e, q _ R H S .refl (.str _)⟩
  · obtain ⟨c0, rfl⟩ := chk_some e; clear e; have e := c0
    have e := of_decide_eq_true e
    cases h1 with
    | tuple a1 a2 a3 => cases h2 with
      | tuple b1 b2 b3 =>
        rename_i xs ys a vs b ws
        refine op_catA pins s σ H _ _ v u Q I rx ry ⟨a, b, vs, ws, rfl, rfl, S.sqT a1, S.sqT b1, by rw [a3.len, b3.len]; exact e, fun z => ?_, fun z1 z2 => ?_, fun z1 z2 p hp => ?_⟩
        · subst z; cases a3
          exact q _ R H S .refl (.tuple b1 b2 b3)
        · subst z2; cases b3
          rw [List.append_nil] at q
          exact q _ R H S .refl (.tuple a1 a2 a3)
        · obtain ⟨S2, A2⟩ := S.lay (u := .tup (vs ++ ws)) hp
          exact q _ _ _ S2 A2 (.tuple (.inl (.inl upd_same)) (by rw [List.length_append, a3.len, b3.len]; exact e) ((a3.append b3).adv A2))
  · split at e
    · rename_i e1 e2
      exact lists _ _ e1 e2 e
    · cases e
theorem o2_int {f : Value → Value → Sem Value} {g : G2} {C : Int → Int → Prop} {k : Int → Int → Int} (h : OpR X f (rI C fun i j => .int (k i j)))
    (hg : ∀ μ x y d, g μ x y = some d → ∃ i j, x = .int i ∧ y = .int j ∧ C i j ∧ d = .int (k i j)) : Op2 X f g := by
  rintro pins s σ H x y v u Q I rx ry ⟨μ, α, R, dx, dy, d, S, h1, h2, e, q⟩
  obtain ⟨i, j, rfl, rfl, c, rfl⟩ := hg _ _ _ _ e
  cases h1; cases h2
  exact h pins s σ H _ _ v u Q I rx ry ⟨i, j, rfl, rfl, c, q _ R H S .refl (.int _)⟩
theorem o2_int0 {f : Value → Value → Sem Value} {g : G2} {k : Int → Int → V} {kd : Int → Int → D} (h : OpR X f (rI0 k)) (hk : ∀ R α i j, Den X.K X.mg R α (k i j) (kd i j))
    (hg : ∀ μ x y d, g μ x y = some d → ∃ i j, x = .int i ∧ y = .int j ∧ d = kd i j) : Op2 X f g := by
  rintro pins s σ H x y v u Q I rx ry ⟨μ, α, R, dx, dy, d, S, h1, h2, e, q⟩
  obtain ⟨i, j, rfl, rfl, rfl⟩ := hg _ _ _ _ e
  cases h1; cases h2
  exact h pins s σ H _ _ v u Q I rx ry ⟨i, j, rfl, rfl, q _ R H S .refl (hk R α i j)⟩
theorem o2_sub : Op2 X (binaryOp .Sub) gSub := o2_int0 op_sub (kd := fun i j => .int (i - j)) (fun _ _ _ _ => .int _) fun μ x y d e => by
  unfold gSub at e
  split at e
  · cases e; exact ⟨_, _, rfl, rfl, rfl⟩
  · cases e
theorem notLongL' {n : Nat} (h : n ≤ 1000 * 1000) : Builtin.Str.tooLong n = false := by
  unfold Builtin.Str.tooLong
  simp [sizeLine]
  omega
theorem o2_mul : Op2 X (binaryOp .Mult) gMul := by
  rintro pins s σ H x y v u Q I rx ry ⟨μ, α, R, dx, dy, d, S, h1, h2, e, q⟩
  unfold gMul at e
  split at e
  · obtain ⟨c0, rfl⟩ := chk_some e; clear e; have e := c0; cases h1; cases h2
    refine op_mul pins s σ H _ _ v u Q I rx ry ⟨_, _, rfl, rfl, ?_, q _ R H S .refl (.int _)⟩
    simp only [mulOk, Bool.or_eq_true, Bool.and_eq_true, decide_eq_true_eq] at e
    exact e
  · rename_i z n
    obtain ⟨c0, rfl⟩ := chk_some e; clear e; have e := c0
    simp only [Bool.and_eq_true, decide_eq_true_eq] at e
    obtain ⟨⟨n0, n1⟩, z1⟩ := e
    cases h1; cases h2
    obtain ⟨t, rfl⟩ := rx
    obtain ⟨u', rfl⟩ := ry
    have hm : Txt.mul z n = strRep z n.toNat := by
      unfold Txt.mul strRep
      by_cases h1 : n < 1
      · have : n = 0 := by omega
        subst this
        rw [if_pos (by decide)]; rfl
      · rw [if_neg h1]
        by_cases h2 : (n == 1 || z.length == 0) = true
        · rw [if_pos h2]
          simp only [Bool.or_eq_true, beq_iff_eq] at h2
          rcases h2 with h2 | h2
          · subst h2; cases z; simp
          · have hz : z.cps.toList = [] := by
              apply List.eq_nil_of_length_eq_zero
              rw [Array.length_toList]; exact h2
            rw [hz]
            have : (List.replicate n.toNat ([] : List Nat)).flatten = [] := by simp
            rw [this]
            cases z with
            | mk a => simp at hz; simp [hz]
        · rw [if_neg h2]
          congr 1
          have key : ∀ (k : Nat) (acc : List Nat), (List.replicate k z.cps).foldl (· ++ ·) acc.toArray = (acc ++ (List.replicate k z.cps.toList).flatten).toArray := by
            intro k
            induction k with
            | zero => intro acc; simp
            | succ k ih =>
              intro acc
              rw [List.replicate_succ, List.foldl_cons]
              have : acc.toArray ++ z.cps = (acc ++ z.cps.toList).toArray := by simp
              rw [this, ih, List.replicate_succ, List.flatten_cons, List.append_assoc]
          simpa using key n.toNat []
    refine PySem.SB.mul ⟨?_, fun q1 q2 => ?_, fun q1 q2 => ?_⟩ fun t' k => ?_
    · simp; omega
    · have : (2 ^ 63 - 1 : Int) / n ≥ (2 ^ 63 - 1 : Int) / 1000 := by
        have h1 : (1000 : Int) * ((2 ^ 63 - 1 : Int) / 1000) ≤ 2 ^ 63 - 1 := Int.mul_ediv_self_le (by decide)
        have h2 : n * ((2 ^ 63 - 1 : Int) / 1000) ≤ 1000 * ((2 ^ 63 - 1 : Int) / 1000) := Int.mul_le_mul_of_nonneg_right n1 (by decide)
        exact (Int.le_ediv_iff_mul_le (by omega)).mpr (by rw [Int.mul_comm]; omega)
      have h3 : ((2 ^ 63 - 1 : Int) / 1000) ≥ 1000 := by decide
      omega
    · have h4 : z.length * n.toNat ≤ 1000 * 1000 := Nat.mul_le_mul z1 (by omega)
      exact notLongL' h4
    · rw [hm]
      exact ⟨.str _, H, I.tok _, ⟨t', rfl⟩, q _ R H S .refl (.str _)⟩
  · rename_i k _ _
    split at e
    · rename_i xs e1
      obtain ⟨c0, rfl⟩ := chk_some e; clear e; have e := c0
      simp only [Bool.and_eq_true, decide_eq_true_eq] at e
      obtain ⟨a, vs, rfl, i1, i2, i3⟩ := S.seqL h1 e1
      cases h2
      refine op_rep pins s σ H _ _ v u Q I rx ry ⟨a, k, vs, rfl, rfl, i1, e.1.1, e.1.2, by rw [i3.len]; exact e.2, fun p hp => ?_⟩
      obtain ⟨S2, A2⟩ := S.lay (u := .lst (List.replicate k.toNat vs).flatten) hp
      have rep : ∀ n : Nat, DenL X.K X.mg R α (List.replicate n vs).flatten (List.replicate n xs).flatten := fun n => by
        induction n with
        | zero => exact .nil
        | succ n ih => rw [List.replicate_succ, List.replicate_succ, List.flatten_cons, List.flatten_cons]; exact i3.append ih
      refine q _ _ _ S2 A2 (.list upd_same ?_ ((rep _).adv A2))
      rw [(rep _).len]
      simp only [List.length_flatten, List.map_replicate, List.sum_replicate_nat]
      rw [Nat.mul_comm]; exact e.2
    · cases e
  · cases e
theorem o2_div : Op2 X (binaryOp .FloorDiv) gDiv := o2_int op_fdiv fun μ x y d e => by
  unfold gDiv at e
  split at e
  · obtain ⟨c0, rfl⟩ := chk_some e; clear e; have e := c0
    simp only [Bool.and_eq_true, decide_eq_true_eq] at e
    exact ⟨_, _, rfl, rfl, e, rfl⟩
  · cases e
theorem o2_mod : Op2 X (binaryOp .Mod) gMod := o2_int op_mod fun μ x y d e => by
  unfold gMod at e
  split at e
  · obtain ⟨c0, rfl⟩ := chk_some e; clear e; have e := c0
    exact ⟨_, _, rfl, rfl, of_decide_eq_true e, rfl⟩
  · cases e
theorem o2_pow : Op2 X (binaryOp .Pow) gPow := o2_int op_pow fun μ x y d e => by
  unfold gPow at e
  split at e
  · obtain ⟨c0, rfl⟩ := chk_some e; clear e; have e := c0
    simp only [Bool.and_eq_true, decide_eq_true_eq] at e
    exact ⟨_, _, rfl, rfl, ⟨e.1.1, e.1.2, e.2⟩, rfl⟩
  · cases e
theorem o1_neg : Op1 X (unaryOp .USub) gNeg := by
  rintro pins s σ H x v Q I rx ⟨μ, α, R, dx, d, S, h1, e, q⟩
  unfold gNeg at e
  split at e
  · cases e; cases h1
    exact un_neg pins s σ H _ v Q I rx ⟨_, rfl, q _ R H S .refl (.int _)⟩
  · cases e
theorem o2_lt : Op2 X (compareOp .Lt) gLt := o2_int0 op_lt (kd := fun i j => .bool (decide (i < j))) (fun _ _ _ _ => .bool _) fun μ x y d e => by
  unfold gLt at e
  split at e
  · cases e; exact ⟨_, _, rfl, rfl, rfl⟩
  · cases e
theorem o2_le : Op2 X (compareOp .LtE) gLe := o2_int0 op_le (kd := fun i j => .bool (decide (i ≤ j))) (fun _ _ _ _ => .bool _) fun μ x y d e => by
  unfold gLe at e
  split at e
  · cases e; exact ⟨_, _, rfl, rfl, rfl⟩
  · cases e
theorem o2_gt : Op2 X (compareOp .Gt) gGt := o2_int0 op_gt (kd := fun i j => .bool (decide (j < i))) (fun _ _ _ _ => .bool _) fun μ x y d e => by
  unfold gGt at e
  split at e
  · cases e; exact ⟨_, _, rfl, rfl, rfl⟩
  · cases e
theorem o2_ge : Op2 X (compareOp .GtE) gGe := o2_int0 op_ge (kd := fun i j => .bool (decide (j ≤ i))) (fun _ _ _ _ => .bool _) fun μ x y d e => by
  unfold gGe at e
  split at e
  · cases e; exact ⟨_, _, rfl, rfl, rfl⟩
  · cases e
theorem o2_eq (hu : X.A.units + 64 < cLine) : Op2 X (compareOp .Eq) gEq := by
  rintro pins s σ H x y v u Q I rx ry ⟨μ, α, R, dx, dy, d, S, h1, h2, e, q⟩
  obtain ⟨c0, rfl⟩ := chk_some e; clear e; have e := c0
  simp only [Bool.and_eq_true] at e
  obtain ⟨as, r1⟩ := Dp.reads I _ _ _ (dp_res S e.1 h1) rx
  obtain ⟨bs, r2⟩ := Dp.reads I _ _ _ (dp_res S e.2 h2) ry
  have p1 := plain_of 60 _ e.1
  have p2 := plain_of 60 _ e.2
  refine SeqAt.eq_plain r1 r2 p1.1 p2.1 (by have := Nat.min_le_left (toPy (resD μ dx)).depth (toPy (resD μ dy)).depth; omega) ?_
  rw [deq_is 60 60 _ _ e.1 e.2]
  exact ⟨.bl _, H, I, rfl, q _ R H S .refl (.bool _)⟩
theorem o2_ne (hu : X.A.units + 64 < cLine) : Op2 X (compareOp .NotEq) gNe := by
  rintro pins s σ H x y v u Q I rx ry ⟨μ, α, R, dx, dy, d, S, h1, h2, e, q⟩
  obtain ⟨c0, rfl⟩ := chk_some e; clear e; have e := c0
  simp only [Bool.and_eq_true] at e
  obtain ⟨as, r1⟩ := Dp.reads I _ _ _ (dp_res S e.1 h1) rx
  obtain ⟨bs, r2⟩ := Dp.reads I _ _ _ (dp_res S e.2 h2) ry
  have p1 := plain_of 60 _ e.1
  have p2 := plain_of 60 _ e.2
  refine SeqAt.ne_plain r1 r2 p1.1 p2.1 (by have := Nat.min_le_left (toPy (resD μ dx)).depth (toPy (resD μ dy)).depth; omega) ?_
  rw [deq_is 60 60 _ _ e.1 e.2]
  exact ⟨.bl _, H, I, rfl, q _ R H S .refl (.bool _)⟩
theorem isNone_den {K : PySem.W.Frag} {mg : Str → Option Value} {R : Hp} {α : List Addr} {v : V} {d : D} (h : Den K mg R α v d) : decide (v = .non) = isNone d := by
  cases h <;> rfl
theorem o2_is : Op2 X (compareOp .Is) gIs := by
  rintro pins s σ H x y v u Q I rx ry ⟨μ, α, R, dx, dy, d, S, h1, h2, e, q⟩
  unfold gIs at e
  split at e
  · cases e; cases h2
    exact op_isN pins s σ H _ _ v u Q I rx ry ⟨rfl, by rw [isNone_den h1]; exact q _ R H S .refl (.bool _)⟩
  · split at e
    · cases e; cases h1; cases h2
      exact op_isBl pins s σ H _ _ v u Q I rx ry ⟨_, _, rfl, rfl, q _ R H S .refl (.bool _)⟩
    · cases e
  · cases e
theorem o2_isnot : Op2 X (compareOp .IsNot) gIsNot := by
  rintro pins s σ H x y v u Q I rx ry ⟨μ, α, R, dx, dy, d, S, h1, h2, e, q⟩
  unfold gIsNot at e
  split at e
  · cases e; cases h2
    exact op_notN pins s σ H _ _ v u Q I rx ry ⟨rfl, by rw [isNone_den h1]; exact q _ R H S .refl (.bool _)⟩
  · split at e
    · cases e; cases h1; cases h2
      exact op_notBl pins s σ H _ _ v u Q I rx ry ⟨_, _, rfl, rfl, q _ R H S .refl (.bool _)⟩
    · cases e
  · cases e
/-! dicts -/
theorem denK_get {K : PySem.W.Frag} {mg : Str → Option Value} {R : Hp} {α : List Addr} {k : Key} : ∀ {ks : List (Key × V)} {kvs : List (Key × D)}, DenK K mg R α ks kvs → match getK kvs k with
    | some d => ∃ v, valV ks k = some v ∧ Den K mg R α v d
    | none => valV ks k = none
  | _, _, .nil => rfl
  | _, _, .cons (k := j) (v := v) (d := d) (vs := vs) (ds := ds) h t => by
    by_cases e : j = k
    · have e1 : getK ((j, d) :: ds) k = some d := by simp [getK, e]
      have e2 : valV ((j, v) :: vs) k = some v := valV_pos (p := (j, v)) e
      rw [e1]; exact ⟨v, e2, h⟩
    · have e1 : getK ((j, d) :: ds) k = getK ds k := by simp [getK, e]
      have e2 : valV ((j, v) :: vs) k = valV vs k := valV_neg (p := (j, v)) e
      rw [e1, e2]; exact denK_get t
theorem keyOf_den {K : PySem.W.Frag} {mg : Str → Option Value} {R : Hp} {α : List Addr} {v : V} {d : D} {k : Key} (h : Den K mg R α v d) (e : keyOf d = some k) : v = kV k := by
  cases h <;> cases e <;> rfl
theorem in_gen (hu : X.A.units + 64 < cLine) {pins : List (Addr × Obj)} {s : Shared} {σ : L2.St} {H : Hp} {x y : V} {v u : Value} {μ : Mu} {α : List Addr} {R : Hp} {dx dy : D} {b : Bool} {E : Value → Shared → Prop} {Q : Value → Shared → Prop} (I : Inv X pins σ H s) (rx : RelV x v) (ry : RelV y u)
    (S : SM X.K X.mg μ α R H) (h1 : Den X.K X.mg R α x dx) (h2 : Den X.K X.mg R α y dy) (e : inD μ dx dy = some b) :
    ((∀ s', Inv X pins σ H s' → Q (.bool b) s') → wpAny (model X.prog X.w) X.A (compareOp .In v u) Q X.xe s) ∧
    ((∀ s', Inv X pins σ H s' → Q (.bool (!b)) s') → wpAny (model X.prog X.w) X.A (compareOp .NotIn v u) Q X.xe s) := by
  unfold inD at e
  split at e
  · rename_i t
    split at e
    · rename_i z
      split at e
      · rename_i c ec
        cases e; cases h1; cases h2
        have ez : z = ⟨#[c]⟩ := by
          cases z with
          | mk a => simp at ec; congr; exact Array.toList_inj.mp (by simpa using ec)
        subst ez
        refine ⟨fun k => thn (op_in_sign pins s σ H _ _ v u (fun w H' => w = .bl (decide (c ∈ t.cps.toList)) ∧ H' = H) I rx ry ⟨c, t, rfl, rfl, rfl, rfl⟩) fun a s' hs => ?_,
          fun k => thn (op_notIn_sign pins s σ H _ _ v u (fun w H' => w = .bl (!decide (c ∈ t.cps.toList)) ∧ H' = H) I rx ry ⟨c, t, rfl, rfl, rfl, rfl⟩) fun a s' hs => ?_⟩
        · obtain ⟨w, H', I', r, rfl, rfl⟩ := hs
          obtain rfl : a = .bool _ := r
          exact k s' I'
        · obtain ⟨w, H', I', r, rfl, rfl⟩ := hs
          obtain rfl : a = .bool _ := r
          exact k s' I'
      · cases e
    · cases e
  · split at e
    · rename_i kvs e1
      obtain ⟨k, ek, rfl⟩ := Option.map_eq_some_iff.mp e
      obtain ⟨a, ks, rfl, hd, hl, dk⟩ := S.dctV h2 e1
      obtain rfl := keyOf_den h1 ek
      have g : DGet H a (kV k) (valV ks k) := .inl ⟨ks, k, hd, rfl, rfl⟩
      have eo : (valV ks k).isSome = (getK kvs k).isSome := by
        have := denK_get (k := k) dk
        cases e2 : getK kvs k with
        | none => rw [e2] at this; rw [this]; rfl
        | some d => rw [e2] at this; obtain ⟨v, h3, _⟩ := this; rw [h3] <;> rfl
      obtain rfl : u = .ref a := ry
      exact ⟨fun q => d_in (by omega) I g rx fun s' I' => by rw [eo]; exact q s' I', fun q => d_notIn (by omega) I g rx fun s' I' => by rw [eo]; exact q s' I'⟩
    · split at e
      · rename_i ys e1
        obtain ⟨c0, rfl⟩ := chk_some e; clear e; have e := c0
        simp only [Bool.and_eq_true] at e
        obtain ⟨as, r1⟩ := Dp.reads I _ _ _ (dp_res S e.1 h1) rx
        have p1 := plain_of 60 _ e.1
        have p2 := plains_of 59 _ e.2
        obtain ⟨a, vs, rfl, hs, dl⟩ := S.seqR h2 e1
        have any : ((toPys ys).any fun z => PyData.eqv z (toPy (resD μ dx))) = ys.any fun z => deq z (resD μ dx) := by
          have : ∀ zs : List D, areData 59 zs = true → ((toPys zs).any fun z => PyData.eqv z (toPy (resD μ dx))) = zs.any fun z => deq z (resD μ dx) := by
            intro zs
            induction zs with
            | nil => intro _; rfl
            | cons z zs ih =>
              intro hz
              simp only [areData, Bool.and_eq_true] at hz
              simp only [toPys, List.any_cons, deq_is 59 60 z _ hz.1 e.1, ih hz.2]
          exact this ys e.2
        have dd : X.A.units + 1 + min (PyData.depthAll (toPys ys)) (toPy (resD μ dx)).depth < cLine := by
          have := Nat.min_le_left (PyData.depthAll (toPys ys)) (toPy (resD μ dx)).depth
          omega
        rcases hs with hs | hs
        · obtain ⟨bs, r2⟩ := Dp.reads I (.list (toPys ys)) _ _ (.lst hs (dps_of S 59 ys _ e.2 dl)) ry
          exact ⟨fun q => SeqAt.in_list_data r2 r1 p2.1 p1.1 dd (by rw [any]; exact q s I), fun q => SeqAt.notIn_list_data r2 r1 p2.1 p1.1 dd (by rw [any]; exact q s I)⟩
        · obtain ⟨bs, r2⟩ := Dp.reads I (.tuple (toPys ys)) _ _ (.tup hs (dps_of S 59 ys _ e.2 dl)) ry
          exact ⟨fun q => SeqAt.in_tuple_data r2 r1 p2.1 p1.1 dd (by rw [any]; exact q s I), fun q => SeqAt.notIn_tuple_data r2 r1 p2.1 p1.1 dd (by rw [any]; exact q s I)⟩
      · cases e
theorem o2_in (hu : X.A.units + 64 < cLine) : Op2 X (compareOp .In) gIn := by
  rintro pins s σ H x y v u Q I rx ry ⟨μ, α, R, dx, dy, d, S, h1, h2, e, q⟩
  obtain ⟨b, c0, rfl⟩ := Option.map_eq_some_iff.mp e; clear e; have e := c0
  exact (in_gen (E := X.xe) hu I rx ry S h1 h2 e).1 fun s' I' => ⟨.bl b, H, I', rfl, q _ R H S .refl (.bool _)⟩
theorem o2_notin (hu : X.A.units + 64 < cLine) : Op2 X (compareOp .NotIn) gNotIn := by
  rintro pins s σ H x y v u Q I rx ry ⟨μ, α, R, dx, dy, d, S, h1, h2, e, q⟩
  obtain ⟨b, c0, rfl⟩ := Option.map_eq_some_iff.mp e; clear e; have e := c0
  exact (in_gen (E := X.xe) hu I rx ry S h1 h2 e).2 fun s' I' => ⟨.bl (!b), H, I', rfl, q _ R H S .refl (.bool _)⟩
end
end TL

set_option Elab.async false
set_option maxRecDepth 100000
set_option maxHeartbeats 1000000
set_option linter.all false
/-! The tree layer, part d: subscripts, slices, calls of built-ins, methods of built-in types. -/
namespace TL
open PySem PySem.Spec PyProof.Rows L2

/-! ### x[i] -/
def gIx : G2 := fun μ x y => match x with
  | .str z => (match y with | .int i => if z.length ≤ sizeLine then (atI z.cps.toList i).map fun c => .str ⟨#[c]⟩ else none | _ => none)
  | x => match dctV μ x with
    | some kvs => (keyOf y).bind (getK kvs)
    | none => match seqR μ x, y with
      | some xs, .int i => atI xs i
      | _, _ => none
section
variable {X : Cx} {E : XK} {a b e : Expr} {fa fb : FE} {pos : Pos}
theorem atI_den {K : PySem.W.Frag} {mg : Str → Option Value} {R : Hp} {α : List Addr} {vs : List V} {xs : List D} {i : Int} {d : D} (h : DenL K mg R α vs xs) (e : atI xs i = some d) : ∃ v, atI vs i = some v ∧ Den K mg R α v d := by
  unfold atI at e ⊢
  obtain ⟨j, e1, e2⟩ := Option.bind_eq_some_iff.mp e
  obtain ⟨v, h1, h2⟩ := h.get' e2
  exact ⟨v, by rw [h.len, e1]; exact h1, h2⟩
theorem ix_of (hu : X.A.units + 64 < cLine) : IxR X fun x y H Q => ∃ μ α R dx dy d, SM X.K X.mg μ α R H ∧ Den X.K X.mg R α x dx ∧ Den X.K X.mg R α y dy ∧ gIx μ dx dy = some d ∧
    ∀ w R' H', SM X.K X.mg μ α R' H' → Adv α R H α R' H' → Den X.K X.mg R' α w d → Q w H' := by
  rintro value slice pins s σ H x y v u Q I rx ry ⟨μ, α, R, dx, dy, d, S, h1, h2, e, q⟩ hs
  unfold gIx at e
  split at e
  · split at e
    · split at e
      · rename_i hl
        obtain ⟨c, e1, rfl⟩ := Option.map_eq_some_iff.mp e
        cases h1; cases h2
        exact ix_str value slice pins s σ H _ _ v u Q I rx ry ⟨_, _, c, rfl, rfl, hl, e1, q _ R H S .refl (.str _)⟩ hs
      · cases e
    · cases e
  · split at e
    · rename_i kvs e1
      obtain ⟨k, e2, e3⟩ := Option.bind_eq_some_iff.mp e
      obtain ⟨a, ks, rfl, hd, hl, dk⟩ := S.dctV h1 e1
      obtain rfl := keyOf_den h2 e2
      have q1 := denK_get (k := k) dk
      rw [e3] at q1
      obtain ⟨v1, q2, q3⟩ := q1
      have g : DGet H a (kV k) (some v1) := .inl ⟨ks, k, hd, rfl, q2.symm⟩
      obtain rfl : v = .ref a := rx
      exact tail_any (dict_typeIs I g) PySem.F.slot_dict_getitem.lookup (d_getItem (by omega) I g ry fun w' s' I' r' => ⟨v1, H, I', r', q _ R H S .refl q3⟩) hs
    · split at e
      · rename_i xs i e1
        obtain ⟨a, vs, rfl, hq, dl⟩ := S.seqR h1 e1
        cases h2
        obtain ⟨w, e2, e3⟩ := atI_den dl e
        rcases hq with hq | hq
        · exact ix_list value slice pins s σ H _ _ v u Q I rx ry ⟨a, vs, _, w, rfl, rfl, hq, e2, q _ R H S .refl e3⟩ hs
        · exact ix_tup value slice pins s σ H _ _ v u Q I rx ry ⟨a, vs, _, w, rfl, rfl, hq, e2, q _ R H S .refl e3⟩ hs
      · cases e
theorem de_ix (hu : X.A.units + 64 < cLine) (ha : DE X E a fa) (hb : DE X E b fb) (hs : PlainIx b := by exact fun _ _ => rfl) : DE X E (.Subscript a b pos) (eBin gIx fa fb) :=
  wE (pe_ix (ix_of hu) ha hb hs) fun σ H Q ⟨ρ, μ, α, R, S, V, h⟩ => ⟨ρ, μ, α, R, S, V, h.bind fun x μ1 v α1 R1 H1 S1 A1 d1 h1 => ⟨ρ, μ1, α1, R1, S1, V.adv A1, h1.bind fun y μ2 u α2 R2 H2 S2 A2 d2 h2 => by
    obtain ⟨d, e1, e2⟩ := h2.ofO
    exact ⟨μ2, α2, R2, x, y, d, S2, d1.adv A2, d2, e1, fun w R' H' S' A' q => e2 w α2 R' H' S' A' q⟩⟩⟩
/-! ### x[i:j] -/
abbrev FO := Env → Mu → Res (Option Int)
abbrev relO : Hp → List Addr → Option Int → Option Int → Prop := fun _ _ a b => a = b
def DO (X : Cx) (E : XK) (e : Option Expr) (f : FO) : Prop := PO X e (Lift X.K X.mg E relO f)
def oNone : FO := fun _ μ => .ok none μ
def oSome (f : FE) : FO := fun ρ μ => (f ρ μ).bind fun d μ1 => match d with
  | .int i => .ok (some i) μ1
  | _ => .bad
theorem wO {e : Option Expr} {t t' : TO} (h : PO X e t) (k : ∀ σ H Q, t' σ H Q → t σ H Q) : PO X e t' := ⟨fun pins s σ H Q I q => h.run pins s σ H Q I (k σ H Q q)⟩
theorem do_none : DO X E none oNone := wO po_none fun σ H Q ⟨ρ, μ, α, R, S, V, h⟩ => h none α R H S .refl rfl
theorem do_some (h : DE X E e fa) : DO X E (some e) (oSome fa) :=
  wO (po_some h) fun σ H Q ⟨ρ, μ, α, R, S, V, h⟩ => ⟨ρ, μ, α, R, S, V, h.bind fun x μ1 v α1 R1 H1 S1 A1 d1 h1 => by
    cases d1 with
    | int i => exact ⟨i, rfl, h1 _ α1 R1 H1 S1 .refl rfl⟩
    | _ => exact False.elim h1⟩
def cutD (xs : List D) (lo hi : Option Int) : List D := (xs.drop (HT.sIx xs.length 0 lo)).take (HT.sIx xs.length xs.length hi - HT.sIx xs.length 0 lo)
theorem cut_den {K : PySem.W.Frag} {mg : Str → Option Value} {R : Hp} {α : List Addr} {vs : List V} {xs : List D} (h : DenL K mg R α vs xs) (lo hi : Option Int) : DenL K mg R α (cutV vs lo hi) (cutD xs lo hi) := by
  unfold cutV cutD
  rw [h.len]
  exact (h.drop _).take _
theorem cut_whole {xs : List D} {lo hi : Option Int} (h : HT.sIx xs.length 0 lo = 0 ∧ HT.sIx xs.length xs.length hi = xs.length) : cutD xs lo hi = xs := by
  unfold cutD
  rw [h.1, h.2]
  simp
def gSl (μ : Mu) (x : D) (lo hi : Option Int) : Option D := match x with
  | .str z => chk (decide (z.length ≤ sizeLine)) (.str (cutS z lo hi))
  | .tuple xs => some (.tuple (cutD xs lo hi))
  | x => (seqL μ x).map fun xs => .list (cutD xs lo hi)
def eSl (fa : FE) (fl fh : FO) : FE := fun ρ μ => (fa ρ μ).bind fun x μ1 => (fl ρ μ1).bind fun lo μ2 => (fh ρ μ2).bind fun hi μ3 => ofO (gSl μ3 x lo hi) μ3
theorem sl_of : SlR X fun x lo hi H Q => ∃ μ α R dx d, SM X.K X.mg μ α R H ∧ Den X.K X.mg R α x dx ∧ gSl μ dx lo hi = some d ∧
    ∀ w R' H', SM X.K X.mg μ α R' H' → Adv α R H α R' H' → Den X.K X.mg R' α w d → Q w H' := by
  rintro pins s σ H x v vl vu lo hi sl Q I rx hsl pl pu ⟨μ, α, R, dx, d, S, h1, e, q⟩
  unfold gSl at e
  split at e
  · obtain ⟨c0, rfl⟩ := chk_some e
    cases h1
    exact sl_str pins s σ H _ v vl vu lo hi sl Q I rx hsl pl pu ⟨_, rfl, of_decide_eq_true c0, q _ R H S .refl (.str _)⟩
  · cases e
    cases h1 with
    | tuple a1 a2 a3 =>
      rename_i xs a vs
      refine sl_tupA pins s σ H _ v vl vu lo hi sl Q I rx hsl pl pu ⟨a, vs, rfl, S.sqT a1, fun hw => ?_, fun hw p hp => ?_⟩
      · rw [a3.len] at hw
        rw [cut_whole hw] at q
        exact q _ R H S .refl (.tuple a1 a2 a3)
      · obtain ⟨S2, A2⟩ := S.lay (u := .tup (cutV vs lo hi)) hp
        exact q _ _ _ S2 A2 (.tuple (.inl (.inl upd_same)) (Nat.le_trans (cutV_length _ _ _) a2) ((cut_den a3 lo hi).adv A2))
  · obtain ⟨xs, e1, rfl⟩ := Option.map_eq_some_iff.mp e
    obtain ⟨a, vs, rfl, hq, hl, dl⟩ := S.seqL h1 e1
    refine sl_list pins s σ H _ v vl vu lo hi sl Q I rx hsl pl pu ⟨a, vs, rfl, SqL.of hq, fun p hp => ?_⟩
    obtain ⟨S2, A2⟩ := S.lay (u := .lst (cutV vs lo hi)) hp
    exact q _ _ _ S2 A2 (.list upd_same (Nat.le_trans (cutV_length _ _ _) hl) ((cut_den dl lo hi).adv A2))
theorem de_sl {lo hi : Option Expr} {fl fh : FO} {p2 : Pos} (ha : DE X E a fa) (hl : DO X E lo fl) (hh : DO X E hi fh) : DE X E (.Subscript a (.Slice lo hi none p2) pos) (eSl fa fl fh) :=
  wE (pe_slice sl_of ha hl hh) fun σ H Q ⟨ρ, μ, α, R, S, V, h⟩ => ⟨ρ, μ, α, R, S, V, h.bind fun x μ1 v α1 R1 H1 S1 A1 d1 h1 => ⟨ρ, μ1, α1, R1, S1, V.adv A1, h1.bind fun y μ2 u α2 R2 H2 S2 A2 d2 h2 => by
    cases d2
    exact ⟨ρ, μ2, α2, R2, S2, (V.adv A1).adv A2, h2.bind fun z μ3 w α3 R3 H3 S3 A3 d3 h3 => by
      cases d3
      obtain ⟨d, e1, e2⟩ := h3.ofO
      exact ⟨μ3, α3, R3, x, d, S3, (d1.adv A2).adv A3, e1, fun w R' H' S' A' q => e2 w α3 R' H' S' A' q⟩⟩⟩⟩
/-! ### calls of built-ins -/
abbrev GL := Mu → List D → Option D
def CalR (X : Cx) (f : Value) (g : GL) : Prop := CallR X f fun vs H Q => ∃ μ α R ds d, SM X.K X.mg μ α R H ∧ DenL X.K X.mg R α vs ds ∧ g μ ds = some d ∧
  ∀ w R' H', SM X.K X.mg μ α R' H' → Adv α R H α R' H' → Den X.K X.mg R' α w d → Q w H'
abbrev GN := Mu → List D → Option Cell
/-- .. that makes a new object -/
def CalN (X : Cx) (f : Value) (g : GN) : Prop := CallR X f fun vs H Q => ∃ μ α R ds c, SM X.K X.mg μ α R H ∧ DenL X.K X.mg R α vs ds ∧ g μ ds = some c ∧
  ∀ w, relN X.K X.mg R α w c → ∀ p, H p = none → Q (.ref p) (upd H p w.2)
def eCall (g : GL) (t : FA) : FE := fun ρ μ => (t ρ μ).bind fun ds μ1 => ofO (g μ1 ds) μ1
def nCall (g : GN) (t : FA) : FN := fun ρ μ => (t ρ μ).bind fun ds μ1 => ofO (g μ1 ds) μ1
variable {x : Str} {p : Pos} {es : List Expr} {t : FA} {id T : String} {g : GL} {gn : GN}
theorem de_callB (hc : CalR X (.builtin id) g) (hg : Gl X x) (hm : X.mg x = none) (hv : bootBuiltins x = some (.builtin id)) (ha : DA X E (e :: es) t) (hn : x ≠ "__name__" := by decide) (hdb : (x == ("__debug__" : Str)) = false := by decide)
    (he : starEach (e :: es) X.env = (false, eval e X.env) :: starEach es X.env := by rfl) (hpl : (backTo pos (starEach es X.env)).any (·.1) = false := by rfl) : DE X E (.Call (.Name x p) (e :: es) [] pos) (eCall g t) :=
  wE (pe_callB hc hg hm hv ha hn hdb he hpl) fun σ H Q ⟨ρ, μ, α, R, S, V, h⟩ => ⟨ρ, μ, α, R, S, V, h.bind fun ds μ1 vs α1 R1 H1 S1 A1 d1 h1 => by
    obtain ⟨d, e1, e2⟩ := h1.ofO
    exact ⟨μ1, α1, R1, ds, d, S1, d1, e1, fun w R' H' S' A' q => e2 w α1 R' H' S' A' q⟩⟩
theorem de_callT (hc : CalR X (.type T) g) (hg : Gl X x) (hm : X.mg x = none) (hv : bootBuiltins x = some (.type T)) (ha : DA X E (e :: es) t) (hn : x ≠ "__name__" := by decide) (hdb : (x == ("__debug__" : Str)) = false := by decide)
    (he : starEach (e :: es) X.env = (false, eval e X.env) :: starEach es X.env := by rfl) (hpl : (backTo pos (starEach es X.env)).any (·.1) = false := by rfl) : DE X E (.Call (.Name x p) (e :: es) [] pos) (eCall g t) :=
  wE (pe_callTy hc hg hm hv ha hn hdb he hpl) fun σ H Q ⟨ρ, μ, α, R, S, V, h⟩ => ⟨ρ, μ, α, R, S, V, h.bind fun ds μ1 vs α1 R1 H1 S1 A1 d1 h1 => by
    obtain ⟨d, e1, e2⟩ := h1.ofO
    exact ⟨μ1, α1, R1, ds, d, S1, d1, e1, fun w R' H' S' A' q => e2 w α1 R' H' S' A' q⟩⟩
theorem dn_callB (hc : CalN X (.builtin id) gn) (hg : Gl X x) (hm : X.mg x = none) (hv : bootBuiltins x = some (.builtin id)) (ha : DA X E (e :: es) t) (hn : x ≠ "__name__" := by decide) (hdb : (x == ("__debug__" : Str)) = false := by decide)
    (he : starEach (e :: es) X.env = (false, eval e X.env) :: starEach es X.env := by rfl) (hpl : (backTo pos (starEach es X.env)).any (·.1) = false := by rfl) : DN X E (.Call (.Name x p) (e :: es) [] pos) (nCall gn t) :=
  wE (pe_callB hc hg hm hv ha hn hdb he hpl) fun σ H Q ⟨ρ, μ, α, R, S, V, h⟩ => ⟨ρ, μ, α, R, S, V, h.bind fun ds μ1 vs α1 R1 H1 S1 A1 d1 h1 => by
    obtain ⟨d, e1, e2⟩ := h1.ofO
    exact ⟨μ1, α1, R1, ds, d, S1, d1, e1, fun w hw p hp => e2 w α1 R1 H1 S1 .refl hw p hp⟩⟩
theorem dn_callT (hc : CalN X (.type T) gn) (hg : Gl X x) (hm : X.mg x = none) (hv : bootBuiltins x = some (.type T)) (ha : DA X E (e :: es) t) (hn : x ≠ "__name__" := by decide) (hdb : (x == ("__debug__" : Str)) = false := by decide)
    (he : starEach (e :: es) X.env = (false, eval e X.env) :: starEach es X.env := by rfl) (hpl : (backTo pos (starEach es X.env)).any (·.1) = false := by rfl) : DN X E (.Call (.Name x p) (e :: es) [] pos) (nCall gn t) :=
  wE (pe_callTy hc hg hm hv ha hn hdb he hpl) fun σ H Q ⟨ρ, μ, α, R, S, V, h⟩ => ⟨ρ, μ, α, R, S, V, h.bind fun ds μ1 vs α1 R1 H1 S1 A1 d1 h1 => by
    obtain ⟨d, e1, e2⟩ := h1.ofO
    exact ⟨μ1, α1, R1, ds, d, S1, d1, e1, fun w hw p hp => e2 w α1 R1 H1 S1 .refl hw p hp⟩⟩
theorem denL1 {K : PySem.W.Frag} {mg : Str → Option Value} {R : Hp} {α : List Addr} {vs : List V} {d : D} (h : DenL K mg R α vs [d]) : ∃ v, vs = [v] ∧ Den K mg R α v d := by
  cases h with
  | cons h t => cases t; exact ⟨_, rfl, h⟩
theorem denL2 {K : PySem.W.Frag} {mg : Str → Option Value} {R : Hp} {α : List Addr} {vs : List V} {d d' : D} (h : DenL K mg R α vs [d, d']) : ∃ v v', vs = [v, v'] ∧ Den K mg R α v d ∧ Den K mg R α v' d' := by
  cases h with
  | cons h t => obtain ⟨v', rfl, h'⟩ := denL1 t; exact ⟨_, v', rfl, h, h'⟩
def gLen : GL := fun μ ds => match ds with
  | [.str z] => chk (decide (z.length ≤ sizeLine)) (.int z.length)
  | [x] => match dctV μ x with
    | some kvs => some (.int kvs.length)
    | none => (seqR μ x).map fun xs => .int xs.length
  | _ => none
theorem cal_len : CalR X (.builtin "len") gLen := by
  rintro pins s σ H vs us Q I r ⟨μ, α, R, ds, d, S, h, e, q⟩
  unfold gLen at e
  split at e
  · obtain ⟨c0, rfl⟩ := chk_some e
    obtain ⟨v, rfl, h1⟩ := denL1 h
    cases h1
    exact call_len_str pins s σ H _ us Q I r ⟨_, rfl, of_decide_eq_true c0, q _ R H S .refl (.int _)⟩
  · obtain ⟨v, rfl, h1⟩ := denL1 h
    split at e
    · rename_i kvs e1
      cases e
      obtain ⟨a, ks, rfl, hd, hl, dk⟩ := S.dctV h1 e1
      obtain ⟨u, rfl, ru⟩ := vals1 r
      obtain rfl : u = .ref a := ru
      exact d_len I hd fun t s' I' => ⟨.int kvs.length, H, I', ⟨t, by rw [dk.len]⟩, q _ R H S .refl (.int _)⟩
    · obtain ⟨xs, e1, rfl⟩ := Option.map_eq_some_iff.mp e
      obtain ⟨a, ws, rfl, hq, dl⟩ := S.seqR h1 e1
      exact call_len_seq pins s σ H _ us Q I r ⟨a, ws, rfl, hq, by rw [dl.len]; exact q _ R H S .refl (.int _)⟩
  · cases e
def gAbs : GL := fun _ ds => match ds with
  | [.int i] => some (.int (if i < 0 then -i else i))
  | _ => none
theorem cal_abs : CalR X (.builtin "abs") gAbs := by
  rintro pins s σ H vs us Q I r ⟨μ, α, R, ds, d, S, h, e, q⟩
  unfold gAbs at e
  split at e
  · cases e
    obtain ⟨v, rfl, h1⟩ := denL1 h
    cases h1
    exact call_abs pins s σ H _ us Q I r ⟨_, rfl, q _ R H S .refl (.int _)⟩
  · cases e
def gMax2 : GL := fun _ ds => match ds with
  | [.int i, .int j] => some (.int (if j > i then j else i))
  | _ => none
def gMin2 : GL := fun _ ds => match ds with
  | [.int i, .int j] => some (.int (if j < i then j else i))
  | _ => none
theorem cal_max2 (hc : X.calm = true) : CalR X (.builtin "max") gMax2 := by
  rintro pins s σ H vs us Q I r ⟨μ, α, R, ds, d, S, h, e, q⟩
  unfold gMax2 at e
  split at e
  · cases e
    obtain ⟨v, v', rfl, h1, h2⟩ := denL2 h
    cases h1; cases h2
    exact call_max2 hc pins s σ H _ us Q I r ⟨_, _, rfl, q _ R H S .refl (.int _)⟩
  · cases e
theorem cal_min2 (hc : X.calm = true) : CalR X (.builtin "min") gMin2 := by
  rintro pins s σ H vs us Q I r ⟨μ, α, R, ds, d, S, h, e, q⟩
  unfold gMin2 at e
  split at e
  · cases e
    obtain ⟨v, v', rfl, h1, h2⟩ := denL2 h
    cases h1; cases h2
    exact call_min2 hc pins s σ H _ us Q I r ⟨_, _, rfl, q _ R H S .refl (.int _)⟩
  · cases e
def gInt : GL := fun _ ds => match ds with
  | [.int i] => some (.int i)
  | [.bool b] => some (.int (if b then 1 else 0))
  | _ => none
theorem cal_int : CalR X (.type "int") gInt := by
  rintro pins s σ H vs us Q I r ⟨μ, α, R, ds, d, S, h, e, q⟩
  unfold gInt at e
  split at e
  · cases e
    obtain ⟨v, rfl, h1⟩ := denL1 h
    cases h1
    exact call_int1 pins s σ H _ us Q I r (.inl ⟨_, rfl, q _ R H S .refl (.int _)⟩)
  · cases e
    obtain ⟨v, rfl, h1⟩ := denL1 h
    cases h1
    exact call_int1 pins s σ H _ us Q I r (.inr ⟨_, rfl, q _ R H S .refl (.int _)⟩)
  · cases e
def bools : List D → Option (List Bool)
  | [] => some []
  | .bool b :: r => (bools r).map (b :: ·)
  | _ => none
theorem bools_den {K : PySem.W.Frag} {mg : Str → Option Value} {R : Hp} {α : List Addr} : ∀ {vs : List V} {xs : List D} {bs : List Bool}, DenL K mg R α vs xs → bools xs = some bs → vs = bs.map V.bl
  | _, _, _, .nil, e => by cases e; rfl
  | _, _, bs, .cons h t, e => by
    cases h with
    | bool b =>
      obtain ⟨r, e1, rfl⟩ := Option.map_eq_some_iff.mp e
      rw [bools_den t e1] <;> rfl
    | _ => cases e
def gAny : GL := fun μ ds => match ds with
  | [x] => ((seqL μ x).bind bools).map fun bs => .bool (bs.any fun b => b)
  | _ => none
def gAll : GL := fun μ ds => match ds with
  | [x] => ((seqL μ x).bind bools).map fun bs => .bool (bs.all fun b => b)
  | _ => none
theorem cal_any (hc : X.calm = true) : CalR X (.builtin "any") gAny := by
  rintro pins s σ H vs us Q I r ⟨μ, α, R, ds, d, S, h, e, q⟩
  unfold gAny at e
  split at e
  · obtain ⟨bs, e1, rfl⟩ := Option.map_eq_some_iff.mp e
    obtain ⟨xs, e2, e3⟩ := Option.bind_eq_some_iff.mp e1
    obtain ⟨v, rfl, h1⟩ := denL1 h
    obtain ⟨a, ws, rfl, hq, hl, dl⟩ := S.seqL h1 e2
    obtain rfl := bools_den dl e3
    exact cr_any hc pins s σ H _ us Q I r ⟨a, bs, rfl, SqL.of hq, q _ R H S .refl (.bool _)⟩
  · cases e
theorem cal_all (hc : X.calm = true) : CalR X (.builtin "all") gAll := by
  rintro pins s σ H vs us Q I r ⟨μ, α, R, ds, d, S, h, e, q⟩
  unfold gAll at e
  split at e
  · obtain ⟨bs, e1, rfl⟩ := Option.map_eq_some_iff.mp e
    obtain ⟨xs, e2, e3⟩ := Option.bind_eq_some_iff.mp e1
    obtain ⟨v, rfl, h1⟩ := denL1 h
    obtain ⟨a, ws, rfl, hq, hl, dl⟩ := S.seqL h1 e2
    obtain rfl := bools_den dl e3
    exact cr_all hc pins s σ H _ us Q I r ⟨a, bs, rfl, SqL.of hq, q _ R H S .refl (.bool _)⟩
  · cases e
def keyD : Key → D
  | .inl i => .int i
  | .inr s => .str s
theorem keyD_den {K : PySem.W.Frag} {mg : Str → Option Value} {R : Hp} {α : List Addr} (k : Key) : Den K mg R α (kV k) (keyD k) := by
  cases k with
  | inl i => exact .int i
  | inr s => exact .str s
theorem keys_den {K : PySem.W.Frag} {mg : Str → Option Value} {R : Hp} {α : List Addr} : ∀ {ks : List (Key × V)} {kvs : List (Key × D)}, DenK K mg R α ks kvs → DenL K mg R α (ks.map fun kv => kV kv.1) (kvs.map fun kv => keyD kv.1)
  | _, _, .nil => .nil
  | _, _, .cons h t => .cons (keyD_den _) (keys_den t)
/-- list(x): of a list, a tuple, a dict -/
def gList : GN := fun μ ds => match ds with
  | [x] => match dctV μ x with
    | some kvs => some (.list (kvs.map fun kv => keyD kv.1))
    | none => match x with
      | .list xs => some (.list xs)
      | .tuple xs => some (.list xs)
      | x => (seqL μ x).map .list
  | _ => none
theorem cal_list (hc : X.calm = true) : CalN X (.type "list") gList := by
  rintro pins s σ H vs us Q I r ⟨μ, α, R, ds, c, S, h, e, q⟩
  unfold gList at e
  split at e
  · obtain ⟨v, rfl, h1⟩ := denL1 h
    split at e
    · rename_i kvs e1
      cases e
      obtain ⟨a, ks, rfl, hd, hl, dk⟩ := S.dctV h1 e1
      exact call_listD hc pins s σ H _ us Q I r ⟨a, ks, rfl, hd, fun p hp => q (.non, .lst _) ⟨_, rfl, by rw [List.length_map]; exact hl, keys_den dk⟩ p hp⟩
    · split at e
      · cases e
        obtain ⟨a, ws, rfl, hq, hl, dl⟩ := S.seqL (xs := _) h1 rfl
        exact call_list_of pins s σ H _ us Q I r ⟨a, ws, rfl, .inl (SqL.of hq), fun p hp => q (.non, .lst ws) ⟨_, rfl, hl, dl⟩ p hp⟩
      · cases e
        cases h1 with
        | tuple a1 a2 a3 => exact call_list_of pins s σ H _ us Q I r ⟨_, _, rfl, .inr (S.sqT a1), fun p hp => q (.non, .lst _) ⟨_, rfl, a2, a3⟩ p hp⟩
      · obtain ⟨xs, e1, rfl⟩ := Option.map_eq_some_iff.mp e
        obtain ⟨a, ws, rfl, hq, hl, dl⟩ := S.seqL h1 e1
        exact call_list_of pins s σ H _ us Q I r ⟨a, ws, rfl, .inl (SqL.of hq), fun p hp => q (.non, .lst ws) ⟨_, rfl, hl, dl⟩ p hp⟩
  · cases e
/-- dict(d) -/
def gDict : GN := fun μ ds => match ds with
  | [x] => (dctV μ x).map .dict
  | _ => none
theorem cal_dict : CalN X (.type "dict") gDict := by
  rintro pins s σ H vs us Q I r ⟨μ, α, R, ds, c, S, h, e, q⟩
  unfold gDict at e
  split at e
  · obtain ⟨v, rfl, h1⟩ := denL1 h
    obtain ⟨kvs, e1, rfl⟩ := Option.map_eq_some_iff.mp e
    obtain ⟨a, ks, rfl, hd, hl, dk⟩ := S.dctV h1 e1
    exact call_dictD pins s σ H _ us Q I r ⟨a, ks, rfl, hd, fun p hp => q (.non, .dK _) ⟨_, rfl, hl, dk⟩ p hp⟩
  · cases e
/-- tuple(x) -/
def gTuple : GL := fun μ ds => match ds with
  | [.tuple xs] => some (.tuple xs)
  | [x] => (seqL μ x).map .tuple
  | _ => none
theorem cal_tuple : CalR X (.type "tuple") gTuple := by
  rintro pins s σ H vs us Q I r ⟨μ, α, R, ds, d, S, h, e, q⟩
  unfold gTuple at e
  split at e
  · obtain ⟨v, rfl, h1⟩ := denL1 h
    cases e
    cases h1 with
    | tuple a1 a2 a3 => exact call_tuple_of pins s σ H _ us Q I r ⟨_, _, rfl, .inr ⟨S.sqT a1, q _ R H S .refl (.tuple a1 a2 a3)⟩⟩
  · obtain ⟨v, rfl, h1⟩ := denL1 h
    obtain ⟨xs, e1, rfl⟩ := Option.map_eq_some_iff.mp e
    obtain ⟨a, ws, rfl, hq, hl, dl⟩ := S.seqL h1 e1
    refine call_tuple_of pins s σ H _ us Q I r ⟨_, _, rfl, .inl ⟨SqL.of hq, fun p hp => ?_⟩⟩
    obtain ⟨S2, A2⟩ := S.lay (u := .tup ws) hp
    exact q _ _ _ S2 A2 (.tuple (.inl (.inl upd_same)) hl (dl.adv A2))
  · cases e
/-! ### isinstance(x, T), T a built-in type -/
def typeNm (μ : Mu) : D → Option String
  | .none => some "NoneType"
  | .bool _ => some "bool"
  | .int _ => some "int"
  | .str _ => some "str"
  | .list _ => some "list"
  | .tuple _ => some "tuple"
  | .dict _ => some "dict"
  | .script _ => some "list"
  | .loc n => match μ[n]? with
    | some (some (.list _)) => some "list"
    | some (some (.dict _)) => some "dict"
    | _ => none
  | _ => none
def tyIs (n T : String) : Bool := n == T || (n == "bool" && T == "int")
def KitOk (T : String) : Prop := ∀ n ∈ (["NoneType", "bool", "int", "str", "list", "tuple", "dict"] : List String), kitB n T = some (tyIs n T)
theorem kit_int : KitOk "int" := by unfold KitOk; decide +kernel
theorem kit_bool : KitOk "bool" := by unfold KitOk; decide +kernel
theorem kit_str : KitOk "str" := by unfold KitOk; decide +kernel
theorem kit_list : KitOk "list" := by unfold KitOk; decide +kernel
theorem kit_tuple : KitOk "tuple" := by unfold KitOk; decide +kernel
theorem kit_dict : KitOk "dict" := by unfold KitOk; decide +kernel
theorem ty_den {K : PySem.W.Frag} {mg : Str → Option Value} {R H : Hp} {α : List Addr} {μ : Mu} {v : V} {d : D} {n : String} (S : SM K mg μ α R H) (h : Den K mg R α v d) (e : typeNm μ d = some n) :
    TyX K H v (.type n) ∧ n ∈ (["NoneType", "bool", "int", "str", "list", "tuple", "dict"] : List String) := by
  have sl : ∀ {a : Addr} {xs : List V}, SqL K H a xs → TyX K H (.ref a) (.type "list") := fun {a xs} q => by
    rcases q with (q | ⟨o, q⟩) | ⟨o, its, n, q1, q2, _⟩
    · exact .base (.lst q)
    · exact .base (.frz q)
    · exact .kList q1 q2
  have stp : ∀ {a : Addr} {xs : List V}, SqT K H a xs → TyX K H (.ref a) (.type "tuple") := fun {a xs} q => by
    rcases q with (q | ⟨o, q⟩) | ⟨o, its, n, q1, q2, _⟩
    · exact .base (.tup q)
    · exact .fTuple q
    · exact .kTuple q1 q2
  have sd : ∀ {a : Addr} {ks : List (Key × V)}, Rd H a (.dK ks) → TyX K H (.ref a) (.type "dict") := fun {a xs} q => by
    rcases q with q | ⟨o, q⟩
    · exact .base (.dK q)
    · exact .fDict q
  cases h with
  | none => cases e; exact ⟨.base .non, by simp⟩
  | bool b => cases e; exact ⟨.base (.bl b), by simp⟩
  | int b => cases e; exact ⟨.base (.int b), by simp⟩
  | str b => cases e; exact ⟨.base (.str b), by simp⟩
  | list q _ _ => cases e; exact ⟨sl (SqL.of (S.lst q)), by simp⟩
  | tuple q _ _ => cases e; exact ⟨stp (S.sqT q), by simp⟩
  | dict q _ _ => cases e; exact ⟨sd (S.dct q), by simp⟩
  | script q => cases e; exact ⟨sl (S.sqL q), by simp⟩
  | obj _ _ _ => cases e
  | fn _ => cases e
  | ty _ => cases e
  | loc q =>
    rename_i a k
    simp only [typeNm] at e
    split at e
    · rename_i xs e2
      cases e
      obtain ⟨_, vs, h1, h2, h3⟩ := S.cell k _ a e2 q
      exact ⟨sl (SqL.of h1), by simp⟩
    · rename_i xs e2
      cases e
      obtain ⟨_, vs, h1, h2, h3⟩ := S.cell k _ a e2 q
      exact ⟨sd (.inl h1), by simp⟩
    · cases e
def gIsi : GL := fun μ ds => match ds with
  | [x, .ty T] => if T ∈ (["int", "bool", "str", "list", "tuple", "dict"] : List String) then (typeNm μ x).map fun n => .bool (tyIs n T) else none
  | _ => none
theorem cal_isi : CalR X (.builtin "isinstance") gIsi := by
  rintro pins s σ H vs us Q I r ⟨μ, α, R, ds, d, S, h, e, q⟩
  unfold gIsi at e
  split at e
  · rename_i x T
    split at e
    · rename_i hT
      obtain ⟨n, e1, rfl⟩ := Option.map_eq_some_iff.mp e
      obtain ⟨v, v', rfl, h1, h2⟩ := denL2 h
      cases h2
      obtain ⟨t1, t2⟩ := ty_den S h1 e1
      have k : KitOk T := by
        simp only [List.mem_cons, List.not_mem_nil, or_false] at hT
        rcases hT with rfl | rfl | rfl | rfl | rfl | rfl
        · exact kit_int
        · exact kit_bool
        · exact kit_str
        · exact kit_list
        · exact kit_tuple
        · exact kit_dict
      exact call_isi pins s σ H _ us Q I r ⟨v, _, .type n, .type T, _, rfl, .ty T, t1, kit_ty (k n t2), q _ R H S .refl (.bool _)⟩
    · cases e
  · cases e
theorem de_ty {T : String} (hg : Gl X x) (hm : X.mg x = none) (hv : bootBuiltins x = some (.type T)) (hn : x ≠ "__name__" := by decide) (hd : (x == ("__debug__" : Str)) = false := by decide) : DE X E (.Name x pos) (eC (.ty T)) :=
  de_cst (v := .ty T) (pe_bltn hg hm hv rfl hn hd) fun _ _ => .ty T
end
end TL

set_option Elab.async false
set_option maxRecDepth 100000
set_option maxHeartbeats 1000000
set_option linter.all false
/-! The tree layer, part e: statements, targets, loops, comprehensions. -/
namespace TL
open PySem PySem.Spec PyProof.Rows L2

inductive Flow where
  | nx (ρ : Env) | rt (d : D) | bk (ρ : Env) | ct (ρ : Env)
abbrev FS := Env → Mu → Res Flow
section
variable (K : PySem.W.Frag) (mg : Str → Option Value) (E : XK)
def AfterS (α : List Addr) (R H : Hp) (r : Res Flow) (Dn : Ends) : Prop := match r with
  | .ok (.nx ρ) μ' => ∀ σ' α' R' H', SM K mg μ' α' R' H' → Adv α R H α' R' H' → SS K mg ρ R' α' σ' → Dn.nx σ' H'
  | .ok (.rt d) μ' => ∀ v α' R' H', SM K mg μ' α' R' H' → Adv α R H α' R' H' → Den K mg R' α' v d → Dn.rt v H'
  | .ok (.bk ρ) μ' => ∀ σ' α' R' H', SM K mg μ' α' R' H' → Adv α R H α' R' H' → SS K mg ρ R' α' σ' → Dn.bk σ' H'
  | .ok (.ct ρ) μ' => ∀ σ' α' R' H', SM K mg μ' α' R' H' → Adv α R H α' R' H' → SS K mg ρ R' α' σ' → Dn.ct σ' H'
  | .ex x μ' => ∀ cls od α' R' H', SM K mg μ' α' R' H' → Adv α R H α' R' H' → DenX K mg R' α' H' cls od x → E cls od H'
  | .bad => False
def LiftS (f : FS) : TS := fun Dn σ H => ∃ ρ μ α R, SM K mg μ α R H ∧ SS K mg ρ R α σ ∧ AfterS K mg E α R H (f ρ μ) Dn
end
section
variable {K : PySem.W.Frag} {mg : Str → Option Value} {E : XK} {R R' H H' : Hp} {α α' : List Addr} {μ μ' : Mu} {Dn : Ends}
theorem AfterS.adv {r : Res Flow} (A : Adv α R H α' R' H') (h : AfterS K mg E α R H r Dn) : AfterS K mg E α' R' H' r Dn := by
  cases r with
  | ok f μ1 => cases f with
    | nx ρ => exact fun σ' α2 R2 H2 S2 A2 q => h σ' α2 R2 H2 S2 (A.trans A2) q
    | rt ρ => exact fun σ' α2 R2 H2 S2 A2 q => h σ' α2 R2 H2 S2 (A.trans A2) q
    | bk ρ => exact fun σ' α2 R2 H2 S2 A2 q => h σ' α2 R2 H2 S2 (A.trans A2) q
    | ct ρ => exact fun σ' α2 R2 H2 S2 A2 q => h σ' α2 R2 H2 S2 (A.trans A2) q
  | ex x μ1 => exact fun c o α2 R2 H2 S2 A2 q => h c o α2 R2 H2 S2 (A.trans A2) q
  | bad => exact h
/-- an expression first, then the rest of a statement -/
theorem AfterS.bind {ω τ : Type} {rel : Hp → List Addr → ω → τ → Prop} {r : Res τ} {k : τ → Mu → Res Flow} {Q1 : ω → Hp → Prop} (h : AfterS K mg E α R H (r.bind k) Dn)
    (go : ∀ d μ1 w α1 R1 H1, SM K mg μ1 α1 R1 H1 → Adv α R H α1 R1 H1 → rel R1 α1 w d → AfterS K mg E α1 R1 H1 (k d μ1) Dn → Q1 w H1) : After K mg E rel α R H r Q1 := by
  cases r with
  | ok d μ1 => exact fun w α1 R1 H1 S A q => go d μ1 w α1 R1 H1 S A q (AfterS.adv (Dn := Dn) (r := k d μ1) A h)
  | ex x μ1 => exact h
  | bad => exact h
/-- a statement first, then the rest -/
theorem AfterS.seq {r : Res Flow} {k : Flow → Mu → Res Flow} {D1 : Ends} (h : AfterS K mg E α R H (r.bind k) Dn)
    (nx : ∀ ρ μ1 σ1 α1 R1 H1, SM K mg μ1 α1 R1 H1 → Adv α R H α1 R1 H1 → SS K mg ρ R1 α1 σ1 → AfterS K mg E α1 R1 H1 (k (.nx ρ) μ1) Dn → D1.nx σ1 H1)
    (rt : ∀ d μ1 v α1 R1 H1, SM K mg μ1 α1 R1 H1 → Adv α R H α1 R1 H1 → Den K mg R1 α1 v d → AfterS K mg E α1 R1 H1 (k (.rt d) μ1) Dn → D1.rt v H1)
    (bk : ∀ ρ μ1 σ1 α1 R1 H1, SM K mg μ1 α1 R1 H1 → Adv α R H α1 R1 H1 → SS K mg ρ R1 α1 σ1 → AfterS K mg E α1 R1 H1 (k (.bk ρ) μ1) Dn → D1.bk σ1 H1)
    (ct : ∀ ρ μ1 σ1 α1 R1 H1, SM K mg μ1 α1 R1 H1 → Adv α R H α1 R1 H1 → SS K mg ρ R1 α1 σ1 → AfterS K mg E α1 R1 H1 (k (.ct ρ) μ1) Dn → D1.ct σ1 H1) : AfterS K mg E α R H r D1 := by
  cases r with
  | ok f μ1 =>
    have h' : AfterS K mg E α R H (k f μ1) Dn := h
    cases f with
    | nx ρ => exact fun σ' α2 R2 H2 S2 A2 q => nx ρ μ1 σ' α2 R2 H2 S2 A2 q (h'.adv A2)
    | rt ρ => exact fun σ' α2 R2 H2 S2 A2 q => rt ρ μ1 σ' α2 R2 H2 S2 A2 q (h'.adv A2)
    | bk ρ => exact fun σ' α2 R2 H2 S2 A2 q => bk ρ μ1 σ' α2 R2 H2 S2 A2 q (h'.adv A2)
    | ct ρ => exact fun σ' α2 R2 H2 S2 A2 q => ct ρ μ1 σ' α2 R2 H2 S2 A2 q (h'.adv A2)
  | ex x μ1 => exact h
  | bad => exact h
end
def DS (X : Cx) (E : XK) (st : Stmt) (f : FS) : Prop := PS X st (LiftS X.K X.mg E f)
def DSs (X : Cx) (E : XK) (st : List Stmt) (f : FS) : Prop := PSs X st (LiftS X.K X.mg E f)
def sNil : FS := fun ρ μ => .ok (.nx ρ) μ
def sSeq (f g : FS) : FS := fun ρ μ => (f ρ μ).bind fun fl μ1 => match fl with
  | .nx ρ1 => g ρ1 μ1
  | fl => .ok fl μ1
def sBk : FS := fun ρ μ => .ok (.bk ρ) μ
def sCt : FS := fun ρ μ => .ok (.ct ρ) μ
def sExpr (f : FE) : FS := fun ρ μ => (f ρ μ).bind fun _ μ1 => .ok (.nx ρ) μ1
def sRet (f : FE) : FS := fun ρ μ => (f ρ μ).bind fun d μ1 => .ok (.rt d) μ1
def sRetN : FS := fun _ μ => .ok (.rt .none) μ
def sIf (c : FT) (f g : FS) : FS := fun ρ μ => (c ρ μ).bind fun b μ1 => if b = true then f ρ μ1 else g ρ μ1
def sSet (i : Nat) (f : FE) : FS := fun ρ μ => (f ρ μ).bind fun d μ1 => .ok (.nx (ρ.set i (some d))) μ1
section
variable {X : Cx} {E : XK} {st : Stmt} {rest : List Stmt} {f g : FS} {e c : Expr} {fe : FE} {pos : Pos}
theorem SS.set {K : PySem.W.Frag} {mg : Str → Option Value} {R : Hp} {α : List Addr} {ρ : Env} {σ : L2.St} {v : V} {d : D} (V : SS K mg ρ R α σ) (i : Nat) (h : Den K mg R α v d) : SS K mg (ρ.set i (some d)) R α (σ.set i (some v)) := by
  refine ⟨by simp [V.1], fun j x q => ?_⟩
  by_cases hj : i = j
  · subst hj
    have hl : i < ρ.length := by
      have := (List.getElem?_eq_some_iff.mp q).1
      simpa using this
    rw [List.getElem?_set_self hl] at q
    cases q
    exact ⟨v, List.getElem?_set_self (by rw [← V.1]; exact hl), h⟩
  · rw [List.getElem?_set_ne hj] at q
    obtain ⟨w, h1, h2⟩ := V.2 j x q
    exact ⟨w, by rw [List.getElem?_set_ne hj]; exact h1, h2⟩
theorem dss_nil : DSs X E [] sNil := wSs pss_nil fun Dn σ H ⟨ρ, μ, α, R, S, V, h⟩ => h σ α R H S .refl V
theorem dss_cons (h1 : DS X E st f) (h2 : DSs X E rest g) : DSs X E (st :: rest) (sSeq f g) :=
  wSs (pss_cons h1 h2) fun Dn σ H ⟨ρ, μ, α, R, S, V, h⟩ => ⟨ρ, μ, α, R, S, V, h.seq
    (fun ρ1 μ1 σ1 α1 R1 H1 S1 A1 V1 q => ⟨ρ1, μ1, α1, R1, S1, V1, q⟩)
    (fun d μ1 v α1 R1 H1 S1 A1 q1 q => q v α1 R1 H1 S1 .refl q1)
    (fun d μ1 v α1 R1 H1 S1 A1 q1 q => q v α1 R1 H1 S1 .refl q1)
    (fun d μ1 v α1 R1 H1 S1 A1 q1 q => q v α1 R1 H1 S1 .refl q1)⟩
theorem dss_one (h1 : DS X E st f) : DSs X E [st] f := pss_one h1
theorem ds_pass : DS X E (.Pass pos) sNil := wS ps_pass fun Dn σ H ⟨ρ, μ, α, R, S, V, h⟩ => h σ α R H S .refl V
theorem ds_break : DS X E (.Break pos) sBk := wS ps_break fun Dn σ H ⟨ρ, μ, α, R, S, V, h⟩ => h σ α R H S .refl V
theorem ds_continue : DS X E (.Continue pos) sCt := wS ps_continue fun Dn σ H ⟨ρ, μ, α, R, S, V, h⟩ => h σ α R H S .refl V
theorem ds_doc {x j pos pos'} : DS X E (.Expr (.Constant (.str x) j pos) pos') sNil := wS ps_doc fun Dn σ H ⟨ρ, μ, α, R, S, V, h⟩ => h σ α R H S .refl V
theorem ds_expr (he : DE X E e fe) (hs : swapsWith e none pos.line X.env = pure false := by rfl) : DS X E (.Expr e pos) (sExpr fe) :=
  wS (ps_expr he hs) fun Dn σ H ⟨ρ, μ, α, R, S, V, h⟩ => ⟨ρ, μ, α, R, S, V, h.bind fun d μ1 v α1 R1 H1 S1 A1 q1 q => q σ α1 R1 H1 S1 .refl (V.adv A1)⟩
theorem ds_ret (he : DE X E e fe) : DS X E (.Return (some e) pos) (sRet fe) :=
  wS (ps_ret he) fun Dn σ H ⟨ρ, μ, α, R, S, V, h⟩ => ⟨ρ, μ, α, R, S, V, h.bind fun d μ1 v α1 R1 H1 S1 A1 q1 q => q v α1 R1 H1 S1 .refl q1⟩
theorem ds_retN : DS X E (.Return none pos) sRetN := wS ps_retN fun Dn σ H ⟨ρ, μ, α, R, S, V, h⟩ => h .non α R H S .refl .none
theorem ds_if {a b : List Stmt} {tc : FT} (hc : DT X E c tc) (ha : DSs X E a f) (hb : DSs X E b g) : DS X E (.If c a b pos) (sIf tc f g) :=
  wS (ps_if hc ha hb) fun Dn σ H ⟨ρ, μ, α, R, S, V, h⟩ => ⟨ρ, μ, α, R, S, V, h.bind fun b μ1 c α1 R1 H1 S1 A1 q1 q => by
    cases q1
    cases b with
    | true => exact ⟨ρ, μ1, α1, R1, S1, V.adv A1, q⟩
    | false => exact ⟨ρ, μ1, α1, R1, S1, V.adv A1, q⟩⟩
theorem ds_set {i : Nat} {x : Str} {pos' : Pos} (hN : X.N.Nodup) (hi : X.N[i]? = some x) (hx : Loc X.env.scope x) (he : DE X E e fe) (hs : swapsWith e (some (.Name x pos')) pos.line X.env = pure false := by rfl) (hf : X.fn x = true ∨ X.env.scope.names.lookup x = some .local := by first | exact .inl rfl | exact .inr rfl | assumption) :
    DS X E (.Assign [.Name x pos'] e pos) (sSet i fe) :=
  wS (ps_set hN hi hx he hs hf) fun Dn σ H ⟨ρ, μ, α, R, S, V, h⟩ => ⟨ρ, μ, α, R, S, V, h.bind fun d μ1 v α1 R1 H1 S1 A1 q1 q => q _ α1 R1 H1 S1 .refl ((V.adv A1).set i q1)⟩
end
/-! ### targets of names and tuples -/
inductive Tg where
  | nm (i : Nat) | tp (ts : List Tg)
mutual
def tgSet : Tg → D → Env → Option Env
  | .nm i, d, ρ => some (ρ.set i (some d))
  | .tp ts, d, ρ => match d with
    | .tuple xs => tgSets ts xs ρ
    | _ => none
def tgSets : List Tg → List D → Env → Option Env
  | [], [], ρ => some ρ
  | t :: ts, x :: xs, ρ => match tgSet t x ρ with
    | some ρ1 => tgSets ts xs ρ1
    | none => none
  | _, _, _ => none
end
mutual
def tgSlots : Tg → List Nat
  | .nm i => [i]
  | .tp ts => tgSlotss ts
def tgSlotss : List Tg → List Nat
  | [] => []
  | t :: ts => tgSlots t ++ tgSlotss ts
end
mutual
def hG (K : PySem.W.Frag) : Tg → TG
  | .nm i => gName i
  | .tp ts => gTup K ts.length (hGs K ts)
def hGs (K : PySem.W.Frag) : List Tg → TGs
  | [] => gNil
  | t :: ts => gCons (hG K t) (hGs K ts)
end
theorem wipe_none {σ : L2.St} {i : Nat} : ∀ {vs : List Nat}, i ∈ vs → ∀ x, (wipe σ vs)[i]? ≠ some (some x) := fun {vs} h x e => (wipe_some e).2 h
theorem wipe_ext {σ σ' : L2.St} {vs : List Nat} (hl : σ'.length = σ.length) (h : ∀ i, i ∉ vs → σ'[i]? = σ[i]?) : wipe σ' vs = wipe σ vs := by
  have key : ∀ (us : List Nat) (τ : L2.St) (i : Nat), (wipe τ us)[i]? = if i ∈ us ∧ i < τ.length then some none else τ[i]? := by
    intro us
    induction us with
    | nil => intro τ i; simp [wipe]
    | cons u us ih =>
      intro τ i
      show ((wipe τ us).set u none)[i]? = _
      by_cases e : u = i
      · subst e
        by_cases hu : u < τ.length
        · rw [List.getElem?_set_self (by rw [wipe_length]; exact hu), if_pos ⟨by simp, hu⟩]
        · rw [List.getElem?_eq_none (by simp [wipe_length]; omega), if_neg (fun q => hu q.2), List.getElem?_eq_none (by omega)]
      · rw [List.getElem?_set_ne e, ih]
        by_cases q : i ∈ us ∧ i < τ.length
        · rw [if_pos q, if_pos ⟨List.mem_cons_of_mem _ q.1, q.2⟩]
        · rw [if_neg q, if_neg fun z => q ⟨(List.mem_cons.mp z.1).resolve_left (fun w => e w.symm), z.2⟩]
  apply List.ext_getElem?
  intro i
  rw [key, key, hl]
  by_cases q : i ∈ vs ∧ i < σ.length
  · rw [if_pos q, if_pos q]
  · rw [if_neg q, if_neg q]
    by_cases hi : i < σ.length
    · exact h i fun z => q ⟨z, hi⟩
    · rw [List.getElem?_eq_none (by omega), List.getElem?_eq_none (by omega)]
section
variable {K : PySem.W.Frag} {mg : Str → Option Value} {R H : Hp} {α : List Addr} {μ : Mu}
mutual
theorem tg_ok (S : SM K mg μ α R H) : ∀ (T : Tg) (d : D) (v : V) (ρ ρ' : Env) (σ : L2.St) (Q : L2.St → Hp → Prop), SS K mg ρ R α σ → Den K mg R α v d → tgSet T d ρ = some ρ' →
    (∀ σ', SS K mg ρ' R α σ' → σ'.length = σ.length → (∀ i, i ∉ tgSlots T → σ'[i]? = σ[i]?) → Q σ' H) → hG K T v σ H Q
  | .nm i, d, v, ρ, ρ', σ, Q, V, h, e, q => by
    simp only [tgSet] at e
    cases e
    simp only [hG]
    exact q _ (V.set i h) (by simp) fun j hj => List.getElem?_set_ne (fun z => hj (by simp [tgSlots, z]))
  | .tp ts, d, v, ρ, ρ', σ, Q, V, h, e, q => by
    simp only [tgSet] at e
    split at e
    · rename_i xs
      cases h with
      | tuple h1 h2 h3 =>
        rename_i a vs
        have hl := tgs_len ts xs ρ ρ' e
        simp only [hG]
        exact ⟨a, vs, rfl, S.sqT h1, by rw [h3.len, hl], tgs_ok S ts xs vs ρ ρ' σ Q V h3 e fun σ' V' l z => q σ' V' l fun i hi => z i (by simpa [tgSlots] using hi)⟩
    · cases e
theorem tgs_ok (S : SM K mg μ α R H) : ∀ (T : List Tg) (d : List D) (v : List V) (ρ ρ' : Env) (σ : L2.St) (Q : L2.St → Hp → Prop), SS K mg ρ R α σ → DenL K mg R α v d → tgSets T d ρ = some ρ' →
    (∀ σ', SS K mg ρ' R α σ' → σ'.length = σ.length → (∀ i, i ∉ tgSlotss T → σ'[i]? = σ[i]?) → Q σ' H) → hGs K T v σ H Q
  | [], [], _, ρ, ρ', σ, Q, V, .nil, e, q => by
    simp only [tgSets] at e
    cases e
    simp only [hGs]
    exact ⟨rfl, q σ V rfl fun _ _ => rfl⟩
  | [], _ :: _, _, ρ, ρ', σ, Q, V, _, e, q => by simp [tgSets] at e
  | _ :: _, [], _, ρ, ρ', σ, Q, V, _, e, q => by simp [tgSets] at e
  | t :: ts, x :: xs, _, ρ, ρ', σ, Q, V, .cons h1 h2, e, q => by
    simp only [tgSets] at e
    split at e
    · rename_i ρ1 e1
      simp only [hGs]
      refine ⟨_, _, rfl, tg_ok S t x _ ρ ρ1 σ _ V h1 e1 fun σ1 V1 l1 z1 => tgs_ok S ts xs _ ρ1 ρ' σ1 Q V1 h2 e fun σ2 V2 l2 z2 => q σ2 V2 (l2.trans l1) fun i hi => ?_⟩
      simp only [tgSlotss, List.mem_append, not_or] at hi
      rw [z2 i hi.2, z1 i hi.1]
    · cases e
theorem tgs_len : ∀ (ts : List Tg) (xs : List D) (ρ ρ' : Env), tgSets ts xs ρ = some ρ' → xs.length = ts.length
  | [], [], _, _, _ => rfl
  | [], _ :: _, _, _, e => by simp [tgSets] at e
  | _ :: _, [], _, _, e => by simp [tgSets] at e
  | t :: ts, x :: xs, ρ, ρ', e => by
    simp only [tgSets] at e
    split at e
    · simp only [List.length_cons, tgs_len ts xs _ ρ' e]
    · cases e
end
end
section
variable {X : Cx} {E : XK} {pos : Pos}
def GT (X : Cx) (tg : Expr) (T : Tg) : Prop := PG X tg (hG X.K T)
def GTs (X : Cx) (tg : List Expr) (T : List Tg) : Prop := PGs X tg (hGs X.K T) ∧ tg.length = T.length
theorem gt_nm {i : Nat} {x : Str} (hN : X.N.Nodup) (hi : X.N[i]? = some x) (hx : Loc X.env.scope x) (hf : X.fn x = true ∨ X.env.scope.names.lookup x = some .local := by first | exact .inl rfl | exact .inr rfl | assumption) : GT X (.Name x pos) (.nm i) := by
  unfold GT; simp only [hG]; exact pg_name hN hi hx hf
theorem gts_nil : GTs X [] [] := by unfold GTs; simp only [hGs]; exact ⟨pgs_nil, rfl⟩
theorem gts_cons {e : Expr} {es : List Expr} {t : Tg} {ts : List Tg} (h1 : GT X e t) (h2 : GTs X es ts) (hs : (assignEach (e :: es) X.env).map (·.2) = assign e X.env :: (assignEach es X.env).map (·.2) := by rfl) : GTs X (e :: es) (t :: ts) := by
  unfold GTs; simp only [hGs]; exact ⟨pgs_cons h1 h2.1 hs, by simp [h2.2]⟩
theorem gt_tp {es : List Expr} {k : Nat} {ts : List Tg} (hc : X.calm = true) (h : GTs X es ts) (hn : (assignEach es X.env).length = ts.length := by rfl) (hst : (assignEach es X.env).findIdx? (·.1) = none := by rfl) : GT X (.Tuple es k pos) (.tp ts) := by
  unfold GT; simp only [hG]; exact pg_tup hc h.1 hn hst
def sAsg (T : Tg) (f : FE) : FS := fun ρ μ => (f ρ μ).bind fun d μ1 => match tgSet T d ρ with
  | some ρ1 => .ok (.nx ρ1) μ1
  | none => .bad
theorem ds_asg {tg e : Expr} {T : Tg} {fe : FE} (he : DE X E e fe) (hg : GT X tg T) (hs : swapsWithSole [tg] e pos.line X.env = pure false := by rfl) (hw : swappedStores [tg] e X.env = pure none := by rfl)
    (h1 : (assignEach [tg] X.env).map (·.2) = [assign tg X.env] := by rfl) : DS X E (.Assign [tg] e pos) (sAsg T fe) :=
  wS (ps_asg he hg hs hw h1) fun Dn σ H ⟨ρ, μ, α, R, S, V, h⟩ => ⟨ρ, μ, α, R, S, V, h.bind fun d μ1 v α1 R1 H1 S1 A1 q1 q => by
    cases e : tgSet T d ρ with
    | none => rw [e] at q; exact False.elim q
    | some ρ1 =>
      rw [e] at q
      exact tg_ok S1 T d v ρ ρ1 σ _ (V.adv A1) q1 e fun σ' V' _ _ => q σ' α1 R1 H1 S1 .refl V'⟩
/-- a, b = x, y of plain names -/
def sPar2 (i j : Nat) (t : FA) : FS := fun ρ μ => (t ρ μ).bind fun ds μ1 => match ds with
  | [x, y] => .ok (.nx ((ρ.set i (some x)).set j (some y))) μ1
  | _ => .bad
theorem ds_par2 {i j : Nat} {x y : Str} {a b : Expr} {ta : FA} {px py pt : Pos} {kt k2 pt2} (hc : X.calm = true) (hN : X.N.Nodup) (hi : X.N[i]? = some x) (hj : X.N[j]? = some y) (hij : i ≠ j)
    (hx : X.env.scope.names.lookup x = some .local) (hy : X.env.scope.names.lookup y = some .local) (ha : DA X E [a, b] ta)
    (hw : swappedStores [.Tuple [.Name x px, .Name y py] kt pt] (.Tuple [a, b] k2 pt2) X.env = pure (some [x, y]) := by rfl)
    (hs : swapsWithSole [.Tuple [.Name x px, .Name y py] kt pt] (.Tuple [a, b] k2 pt2) pos.line X.env = pure false := by rfl) :
    DS X E (.Assign [.Tuple [.Name x px, .Name y py] kt pt] (.Tuple [a, b] k2 pt2) pos) (sPar2 i j ta) :=
  wS (ps_par hc hN hi hj hij hx hy ha hw hs) fun Dn σ H ⟨ρ, μ, α, R, S, V, h⟩ => ⟨ρ, μ, α, R, S, V, h.bind fun ds μ1 vs α1 R1 H1 S1 A1 q1 q => by
    cases q1 with
    | nil => exact False.elim q
    | cons p1 t => cases t with
      | nil => exact False.elim q
      | cons p2 t => cases t with
        | nil => exact ⟨_, _, rfl, q _ α1 R1 H1 S1 .refl (((V.adv A1).set i p1).set j p2)⟩
        | cons _ _ => exact False.elim q⟩
def sPar3 (i j l : Nat) (t : FA) : FS := fun ρ μ => (t ρ μ).bind fun ds μ1 => match ds with
  | [x, y, z] => .ok (.nx (((ρ.set i (some x)).set j (some y)).set l (some z))) μ1
  | _ => .bad
end
/-! ### for -/
/-- what is walked: the items as trees; chk: what must hold of the store at each turn -/
structure Iter where
  items : List D
  chk : Mu → Bool
abbrev FI := Env → Mu → Res Iter
/-- J gives these items from (α, R, H) on -/
structure Good (K : PySem.W.Frag) (mg : Str → Option Value) (J : It) (it : Iter) (α : List Addr) (R H : Hp) : Prop where
  len : it.items.length ≤ sizeLine
  go : ∀ μ' α' R' H' (i : Nat) d, SM K mg μ' α' R' H' → Adv α R H α' R' H' → it.chk μ' = true → it.items[i]? = some d →
    J.go i H' ∧ ∀ x H2, J.yld i H' x H2 → ∃ R2, SM K mg μ' α' R2 H2 ∧ Adv α' R' H' α' R2 H2 ∧ Den K mg R2 α' x d
  stop : ∀ μ' α' R' H', SM K mg μ' α' R' H' → Adv α R H α' R' H' → it.chk μ' = true → J.stop it.items.length H'
def AfterI (K : PySem.W.Frag) (mg : Str → Option Value) (E : XK) (α : List Addr) (R H : Hp) (r : Res Iter) (Rr : It → Hp → Prop) : Prop := match r with
  | .ok it μ1 => ∀ J α1 R1 H1, SM K mg μ1 α1 R1 H1 → Adv α R H α1 R1 H1 → Good K mg J it α1 R1 H1 → Rr J H1
  | .ex x μ' => ∀ cls od α' R' H', SM K mg μ' α' R' H' → Adv α R H α' R' H' → DenX K mg R' α' H' cls od x → E cls od H'
  | .bad => False
def LiftI (K : PySem.W.Frag) (mg : Str → Option Value) (E : XK) (f : FI) : TI := fun σ H Rr => ∃ ρ μ α R, SM K mg μ α R H ∧ SS K mg ρ R α σ ∧ AfterI K mg E α R H (f ρ μ) Rr
def DI (X : Cx) (E : XK) (tg iter : Expr) (f : FI) : Prop := PI X tg iter (LiftI X.K X.mg E f)
/-- the turns -/
def forL (chk : Mu → Bool) (T : Tg) (body : FS) : List D → Env → Mu → Res Flow
  | [], ρ, μ => if chk μ = true then .ok (.nx ρ) μ else .bad
  | x :: xs, ρ, μ => if chk μ = true then (match tgSet T x ρ with
    | some ρ1 => (body ρ1 μ).bind fun fl μ1 => match fl with
      | .nx ρ2 => forL chk T body xs ρ2 μ1
      | .ct ρ2 => forL chk T body xs ρ2 μ1
      | .bk ρ2 => .ok (.nx ρ2) μ1
      | .rt d => .ok (.rt d) μ1
    | none => .bad) else .bad
def sFor (f : FI) (T : Tg) (body : FS) : FS := fun ρ μ => (f ρ μ).bind fun it μ1 => forL it.chk T body it.items ρ μ1
section
variable {X : Cx} {E : XK} {pos : Pos}
theorem ds_for {iter tg : Expr} {body : List Stmt} {fi : FI} {T : Tg} {fb : FS} (hp : PassesOwn (model X.prog X.w) X.A X.env X.xe) (hc : X.calm = true) (hi : DI X E tg iter fi) (hg : GT X tg T) (hb : DSs X E body fb)
    (hs : ∀ x, foldedSetIterable iter X.env x = pure x := by intro _; rfl) : DS X E (.For tg iter body [] pos) (sFor fi T fb) :=
  wS (ps_for hp hc hi hg hb hs) fun Dn σ H ⟨ρ, μ, α, R, S, V, h⟩ => by
    refine ⟨ρ, μ, α, R, S, V, ?_⟩
    unfold sFor at h
    cases e : fi ρ μ with
    | bad => rw [e] at h; exact h
    | ex x μ1 => rw [e] at h; exact h
    | ok it μ1 =>
      rw [e] at h
      intro J α1 R1 H1 S1 A1 G
      have h : AfterS X.K X.mg E α1 R1 H1 (forL it.chk T fb it.items ρ μ1) Dn := AfterS.adv A1 h
      refine ⟨fun i m σ H => ∃ ρ μ α R, SM X.K X.mg μ α R H ∧ SS X.K X.mg ρ R α σ ∧ Adv α1 R1 H1 α R H ∧ m = it.items.length - i ∧ i ≤ it.items.length ∧ AfterS X.K X.mg E α R H (forL it.chk T fb (it.items.drop i) ρ μ) Dn,
        ⟨it.items.length, ρ, μ1, α1, R1, S1, V.adv A1, .refl, by simp, by simp, by simpa using h⟩, ?_⟩
      rintro i m σ H ⟨ρ, μ, α, R, S, V, A, rfl, hi, h⟩
      by_cases hlt : i < it.items.length
      · right
        rw [List.drop_eq_getElem_cons hlt] at h
        unfold forL at h
        split at h
        · rename_i hk
          have hx : it.items[i]? = some it.items[i] := List.getElem?_eq_getElem hlt
          obtain ⟨g1, g2⟩ := G.go μ α R H i _ S A hk hx
          refine ⟨g1, fun σ' H' => ∃ m', m' < it.items.length - i ∧ ∃ ρ μ α R, SM X.K X.mg μ α R H' ∧ SS X.K X.mg ρ R α σ' ∧ Adv α1 R1 H1 α R H' ∧ m' = it.items.length - (i + 1) ∧ i + 1 ≤ it.items.length ∧ AfterS X.K X.mg E α R H' (forL it.chk T fb (it.items.drop (i + 1)) ρ μ) Dn,
            fun σ' H' q => q, fun x H2 y => ?_⟩
          obtain ⟨R2, S2, A2, q2⟩ := g2 x H2 y
          split at h
          · rename_i ρ1 eT
            refine tg_ok S2 T _ x ρ ρ1 σ _ (V.adv A2) q2 eT fun σ2 V2 _ _ => ⟨ρ1, μ, α, R2, S2, V2, ?_⟩
            have h' := AfterS.adv A2 h
            refine h'.seq ?_ ?_ ?_ ?_
            · intro ρ3 μ3 σ3 α3 R3 H3 S3 A3 V3 q
              exact ⟨_, by omega, ρ3, μ3, α3, R3, S3, V3, (A.trans A2).trans A3, rfl, hlt, q⟩
            · intro d μ3 v α3 R3 H3 S3 A3 q3 q
              exact q v α3 R3 H3 S3 .refl q3
            · intro ρ3 μ3 σ3 α3 R3 H3 S3 A3 V3 q
              exact q σ3 α3 R3 H3 S3 .refl V3
            · intro ρ3 μ3 σ3 α3 R3 H3 S3 A3 V3 q
              exact ⟨_, by omega, ρ3, μ3, α3, R3, S3, V3, (A.trans A2).trans A3, rfl, hlt, q⟩
          · exact False.elim h
        · exact False.elim h
      · left
        have hn : i = it.items.length := by omega
        subst hn
        rw [List.drop_length] at h
        unfold forL at h
        split at h
        · rename_i hk
          exact ⟨G.stop μ α R H S A hk, h σ α R H S .refl V⟩
        · exact False.elim h
end
end TL

set_option Elab.async false
set_option maxRecDepth 100000
set_option maxHeartbeats 1000000
set_option linter.all false
/-! The tree layer, part f: what is walked; comprehensions; while. -/
namespace TL
open PySem PySem.Spec PyProof.Rows L2

mutual
/-- the same tree -/
def same : D → D → Bool
  | .none, .none => true
  | .bool a, .bool b => a == b
  | .int a, .int b => a == b
  | .str a, .str b => decide (a = b)
  | .list a, .list b => sames a b
  | .tuple a, .tuple b => sames a b
  | .dict a, .dict b => sameK a b
  | .obj c a, .obj d b => decide (c = d) && sameF a b
  | .loc a, .loc b => a == b
  | .fn a, .fn b => decide (a = b)
  | .script a, .script b => decide (a = b)
  | .ty a, .ty b => a == b
  | _, _ => false
def sames : List D → List D → Bool
  | [], [] => true
  | x :: xs, y :: ys => same x y && sames xs ys
  | _, _ => false
def sameK : List (Key × D) → List (Key × D) → Bool
  | [], [] => true
  | (k, x) :: xs, (l, y) :: ys => decide (k = l) && same x y && sameK xs ys
  | _, _ => false
def sameF : List (Str × D) → List (Str × D) → Bool
  | [], [] => true
  | (k, x) :: xs, (l, y) :: ys => decide (k = l) && same x y && sameF xs ys
  | _, _ => false
end
mutual
theorem same_eq : ∀ (a b : D), same a b = true → a = b
  | .none, b, h => by cases b <;> simp [same] at h <;> rfl
  | .bool a, b, h => by cases b <;> simp [same] at h; subst h; rfl
  | .int a, b, h => by cases b <;> simp [same] at h; subst h; rfl
  | .str a, b, h => by cases b <;> simp [same] at h; subst h; rfl
  | .list a, b, h => by cases b <;> simp [same] at h; rw [sames_eq _ _ h]
  | .tuple a, b, h => by cases b <;> simp [same] at h; rw [sames_eq _ _ h]
  | .dict a, b, h => by cases b <;> simp [same] at h; rw [sameK_eq _ _ h]
  | .obj c a, b, h => by cases b <;> simp [same] at h; rw [h.1, sameF_eq _ _ h.2]
  | .loc a, b, h => by cases b <;> simp [same] at h; subst h; rfl
  | .fn a, b, h => by cases b <;> simp [same] at h; subst h; rfl
  | .script a, b, h => by cases b <;> simp [same] at h; subst h; rfl
  | .ty a, b, h => by cases b <;> simp [same] at h; subst h; rfl
theorem sames_eq : ∀ (a b : List D), sames a b = true → a = b
  | [], [], _ => rfl
  | [], _ :: _, h => by simp [sames] at h
  | _ :: _, [], h => by simp [sames] at h
  | x :: xs, y :: ys, h => by simp only [sames, Bool.and_eq_true] at h; rw [same_eq _ _ h.1, sames_eq _ _ h.2]
theorem sameK_eq : ∀ (a b : List (Key × D)), sameK a b = true → a = b
  | [], [], _ => rfl
  | [], _ :: _, h => by simp [sameK] at h
  | _ :: _, [], h => by simp [sameK] at h
  | (k, x) :: xs, (l, y) :: ys, h => by simp only [sameK, Bool.and_eq_true, decide_eq_true_eq] at h; rw [h.1.1, same_eq _ _ h.1.2, sameK_eq _ _ h.2]
theorem sameF_eq : ∀ (a b : List (Str × D)), sameF a b = true → a = b
  | [], [], _ => rfl
  | [], _ :: _, h => by simp [sameF] at h
  | _ :: _, [], h => by simp [sameF] at h
  | (k, x) :: xs, (l, y) :: ys, h => by simp only [sameF, Bool.and_eq_true, decide_eq_true_eq] at h; rw [h.1.1, same_eq _ _ h.1.2, sameF_eq _ _ h.2]
end
mutual
theorem same_refl : ∀ (a : D), same a a = true
  | .none => by simp [same]
  | .bool a => by simp [same]
  | .int a => by simp [same]
  | .str a => by simp [same]
  | .list a => by simp [same, sames_refl a]
  | .tuple a => by simp [same, sames_refl a]
  | .dict a => by simp [same, sameK_refl a]
  | .obj c a => by simp [same, sameF_refl a]
  | .loc a => by simp [same]
  | .fn a => by simp [same]
  | .script a => by simp [same]
  | .ty a => by simp [same]
theorem sames_refl : ∀ (a : List D), sames a a = true
  | [] => by simp [sames]
  | x :: xs => by simp [sames, same_refl x, sames_refl xs]
theorem sameK_refl : ∀ (a : List (Key × D)), sameK a a = true
  | [] => by simp [sameK]
  | (k, x) :: xs => by simp [sameK, same_refl x, sameK_refl xs]
theorem sameF_refl : ∀ (a : List (Str × D)), sameF a a = true
  | [] => by simp [sameF]
  | (k, x) :: xs => by simp [sameF, same_refl x, sameF_refl xs]
end
/-- a cell list must stay as it is while it is walked -/
def chkC (n : Nat) (xs : List D) (μ : Mu) : Bool := match μ[n]? with
  | some (some (.list ys)) => sames ys xs
  | _ => false
def yes (_ : Mu) : Bool := true
/-- the signs of a text -/
def signs (z : Str) : List D := z.cps.toList.map fun c => .str ⟨#[c]⟩
/-- how a value is walked: a list, a tuple, the script, a text; a dict by its keys -/
def walked (μ : Mu) : D → Option Iter
  | .list xs => some ⟨xs, yes⟩
  | .tuple xs => some ⟨xs, yes⟩
  | .script ns => if ns.length ≤ sizeLine then some ⟨ns.map .int, yes⟩ else none
  | .str z => if z.length ≤ sizeLine then some ⟨signs z, yes⟩ else none
  | .dict kvs => some ⟨kvs.map fun kv => keyD kv.1, yes⟩
  | .loc n => match μ[n]? with
    | some (some (.list xs)) => some ⟨xs, chkC n xs⟩
    | _ => none
  | _ => none
def iVal (f : FE) : FI := fun ρ μ => (f ρ μ).bind fun d μ1 => ofO (walked μ1 d) μ1
/-- a list that is told to hold xs from (α, R, H) on, while chk holds -/
def Rds (K : PySem.W.Frag) (mg : Str → Option Value) (chk : Mu → Bool) (a : Addr) (xs : List D) (α : List Addr) (R H : Hp) : Prop :=
  xs.length ≤ sizeLine ∧ ∀ μ' α' R' H', SM K mg μ' α' R' H' → Adv α R H α' R' H' → chk μ' = true → ∃ vs, SqL K H' a vs ∧ DenL K mg R' α' vs xs
section
variable {K : PySem.W.Frag} {mg : Str → Option Value} {R H : Hp} {α : List Addr} {μ : Mu} {chk : Mu → Bool} {a b : Addr} {xs ys : List D}
theorem rds_pure {vs : List V} (h : R a = some (.lst vs)) (hl : vs.length ≤ sizeLine) (dl : DenL K mg R α vs xs) : Rds K mg yes a xs α R H :=
  ⟨by rw [← dl.len]; exact hl, fun μ' α' R' H' S A _ => ⟨vs, SqL.of (S.lst (A.r _ _ h)), dl.adv A⟩⟩
theorem rds_script {vs : List V} (h : SqL K R a vs) (hl : xs.length ≤ sizeLine) (dl : DenL K mg R α vs xs) : Rds K mg yes a xs α R H :=
  ⟨hl, fun μ' α' R' H' S A _ => ⟨vs, S.sqL (SqL.up A.r h), dl.adv A⟩⟩
theorem rds_cell {n : Nat} (hα : α[n]? = some a) (hl : xs.length ≤ sizeLine) : Rds K mg (chkC n xs) a xs α R H :=
  ⟨hl, fun μ' α' R' H' S A hc => by
    unfold chkC at hc
    split at hc
    · rename_i ys e
      obtain ⟨_, vs, h1, _, h3⟩ := S.cell n _ a e (A.a n a hα)
      rw [sames_eq _ _ hc] at h3
      exact ⟨vs, SqL.of h1, h3⟩
    · cases hc⟩
theorem good_list (rd : Rds K mg chk a xs α R H) : Good K mg (Itl K a) ⟨xs, chk⟩ α R H := by
  refine ⟨rd.1, fun μ' α' R' H' i d S A hc hi => ?_, fun μ' α' R' H' S A hc => ?_⟩
  · obtain ⟨vs, h1, h3⟩ := rd.2 μ' α' R' H' S A hc
    obtain ⟨v, h4, h5⟩ := h3.get' hi
    refine ⟨⟨vs, v, h1, h4⟩, fun x H2 ⟨e, q⟩ => ?_⟩
    subst e
    have := q vs h1
    rw [h4] at this; cases this
    exact ⟨R', S, .refl, h5⟩
  · obtain ⟨vs, h1, h3⟩ := rd.2 μ' α' R' H' S A hc
    exact ⟨vs, h1, by rw [h3.len]; exact Nat.le_refl _⟩
theorem good_tup {vs : List V} (h : SqT K R a vs) (hl : vs.length ≤ sizeLine) (dl : DenL K mg R α vs xs) : Good K mg (Itt K a) ⟨xs, yes⟩ α R H := by
  have hh : ∀ {R' : Hp} {α' : List Addr} {H' : Hp} {μ' : Mu}, SM K mg μ' α' R' H' → Adv α R H α' R' H' → SqT K H' a vs := fun S A => S.sqT (SqT.up A.r h)
  refine ⟨by rw [← dl.len]; exact hl, fun μ' α' R' H' i d S A _ hi => ?_, fun μ' α' R' H' S A _ => ⟨vs, hh S A, by rw [dl.len]; exact Nat.le_refl _⟩⟩
  obtain ⟨v, h1, h2⟩ := dl.get' hi
  refine ⟨⟨vs, v, hh S A, h1⟩, fun x H2 ⟨e, q⟩ => ?_⟩
  subst e
  have := q vs (hh S A)
  rw [h1] at this; cases this
  exact ⟨R', S, .refl, h2.adv A⟩
theorem good_str {z : Str} (hl : z.length ≤ sizeLine) : Good K mg (Its z) ⟨signs z, yes⟩ α R H := by
  have hz : (signs z).length = z.cps.size := by simp [signs]
  refine ⟨by show (signs z).length ≤ _; rw [hz]; exact hl, fun μ' α' R' H' i d S A _ hi => ?_, fun μ' α' R' H' S A _ => by show z.cps.size ≤ (signs z).length; rw [hz]; exact Nat.le_refl _⟩
  unfold signs at hi
  rw [List.getElem?_map] at hi
  obtain ⟨c, h1, rfl⟩ := Option.map_eq_some_iff.mp hi
  rw [Array.getElem?_toList] at h1
  refine ⟨(Array.getElem?_eq_some_iff.mp h1).1, fun x H2 ⟨e, c', q1, q2⟩ => ?_⟩
  subst e q2
  rw [h1] at q1; cases q1
  exact ⟨R', S, .refl, .str _⟩
theorem good_keys {o : Obj} {ks : List (Key × V)} {kvs : List (Key × D)} (h : H a = some (.frz o (.dK ks))) (hl : ks.length ≤ sizeLine) (dk : DenK K mg R α ks kvs) : Good K mg (Itk a o ks) ⟨kvs.map fun kv => keyD kv.1, yes⟩ α R H := by
  refine ⟨by simp [← dk.len, hl], fun μ' α' R' H' i d S A _ hi => ?_, fun μ' α' R' H' S A _ => ⟨A.f _ _ _ h, by simp [dk.len]⟩⟩
  rw [List.getElem?_map] at hi
  obtain ⟨kv, h1, rfl⟩ := Option.map_eq_some_iff.mp hi
  have dl := keys_den dk
  obtain ⟨v, h2, h3⟩ := dl.get' (i := i) (e := keyD kv.1) (by rw [List.getElem?_map, h1] <;> rfl)
  rw [List.getElem?_map] at h2
  obtain ⟨kw, h4, rfl⟩ := Option.map_eq_some_iff.mp h2
  refine ⟨⟨A.f _ _ _ h, (List.getElem?_eq_some_iff.mp h4).1⟩, fun x H2 ⟨e, k, w', q1, q2⟩ => ?_⟩
  subst e q2
  rw [h4] at q1; cases q1
  exact ⟨R', S, .refl, h3.adv A⟩
/-- d.items(), each pair a new tuple -/
def itemD (kv : Key × D) : D := .tuple [keyD kv.1, kv.2]
theorem denK_get' : ∀ {ks : List (Key × V)} {kvs : List (Key × D)} {i : Nat} {k : Key} {d : D}, DenK K mg R α ks kvs → kvs[i]? = some (k, d) → ∃ v, ks[i]? = some (k, v) ∧ Den K mg R α v d
  | _, _, _, _, _, .nil, e => by simp at e
  | _, _, 0, _, _, .cons h _, e => by simp at e; obtain ⟨rfl, rfl⟩ := e; exact ⟨_, rfl, h⟩
  | _, _, i + 1, _, _, .cons _ t, e => by
    obtain ⟨v, h1, h2⟩ := denK_get' (i := i) t (by simpa using e)
    exact ⟨v, by simpa using h1, h2⟩
theorem DenK.adv {R' H' : Hp} {α' : List Addr} {ks : List (Key × V)} {kvs : List (Key × D)} (h : DenK K mg R α ks kvs) (x : Adv α R H α' R' H') : DenK K mg R' α' ks kvs := h.up x.r x.a
theorem den_pair {T : Addr} {x y : V} {dx dy : D} (h1 : Den K mg R α x dx) (h2 : Den K mg R α y dy) (h : R T = some (.tup [x, y])) : Den K mg R α (.ref T) (.tuple [dx, dy]) :=
  .tuple (.inl (.inl h)) (show 2 ≤ sizeLine by decide) (.cons h1 (.cons h2 .nil))
theorem good_items {o : Obj} {ks : List (Key × V)} {kvs : List (Key × D)} (h : H a = some (.frz o (.dK ks))) (hl : ks.length ≤ sizeLine) (dk : DenK K mg R α ks kvs) : Good K mg (Iti a o ks) ⟨kvs.map itemD, yes⟩ α R H := by
  refine ⟨by simp [← dk.len, hl], fun μ' α' R' H' i d S A _ hi => ?_, fun μ' α' R' H' S A _ => ⟨A.f _ _ _ h, by simp [dk.len]⟩⟩
  rw [List.getElem?_map] at hi
  obtain ⟨⟨k, d'⟩, h1, rfl⟩ := Option.map_eq_some_iff.mp hi
  obtain ⟨v, h2, h3⟩ := denK_get' dk h1
  refine ⟨⟨A.f _ _ _ h, (List.getElem?_eq_some_iff.mp h2).1⟩, fun x H2 ⟨T, k2, v2, q1, q2, q3, q4⟩ => ?_⟩
  rw [h2] at q1; cases q1
  subst q2 q4
  obtain ⟨S2, A2⟩ := S.lay (u := .tup [kV k, v]) q3
  exact ⟨_, S2, A2, den_pair (keyD_den k) ((h3.adv A).adv A2) upd_same⟩
def enumD (xs : List D) : List D := xs.zipIdx.map fun p => .tuple [.int (p.2 : Nat), p.1]
theorem enumD_get {i : Nat} {d : D} (h : (enumD xs)[i]? = some d) : ∃ e, xs[i]? = some e ∧ d = .tuple [.int (i : Nat), e] := by
  unfold enumD at h
  rw [List.getElem?_map] at h
  obtain ⟨⟨e, j⟩, h1, rfl⟩ := Option.map_eq_some_iff.mp h
  rw [List.getElem?_zipIdx] at h1
  obtain ⟨e', h2, h3⟩ := Option.map_eq_some_iff.mp h1
  cases h3
  exact ⟨e, h2, by simp⟩
theorem good_enum (rd : Rds K mg chk a xs α R H) : Good K mg (Ite K a) ⟨enumD xs, chk⟩ α R H := by
  refine ⟨by simp [enumD, rd.1], fun μ' α' R' H' i d S A hc hi => ?_, fun μ' α' R' H' S A hc => ?_⟩
  · obtain ⟨vs, h1, h3⟩ := rd.2 μ' α' R' H' S A hc
    obtain ⟨e, hi', rfl⟩ := enumD_get hi
    obtain ⟨v, h4, h5⟩ := h3.get' hi'
    refine ⟨⟨vs, v, h1, h4⟩, fun x H2 ⟨T, y, q1, q2, q3, q4⟩ => ?_⟩
    subst q1 q3
    have := q4 vs h1
    rw [h4] at this; cases this
    obtain ⟨S2, A2⟩ := S.lay (u := .tup [.int (i : Nat), v]) q2
    exact ⟨_, S2, A2, den_pair (.int _) (h5.adv A2) upd_same⟩
  · obtain ⟨vs, h1, h3⟩ := rd.2 μ' α' R' H' S A hc
    exact ⟨vs, h1, by simp [enumD, h3.len]⟩
def zipD (xs ys : List D) : List D := (xs.zip ys).map fun p => .tuple [p.1, p.2]
theorem zipD_get {i : Nat} {d : D} (h : (zipD xs ys)[i]? = some d) : ∃ e f, xs[i]? = some e ∧ ys[i]? = some f ∧ d = .tuple [e, f] := by
  unfold zipD at h
  rw [List.getElem?_map] at h
  obtain ⟨⟨e, f⟩, h1, rfl⟩ := Option.map_eq_some_iff.mp h
  have h2 := List.getElem?_zip_eq_some.mp h1
  exact ⟨e, f, h2.1, h2.2, rfl⟩
theorem good_zip {chk2 : Mu → Bool} (rd : Rds K mg chk a xs α R H) (rd2 : Rds K mg chk2 b ys α R H) : Good K mg (Itz K a b) ⟨zipD xs ys, fun μ => chk μ && chk2 μ⟩ α R H := by
  refine ⟨by simp only [zipD, List.length_map, List.length_zip]; exact Nat.le_trans (Nat.min_le_left _ _) rd.1, fun μ' α' R' H' i d S A hc hi => ?_, fun μ' α' R' H' S A hc => ?_⟩
  · simp only [Bool.and_eq_true] at hc
    obtain ⟨vs, h1, h3⟩ := rd.2 μ' α' R' H' S A hc.1
    obtain ⟨ws, g1, g3⟩ := rd2.2 μ' α' R' H' S A hc.2
    obtain ⟨e, f, hi1, hi2, rfl⟩ := zipD_get hi
    obtain ⟨v, h4, h5⟩ := h3.get' hi1
    obtain ⟨w, g4, g5⟩ := g3.get' hi2
    refine ⟨⟨vs, ws, v, w, h1, g1, h4, g4⟩, fun x H2 ⟨T, y, z, q1, q2, q3, q4, q5⟩ => ?_⟩
    subst q1 q3
    have := q4 vs h1
    rw [h4] at this; cases this
    have := q5 ws g1
    rw [g4] at this; cases this
    obtain ⟨S2, A2⟩ := S.lay (u := .tup [v, w]) q2
    exact ⟨_, S2, A2, den_pair (h5.adv A2) (g5.adv A2) upd_same⟩
  · simp only [Bool.and_eq_true] at hc
    obtain ⟨vs, h1, h3⟩ := rd.2 μ' α' R' H' S A hc.1
    obtain ⟨ws, g1, g3⟩ := rd2.2 μ' α' R' H' S A hc.2
    refine ⟨vs, ws, h1, g1, ?_⟩
    simp only [zipD, List.length_map, List.length_zip, h3.len, g3.len]
    omega
end
section
variable {X : Cx} {E : XK} {pos : Pos} {e tg : Expr} {fe : FE}
theorem wI {tg it : Expr} {t t' : TI} (h : PI X tg it t) (k : ∀ σ H R, t' σ H R → t σ H R) : PI X tg it t' := ⟨fun pins s σ H R I q => h.run pins s σ H R I (k σ H R q)⟩
/-- a value that may be a dict is locked behind its evaluation -/
theorem pe_locked {t : TE} (h : PE X e t) : PE X e (fun σ H Q => t σ H fun v H1 => Q v H1 ∨ ∃ a u, v = .ref a ∧ H1 a = some u ∧ Mut (some u) ∧ ∀ od, Q v (upd H1 a (.frz od u))) :=
  ⟨fun pins s σ H Q I q => thn (h.run pins s σ H _ I q) fun u s' ⟨v, H1, I1, r, hq⟩ => by
    rcases hq with hq | ⟨a, o, rfl, h1, h2, h3⟩
    · exact ⟨v, H1, I1, r, hq⟩
    · obtain ⟨od, I2⟩ := I1.lock h1 h2
      exact ⟨_, _, I2, r, h3 od⟩⟩
theorem SM.locked {K : PySem.W.Frag} {mg : Str → Option Value} {R H : Hp} {α : List Addr} {μ : Mu} {a : Addr} {ks : List (Key × V)} {od : Obj} (S : SM K mg μ α R H) (h : R a = some (.dK ks)) (hh : H a = some (.dK ks)) :
    SM K mg μ α R (upd H a (.frz od (.dK ks))) ∧ Adv α R H α R (upd H a (.frz od (.dK ks))) := by
  refine ⟨S.heap (fun b u q => ?_) (fun n c b h1 h2 => ?_) fun b hb => ?_, ⟨fun _ _ h => h, fun _ _ h => h, fun b o x q => ?_, fun b o q => ?_, fun b o q nk => ?_, fun b q => .inl q⟩⟩
  · by_cases eb : b = a
    · subst eb; rw [h] at q; cases q; exact .inr ⟨ks, od, rfl, upd_same⟩
    · rw [upd_ne eb]; exact S.frz b u q
  · by_cases eb : b = a
    · subst eb; have := (S.cell n c b h1 h2).1; rw [h] at this; cases this
    · rw [upd_ne eb]
  · by_cases eb : b = a
    · subst eb; exact ⟨_, upd_same⟩
    · rw [upd_ne eb]; exact S.trk b hb
  · by_cases eb : b = a
    · subst eb; rw [hh] at q; cases q
    · rw [upd_ne eb]; exact q
  · by_cases eb : b = a
    · subst eb; exact ⟨_, upd_same⟩
    · rw [upd_ne eb]; exact ⟨o, q⟩
  · by_cases eb : b = a
    · subst eb; exact absurd (.inr ⟨_, h⟩) nk
    · rw [upd_ne eb]; exact q
theorem di_val (he : DE X E e fe) : DI X E tg e (iVal fe) := ⟨fun pins s σ H Rr I hq => by
  obtain ⟨ρ, μ, α, R, S, V, h⟩ := hq
  unfold iVal at h
  cases e1 : fe ρ μ with
  | bad => rw [e1] at h; exact False.elim h
  | ex x μ1 =>
    rw [e1] at h
    exact (pi_list (tg := tg) he).run pins s σ H Rr I ⟨ρ, μ, α, R, S, V, by rw [e1]; exact h⟩
  | ok d μ1 =>
    rw [e1] at h
    have h : (match ofO (walked μ1 d) μ1 with
      | .ok it μ1 => ∀ J α1 R1 H1, SM X.K X.mg μ1 α1 R1 H1 → Adv α R H α1 R1 H1 → Good X.K X.mg J it α1 R1 H1 → Rr J H1
      | .ex x μ' => ∀ cls od α' R' H', SM X.K X.mg μ' α' R' H' → Adv α R H α' R' H' → DenX X.K X.mg R' α' H' cls od x → E cls od H'
      | .bad => False) := h
    cases d with
    | list xs =>
      refine (pi_list (tg := tg) he).run pins s σ H Rr I ⟨ρ, μ, α, R, S, V, ?_⟩
      rw [e1]
      intro w α1 R1 H1 S1 A1 q1
      cases q1 with
      | list h1 h2 h3 => exact ⟨_, rfl, ⟨_, SqL.of (S1.lst h1)⟩, h _ α1 R1 H1 S1 A1 (good_list (rds_pure h1 h2 h3))⟩
    | script xs =>
      simp only [walked] at h
      split at h
      rotate_left
      · rename_i e2; split at e2 <;> cases e2
      · exact False.elim h
      rename_i it μ2 e2
      split at e2
      rotate_left
      · cases e2
      rename_i hl
      cases e2
      refine (pi_list (tg := tg) he).run pins s σ H Rr I ⟨ρ, μ, α, R, S, V, ?_⟩
      rw [e1]
      intro w α1 R1 H1 S1 A1 q1
      cases q1 with
      | script h1 => exact ⟨_, rfl, ⟨_, S1.sqL h1⟩, h _ α1 R1 H1 S1 A1 (good_list (rds_script h1 (by simpa using hl) DenL.ints))⟩
    | tuple xs =>
      refine (pi_tup (tg := tg) he).run pins s σ H Rr I ⟨ρ, μ, α, R, S, V, ?_⟩
      rw [e1]
      intro w α1 R1 H1 S1 A1 q1
      cases q1 with
      | tuple h1 h2 h3 => exact ⟨_, rfl, ⟨_, S1.sqT h1⟩, h _ α1 R1 H1 S1 A1 (good_tup h1 h2 h3)⟩
    | str z =>
      simp only [walked] at h
      split at h
      rotate_left
      · rename_i e2; split at e2 <;> cases e2
      · exact False.elim h
      rename_i it μ2 e2
      split at e2
      rotate_left
      · cases e2
      rename_i hl
      cases e2
      refine (pi_str (tg := tg) he).run pins s σ H Rr I ⟨ρ, μ, α, R, S, V, ?_⟩
      rw [e1]
      intro w α1 R1 H1 S1 A1 q1
      cases q1 with
      | str => exact ⟨z, rfl, h _ α1 R1 H1 S1 A1 (good_str hl)⟩
    | loc n =>
      simp only [walked] at h
      split at h
      · rename_i it μ2 e2
        split at e2
        · rename_i xs e3
          cases e2
          refine (pi_list (tg := tg) he).run pins s σ H Rr I ⟨ρ, μ, α, R, S, V, ?_⟩
          rw [e1]
          intro w α1 R1 H1 S1 A1 q1
          cases q1 with
          | loc h1 =>
            obtain ⟨_, vs, h4, h6, h5⟩ := S1.cell n _ _ e3 h1
            exact ⟨_, rfl, ⟨vs, SqL.of h4⟩, h _ α1 R1 H1 S1 A1 (good_list (rds_cell h1 (by rw [← h5.len]; exact h6)))⟩
        · cases e2
      · rename_i e2; split at e2 <;> cases e2
      · exact False.elim h
    | dict kvs =>
      refine (pi_keys (tg := tg) (pe_locked he)).run pins s σ H Rr I ⟨ρ, μ, α, R, S, V, ?_⟩
      rw [e1]
      intro w α1 R1 H1 S1 A1 q1
      cases q1 with
      | dict h1 h2 h3 =>
        rename_i a ks
        rcases S1.dct h1 with h4 | ⟨o, h4⟩
        · right
          refine ⟨a, _, rfl, h4, trivial, fun od => ⟨a, od, rfl, .inl ⟨ks, upd_same, ?_⟩⟩⟩
          obtain ⟨S2, A2⟩ := S1.locked (od := od) h1 h4
          exact h _ α1 R1 _ S2 (A1.trans A2) (good_keys upd_same h2 h3)
        · left
          exact ⟨a, o, rfl, .inl ⟨ks, h4, h _ α1 R1 H1 S1 A1 (good_keys h4 h2 h3)⟩⟩
    | _ => exact False.elim h⟩
/-! ranges -/
def rangeD (i : Int) (n : Nat) : List D := (List.range n).map fun k => .int (i + (k : Nat))
theorem good_range {K : PySem.W.Frag} {mg : Str → Option Value} {R H : Hp} {α : List Addr} {lo : Int} {n : Nat} (hl : n ≤ sizeLine) : Good K mg (Itr lo n) ⟨rangeD lo n, yes⟩ α R H := by
  refine ⟨by simpa [rangeD] using hl, fun μ' α' R' H' i d S A _ hi => ?_, fun μ' α' R' H' S A _ => by show n ≤ _; simp [rangeD]⟩
  unfold rangeD at hi
  rw [List.getElem?_map] at hi
  obtain ⟨k, h1, rfl⟩ := Option.map_eq_some_iff.mp hi
  obtain ⟨hk, rfl⟩ : i < n ∧ i = k := by
    obtain ⟨q1, q2⟩ := List.getElem?_eq_some_iff.mp h1
    simp at q1 q2
    exact ⟨q1, q2⟩
  refine ⟨hk, fun x H2 ⟨e, q⟩ => ?_⟩
  subst e q
  exact ⟨R', S, .refl, .int _⟩
end
end TL

set_option Elab.async false
set_option maxRecDepth 100000
set_option maxHeartbeats 1000000
set_option linter.all false
/-! The tree layer, part g: ranges, enumerate, zip, items; comprehensions; while; displays of dicts. -/
namespace TL
open PySem PySem.Spec PyProof.Rows L2

@[irreducible] def isIn62 (i : Int) : Bool := decide (-(2 ^ 62) ≤ i) && decide (i < 2 ^ 62)
def rng (i : Int) (n : Nat) : Option Iter := if n ≤ sizeLine then some ⟨rangeD i n, yes⟩ else none
def kRange1 (ds : List D) (μ1 : Mu) : Res Iter := match ds with
  | [.int j] => if isIn62 j = true then ofO (rng 0 j.toNat) μ1 else .bad
  | _ => .bad
def iRange1 (t : FA) : FI := fun ρ μ => (t ρ μ).bind kRange1
def kRange2 (ds : List D) (μ1 : Mu) : Res Iter := match ds with
  | [.int i, .int j] => if (isIn62 i && isIn62 j) = true then ofO (rng i (j - i).toNat) μ1 else .bad
  | _ => .bad
def iRange2 (t : FA) : FI := fun ρ μ => (t ρ μ).bind kRange2
/-- a list that may be walked in company -/
def rdOf (μ : Mu) : D → Option (List D × (Mu → Bool))
  | .list xs => some (xs, yes)
  | .script ns => if ns.length ≤ sizeLine then some (ns.map .int, yes) else none
  | .loc n => match μ[n]? with
    | some (some (.list xs)) => some (xs, chkC n xs)
    | _ => none
  | _ => none
def kEnum (ds : List D) (μ1 : Mu) : Res Iter := match ds with
  | [x] => ofO ((rdOf μ1 x).map fun p => ⟨enumD p.1, p.2⟩) μ1
  | _ => .bad
def iEnumF (t : FA) : FI := fun ρ μ => (t ρ μ).bind kEnum
def kZip (ds : List D) (μ1 : Mu) : Res Iter := match ds with
  | [x, y] => ofO ((rdOf μ1 x).bind fun p => (rdOf μ1 y).map fun q => ⟨zipD p.1 q.1, fun μ => p.2 μ && q.2 μ⟩) μ1
  | _ => .bad
def iZipF (t : FA) : FI := fun ρ μ => (t ρ μ).bind kZip
def kItems (d : D) (μ1 : Mu) : Res Iter := match d with
  | .dict kvs => .ok ⟨kvs.map itemD, yes⟩ μ1
  | _ => .bad
def iItemsF (f : FE) : FI := fun ρ μ => (f ρ μ).bind kItems
section
variable {K : PySem.W.Frag} {mg : Str → Option Value} {E : XK} {R H : Hp} {α : List Addr} {μ : Mu}
theorem AfterI.adv {R' H' : Hp} {α' : List Addr} {r : Res Iter} {Rr : It → Hp → Prop} (A : Adv α R H α' R' H') (h : AfterI K mg E α R H r Rr) : AfterI K mg E α' R' H' r Rr := by
  cases r with
  | ok it μ1 => exact fun J α1 R1 H1 S1 A1 G => h J α1 R1 H1 S1 (A.trans A1) G
  | ex x μ1 => exact fun c o α2 R2 H2 S2 A2 q => h c o α2 R2 H2 S2 (A.trans A2) q
  | bad => exact h
theorem AfterI.bind {ω τ : Type} {rel : Hp → List Addr → ω → τ → Prop} {r : Res τ} {k : τ → Mu → Res Iter} {Rr : It → Hp → Prop} {Q1 : ω → Hp → Prop} (h : AfterI K mg E α R H (r.bind k) Rr)
    (go : ∀ d μ1 w α1 R1 H1, SM K mg μ1 α1 R1 H1 → Adv α R H α1 R1 H1 → rel R1 α1 w d → AfterI K mg E α1 R1 H1 (k d μ1) Rr → Q1 w H1) : After K mg E rel α R H r Q1 := by
  cases r with
  | ok d μ1 => exact fun w α1 R1 H1 S A q => go d μ1 w α1 R1 H1 S A q (AfterI.adv (Rr := Rr) (r := k d μ1) A h)
  | ex x μ1 => exact h
  | bad => exact h
theorem AfterI.ofO {o : Option Iter} {Rr : It → Hp → Prop} (h : AfterI K mg E α R H (TL.ofO o μ) Rr) : ∃ it, o = some it ∧ ∀ J α1 R1 H1, SM K mg μ α1 R1 H1 → Adv α R H α1 R1 H1 → Good K mg J it α1 R1 H1 → Rr J H1 := by
  cases o with
  | none => exact False.elim h
  | some it => exact ⟨it, rfl, h⟩
theorem rng_some {i : Int} {n : Nat} {it : Iter} (h : rng i n = some it) : n ≤ sizeLine ∧ it = ⟨rangeD i n, yes⟩ := by
  unfold rng at h
  split at h
  · rename_i q; cases h; exact ⟨q, rfl⟩
  · cases h
theorem isIn62_of {i : Int} (h : isIn62 i = true) : -(2 ^ 62) ≤ i ∧ i < 2 ^ 62 := by
  simpa [isIn62] using h
theorem rdOf_den (S : SM K mg μ α R H) {v : V} {d : D} {p : List D × (Mu → Bool)} (h : Den K mg R α v d) (e : rdOf μ d = some p) : ∃ a, v = .ref a ∧ (∃ vs, SqL K H a vs) ∧ Rds K mg p.2 a p.1 α R H := by
  cases h with
  | list h l dl => cases e; exact ⟨_, rfl, ⟨_, SqL.of (S.lst h)⟩, rds_pure h l dl⟩
  | script h =>
    simp only [rdOf] at e
    split at e
    · rename_i hl; cases e
      exact ⟨_, rfl, ⟨_, S.sqL h⟩, rds_script h (by simpa using hl) DenL.ints⟩
    · cases e
  | loc h =>
    simp only [rdOf] at e
    split at e
    · rename_i xs e2
      cases e
      obtain ⟨_, vs, h1, h2, h3⟩ := S.cell _ _ _ e2 h
      exact ⟨_, rfl, ⟨vs, SqL.of h1⟩, rds_cell h (by rw [← h3.len]; exact h2)⟩
    · cases e
  | _ => cases e
end
section
variable {X : Cx} {E : XK} {pos p tpos apos cpos : Pos} {e e2 e3 tg : Expr} {fe : FE} {t : FA} {elts : List Expr} {kk : Nat}
theorem di_range1 (hg : Gl X "range") (hm : X.mg "range" = none) (ha : DA X E [e] t) (hs : starEach [e] X.env = [(false, eval e X.env)] := by rfl) : DI X E tg (.Call (.Name "range" p) [e] [] pos) (iRange1 t) :=
  wI (pi_range1 hg hm ha hs) fun σ H Rr ⟨ρ, μ, α, R, S, V, h⟩ => ⟨ρ, μ, α, R, S, V, AfterI.bind (k := kRange1) h fun ds μ1 vs α1 R1 H1 S1 A1 q1 q => by
    unfold kRange1 at q
    split at q
    · rename_i j
      obtain ⟨v, rfl, h1⟩ := denL1 q1
      cases h1
      split at q
      · rename_i hj
        obtain ⟨it, e1, e2⟩ := AfterI.ofO q
        obtain ⟨hl, rfl⟩ := rng_some e1
        have hb := isIn62_of hj
        exact ⟨j, rfl, hb.1, hb.2, e2 _ α1 R1 H1 S1 .refl (good_range hl)⟩
      · exact False.elim q
    · exact False.elim q⟩
theorem di_range2 (hg : Gl X "range") (hm : X.mg "range" = none) (ha : DA X E [e, e2] t) (hs : starEach [e, e2] X.env = [(false, eval e X.env), (false, eval e2 X.env)] := by rfl) (hs2 : starEach [e2] X.env = [(false, eval e2 X.env)] := by rfl) :
    DI X E tg (.Call (.Name "range" p) [e, e2] [] pos) (iRange2 t) :=
  wI (pi_range2 hg hm ha hs hs2) fun σ H Rr ⟨ρ, μ, α, R, S, V, h⟩ => ⟨ρ, μ, α, R, S, V, AfterI.bind (k := kRange2) h fun ds μ1 vs α1 R1 H1 S1 A1 q1 q => by
    unfold kRange2 at q
    split at q
    · rename_i i j
      obtain ⟨v, v', rfl, h1, h2⟩ := denL2 q1
      cases h1; cases h2
      split at q
      · rename_i hj
        simp only [Bool.and_eq_true] at hj
        obtain ⟨it, e1, e2⟩ := AfterI.ofO q
        obtain ⟨hl, rfl⟩ := rng_some e1
        have hb := isIn62_of hj.1
        have hc := isIn62_of hj.2
        exact ⟨i, j, rfl, ⟨hb.1, hb.2, hc.1, hc.2⟩, e2 _ α1 R1 H1 S1 .refl (good_range hl)⟩
      · exact False.elim q
    · exact False.elim q⟩
theorem di_enum (hg : Gl X "enumerate") (hm : X.mg "enumerate" = none) (ha : DA X E [e] t) (hs : starEach [e] X.env = [(false, eval e X.env)] := by rfl) :
    DI X E (.Tuple elts kk tpos) (.Call (.Name "enumerate" p) [e] [] pos) (iEnumF t) :=
  wI (pi_enum hg hm ha hs) fun σ H Rr ⟨ρ, μ, α, R, S, V, h⟩ => ⟨ρ, μ, α, R, S, V, AfterI.bind (k := kEnum) h fun ds μ1 vs α1 R1 H1 S1 A1 q1 q => by
    unfold kEnum at q
    split at q
    · obtain ⟨v, rfl, h1⟩ := denL1 q1
      obtain ⟨it, e1, e2⟩ := AfterI.ofO q
      obtain ⟨pr, e3, rfl⟩ := Option.map_eq_some_iff.mp e1
      obtain ⟨a, rfl, ⟨ws, hw⟩, rd⟩ := rdOf_den S1 h1 e3
      exact ⟨a, ws, rfl, hw, e2 _ α1 R1 H1 S1 .refl (good_enum rd)⟩
    · exact False.elim q⟩
theorem di_zip (hg : Gl X "zip") (hm : X.mg "zip" = none) (ha : DA X E [e, e2] t)
    (hs : starEach [e, e2] X.env = (false, eval e X.env) :: starEach [e2] X.env := by rfl) (hpl : (backTo pos (starEach [e2] X.env)).any (·.1) = false := by rfl) :
    DI X E (.Tuple elts kk tpos) (.Call (.Name "zip" p) [e, e2] [] pos) (iZipF t) :=
  wI (pi_zip hg hm ha hs hpl) fun σ H Rr ⟨ρ, μ, α, R, S, V, h⟩ => ⟨ρ, μ, α, R, S, V, AfterI.bind (k := kZip) h fun ds μ1 vs α1 R1 H1 S1 A1 q1 q => by
    unfold kZip at q
    split at q
    · obtain ⟨v, v', rfl, h1, h2⟩ := denL2 q1
      obtain ⟨it, e1, e2⟩ := AfterI.ofO q
      obtain ⟨pr, e3, e4⟩ := Option.bind_eq_some_iff.mp e1
      obtain ⟨pr2, e5, rfl⟩ := Option.map_eq_some_iff.mp e4
      obtain ⟨a, rfl, ⟨ws, hw⟩, rd⟩ := rdOf_den S1 h1 e3
      obtain ⟨b, rfl, ⟨zs, hz⟩, rd2⟩ := rdOf_den S1 h2 e5
      exact ⟨a, b, ws, zs, rfl, hw, hz, e2 _ α1 R1 H1 S1 .refl (good_zip rd rd2)⟩
    · exact False.elim q⟩
theorem di_items (he : DE X E e fe) (hbase : attributeBase e "items" X.env (eval e X.env) = eval e X.env := by rfl) (hline : (apos.endLine == cpos.line) = true := by rfl) :
    DI X E (.Tuple elts kk tpos) (.Call (.Attribute e "items" apos) [] [] cpos) (iItemsF fe) :=
  wI (pi_items (pe_locked he) hbase hline) fun σ H Rr ⟨ρ, μ, α, R, S, V, h⟩ => ⟨ρ, μ, α, R, S, V, AfterI.bind (k := kItems) h fun d μ1 v α1 R1 H1 S1 A1 q1 q => by
    cases q1 with
    | dict h1 h2 h3 =>
      rename_i a ks kvs
      rcases S1.dct h1 with h4 | ⟨o, h4⟩
      · right
        refine ⟨a, _, rfl, h4, trivial, fun od => ⟨a, od, ks, rfl, upd_same, ?_⟩⟩
        obtain ⟨S2, A2⟩ := S1.locked (od := od) h1 h4
        exact q _ α1 R1 _ S2 A2 (good_items upd_same h2 h3)
      · left
        exact ⟨a, o, ks, rfl, h4, q _ α1 R1 H1 S1 .refl (good_items h4 h2 h3)⟩
    | _ => exact False.elim q⟩
end
/-! ### comprehensions -/
def noEx {τ : Type} (r : Res τ) : Res τ := match r with
  | .ex _ _ => .bad
  | r => r
def wipeD (ρ : Env) : List Nat → Env
  | [] => ρ
  | v :: vs => (wipeD ρ vs).set v none
def compL (chk : Mu → Bool) (T : Tg) (t : FT) (e : FE) (own : List Nat) : List D → Env → Mu → Res (List D)
  | [], _, μ => if chk μ = true then .ok [] μ else .bad
  | x :: xs, ρ, μ => if chk μ = true then (match tgSet T x (wipeD ρ own) with
    | some ρ1 => (noEx (t ρ1 μ)).bind fun b μ1 => if b = true then (noEx (e ρ1 μ1)).bind fun d μ2 => (compL chk T t e own xs ρ μ2).bind fun ds μ3 => .ok (d :: ds) μ3
        else compL chk T t e own xs ρ μ1
    | none => .bad) else .bad
def nComp (fi : FI) (T : Tg) (t : FT) (e : FE) (own : List Nat) : FN := fun ρ μ => (fi ρ μ).bind fun it μ1 => (compL it.chk T t e own it.items ρ μ1).bind fun ds μ2 => .ok (.list ds) μ2
def tTrue : FT := fun _ μ => .ok true μ
abbrev EN : XK := fun _ _ _ => False
section
variable {K : PySem.W.Frag} {mg : Str → Option Value} {E : XK} {R H : Hp} {α : List Addr} {μ : Mu}
theorem SS.wipe {ρ : Env} {σ : L2.St} (V : SS K mg ρ R α σ) : ∀ vs : List Nat, SS K mg (wipeD ρ vs) R α (wipe σ vs)
  | [] => V
  | v :: vs => by
    have ih := SS.wipe V vs
    refine ⟨by show ((wipeD ρ vs).set v none).length = ((L2.wipe σ vs).set v none).length; simp [ih.1], fun i d q => ?_⟩
    have q : ((wipeD ρ vs).set v none)[i]? = some (some d) := q
    show ∃ w, ((L2.wipe σ vs).set v none)[i]? = some (some w) ∧ _
    by_cases e : v = i
    · subst e
      by_cases hl : v < (wipeD ρ vs).length
      · rw [List.getElem?_set_self hl] at q; cases q
      · rw [List.getElem?_eq_none (by simp; omega)] at q; cases q
    · rw [List.getElem?_set_ne e] at q
      obtain ⟨w, h1, h2⟩ := ih.2 i d q
      exact ⟨w, by rw [List.getElem?_set_ne e]; exact h1, h2⟩
/-- a place that nobody of ours knows changes -/
theorem SM.out {Da : Addr} {H' : Hp} (S : SM K mg μ α R H) (hD : ¬ Kn α R Da) (h : ∀ b, b ≠ Da → H' b = H b) : SM K mg μ α R H' :=
  S.heap (fun a u q => by rw [h a fun z => hD (.inr ⟨u, by rw [← z]; exact q⟩)]; exact S.frz a u q) (fun n c a _ q2 => h a fun z => hD (.inl (by rw [← z]; exact List.mem_of_getElem? q2)))
    fun a ha => by rw [h a fun z => hD (.inl (by rw [← z]; exact ha))]; exact S.trk a ha
theorem Adv.out {Da : Addr} {α' : List Addr} {R' H' H2 : Hp} (A : Adv α R H α' R' H') (hD : H Da = none) (h : ∀ b, b ≠ Da → H2 b = H' b) : Adv α R H α' R' H2 :=
  ⟨A.r, A.a, fun b o u q => by rw [h b (ne_of_none q hD)]; exact A.f b o u q, fun b o q => by rw [h b (ne_of_none q hD)]; exact A.t b o q, fun b o q nk => by rw [h b (ne_of_none q hD)]; exact A.k b o q nk, A.n⟩
/-- .. and is there from the first -/
theorem Adv.out2 {Da : Addr} {α' : List Addr} {R' H0 H' H2 : Hp} (A : Adv α R H α' R' H') (hD : H0 Da = none) (h0 : ∀ b, b ≠ Da → H0 b = H b) (h : ∀ b, b ≠ Da → H2 b = H' b) : Adv α R H0 α' R' H2 := by
  have ne : ∀ {b : Addr} {o : HO}, H0 b = some o → b ≠ Da := fun q => ne_of_none q hD
  refine ⟨A.r, A.a, fun b o u q => ?_, fun b o q => ?_, fun b o q nk => ?_, fun b q => ?_⟩
  · rw [h b (ne q)]; exact A.f b o u (by rw [← h0 b (ne q)]; exact q)
  · rw [h b (ne q)]; exact A.t b o (by rw [← h0 b (ne q)]; exact q)
  · rw [h b (ne q)]; exact A.k b o (by rw [← h0 b (ne q)]; exact q) nk
  · rcases A.n b q with z | z
    · exact .inl z
    · by_cases e : b = Da
      · subst e; exact .inr hD
      · exact .inr (by rw [h0 b e]; exact z)
theorem Kn.no_none (S : SM K mg μ α R H) {Da : Addr} (h : H Da = none) : ¬ Kn α R Da := by
  rintro (q | ⟨u, q⟩)
  · obtain ⟨o, e⟩ := S.trk Da q; rw [h] at e; cases e
  · rcases S.frz Da u q with e | ⟨ks, o, _, e⟩
    · rw [h] at e; cases e
    · rw [h] at e; cases e
theorem Adv.notKn {Da : Addr} {α' : List Addr} {R' H' : Hp} {o : HO} (A : Adv α R H α' R' H') (hD : ¬ Kn α R Da) (h : H Da = some o) : ¬ Kn α' R' Da := fun q => (A.n Da q).elim hD fun z => by rw [h] at z; cases z
/-- what stood at Da while our list was made there, taken out again -/
def eras (H : Hp) (Da : Addr) : Hp := fun b => if b = Da then none else H b
theorem eras_same {H : Hp} {Da : Addr} : eras H Da Da = none := by unfold eras; rw [if_pos rfl]
theorem eras_ne {H : Hp} {Da b : Addr} (h : b ≠ Da) : eras H Da b = H b := by unfold eras; rw [if_neg h]
theorem eras_upd {H : Hp} {Da : Addr} {o : HO} (h : H Da = some o) : upd (eras H Da) Da o = H := by
  funext b
  by_cases e : b = Da
  · subst e; rw [upd_same, h]
  · rw [upd_ne e, eras_ne e]
theorem after_noEx {ω τ : Type} {rel : Hp → List Addr → ω → τ → Prop} {r : Res τ} {Q : ω → Hp → Prop} {E' : XK} (h : After K mg E rel α R H (noEx r) Q) : After K mg E' rel α R H r Q := by
  cases r with
  | ok d μ => exact h
  | ex x μ => exact False.elim h
  | bad => exact h
theorem lc_lift {fi : FI} {T : Tg} {t : FT} {e : FE} {own : List Nat} (hT : ∀ i ∈ tgSlots T, i ∈ own) {σ : L2.St} {H : Hp} {Q : VK} (h : tNew K mg E (nComp fi T t e own) σ H Q) :
    tLc (LiftI K mg E fi) (hG K T) (Lift K mg EN relB t) (Lift K mg EN (relD K mg) e) own σ H Q := by
  obtain ⟨ρ, μ, α, R, S, V, h⟩ := h
  refine ⟨ρ, μ, α, R, S, V, ?_⟩
  unfold nComp at h
  cases e1 : fi ρ μ with
  | bad => rw [e1] at h; exact h
  | ex x μ1 => rw [e1] at h; exact h
  | ok it μ1 =>
    rw [e1] at h
    intro J α1 R1 H1 S1 A1 G Da hD
    have h : After K mg E (relN K mg) α R H ((compL it.chk T t e own it.items ρ μ1).bind fun ds μ2 => .ok (.list ds) μ2) (fun x H1 => ∀ p, H1 p = none → Q (.ref p) (upd H1 p x.2)) := h
    have nk : ¬ Kn α1 R1 Da := Kn.no_none S1 hD
    let Rest : Nat → Mu → List D → Res Cell := fun i μ acc => (compL it.chk T t e own (it.items.drop i) ρ μ).bind fun ds μ2 => .ok (.list (acc ++ ds)) μ2
    refine ⟨fun i m H' => ∃ μ α2 R2 av acc, SM K mg μ α2 R2 H' ∧ Adv α1 R1 H1 α2 R2 H' ∧ ¬ Kn α2 R2 Da ∧ H' Da = some (.lst av) ∧ DenL K mg R2 α2 av acc ∧ acc.length ≤ i ∧ i ≤ it.items.length ∧ m = it.items.length - i ∧
        After K mg E (relN K mg) α R H (Rest i μ acc) (fun x H1 => ∀ p, H1 p = none → Q (.ref p) (upd H1 p x.2)),
      ⟨it.items.length, μ1, α1, R1, [], [], S1.out nk (fun b hb => upd_ne hb), (Adv.refl).out hD (fun b hb => upd_ne hb), nk, upd_same, .nil, by simp, by simp, by simp, by simpa [Rest] using h⟩, ?_⟩
    rintro i m H' ⟨μ, α2, R2, av, acc, S2, A2, nk2, hav, dl, hacc, hi, rfl, h⟩
    by_cases hlt : i < it.items.length
    · right
      simp only [Rest] at h
      rw [List.drop_eq_getElem_cons hlt] at h
      unfold compL at h
      split at h
      rotate_left
      · exact False.elim h
      rename_i hk
      obtain ⟨g1, g2⟩ := G.go μ α2 R2 H' i _ S2 A2 hk (List.getElem?_eq_getElem hlt)
      refine ⟨g1, fun H'' => ∃ m', m' < it.items.length - i ∧ ∃ μ α2 R2 av acc, SM K mg μ α2 R2 H'' ∧ Adv α1 R1 H1 α2 R2 H'' ∧ ¬ Kn α2 R2 Da ∧ H'' Da = some (.lst av) ∧ DenL K mg R2 α2 av acc ∧ acc.length ≤ i + 1 ∧ i + 1 ≤ it.items.length ∧ m' = it.items.length - (i + 1) ∧
        After K mg E (relN K mg) α R H (Rest (i + 1) μ acc) (fun x H1 => ∀ p, H1 p = none → Q (.ref p) (upd H1 p x.2)), fun H'' q => q, fun x H2 y => ?_⟩
      obtain ⟨R3, S3, A3, q3⟩ := g2 x H2 y
      split at h
      rotate_left
      · exact False.elim h
      rename_i ρ1 eT
      refine tg_ok S3 T _ x (wipeD ρ own) ρ1 (wipe σ own) _ (((V.adv A1).adv A2).adv A3 |>.wipe own) q3 eT fun σ2 V2 l2 z2 => ⟨?_, ?_⟩
      · apply wipe_ext
        · rw [l2, wipe_length]
        · intro j hj
          rw [z2 j fun q => hj (hT j q)]
          have : ∀ (us : List Nat), j ∉ us → (wipe σ us)[j]? = σ[j]? := by
            intro us
            induction us with
            | nil => intro _; rfl
            | cons u us ih =>
              intro hu
              show ((wipe σ us).set u none)[j]? = _
              rw [List.getElem?_set_ne (fun q => hu (by simp [q])), ih fun q => hu (List.mem_cons_of_mem _ q)]
          exact this own hj
      · have hD3 : H2 Da = some (.lst av) := A3.k Da _ hav nk2
        have nk3 : ¬ Kn α2 R3 Da := A3.notKn nk2 hav
        -- the test
        refine ⟨ρ1, μ, α2, R3, S3, V2, ?_⟩
        cases eb : t ρ1 μ with
        | bad => rw [eb] at h; exact False.elim h
        | ex x μ3 => rw [eb] at h; exact False.elim h
        | ok b μ3 =>
          rw [eb] at h
          intro b' α4 R4 H4 S4 A4 rb
          cases rb
          have hD4 : H4 Da = some (.lst av) := A4.k Da _ hD3 nk3
          have nk4 : ¬ Kn α4 R4 Da := A4.notKn nk3 hD3
          cases b with
          | false =>
            refine ⟨_, by omega, μ3, α4, R4, av, acc, S4, (A2.trans A3).trans A4, nk4, hD4, (dl.adv A3).adv A4, by omega, hlt, rfl, ?_⟩
            exact h
          | true =>
            refine ⟨ρ1, μ3, α4, R4, S4, V2.adv A4, ?_⟩
            have h : After K mg E (relN K mg) α R H (((noEx (e ρ1 μ3)).bind fun d μ2 => (compL it.chk T t e own (it.items.drop (i + 1)) ρ μ2).bind fun ds μ3 => .ok (d :: ds) μ3).bind fun ds μ2 => .ok (.list (acc ++ ds)) μ2) (fun x H1 => ∀ p, H1 p = none → Q (.ref p) (upd H1 p x.2)) := h
            cases ee : e ρ1 μ3 with
            | bad => rw [ee] at h; exact False.elim h
            | ex x μ5 => rw [ee] at h; exact False.elim h
            | ok d μ5 =>
              rw [ee] at h
              intro w α5 R5 H5 S5 A5 dw
              have hD5 : H5 Da = some (.lst av) := A5.k Da _ hD4 nk4
              have nk5 : ¬ Kn α5 R5 Da := A5.notKn nk4 hD4
              have dl5 := ((dl.adv A3).adv A4).adv A5
              refine ⟨av, hD5, ?_, ?_⟩
              · rw [dl5.len]
                have := G.len
                omega
              · refine ⟨_, by omega, μ5, α5, R5, av ++ [w], acc ++ [d], S5.out nk5 (fun b hb => upd_ne hb), (((A2.trans A3).trans A4).trans A5).out hD (fun b hb => upd_ne hb), nk5, upd_same, dl5.append (.cons dw .nil), by simp; omega, hlt, rfl, ?_⟩
                have h : After K mg E (relN K mg) α R H (((compL it.chk T t e own (it.items.drop (i + 1)) ρ μ5).bind fun ds μ3 => .ok (d :: ds) μ3).bind fun ds μ2 => .ok (.list (acc ++ ds)) μ2) (fun x H1 => ∀ p, H1 p = none → Q (.ref p) (upd H1 p x.2)) := h
                simp only [Rest]
                cases ec : compL it.chk T t e own (it.items.drop (i + 1)) ρ μ5 with
                | bad => rw [ec] at h; exact h
                | ex x μ6 => rw [ec] at h; exact h
                | ok ds μ6 =>
                  rw [ec] at h
                  have e2 : (acc ++ [d]) ++ ds = acc ++ (d :: ds) := by simp
                  show After K mg E (relN K mg) α R H (.ok (.list ((acc ++ [d]) ++ ds)) μ6) _
                  rw [e2]; exact h
    · left
      have hn : i = it.items.length := by omega
      subst hn
      simp only [Rest] at h
      rw [List.drop_length] at h
      unfold compL at h
      split at h
      rotate_left
      · exact False.elim h
      rename_i hk
      refine ⟨G.stop μ α2 R2 H' S2 A2 hk, ?_⟩
      have h : After K mg E (relN K mg) α R H (.ok (.list (acc ++ [])) μ) (fun x H1 => ∀ p, H1 p = none → Q (.ref p) (upd H1 p x.2)) := h
      rw [List.append_nil] at h
      have hA : Adv α R H α2 R2 (eras H' Da) := by
        refine (A1.trans (A2.out hD fun b hb => ?_))
        exact eras_ne hb
      have := h (L2.V.non, .lst av) α2 R2 (eras H' Da) (S2.out nk2 fun b hb => eras_ne hb) hA ⟨av, rfl, by rw [dl.len]; exact Nat.le_trans hacc G.len, dl⟩ Da eras_same
      rwa [eras_upd hav] at this
end
end TL

set_option Elab.async false
set_option maxRecDepth 100000
set_option maxHeartbeats 1000000
set_option linter.all false
/-! The tree layer, part h: comprehensions as expressions; dict comprehensions; while; displays of dicts; stores. -/
namespace TL
open PySem PySem.Spec PyProof.Rows L2

def DTs (X : Cx) (E : XK) (ifs : List Expr) (f : FT) : Prop := PTs X ifs (Lift X.K X.mg E relB f)
section
variable {X : Cx} {E : XK} {elt tg iter c : Expr} {ifs : List Expr} {scope : Scope} {own : List (Str × Nat)} {pos spos : Pos} {fi : FI} {T : Tg} {t : FT} {e : FE}
theorem dts_nil : DTs X E [] tTrue := ⟨fun pins s σ H Q I ⟨ρ, μ, α, R, S, V, h⟩ => (pts_nil (X := X)).run pins s σ H Q I (h true α R H S .refl rfl)⟩
theorem dts_one (h : DT X E c t) : DTs X E [c] t := pts_one h
theorem dn_lc (hT : ∀ i ∈ tgSlots T, i ∈ own.map (·.2)) (hc : X.calm = true) (hN : X.N.Nodup) (hi : DI X E tg iter fi) (ok : BlkOk X.N X.env.scope scope own)
    (hg : ∀ (s : Shared) (H : Hp) (C : Addr) (cl : List (Str × Addr)) (fp : List Addr), GT (X.blk s H scope (compEnvC scope cl C X.env) fp) tg T)
    (ht : ∀ (s : Shared) (H : Hp) (C : Addr) (cl : List (Str × Addr)) (fp : List Addr), DTs (X.blk s H scope (compEnvC scope cl C X.env) fp) EN ifs t)
    (he : ∀ (s : Shared) (H : Hp) (C : Addr) (cl : List (Str × Addr)) (fp : List Addr), DE (X.blk s H scope (compEnvC scope cl C X.env) fp) EN elt e) (hs : ∀ x, foldedSetIterable iter X.env x = pure x := by intro _; rfl) :
    DN X E (.ListComp elt [⟨tg, iter, ifs, 0⟩] scope pos) (nComp fi T t e (own.map (·.2))) :=
  wE (pe_lc (wi := LiftI X.K X.mg E fi) (g := hG X.K T) (tt := Lift X.K X.mg EN relB t) (te := Lift X.K X.mg EN (relD X.K X.mg) e) hc hN hi ok hg ht he hs) fun σ H Q h => lc_lift hT h
/-- from a new thing's reading to name = it -/
theorem set_fz {K : PySem.W.Frag} {mg : Str → Option Value} {f : FN} {i : Nat} {te : TE} (k : ∀ σ H Q, tNew K mg E f σ H Q → te σ H Q) {Dn : Ends} {σ : L2.St} {H : Hp} (h : LiftS K mg E (sSet i (eFz f)) Dn σ H) : te σ H fun x H1 => gName i x σ H1 Dn.nx := by
  obtain ⟨ρ, μ, α, R, S, V, h⟩ := h
  refine k σ H _ ⟨ρ, μ, α, R, S, V, ?_⟩
  have h : AfterS K mg E α R H (((f ρ μ).bind fun c μ1 => .ok (cellD c) μ1).bind fun d μ1 => .ok (.nx (ρ.set i (some d))) μ1) Dn := h
  cases e1 : f ρ μ with
  | bad => rw [e1] at h; exact False.elim h
  | ex x μ1 => rw [e1] at h; exact h
  | ok c μ1 =>
    rw [e1] at h
    intro v α1 R1 H1 S1 A1 d1 p hp
    have h : AfterS K mg E α R H (.ok (.nx (ρ.set i (some (cellD c)))) μ1) Dn := h
    obtain ⟨S2, A2⟩ := S1.lay (u := v.2) hp
    refine h _ α1 _ _ S2 (A1.trans A2) (((V.adv A1).adv A2).set i ?_)
    cases c with
    | list xs => obtain ⟨vs, e1, e2, e3⟩ := d1; exact .list (by rw [upd_same, e1]) e2 (e3.adv A2)
    | dict xs => obtain ⟨vs, e1, e2, e3⟩ := d1; exact .dict (by rw [upd_same, e1]) e2 (e3.up A2.r A2.a)
    | obj c xs => obtain ⟨C, dx, vs, e0, e1, e3⟩ := d1; exact .obj e0 (by rw [upd_same, e1]) (e3.up A2.r A2.a)
theorem set_new {K : PySem.W.Frag} {mg : Str → Option Value} {f : FN} {i : Nat} {te : TE} (k : ∀ σ H Q, tNew K mg E f σ H Q → te σ H Q) {Dn : Ends} {σ : L2.St} {H : Hp} (h : LiftS K mg E (sSet i (eNew f)) Dn σ H) : te σ H fun x H1 => gName i x σ H1 Dn.nx := by
  obtain ⟨ρ, μ, α, R, S, V, h⟩ := h
  refine k σ H _ ⟨ρ, μ, α, R, S, V, ?_⟩
  have h : AfterS K mg E α R H (((f ρ μ).bind fun c μ1 => .ok (.loc μ1.length) (μ1 ++ [some c])).bind fun d μ1 => .ok (.nx (ρ.set i (some d))) μ1) Dn := h
  cases e1 : f ρ μ with
  | bad => rw [e1] at h; exact False.elim h
  | ex x μ1 => rw [e1] at h; exact h
  | ok c μ1 =>
    rw [e1] at h
    intro v α1 R1 H1 S1 A1 d1 p hp
    have h : AfterS K mg E α R H (.ok (.nx (ρ.set i (some (.loc μ1.length)))) (μ1 ++ [some c])) Dn := h
    have hc : CellOk K mg R1 α1 (upd H1 p v.2) p c := by
      cases c with
      | list xs => obtain ⟨vs, e1, e2, e3⟩ := d1; exact ⟨vs, by rw [upd_same, e1], e2, e3⟩
      | dict xs => obtain ⟨vs, e1, e2, e3⟩ := d1; exact ⟨vs, by rw [upd_same, e1], e2, e3⟩
      | obj c xs => obtain ⟨C, dx, vs, e0, e1, e3⟩ := d1; exact ⟨C, dx, vs, e0, by rw [upd_same, e1], e3⟩
    obtain ⟨S2, A2, hl⟩ := S1.cellNew hp hc
    exact h _ _ _ _ S2 (A1.trans A2) (((V.adv A1).adv A2).set i (.loc hl))
theorem lc_set {i : Nat} {y : Str} {py : Pos} (hT : ∀ i ∈ tgSlots T, i ∈ own.map (·.2)) (hc : X.calm = true) (hN : X.N.Nodup) (hy : X.N[i]? = some y) (hyl : X.env.scope.names.lookup y = some .local)
    (hsw : swapsWith (.ListComp elt [⟨tg, iter, ifs, 0⟩] scope pos) (some (.Name y py)) spos.line X.env = pure true) (hi : DI X E tg iter fi) (ok : BlkOk X.N X.env.scope scope own)
    (hg : ∀ (s : Shared) (H : Hp) (C : Addr) (cl : List (Str × Addr)) (fp : List Addr), GT (X.blk s H scope (compEnvC scope cl C X.env) fp) tg T)
    (ht : ∀ (s : Shared) (H : Hp) (C : Addr) (cl : List (Str × Addr)) (fp : List Addr), DTs (X.blk s H scope (compEnvC scope cl C X.env) fp) EN ifs t)
    (he : ∀ (s : Shared) (H : Hp) (C : Addr) (cl : List (Str × Addr)) (fp : List Addr), DE (X.blk s H scope (compEnvC scope cl C X.env) fp) EN elt e) (hs : ∀ x, foldedSetIterable iter X.env x = pure x := by intro _; rfl) :
    DS X E (.Assign [.Name y py] (.ListComp elt [⟨tg, iter, ifs, 0⟩] scope pos) spos) (sSet i (eFz (nComp fi T t e (own.map (·.2))))) ∧
    DS X E (.Assign [.Name y py] (.ListComp elt [⟨tg, iter, ifs, 0⟩] scope pos) spos) (sSet i (eNew (nComp fi T t e (own.map (·.2))))) :=
  have h := ps_setLc (wi := LiftI X.K X.mg E fi) (g := hG X.K T) (tt := Lift X.K X.mg EN relB t) (te := Lift X.K X.mg EN (relD X.K X.mg) e) hc hN hy hyl hsw hi ok hg ht he hs
  ⟨wS h fun Dn σ H q => set_fz (fun σ H Q h => lc_lift hT h) q, wS h fun Dn σ H q => set_new (fun σ H Q h => lc_lift hT h) q⟩
theorem lc_set1 {i : Nat} {y : Str} {py : Pos} (hT : ∀ i ∈ tgSlots T, i ∈ own.map (·.2)) (hc : X.calm = true) (hN : X.N.Nodup) (hy : X.N[i]? = some y) (hyl : X.env.scope.names.lookup y = some .local)
    (hsw : swapsWith (.ListComp elt [⟨tg, iter, ifs, 0⟩] scope pos) (some (.Name y py)) spos.line X.env = pure true) (hi : DI X E tg iter fi) (ok : BlkOk X.N X.env.scope scope own)
    (hg : ∀ (s : Shared) (H : Hp) (C : Addr) (cl : List (Str × Addr)) (fp : List Addr), GT (X.blk s H scope (compEnvC scope cl C X.env) fp) tg T)
    (ht : ∀ (s : Shared) (H : Hp) (C : Addr) (cl : List (Str × Addr)) (fp : List Addr), DTs (X.blk s H scope (compEnvC scope cl C X.env) fp) EN ifs t)
    (he : ∀ (s : Shared) (H : Hp) (C : Addr) (cl : List (Str × Addr)) (fp : List Addr), DE (X.blk s H scope (compEnvC scope cl C X.env) fp) EN elt e) (hs : ∀ x, foldedSetIterable iter X.env x = pure x := by intro _; rfl) :
    DS X E (.Assign [.Name y py] (.ListComp elt [⟨tg, iter, ifs, 0⟩] scope pos) spos) (sSet i (eFz (nComp fi T t e (own.map (·.2))))) := (lc_set hT hc hN hy hyl hsw hi ok hg ht he hs).1
theorem lc_set2 {i : Nat} {y : Str} {py : Pos} (hT : ∀ i ∈ tgSlots T, i ∈ own.map (·.2)) (hc : X.calm = true) (hN : X.N.Nodup) (hy : X.N[i]? = some y) (hyl : X.env.scope.names.lookup y = some .local)
    (hsw : swapsWith (.ListComp elt [⟨tg, iter, ifs, 0⟩] scope pos) (some (.Name y py)) spos.line X.env = pure true) (hi : DI X E tg iter fi) (ok : BlkOk X.N X.env.scope scope own)
    (hg : ∀ (s : Shared) (H : Hp) (C : Addr) (cl : List (Str × Addr)) (fp : List Addr), GT (X.blk s H scope (compEnvC scope cl C X.env) fp) tg T)
    (ht : ∀ (s : Shared) (H : Hp) (C : Addr) (cl : List (Str × Addr)) (fp : List Addr), DTs (X.blk s H scope (compEnvC scope cl C X.env) fp) EN ifs t)
    (he : ∀ (s : Shared) (H : Hp) (C : Addr) (cl : List (Str × Addr)) (fp : List Addr), DE (X.blk s H scope (compEnvC scope cl C X.env) fp) EN elt e) (hs : ∀ x, foldedSetIterable iter X.env x = pure x := by intro _; rfl) :
    DS X E (.Assign [.Name y py] (.ListComp elt [⟨tg, iter, ifs, 0⟩] scope pos) spos) (sSet i (eNew (nComp fi T t e (own.map (·.2))))) := (lc_set hT hc hN hy hyl hsw hi ok hg ht he hs).2
end
/-! ### dict comprehensions -/
def putD (kvs : List (Key × D)) (k : Key) (d : D) : List (Key × D) :=
  if (kvs.any fun kv => decide (kv.1 = k)) = true then kvs.map (fun kv => if kv.1 = k then (kv.1, d) else kv) else kvs ++ [(k, d)]
section
variable {K : PySem.W.Frag} {mg : Str → Option Value} {E : XK} {R H : Hp} {α : List Addr} {μ : Mu}
theorem DenK.any {ks : List (Key × V)} {kvs : List (Key × D)} (h : DenK K mg R α ks kvs) (k : Key) : (ks.any fun kv => decide (kv.1 = k)) = kvs.any fun kv => decide (kv.1 = k) := by
  match h with
  | .nil => rfl
  | .cons _ t => simp only [List.any_cons, DenK.any t k]
theorem DenK.repl {v : V} {d : D} (hd : Den K mg R α v d) (k : Key) : ∀ {ks : List (Key × V)} {kvs : List (Key × D)}, DenK K mg R α ks kvs →
    DenK K mg R α (ks.map fun kv => if kv.1 = k then (kv.1, v) else kv) (kvs.map fun kv => if kv.1 = k then (kv.1, d) else kv)
  | _, _, .nil => .nil
  | _, _, .cons (k := j) h t => by
    simp only [List.map_cons]
    by_cases e : j = k
    · rw [if_pos e, if_pos e]; exact .cons hd (DenK.repl hd k t)
    · rw [if_neg e, if_neg e]; exact .cons h (DenK.repl hd k t)
theorem DenK.snoc {v : V} {d : D} (hd : Den K mg R α v d) (k : Key) : ∀ {ks : List (Key × V)} {kvs : List (Key × D)}, DenK K mg R α ks kvs → DenK K mg R α (ks ++ [(k, v)]) (kvs ++ [(k, d)])
  | _, _, .nil => .cons hd .nil
  | _, _, .cons h t => .cons h (DenK.snoc hd k t)
theorem DenK.put {v : V} {d : D} {ks : List (Key × V)} {kvs : List (Key × D)} (h : DenK K mg R α ks kvs) (k : Key) (hd : Den K mg R α v d) : DenK K mg R α (putK ks k v) (putD kvs k d) := by
  unfold putK putD
  rw [h.any k]
  split
  · exact h.repl hd k
  · exact h.snoc hd k
theorem DenK.drop {ks : List (Key × V)} {kvs : List (Key × D)} (k : Key) (h : DenK K mg R α ks kvs) : DenK K mg R α (dropK ks k) (kvs.filter fun kv => decide (kv.1 ≠ k)) := by
  match h with
  | .nil => exact .nil
  | .cons (k := j) (v := v) (vs := vs) h t =>
    have ih := DenK.drop k t
    show DenK K mg R α (((j, v) :: vs).filter fun kv => decide (kv.1 ≠ k)) _
    by_cases e : j = k
    · rw [List.filter_cons_of_neg (by simp [e]), List.filter_cons_of_neg (by simp [e])]; exact ih
    · rw [List.filter_cons_of_pos (by simp [e]), List.filter_cons_of_pos (by simp [e])]; exact .cons h ih
end
theorem putD_len (kvs : List (Key × D)) (k : Key) (d : D) : (putD kvs k d).length ≤ kvs.length + 1 := by
  unfold putD
  split <;> simp
def compK (chk : Mu → Bool) (T : Tg) (t : FT) (ek ev : FE) (own : List Nat) : List D → List (Key × D) → Env → Mu → Res (List (Key × D))
  | [], acc, _, μ => if chk μ = true then .ok acc μ else .bad
  | x :: xs, acc, ρ, μ => if chk μ = true then (match tgSet T x (wipeD ρ own) with
    | some ρ1 => (noEx (t ρ1 μ)).bind fun b μ1 => if b = true then (noEx (ek ρ1 μ1)).bind fun dk μ2 => (noEx (ev ρ1 μ2)).bind fun d μ3 => match keyOf dk with
          | some k => compK chk T t ek ev own xs (putD acc k d) ρ μ3
          | none => .bad
        else compK chk T t ek ev own xs acc ρ μ1
    | none => .bad) else .bad
def nCompK (fi : FI) (T : Tg) (t : FT) (ek ev : FE) (own : List Nat) : FN := fun ρ μ => (fi ρ μ).bind fun it μ1 => (compK it.chk T t ek ev own it.items [] ρ μ1).bind fun ds μ2 => .ok (.dict ds) μ2
section
variable {K : PySem.W.Frag} {mg : Str → Option Value} {E : XK} {R H : Hp} {α : List Addr} {μ : Mu}
theorem dc_lift {fi : FI} {T : Tg} {t : FT} {ek ev : FE} {own : List Nat} (hT : ∀ i ∈ tgSlots T, i ∈ own) {σ : L2.St} {H : Hp} {Q : VK} (h : tNew K mg E (nCompK fi T t ek ev own) σ H Q) :
    tDc (LiftI K mg E fi) (hG K T) (Lift K mg EN relB t) (Lift K mg EN (relD K mg) ek) (Lift K mg EN (relD K mg) ev) own σ H Q := by
  obtain ⟨ρ, μ, α, R, S, V, h⟩ := h
  refine ⟨ρ, μ, α, R, S, V, ?_⟩
  unfold nCompK at h
  cases e1 : fi ρ μ with
  | bad => rw [e1] at h; exact h
  | ex x μ1 => rw [e1] at h; exact h
  | ok it μ1 =>
    rw [e1] at h
    intro J α1 R1 H1 S1 A1 G Da hD
    let Rest : Nat → Mu → List (Key × D) → Res Cell := fun i μ acc => (compK it.chk T t ek ev own (it.items.drop i) acc ρ μ).bind fun ds μ2 => .ok (.dict ds) μ2
    have h : After K mg E (relN K mg) α R H (Rest 0 μ1 []) (fun x H1 => ∀ p, H1 p = none → Q (.ref p) (upd H1 p x.2)) := h
    have nk : ¬ Kn α1 R1 Da := Kn.no_none S1 hD
    refine ⟨fun i m H' => ∃ μ α2 R2 av acc, SM K mg μ α2 R2 H' ∧ Adv α1 R1 H1 α2 R2 H' ∧ ¬ Kn α2 R2 Da ∧ H' Da = some (.dK av) ∧ DenK K mg R2 α2 av acc ∧ acc.length ≤ i ∧ i ≤ it.items.length ∧ m = it.items.length - i ∧
        After K mg E (relN K mg) α R H (Rest i μ acc) (fun x H1 => ∀ p, H1 p = none → Q (.ref p) (upd H1 p x.2)),
      ⟨it.items.length, μ1, α1, R1, [], [], S1.out nk (fun b hb => upd_ne hb), (Adv.refl).out hD (fun b hb => upd_ne hb), nk, upd_same, .nil, by simp, by simp, by simp, h⟩, ?_⟩
    rintro i m H' ⟨μ, α2, R2, av, acc, S2, A2, nk2, hav, dl, hacc, hi, rfl, h⟩
    by_cases hlt : i < it.items.length
    · right
      simp only [Rest] at h
      rw [List.drop_eq_getElem_cons hlt] at h
      unfold compK at h
      split at h
      rotate_left
      · exact False.elim h
      rename_i hk
      obtain ⟨g1, g2⟩ := G.go μ α2 R2 H' i _ S2 A2 hk (List.getElem?_eq_getElem hlt)
      refine ⟨g1, fun H'' => ∃ m', m' < it.items.length - i ∧ ∃ μ α2 R2 av acc, SM K mg μ α2 R2 H'' ∧ Adv α1 R1 H1 α2 R2 H'' ∧ ¬ Kn α2 R2 Da ∧ H'' Da = some (.dK av) ∧ DenK K mg R2 α2 av acc ∧ acc.length ≤ i + 1 ∧ i + 1 ≤ it.items.length ∧ m' = it.items.length - (i + 1) ∧
        After K mg E (relN K mg) α R H (Rest (i + 1) μ acc) (fun x H1 => ∀ p, H1 p = none → Q (.ref p) (upd H1 p x.2)), fun H'' q => q, fun x H2 y => ?_⟩
      obtain ⟨R3, S3, A3, q3⟩ := g2 x H2 y
      split at h
      rotate_left
      · exact False.elim h
      rename_i ρ1 eT
      refine tg_ok S3 T _ x (wipeD ρ own) ρ1 (wipe σ own) _ (((V.adv A1).adv A2).adv A3 |>.wipe own) q3 eT fun σ2 V2 l2 z2 => ⟨?_, ?_⟩
      · apply wipe_ext
        · rw [l2, wipe_length]
        · intro j hj
          rw [z2 j fun q => hj (hT j q)]
          have : ∀ (us : List Nat), j ∉ us → (wipe σ us)[j]? = σ[j]? := by
            intro us
            induction us with
            | nil => intro _; rfl
            | cons u us ih =>
              intro hu
              show ((wipe σ us).set u none)[j]? = _
              rw [List.getElem?_set_ne (fun q => hu (by simp [q])), ih fun q => hu (List.mem_cons_of_mem _ q)]
          exact this own hj
      · have hD3 : H2 Da = some (.dK av) := A3.k Da _ hav nk2
        have nk3 : ¬ Kn α2 R3 Da := A3.notKn nk2 hav
        refine ⟨ρ1, μ, α2, R3, S3, V2, ?_⟩
        cases eb : t ρ1 μ with
        | bad => rw [eb] at h; exact False.elim h
        | ex x μ3 => rw [eb] at h; exact False.elim h
        | ok b μ3 =>
          rw [eb] at h
          intro b' α4 R4 H4 S4 A4 rb
          cases rb
          have hD4 : H4 Da = some (.dK av) := A4.k Da _ hD3 nk3
          have nk4 : ¬ Kn α4 R4 Da := A4.notKn nk3 hD3
          cases b with
          | false =>
            refine ⟨_, by omega, μ3, α4, R4, av, acc, S4, (A2.trans A3).trans A4, nk4, hD4, (dl.adv A3).adv A4, by omega, hlt, rfl, ?_⟩
            exact h
          | true =>
            refine ⟨ρ1, μ3, α4, R4, S4, V2.adv A4, ?_⟩
            have h : After K mg E (relN K mg) α R H (((noEx (ek ρ1 μ3)).bind fun dk μ2 => (noEx (ev ρ1 μ2)).bind fun d μ3 => match keyOf dk with
              | some k => compK it.chk T t ek ev own (it.items.drop (i + 1)) (putD acc k d) ρ μ3
              | none => .bad).bind fun ds μ2 => .ok (.dict ds) μ2) (fun x H1 => ∀ p, H1 p = none → Q (.ref p) (upd H1 p x.2)) := h
            cases ee : ek ρ1 μ3 with
            | bad => rw [ee] at h; exact False.elim h
            | ex x μ5 => rw [ee] at h; exact False.elim h
            | ok dk μ5 =>
              rw [ee] at h
              intro w α5 R5 H5 S5 A5 dw
              have hD5 : H5 Da = some (.dK av) := A5.k Da _ hD4 nk4
              have nk5 : ¬ Kn α5 R5 Da := A5.notKn nk4 hD4
              refine ⟨ρ1, μ5, α5, R5, S5, (V2.adv A4).adv A5, ?_⟩
              have h : After K mg E (relN K mg) α R H (((noEx (ev ρ1 μ5)).bind fun d μ3 => match keyOf dk with
                | some k => compK it.chk T t ek ev own (it.items.drop (i + 1)) (putD acc k d) ρ μ3
                | none => .bad).bind fun ds μ2 => .ok (.dict ds) μ2) (fun x H1 => ∀ p, H1 p = none → Q (.ref p) (upd H1 p x.2)) := h
              cases ev' : ev ρ1 μ5 with
              | bad => rw [ev'] at h; exact False.elim h
              | ex x μ6 => rw [ev'] at h; exact False.elim h
              | ok d μ6 =>
                rw [ev'] at h
                intro z α6 R6 H6 S6 A6 dz
                have hD6 : H6 Da = some (.dK av) := A6.k Da _ hD5 nk5
                have nk6 : ¬ Kn α6 R6 Da := A6.notKn nk5 hD5
                have h : After K mg E (relN K mg) α R H ((match keyOf dk with
                  | some k => compK it.chk T t ek ev own (it.items.drop (i + 1)) (putD acc k d) ρ μ6
                  | none => .bad).bind fun ds μ2 => .ok (.dict ds) μ2) (fun x H1 => ∀ p, H1 p = none → Q (.ref p) (upd H1 p x.2)) := h
                cases ek' : keyOf dk with
                | none => rw [ek'] at h; exact False.elim h
                | some k =>
                  rw [ek'] at h
                  have dl6 := (((dl.adv A3).adv A4).adv A5).adv A6
                  refine ⟨av, k, keyOf_den dw ek', hD6, ?_, ?_⟩
                  · rw [dl6.len]
                    have := G.len
                    omega
                  · exact ⟨_, by omega, μ6, α6, R6, putK av k z, putD acc k d, S6.out nk6 (fun b hb => upd_ne hb), ((((A2.trans A3).trans A4).trans A5).trans A6).out hD (fun b hb => upd_ne hb), nk6, upd_same, dl6.put k dz,
                      by have := putD_len acc k d; omega, hlt, rfl, h⟩
    · left
      have hn : i = it.items.length := by omega
      subst hn
      simp only [Rest] at h
      rw [List.drop_length] at h
      unfold compK at h
      split at h
      rotate_left
      · exact False.elim h
      rename_i hk
      refine ⟨G.stop μ α2 R2 H' S2 A2 hk, ?_⟩
      have h : After K mg E (relN K mg) α R H (.ok (.dict acc) μ) (fun x H1 => ∀ p, H1 p = none → Q (.ref p) (upd H1 p x.2)) := h
      have hA : Adv α R H α2 R2 (eras H' Da) := A1.trans (A2.out hD fun b hb => eras_ne hb)
      have := h (L2.V.non, .dK av) α2 R2 (eras H' Da) (S2.out nk2 fun b hb => eras_ne hb) hA ⟨av, rfl, by rw [dl.len]; exact Nat.le_trans hacc G.len, dl⟩ Da eras_same
      rwa [eras_upd hav] at this
end
section
variable {X : Cx} {E : XK} {kx vx tg iter c : Expr} {ifs : List Expr} {scope : Scope} {own : List (Str × Nat)} {pos spos : Pos} {fi : FI} {T : Tg} {t : FT} {ek ev : FE}
theorem dn_dc (hT : ∀ i ∈ tgSlots T, i ∈ own.map (·.2)) (hc : X.calm = true) (hN : X.N.Nodup) (hi : DI X E tg iter fi) (ok : BlkOk X.N X.env.scope scope own)
    (hg : ∀ (s : Shared) (H : Hp) (C : Addr) (cl : List (Str × Addr)) (fp : List Addr), GT (X.blk s H scope (compEnvC scope cl C X.env) fp) tg T)
    (ht : ∀ (s : Shared) (H : Hp) (C : Addr) (cl : List (Str × Addr)) (fp : List Addr), DTs (X.blk s H scope (compEnvC scope cl C X.env) fp) EN ifs t)
    (hk : ∀ (s : Shared) (H : Hp) (C : Addr) (cl : List (Str × Addr)) (fp : List Addr), DE (X.blk s H scope (compEnvC scope cl C X.env) fp) EN kx ek)
    (he : ∀ (s : Shared) (H : Hp) (C : Addr) (cl : List (Str × Addr)) (fp : List Addr), DE (X.blk s H scope (compEnvC scope cl C X.env) fp) EN vx ev) (hs : ∀ x, foldedSetIterable iter X.env x = pure x := by intro _; rfl) :
    DN X E (.DictComp kx vx [⟨tg, iter, ifs, 0⟩] scope pos) (nCompK fi T t ek ev (own.map (·.2))) :=
  wE (pe_dc (wi := LiftI X.K X.mg E fi) (g := hG X.K T) (tt := Lift X.K X.mg EN relB t) (tk := Lift X.K X.mg EN (relD X.K X.mg) ek) (tv := Lift X.K X.mg EN (relD X.K X.mg) ev) hc hN hi ok hg ht hk he hs) fun σ H Q h => dc_lift hT h
/-- name = {..} on one line, the name a local: as ps_setLc -/
theorem ps_setDc' {i : Nat} {y : Str} {py : Pos} {wi : TI} {g : TG} {tt : TT} {tk te : TE} (hc : X.calm = true) (hN : X.N.Nodup) (hy : X.N[i]? = some y) (hyl : X.env.scope.names.lookup y = some .local)
    (hsw : swapsWith (.DictComp kx vx [⟨tg, iter, ifs, 0⟩] scope pos) (some (.Name y py)) spos.line X.env = pure true) (hi : PI X tg iter wi) (ok : BlkOk X.N X.env.scope scope own)
    (hg : ∀ (s : Shared) (H : Hp) (C : Addr) (cl : List (Str × Addr)) (fp : List Addr), PG (X.blk s H scope (compEnvC scope cl C X.env) fp) tg g)
    (ht : ∀ (s : Shared) (H : Hp) (C : Addr) (cl : List (Str × Addr)) (fp : List Addr), PTs (X.blk s H scope (compEnvC scope cl C X.env) fp) ifs tt)
    (hk : ∀ (s : Shared) (H : Hp) (C : Addr) (cl : List (Str × Addr)) (fp : List Addr), PE (X.blk s H scope (compEnvC scope cl C X.env) fp) kx tk)
    (he : ∀ (s : Shared) (H : Hp) (C : Addr) (cl : List (Str × Addr)) (fp : List Addr), PE (X.blk s H scope (compEnvC scope cl C X.env) fp) vx te) (hs : ∀ x, foldedSetIterable iter X.env x = pure x := by intro _; rfl) :
    PS X (.Assign [.Name y py] (.DictComp kx vx [⟨tg, iter, ifs, 0⟩] scope pos) spos) (tAsg (tDc wi g tt tk te (own.map (·.2))) (gName i)) := by
  refine ⟨fun pins s σ H Dn I h => ?_⟩
  rw [exec_Assign_Name_used _ _ _ _ hsw]
  refine wpAny_bind (wpAny_standAt (wpAny_bind ?_))
  show wpAny _ X.A (do let _ ← comprehension (.DictComp kx vx [⟨tg, iter, ifs, 0⟩] scope pos) scope X.env (firstIterPos [⟨tg, iter, ifs, 0⟩] pos) newDict false (eval iter X.env) (some (assign (.Name y py) X.env))) _ _ s
  have h : tDc wi g tt tk te (own.map (·.2)) σ H (fun x H1 => gName i x σ H1 Dn.nx) := h
  refine wpAny_bind (thn (dc_core (Qf := fun _ s' => SP X pins Dn .next s') hc hN I hi ok hg ht hk he hs h fun L C s' m H' I' q hn f => ?_)
    fun _ s' hq => wpAny_pure (wpAny_pure hq))
  show wpAny _ _ (assign (.Name y py) X.env (.ref L)) _ _ _
  refine wpAny_assign_Name (store_ok2 (v := V.ref L) I' hN hy (.inl hyl) rfl (fun s2 I2 hq => ?_) (.inr hyl))
  obtain ⟨a, sb, ha⟩ := hq
  obtain ⟨f0, f1, f2, f3, f4, f5⟩ := f
  have hCa : C ≠ a := by
    rcases ha with z | z
    · rw [z]
      exact f1
    · exact fun e => f4 y a z e.symm
  exact ⟨m, hn.sameBut sb hCa, fun h3 sb3 => ⟨_, H', I2.turned (t' := s2.toks) (fun b o hb e => (sb3.2 b hb).trans e) f0 f1 f3 f4 f5, q⟩⟩
theorem sw_trueD {kx vx : Expr} {gs : List Comprehension} {py : Pos} {y : Str} {l : Nat} {env : PySem.Env} (hk : env.scope.kind = .function) (hy : env.scope.names.lookup y = some .local) (hl : (py.line == pos.line) = true)
    (ha : (scope.names.any fun (n, k) => n == y && (k == .local || k == .cell)) = false) : swapsWith (.DictComp kx vx gs scope pos) (some (.Name y py)) l env = pure true := by
  have h1 : env.kindOf y = some .local := hy
  have h2 : env.blockKind = .function := by
    unfold PySem.Env.blockKind
    rw [hk] <;> rfl
  unfold swapsWith
  simp only [h1, h2, ha, PySem.Expr.pos, hl]
  rfl
theorem dc_set {i : Nat} {y : Str} {py : Pos} (hT : ∀ i ∈ tgSlots T, i ∈ own.map (·.2)) (hc : X.calm = true) (hN : X.N.Nodup) (hy : X.N[i]? = some y) (hyl : X.env.scope.names.lookup y = some .local)
    (hsw : swapsWith (.DictComp kx vx [⟨tg, iter, ifs, 0⟩] scope pos) (some (.Name y py)) spos.line X.env = pure true) (hi : DI X E tg iter fi) (ok : BlkOk X.N X.env.scope scope own)
    (hg : ∀ (s : Shared) (H : Hp) (C : Addr) (cl : List (Str × Addr)) (fp : List Addr), GT (X.blk s H scope (compEnvC scope cl C X.env) fp) tg T)
    (ht : ∀ (s : Shared) (H : Hp) (C : Addr) (cl : List (Str × Addr)) (fp : List Addr), DTs (X.blk s H scope (compEnvC scope cl C X.env) fp) EN ifs t)
    (hk : ∀ (s : Shared) (H : Hp) (C : Addr) (cl : List (Str × Addr)) (fp : List Addr), DE (X.blk s H scope (compEnvC scope cl C X.env) fp) EN kx ek)
    (he : ∀ (s : Shared) (H : Hp) (C : Addr) (cl : List (Str × Addr)) (fp : List Addr), DE (X.blk s H scope (compEnvC scope cl C X.env) fp) EN vx ev) (hs : ∀ x, foldedSetIterable iter X.env x = pure x := by intro _; rfl) :
    DS X E (.Assign [.Name y py] (.DictComp kx vx [⟨tg, iter, ifs, 0⟩] scope pos) spos) (sSet i (eFz (nCompK fi T t ek ev (own.map (·.2))))) ∧
    DS X E (.Assign [.Name y py] (.DictComp kx vx [⟨tg, iter, ifs, 0⟩] scope pos) spos) (sSet i (eNew (nCompK fi T t ek ev (own.map (·.2))))) :=
  have h := ps_setDc' (wi := LiftI X.K X.mg E fi) (g := hG X.K T) (tt := Lift X.K X.mg EN relB t) (tk := Lift X.K X.mg EN (relD X.K X.mg) ek) (te := Lift X.K X.mg EN (relD X.K X.mg) ev) hc hN hy hyl hsw hi ok hg ht hk he hs
  ⟨wS h fun Dn σ H q => set_fz (fun σ H Q h => dc_lift hT h) q, wS h fun Dn σ H q => set_new (fun σ H Q h => dc_lift hT h) q⟩
theorem dc_set1 {i : Nat} {y : Str} {py : Pos} (hT : ∀ i ∈ tgSlots T, i ∈ own.map (·.2)) (hc : X.calm = true) (hN : X.N.Nodup) (hy : X.N[i]? = some y) (hyl : X.env.scope.names.lookup y = some .local)
    (hsw : swapsWith (.DictComp kx vx [⟨tg, iter, ifs, 0⟩] scope pos) (some (.Name y py)) spos.line X.env = pure true) (hi : DI X E tg iter fi) (ok : BlkOk X.N X.env.scope scope own)
    (hg : ∀ (s : Shared) (H : Hp) (C : Addr) (cl : List (Str × Addr)) (fp : List Addr), GT (X.blk s H scope (compEnvC scope cl C X.env) fp) tg T)
    (ht : ∀ (s : Shared) (H : Hp) (C : Addr) (cl : List (Str × Addr)) (fp : List Addr), DTs (X.blk s H scope (compEnvC scope cl C X.env) fp) EN ifs t)
    (hk : ∀ (s : Shared) (H : Hp) (C : Addr) (cl : List (Str × Addr)) (fp : List Addr), DE (X.blk s H scope (compEnvC scope cl C X.env) fp) EN kx ek)
    (he : ∀ (s : Shared) (H : Hp) (C : Addr) (cl : List (Str × Addr)) (fp : List Addr), DE (X.blk s H scope (compEnvC scope cl C X.env) fp) EN vx ev) (hs : ∀ x, foldedSetIterable iter X.env x = pure x := by intro _; rfl) :
    DS X E (.Assign [.Name y py] (.DictComp kx vx [⟨tg, iter, ifs, 0⟩] scope pos) spos) (sSet i (eFz (nCompK fi T t ek ev (own.map (·.2))))) := (dc_set hT hc hN hy hyl hsw hi ok hg ht hk he hs).1
theorem dc_set2 {i : Nat} {y : Str} {py : Pos} (hT : ∀ i ∈ tgSlots T, i ∈ own.map (·.2)) (hc : X.calm = true) (hN : X.N.Nodup) (hy : X.N[i]? = some y) (hyl : X.env.scope.names.lookup y = some .local)
    (hsw : swapsWith (.DictComp kx vx [⟨tg, iter, ifs, 0⟩] scope pos) (some (.Name y py)) spos.line X.env = pure true) (hi : DI X E tg iter fi) (ok : BlkOk X.N X.env.scope scope own)
    (hg : ∀ (s : Shared) (H : Hp) (C : Addr) (cl : List (Str × Addr)) (fp : List Addr), GT (X.blk s H scope (compEnvC scope cl C X.env) fp) tg T)
    (ht : ∀ (s : Shared) (H : Hp) (C : Addr) (cl : List (Str × Addr)) (fp : List Addr), DTs (X.blk s H scope (compEnvC scope cl C X.env) fp) EN ifs t)
    (hk : ∀ (s : Shared) (H : Hp) (C : Addr) (cl : List (Str × Addr)) (fp : List Addr), DE (X.blk s H scope (compEnvC scope cl C X.env) fp) EN kx ek)
    (he : ∀ (s : Shared) (H : Hp) (C : Addr) (cl : List (Str × Addr)) (fp : List Addr), DE (X.blk s H scope (compEnvC scope cl C X.env) fp) EN vx ev) (hs : ∀ x, foldedSetIterable iter X.env x = pure x := by intro _; rfl) :
    DS X E (.Assign [.Name y py] (.DictComp kx vx [⟨tg, iter, ifs, 0⟩] scope pos) spos) (sSet i (eNew (nCompK fi T t ek ev (own.map (·.2))))) := (dc_set hT hc hN hy hyl hsw hi ok hg ht hk he hs).2
end
/-! ### while -/
def whileF : Nat → FT → FS → Env → Mu → Res Flow
  | 0, _, _, _, _ => .bad
  | n + 1, c, body, ρ, μ => (c ρ μ).bind fun b μ1 => if b = true then (body ρ μ1).bind fun fl μ2 => match fl with
      | .nx ρ2 => whileF n c body ρ2 μ2
      | .ct ρ2 => whileF n c body ρ2 μ2
      | .bk ρ2 => .ok (.nx ρ2) μ2
      | .rt d => .ok (.rt d) μ2
    else .ok (.nx ρ) μ1
def fuel : Nat := 1000000000000
def sWhile (c : FT) (body : FS) : FS := whileF fuel c body
section
variable {X : Cx} {E : XK} {pos : Pos}
theorem ds_while {c : Expr} {body : List Stmt} {tc : FT} {fb : FS} (hp : PassesOwn (model X.prog X.w) X.A X.env X.xe) (hc : DT X E c tc) (hb : DSs X E body fb) : DS X E (.While c body [] pos) (sWhile tc fb) :=
  wS (ps_while hp hc hb) fun Dn σ H ⟨ρ, μ, α, R, S, V, h⟩ => by
    refine ⟨fun m σ H => ∃ ρ μ α R, SM X.K X.mg μ α R H ∧ SS X.K X.mg ρ R α σ ∧ AfterS X.K X.mg E α R H (whileF m tc fb ρ μ) Dn, ⟨fuel, ρ, μ, α, R, S, V, h⟩, ?_⟩
    rintro m σ H ⟨ρ, μ, α, R, S, V, h⟩
    cases m with
    | zero => exact False.elim h
    | succ m =>
      unfold whileF at h
      refine ⟨ρ, μ, α, R, S, V, h.bind fun b μ1 b' α1 R1 H1 S1 A1 rb h1 => ?_⟩
      cases rb
      cases b with
      | false => exact h1 σ α1 R1 H1 S1 .refl (V.adv A1)
      | true =>
        refine ⟨fun σ' H' => ∃ m', m' < m + 1 ∧ ∃ ρ μ α R, SM X.K X.mg μ α R H' ∧ SS X.K X.mg ρ R α σ' ∧ AfterS X.K X.mg E α R H' (whileF m' tc fb ρ μ) Dn, fun _ _ q => q, ρ, μ1, α1, R1, S1, V.adv A1, ?_⟩
        have h1 : AfterS X.K X.mg E α1 R1 H1 ((fb ρ μ1).bind fun fl μ2 => match fl with
          | .nx ρ2 => whileF m tc fb ρ2 μ2
          | .ct ρ2 => whileF m tc fb ρ2 μ2
          | .bk ρ2 => .ok (.nx ρ2) μ2
          | .rt d => .ok (.rt d) μ2) Dn := h1
        refine h1.seq ?_ ?_ ?_ ?_
        · intro ρ3 μ3 σ3 α3 R3 H3 S3 A3 V3 q
          exact ⟨m, by omega, ρ3, μ3, α3, R3, S3, V3, q⟩
        · intro d μ3 v α3 R3 H3 S3 A3 q3 q
          exact q v α3 R3 H3 S3 .refl q3
        · intro ρ3 μ3 σ3 α3 R3 H3 S3 A3 V3 q
          exact q σ3 α3 R3 H3 S3 .refl V3
        · intro ρ3 μ3 σ3 α3 R3 H3 S3 A3 V3 q
          exact ⟨m, by omega, ρ3, μ3, α3, R3, S3, V3, q⟩
end
end TL

set_option Elab.async false
set_option maxRecDepth 100000
set_option maxHeartbeats 1000000
set_option linter.all false
/-! The tree layer, part i: freezing, what a def does (FnT), calls of defs, the law's end. -/
namespace TL
open PySem PySem.Spec PyProof.Rows L2

mutual
/-- every cell that is named lies below n -/
def okLoc (n : Nat) : D → Bool
  | .list xs => okLocs n xs
  | .tuple xs => okLocs n xs
  | .dict kvs => okLocK n kvs
  | .obj _ fs => okLocF n fs
  | .loc i => decide (i < n)
  | .none => true
  | .bool _ => true
  | .int _ => true
  | .str _ => true
  | .fn _ => true
  | .script _ => true
  | .ty _ => true
def okLocs (n : Nat) : List D → Bool
  | [] => true
  | x :: xs => okLoc n x && okLocs n xs
def okLocK (n : Nat) : List (Key × D) → Bool
  | [] => true
  | (_, x) :: xs => okLoc n x && okLocK n xs
def okLocF (n : Nat) : List (Str × D) → Bool
  | [] => true
  | (_, x) :: xs => okLoc n x && okLocF n xs
end
def okCell (n : Nat) : Cell → Bool
  | .list xs => okLocs n xs
  | .dict kvs => okLocK n kvs
  | .obj _ fs => okLocF n fs
def sameC : Cell → Cell → Bool
  | .list xs, .list ys => sames xs ys
  | .dict xs, .dict ys => sameK xs ys
  | .obj c xs, .obj d ys => decide (c = d) && sameF xs ys
  | _, _ => false
theorem sameC_eq : ∀ (a b : Cell), sameC a b = true → a = b
  | .list _, b, h => by cases b <;> simp [sameC] at h; rw [sames_eq _ _ h]
  | .dict _, b, h => by cases b <;> simp [sameC] at h; rw [sameK_eq _ _ h]
  | .obj _ _, b, h => by cases b <;> simp [sameC] at h; rw [h.1, sameF_eq _ _ h.2]
theorem sameC_refl : ∀ (a : Cell), sameC a a = true
  | .list _ => by simp [sameC, sames_refl]
  | .dict _ => by simp [sameC, sameK_refl]
  | .obj _ _ => by simp [sameC, sameF_refl]
/-- a cell ahead of a call and behind it -/
def okStep (n : Nat) (c c' : Option Cell) : Bool := match c' with
  | none => true
  | some d => okCell n d || (match c with | some e => sameC d e | none => false)
/-- the store behind a def, cut back to what stood there ahead of it -/
def chkMu (n : Nat) : Mu → Mu → Bool
  | [], _ => true
  | c :: cs, c' :: cs' => okStep n c c' && chkMu n cs cs'
  | _ :: _, [] => true
def retV (μ μ' : Mu) (d : D) : Res D :=
  if chkMu μ.length μ μ' = true then
    match d with
    | .loc i => if i < μ.length then .ok d (μ'.take μ.length) else match μ'[i]? with
      | some (some c) => if okCell μ.length c = true then .ok (.loc μ.length) (μ'.take μ.length ++ [some c]) else .bad
      | _ => .bad
    | d => if okLoc μ.length d = true then .ok d (μ'.take μ.length) else .bad
  else .bad
def startD (n : Nat) (ds : List D) : Env := ds.map some ++ List.replicate (n - ds.length) none
/-- a def: n names, the body f -/
def runDef (n : Nat) (f : FS) (ds : List D) (μ : Mu) : Res D := match f (startD n ds) μ with
  | .ok (.nx _) μ' => retV μ μ' .none
  | .ok (.rt d) μ' => retV μ μ' d
  | .ok _ _ => .bad
  | .ex x μ' => if (chkMu μ.length μ μ' && okLocF μ.length x.fs) = true then .ex x (μ'.take μ.length) else .bad
  | .bad => .bad
section
variable {K : PySem.W.Frag} {mg : Str → Option Value} {E : XK} {R R' H H' : Hp} {α α' : List Addr} {μ μ' : Mu}
mutual
theorem okLoc_den : ∀ {v : V} {d : D}, Den K mg R α v d → okLoc α.length d = true
  | _, _, .none => by simp [okLoc]
  | _, _, .bool _ => by simp [okLoc]
  | _, _, .int _ => by simp [okLoc]
  | _, _, .str _ => by simp [okLoc]
  | _, _, .list _ _ t => by simpa [okLoc] using okLocs_den t
  | _, _, .tuple _ _ t => by simpa [okLoc] using okLocs_den t
  | _, _, .dict _ _ t => by simpa [okLoc] using okLocK_den t
  | _, _, .obj _ _ t => by simpa [okLoc] using okLocF_den t
  | _, _, .loc h => by simpa [okLoc] using (List.getElem?_eq_some_iff.mp h).1
  | _, _, .fn _ => by simp [okLoc]
  | _, _, .script _ => by simp [okLoc]
  | _, _, .ty _ => by simp [okLoc]
theorem okLocs_den : ∀ {v : List V} {d : List D}, DenL K mg R α v d → okLocs α.length d = true
  | _, _, .nil => by simp [okLocs]
  | _, _, .cons h t => by simp [okLocs, okLoc_den h, okLocs_den t]
theorem okLocK_den : ∀ {v : List (Key × V)} {d : List (Key × D)}, DenK K mg R α v d → okLocK α.length d = true
  | _, _, .nil => by simp [okLocK]
  | _, _, .cons h t => by simp [okLocK, okLoc_den h, okLocK_den t]
theorem okLocF_den : ∀ {v : List (Str × V)} {d : List (Str × D)}, DenF K mg R α v d → okLocF α.length d = true
  | _, _, .nil => by simp [okLocF]
  | _, _, .cons h t => by simp [okLocF, okLoc_den h, okLocF_den t]
end
mutual
theorem den_cut {n : Nat} (h : ∀ i, i < n → α'[i]? = α[i]?) : ∀ {v : V} {d : D}, Den K mg R α' v d → okLoc n d = true → Den K mg R α v d
  | _, _, .none, _ => .none
  | _, _, .bool b, _ => .bool b
  | _, _, .int b, _ => .int b
  | _, _, .str b, _ => .str b
  | _, _, .list a b t, q => .list a b (denL_cut h t (by simpa [okLoc] using q))
  | _, _, .tuple a b t, q => .tuple a b (denL_cut h t (by simpa [okLoc] using q))
  | _, _, .dict a b t, q => .dict a b (denK_cut h t (by simpa [okLoc] using q))
  | _, _, .obj a b t, q => .obj a b (denF_cut h t (by simpa [okLoc] using q))
  | _, _, .loc e, q => .loc (by rw [← h _ (by simpa [okLoc] using q)]; exact e)
  | _, _, .fn e, _ => .fn e
  | _, _, .script e, _ => .script e
  | _, _, .ty e, _ => .ty e
theorem denL_cut {n : Nat} (h : ∀ i, i < n → α'[i]? = α[i]?) : ∀ {v : List V} {d : List D}, DenL K mg R α' v d → okLocs n d = true → DenL K mg R α v d
  | _, _, .nil, _ => .nil
  | _, _, .cons a t, q => by
    simp only [okLocs, Bool.and_eq_true] at q
    exact .cons (den_cut h a q.1) (denL_cut h t q.2)
theorem denK_cut {n : Nat} (h : ∀ i, i < n → α'[i]? = α[i]?) : ∀ {v : List (Key × V)} {d : List (Key × D)}, DenK K mg R α' v d → okLocK n d = true → DenK K mg R α v d
  | _, _, .nil, _ => .nil
  | _, _, .cons a t, q => by
    simp only [okLocK, Bool.and_eq_true] at q
    exact .cons (den_cut h a q.1) (denK_cut h t q.2)
theorem denF_cut {n : Nat} (h : ∀ i, i < n → α'[i]? = α[i]?) : ∀ {v : List (Str × V)} {d : List (Str × D)}, DenF K mg R α' v d → okLocF n d = true → DenF K mg R α v d
  | _, _, .nil, _ => .nil
  | _, _, .cons a t, q => by
    simp only [okLocF, Bool.and_eq_true] at q
    exact .cons (den_cut h a q.1) (denF_cut h t q.2)
end
theorem cell_cut {n : Nat} (h : ∀ i, i < n → α'[i]? = α[i]?) {a : Addr} {c : Cell} (q : CellOk K mg R α' H a c) (k : okCell n c = true) : CellOk K mg R α H a c := by
  cases c with
  | list xs => obtain ⟨vs, e1, e2, e3⟩ := q; exact ⟨vs, e1, e2, denL_cut h e3 k⟩
  | dict xs => obtain ⟨vs, e1, e2, e3⟩ := q; exact ⟨vs, e1, e2, denK_cut h e3 k⟩
  | obj c xs => obtain ⟨C, dx, vs, e0, e1, e3⟩ := q; exact ⟨C, dx, vs, e0, e1, denF_cut h e3 k⟩
theorem cell_ok {a : Addr} {c : Cell} (q : CellOk K mg R α H a c) : okCell α.length c = true := by
  cases c with
  | list xs => obtain ⟨vs, e1, e2, e3⟩ := q; exact okLocs_den e3
  | dict xs => obtain ⟨vs, e1, e2, e3⟩ := q; exact okLocK_den e3
  | obj c xs => obtain ⟨C, dx, vs, e0, e1, e3⟩ := q; exact okLocF_den e3
theorem chkMu_get {n : Nat} : ∀ {μ μ' : Mu} {i : Nat} {c : Cell}, chkMu n μ μ' = true → i < μ.length → μ'[i]? = some (some c) → okCell n c = true ∨ μ[i]? = some (some c)
  | [], _, i, c, _, h, _ => by simp at h
  | _ :: _, [], i, c, _, _, h => by simp at h
  | d :: μ, d' :: μ', 0, c, h, _, e => by
    simp only [List.getElem?_cons_zero, Option.some.injEq] at e
    subst e
    simp only [chkMu, Bool.and_eq_true] at h
    have h1 := h.1
    simp only [okStep, Bool.or_eq_true] at h1
    rcases h1 with h1 | h1
    · exact .inl h1
    · cases d with
      | none => simp at h1
      | some e => right; simp at h1; rw [sameC_eq _ _ h1]; rfl
  | d :: μ, d' :: μ', i + 1, c, h, hl, e => by
    simp only [chkMu, Bool.and_eq_true] at h
    have := chkMu_get (i := i) (c := c) h.2 (by simpa using hl) (by simpa using e)
    simpa using this
theorem Adv.pre (A : Adv α R H α' R' H') : ∀ i, i < α.length → α'[i]? = α[i]? := fun i h => by
  rw [List.getElem?_eq_getElem h]
  exact A.a i _ (List.getElem?_eq_getElem h)
/-- behind a def its own cells are forgotten -/
theorem SM.trunc (S : SM K mg μ α R H) (S' : SM K mg μ' α' R' H') (A : Adv α R H α' R' H') (h : chkMu μ.length μ μ' = true) : SM K mg (μ'.take μ.length) α R' H' ∧ Adv α R H α R' H' := by
  have hl : α.length ≤ α'.length := by
    rcases Nat.lt_or_ge α'.length α.length with q | q
    · exfalso
      have := A.a α'.length _ (List.getElem?_eq_getElem q)
      rw [List.getElem?_eq_none (Nat.le_refl _)] at this; cases this
    · exact q
  have hl2 : μ.length ≤ μ'.length := by rw [← S.len, ← S'.len]; exact hl
  refine ⟨⟨by simp [S.len]; omega, S'.frz, fun a ha => ?_, S.nod, fun n c a q1 q2 => ?_⟩, ⟨A.r, fun _ _ h => h, A.f, A.t, A.k, fun b q => ?_⟩⟩
  · obtain ⟨o, e⟩ := S.trk a ha
    exact A.t a o e
  · have hn : n < μ.length := by rw [← S.len]; exact (List.getElem?_eq_some_iff.mp q2).1
    rw [List.getElem?_take_of_lt hn] at q1
    obtain ⟨h1, h2⟩ := S'.cell n c a q1 (A.a n a q2)
    have pre : ∀ i, i < μ.length → α'[i]? = α[i]? := fun i hi => A.pre i (by rw [S.len]; exact hi)
    refine ⟨h1, cell_cut pre h2 ?_⟩
    rcases chkMu_get h hn q1 with z | z
    · exact z
    · have := cell_ok (S.cell n c a z q2).2
      rwa [S.len] at this
  · rcases q with q | q
    · exact .inl (.inl q)
    · exact A.n b (.inr q)
theorem After.ret {d : D} {v : V} {Q : VK} (S : SM K mg μ α R H) (S' : SM K mg μ' α' R' H') (A : Adv α R H α' R' H') (hd : Den K mg R' α' v d) (h : After K mg E (relD K mg) α R H (retV μ μ' d) Q) : Q v H' := by
  unfold retV at h
  split at h
  rotate_left
  · exact False.elim h
  rename_i hk
  obtain ⟨S2, A2⟩ := S.trunc S' A hk
  have pre : ∀ i, i < μ.length → α'[i]? = α[i]? := fun i hi => A.pre i (by rw [S.len]; exact hi)
  split at h
  · rename_i i
    split at h
    · rename_i hi
      exact h v α R' H' S2 A2 (den_cut pre hd (by simpa [okLoc] using hi))
    · rename_i hi
      split at h
      · rename_i c e
        split at h
        · rename_i hc
          cases hd with
          | loc ea =>
            rename_i a
            obtain ⟨h1, h2⟩ := S'.cell i c a e ea
            have na : a ∉ α := fun q => by
              obtain ⟨j, hj, ej⟩ := List.getElem_of_mem q
              have e3 : α'[j]? = some a := A.a j a (by rw [List.getElem?_eq_getElem hj, ej])
              have := S'.ne e3 ea rfl
              rw [S.len] at hj
              omega
            have hlen : (μ'.take μ.length).length = μ.length := by rw [← S2.len, S.len]
            have a1 : ∀ (n : Nat) x, α[n]? = some x → (α ++ [a])[n]? = some x := fun n x h => by
              rw [List.getElem?_append_left (List.getElem?_eq_some_iff.mp h).1]; exact h
            have last : (α ++ [a])[μ.length]? = some a := by rw [← S.len]; simp
            refine h (.ref a) (α ++ [a]) R' H' ⟨by simp [S2.len], S2.frz, fun b hb => ?_, ?_, fun n c' b q1 q2 => ?_⟩ ⟨A2.r, a1, A2.f, A2.t, A2.k, fun b q => ?_⟩ (.loc last)
            · rcases List.mem_append.mp hb with hb | hb
              · exact S2.trk b hb
              · obtain rfl := List.mem_singleton.mp hb
                exact S'.trk b (List.mem_of_getElem? ea)
            · refine List.nodup_append.mpr ⟨S.nod, by simp, fun x hx y hy => ?_⟩
              obtain rfl := List.mem_singleton.mp hy
              exact fun z => na (z ▸ hx)
            · by_cases hn : n < μ.length
              · rw [List.getElem?_append_left (by rw [hlen]; exact hn)] at q1
                rw [List.getElem?_append_left (by rw [S.len]; exact hn)] at q2
                obtain ⟨g1, g2⟩ := S2.cell n c' b q1 q2
                refine ⟨g1, ?_⟩
                cases c' with
                | list xs => obtain ⟨vs, e1, e2, e3⟩ := g2; exact ⟨vs, e1, e2, e3.up (fun _ _ h => h) a1⟩
                | dict xs => obtain ⟨vs, e1, e2, e3⟩ := g2; exact ⟨vs, e1, e2, e3.up (fun _ _ h => h) a1⟩
                | obj c xs => obtain ⟨C, dx, vs, e0, e1, e3⟩ := g2; exact ⟨C, dx, vs, e0, e1, e3.up (fun _ _ h => h) a1⟩
              · have hn2 : n = μ.length := by
                  have := (List.getElem?_eq_some_iff.mp q1).1
                  simp only [List.length_append, hlen, List.length_singleton] at this
                  omega
                subst hn2
                rw [last] at q2; cases q2
                rw [List.getElem?_append_right (by rw [hlen]; exact Nat.le_refl _), hlen] at q1
                simp at q1; subst q1
                refine ⟨h1, ?_⟩
                have g2 := cell_cut pre h2 hc
                cases c with
                | list xs => obtain ⟨vs, e1, e2, e3⟩ := g2; exact ⟨vs, e1, e2, e3.up (fun _ _ h => h) a1⟩
                | dict xs => obtain ⟨vs, e1, e2, e3⟩ := g2; exact ⟨vs, e1, e2, e3.up (fun _ _ h => h) a1⟩
                | obj c xs => obtain ⟨C, dx, vs, e0, e1, e3⟩ := g2; exact ⟨C, dx, vs, e0, e1, e3.up (fun _ _ h => h) a1⟩
            · rcases q with q | q
              · rcases List.mem_append.mp q with q | q
                · exact .inl (.inl q)
                · obtain rfl := List.mem_singleton.mp q
                  exact A.n b (.inl (List.mem_of_getElem? ea))
              · exact A2.n b (.inr q)
        · exact False.elim h
      · exact False.elim h
  · split at h
    · rename_i hi
      exact h v α R' H' S2 A2 (den_cut pre hd hi)
    · exact False.elim h
end
/-! ### what a def does -/
structure FnT (P : Program) (w : World) (K : PySem.W.Frag) (mg : Str → Option Value) (base : Heap) (k : Nat) (f : Addr) (fd : FuncData) (ps : List Str) (F : List D → Mu → Res D) : Prop where
  run : ∀ (A : Around) (outer : List PySem.Env) (s : Shared) (H : Hp) (args : Args) (us : List Value) (vs : List V) (ds : List D) (μ : Mu) (α : List Addr) (R : Hp) (Q : VK) (E : XK),
    Room k A → A.guards = some [] → Env0 P w K mg base A outer s H → BindsTo s fd args (ps.zip us) → Vals vs us → vs.length = ps.length → SM K mg μ α R H → DenL K mg R α vs ds →
    After K mg E (relD K mg) α R H (F ds μ) Q → codeAny (model P w) A (.call (.ref f) args) (CR (L2.CX P w) outer P w H s Q E) s
section
variable {P : Program} {w : World} {K : PySem.W.Frag} {mg : Str → Option Value} {base : Heap}
theorem FnT.mono {j k : Nat} {f : Addr} {fd : FuncData} {ps : List Str} {F : List D → Mu → Res D} (h : FnT P w K mg base j f fd ps F) (hk : j ≤ k) : FnT P w K mg base k f fd ps F :=
  ⟨fun A outer s H args us vs ds μ α R Q E hr => h.run A outer s H args us vs ds μ α R Q E (hr.mono hk)⟩
theorem ss_start {N : List Str} {vs : List V} {ds : List D} {R : Hp} {α : List Addr} (h : DenL K mg R α vs ds) : SS K mg (startD N.length ds) R α (L2.start N vs) := by
  refine ⟨by simp [startD, L2.start, h.len], fun i d q => ?_⟩
  unfold startD at q
  unfold L2.start
  by_cases hi : i < ds.length
  · rw [List.getElem?_append_left (by simpa using hi), List.getElem?_map] at q
    obtain ⟨e, h1, h2⟩ := Option.map_eq_some_iff.mp q
    cases h2
    obtain ⟨v, h3, h4⟩ := h.get' h1
    exact ⟨v, by rw [List.getElem?_append_left (by simpa [h.len] using hi), List.getElem?_map, h3] <;> rfl, h4⟩
  · rw [List.getElem?_append_right (by simpa using Nat.le_of_not_lt hi)] at q
    have := List.mem_of_getElem? q
    simp at this
theorem fn_ok {k : Nat} {x qual : Str} {st : Stmt} {f : Addr} {fd : FuncData} {N ps : List Str} {fb : FS} (F : Fun K x qual st f fd) (S : FnScope N ps (defScope st))
    (body : ∀ (cdv : Value) (A : Around) (outer : List PySem.Env) (s : Shared) (H : Hp) (E : XK), Room k (A.deeper (envOfC qual (defScope st) s.heap.objs.size f cdv)) → (A.deeper (envOfC qual (defScope st) s.heap.objs.size f cdv)).guards = some [] →
      DSs (cxOf (L2.CX P w) P w K mg base N qual (defScope st) f cdv A outer s H E) E (defBody st) fb) : FnT P w K mg base (k + 1) f fd ps (runDef N.length fb) := by
  refine ⟨fun A outer s H args us vs ds μ α R Q E hr hgd e0 hb r hl SMu dl h => ?_⟩
  obtain ⟨oc, od, kV, doc, pm, an, cdv, ct, osl, rfl, lk, hcd⟩ := F.ex
  have inK : K.In s.heap := e0.mod.kin.keeps fun b o e => (e0.bs b o e).1
  have lim : s.heap.NoLimit := e0.mod.nolimit.keeps fun b o e => (e0.bs b o e).1
  have kinds : ∀ y ∈ ps.zip us, (defScope st).names.lookup y.1 = some .local ∨ ((defScope st).names.lookup y.1 = some .cell ∧ ((cellsFrom (s.heap.objs.size + 1) (defScope st).names []).lookup y.1).isSome = true) := by
    rintro ⟨n, v⟩ hy
    rcases S.par n (List.of_mem_zip hy).1 with q | q
    · exact Or.inl q
    · exact Or.inr ⟨q, PySem.W.cellsFrom_some _ _ _ (.inl q)⟩
  refine codeAny_call_function hr.depth (inK _ _ lk) rfl S.co S.gen rfl (PySem.W.codeRec_of inK hcd) (hb _ _ _ _ ?_)
  refine wpAny_newFunctionEnv_cells S.kind kinds fun env he s1 x => ?_
  subst he
  refine ⟨lim.keeps x.toInCall.keep, codeAny_func ?_⟩
  have hbd := body cdv A outer s H E (hr.deeper _) (by show A.guards = some []; exact hgd)
  have I : Inv (cxOf (L2.CX P w) P w K mg base N qual (defScope st) f cdv A outer s H E) [] (start N vs) H s1 := inv_start S hr.hd e0 hl r x
  have fin : ∀ {σ' : L2.St} {H' : Hp} {v : V} {u : Value} {s' : Shared}, Inv (cxOf (L2.CX P w) P w K mg base N qual (defScope st) f cdv A outer s H E) [] σ' H' s' → RelV v u → Q v H' → CE outer P w H s Q u s' :=
    fun {σ' H' v u s'} J rv q => ⟨v, H', J.os, J.bare, J.base, J.hok, rv, q⟩
  have rd : LiftS K mg E fb { nx := fun _ H' => Q .non H', rt := Q } (start N vs) H := by
    refine ⟨startD N.length ds, μ, α, R, SMu, ss_start dl, ?_⟩
    unfold runDef at h
    cases e : fb (startD N.length ds) μ with
    | bad => rw [e] at h; exact h
    | ex y μ1 =>
      rw [e] at h
      intro cls od α1 R1 H1 S1 A1 dx
      have h : After K mg E (relD K mg) α R H (if (chkMu μ.length μ μ1 && okLocF μ.length y.fs) = true then .ex y (μ1.take μ.length) else .bad) Q := h
      split at h
      · rename_i hk
        simp only [Bool.and_eq_true] at hk
        obtain ⟨S2, A2⟩ := SMu.trunc S1 A1 hk.1
        obtain ⟨C, d, gs, q1, q2, q3, q4, q5⟩ := dx
        exact h cls od α R1 H1 S2 A2 ⟨C, d, gs, q1, q2, q3, q4, denF_cut (fun i hi => A1.pre i (by rw [SMu.len]; exact hi)) q5 hk.2⟩
      · exact False.elim h
    | ok fl μ1 =>
      rw [e] at h
      cases fl with
      | nx ρ => exact fun σ' α1 R1 H1 S1 A1 V1 => After.ret SMu S1 A1 .none h
      | rt d => exact fun v α1 R1 H1 S1 A1 q1 => After.ret SMu S1 A1 q1 h
      | bk ρ => exact False.elim h
      | ct ρ => exact False.elim h
  refine wpAny_mono (hbd.run [] s1 (start N vs) H _ I rd) (fun fl s' hs => ?_) fun e s' hs => hs
  cases fl with
  | ret u =>
    obtain ⟨v, σ', H', J, rv, q⟩ := hs
    exact fin J rv q
  | next =>
    obtain ⟨σ', H', J, q⟩ := hs
    exact fin (v := V.non) (u := Value.none) J rfl q
  | brk =>
    obtain ⟨_, _, _, q⟩ := hs
    exact False.elim q
  | cont =>
    obtain ⟨_, _, _, q⟩ := hs
    exact False.elim q
end
/-! ### calls -/
def eCallF (n : Nat) (F : List D → Mu → Res D) (dds : List D) (t : FA) : FE := fun ρ μ => (t ρ μ).bind fun ds μ1 => if (ds ++ dds).length = n then F (ds ++ dds) μ1 else .bad
section
variable {X : Cx} {E : XK} {k : Nat} {f : Addr} {fd : FuncData} {ps : List Str} {F : List D → Mu → Res D} {dvs : List V} {dds : List D} {dus : List Value} {x : Str} {p pos : Pos} {e : Expr} {es : List Expr} {t : FA}
theorem After.run {pins : List (Addr × Obj)} {σ : L2.St} {H : Hp} {s : Shared} {Q : VK} {us : List Value} {vs : List V} {ds : List D} {μ : Mu} {α : List Addr} {R : Hp} (G : FnT X.prog X.w X.K X.mg X.base k f fd ps F) (hr : Room k X.A) (hgd : X.A.guards = some [])
    (hb : Binds X.K fd ps dus) (hd : Vals dvs dus) (hdd : ∀ R α, DenL X.K X.mg R α dvs dds) (hx : Passes (L2.CX X.prog X.w) X E)
    (I : Inv X pins σ H s) (r : Vals vs us) (S : SM X.K X.mg μ α R H) (dl : DenL X.K X.mg R α vs ds) (h : After X.K X.mg E (relD X.K X.mg) α R H (if (ds ++ dds).length = ps.length then F (ds ++ dds) μ else .bad) Q) :
    wpAny (model X.prog X.w) X.A (call (.ref f) us) (EP X pins σ Q) X.xe s := by
  split at h
  rotate_left
  · exact False.elim h
  rename_i hl
  have dl2 := dl.append (hdd R α)
  have r2 : Vals (vs ++ dvs) (us ++ dus) := r.append hd
  have hl2 : (vs ++ dvs).length = ps.length := by rw [dl2.len, hl]
  refine wpAny_call (codeAny_mono (G.run X.A X.stack s H ⟨us, []⟩ (us ++ dus) (vs ++ dvs) (ds ++ dds) μ α R Q E hr hgd I.env0 (hb s us I.kIn (by rw [← r2.length]; exact hl2)) r2 hl2 S dl2 h) fun r s' hq => ?_)
  cases r with
  | error e => exact hx pins σ H s e s' I hq
  | ok fl => cases fl with
    | ret u => exact I.after hq
    | next => exact False.elim hq
    | brk => exact False.elim hq
    | cont => exact False.elim hq
theorem de_call (G : FnT X.prog X.w X.K X.mg X.base k f fd ps F) (hr : Room k X.A) (hgd : X.A.guards = some []) (hg : Gl X x) (hm : X.mg x = some (.ref f)) (hk : PySem.W.keepIn X.K (.ref f) = true)
    (hb : Binds X.K fd ps dus) (hd : Vals dvs dus) (hdd : ∀ R α, DenL X.K X.mg R α dvs dds) (hx : Passes (L2.CX X.prog X.w) X E) (ha : DA X E (e :: es) t) (hn : ps.length = n := by rfl)
    (hdb : (x == ("__debug__" : Str)) = false := by decide) (he : starEach (e :: es) X.env = (false, eval e X.env) :: starEach es X.env := by rfl) (hpl : (backTo pos (starEach es X.env)).any (·.1) = false := by rfl) :
    DE X E (.Call (.Name x p) (e :: es) [] pos) (eCallF n F dds t) := by
  subst hn
  refine ⟨fun pins s σ H Q I ⟨ρ, μ, α, R, S, V, h⟩ => ?_⟩
  refine wpAny_Call_Name_kw (ld_glob I hg hm ?_ hdb)
  have ha' := ha.run pos pins s σ H _ I ⟨ρ, μ, α, R, S, V, h.bind (Q1 := fun vs H1 => ∃ ds μ1 α1 R1, SM X.K X.mg μ1 α1 R1 H1 ∧ DenL X.K X.mg R1 α1 vs ds ∧ After X.K X.mg E (relD X.K X.mg) α1 R1 H1 (if (ds ++ dds).length = ps.length then F (ds ++ dds) μ1 else .bad) Q)
    fun ds μ1 vs α1 R1 H1 S1 A1 d1 h1 => ⟨ds, μ1, α1, R1, S1, d1, h1⟩⟩
  refine PySem.W.callWith_K (h₀ := X.base) I.ok.mod.kin hk (thn ha' fun us s1 hq => ?_) he hpl
  obtain ⟨vs, H1, I1, r, ds, μ1, α1, R1, S1, d1, h1⟩ := hq
  exact ⟨I1.kIn, After.run G hr hgd hb hd hdd hx I1 r S1 d1 h1⟩
theorem de_call0 (G : FnT X.prog X.w X.K X.mg X.base k f fd ps F) (hr : Room k X.A) (hgd : X.A.guards = some []) (hg : Gl X x) (hm : X.mg x = some (.ref f)) (hk : PySem.W.keepIn X.K (.ref f) = true)
    (hb : Binds X.K fd ps dus) (hd : Vals dvs dus) (hdd : ∀ R α, DenL X.K X.mg R α dvs dds) (hx : Passes (L2.CX X.prog X.w) X E) (hn : ps.length = n := by rfl)
    (hdb : (x == ("__debug__" : Str)) = false := by decide) : DE X E (.Call (.Name x p) [] [] pos) (eCallF n F dds aNil) := by
  subst hn
  refine ⟨fun pins s σ H Q I ⟨ρ, μ, α, R, S, V, h⟩ => ?_⟩
  refine wpAny_Call_Name_kw (ld_glob I hg hm ?_ hdb)
  exact PySem.W.callWith_K0 I.kIn hk (After.run (us := []) (ds := []) G hr hgd hb hd hdd hx I .nil S .nil h)
end
/-! ### the law's end -/
theorem law_end {P : Program} {w : World} {K : PySem.W.Frag} {mg mb : Str → Option Value} {k : Nat} {fa a : Addr} {fd : FuncData} {x : Str} {F : List D → Mu → Res D} {s₁ : Shared} {vs : List Value} {ns : List Int}
    (KX : K.In s₁.heap) (hns : s₁.heap.Ns mainGlobals mg) (hb : s₁.heap.Ns builtinsNs mb) (hbb : ∀ x : Str, x ≠ "__name__" → mb x = bootBuiltins x) (hlim : s₁.heap.NoLimit) (hsm : ∃ mm, s₁.heap.Ns sysModules mm) (hg : s₁.gens = #[])
    (ha : s₁.heap.get? a = some { cls := .type "list", data := .seq vs.toArray }) (hi : IntsAre vs ns) (hl : ns.length ≤ sizeLine) (hr : Room k callerA)
    (hF : ∀ base : Heap, K.In base → base.Ns mainGlobals mg → (∃ o, base.get? sysModules = some o) → FnT P w K mg base k fa fd [x] F) (hbind : ∀ (s : Shared) (u : Value), BindsTo s fd ⟨[u], []⟩ [(x, u)])
    (hlaw : F [.script ns] [] = .ok (.bool true) []) :
    codeAny (model P w) callerA (.call (.ref fa) ⟨[.ref a], []⟩) (fun r s' => r = .ok (.ret (.bool true)) ∧ OldK s₁.heap s'.heap ∧ s'.os = s₁.os ∧ AllBare s'.gens) s₁ := by
  have rv := vals_ints hi
  have lenV := hi.length
  have core : ∀ H : Hp, Only H → SqL K H a (ns.map V.int) → HOk P w H s₁.heap → (∀ b, H b ≠ none → b = a) → (H a ≠ none → K.lookup a = none) →
      codeAny (model P w) callerA (.call (.ref fa) ⟨[.ref a], []⟩) (fun r s' => r = .ok (.ret (.bool true)) ∧ OldK s₁.heap s'.heap ∧ s'.os = s₁.os ∧ AllBare s'.gens) s₁ := by
    intro H hO hS hok hA hK
    have bOf : ∀ {b : Addr} {o : Obj}, s₁.heap.get? b = some o → H b = none → (hidT s₁.heap H).get? b = some o := fun e n => hidT_get e n
    have noA : ∀ {b : Addr} {o : Obj} {es : Array DictEntry} {ep : Nat}, s₁.heap.get? b = some o → o.data = .dict es ep → H b = none := by
      intro b o es ep e d
      cases q : H b with
      | none => rfl
      | some u =>
        obtain rfl : b = a := hA b (by rw [q]; simp)
        rw [ha] at e
        cases e
        cases (show Data.seq vs.toArray _ = Data.dict es ep from d)
    have nsK : ∀ {b : Addr} {m : Str → Option Value}, s₁.heap.Ns b m → (hidT s₁.heap H).Ns b m := by
      rintro b m ⟨o, es, ep, e, d, r⟩
      exact ⟨o, es, ep, bOf e (noA e d), d, r⟩
    have hKb : K.In (hidT s₁.heap H) := by
      intro b o e
      refine bOf (KX b o e) ?_
      cases q : H b with
      | none => rfl
      | some u =>
        obtain rfl : b = a := hA b (by rw [q]; simp)
        rw [hK (by rw [q]; simp)] at e
        cases e
    have hM : Mod K mg (hidT s₁.heap H) := ⟨hKb, nsK hns, ⟨mb, nsK hb, hbb⟩, let ⟨mc, h1, h2⟩ := hlim
      ⟨mc, nsK h1, h2⟩⟩
    have e0 : Env0 P w K mg (hidT s₁.heap H) callerA [] s₁ H := ⟨rfl, hM, fun b o e => of_hidT e, Nat.le_of_eq (hidT_size _ _), trivial,
      fun b hb => absurd (show b ∈ ([] : List Addr) from hb) (by simp), hok, .of_eq hg⟩
    have hsb : ∃ o, (hidT s₁.heap H).get? sysModules = some o := by
      obtain ⟨mm, h1⟩ := hsm
      obtain ⟨o, es, ep, e, _⟩ := nsK h1
      exact ⟨o, e⟩
    have SM0 : SM K mg [] [] H H := ⟨rfl, fun _ _ h => .inl h, fun b hb => by simp at hb, by simp, fun n c b q => by simp at q⟩
    refine codeAny_mono ((hF _ hKb (nsK hns) hsb).run callerA [] s₁ H ⟨[.ref a], []⟩ [.ref a] [.ref a] [.script ns] [] [] H (fun v _ => v = .bl true) (fun _ _ _ => False) hr rfl e0 (hbind s₁ (.ref a)) (.cons rfl .nil) rfl SM0
      (.cons (.script hS) .nil) (by rw [hlaw]; intro v α' R' H' _ _ q; cases q; rfl)) fun r s' h => ?_
    cases r with
    | error e =>
      obtain ⟨_, _, _, _, _, _, _, _, _, _, _, _, z⟩ := h
      exact z.elim
    | ok fl => cases fl with
      | next => exact False.elim h
      | brk => exact False.elim h
      | cont => exact False.elim h
      | ret u =>
        obtain ⟨v, H', os, bare, un, hok', r', q⟩ := h
        obtain rfl : v = .bl true := q
        obtain rfl : u = Value.bool true := r'
        refine ⟨rfl, OldK.of_keep fun b o e => ?_, os, bare⟩
        cases q : H b with
        | none => exact un.keep b o e q (by simp [frs]) (by simp)
        | some u =>
          rcases hO b with z | ⟨ob, xs, z⟩
          · rw [q] at z
            cases z
          · obtain ⟨e1, _⟩ := hok b _ z
            obtain ⟨e2, _⟩ := hok' b _ (un.frzs b ob _ z)
            rw [e] at e1
            cases e1
            exact e2
  cases hk : K.lookup a with
  | some o =>
    have e := KX a o hk
    rw [ha] at e
    cases e
    exact core (fun _ => none) (fun _ => .inl rfl) (.inr ⟨_, vs.toArray, _, hk, rfl, rfl, rfl, by rw [List.size_toArray, lenV]; exact hl, by simpa using rv⟩) (fun b u z => nomatch (show (none : Option HO) = some u from z)) (fun b z => absurd rfl z) fun z => absurd rfl z
  | none =>
    let Ob : Obj := { cls := .type "list", data := .seq vs.toArray }
    let Ho : Hp := fun b => if b = a then some (.frz Ob (.lst (ns.map V.int))) else none
    have at_a : Ho a = some (.frz Ob (.lst (ns.map V.int))) := if_pos rfl
    have off : ∀ b, b ≠ a → Ho b = none := fun b hb => if_neg hb
    refine core Ho (fun b => ?_) (.inl (.inr ⟨Ob, at_a⟩)) (fun b u z => ?_) (fun b z => ?_) fun _ => hk
    · by_cases e : b = a
      · exact .inr ⟨Ob, ns.map V.int, by rw [e]; exact at_a⟩
      · exact .inl (off b e)
    · by_cases e : b = a
      · subst e
        rw [at_a] at z
        cases z
        exact ⟨ha, by rw [List.length_map]; exact hl, vs, _, rv, ha⟩
      · rw [off b e] at z
        cases z
    · by_cases e : b = a
      · exact e
      · exact absurd (off b e) z
theorem walk_end {l : PySem.W.OpenLaw} {n k : Nat} {q : Program} {loose : List Str} {XP : (Str → Option Value) → Heap → Prop} {YP : World → Heap → Prop} {d : DefRec} {K : Params → PySem.W.Frag} {F : List D → Mu → Res D} {x : Str}
    (hi : importsNone q = true) (hn : l.most = some n) (hn2 : n ≤ sizeLine) (hdf : d.params.defaults = []) (hr : Room k callerA) (hY : ∀ (w : World) (h : Heap), YP w h → (K w.params).In h)
    (hF : ∀ (w : World) (mg : Str → Option Value) (fa : Addr) (h : Heap), (K w.params).In h → h.Ns mainGlobals mg → mg d.name = some (.ref fa) →
      ∃ fd : FuncData, (∀ (s : Shared) (u : Value), BindsTo s fd ⟨[u], []⟩ [(x, u)]) ∧ ∀ base : Heap, (K w.params).In base → base.Ns mainGlobals mg → (∃ o, base.get? sysModules = some o) → FnT l.prog w (K w.params) mg base k fa fd [x] F)
    (hlaw : ∀ ns : List Int, ns.length ≤ n → F [.script ns] [] = .ok (.bool true) []) : PySem.W.WalkO q loose XP YP l.row.toRowW d [] (fun f vs => PySem.call f vs) := by
  refine Att.attach_call hn hdf fun w s₀ s₁ mg mb fa o pm cd doc a vs ns G Y ho hd hcd hmg hobj hints hlen hg => ?_
  have KX := hY w _ Y
  obtain ⟨fd, hb, hG⟩ := hF w mg fa _ KX G.T.g hmg
  exact law_end KX G.T.g G.T.b G.T.builtins G.T.nolimit ((PyProof.Rows.Top.seer G.T hi).mods.imp fun _ h => h.1) hg hobj hints (Nat.le_trans hlen hn2) hr hG hb (hlaw ns hlen)
end TL

set_option Elab.async false
set_option maxRecDepth 100000
set_option maxHeartbeats 1000000
set_option linter.all false
/-! The tree layer, part j: repr; displays of dicts; stores; attributes; methods of built-in types. -/
namespace TL
open PySem PySem.Spec PyProof.Rows L2

/-! ### repr -/
def keyPy : Key → PyData
  | .inl i => .int i
  | .inr s => .str s
mutual
def toPyR : D → PyData
  | .none => .none
  | .bool b => .bool b
  | .int i => .int i
  | .str s => .str s
  | .list xs => .list (toPyRs xs)
  | .tuple xs => .tuple (toPyRs xs)
  | .dict kvs => .dict (toPyRk kvs)
  | .obj _ _ => .none
  | .loc _ => .none
  | .fn _ => .none
  | .script _ => .none
  | .ty _ => .none
def toPyRs : List D → List PyData
  | [] => []
  | x :: xs => toPyR x :: toPyRs xs
def toPyRk : List (Key × D) → List (PyData × PyData)
  | [] => []
  | (k, x) :: xs => (keyPy k, toPyR x) :: toPyRk xs
end
def strShow (s : Str) : Bool := s.cps.toList.all fun c => decide (c < 16 ^ 8)
def intShow (i : Int) : Bool := decide (i.natAbs < 10 ^ 12)
def keyShow : Key → Bool
  | .inl i => intShow i
  | .inr s => strShow s
mutual
def isShow : Nat → D → Bool
  | _, .none => true
  | _, .bool _ => true
  | _, .int i => intShow i
  | _, .str s => strShow s
  | n + 1, .list xs => areShow n xs
  | n + 1, .tuple xs => areShow n xs
  | n + 1, .dict kvs => areShowK n kvs
  | _, _ => false
def areShow : Nat → List D → Bool
  | _, [] => true
  | n, x :: xs => isShow n x && areShow n xs
def areShowK : Nat → List (Key × D) → Bool
  | _, [] => true
  | n, (k, x) :: xs => keyShow k && isShow n x && areShowK n xs
end
def keyWt : Key → Nat
  | .inl _ => 41
  | .inr s => s.length
mutual
def wt : D → Nat
  | .int _ => 41
  | .str s => s.length
  | .list xs => wts xs
  | .tuple xs => wts xs
  | .dict kvs => wtK kvs
  | .none => 0
  | .bool _ => 0
  | .obj _ _ => 0
  | .loc _ => 0
  | .fn _ => 0
  | .script _ => 0
  | .ty _ => 0
def wts : List D → Nat
  | [] => 0
  | x :: xs => wt x + 1 + wts xs
def wtK : List (Key × D) → Nat
  | [] => 0
  | (k, x) :: r => keyWt k + wt x + 2 + wtK r
end
theorem int_wt {i : Int} (h : i.natAbs < 10 ^ 12) : i.natAbs.log2 < 41 := by
  by_cases h0 : i.natAbs = 0
  · rw [h0]; decide
  · exact (Nat.log2_lt h0).mpr (Nat.lt_of_lt_of_le h (by decide))
theorem key_show {k : Key} (h : keyShow k = true) : (keyPy k).showable = true ∧ (keyPy k).leavesShort 13 = true ∧ (keyPy k).weight ≤ keyWt k ∧ (keyPy k).depth = 0 := by
  cases k with
  | inl i =>
    have h : intShow i = true := h
    simp only [intShow, decide_eq_true_eq] at h
    have h2 := int_wt h
    refine ⟨by simp only [keyPy, PyData.showable, decide_eq_true_eq]; omega, by simp only [keyPy, PyData.leavesShort, decide_eq_true_eq]; exact PyData.shown_int_le h, ?_, by simp [keyPy, PyData.depth]⟩
    simp only [keyPy, PyData.weight, keyWt]
    split <;> omega
  | inr s =>
    have h : strShow s = true := h
    exact ⟨by simp [keyPy, PyData.showable], by simpa [keyPy, PyData.leavesShort, strShow] using h, by simp [keyPy, PyData.weight, keyWt]; exact Nat.le_refl _, by simp [keyPy, PyData.depth]⟩
mutual
theorem show_of : ∀ (n : Nat) (d : D), isShow n d = true → (toPyR d).showable = true ∧ (toPyR d).leavesShort 13 = true ∧ (toPyR d).weight ≤ wt d ∧ (toPyR d).depth ≤ n
  | n, .none, _ => ⟨by simp [toPyR, PyData.showable], by simp [toPyR, PyData.leavesShort], by simp [toPyR, PyData.weight], by simp [toPyR, PyData.depth]⟩
  | n, .bool b, _ => ⟨by simp [toPyR, PyData.showable], by simp [toPyR, PyData.leavesShort], by simp [toPyR, PyData.weight], by simp [toPyR, PyData.depth]⟩
  | n, .int i, h => by
    have h : keyShow (.inl i) = true := by simpa [isShow, keyShow] using h
    have q := key_show h
    exact ⟨by simpa [toPyR, keyPy] using q.1, by simpa [toPyR, keyPy] using q.2.1, by simpa [toPyR, wt, keyPy, keyWt] using q.2.2.1, by simp [toPyR, PyData.depth]⟩
  | n, .str s, h => by
    have h : keyShow (.inr s) = true := by simpa [isShow, keyShow] using h
    have q := key_show h
    exact ⟨by simpa [toPyR, keyPy] using q.1, by simpa [toPyR, keyPy] using q.2.1, by simpa [toPyR, wt, keyPy, keyWt] using q.2.2.1, by simp [toPyR, PyData.depth]⟩
  | n + 1, .list xs, h => by
    have q := shows_of n xs (by simpa [isShow] using h)
    exact ⟨by simpa [toPyR, PyData.showable] using q.1, by simpa [toPyR, PyData.leavesShort] using q.2.1, by simpa [toPyR, PyData.weight, wt] using q.2.2.1, by simpa [toPyR, PyData.depth] using q.2.2.2⟩
  | n + 1, .tuple xs, h => by
    have q := shows_of n xs (by simpa [isShow] using h)
    exact ⟨by simpa [toPyR, PyData.showable] using q.1, by simpa [toPyR, PyData.leavesShort] using q.2.1, by simpa [toPyR, PyData.weight, wt] using q.2.2.1, by simpa [toPyR, PyData.depth] using q.2.2.2⟩
  | n + 1, .dict xs, h => by
    have q := showK_of n xs (by simpa [isShow] using h)
    exact ⟨by simpa [toPyR, PyData.showable] using q.1, by simpa [toPyR, PyData.leavesShort] using q.2.1, by simpa [toPyR, PyData.weight, wt] using q.2.2.1, by simpa [toPyR, PyData.depth] using q.2.2.2⟩
  | 0, .list _, h => by simp [isShow] at h
  | 0, .tuple _, h => by simp [isShow] at h
  | 0, .dict _, h => by simp [isShow] at h
  | n, .obj _ _, h => by simp [isShow] at h
  | n, .loc _, h => by simp [isShow] at h
  | n, .fn _, h => by simp [isShow] at h
  | n, .script _, h => by simp [isShow] at h
  | n, .ty _, h => by simp [isShow] at h
theorem shows_of : ∀ (n : Nat) (d : List D), areShow n d = true → PyData.showableAll (toPyRs d) = true ∧ PyData.leavesShortAll 13 (toPyRs d) = true ∧ PyData.weightAll (toPyRs d) ≤ wts d ∧ PyData.depthAll (toPyRs d) ≤ n
  | n, [], _ => ⟨by simp [toPyRs, PyData.showableAll], by simp [toPyRs, PyData.leavesShortAll], by simp [toPyRs, PyData.weightAll, wts], by simp [toPyRs, PyData.depthAll]⟩
  | n, x :: xs, h => by
    simp only [areShow, Bool.and_eq_true] at h
    have h1 := show_of n x h.1
    have h2 := shows_of n xs h.2
    exact ⟨by simp [toPyRs, PyData.showableAll, h1.1, h2.1], by simp [toPyRs, PyData.leavesShortAll, h1.2.1, h2.2.1], by simp only [toPyRs, PyData.weightAll, wts]; have := h1.2.2.1; have := h2.2.2.1; omega,
      by simp only [toPyRs, PyData.depthAll]; exact Nat.max_le.mpr ⟨h1.2.2.2, h2.2.2.2⟩⟩
theorem showK_of : ∀ (n : Nat) (d : List (Key × D)), areShowK n d = true → PyData.showableKv (toPyRk d) = true ∧ PyData.leavesShortKv 13 (toPyRk d) = true ∧ PyData.weightKv (toPyRk d) ≤ wtK d ∧ PyData.depthKv (toPyRk d) ≤ n
  | n, [], _ => ⟨by simp [toPyRk, PyData.showableKv], by simp [toPyRk, PyData.leavesShortKv], by simp [toPyRk, PyData.weightKv, wtK], by simp [toPyRk, PyData.depthKv]⟩
  | n, (k, x) :: xs, h => by
    simp only [areShowK, Bool.and_eq_true] at h
    have h0 := key_show h.1.1
    have h1 := show_of n x h.1.2
    have h2 := showK_of n xs h.2
    exact ⟨by simp [toPyRk, PyData.showableKv, h0.1, h1.1, h2.1], by simp [toPyRk, PyData.leavesShortKv, h0.2.1, h1.2.1, h2.2.1], by simp only [toPyRk, PyData.weightKv, wtK]; have := h0.2.2.1; have := h1.2.2.1; have := h2.2.2.1; omega,
      by simp only [toPyRk, PyData.depthKv, h0.2.2.2]; exact Nat.max_le.mpr ⟨Nat.max_le.mpr ⟨Nat.zero_le _, h1.2.2.2⟩, h2.2.2.2⟩⟩
end
section
variable {X : Cx} {pins : List (Addr × Obj)} {σ : L2.St} {H : Hp} {s : Shared} {μ : Mu} {α : List Addr} {R : Hp}
theorem key_reads {P : Program} {w : World} {h : Heap} (k : Key) (key : Value) (e : (mixKind P w).is k key = true) : Reads h key (keyPy k) [] := by
  rcases keyIs_shape (k := k) (v := key) e with ⟨i, t, rfl, rfl⟩ | ⟨z, t, rfl, rfl⟩
  · exact .int i t
  · exact .str z t
mutual
theorem reads_of (I : Inv X pins σ H s) (S : SM X.K X.mg μ α R H) : ∀ (n : Nat) (d : D) (v : V) (u : Value), isShow n d = true → Den X.K X.mg R α v d → RelV v u → ∃ as, Reads s.heap u (toPyR d) as ∧ ∀ b ∈ as, ∃ o, H b = some o
  | n, .none, _, u, _, .none, r => by obtain rfl : u = Value.none := r; exact ⟨[], by simp only [toPyR]; exact .none, by simp⟩
  | n, .bool b, _, u, _, .bool _, r => by obtain rfl : u = Value.bool b := r; exact ⟨[], by simp only [toPyR]; exact .bool b, by simp⟩
  | n, .int b, _, u, _, .int _, r => by obtain ⟨t, rfl⟩ := r; exact ⟨[], by simp only [toPyR]; exact .int b t, by simp⟩
  | n, .str b, _, u, _, .str _, r => by obtain ⟨t, rfl⟩ := r; exact ⟨[], by simp only [toPyR]; exact .str b t, by simp⟩
  | n + 1, .list xs, _, u, h, .list (a := a) (vs := vs) e l q, r => by
    obtain rfl : u = .ref a := r
    have hH := S.lst e
    obtain ⟨its, m, rv, e2, _⟩ := I.lst hH
    obtain ⟨as, h1, h2⟩ := readss_of I S n xs vs its (by simpa [isShow] using h) q rv
    refine ⟨a :: as, by simp only [toPyR]; exact .list e2 rfl rfl (by simpa using h1), fun b hb => ?_⟩
    rcases List.mem_cons.mp hb with rfl | hb
    · exact ⟨_, hH⟩
    · exact h2 b hb
  | n + 1, .tuple xs, _, u, h, .tuple (a := a) (vs := vs) e l q, r => by
    obtain rfl : u = .ref a := r
    obtain ⟨its, rv, ⟨o, e1, e2, m, e3⟩, _⟩ := I.tuple (S.sqT e)
    obtain ⟨as, h1, h2⟩ := readss_of I S n xs vs its (by simpa [isShow] using h) q rv
    exact ⟨as, by simp only [toPyR]; exact .tuple e1 e2 e3 (by simpa using h1), h2⟩
  | n + 1, .dict kvs, _, u, h, .dict (a := a) (ks := ks) e l q, r => by
    obtain rfl : u = .ref a := r
    have hH := S.dct e
    obtain ⟨z, hd, vs, rel, dd⟩ := dk_rd I.hok hH
    obtain ⟨bs, pr, h2⟩ := readsK_of I S n kvs ks vs (by simpa [isShow] using h) q rel
    refine ⟨a :: bs, by simp only [toPyR]; exact PyProof.V.reads_dictOf (knd := mixKind X.prog X.w) (fun k key e => key_reads k key e) dd pr, fun b hb => ?_⟩
    rcases List.mem_cons.mp hb with rfl | hb
    · rcases hH with hH | ⟨o, hH⟩
      · exact ⟨_, hH⟩
      · exact ⟨_, hH⟩
    · exact h2 b hb
  | 0, .list _, _, _, h, _, _ => by simp [isShow] at h
  | 0, .tuple _, _, _, h, _, _ => by simp [isShow] at h
  | 0, .dict _, _, _, h, _, _ => by simp [isShow] at h
  | n, .obj _ _, _, _, h, _, _ => by simp [isShow] at h
  | n, .loc _, _, _, h, _, _ => by simp [isShow] at h
  | n, .fn _, _, _, h, _, _ => by simp [isShow] at h
  | n, .script _, _, _, h, _, _ => by simp [isShow] at h
  | n, .ty _, _, _, h, _, _ => by simp [isShow] at h
theorem readss_of (I : Inv X pins σ H s) (S : SM X.K X.mg μ α R H) : ∀ (n : Nat) (d : List D) (v : List V) (u : List Value), areShow n d = true → DenL X.K X.mg R α v d → Vals v u → ∃ as, ReadsAll s.heap u (toPyRs d) as ∧ ∀ b ∈ as, ∃ o, H b = some o
  | n, [], _, _, _, .nil, .nil => ⟨[], by simp only [toPyRs]; exact .nil, by simp⟩
  | n, x :: xs, _, _, h, .cons a b, .cons r t => by
    simp only [areShow, Bool.and_eq_true] at h
    obtain ⟨as, h1, h2⟩ := reads_of I S n x _ _ h.1 a r
    obtain ⟨bs, h3, h4⟩ := readss_of I S n xs _ _ h.2 b t
    exact ⟨as ++ bs, by simp only [toPyRs]; exact .cons h1 h3, fun b hb => (List.mem_append.mp hb).elim (h2 b) (h4 b)⟩
theorem readsK_of (I : Inv X pins σ H s) (S : SM X.K X.mg μ α R H) : ∀ (n : Nat) (d : List (Key × D)) (v : List (Key × V)) (u : List (Key × Value)), areShowK n d = true → DenK X.K X.mg R α v d → KV v u →
    ∃ as, PyProof.V.PairsRead s.heap keyPy u (toPyRk d) as ∧ ∀ b ∈ as, ∃ o, H b = some o
  | n, [], _, _, _, .nil, .nil => ⟨[], by simp only [toPyRk]; exact .nil, by simp⟩
  | n, (k, x) :: xs, _, _, h, .cons a b, .cons (b := (k', u')) r t => by
    simp only [areShowK, Bool.and_eq_true] at h
    obtain ⟨r1, r2⟩ := r
    cases r1
    obtain ⟨as, h1, h2⟩ := reads_of I S n x _ _ h.1.2 a r2
    obtain ⟨bs, h3, h4⟩ := readsK_of I S n xs _ _ h.2 b t
    exact ⟨as ++ bs, by simp only [toPyRk]; exact .cons h1 h3, fun b hb => (List.mem_append.mp hb).elim (h2 b) (h4 b)⟩
end
end
/-! ### a cell that changes no more -/
section
variable {K : PySem.W.Frag} {mg : Str → Option Value} {R H : Hp} {α : List Addr} {μ : Mu}
theorem SM.freeze {n : Nat} {a : Addr} {c : Cell} (S : SM K mg μ α R H) (h1 : μ[n]? = some (some c)) (h2 : α[n]? = some a) :
    ∃ R', SM K mg (μ.set n none) α R' H ∧ Adv α R H α R' H ∧ Den K mg R' α (.ref a) (cellD c) := by
  obtain ⟨nr, h4⟩ := S.cell n c a h1 h2
  obtain ⟨u, hu, hd⟩ : ∃ u, H a = some u ∧ ∀ R', (∀ b x, R b = some x → R' b = some x) → R' a = some u → Den K mg R' α (.ref a) (cellD c) := by
    cases c with
    | list xs => obtain ⟨vs, e1, e2, e3⟩ := h4; exact ⟨_, e1, fun R' r h => .list h e2 (e3.up r fun _ _ h => h)⟩
    | dict xs => obtain ⟨vs, e1, e2, e3⟩ := h4; exact ⟨_, e1, fun R' r h => .dict h e2 (e3.up r fun _ _ h => h)⟩
    | obj c xs => obtain ⟨C, dx, vs, e0, e1, e3⟩ := h4; exact ⟨_, e1, fun R' r h => .obj e0 h (e3.up r fun _ _ h => h)⟩
  have r1 : ∀ b x, R b = some x → upd R a u b = some x := fun b x h => by rw [upd_ne (ne_of_none h nr)]; exact h
  refine ⟨upd R a u, ⟨by simp [S.len], fun b x h => ?_, S.trk, S.nod, fun m d b q1 q2 => ?_⟩, ⟨r1, fun _ _ h => h, fun _ _ _ h => h, fun b o h => ⟨o, h⟩, fun _ _ h _ => h, fun b q => ?_⟩, hd _ r1 upd_same⟩
  · by_cases e : b = a
    · subst e; rw [upd_same] at h; cases h; exact .inl hu
    · rw [upd_ne e] at h; exact S.frz b x h
  · by_cases e : n = m
    · subst e
      have hl : n < μ.length := (List.getElem?_eq_some_iff.mp h1).1
      rw [List.getElem?_set_self hl] at q1
      cases q1
    · rw [List.getElem?_set_ne e] at q1
      have ne : b ≠ a := fun q => e (S.ne h2 q2 q.symm)
      obtain ⟨h3, h4⟩ := S.cell m d b q1 q2
      refine ⟨by rw [upd_ne ne]; exact h3, ?_⟩
      cases d with
      | list xs => obtain ⟨vs, e1, e2, e3⟩ := h4; exact ⟨vs, e1, e2, e3.up r1 fun _ _ h => h⟩
      | dict xs => obtain ⟨vs, e1, e2, e3⟩ := h4; exact ⟨vs, e1, e2, e3.up r1 fun _ _ h => h⟩
      | obj c xs => obtain ⟨C, dx, vs, e0, e1, e3⟩ := h4; exact ⟨C, dx, vs, e0, e1, e3.up r1 fun _ _ h => h⟩
  · by_cases e : b = a
    · subst e; exact .inl (.inl (List.mem_of_getElem? h2))
    · rcases q with q | ⟨x, q⟩
      · exact .inl (.inl q)
      · rw [upd_ne e] at q; exact .inl (.inr ⟨x, q⟩)
end
def gRepr : GL := fun μ ds => match ds with
  | [.list xs] => chk (isShow 60 (.list xs) && decide (wt (.list xs) ≤ 2 ^ 20)) (.str (toPyR (.list xs)).shown)
  | [.tuple xs] => chk (isShow 60 (.tuple xs) && decide (wt (.tuple xs) ≤ 2 ^ 20)) (.str (toPyR (.tuple xs)).shown)
  | [.dict xs] => chk (isShow 60 (.dict xs) && decide (wt (.dict xs) ≤ 2 ^ 20)) (.str (toPyR (.dict xs)).shown)
  | [.str z] => chk (strShow z && decide (z.length ≤ 1000000)) (.str (reprText z))
  | [.loc n] => (match μ[n]? with
    | some (some (.list xs)) => chk (isShow 60 (.list xs) && decide (wt (.list xs) ≤ 2 ^ 20)) (.str (toPyR (.list xs)).shown)
    | some (some (.dict xs)) => chk (isShow 60 (.dict xs) && decide (wt (.dict xs) ≤ 2 ^ 20)) (.str (toPyR (.dict xs)).shown)
    | _ => none)
  | _ => none
section
variable {X : Cx}
theorem cal_repr (hu : X.A.units + 64 < cLine) (hgd : X.A.guards = some []) (hsm : ∃ o, X.base.get? sysModules = some o) : CalR X (.builtin "repr") gRepr := by
  rintro pins s σ H vs us Q I r ⟨μ, α, R, ds, d, S, h, e, q⟩
  have main : ∀ (x : D) (v : V) (a : Addr) (μ' : Mu) (R' : Hp), SM X.K X.mg μ' α R' H → Den X.K X.mg R' α v x → RelV v (.ref a) → us = [.ref a] → chk (isShow 60 x && decide (wt x ≤ 2 ^ 20)) (D.str (toPyR x).shown) = some d → wpAny (model X.prog X.w) X.A (call (.builtin "repr") us) (EP X pins σ Q) X.xe s := by
    intro x v a μ' R' S' h1 ru eu e'
    subst eu
    obtain ⟨c0, rfl⟩ := chk_some e'
    simp only [Bool.and_eq_true, decide_eq_true_eq] at c0
    obtain ⟨as, rd, has⟩ := reads_of I S' 60 x v _ c0.1 h1 ru
    have sh := show_of 60 x c0.1
    refine repr_of_reads' rd sh.1 (fun _ hm => ?_) hgd (by have := sh.2.2.2; omega) (fun _ _ h => h) (fun h' u tk k => ⟨.str _, H, I.kept k, ⟨u, rfl⟩, q _ R H S .refl (.str _)⟩) (PyData.shown_fits (B := 13) (by decide) (by decide) sh.2.1 (Nat.le_trans sh.2.2.1 c0.2))
    obtain ⟨o, ho⟩ := has _ hm
    obtain ⟨o2, ho2⟩ := hsm
    have := (I.bs _ _ ho2).2
    rw [ho] at this
    cases this
  have tree : ∀ x : D, ds = [x] → (∀ v u, Den X.K X.mg R α v x → RelV v u → ∃ a, u = .ref a) → chk (isShow 60 x && decide (wt x ≤ 2 ^ 20)) (D.str (toPyR x).shown) = some d → wpAny (model X.prog X.w) X.A (call (.builtin "repr") us) (EP X pins σ Q) X.xe s := by
    intro x ex hx e'
    subst ex
    obtain ⟨v, rfl, h1⟩ := denL1 h
    obtain ⟨u, rfl, ru⟩ := vals1 r
    obtain ⟨a, rfl⟩ := hx v u h1 ru
    exact main x v a μ R S h1 ru rfl e'
  have cell : ∀ (n : Nat) (c : Cell), ds = [.loc n] → μ[n]? = some (some c) → chk (isShow 60 (cellD c) && decide (wt (cellD c) ≤ 2 ^ 20)) (D.str (toPyR (cellD c)).shown) = some d → wpAny (model X.prog X.w) X.A (call (.builtin "repr") us) (EP X pins σ Q) X.xe s := by
    intro n c ex ec e'
    subst ex
    obtain ⟨v, rfl, h1⟩ := denL1 h
    obtain ⟨u, rfl, ru⟩ := vals1 r
    cases h1 with
    | loc hα =>
      rename_i a
      obtain rfl : u = .ref a := ru
      obtain ⟨R', S', _, d'⟩ := S.freeze ec hα
      exact main _ _ a _ R' S' d' rfl rfl e'
  unfold gRepr at e
  split at e
  · exact tree _ rfl (fun v u hd hr => by cases hd; exact ⟨_, hr⟩) e
  · exact tree _ rfl (fun v u hd hr => by cases hd; exact ⟨_, hr⟩) e
  · exact tree _ rfl (fun v u hd hr => by cases hd; exact ⟨_, hr⟩) e
  · obtain ⟨c0, rfl⟩ := chk_some e
    simp only [Bool.and_eq_true, decide_eq_true_eq] at c0
    obtain ⟨v, rfl, h1⟩ := denL1 h
    obtain ⟨u, rfl, ru⟩ := vals1 r
    cases h1
    obtain ⟨t, rfl⟩ := ru
    rename_i z
    refine PySem.P.repr_of_str ⟨.str _, H, I.tok _, ⟨_, rfl⟩, q _ R H S .refl (.str _)⟩ ?_
    have := StrLaws.reprText_len z (by
      intro c hc
      have hz := c0.1
      unfold strShow at hz
      first
      | (simp only [Bool.and_eq_true] at hz; have := List.all_eq_true.mp hz.1 c hc; simpa using this)
      | (have := List.all_eq_true.mp hz c hc; simp only [Bool.and_eq_true, decide_eq_true_eq] at this; omega)
      | skip)
    have h2 := c0.2
    unfold sizeLine
    omega
  · split at e
    · rename_i ec
      exact cell _ _ rfl ec e
    · rename_i ec
      exact cell _ _ rfl ec e
    · cases e
  · cases e
end
end TL

set_option Elab.async false
set_option maxRecDepth 100000
set_option maxHeartbeats 1000000
set_option linter.all false
/-! The tree layer, part k: displays of dicts; stores; attributes; methods of built-in types. -/
namespace TL
open PySem PySem.Spec PyProof.Rows L2

/-! ### {k: v, ..} -/
abbrev FP := Env → Mu → Res (List (Key × D))
def pNil : FP := fun _ μ => .ok [] μ
def pCons (fk fv : FE) (r : FP) : FP := fun ρ μ => (fk ρ μ).bind fun dk μ1 => (fv ρ μ1).bind fun d μ2 => (r ρ μ2).bind fun ps μ3 => match keyOf dk with
  | some k => .ok ((k, d) :: ps) μ3
  | none => .bad
/-- the trees of the pairs, over HandS's trs -/
def LiftP (K : PySem.W.Frag) (mg : Str → Option Value) (E : XK) (trs : List (TE × TE)) (f : FP) : Prop :=
  ∀ σ H (Q : List (V × V) → Hp → Prop), (∃ ρ μ α R, SM K mg μ α R H ∧ SS K mg ρ R α σ ∧ After K mg E (fun R α (w : List (Key × V)) ps => DenK K mg R α w ps) α R H (f ρ μ) fun w H1 => Q (w.map fun kv => (kV kv.1, kv.2)) H1) → tPairs trs σ H Q
def DP (X : Cx) (E : XK) (pos : Pos) (keys : List (Option Expr)) (values : List Expr) (f : FP) : Prop := ∃ trs, PPs X pos keys values trs ∧ LiftP X.K X.mg E trs f
section
variable {X : Cx} {E : XK} {k v : Expr} {ks : List (Option Expr)} {vs : List Expr} {fk fv : FE} {r : FP} {pos : Pos}
theorem dp_nil : DP X E pos [] [] pNil := ⟨[], pps_nil, fun σ H Q ⟨ρ, μ, α, R, S, V, h⟩ => h [] α R H S .refl .nil⟩
theorem dp_cons (hk : DE X E k fk) (hv : DE X E v fv) (hr : DP X E pos ks vs r) : DP X E pos (some k :: ks) (v :: vs) (pCons fk fv r) := by
  obtain ⟨trs, h1, h2⟩ := hr
  refine ⟨_, pps_cons hk hv h1, fun σ H Q ⟨ρ, μ, α, R, S, V, h⟩ => ⟨ρ, μ, α, R, S, V, h.bind fun dk μ1 x α1 R1 H1 S1 A1 d1 h1 => ⟨ρ, μ1, α1, R1, S1, V.adv A1, h1.bind fun d μ2 y α2 R2 H2 S2 A2 d2 h3 => ?_⟩⟩⟩
  refine h2 σ H2 _ ⟨ρ, μ2, α2, R2, S2, (V.adv A1).adv A2, h3.bind fun ps μ3 w α3 R3 H3 S3 A3 d3 h4 => ?_⟩
  cases e : keyOf dk with
  | none => rw [e] at h4; exact False.elim h4
  | some k =>
    rw [e] at h4
    obtain rfl := keyOf_den d1 e
    exact h4 ((k, y) :: w) α3 R3 H3 S3 .refl (.cons (d2.adv A3) d3)
def mergeD (ps : List (Key × D)) : List (Key × D) := ps.foldl (fun acc kv => putD acc kv.1 kv.2) []
theorem merge_den {K : PySem.W.Frag} {mg : Str → Option Value} {R : Hp} {α : List Addr} : ∀ {ws : List (Key × V)} {ps : List (Key × D)} {av : List (Key × V)} {acc : List (Key × D)}, DenK K mg R α ws ps → DenK K mg R α av acc →
    DenK K mg R α (ws.foldl (fun acc kv => putK acc kv.1 kv.2) av) (ps.foldl (fun acc kv => putD acc kv.1 kv.2) acc)
  | _, _, _, _, .nil, h => h
  | _, _, _, _, .cons a t, h => by
    simp only [List.foldl_cons]
    exact merge_den t (h.put _ a)
def nDisp (f : FP) : FN := fun ρ μ => (f ρ μ).bind fun ps μ1 => if ps.length ≤ 15 then .ok (.dict (mergeD ps)) μ1 else .bad
theorem dn_disp {keys : List (Option Expr)} {values : List Expr} {f : FP} (h : DP X E pos keys values f) (hall : keys.all (·.isSome) = true := by rfl) (hl : keys.length = values.length := by rfl) (h0 : keys ≠ [] := by exact List.cons_ne_nil _ _) (h15 : keys.length ≤ 15 := by decide) :
    DN X E (.Dict keys values pos) (nDisp f) := by
  obtain ⟨trs, h1, h2⟩ := h
  refine wE (pe_disp h1 hall hl h0 h15) fun σ H Q ⟨ρ, μ, α, R, S, V, h⟩ p hp => ?_
  have nk := Kn.no_none S hp
  have S' : SM X.K X.mg μ α R (upd H p (.dK [])) := S.out nk fun b hb => upd_ne hb
  have e0 : ∀ b, b ≠ p → H b = upd H p (.dK []) b := fun b hb => (upd_ne hb).symm
  refine h2 σ _ _ ⟨ρ, μ, α, R, S', V, ?_⟩
  unfold nDisp at h
  cases e : f ρ μ with
  | bad => rw [e] at h; exact False.elim h
  | ex x μ1 =>
    rw [e] at h
    intro cls od α1 R1 H1 S1 A1 dx
    exact h cls od α1 R1 H1 S1 (A1.out2 hp e0 fun b hb => rfl) dx
  | ok ps μ1 =>
    rw [e] at h
    intro w α1 R1 H1 S1 A1 dw
    have h : After X.K X.mg E (relN X.K X.mg) α R H (if ps.length ≤ 15 then .ok (.dict (mergeD ps)) μ1 else .bad) (fun x H1 => ∀ p, H1 p = none → Q (.ref p) (upd H1 p x.2)) := h
    split at h
    rotate_left
    · exact False.elim h
    rename_i hps
    have hp1 : H1 p = some (.dK []) := A1.k p _ upd_same nk
    have nk1 : ¬ Kn α1 R1 p := A1.notKn nk upd_same
    refine ⟨hp1, w, rfl, by rw [dw.len]; exact hps, ?_⟩
    have A2 : Adv α R H α1 R1 (eras H1 p) := A1.out2 hp e0 fun b hb => eras_ne hb
    have dm : DenK X.K X.mg R1 α1 (mergeK [] w) (mergeD ps) := merge_den dw .nil
    have hlen : (mergeK [] w).length ≤ sizeLine := by
      have := length_mergeK w []
      have h3 := dw.len
      simp only [List.length_nil] at this
      exact Nat.le_trans (by omega : _ ≤ 15) (by decide)
    have := h (L2.V.non, .dK (mergeK [] w)) α1 R1 (eras H1 p) (S1.out nk1 fun b hb => eras_ne hb) A2 ⟨_, rfl, hlen, dm⟩ p eras_same
    have e3 : upd (eras H1 p) p (.dK (mergeK [] w)) = upd H1 p (.dK (mergeK [] w)) := by
      funext b
      by_cases hb : b = p
      · subst hb; rw [upd_same, upd_same]
      · rw [upd_ne hb, upd_ne hb, eras_ne hb]
    rwa [e3] at this
def nEmpty : FN := fun _ μ => .ok (.dict []) μ
theorem dn_empty : DN X E (.Dict [] [] pos) nEmpty :=
  wE pe_dnewK fun σ H Q ⟨ρ, μ, α, R, S, V, h⟩ p hp => h (L2.V.non, .dK []) α R H S .refl ⟨[], rfl, Nat.zero_le _, .nil⟩ p hp
end
/-! ### x[i] = v -/
def setV (μ : Mu) (o i d : D) : Option Mu := match o with
  | .loc n => match μ[n]? with
    | some (some (.list xs)) => (match i with | .int k => (ixN xs.length k).map fun j => μ.set n (some (.list (xs.set j d))) | _ => none)
    | some (some (.dict kvs)) => if kvs.length < sizeLine then (keyOf i).map fun k => μ.set n (some (.dict (putD kvs k d))) else none
    | _ => none
  | _ => none
def sSub (fo fi fe : FE) : FS := fun ρ μ => (fe ρ μ).bind fun d μ1 => (fo ρ μ1).bind fun o μ2 => (fi ρ μ2).bind fun i μ3 => match setV μ3 o i d with
  | some μ4 => .ok (.nx ρ) μ4
  | none => .bad
/-- del x[i] -/
def delV (μ : Mu) (o i : D) : Option Mu := match o with
  | .loc n => match μ[n]? with
    | some (some (.dict kvs)) => (keyOf i).bind fun k => if (getK kvs k).isSome = true then some (μ.set n (some (.dict (kvs.filter fun kv => decide (kv.1 ≠ k))))) else none
    | _ => none
  | _ => none
def sDel (fo fi : FE) : FS := fun ρ μ => (fo ρ μ).bind fun o μ1 => (fi ρ μ1).bind fun i μ2 => match delV μ2 o i with
  | some μ3 => .ok (.nx ρ) μ3
  | none => .bad
section
variable {X : Cx} {E : XK} {o i e : Expr} {fo fi fe : FE} {pos tpos : Pos}
theorem set_any (hu : X.A.units + 64 < cLine) : PSet X fun ov iv v H Q => ∃ μ α R d1 d2 d3 μ', SM X.K X.mg μ α R H ∧ Den X.K X.mg R α ov d1 ∧ Den X.K X.mg R α iv d2 ∧ Den X.K X.mg R α v d3 ∧ setV μ d1 d2 d3 = some μ' ∧
    ∀ H', SM X.K X.mg μ' α R H' → Adv α R H α R H' → Q H' := by
  rintro pins s σ H o i v ov iv u Q I ro ri rv ⟨μ, α, R, d1, d2, d3, μ', S, h1, h2, h3, e, q⟩
  cases h1 with
  | loc hα =>
    rename_i a n
    simp only [setV] at e
    split at e
    · rename_i xs e1
      split at e
      · rename_i k
        obtain ⟨j, e2, rfl⟩ := Option.map_eq_some_iff.mp e
        cases h2
        obtain ⟨_, vs, g1, g2, g3⟩ := S.cell n _ a e1 hα
        obtain ⟨S2, A2⟩ := S.put (u := .lst (vs.set j v)) (c := .list (xs.set j d3)) e1 hα ⟨_, upd_same, by rw [List.length_set]; exact g2, g3.set h3 j⟩
        exact set_list pins s σ H _ _ v ov iv u Q I ro ri rv ⟨a, vs, k, j, rfl, rfl, g1, by rw [g3.len]; exact e2, q _ S2 A2⟩
      · cases e
    · rename_i kvs e1
      split at e
      · rename_i hl
        obtain ⟨k, e2, rfl⟩ := Option.map_eq_some_iff.mp e
        obtain rfl := keyOf_den h2 e2
        obtain ⟨_, ks, g1, g2, g3⟩ := S.cell n _ a e1 hα
        have hl2 : ks.length < sizeLine := by rw [g3.len]; exact hl
        obtain ⟨S2, A2⟩ := S.put (u := .dK (putK ks k v)) (c := .dict (putD kvs k d3)) e1 hα ⟨_, upd_same, Nat.le_trans (length_putK ks k v) hl2, g3.put k h3⟩
        exact set_dict (by omega) pins s σ H _ _ v ov iv u Q I ro ri rv ⟨a, _, rfl, DPut.k g1 hl2, q _ S2 A2⟩
      · cases e
    · cases e
  | _ => simp [setV] at e
theorem ds_sub (hu : X.A.units + 64 < cLine) (ho : DE X E o fo) (hi : DE X E i fi) (he : DE X E e fe) (hs : swapsWithSole [.Subscript o i tpos] e pos.line X.env = pure false := by rfl) (hw : swappedStores [.Subscript o i tpos] e X.env = pure none := by rfl)
    (h1 : (assignEach [.Subscript o i tpos] X.env).map (·.2) = [assign (.Subscript o i tpos) X.env] := by rfl)
    (ha : ∀ v, assign (.Subscript o i tpos) X.env v = (do
      let ov ← holding [v] (eval o X.env)
      let iv ← holding [v, ov] (eval i X.env)
      standAt tpos
      holding [v, ov, iv] (setItem ov iv v)
      release [v, ov, iv] []) := by intro _; rfl) : DS X E (.Assign [.Subscript o i tpos] e pos) (sSub fo fi fe) :=
  wS (ps_asg he (pg_sub ho hi (set_any hu) ha) hs hw h1) fun Dn σ H ⟨ρ, μ, α, R, S, V, h⟩ => ⟨ρ, μ, α, R, S, V, h.bind fun d μ1 v α1 R1 H1 S1 A1 q1 h1 => ⟨ρ, μ1, α1, R1, S1, V.adv A1, h1.bind fun x μ2 w α2 R2 H2 S2 A2 q2 h2 =>
    ⟨ρ, μ2, α2, R2, S2, (V.adv A1).adv A2, h2.bind fun y μ3 z α3 R3 H3 S3 A3 q3 h3 => by
      cases e : setV μ3 x y d with
      | none => rw [e] at h3; exact False.elim h3
      | some μ4 =>
        rw [e] at h3
        exact ⟨μ3, α3, R3, x, y, d, μ4, S3, q2.adv A3, q3, (q1.adv A2).adv A3, e, fun H' S' A' => h3 σ α3 R3 H' S' A' ((((V.adv A1).adv A2).adv A3).adv A')⟩⟩⟩⟩
theorem ds_del (ho : DE X E o fo) (hi : DE X E i fi) : DS X E (.Delete [.Subscript o i tpos] pos) (sDel fo fi) :=
  wS (ps_ddel ho hi) fun Dn σ H ⟨ρ, μ, α, R, S, V, h⟩ => ⟨ρ, μ, α, R, S, V, h.bind fun x μ1 v α1 R1 H1 S1 A1 q1 h1 => ⟨ρ, μ1, α1, R1, S1, V.adv A1, h1.bind fun y μ2 w α2 R2 H2 S2 A2 q2 h2 => by
    cases e : delV μ2 x y with
    | none => rw [e] at h2; exact False.elim h2
    | some μ3 =>
      rw [e] at h2
      have q1' := q1.adv A2
      cases q1' with
      | loc hα =>
        rename_i a n
        simp only [delV] at e
        split at e
        · rename_i kvs e1
          obtain ⟨k, e2, e3⟩ := Option.bind_eq_some_iff.mp e
          split at e3
          · rename_i hk
            cases e3
            obtain rfl := keyOf_den q2 e2
            obtain ⟨_, ks, g1, g2, g3⟩ := S2.cell n _ a e1 hα
            have hv : (valV ks k).isSome = true := by
              have := denK_get (k := k) g3
              cases e4 : getK kvs k with
              | none => rw [e4] at hk; cases hk
              | some d => rw [e4] at this; obtain ⟨v, h5, _⟩ := this; rw [h5]; rfl
            obtain ⟨S3, A3⟩ := S2.put (u := .dK (dropK ks k)) (c := .dict (kvs.filter fun kv => decide (kv.1 ≠ k))) e1 hα ⟨_, upd_same, Nat.le_trans (dropK_le ks k) g2, g3.drop k⟩
            exact ⟨a, ks, k, rfl, g1, rfl, hv, h2 σ α2 R2 _ S3 A3 (((V.adv A1).adv A2).adv A3)⟩
          · cases e3
        · cases e
      | _ => simp [delV] at e⟩⟩
end
/-! ### attributes -/
def fldV (μ : Mu) (o : D) (f : Str) : Option D := (objV μ o).bind fun p => p.2.lookup f
def eFld (fo : FE) (f : Str) : FE := fun ρ μ => (fo ρ μ).bind fun o μ1 => ofO (fldV μ1 o f) μ1
def putFD (f : Str) (v : D) : List (Str × D) → List (Str × D)
  | [] => [(f, v)]
  | (g, x) :: r => if g = f then (g, v) :: r else (g, x) :: putFD f v r
def setF (μ : Mu) (o : D) (f : Str) (d : D) : Option Mu := match o with
  | .loc n => match μ[n]? with
    | some (some (.obj c fs)) => if fs.length < 1000 then some (μ.set n (some (.obj c (putFD f d fs)))) else none
    | _ => none
  | _ => none
def sFldD (fo fe : FE) (f : Str) : FS := fun ρ μ => (fe ρ μ).bind fun d μ1 => (fo ρ μ1).bind fun o μ2 => match setF μ2 o f d with
  | some μ3 => .ok (.nx ρ) μ3
  | none => .bad
/-- what the text's classes are: each name that holds a class holds a plain one without the attribute f -/
def ClsOk (K : PySem.W.Frag) (mg : Str → Option Value) (cs : List Str) (f : Str) : Prop := ∀ c ∈ cs, ∀ C, mg c = some (.ref C) → Cls K C ∧ NoAttr K C f
section
variable {X : Cx} {E : XK} {o e : Expr} {fo fe : FE} {pos pos' : Pos} {f : Str}
theorem DenF.look {K : PySem.W.Frag} {mg : Str → Option Value} {R : Hp} {α : List Addr} {f : Str} {d : D} : ∀ {gs : List (Str × V)} {fs : List (Str × D)}, DenF K mg R α gs fs → fs.lookup f = some d → ∃ v, gs.lookup f = some v ∧ Den K mg R α v d
  | _, _, .nil, e => by simp at e
  | _, _, .cons (k := k) h t, e => by
    rw [List.lookup_cons] at e ⊢
    by_cases q : f == k
    · rw [q] at e ⊢; cases e; exact ⟨_, rfl, h⟩
    · simp only [Bool.not_eq_true] at q
      rw [q] at e ⊢
      exact DenF.look t e
theorem DenF.putF {K : PySem.W.Frag} {mg : Str → Option Value} {R : Hp} {α : List Addr} {f : Str} {v : V} {d : D} (hd : Den K mg R α v d) : ∀ {gs : List (Str × V)} {fs : List (Str × D)}, DenF K mg R α gs fs → DenF K mg R α (L2.putF f v gs) (putFD f d fs)
  | _, _, .nil => .cons hd .nil
  | _, _, .cons (k := k) h t => by
    unfold L2.putF putFD
    by_cases e : k = f
    · rw [if_pos e, if_pos e]; exact .cons hd t
    · rw [if_neg e, if_neg e]; exact .cons h (DenF.putF hd t)
theorem DenF.len {K : PySem.W.Frag} {mg : Str → Option Value} {R : Hp} {α : List Addr} : ∀ {gs : List (Str × V)} {fs : List (Str × D)}, DenF K mg R α gs fs → gs.length = fs.length
  | _, _, .nil => rfl
  | _, _, .cons _ t => congrArg (· + 1) (DenF.len t)
/-- the class names that may be met at this attribute are cs -/
def eFldC (cs : List Str) (fo : FE) (f : Str) : FE := fun ρ μ => (fo ρ μ).bind fun o μ1 => match objV μ1 o with
  | some (c, fs) => if c ∈ cs then ofO (fs.lookup f) μ1 else .bad
  | none => .bad
theorem de_fld {cs : List Str} (hc : ClsOk X.K X.mg cs f) (ho : DE X E o fo) (hb : attributeBase o f X.env (eval o X.env) = eval o X.env := by rfl) : DE X E (.Attribute o f pos) (eFldC cs fo f) :=
  wE (pe_fld ho hb) fun σ H Q ⟨ρ, μ, α, R, S, V, h⟩ => ⟨ρ, μ, α, R, S, V, h.bind fun x μ1 v α1 R1 H1 S1 A1 q1 h1 => by
    cases e : objV μ1 x with
    | none => rw [e] at h1; exact False.elim h1
    | some p =>
      obtain ⟨c, fs⟩ := p
      rw [e] at h1
      have h1 : After X.K X.mg E (relD X.K X.mg) α1 R1 H1 (if c ∈ cs then ofO (fs.lookup f) μ1 else .bad) Q := h1
      split at h1
      · rename_i hcs
        obtain ⟨d, e1, e2⟩ := h1.ofO
        obtain ⟨a, C, dx, gs, rfl, g1, g2, g3⟩ := S1.objV q1 e
        obtain ⟨k1, k2⟩ := hc c hcs C g1
        obtain ⟨w, g4, g5⟩ := g3.look e1
        exact ⟨a, C, dx, gs, w, rfl, g2, k1, k2, g4, e2 w α1 R1 H1 S1 .refl g5⟩
      · exact False.elim h1⟩
def sFldC (cs : List Str) (fo fe : FE) (f : Str) : FS := fun ρ μ => (fe ρ μ).bind fun d μ1 => (fo ρ μ1).bind fun o μ2 => match objV μ2 o with
  | some (c, _) => if c ∈ cs then (match setF μ2 o f d with | some μ3 => .ok (.nx ρ) μ3 | none => .bad) else .bad
  | none => .bad
theorem ds_fld {cs : List Str} (hc : ClsOk X.K X.mg cs f) (ho : DE X E o fo) (he : DE X E e fe) (hs : swapsWith e (some (.Attribute o f pos')) pos.line X.env = pure false := by rfl) : DS X E (.Assign [.Attribute o f pos'] e pos) (sFldC cs fo fe f) :=
  wS (ps_fld ho he hs) fun Dn σ H ⟨ρ, μ, α, R, S, V, h⟩ => ⟨ρ, μ, α, R, S, V, h.bind fun d μ1 v α1 R1 H1 S1 A1 q1 h1 => ⟨ρ, μ1, α1, R1, S1, V.adv A1, h1.bind fun x μ2 w α2 R2 H2 S2 A2 q2 h2 => by
    cases e : objV μ2 x with
    | none => rw [e] at h2; exact False.elim h2
    | some p =>
      obtain ⟨c, fs⟩ := p
      rw [e] at h2
      have h2 : AfterS X.K X.mg E α2 R2 H2 (if c ∈ cs then (match setF μ2 x f d with | some μ3 => .ok (.nx ρ) μ3 | none => .bad) else .bad) Dn := h2
      split at h2
      · rename_i hcs
        cases e3 : setF μ2 x f d with
        | none => rw [e3] at h2; exact False.elim h2
        | some μ3 =>
          rw [e3] at h2
          cases q2 with
          | loc hα =>
            rename_i a n
            simp only [setF] at e3
            split at e3
            · rename_i c' fs' e4
              split at e3
              · rename_i hl
                cases e3
                simp only [objV, e4] at e
                cases e
                obtain ⟨_, C, dx, gs, g1, g2, g3⟩ := S2.cell n _ a e4 hα
                obtain ⟨k1, k2⟩ := hc c hcs C g1
                obtain ⟨S3, A3⟩ := S2.put (u := .ins C dx (L2.putF f v gs)) (c := .obj c (putFD f d fs)) e4 hα ⟨C, dx, _, g1, upd_same, DenF.putF (q1.adv A2) g3⟩
                exact ⟨a, C, dx, gs, rfl, g2, k1, k2, by rw [g3.len]; exact hl, h2 σ α2 R2 _ S3 A3 (((V.adv A1).adv A2).adv A3)⟩
              · cases e3
            · cases e3
          | _ => simp [setF] at e3
      · exact False.elim h2⟩⟩
end
/-! ### methods of built-in types -/
abbrev GM := Mu → D → List D → Option (D × Mu)
def MtG (X : Cx) (id : String) (g : GM) : Prop := MtR X id fun x vs H Q => ∃ μ α R dx ds d μ', SM X.K X.mg μ α R H ∧ Den X.K X.mg R α x dx ∧ DenL X.K X.mg R α vs ds ∧ g μ dx ds = some (d, μ') ∧
  ∀ w R' H', SM X.K X.mg μ' α R' H' → Adv α R H α R' H' → Den X.K X.mg R' α w d → Q w H'
/-- the receiver is of that type: a text, a list, a dict -/
def isTy (μ : Mu) (T : String) (d : D) : Bool := (T == "list" && (seqL μ d).isSome) || (T == "dict" && (dctV μ d).isSome) || (T == "str" && (match d with | .str _ => true | _ => false))
def eMeth (T : String) (g : GM) (fo : FE) (t : FA) : FE := fun ρ μ => (fo ρ μ).bind fun x μ1 => if isTy μ1 T x = true then (t ρ μ1).bind fun ds μ2 => match g μ2 x ds with
  | some (d, μ3) => .ok d μ3
  | none => .bad else .bad
section
variable {X : Cx} {E : XK} {o e : Expr} {es : List Expr} {fo : FE} {t : FA} {name : Str} {apos cpos : Pos} {T id : String} {g : GM}
theorem isTy_is {pins : List (Addr × Obj)} {σ : L2.St} {H : Hp} {s : Shared} {μ : Mu} {α : List Addr} {R : Hp} {x : V} {v : Value} {d : D} (I : Inv X pins σ H s) (S : SM X.K X.mg μ α R H) (r : RelV x v) (h : Den X.K X.mg R α x d) (e : isTy μ T d = true) :
    s.TypeIs v T ∧ ∀ a, v = .ref a → ∃ ob, s.heap.get? a = some ob ∧ ob.dict = none := by
  simp only [isTy, Bool.or_eq_true, Bool.and_eq_true, beq_iff_eq] at e
  rcases e with (⟨rfl, e⟩ | ⟨rfl, e⟩) | ⟨rfl, e⟩
  · obtain ⟨xs, e⟩ := Option.isSome_iff_exists.mp e
    obtain ⟨a, vs, rfl, h1, _⟩ := S.seqL h e
    exact tyV_is I r (.inl ⟨rfl, vs, SqL.of h1⟩)
  · obtain ⟨kvs, e⟩ := Option.isSome_iff_exists.mp e
    obtain ⟨a, ks, rfl, h1, _⟩ := S.dctV h e
    obtain rfl : v = .ref a := r
    obtain ⟨z, _, vs, _, ob, es, ep, e1, ex, _⟩ := dk_rd I.hok h1
    refine ⟨⟨ob, e1, ex.1⟩, fun b hb => ?_⟩
    cases hb
    exact ⟨ob, e1, ex.2.1⟩
  · split at e
    · cases h
      exact tyV_is I r rfl
    · cases e
theorem de_bm (pa : PlainAttrs T) (slot : Slot T name id) (hty : typeOf (.builtin id) = pure (.type "method_descriptor")) (hm : MtG X id g) (ho : DE X E o fo) (ha : DA X E (e :: es) t)
    (hbase : attributeBase o name X.env (eval o X.env) = eval o X.env := by rfl)
    (hfew : ((backTo cpos (starEach (e :: es) X.env)).all (fun x => !x.1) && (backToKw cpos (keywordEach [] X.env)).all (fun x => x.1.isSome) && decide ((e :: es).length + ([] : List Keyword).length + (if ([] : List Keyword).isEmpty then 0 else 1) < 30)) = true := by rfl)
    (hline : (apos.endLine == cpos.line) = true := by rfl) (hs : starEach (e :: es) X.env = (false, eval e X.env) :: starEach es X.env := by rfl) (hplain : (backTo cpos (starEach es X.env)).any (·.1) = false := by rfl) :
    DE X E (.Call (.Attribute o name apos) (e :: es) [] cpos) (eMeth T g fo t) := by
  refine ⟨fun pins s σ H Q I ⟨ρ, μ, α, R, S, W, h⟩ => ?_⟩
  let P1 : V → Hp → Prop := fun v H1 => ∃ dx μ1 α1 R1, SM X.K X.mg μ1 α1 R1 H1 ∧ SS X.K X.mg ρ R1 α1 σ ∧ Den X.K X.mg R1 α1 v dx ∧ After X.K X.mg E (relD X.K X.mg) α1 R1 H1 (if isTy μ1 T dx = true then (t ρ μ1).bind fun ds μ2 => match g μ2 dx ds with
    | some (d, μ3) => .ok d μ3
    | none => .bad else .bad) Q
  have h0 := ho.run pins s σ H P1 I ⟨ρ, μ, α, R, S, W, h.bind fun dx μ1 v α1 R1 H1 S1 A1 q1 h1 => ⟨dx, μ1, α1, R1, S1, W.adv A1, q1, h1⟩⟩
  refine wpAny_Call_method_late hbase hfew hline rfl (thn h0 fun v s1 hq => ?_)
  obtain ⟨x, H1, I1, r1, dx, μ1, α1, R1, S1, V1, q1, h1⟩ := hq
  split at h1
  rotate_left
  · exact False.elim h1
  rename_i hT
  obtain ⟨t1, t2⟩ := isTy_is I1 S1 r1 q1 hT
  refine ⟨T, id, pa, slot, hty, t1, t2, ?_⟩
  let P2 : List V → Hp → Prop := fun vs H2 => ∃ ds μ2 α2 R2, SM X.K X.mg μ2 α2 R2 H2 ∧ Den X.K X.mg R2 α2 x dx ∧ DenL X.K X.mg R2 α2 vs ds ∧ After X.K X.mg E (relD X.K X.mg) α2 R2 H2 (match g μ2 dx ds with
    | some (d, μ3) => .ok d μ3
    | none => .bad) Q
  have hA := ha.run cpos pins s1 σ H1 P2 I1 ⟨ρ, μ1, α1, R1, S1, V1, h1.bind fun ds μ2 vs α2 R2 H2 S2 A2 q2 h2 => ⟨ds, μ2, α2, R2, S2, q1.adv A2, q2, h2⟩⟩
  rw [hs] at hA ⊢
  refine Calls.callWith_builtin (by show (false || (backTo cpos (starEach es X.env)).any (·.1)) = false
                                    rw [hplain] <;> rfl) (Calls.evalArgs_plain ?_)
  refine thn hA fun us s2 hq => ?_
  obtain ⟨vs, H2, I2, r2, ds, μ2, α2, R2, S2, q2, q3, h2⟩ := hq
  cases eg : g μ2 dx ds with
  | none => rw [eg] at h2; exact False.elim h2
  | some p =>
    obtain ⟨d, μ3⟩ := p
    rw [eg] at h2
    exact hm pins s2 σ H2 x vs v us Q I2 r1 r2 ⟨μ2, α2, R2, dx, ds, d, μ3, S2, q2, q3, eg, fun w R' H' S' A' q => h2 w α2 R' H' S' A' q⟩
theorem de_bm0 (pa : PlainAttrs T) (slot : Slot T name id) (hty : typeOf (.builtin id) = pure (.type "method_descriptor")) (hm : MtG X id g) (ho : DE X E o fo)
    (hbase : attributeBase o name X.env (eval o X.env) = eval o X.env := by rfl) (hline : (apos.endLine == cpos.line) = true := by rfl) :
    DE X E (.Call (.Attribute o name apos) [] [] cpos) (eMeth T g fo aNil) := by
  refine ⟨fun pins s σ H Q I ⟨ρ, μ, α, R, S, W, h⟩ => ?_⟩
  let P1 : V → Hp → Prop := fun v H1 => ∃ dx μ1 α1 R1, SM X.K X.mg μ1 α1 R1 H1 ∧ Den X.K X.mg R1 α1 v dx ∧ After X.K X.mg E (relD X.K X.mg) α1 R1 H1 (if isTy μ1 T dx = true then (match g μ1 dx [] with
    | some (d, μ3) => .ok d μ3
    | none => .bad) else .bad) Q
  have h0 := ho.run pins s σ H P1 I ⟨ρ, μ, α, R, S, W, h.bind fun dx μ1 v α1 R1 H1 S1 A1 q1 h1 => ⟨dx, μ1, α1, R1, S1, q1, h1⟩⟩
  refine wpAny_Call_method_late hbase rfl hline rfl (thn h0 fun v s1 hq => ?_)
  obtain ⟨x, H1, I1, r1, dx, μ1, α1, R1, S1, q1, h1⟩ := hq
  split at h1
  rotate_left
  · exact False.elim h1
  rename_i hT
  obtain ⟨t1, t2⟩ := isTy_is I1 S1 r1 q1 hT
  refine ⟨T, id, pa, slot, hty, t1, t2, ?_⟩
  refine Calls.callWith_builtin (args := []) rfl (PyProof.Rows.evalArgs_empty ?_)
  cases eg : g μ1 dx [] with
  | none => rw [eg] at h1; exact False.elim h1
  | some p =>
    obtain ⟨d, μ3⟩ := p
    rw [eg] at h1
    have fin := hm pins s1 σ H1 x [] v [] Q I1 r1 .nil ⟨μ1, α1, R1, dx, [], d, μ3, S1, q1, .nil, eg, fun w R' H' S' A' q => h1 w α1 R' H' S' A' q⟩
    exact fin
/-! list methods -/
def gAppend : GM := fun μ x ds => match x, ds with
  | .loc n, [d] => match μ[n]? with
    | some (some (.list xs)) => if xs.length < sizeLine then some (.none, μ.set n (some (.list (xs ++ [d])))) else none
    | _ => none
  | _, _ => none
theorem mg_append : MtG X "list.append" gAppend := by
  rintro pins s σ H x vs v us Q I rx r ⟨μ, α, R, dx, ds, d, μ', S, h1, h2, e, q⟩
  unfold gAppend at e
  split at e
  · rename_i n d'
    split at e
    · rename_i xs e1
      split at e
      · rename_i hl
        cases e
        cases h1 with
        | loc hα =>
          rename_i a
          obtain ⟨w, rfl, k2⟩ := denL1 h2
          obtain ⟨_, ws, g1, g2, g3⟩ := S.cell n _ a e1 hα
          have hl2 : ws.length < sizeLine := by rw [g3.len]; exact hl
          obtain ⟨S2, A2⟩ := S.put (u := .lst (ws ++ [w])) (c := .list (xs ++ [d'])) e1 hα ⟨_, upd_same, by rw [List.length_append]; exact hl2, g3.append (.cons k2 .nil)⟩
          exact mt_append pins s σ H _ _ v us Q I rx r ⟨a, ws, w, rfl, rfl, g1, hl2, q _ R _ S2 A2 .none⟩
      · cases e
    · cases e
  · cases e
/-- x.pop(), x.pop(i) of a list -/
def gPop : GM := fun μ x ds => match x with
  | .loc n => match μ[n]? with
    | some (some (.list xs)) => (match ds with
      | [] => (xs[xs.length - 1]?).map fun d => (d, μ.set n (some (.list xs.dropLast)))
      | [.int i] => if -(2 ^ 63) ≤ i ∧ i < 2 ^ 63 then (seqIndex? i xs.length).bind fun k => (xs[k]?).map fun d => (d, μ.set n (some (.list (xs.eraseIdx k)))) else none
      | _ => none)
    | _ => none
  | _ => none
theorem DenL.dropLast {K : PySem.W.Frag} {mg : Str → Option Value} {R : Hp} {α : List Addr} {vs : List V} {xs : List D} (h : DenL K mg R α vs xs) : DenL K mg R α vs.dropLast xs.dropLast := by
  rw [List.dropLast_eq_take, List.dropLast_eq_take, h.len]
  exact h.take _
theorem mg_pop : MtG X "list.pop" gPop := by
  rintro pins s σ H x vs v us Q I rx r ⟨μ, α, R, dx, ds, d, μ', S, h1, h2, e, q⟩
  unfold gPop at e
  split at e
  · rename_i n
    split at e
    · rename_i xs e1
      cases h1 with
      | loc hα =>
        rename_i a
        obtain ⟨_, ws, g1, g2, g3⟩ := S.cell n _ a e1 hα
        split at e
        · obtain ⟨d', e2, e3⟩ := Option.map_eq_some_iff.mp e
          cases e3
          cases h2
          obtain ⟨w, e4, e5⟩ := g3.get' e2
          obtain ⟨S2, A2⟩ := S.put (u := .lst ws.dropLast) (c := .list xs.dropLast) e1 hα ⟨_, upd_same, by rw [List.length_dropLast]; omega, g3.dropLast⟩
          exact mt_pop pins s σ H _ _ v us Q I rx r ⟨a, ws, w, rfl, rfl, g1, by rw [g3.len]; exact e4, q _ R _ S2 A2 e5⟩
        · rename_i i
          split at e
          · rename_i hi
            obtain ⟨k, e2, e3⟩ := Option.bind_eq_some_iff.mp e
            obtain ⟨d', e4, e5⟩ := Option.map_eq_some_iff.mp e3
            cases e5
            obtain ⟨w', rfl, k2⟩ := denL1 h2
            cases k2
            obtain ⟨w, e6, e7⟩ := g3.get' e4
            obtain ⟨S2, A2⟩ := S.put (u := .lst (ws.eraseIdx k)) (c := .list (xs.eraseIdx k)) e1 hα ⟨_, upd_same, Nat.le_trans (len_erase ws k) g2, g3.erase k⟩
            exact mt_popAt pins s σ H _ _ v us Q I rx r ⟨a, ws, i, k, w, rfl, rfl, g1, hi.1, hi.2, by rw [g3.len]; exact e2, e6, q _ R _ S2 A2 e7⟩
          · cases e
        · cases e
    · cases e
  · cases e
/-- d.get(k), d.get(k, x) -/
def gGet : GM := fun μ x ds => match dctV μ x with
  | some kvs => (match ds with
    | [k] => (keyOf k).map fun k => ((getK kvs k).getD .none, μ)
    | [k, d] => (keyOf k).map fun k => ((getK kvs k).getD d, μ)
    | _ => none)
  | none => none
theorem mg_get (hu : X.A.units + 64 < cLine) : MtG X "dict.get" gGet := by
  rintro pins s σ H x vs v us Q I rx r ⟨μ, α, R, dx, ds, d, μ', S, h1, h2, e, q⟩
  unfold gGet at e
  split at e
  rotate_left
  · cases e
  rename_i kvs e1
  obtain ⟨a, ks, rfl, hd, hl, dk⟩ := S.dctV h1 e1
  obtain rfl : v = .ref a := rx
  split at e
  · obtain ⟨k, e2, e3⟩ := Option.map_eq_some_iff.mp e
    cases e3
    obtain ⟨w, rfl, k2⟩ := denL1 h2
    obtain rfl := keyOf_den k2 e2
    obtain ⟨u, rfl, ru⟩ := vals1 r
    refine d_get1 (by omega) I (.inl ⟨ks, k, hd, rfl, rfl⟩) ru fun w' s' I' r' => ⟨(valV ks k).getD .non, H, I', r', q _ R H S .refl ?_⟩
    have g := denK_get (k := k) dk
    cases e4 : getK kvs k with
    | none => rw [e4] at g; rw [g]; exact .none
    | some d => rw [e4] at g; obtain ⟨v, g1, g2⟩ := g; rw [g1]; exact g2
  · rename_i dflt
    obtain ⟨k, e2, e3⟩ := Option.map_eq_some_iff.mp e
    cases e3
    obtain ⟨w, w2, rfl, k2, h3⟩ := denL2 h2
    obtain rfl := keyOf_den k2 e2
    obtain ⟨u, u2, rfl, ru, ru2⟩ := vals2 r
    refine d_get2 (by omega) I (.inl ⟨ks, k, hd, rfl, rfl⟩) ru ru2 fun w' s' I' r' => ⟨(valV ks k).getD w2, H, I', r', q _ R H S .refl ?_⟩
    have g := denK_get (k := k) dk
    cases e4 : getK kvs k with
    | none => rw [e4] at g; rw [g]; exact h3
    | some d => rw [e4] at g; obtain ⟨v, g1, g2⟩ := g; rw [g1]; exact g2
  · cases e
end
end TL

set_option Elab.async false
set_option maxRecDepth 100000
set_option maxHeartbeats 1000000
set_option linter.all false
/-! The tree layer, part m: words for printed derivations. -/
namespace TL
open PySem PySem.Spec PyProof.Rows L2

/-- the module's name x holds a def that does F; dds: its defaults -/
structure Has (P : Program) (w : World) (K : PySem.W.Frag) (mg : Str → Option Value) (base : Heap) (k : Nat) (x : Str) (n : Nat) (dds : List D) (F : List D → Mu → Res D) : Prop where
  ex : ∃ (f : Addr) (fd : FuncData) (ps : List Str) (dvs : List V) (dus : List Value), ps.length = n ∧ FnT P w K mg base k f fd ps F ∧ mg x = some (.ref f) ∧ PySem.W.keepIn K (.ref f) = true ∧ Binds K fd ps dus ∧ Vals dvs dus ∧ ∀ R α, DenL K mg R α dvs dds
theorem Has.mk0 {P : Program} {w : World} {K : PySem.W.Frag} {mg : Str → Option Value} {base : Heap} {k n : Nat} {x : Str} {f : Addr} {fd : FuncData} {ps : List Str} {F : List D → Mu → Res D} (G : FnT P w K mg base k f fd ps F) (hm : mg x = some (.ref f)) (hk : PySem.W.keepIn K (.ref f) = true)
    (hb : Binds K fd ps []) (hn : ps.length = n := by rfl) : Has P w K mg base k x n [] F := ⟨f, fd, ps, [], [], hn, G, hm, hk, hb, .nil, fun _ _ => .nil⟩
section
variable {X : Cx} {E : XK} {pos : Pos}
theorem dv (i : Nat) {x : Str} (hN : X.N[i]? = some x := by rfl) (hv : Vis X.env.scope x := by first | exact Or.inl rfl | exact Or.inr (Or.inl rfl) | exact Or.inr (Or.inr rfl)) (hd : (x == ("__debug__" : Str)) = false := by decide) (hcd : (x == ("__classdict__" : Str)) = false := by decide) : DE X E (.Name x pos) (eVar i) := de_var hN hv hd hcd
theorem dcall {k n : Nat} {x : Str} {dds : List D} {F : List D → Mu → Res D} {p : Pos} {e : Expr} {es : List Expr} {t : FA} (G : Has X.prog X.w X.K X.mg X.base k x n dds F) (hr : Room k X.A) (hgd : X.A.guards = some []) (hg : Gl X x) (hx : Passes (L2.CX X.prog X.w) X E) (ha : DA X E (e :: es) t)
    (hdb : (x == ("__debug__" : Str)) = false := by decide) (he : starEach (e :: es) X.env = (false, eval e X.env) :: starEach es X.env := by rfl) (hpl : (backTo pos (starEach es X.env)).any (·.1) = false := by rfl) :
    DE X E (.Call (.Name x p) (e :: es) [] pos) (eCallF n F dds t) := by
  obtain ⟨f, fd, ps, dvs, dus, hn, G, hm, hk, hb, hd, hdd⟩ := G.ex
  exact de_call G hr hgd hg hm hk hb hd hdd hx ha hn hdb he hpl
theorem dcall0 {k n : Nat} {x : Str} {dds : List D} {F : List D → Mu → Res D} {p : Pos} (G : Has X.prog X.w X.K X.mg X.base k x n dds F) (hr : Room k X.A) (hgd : X.A.guards = some []) (hg : Gl X x) (hx : Passes (L2.CX X.prog X.w) X E)
    (hdb : (x == ("__debug__" : Str)) = false := by decide) : DE X E (.Call (.Name x p) [] [] pos) (eCallF n F dds aNil) := by
  obtain ⟨f, fd, ps, dvs, dus, hn, G, hm, hk, hb, hd, hdd⟩ := G.ex
  exact de_call0 G hr hgd hg hm hk hb hd hdd hx hn hdb
/-- a name of the module that holds a text, a number -/
theorem de_gS {x s : Str} (h : ∃ u, X.mg x = some u ∧ RelV (V.str s) u) (hg : Gl X x) (hdb : (x == ("__debug__" : Str)) = false := by decide) : DE X E (.Name x pos) (eC (.str s)) := by
  obtain ⟨u, h1, h2⟩ := h
  exact de_glob hg h1 h2 (fun _ _ => .str s) hdb
theorem de_gI {x : Str} {i : Int} (h : ∃ u, X.mg x = some u ∧ RelV (V.int i) u) (hg : Gl X x) (hdb : (x == ("__debug__" : Str)) = false := by decide) : DE X E (.Name x pos) (eC (.int i)) := by
  obtain ⟨u, h1, h2⟩ := h
  exact de_glob hg h1 h2 (fun _ _ => .int i) hdb
end
/-- the value, its cell frozen -/
def frzD (d : D) (μ : Mu) : Res D := match d with
  | .loc n => match μ[n]? with
    | some (some c) => .ok (cellD c) (μ.set n none)
    | _ => .bad
  | d => .ok d μ
def eFrz (f : FE) : FE := fun ρ μ => (f ρ μ).bind frzD
section
variable {X : Cx} {E : XK}
theorem frz_ok {K : PySem.W.Frag} {mg : Str → Option Value} {R H : Hp} {α : List Addr} {μ : Mu} {d : D} {v : V} {Q : VK} (S : SM K mg μ α R H) (q : Den K mg R α v d) (h : After K mg E (relD K mg) α R H (frzD d μ) Q) : Q v H := by
  unfold frzD at h
  split at h
  · rename_i n
    cases q with
    | loc hα =>
      split at h
      · rename_i c e
        obtain ⟨R', S', A', d'⟩ := S.freeze e hα
        exact h _ α R' H S' A' d'
      · exact False.elim h
  · exact h v α R H S .refl q
theorem de_frz {e : Expr} {f : FE} (h : DE X E e f) : DE X E e (eFrz f) :=
  wE h fun σ H Q ⟨ρ, μ, α, R, S, V, h⟩ => ⟨ρ, μ, α, R, S, V, h.bind fun d μ1 v α1 R1 H1 S1 A1 q1 h1 => frz_ok S1 q1 h1⟩
/-- the cell that slot i names is frozen here -/
def sFrz (i : Nat) : FS := fun ρ μ => match ρ[i]? with
  | some (some d) => (frzD d μ).bind fun d' μ1 => .ok (.nx (ρ.set i (some d'))) μ1
  | _ => .bad
theorem dss_frz (i : Nat) {sts : List Stmt} {g : FS} (h : DSs X E sts g) : DSs X E sts (sSeq (sFrz i) g) :=
  wSs h fun Dn σ H ⟨ρ, μ, α, R, S, V, h⟩ => by
    unfold sSeq sFrz at h
    split at h
    · rename_i d e
      obtain ⟨v, hv, q⟩ := V.2 i d e
      unfold frzD at h
      split at h
      · rename_i n
        cases q with
        | loc hα =>
          split at h
          · rename_i c ec
            obtain ⟨R', S', A', d'⟩ := S.freeze ec hα
            refine ⟨ρ.set i (some (cellD c)), μ.set n none, α, R', S', ⟨by simpa using V.1, fun j x hj => ?_⟩, ?_⟩
            · by_cases hij : i = j
              · subst hij
                have hl : i < ρ.length := (List.getElem?_eq_some_iff.mp e).1
                rw [List.getElem?_set_self hl] at hj
                cases hj
                exact ⟨_, hv, d'⟩
              · rw [List.getElem?_set_ne hij] at hj
                obtain ⟨w, h1, h2⟩ := V.2 j x hj
                exact ⟨w, h1, h2.adv A'⟩
            · exact AfterS.adv A' h
          · exact False.elim h
      · have e2 : ρ.set i (some d) = ρ := by
          apply List.ext_getElem?
          intro j
          by_cases hij : i = j
          · subst hij
            rw [List.getElem?_set_self (List.getElem?_eq_some_iff.mp e).1, e]
          · rw [List.getElem?_set_ne hij]
        have h' : AfterS X.K X.mg E α R H (g (ρ.set i (some d)) μ) Dn := h
        rw [e2] at h'
        exact ⟨ρ, μ, α, R, S, V, h'⟩
    · exact False.elim h
end
/-! ### xs + ys as a new list -/
def catO (μ : Mu) (x y : D) : Option Cell := match seqL μ x, seqL μ y with
  | some xs, some ys => chk (decide (xs.length + ys.length ≤ sizeLine)) (.list (xs ++ ys))
  | _, _ => none
def nCat (fa fb : FE) : FN := fun ρ μ => (fa ρ μ).bind fun x μ1 => (fb ρ μ1).bind fun y μ2 => ofO (catO μ2 x y) μ2
section
variable {X : Cx} {E : XK} {a b : Expr} {fa fb : FE} {pos : Pos}
theorem dn_cat (ha : DE X E a fa) (hb : DE X E b fb) : DN X E (.BinOp a .Add b pos) (nCat fa fb) :=
  wE (pe_op op_cat ha hb) fun σ H Q ⟨ρ, μ, α, R, S, V, h⟩ => ⟨ρ, μ, α, R, S, V, h.bind fun x μ1 v α1 R1 H1 S1 A1 d1 h1 => ⟨ρ, μ1, α1, R1, S1, V.adv A1, h1.bind fun y μ2 u α2 R2 H2 S2 A2 d2 h2 => by
    obtain ⟨c, e1, e2⟩ := h2.ofO
    unfold catO at e1
    split at e1
    · rename_i xs ys q1 q2
      obtain ⟨e4, rfl⟩ := chk_some e1
      obtain ⟨a, vs, rfl, i1, i2, i3⟩ := S2.seqL (d1.adv A2) q1
      obtain ⟨b, ws, rfl, j1, j2, j3⟩ := S2.seqL d2 q2
      have hl : vs.length + ws.length ≤ sizeLine := by rw [i3.len, j3.len]; exact of_decide_eq_true e4
      exact ⟨a, b, vs, ws, rfl, rfl, i1, j1, hl, fun p hp => e2 (.non, .lst (vs ++ ws)) α2 R2 H2 S2 .refl ⟨_, rfl, by simpa using hl, i3.append j3⟩ p hp⟩
    · cases e1⟩⟩
end
end TL

set_option Elab.async false
set_option maxRecDepth 100000
set_option maxHeartbeats 1000000
set_option linter.all false
/-! The tree layer, part n: what a reading gives (no program in sight). -/
namespace TL
open PySem PySem.Spec PyProof.Rows L2

def W {τ : Type} (r : Res τ) (P : τ → Mu → Prop) : Prop := match r with
  | .ok d μ => P d μ
  | _ => False
section
variable {τ υ : Type} {P : τ → Mu → Prop} {μ μ' : Mu} {ρ : Env}
theorem W_ok {d : τ} : W (.ok d μ) P ↔ P d μ := Iff.rfl
theorem W_bad : W (.bad : Res τ) P ↔ False := Iff.rfl
theorem W_ex {x : Exc} : W (.ex x μ : Res τ) P ↔ False := Iff.rfl
theorem W_bind {r : Res υ} {f : υ → Mu → Res τ} : W (r.bind f) P ↔ W r fun d μ => W (f d μ) P := by cases r <;> exact Iff.rfl
theorem W_noEx {r : Res τ} : W (noEx r) P ↔ W r P := by cases r <;> exact Iff.rfl
theorem W_ite {c : Prop} [Decidable c] {a b : Res τ} : W (if c then a else b) P ↔ (c → W a P) ∧ (¬ c → W b P) := by
  by_cases h : c <;> simp [h]
theorem W_some {d : τ} : W (ofO (some d) μ) P ↔ P d μ := Iff.rfl
theorem W_none : W (ofO (none : Option τ) μ) P ↔ False := Iff.rfl
theorem W_chk {b : Bool} {d : τ} : W (ofO (chk b d) μ) P ↔ b = true ∧ P d μ := by
  cases b <;> simp [chk, ofO, W]
theorem W_map {o : Option υ} {f : υ → τ} : W (ofO (o.map f) μ) P ↔ W (ofO o μ) fun d μ => P (f d) μ := by cases o <;> exact Iff.rfl
theorem W_obind {o : Option υ} {f : υ → Option τ} : W (ofO (o.bind f) μ) P ↔ W (ofO o μ) fun d μ => W (ofO (f d) μ) P := by cases o <;> exact Iff.rfl
theorem W.mono {r : Res τ} {Q : τ → Mu → Prop} (h : W r P) (k : ∀ d μ, P d μ → Q d μ) : W r Q := by
  cases r with
  | ok d μ => exact k _ _ h
  | ex x μ => exact h
  | bad => exact h
theorem W.eq {r : Res τ} {d : τ} (h : W r fun e m => e = d ∧ m = μ) : r = .ok d μ := by
  cases r with
  | ok e m => obtain ⟨rfl, rfl⟩ := h; rfl
  | ex x m => exact h.elim
  | bad => exact h.elim
theorem W.of_eq {r : Res τ} {d : τ} (h : r = .ok d μ) (k : P d μ) : W r P := by rw [h]; exact k
end
/-- what is to hold behind a statement, the rest being g -/
def seqK (g : FS) (P : Flow → Mu → Prop) : Flow → Mu → Prop
  | .nx ρ, μ => W (g ρ μ) P
  | .rt d, μ => P (.rt d) μ
  | .bk ρ, μ => P (.bk ρ) μ
  | .ct ρ, μ => P (.ct ρ) μ
section
variable {f g : FS} {P : Flow → Mu → Prop} {ρ : Env} {μ : Mu} {d : D}
theorem seqK_nx : seqK g P (.nx ρ) μ ↔ W (g ρ μ) P := Iff.rfl
theorem seqK_rt : seqK g P (.rt d) μ ↔ P (.rt d) μ := Iff.rfl
theorem seqK_bk : seqK g P (.bk ρ) μ ↔ P (.bk ρ) μ := Iff.rfl
theorem seqK_ct : seqK g P (.ct ρ) μ ↔ P (.ct ρ) μ := Iff.rfl
theorem W_seq : W (sSeq f g ρ μ) P ↔ W (f ρ μ) (seqK g P) := by
  unfold sSeq
  rw [W_bind]
  cases f ρ μ with
  | ok fl μ1 => cases fl <;> exact Iff.rfl
  | ex x μ1 => exact Iff.rfl
  | bad => exact Iff.rfl
end
/-- name = what is known, then the rest -/
theorem W_seqSet {i : Nat} {e : FE} {g : FS} {ρ : Env} {μ : Mu} {d : D} {P : Flow → Mu → Prop} (h : e ρ μ = .ok d μ) (k : W (g (ρ.set i (some d)) μ) P) : W (sSeq (sSet i e) g ρ μ) P := by
  unfold sSeq sSet
  rw [h]
  exact k
/-- an invariant by a name -/
theorem named (I : Nat → Env → Mu → Prop) : ∃ J : Nat → Env → Mu → Prop, J = I := ⟨I, rfl⟩
/-! loops -/
/-- what the body's end means for the loop -/
def onBody (nx : Env → Mu → Prop) (P : Flow → Mu → Prop) : Flow → Mu → Prop
  | .nx ρ, μ => nx ρ μ
  | .ct ρ, μ => nx ρ μ
  | .bk ρ, μ => P (.nx ρ) μ
  | .rt d, μ => P (.rt d) μ
theorem W_forL {chk : Mu → Bool} {T : Tg} {b : FS} {P : Flow → Mu → Prop} (I : Nat → Env → Mu → Prop) : ∀ (xs : List D) {ρ : Env} {μ : Mu},
    I 0 ρ μ → (∀ i ρ μ, I i ρ μ → chk μ = true) →
    (∀ i x ρ μ, xs[i]? = some x → I i ρ μ → ∃ ρ1, tgSet T x ρ = some ρ1 ∧ W (b ρ1 μ) (onBody (fun ρ μ => I (i + 1) ρ μ) P)) →
    (∀ ρ μ, I xs.length ρ μ → P (.nx ρ) μ) → W (forL chk T b xs ρ μ) P
  | [], ρ, μ, h0, hc, _, he => by
    unfold forL
    rw [if_pos (hc _ _ _ h0)]
    exact he _ _ h0
  | x :: xs, ρ, μ, h0, hc, hs, he => by
    unfold forL
    rw [if_pos (hc _ _ _ h0)]
    obtain ⟨ρ1, e, h⟩ := hs 0 x ρ μ rfl h0
    rw [e]
    simp only [W_bind]
    refine h.mono fun fl μ1 h => ?_
    have go : ∀ ρ2, I 1 ρ2 μ1 → W (forL chk T b xs ρ2 μ1) P := fun ρ2 h1 =>
      W_forL (fun i => I (i + 1)) xs h1 (fun i => hc (i + 1)) (fun i y ρ μ hy hi => hs (i + 1) y ρ μ (by simpa using hy) hi) he
    cases fl with
    | nx ρ2 => exact go ρ2 h
    | ct ρ2 => exact go ρ2 h
    | bk ρ2 => exact h
    | rt d => exact h
/-- a walk over what changes never -/
theorem W_forY {T : Tg} {b : FS} {P : Flow → Mu → Prop} (I : Nat → Env → Mu → Prop) (xs : List D) {ρ : Env} {μ : Mu} (h0 : I 0 ρ μ)
    (hs : ∀ i x ρ μ, xs[i]? = some x → I i ρ μ → ∃ ρ1, tgSet T x ρ = some ρ1 ∧ W (b ρ1 μ) (onBody (fun ρ μ => I (i + 1) ρ μ) P))
    (he : ∀ ρ μ, I xs.length ρ μ → P (.nx ρ) μ) : W (forL yes T b xs ρ μ) P := W_forL I xs h0 (fun _ _ _ _ => rfl) hs he
theorem W_compL {chk : Mu → Bool} {T : Tg} {t : FT} {e : FE} {own : List Nat} {P : List D → Mu → Prop} (I : Nat → List D → Mu → Prop) : ∀ (xs : List D) {ρ : Env} {μ : Mu},
    I 0 [] μ → (∀ i ds μ, I i ds μ → chk μ = true) →
    (∀ i x ds μ, xs[i]? = some x → I i ds μ → ∃ ρ1, tgSet T x (wipeD ρ own) = some ρ1 ∧ W (t ρ1 μ) fun b μ1 => if b = true then W (e ρ1 μ1) fun d μ2 => I (i + 1) (ds ++ [d]) μ2 else I (i + 1) ds μ1) →
    (∀ ds μ, I xs.length ds μ → P ds μ) → W (compL chk T t e own xs ρ μ) P
  | [], ρ, μ, h0, hc, _, he => by
    unfold compL
    rw [if_pos (hc _ _ _ h0)]
    exact he _ _ h0
  | x :: xs, ρ, μ, h0, hc, hs, he => by
    unfold compL
    rw [if_pos (hc _ _ _ h0)]
    obtain ⟨ρ1, e1, h⟩ := hs 0 x [] μ rfl h0
    rw [e1]
    simp only [W_bind, W_noEx]
    refine h.mono fun b μ1 h => ?_
    split at h
    · rename_i hb
      rw [if_pos hb]
      simp only [W_bind, W_noEx]
      refine h.mono fun d μ2 h => ?_
      exact W_compL (P := fun ds μ => P (d :: ds) μ) (fun i ds => I (i + 1) (d :: ds)) xs h (fun i ds => hc (i + 1) (d :: ds)) (fun i y ds μ hy hi => hs (i + 1) y (d :: ds) μ (by simpa using hy) hi) (fun ds μ h => he (d :: ds) μ h)
    · rename_i hb
      rw [if_neg hb]
      exact W_compL (fun i ds => I (i + 1) ds) xs h (fun i ds => hc (i + 1) ds) (fun i y ds μ hy hi => hs (i + 1) y ds μ (by simpa using hy) hi) he
/-- a list of what a pure expression gives of each item that passes a pure test -/
theorem W_compPure {T : Tg} {t : FT} {e : FE} {own : List Nat} {P : List D → Mu → Prop} (tb : D → Bool) (ed : D → D) (xs : List D) {ρ : Env} {μ : Mu}
    (hs : ∀ x ∈ xs, ∃ ρ1, tgSet T x (wipeD ρ own) = some ρ1 ∧ t ρ1 μ = .ok (tb x) μ ∧ (tb x = true → e ρ1 μ = .ok (ed x) μ)) (he : P ((xs.filter tb).map ed) μ) : W (compL yes T t e own xs ρ μ) P := by
  refine W_compL (fun i ds m => m = μ ∧ ds = ((xs.take i).filter tb).map ed) xs ⟨rfl, by simp⟩ (fun _ _ _ _ => rfl) (fun i x ds m hx h => ?_) (fun ds m h => ?_)
  · obtain ⟨rfl, rfl⟩ := h
    obtain ⟨ρ1, e1, e2, e3⟩ := hs x (List.mem_of_getElem? hx)
    have ht : xs.take (i + 1) = xs.take i ++ [x] := by rw [List.take_add_one, hx]; rfl
    refine ⟨ρ1, e1, W.of_eq e2 ?_⟩
    by_cases hb : tb x = true
    · rw [if_pos hb]
      exact W.of_eq (e3 hb) ⟨rfl, by rw [ht]; simp [List.filter_append, hb]⟩
    · rw [if_neg hb]
      exact ⟨rfl, by rw [ht]; simp [List.filter_append, hb]⟩
  · obtain ⟨rfl, rfl⟩ := h
    rw [List.take_length] at *
    exact he
theorem W_compMap {σ : Type} {T : Tg} {t : FT} {e : FE} {own : List Nat} {P : List D → Mu → Prop} (g : σ → D) (tb : σ → Bool) (ed : σ → D) : ∀ (ks : List σ) {ρ : Env} {μ : Mu},
    (∀ k ∈ ks, ∃ ρ1, tgSet T (g k) (wipeD ρ own) = some ρ1 ∧ t ρ1 μ = .ok (tb k) μ ∧ (tb k = true → e ρ1 μ = .ok (ed k) μ)) → P ((ks.filter tb).map ed) μ → W (compL yes T t e own (ks.map g) ρ μ) P
  | [], ρ, μ, _, h => h
  | k :: ks, ρ, μ, hs, h => by
    obtain ⟨ρ1, e1, e2, e3⟩ := hs k (List.mem_cons_self ..)
    rw [List.map_cons]
    unfold compL
    rw [if_pos (show yes μ = true from rfl), e1]
    simp only [W_bind, W_noEx]
    refine W.of_eq e2 ?_
    have hs' := fun q hq => hs q (List.mem_cons_of_mem _ hq)
    by_cases hb : tb k = true
    · rw [if_pos hb]
      simp only [W_bind, W_noEx]
      refine W.of_eq (e3 hb) (W_compMap (P := fun ds μ => P (ed k :: ds) μ) g tb ed ks hs' ?_)
      rw [List.filter_cons_of_pos hb] at h
      exact h
    · rw [if_neg hb]
      refine W_compMap g tb ed ks hs' ?_
      rw [List.filter_cons_of_neg hb] at h
      exact h
theorem W_compAll {σ : Type} {T : Tg} {e : FE} {own : List Nat} {P : List D → Mu → Prop} (g : σ → D) (ed : σ → D) (ks : List σ) {ρ : Env} {μ : Mu}
    (hs : ∀ k ∈ ks, ∃ ρ1, tgSet T (g k) (wipeD ρ own) = some ρ1 ∧ e ρ1 μ = .ok (ed k) μ) (h : P (ks.map ed) μ) : W (compL yes T tTrue e own (ks.map g) ρ μ) P :=
  W_compMap g (fun _ => true) ed ks (fun k hk => by
    obtain ⟨ρ1, e1, e2⟩ := hs k hk
    exact ⟨ρ1, e1, rfl, fun _ => e2⟩) (by rw [List.filter_eq_self.mpr fun _ _ => rfl]; exact h)
theorem W_for_nil {T : Tg} {b : FS} {ρ : Env} {μ : Mu} {P : Flow → Mu → Prop} : W (forL yes T b [] ρ μ) P ↔ P (.nx ρ) μ := by
  unfold forL
  rw [if_pos (show yes μ = true from rfl)]
  exact Iff.rfl
theorem W_for_cons {T : Tg} {b : FS} {x : D} {xs : List D} {ρ ρ1 : Env} {μ : Mu} {P : Flow → Mu → Prop} (e : tgSet T x ρ = some ρ1) (h : W (b ρ1 μ) (onBody (fun ρ2 μ1 => W (forL yes T b xs ρ2 μ1) P) P)) : W (forL yes T b (x :: xs) ρ μ) P := by
  unfold forL
  rw [if_pos (show yes μ = true from rfl), e]
  simp only [W_bind]
  refine h.mono fun fl μ1 h => ?_
  cases fl with
  | nx ρ2 => exact h
  | ct ρ2 => exact h
  | bk ρ2 => exact h
  | rt d => exact h
/-- a loop that looks for the first item with p, the store stays -/
theorem W_search {σ : Type} {T : Tg} {b : FS} {P : Flow → Mu → Prop} {μ : Mu} (g : σ → D) (p : σ → Bool) (I : Env → Prop) : ∀ (xs : List σ) {ρ : Env}, I ρ →
    (∀ x ∈ xs, ∀ ρ, I ρ → ∃ ρ1, tgSet T (g x) ρ = some ρ1 ∧ W (b ρ1 μ) fun fl ν => ν = μ ∧ ((p x = true ∧ fl = .rt (.bool true)) ∨ (p x = false ∧ ∃ ρ2, fl = .nx ρ2 ∧ I ρ2))) →
    (xs.any p = true → P (.rt (.bool true)) μ) → (xs.any p = false → ∀ ρ, I ρ → P (.nx ρ) μ) → W (forL yes T b (xs.map g) ρ μ) P
  | [], ρ, hi, _, _, h2 => by
    rw [List.map_nil]
    unfold forL
    rw [if_pos (show yes μ = true from rfl)]
    exact h2 rfl ρ hi
  | x :: xs, ρ, hi, hs, h1, h2 => by
    rw [List.map_cons]
    unfold forL
    rw [if_pos (show yes μ = true from rfl)]
    obtain ⟨ρ1, e, h⟩ := hs x (List.mem_cons_self ..) ρ hi
    rw [e]
    simp only [W_bind]
    refine h.mono fun fl ν hb => ?_
    obtain ⟨e2, h3⟩ := hb
    subst e2
    rcases h3 with ⟨hp, rfl⟩ | ⟨hp, ρ2, rfl, hi2⟩
    · exact h1 (by simp [hp])
    · exact W_search g p I xs hi2 (fun y hy => hs y (List.mem_cons_of_mem _ hy)) (fun h => h1 (by simp [hp, h])) (fun h => h2 (by simp [hp, h]))
/-! the shapes that a reading is opened by -/
theorem sameC_self (c : Cell) : sameC c c = true := sameC_refl c
theorem chkMu_of (n : Nat) : ∀ (μ μ' : Mu), (∀ (i : Nat) c', μ'[i]? = some (some c') → (∃ c, μ[i]? = some c) → okCell n c' = true ∨ μ[i]? = some (some c')) → chkMu n μ μ' = true
  | [], _, _ => by simp [chkMu]
  | _ :: _, [], _ => by simp [chkMu]
  | c :: cs, c' :: cs', h => by
    simp only [chkMu, Bool.and_eq_true]
    refine ⟨?_, chkMu_of n cs cs' fun i c2 h1 ⟨c3, h2⟩ => by simpa using h (i + 1) c2 (by simpa using h1) ⟨c3, by simpa using h2⟩⟩
    cases c' with
    | none => rfl
    | some d =>
      rcases h 0 d rfl ⟨c, rfl⟩ with h1 | h1
      · simp [okStep, h1]
      · simp at h1; subst h1; simp [okStep, sameC_refl]
theorem chkMu_self (μ ex : Mu) : chkMu μ.length μ (μ ++ ex) = true := chkMu_of _ _ _ fun i c' h ⟨c, h2⟩ => .inr (by
  rw [List.getElem?_append_left (List.getElem?_eq_some_iff.mp h2).1] at h; exact h)
/-- a def is opened: what its body does, cut back -/
def runK (μ : Mu) (P : D → Mu → Prop) : Flow → Mu → Prop
  | .nx _, μ' => W (retV μ μ' .none) P
  | .rt d, μ' => W (retV μ μ' d) P
  | .bk _, _ => False
  | .ct _, _ => False
theorem runK_nx {μ μ' : Mu} {ρ : Env} {P : D → Mu → Prop} : runK μ P (.nx ρ) μ' ↔ W (retV μ μ' .none) P := Iff.rfl
theorem runK_rt {μ μ' : Mu} {d : D} {P : D → Mu → Prop} : runK μ P (.rt d) μ' ↔ W (retV μ μ' d) P := Iff.rfl
theorem W_run {n : Nat} {f : FS} {ds : List D} {μ : Mu} {P : D → Mu → Prop} : W (runDef n f ds μ) P ↔ W (f (startD n ds) μ) (runK μ P) := by
  unfold runDef
  cases f (startD n ds) μ with
  | ok fl μ' => cases fl <;> exact Iff.rfl
  | ex x μ' =>
    simp only
    split <;> exact Iff.rfl
  | bad => exact Iff.rfl
theorem take_self {μ μ' : Mu} (h : μ'.length = μ.length) : μ'.take μ.length = μ' := by rw [← h, List.take_length]
/-- a def ends with a value that names no cell of its own; the store has kept its length -/
theorem W_ret {μ μ' : Mu} {d : D} {P : D → Mu → Prop} (hc : chkMu μ.length μ μ' = true) (hd : okLoc μ.length d = true) (h : P d (μ'.take μ.length)) : W (retV μ μ' d) P := by
  unfold retV
  rw [if_pos hc]
  cases d with
  | loc i =>
    have hi : i < μ.length := by simpa [okLoc] using hd
    simp only [hi, if_true]
    exact h
  | _ => simp only [hd, if_true]; exact h
/-- a def ends with a new cell -/
theorem W_retNew {μ : Mu} {c : Cell} {P : D → Mu → Prop} {i : Nat} {μ' : Mu} (hc : chkMu μ.length μ μ' = true) (hi : μ.length ≤ i) (hg : μ'[i]? = some (some c)) (ho : okCell μ.length c = true) (h : P (.loc μ.length) (μ'.take μ.length ++ [some c])) : W (retV μ μ' (.loc i)) P := by
  unfold retV
  rw [if_pos hc]
  simp only [Nat.not_lt.mpr hi, if_false, hg, ho, if_true]
  exact h
/-! a feed: a cell of two numbers -/
def FeedAt (n : Nat) (μ : Mu) : Prop := ∃ a b : Int, μ[n]? = some (some (.list [.int a, .int b]))
/-- only the feed has changed -/
def Dr (n : Nat) (μ μ' : Mu) : Prop := ∃ a b : Int, μ' = μ.set n (some (.list [.int a, .int b]))
theorem FeedAt.lt {n : Nat} {μ : Mu} (h : FeedAt n μ) : n < μ.length := by
  obtain ⟨a, b, h⟩ := h
  exact (List.getElem?_eq_some_iff.mp h).1
theorem Dr.refl {n : Nat} {μ : Mu} (h : FeedAt n μ) : Dr n μ μ := by
  obtain ⟨a, b, h⟩ := h
  refine ⟨a, b, ?_⟩
  apply List.ext_getElem?
  intro j
  by_cases e : n = j
  · subst e; rw [List.getElem?_set_self (List.getElem?_eq_some_iff.mp h).1, h]
  · rw [List.getElem?_set_ne e]
theorem Dr.trans {n : Nat} {μ μ1 μ2 : Mu} (x : Dr n μ μ1) (y : Dr n μ1 μ2) : Dr n μ μ2 := by
  obtain ⟨a, b, rfl⟩ := x
  obtain ⟨c, d, rfl⟩ := y
  exact ⟨c, d, by rw [List.set_set]⟩
theorem Dr.len {n : Nat} {μ μ' : Mu} (x : Dr n μ μ') : μ'.length = μ.length := by
  obtain ⟨a, b, rfl⟩ := x; simp
theorem Dr.at' {n : Nat} {μ μ' : Mu} (x : Dr n μ μ') (h : n < μ.length) : FeedAt n μ' := by
  obtain ⟨a, b, rfl⟩ := x
  exact ⟨a, b, by rw [List.getElem?_set_self h]⟩
theorem Dr.at {n : Nat} {μ μ' : Mu} (x : Dr n μ μ') (h : FeedAt n μ) : FeedAt n μ' := x.at' h.lt
theorem Dr.get {n m : Nat} {μ μ' : Mu} (x : Dr n μ μ') (h : n ≠ m) : μ'[m]? = μ[m]? := by
  obtain ⟨a, b, rfl⟩ := x
  rw [List.getElem?_set_ne h]
theorem Dr.chk {n : Nat} {μ μ' : Mu} (x : Dr n μ μ') (k : Nat) (ex : Mu) : chkMu k μ (μ' ++ ex) = true := by
  obtain ⟨a, b, rfl⟩ := x
  refine chkMu_of k _ _ fun i c' h ⟨c, h2⟩ => ?_
  have hi : i < (μ.set n (some (.list [.int a, .int b]))).length := by
    simpa using (List.getElem?_eq_some_iff.mp h2).1
  rw [List.getElem?_append_left hi] at h
  by_cases e : n = i
  · subst e
    rw [List.getElem?_set_self (by simpa using hi)] at h
    cases h
    left; simp [okCell, okLocs, okLoc]
  · rw [List.getElem?_set_ne e] at h
    exact .inr h
theorem Dr.take {n : Nat} {μ μ' : Mu} (x : Dr n μ μ') (ex : Mu) : (μ' ++ ex).take μ.length = μ' := by
  rw [← x.len, List.take_left]
/-! pure tests in one piece -/
section
variable {τ υ : Type} {μ : Mu} {b c : Bool}
theorem ok_bind {d : τ} {f : τ → Mu → Res υ} : (Res.ok d μ).bind f = f d μ := rfl
theorem ofO_some {d : τ} : ofO (some d) μ = .ok d μ := rfl
theorem and_ok : (if b = true then Res.ok c μ else Res.ok false μ) = Res.ok (b && c) μ := by cases b <;> rfl
theorem or_ok : (if b = true then Res.ok true μ else Res.ok c μ) = Res.ok (b || c) μ := by cases b <;> rfl
theorem and_okD : (if b = true then Res.ok (D.bool c) μ else Res.ok (D.bool false) μ) = Res.ok (D.bool (b && c)) μ := by cases b <;> rfl
theorem or_okD : (if b = true then Res.ok (D.bool true) μ else Res.ok (D.bool c) μ) = Res.ok (D.bool (b || c)) μ := by cases b <;> rfl
end
/-! the operations at known shapes -/
section
variable {μ : Mu} {i j : Int} {s t : Str} {xs ys : List D} {b c : Bool} {x : D}
theorem gAdd_ii : gAdd μ (.int i) (.int j) = some (.int (i + j)) := rfl
theorem gAdd_ss : gAdd μ (.str s) (.str t) = chk (decide (s.length + t.length ≤ sizeLine)) (.str (s ++ t)) := rfl
theorem gAdd_tt : gAdd μ (.tuple xs) (.tuple ys) = chk (decide (xs.length + ys.length ≤ sizeLine)) (.tuple (xs ++ ys)) := rfl
theorem gAdd_ll : gAdd μ (.list xs) (.list ys) = chk (decide (xs.length + ys.length ≤ sizeLine)) (.list (xs ++ ys)) := rfl
theorem catO_ll : catO μ (.list xs) (.list ys) = chk (decide (xs.length + ys.length ≤ sizeLine)) (.list (xs ++ ys)) := rfl
theorem catO_cl {n : Nat} (h : μ[n]? = some (some (.list xs))) : catO μ (.loc n) (.list ys) = chk (decide (xs.length + ys.length ≤ sizeLine)) (.list (xs ++ ys)) := by simp [catO, seqL, h]
theorem gAdd_cl {n : Nat} (h : μ[n]? = some (some (.list xs))) : gAdd μ (.loc n) (.list ys) = chk (decide (xs.length + ys.length ≤ sizeLine)) (.list (xs ++ ys)) := by simp [gAdd, seqL, h]
theorem gAppend_c {n : Nat} (h : μ[n]? = some (some (.list xs))) (hl : xs.length < sizeLine) : gAppend μ (.loc n) [x] = some (.none, μ.set n (some (.list (xs ++ [x])))) := by simp [gAppend, h, hl]
theorem isTy_list {n : Nat} (h : μ[n]? = some (some (.list xs))) : isTy μ "list" (.loc n) = true := by simp [isTy, seqL, h]
theorem catO_last : catO (μ ++ [some (.list xs)]) (.loc μ.length) (.list ys) = chk (decide (xs.length + ys.length ≤ sizeLine)) (.list (xs ++ ys)) := catO_cl (by simp)
theorem gAdd_last : gAdd (μ ++ [some (.list xs)]) (.loc μ.length) (.list ys) = chk (decide (xs.length + ys.length ≤ sizeLine)) (.list (xs ++ ys)) := gAdd_cl (by simp)
theorem gAppend_last (hl : xs.length < sizeLine) : gAppend (μ ++ [some (.list xs)]) (.loc μ.length) [x] = some (.none, μ ++ [some (.list (xs ++ [x]))]) := by
  rw [gAppend_c (xs := xs) (by simp) hl]
  simp
theorem isTy_last : isTy (μ ++ [some (.list xs)]) "list" (.loc μ.length) = true := isTy_list (xs := xs) (by simp)
theorem size_lt {n : Nat} (h : n ≤ 999) : (n < sizeLine) = True := eq_true (Nat.lt_of_le_of_lt h (by decide))
theorem mergeD_1 {k : Key} {d : D} : mergeD [(k, d)] = [(k, d)] := rfl
theorem mergeD_2 {k k' : Key} {d d' : D} (h : k ≠ k') : mergeD [(k, d), (k', d')] = [(k, d), (k', d')] := by
  show putD [(k, d)] k' d' = _
  unfold putD
  rw [if_neg (by simpa using h)]
  rfl
theorem gSub_ii : gSub μ (.int i) (.int j) = some (.int (i - j)) := rfl
theorem gMul_ii : gMul μ (.int i) (.int j) = chk (mulOk i j) (.int (i * j)) := rfl
theorem gMul_si : gMul μ (.str s) (.int j) = chk (decide (0 ≤ j) && decide (j ≤ 1000) && decide (s.length ≤ 1000)) (.str (strRep s j.toNat)) := rfl
theorem gMul_li : gMul μ (.list xs) (.int j) = chk (decide (-(2 ^ 63) ≤ j) && decide (j < 2 ^ 63) && decide (xs.length * j.toNat ≤ sizeLine)) (.list (List.replicate j.toNat xs).flatten) := rfl
theorem gDiv_ii : gDiv μ (.int i) (.int j) = chk (decide (0 < j) && decide (j < 1073741824)) (.int (i / j)) := rfl
theorem gMod_ii : gMod μ (.int i) (.int j) = chk (decide (0 < j)) (.int (i % j)) := rfl
theorem gPow_ii : gPow μ (.int i) (.int j) = chk (decide (0 ≤ j) && decide (j ≤ 1000000) && (decide (-18446744073709551616 < i) && decide (i < 18446744073709551616))) (.int (i ^ j.toNat)) := by
  have : decide (i.natAbs < 2 ^ 64) = (decide (-18446744073709551616 < i) && decide (i < 18446744073709551616)) := by
    rw [Bool.eq_iff_iff]; simp only [Bool.and_eq_true, decide_eq_true_eq]; omega
  rw [← this]; rfl
theorem gNeg_i : gNeg μ (.int i) = some (.int (-i)) := rfl
theorem gLt_ii : gLt μ (.int i) (.int j) = some (.bool (decide (i < j))) := rfl
theorem gLe_ii : gLe μ (.int i) (.int j) = some (.bool (decide (i ≤ j))) := rfl
theorem gGt_ii : gGt μ (.int i) (.int j) = some (.bool (decide (j < i))) := rfl
theorem gGe_ii : gGe μ (.int i) (.int j) = some (.bool (decide (j ≤ i))) := rfl
theorem gIs_n : gIs μ x .none = some (.bool (isNone x)) := rfl
theorem gIsNot_n : gIsNot μ x .none = some (.bool (!isNone x)) := rfl
theorem gIs_b : gIs μ (.bool b) (.bool c) = some (.bool (decide (b = c))) := rfl
theorem gIsNot_b : gIsNot μ (.bool b) (.bool c) = some (.bool (!decide (b = c))) := rfl
theorem gAbs_i : gAbs μ [.int i] = some (.int (if i < 0 then -i else i)) := rfl
theorem gMax2_ii : gMax2 μ [.int i, .int j] = some (.int (if j > i then j else i)) := rfl
theorem gMin2_ii : gMin2 μ [.int i, .int j] = some (.int (if j < i then j else i)) := rfl
theorem gLen_s : gLen μ [.str s] = chk (decide (s.length ≤ sizeLine)) (.int s.length) := rfl
theorem gLen_l : gLen μ [.list xs] = some (.int xs.length) := rfl
theorem gLen_t : gLen μ [.tuple xs] = some (.int xs.length) := rfl
theorem gLen_d {kvs : List (Key × D)} : gLen μ [.dict kvs] = some (.int kvs.length) := rfl
theorem gLen_r {ns : List Int} : gLen μ [.script ns] = some (.int ns.length) := by simp [gLen, dctV, seqR]
theorem gIx_l : gIx μ (.list xs) (.int i) = atI xs i := rfl
theorem gIx_t : gIx μ (.tuple xs) (.int i) = atI xs i := rfl
theorem gIx_s : gIx μ (.str s) (.int i) = if s.length ≤ sizeLine then (atI s.cps.toList i).map fun c => .str ⟨#[c]⟩ else none := rfl
theorem gIx_d {kvs : List (Key × D)} : gIx μ (.dict kvs) x = (keyOf x).bind (getK kvs) := rfl
theorem gIx_r {ns : List Int} : gIx μ (.script ns) (.int i) = atI (ns.map .int) i := rfl
theorem gIx_c {n : Nat} (h : μ[n]? = some (some (.list xs))) : gIx μ (.loc n) (.int i) = atI xs i := by simp [gIx, dctV, seqR, h]
theorem gIx_k {n : Nat} {kvs : List (Key × D)} (h : μ[n]? = some (some (.dict kvs))) : gIx μ (.loc n) x = (keyOf x).bind (getK kvs) := by simp [gIx, dctV, h]
theorem gList_d {kvs : List (Key × D)} : gList μ [.dict kvs] = some (.list (kvs.map fun kv => keyD kv.1)) := rfl
theorem gList_l : gList μ [.list xs] = some (.list xs) := rfl
theorem gList_t : gList μ [.tuple xs] = some (.list xs) := rfl
theorem gDict_d {kvs : List (Key × D)} : gDict μ [.dict kvs] = some (.dict kvs) := rfl
theorem gTuple_t : gTuple μ [.tuple xs] = some (.tuple xs) := rfl
theorem gTuple_l : gTuple μ [.list xs] = some (.tuple xs) := rfl
theorem gIn_l : gIn μ x (.list xs) = (chk (isData 60 (resD μ x) && areData 59 xs) (xs.any fun z => deq z (resD μ x))).map .bool := rfl
theorem gIn_t : gIn μ x (.tuple xs) = (chk (isData 60 (resD μ x) && areData 59 xs) (xs.any fun z => deq z (resD μ x))).map .bool := rfl
theorem gIn_d {kvs : List (Key × D)} : gIn μ x (.dict kvs) = ((keyOf x).map fun k => (getK kvs k).isSome).map .bool := rfl
theorem atI_nat {τ : Type} {zs : List τ} {k : Nat} : atI zs (k : Int) = zs[k]? := by
  unfold atI ixN
  simp only [Int.natCast_nonneg, if_true, Int.toNat_natCast]
  by_cases h : k < zs.length
  · rw [if_pos (by omega)]; rfl
  · rw [if_neg (by omega), List.getElem?_eq_none (by omega)]; rfl
theorem atI_0 {τ : Type} {z : τ} {zs : List τ} : atI (z :: zs) 0 = some z := atI_nat (k := 0)
theorem atI_1 {τ : Type} {z z1 : τ} {zs : List τ} : atI (z :: z1 :: zs) 1 = some z1 := atI_nat (k := 1)
theorem atI_2 {τ : Type} {z z1 z2 : τ} {zs : List τ} : atI (z :: z1 :: z2 :: zs) 2 = some z2 := atI_nat (k := 2)
theorem atI_3 {τ : Type} {z z1 z2 z3 : τ} {zs : List τ} : atI (z :: z1 :: z2 :: z3 :: zs) 3 = some z3 := atI_nat (k := 3)
theorem atI_mem {τ : Type} {zs : List τ} {i : Int} (h0 : 0 ≤ i) (h1 : i < zs.length) : ∃ z, atI zs i = some z ∧ zs[i.toNat]? = some z := by
  obtain ⟨k, rfl⟩ := Int.eq_ofNat_of_zero_le h0
  have hk : k < zs.length := by omega
  refine ⟨zs[k], ?_, ?_⟩
  · show atI zs (k : Int) = _
    rw [atI_nat, List.getElem?_eq_getElem hk]
  · simp [hk]
theorem W_congr {τ : Type} {r : Res τ} {P Q : τ → Mu → Prop} (h : ∀ d μ, P d μ ↔ Q d μ) : W r P ↔ W r Q := by
  cases r with
  | ok d μ => exact h d μ
  | ex x μ => exact Iff.rfl
  | bad => exact Iff.rfl
theorem W_sub {fo fi fe : FE} {ρ : Env} {P : Flow → Mu → Prop} : W (sSub fo fi fe ρ μ) P ↔ W (fe ρ μ) fun d μ1 => W (fo ρ μ1) fun o μ2 => W (fi ρ μ2) fun k μ3 => ∃ μ4, setV μ3 o k d = some μ4 ∧ P (.nx ρ) μ4 := by
  unfold sSub
  simp only [W_bind]
  refine W_congr fun d μ1 => W_congr fun o μ2 => W_congr fun k μ3 => ?_
  cases setV μ3 o k d <;> simp [W]
theorem W_must {c : Prop} {X : Prop} : ((c → X) ∧ (¬ c → False)) ↔ c ∧ X := ⟨fun ⟨h1, h2⟩ => have hc : c := Classical.byContradiction h2
  ⟨hc, h1 hc⟩, fun ⟨h1, h2⟩ => ⟨fun _ => h2, fun h => h h1⟩⟩
theorem mulOk_r (h1 : -18446744073709551616 < j) (h2 : j < 18446744073709551616) : (mulOk i j = true) = True := by
  simp only [mulOk, eq_iff_iff, iff_true, Bool.or_eq_true, Bool.and_eq_true, decide_eq_true_eq]
  exact .inr ⟨h1, h2⟩
theorem mulOk_l (h1 : -18446744073709551616 < i) (h2 : i < 18446744073709551616) : (mulOk i j = true) = True := by
  simp only [mulOk, eq_iff_iff, iff_true, Bool.or_eq_true, Bool.and_eq_true, decide_eq_true_eq]
  exact .inl ⟨h1, h2⟩
theorem size_lit {n : Nat} (h : n ≤ 1000) : (n ≤ sizeLine) = True := eq_true (Nat.le_trans h (by decide))
theorem some_ex {x : Mu} {P : Mu → Prop} : (∃ y, some x = some y ∧ P y) ↔ P x := ⟨fun ⟨y, e, h⟩ => by cases e; exact h, fun h => ⟨x, rfl, h⟩⟩
end
/-- on with k, if so -/
def thenB (z : D) (μ : Mu) (k : Mu → Res D) : Res D := match z with
  | .bool true => k μ
  | .bool false => .ok (.bool false) μ
  | _ => .bad
theorem thenB_b {b : Bool} {μ : Mu} {k : Mu → Res D} {P : D → Mu → Prop} : W (thenB (.bool b) μ k) P ↔ (b = true → W (k μ) P) ∧ (b = false → P (.bool false) μ) := by
  cases b <;> simp [thenB, W]
theorem thenB_ok {b c : Bool} {μ : Mu} : thenB (.bool b) μ (fun μ => .ok (.bool c) μ) = .ok (.bool (b && c)) μ := by
  cases b <;> rfl
theorem W_chain {g g' : G2} {fa fb fc : FE} {ρ : Env} {μ : Mu} {P : D → Mu → Prop} : W (eChain g g' fa fb fc ρ μ) P ↔ W (fa ρ μ) fun x μ1 => W (fb ρ μ1) fun y μ2 => W (ofO (g μ2 x y) μ2) fun z μ3 => W (thenB z μ3 fun μ3 => (fc ρ μ3).bind fun w μ4 => ofO (g' μ4 y w) μ4) P := by
  unfold eChain
  simp only [W_bind]
  exact Iff.rfl
mutual
theorem okLoc_up {n m : Nat} (hn : n ≤ m) : ∀ (d : D), okLoc n d = true → okLoc m d = true
  | .list xs, h => by simp only [okLoc] at h ⊢; exact okLocs_up hn xs h
  | .tuple xs, h => by simp only [okLoc] at h ⊢; exact okLocs_up hn xs h
  | .dict xs, h => by simp only [okLoc] at h ⊢; exact okLocK_up hn xs h
  | .obj _ xs, h => by simp only [okLoc] at h ⊢; exact okLocF_up hn xs h
  | .loc i, h => by simp only [okLoc, decide_eq_true_eq] at h ⊢; omega
  | .none, _ => rfl
  | .bool _, _ => rfl
  | .int _, _ => rfl
  | .str _, _ => rfl
  | .fn _, _ => rfl
  | .script _, _ => rfl
  | .ty _, _ => rfl
theorem okLocs_up {n m : Nat} (hn : n ≤ m) : ∀ (d : List D), okLocs n d = true → okLocs m d = true
  | [], _ => rfl
  | x :: xs, h => by simp only [okLocs, Bool.and_eq_true] at h ⊢; exact ⟨okLoc_up hn x h.1, okLocs_up hn xs h.2⟩
theorem okLocK_up {n m : Nat} (hn : n ≤ m) : ∀ (d : List (Key × D)), okLocK n d = true → okLocK m d = true
  | [], _ => rfl
  | (_, x) :: xs, h => by simp only [okLocK, Bool.and_eq_true] at h ⊢; exact ⟨okLoc_up hn x h.1, okLocK_up hn xs h.2⟩
theorem okLocF_up {n m : Nat} (hn : n ≤ m) : ∀ (d : List (Str × D)), okLocF n d = true → okLocF m d = true
  | [], _ => rfl
  | (_, x) :: xs, h => by simp only [okLocF, Bool.and_eq_true] at h ⊢; exact ⟨okLoc_up hn x h.1, okLocF_up hn xs h.2⟩
end
theorem okLocs_mem {n : Nat} : ∀ {xs : List D} {d : D}, okLocs n xs = true → d ∈ xs → okLoc n d = true
  | x :: xs, d, h, hd => by
    simp only [okLocs, Bool.and_eq_true] at h
    rcases List.mem_cons.mp hd with rfl | hd
    · exact h.1
    · exact okLocs_mem h.2 hd
theorem okLocs_of {n : Nat} : ∀ {xs : List D}, (∀ d ∈ xs, okLoc n d = true) → okLocs n xs = true
  | [], _ => rfl
  | x :: xs, h => by simp only [okLocs, Bool.and_eq_true]; exact ⟨h x (List.mem_cons_self ..), okLocs_of fun d hd => h d (List.mem_cons_of_mem _ hd)⟩
theorem okLocK_of {n : Nat} : ∀ {xs : List (Key × D)}, (∀ kv ∈ xs, okLoc n kv.2 = true) → okLocK n xs = true
  | [], _ => rfl
  | (_, x) :: xs, h => by simp only [okLocK, Bool.and_eq_true]; exact ⟨h _ (List.mem_cons_self ..), okLocK_of fun d hd => h d (List.mem_cons_of_mem _ hd)⟩
/-- a def that has drawn only ends with a value that names no cell -/
theorem W_retD {n : Nat} {μ μ' : Mu} {d : D} {P : D → Mu → Prop} (x : Dr n μ μ') (hd : okLoc 0 d = true) (h : P d μ') : W (retV μ μ' d) P := by
  have hc := x.chk μ.length []
  rw [List.append_nil] at hc
  refine W_ret hc (okLoc_up (Nat.zero_le _) d hd) ?_
  rw [take_self x.len]
  exact h
/-- a def that has changed nothing -/
theorem W_ret0 {μ : Mu} {d : D} {P : D → Mu → Prop} (hd : okLoc 0 d = true) (h : P d μ) : W (retV μ μ d) P := by
  have hc := chkMu_self μ []
  rw [List.append_nil] at hc
  refine W_ret hc (okLoc_up (Nat.zero_le _) d hd) ?_
  rw [List.take_length]
  exact h
/-- a def that has only made cells of its own -/
theorem W_retA {μ ex : Mu} {d : D} {P : D → Mu → Prop} (hd : okLoc 0 d = true) (h : P d μ) : W (retV μ (μ ++ ex) d) P := by
  refine W_ret (chkMu_self μ ex) (okLoc_up (Nat.zero_le _) d hd) ?_
  rw [List.take_left]
  exact h
end TL

set_option Elab.async false
set_option maxRecDepth 100000
set_option maxHeartbeats 1000000
set_option linter.all false
/-! The tree layer, part o: the things that the laws of this program draw: kinds, lines. -/
namespace TL
open PySem PySem.Spec PyProof.Rows L2

/-! ### stores that end with own cells -/
theorem FeedAt.app {n : Nat} {μ : Mu} (h : FeedAt n μ) (ex : Mu) : FeedAt n (μ ++ ex) := by
  obtain ⟨a, b, h⟩ := h
  exact ⟨a, b, by rw [List.getElem?_append_left (List.getElem?_eq_some_iff.mp h).1]; exact h⟩
theorem Dr.snoc {n : Nat} {μ ex μ' : Mu} (x : Dr n (μ ++ ex) μ') (h : n < μ.length) : ∃ ν, μ' = ν ++ ex ∧ Dr n μ ν := by
  obtain ⟨a, b, rfl⟩ := x
  exact ⟨μ.set n (some (.list [.int a, .int b])), by rw [List.set_append_left _ _ h], a, b, rfl⟩
theorem get_last {μ : Mu} {c : Option Cell} {m : Nat} (h : m = μ.length) : (μ ++ [c])[m]? = some c := by
  subst h; simp
theorem set_last {μ : Mu} {c d : Option Cell} {m : Nat} (h : m = μ.length) : (μ ++ [c]).set m d = μ ++ [d] := by
  subst h; simp
theorem setV_dict {μ : Mu} {kvs : List (Key × D)} {m : Nat} {i d : D} {k : Key} (hk : keyOf i = some k) (hl : kvs.length < sizeLine) (h : m = μ.length) : setV (μ ++ [some (.dict kvs)]) (.loc m) i d = some (μ ++ [some (.dict (putD kvs k d))]) := by
  simp only [setV, get_last h, if_pos hl, hk, Option.map_some, set_last h]
theorem rangeD_get {i : Int} {n k : Nat} {x : D} (h : (rangeD i n)[k]? = some x) : k < n ∧ x = .int (i + (k : Nat)) := by
  unfold rangeD at h
  rw [List.getElem?_map] at h
  obtain ⟨j, h1, rfl⟩ := Option.map_eq_some_iff.mp h
  obtain ⟨q1, q2⟩ := List.getElem?_eq_some_iff.mp h1
  simp at q1 q2
  subst q2
  exact ⟨q1, rfl⟩
theorem rangeD_len {i : Int} {n : Nat} : (rangeD i n).length = n := by simp [rangeD]
theorem rng_small {i : Int} {n : Nat} (h : n ≤ 1000) : rng i n = some ⟨rangeD i n, yes⟩ := if_pos (Nat.le_trans h (by decide))
theorem isIn62_small {i : Int} (h1 : -1000000000 ≤ i) (h2 : i ≤ 1000000000) : isIn62 i = true := by
  unfold isIn62
  simp only [Bool.and_eq_true, decide_eq_true_eq]
  omega
/-! ### names -/
/-- small letters, one to eight -/
structure NmOk (s : Str) : Prop where
  low : ∀ c ∈ s.cps.toList, 97 ≤ c ∧ c ≤ 122
  pos : 1 ≤ s.length
  len : s.length ≤ 8
theorem length_cps (s : Str) : s.length = s.cps.toList.length := by simp [Str.length]
theorem cps_append (s t : Str) : (s ++ t).cps.toList = s.cps.toList ++ t.cps.toList := Array.toList_append
theorem length_append (s t : Str) : (s ++ t).length = s.length + t.length := by simp [length_cps, cps_append]
theorem cps_rep (s : Str) (n : Nat) : (strRep s n).cps.toList = (List.replicate n s.cps.toList).flatten := rfl
theorem NmOk.show {s : Str} (h : NmOk s) : strShow s = true := by
  unfold strShow
  simp only [List.all_eq_true, decide_eq_true_eq]
  intro c hc
  have := (h.low c hc).2
  exact Nat.lt_of_le_of_lt this (by decide)
structure Kd where
  n : Str
  lo : Int
  hi : Int
structure Ln where
  t : Int
  k : Option Str
  p : Option Str
def optD : Option Str → D
  | none => .none
  | some s => .str s
def Kd.e (k : Kd) : Key × D := (.inr k.n, .tuple [.int k.lo, .int k.hi])
def kindsD (ks : List Kd) : D := .dict (ks.map Kd.e)
def Ln.d (l : Ln) : D := .tuple [.int l.t, optD l.k, optD l.p]
def linesD (ls : List Ln) : D := .list (ls.map Ln.d)
structure KdOk (k : Kd) : Prop where
  nm : NmOk k.n
  lo : 0 ≤ k.lo
  le : k.lo ≤ k.hi
  hi : k.hi ≤ 1000000
structure KsOk (ks : List Kd) : Prop where
  len : ks.length ≤ 8
  nd : (ks.map (·.n)).Nodup
  ok : ∀ k ∈ ks, KdOk k
theorem getK_cons {k k' : Key} {d : D} {kvs : List (Key × D)} : getK ((k', d) :: kvs) k = if k' = k then some d else getK kvs k := by
  unfold getK
  rw [List.find?_cons]
  by_cases h : k' = k <;> simp [h]
theorem getK_kinds : ∀ {ks : List Kd} {k : Kd}, (ks.map (·.n)).Nodup → k ∈ ks → getK (ks.map Kd.e) (.inr k.n) = some (.tuple [.int k.lo, .int k.hi])
  | q :: ks, k, hn, hk => by
    rw [List.map_cons, Kd.e, getK_cons]
    rw [List.map_cons, List.nodup_cons] at hn
    rcases List.mem_cons.mp hk with e | hk
    · subst e; rw [if_pos rfl]
    · have : ¬ (Sum.inr q.n : Key) = .inr k.n := fun h => hn.1 (List.mem_map.mpr ⟨k, hk, (Sum.inr.inj h).symm⟩)
      rw [if_neg this]
      exact getK_kinds hn.2 hk
/-- a kind written into the table -/
def putKd (ks : List Kd) (k : Kd) : List Kd := if (ks.any fun q => decide (q.n = k.n)) = true then ks.map (fun q => if q.n = k.n then k else q) else ks ++ [k]
theorem putD_kinds (ks : List Kd) (k : Kd) : putD (ks.map Kd.e) (.inr k.n) (.tuple [.int k.lo, .int k.hi]) = (putKd ks k).map Kd.e := by
  unfold putD putKd
  have e : ((ks.map Kd.e).any fun kv => decide (kv.1 = .inr k.n)) = ks.any fun q => decide (q.n = k.n) := by
    rw [List.any_map]
    congr 1
    funext q
    simp [Kd.e]
  rw [e]
  split
  · rw [List.map_map, List.map_map]
    apply List.map_congr_left
    intro q _
    simp only [Function.comp]
    by_cases h : q.n = k.n
    · rw [if_pos (by simp [Kd.e, h]), if_pos h]; simp [Kd.e, h]
    · rw [if_neg (by simpa [Kd.e] using h), if_neg h]
  · simp [Kd.e]
theorem putKd_ok {ks : List Kd} {k : Kd} {n : Nat} (h : (ks.map (·.n)).Nodup ∧ ks.length ≤ n ∧ ∀ q ∈ ks, KdOk q) (hk : KdOk k) : ((putKd ks k).map (·.n)).Nodup ∧ (putKd ks k).length ≤ n + 1 ∧ (∀ q ∈ putKd ks k, KdOk q) ∧ putKd ks k ≠ [] := by
  obtain ⟨h1, h2, h3⟩ := h
  unfold putKd
  split
  · rename_i ha
    refine ⟨?_, by rw [List.length_map]; omega, fun q hq => ?_, fun e => ?_⟩
    · rw [List.map_map]
      have : (ks.map ((fun q => q.n) ∘ fun q => if q.n = k.n then k else q)) = ks.map (·.n) := by
        apply List.map_congr_left
        intro q _
        simp only [Function.comp]
        split
        · rename_i e; exact e.symm
        · rfl
      rw [this]; exact h1
    · obtain ⟨p, hp, rfl⟩ := List.mem_map.mp hq
      split
      · exact hk
      · exact h3 p hp
    · rw [List.map_eq_nil_iff] at e
      subst e
      simp at ha
  · rename_i ha
    refine ⟨?_, by rw [List.length_append]; simp; omega, fun q hq => ?_, by simp⟩
    · rw [List.map_append, List.map_cons, List.map_nil]
      refine List.nodup_append.mpr ⟨h1, by simp, fun a ha' b hb => ?_⟩
      obtain rfl := List.mem_singleton.mp hb
      obtain ⟨q, hq, rfl⟩ := List.mem_map.mp ha'
      intro e
      exact ha (List.any_eq_true.mpr ⟨q, hq, by simp [e]⟩)
    · rcases List.mem_append.mp hq with hq | hq
      · exact h3 q hq
      · obtain rfl := List.mem_singleton.mp hq; exact hk
theorem okLoc_kinds {ks : List Kd} {n : Nat} : okLoc n (kindsD ks) = true := by
  unfold kindsD okLoc
  exact okLocK_of fun kv hkv => by
    obtain ⟨k, _, rfl⟩ := List.mem_map.mp hkv
    simp [Kd.e, okLoc, okLocs]
theorem okLoc_opt {o : Option Str} {n : Nat} : okLoc n (optD o) = true := by cases o <;> rfl
theorem okLoc_line {l : Ln} {n : Nat} : okLoc n l.d = true := by simp [Ln.d, okLoc, okLocs, okLoc_opt]
/-- a plate: digits and capitals, one to eight -/
structure PlOk (s : Str) : Prop where
  low : ∀ c ∈ s.cps.toList, (48 ≤ c ∧ c ≤ 57) ∨ (65 ≤ c ∧ c ≤ 90)
  pos : 1 ≤ s.length
  len : s.length ≤ 8
theorem PlOk.show {s : Str} (h : PlOk s) : strShow s = true := by
  unfold strShow
  simp only [List.all_eq_true, decide_eq_true_eq]
  intro c hc
  have : c ≤ 90 := by have := h.low c hc; omega
  exact Nat.lt_of_le_of_lt this (by decide)
structure LnOk (ks : List Kd) (l : Ln) : Prop where
  k : l.k = none ∨ ∃ q ∈ ks, l.k = some q.n
  p : ∀ s, l.p = some s → PlOk s
theorem walked_d {μ : Mu} {kvs : List (Key × D)} : walked μ (.dict kvs) = some ⟨kvs.map fun kv => keyD kv.1, yes⟩ := rfl
theorem walked_l {μ : Mu} {xs : List D} : walked μ (.list xs) = some ⟨xs, yes⟩ := rfl
theorem walked_t {μ : Mu} {xs : List D} : walked μ (.tuple xs) = some ⟨xs, yes⟩ := rfl
def namesD (ks : List Kd) : List D := ks.map fun k => .str k.n
theorem keys_kinds (ks : List Kd) : ((ks.map Kd.e).map fun kv => keyD kv.1) = namesD ks := by
  unfold namesD
  rw [List.map_map]
  rfl
theorem namesD_get {ks : List Kd} {i : Nat} {x : D} (h : (namesD ks)[i]? = some x) : ∃ k, ks[i]? = some k ∧ x = .str k.n := by
  unfold namesD at h
  rw [List.getElem?_map] at h
  obtain ⟨k, h1, rfl⟩ := Option.map_eq_some_iff.mp h
  exact ⟨k, h1, rfl⟩
theorem namesD_mem {ks : List Kd} {x : D} (h : x ∈ namesD ks) : ∃ k ∈ ks, x = .str k.n := by
  obtain ⟨k, h1, rfl⟩ := List.mem_map.mp h
  exact ⟨k, h1, rfl⟩
theorem namesD_len {ks : List Kd} : (namesD ks).length = ks.length := by simp [namesD]
theorem okLocs_names {ks : List Kd} {n : Nat} : okLocs n (namesD ks) = true := okLocs_of fun d hd => by
  obtain ⟨k, _, rfl⟩ := namesD_mem hd
  rfl
/-! ### what fits -/
def ableB (o : Option Str) (n : Str) : Bool := match o with
  | none => true
  | some s => n == s
def clashB (a b : Option Str) : Bool := match a, b with
  | some s, some t => !(s == t)
  | _, _ => false
def fitK (e x : Ln) (k : Kd) : Bool := ableB e.k k.n && ableB x.k k.n && (decide (k.lo ≤ x.t - e.t) && decide (x.t - e.t ≤ k.hi))
def fitB (ks : List Kd) (e x : Ln) : Bool := !clashB e.p x.p && ks.any (fitK e x)
theorem resD_opt {μ : Mu} {o : Option Str} : resD μ (optD o) = optD o := by cases o <;> rfl
theorem isData_opt {n : Nat} {o : Option Str} : isData n (optD o) = true := by cases o <;> simp [optD, isData]
theorem gIn_able {μ : Mu} {o : Option Str} {n : Str} : gIn μ (optD o) (.tuple [.none, .str n]) = some (.bool (ableB o n)) := by
  rw [gIn_t, resD_opt, isData_opt]
  cases o <;> simp [areData, isData, chk, deq, optD, ableB]
theorem gIn_ableL {μ : Mu} {o : Option Str} {n : Str} : gIn μ (optD o) (.list [.none, .str n]) = some (.bool (ableB o n)) := by
  rw [gIn_l, resD_opt, isData_opt]
  cases o <;> simp [areData, isData, chk, deq, optD, ableB]
theorem isNone_opt {o : Option Str} : isNone (optD o) = o.isNone := by cases o <;> rfl
theorem gNe_opt {μ : Mu} {a b : Option Str} : gNe μ (optD a) (optD b) = some (.bool (!deq (optD a) (optD b))) := by
  unfold gNe
  rw [resD_opt, resD_opt, isData_opt, isData_opt]
  rfl
theorem gEq_opt {μ : Mu} {a b : Option Str} : gEq μ (optD a) (optD b) = some (.bool (deq (optD a) (optD b))) := by
  unfold gEq
  rw [resD_opt, resD_opt, isData_opt, isData_opt]
  rfl
theorem clash_iff {a b : Option Str} : ((!a.isNone) = true ∧ (!b.isNone) = true ∧ (!deq (optD a) (optD b)) = true) ↔ clashB a b = true := by
  cases a <;> cases b <;> simp [clashB, optD, deq]
theorem fitK_iff {e x : Ln} {k : Kd} : fitK e x k = true ↔ ((ableB e.k k.n = true ∧ ableB x.k k.n = true) ∧ (k.lo ≤ x.t - e.t ∧ x.t - e.t ≤ k.hi)) := by
  simp only [fitK, Bool.and_eq_true, decide_eq_true_eq]
theorem gEq_ii {μ : Mu} {a b : Int} : gEq μ (.int a) (.int b) = some (.bool (a == b)) := by
  simp [gEq, resD, isData, chk, deq]
theorem gNe_ii {μ : Mu} {a b : Int} : gNe μ (.int a) (.int b) = some (.bool (!(a == b))) := by
  simp [gNe, resD, isData, chk, deq]
theorem gEq_bb {μ : Mu} {a b : Bool} : gEq μ (.bool a) (.bool b) = some (.bool (a == b)) := by
  simp [gEq, resD, isData, chk, deq]
theorem gNe_bb {μ : Mu} {a b : Bool} : gNe μ (.bool a) (.bool b) = some (.bool (!(a == b))) := by
  simp [gNe, resD, isData, chk, deq]
theorem gEq_ss {μ : Mu} {a b : Str} : gEq μ (.str a) (.str b) = some (.bool (a == b)) := by
  simp [gEq, resD, isData, chk, deq]
theorem gNe_ss {μ : Mu} {a b : Str} : gNe μ (.str a) (.str b) = some (.bool (!(a == b))) := by
  simp [gNe, resD, isData, chk, deq]
theorem gIsi_bool {μ : Mu} {b : Bool} : gIsi μ [.bool b, .ty "bool"] = some (.bool true) := by rfl
def plateOf : D → D
  | .tuple [_, _, p] => p
  | _ => .none
theorem any_take {τ : Type} {p : τ → Bool} {xs : List τ} {i : Nat} {x : τ} (h : xs[i]? = some x) : (xs.take (i + 1)).any p = ((xs.take i).any p || p x) := by
  rw [List.take_add_one, h]
  simp
theorem any_of {τ : Type} {p : τ → Bool} {xs : List τ} {i : Nat} {x : τ} (h : xs[i]? = some x) (hp : p x = true) : xs.any p = true := List.any_eq_true.mpr ⟨x, List.mem_of_getElem? h, hp⟩
/-! ### what repr shows -/
structure LnS (l : Ln) : Prop where
  t0 : 0 ≤ l.t
  t1 : l.t ≤ 2000000000
  k : ∀ s, l.k = some s → NmOk s
  p : ∀ s, l.p = some s → PlOk s
theorem LnOk.s {ks : List Kd} {l : Ln} (h : LnOk ks l) (hk : KsOk ks) (t0 : 0 ≤ l.t) (t1 : l.t ≤ 2000000000) : LnS l := ⟨t0, t1, fun s e => by
  rcases h.k with q | ⟨k, hk', q⟩
  · rw [e] at q; cases q
  · rw [e] at q; cases q; exact (hk.ok k hk').nm, h.p⟩
theorem intShow_small {i : Int} (h1 : -2000000000 ≤ i) (h2 : i ≤ 2000000000) : intShow i = true := by
  unfold intShow
  simp only [decide_eq_true_eq]
  omega
theorem show_optK {o : Option Str} (h : ∀ s, o = some s → strShow s = true) (n : Nat) : isShow n (optD o) = true := by
  cases o with
  | none => simp [optD, isShow]
  | some s => simpa [optD, isShow] using h s rfl
theorem wt_opt {o : Option Str} {b : Nat} (h : ∀ s, o = some s → s.length ≤ b) : wt (optD o) ≤ b := by
  cases o with
  | none => simp [optD, wt]
  | some s => simpa [optD, wt] using h s rfl
theorem LnS.show {l : Ln} (h : LnS l) (n : Nat) : isShow (n + 1) l.d = true := by
  have a := intShow_small (i := l.t) (by have := h.t0; omega) h.t1
  have b := show_optK (fun s e => (h.k s e).show) n
  have c := show_optK (fun s e => (h.p s e).show) n
  simp [Ln.d, isShow, areShow, a, b, c]
theorem LnS.wt {l : Ln} (h : LnS l) : TL.wt l.d ≤ 60 := by
  have b := wt_opt (b := 8) fun s e => (h.k s e).len
  have c := wt_opt (b := 8) fun s e => (h.p s e).len
  simp only [Ln.d, TL.wt, wts]
  omega
theorem show_kinds {ks : List Kd} (h : ∀ k ∈ ks, KdOk k) (n : Nat) : isShow (n + 2) (kindsD ks) = true := by
  unfold kindsD
  simp only [isShow]
  induction ks with
  | nil => simp [areShowK]
  | cons k ks ih =>
    have hk := h k (List.mem_cons_self ..)
    have a := hk.nm.show
    have b := intShow_small (i := k.lo) (by have := hk.lo; omega) (by have := hk.le; have := hk.hi; omega)
    have c := intShow_small (i := k.hi) (by have := hk.lo; have := hk.le; omega) (by have := hk.hi; omega)
    simp only [List.map_cons, Kd.e, areShowK, keyShow, isShow, areShow, a, b, c, Bool.true_and, Bool.and_true]
    exact ih fun q hq => h q (List.mem_cons_of_mem _ hq)
theorem wt_kinds {ks : List Kd} (h : ∀ k ∈ ks, KdOk k) : TL.wt (kindsD ks) ≤ 100 * ks.length := by
  unfold kindsD
  simp only [TL.wt]
  induction ks with
  | nil => simp [wtK]
  | cons k ks ih =>
    have hk := (h k (List.mem_cons_self ..)).nm.len
    have := ih fun q hq => h q (List.mem_cons_of_mem _ hq)
    simp only [List.map_cons, Kd.e, wtK, keyWt, TL.wt, wts, List.length_cons]
    omega
theorem repr_l {μ : Mu} {xs : List D} (h1 : isShow 60 (.list xs) = true) (h2 : TL.wt (.list xs) ≤ 2 ^ 20) : gRepr μ [.list xs] = some (.str (toPyR (.list xs)).shown) := by
  simp only [gRepr, h1, Bool.true_and, decide_eq_true h2, chk, if_true]
theorem str_beq (a : Str) : (a == a) = true := by simp
/-! ### floors, logs, open lines -/
def flD : Option Int → D
  | none => .str "closed"
  | some i => .int i
def optI : Option Int → D
  | none => .none
  | some i => .int i
structure Lg where
  en : List Ln
  ex : List Ln
  f0 : Option Int
  f1 : Option Int
def Lg.d (g : Lg) : D := .tuple [linesD g.en, linesD g.ex, flD g.f0, flD g.f1]
theorem gEq_is {μ : Mu} {i : Int} {s : Str} : gEq μ (.int i) (.str s) = some (.bool false) := by
  simp [gEq, resD, isData, chk, deq]
theorem gNe_is {μ : Mu} {i : Int} {s : Str} : gNe μ (.int i) (.str s) = some (.bool true) := by
  simp [gNe, resD, isData, chk, deq]
theorem gNotIn_able {μ : Mu} {o : Option Str} {n : Str} : gNotIn μ (optD o) (.tuple [.none, .str n]) = some (.bool (!ableB o n)) := by
  have h := gIn_able (μ := μ) (o := o) (n := n)
  unfold gIn at h
  unfold gNotIn
  cases e : inD μ (optD o) (.tuple [.none, .str n]) with
  | none => rw [e] at h; cases h
  | some b => rw [e] at h; cases h; rfl
def tExit (f : Int) (l : Ln) (k : Kd) : Int := if l.t + k.lo > f then l.t + k.lo else f
def bExit (l : Ln) (k : Kd) : Int := if 1000000000 < l.t + k.hi then 1000000000 else l.t + k.hi
def mExit (f : Option Int) (l : Ln) (k : Kd) : Option Int := match f with
  | none => none
  | some f => if (!ableB l.k k.n) = true then none else if tExit f l k ≤ bExit l k then some (tExit f l k) else none
def mEntry (f : Option Int) (l : Ln) (k : Kd) : Option Int := match f with
  | none => none
  | some f => if ((!ableB l.k k.n) = true ∨ l.t - k.lo < f) then none else some (l.t - k.lo)
theorem mExit_some {f : Int} {l : Ln} {k : Kd} : mExit (some f) l k = if (!ableB l.k k.n) = true then none else if tExit f l k ≤ bExit l k then some (tExit f l k) else none := rfl
theorem mEntry_some {f : Int} {l : Ln} {k : Kd} : mEntry (some f) l k = if ((!ableB l.k k.n) = true ∨ l.t - k.lo < f) then none else some (l.t - k.lo) := rfl
def openEn (ks : List Kd) (f : Option Int) (l : Ln) : Bool := ks.any fun k => (mExit f l k).isSome
def openEx (ks : List Kd) (f : Option Int) (l : Ln) : Bool := ks.any fun k => (mEntry f l k).isSome
theorem isNone_optI {o : Option Int} : isNone (optI o) = o.isNone := by cases o <;> rfl
theorem lines_at {ls : List Ln} {i : Nat} {l : Ln} (h : ls[i]? = some l) {μ : Mu} : gIx μ (linesD ls) (.int (i : Nat)) = some l.d := by
  unfold linesD
  rw [gIx_l, atI_nat, List.getElem?_map, h]
  rfl
theorem lines_len {ls : List Ln} {μ : Mu} : gLen μ [linesD ls] = some (.int ls.length) := by
  unfold linesD
  rw [gLen_l, List.length_map]
/-- the places at which p holds -/
def placesD (ls : List Ln) (p : Ln → Bool) : List D := ((List.range ls.length).filter fun i => match ls[i]? with | some l => p l | none => false).map fun i => .int ((0 : Int) + (i : Nat))
theorem bools_of : ∀ (xs : List D) (f : D → Bool), bools (xs.map fun x => .bool (f x)) = some (xs.map f)
  | [], _ => rfl
  | x :: xs, f => by
    simp only [List.map_cons, bools, bools_of xs f]
    rfl
theorem able_or {o : Option Str} {n : Str} : (o.isNone || deq (optD o) (optD (some n))) = ableB o n := by
  cases o with
  | none => rfl
  | some s =>
    show (false || s == n) = (n == s)
    rw [Bool.false_or, Bool.eq_iff_iff]
    simp only [beq_iff_eq]
    exact eq_comm
theorem gEq_optS {μ : Mu} {a : Option Str} {n : Str} : gEq μ (optD a) (.str n) = some (.bool (deq (optD a) (optD (some n)))) := gEq_opt (b := some n)
/-- the law's own look: a time at which the partner may come -/
def hitB (en : Bool) (f : Int) (l : Ln) (k : Kd) (t : Int) : Bool := ((decide (k.lo ≤ if en = true then t - l.t else l.t - t) && decide ((if en = true then t - l.t else l.t - t) ≤ k.hi)) && (decide (f ≤ t) && decide (t ≤ 1000000000))) && ableB l.k k.n
def hitK (en : Bool) (f : Int) (l : Ln) (k : Kd) : Bool := hitB en f l k f || (hitB en f l k (l.t + k.lo) || (hitB en f l k (l.t - k.lo) || false))
theorem any_times {en : Bool} {f : Int} {l : Ln} {k : Kd} : ([f, l.t + k.lo, l.t - k.lo].any (hitB en f l k)) = hitK en f l k := rfl
theorem hitK_en {f : Int} {l : Ln} {k : Kd} : hitK true f l k = (mExit (some f) l k).isSome := by
  rw [Bool.eq_iff_iff]
  cases ha : ableB l.k k.n
  · simp [hitK, hitB, mExit_some, ha]
  · rw [mExit_some, ha]
    simp only [hitK, hitB, ha, List.any_cons, List.any_nil, Bool.or_false, Bool.and_true, ↓reduceIte, Bool.or_eq_true, Bool.and_eq_true, decide_eq_true_eq, Bool.not_true, Bool.false_eq_true]
    by_cases hc : tExit f l k ≤ bExit l k
    · rw [if_pos hc]
      simp only [Option.isSome_some, iff_true]
      unfold tExit bExit at hc
      split at hc <;> split at hc <;> omega
    · rw [if_neg hc]
      simp only [Option.isSome_none, Bool.false_eq_true, iff_false]
      unfold tExit bExit at hc
      split at hc <;> split at hc <;> omega
theorem hitK_ex {f : Int} {l : Ln} {k : Kd} (hk : k.lo ≤ k.hi) (h0 : 0 ≤ k.lo) (ht : l.t ≤ 1000000000) : hitK false f l k = (mEntry (some f) l k).isSome := by
  rw [Bool.eq_iff_iff]
  cases ha : ableB l.k k.n
  · simp [hitK, hitB, mEntry_some, ha]
  · rw [mEntry_some, ha]
    simp only [hitK, hitB, ha, List.any_cons, List.any_nil, Bool.or_false, Bool.and_true, ↓reduceIte, Bool.or_eq_true, Bool.and_eq_true, decide_eq_true_eq, Bool.not_true, Bool.false_eq_true, false_or, ↓reduceIte]
    by_cases hc : l.t - k.lo < f
    · rw [if_pos hc]
      simp only [Option.isSome_none, Bool.false_eq_true, iff_false]
      omega
    · rw [if_neg hc]
      simp only [Option.isSome_some, iff_true]
      omega
def placesTo (ls : List Ln) (p : Ln → Bool) (n : Nat) : List D := ((List.range n).filter fun i => match ls[i]? with | some l => p l | none => false).map fun i => .int ((0 : Int) + (i : Nat))
theorem placesTo_all {ls : List Ln} {p : Ln → Bool} : placesTo ls p ls.length = placesD ls p := rfl
theorem placesTo_succ {ls : List Ln} {p : Ln → Bool} {i : Nat} {l : Ln} (h : ls[i]? = some l) : placesTo ls p (i + 1) = if p l = true then placesTo ls p i ++ [.int (i : Nat)] else placesTo ls p i := by
  unfold placesTo
  rw [List.range_succ, List.filter_append, List.map_append]
  by_cases hp : p l = true
  · rw [if_pos hp]
    simp [List.filter_cons, h, hp]
  · rw [if_neg hp]
    simp [List.filter_cons, h, hp]
theorem placesTo_len {ls : List Ln} {p : Ln → Bool} {n : Nat} : (placesTo ls p n).length ≤ n := by
  unfold placesTo
  rw [List.length_map]
  exact Nat.le_trans (List.length_filter_le _ _) (by simp)
theorem placesTo_ok {ls : List Ln} {p : Ln → Bool} {n m : Nat} : okLocs m (placesTo ls p n) = true := okLocs_of fun d hd => by
  unfold placesTo at hd
  obtain ⟨i, _, rfl⟩ := List.mem_map.mp hd
  rfl
theorem enumD_lines {ls : List Ln} {i : Nat} {x : D} (h : (enumD (ls.map Ln.d))[i]? = some x) : ∃ l, ls[i]? = some l ∧ x = .tuple [.int (i : Nat), l.d] := by
  obtain ⟨e, h1, rfl⟩ := enumD_get h
  rw [List.getElem?_map] at h1
  obtain ⟨l, h2, rfl⟩ := Option.map_eq_some_iff.mp h1
  exact ⟨l, h2, rfl⟩
theorem show_ints {xs : List D} {n : Nat} (h : ∀ d ∈ xs, ∃ i : Int, d = .int i ∧ -2000000000 ≤ i ∧ i ≤ 2000000000) : isShow (n + 1) (.list xs) = true := by
  simp only [isShow]
  induction xs with
  | nil => simp [areShow]
  | cons x xs ih =>
    obtain ⟨i, rfl, a, b⟩ := h x (List.mem_cons_self ..)
    simp only [areShow, isShow, intShow_small a b, Bool.true_and]
    exact ih fun d hd => h d (List.mem_cons_of_mem _ hd)
theorem wt_ints {xs : List D} (h : ∀ d ∈ xs, ∃ i : Int, d = .int i) : TL.wt (.list xs) ≤ 42 * xs.length := by
  simp only [TL.wt]
  induction xs with
  | nil => simp [wts]
  | cons x xs ih =>
    obtain ⟨i, rfl⟩ := h x (List.mem_cons_self ..)
    have := ih fun d hd => h d (List.mem_cons_of_mem _ hd)
    simp only [wts, TL.wt, List.length_cons]
    omega
theorem repr_c {μ : Mu} {n : Nat} {xs : List D} (h : μ[n]? = some (some (.list xs))) (h1 : isShow 60 (.list xs) = true) (h2 : TL.wt (.list xs) ≤ 2 ^ 20) : gRepr μ [.loc n] = some (.str (toPyR (.list xs)).shown) := by
  simp only [gRepr, h, h1, Bool.true_and, decide_eq_true h2, chk, if_true]
theorem show_lines {ls : List Ln} (h : ∀ l ∈ ls, LnS l) (n : Nat) : isShow (n + 2) (linesD ls) = true := by
  unfold linesD
  simp only [isShow]
  induction ls with
  | nil => simp [areShow]
  | cons l ls ih =>
    simp only [List.map_cons, areShow, (h l (List.mem_cons_self ..)).show n, Bool.true_and]
    exact ih fun q hq => h q (List.mem_cons_of_mem _ hq)
theorem wt_lines {ls : List Ln} (h : ∀ l ∈ ls, LnS l) : TL.wt (linesD ls) ≤ 61 * ls.length := by
  unfold linesD
  simp only [TL.wt]
  induction ls with
  | nil => simp [wts]
  | cons l ls ih =>
    have a := (h l (List.mem_cons_self ..)).wt
    have := ih fun q hq => h q (List.mem_cons_of_mem _ hq)
    simp only [List.map_cons, wts, List.length_cons]
    omega
theorem show_fl {f : Option Int} (h : ∀ i, f = some i → 0 ≤ i ∧ i ≤ 2000000000) (n : Nat) : isShow n (flD f) = true := by
  cases f with
  | none => simp only [flD, isShow]; decide +kernel
  | some i =>
    have := h i rfl
    simp only [flD, isShow]
    exact intShow_small (by omega) this.2
theorem wt_fl {f : Option Int} : TL.wt (flD f) ≤ 41 := by
  cases f with
  | none => simp only [flD, TL.wt]; decide +kernel
  | some i => simp [flD, TL.wt]
end TL

set_option Elab.async false
set_option maxRecDepth 100000
set_option maxHeartbeats 2000000
set_option linter.all false
namespace TL
open PySem PySem.Spec PyProof.Rows L2
/-! isinstance with two types -/
section
variable {X : Cx}
theorem call_isi2 {P2 : List V → Hp → VK → Prop} (hP : ∀ xs H Q, P2 xs H Q → ∃ (x : V) (tp : Addr) (cs : List V) (t : Value) (us : List Value) (b : Bool), xs = [x, .ref tp] ∧ SqT X.K H tp cs ∧ Paired ClsV cs us ∧ TyX X.K H x t ∧ PySem.W.kitAny X.K t us = some b ∧ Q (.bl b) H) : CallR X (.builtin "isinstance") P2 := by
  intro pins s σ H xs us Q I r h
  obtain ⟨x, tp, cs, t, ws, b, rfl, hT, k, ty, e, q⟩ := hP _ _ _ h
  obtain ⟨u1, u2, rfl, r1, r2⟩ := vals2 r
  cases (show u2 = Value.ref tp from r2)
  obtain ⟨P, Z, p, hx⟩ := kit_of I r1 ty
  rcases hT with (hT | ⟨ob, hT⟩) | ⟨o, its, n, hk, hc, hd, _, rv⟩
  · obtain ⟨_, its, rv, o, h1, h2, n, h3⟩ := (show ObjOk X.prog X.w H s.heap tp (.tup cs) from I.hok tp _ hT)
    have e3 := ClsV.all k rv
    subst e3
    obtain ⟨oc, od, dt, sl⟩ := o
    simp only at h2 h3
    subst h2 h3
    exact PySem.W.kia_tup Z I.kIn p h1 e hx fun tk => ⟨.bl b, H, I.tok tk, rfl, q⟩
  · obtain ⟨_, _, its, rv, o, h1, h2, n, h3⟩ := (show ObjOk X.prog X.w H s.heap tp (.frz ob (.tup cs)) from I.hok tp _ hT)
    have e3 := ClsV.all k rv
    subst e3
    obtain ⟨oc, od, dt, sl⟩ := o
    simp only at h2 h3
    subst h2 h3
    exact PySem.W.kia_tup Z I.kIn p h1 e hx fun tk => ⟨.bl b, H, I.tok tk, rfl, q⟩
  · have e3 := ClsV.all k rv
    subst e3
    obtain ⟨oc, od, dt, sl⟩ := o
    simp only at hc hd
    subst hc hd
    refine PySem.W.kia_tup Z I.kIn p (?_ : s.heap.get? tp = some ⟨.type "tuple", od, .seq (its.toList).toArray n, sl⟩) e hx fun tk => ⟨.bl b, H, I.tok tk, rfl, q⟩
    rw [Array.toArray_toList]
    exact I.kIn _ _ hk
def gIsi2 : GL := fun μ ds => match ds with
  | [x, .tuple [.ty S, .ty T]] => if S ∈ (["int", "bool", "str", "list", "tuple", "dict"] : List String) ∧ T ∈ (["int", "bool", "str", "list", "tuple", "dict"] : List String) then (typeNm μ x).map fun n => .bool (tyIs n S || tyIs n T) else none
  | _ => none
theorem kit_ok {T : String} (hT : T ∈ (["int", "bool", "str", "list", "tuple", "dict"] : List String)) : KitOk T := by
  simp only [List.mem_cons, List.not_mem_nil, or_false] at hT
  rcases hT with rfl | rfl | rfl | rfl | rfl | rfl
  · exact kit_int
  · exact kit_bool
  · exact kit_str
  · exact kit_list
  · exact kit_tuple
  · exact kit_dict
theorem kit_any2 {K : PySem.W.Frag} {t c d : Value} {a b : Bool} (h1 : PySem.W.kitOne K t c = some a) (h2 : PySem.W.kitOne K t d = some b) : PySem.W.kitAny K t [c, d] = some (a || b) := by
  unfold PySem.W.kitAny
  rw [h1]
  cases a
  · unfold PySem.W.kitAny
    rw [h2]
    cases b <;> rfl
  · rfl
theorem cal_isi2 : CalR X (.builtin "isinstance") gIsi2 := by
  rintro pins s σ H vs us Q I r ⟨μ, α, R, ds, d, S, h, e, q⟩
  unfold gIsi2 at e
  split at e
  · rename_i x A B
    split at e
    · rename_i hT
      obtain ⟨n, e1, rfl⟩ := Option.map_eq_some_iff.mp e
      obtain ⟨v, v', rfl, h1, h2⟩ := denL2 h
      cases h2 with
      | tuple hq hl hd =>
        cases hd with
        | cons ha hd =>
          cases hd with
          | cons hb hd =>
            cases hd
            cases ha
            cases hb
            obtain ⟨t1, t2⟩ := ty_den S h1 e1
            exact call_isi2 (P2 := fun xs H Q => ∃ (x : V) (tp : Addr) (cs : List V) (t : Value) (us : List Value) (b : Bool), xs = [x, .ref tp] ∧ SqT X.K H tp cs ∧ Paired ClsV cs us ∧ TyX X.K H x t ∧ PySem.W.kitAny X.K t us = some b ∧ Q (.bl b) H) (fun _ _ _ h => h) pins s σ H _ us Q I r
              ⟨v, _, _, .type n, [.type A, .type B], _, rfl, S.sqT hq, .cons (.ty A) (.cons (.ty B) .nil), t1, kit_any2 (kit_ty (kit_ok hT.1 n t2)) (kit_ty (kit_ok hT.2 n t2)), q _ R H S .refl (.bool _)⟩
    · cases e
  · cases e
end
/-! sep.join(a list of texts) -/
section
variable {X : Cx}
def strsD : List D → Option (List Str)
  | [] => some []
  | .str s :: xs => (strsD xs).map (s :: ·)
  | _ => none
theorem strsD_den {K : PySem.W.Frag} {mg : Str → Option Value} {R : Hp} {α : List Addr} : ∀ {vs : List V} {xs : List D} {ys : List Str}, DenL K mg R α vs xs → strsD xs = some ys → vs = ys.map V.str
  | _, _, _, .nil, e => by cases e; rfl
  | _, _, _, .cons (d := d) h t, e => by
    cases d with
    | str s =>
      simp only [strsD] at e
      obtain ⟨zs, e1, rfl⟩ := Option.map_eq_some_iff.mp e
      cases h
      rw [List.map_cons, strsD_den t e1]
    | _ => simp [strsD] at e
def gJoin : GM := fun μ x ds => match x, ds with
  | .str a, [y] => (seqL μ y).bind fun xs => (strsD xs).bind fun ys => if (ys.map (·.length)).sum + ys.length * a.length ≤ 16777216 then some (.str (Txt.join a ys), μ) else none
  | _, _ => none
theorem mg_join : MtG X "str.join" gJoin := by
  rintro pins s σ H x vs v us Q I rx r ⟨μ, α, R, dx, ds, d, μ', S, h1, h2, e, q⟩
  unfold gJoin at e
  split at e
  · rename_i a y
    obtain ⟨xs, e1, e⟩ := Option.bind_eq_some_iff.mp e
    obtain ⟨ys, e2, e⟩ := Option.bind_eq_some_iff.mp e
    split at e
    · rename_i hz
      cases e
      cases h1
      obtain ⟨w, rfl, k2⟩ := denL1 h2
      obtain ⟨l, ws, rfl, hq, hl, dl⟩ := S.seqL k2 e1
      obtain rfl := strsD_den dl e2
      exact mt_join pins s σ H _ _ v us Q I rx r ⟨a, l, ys, rfl, rfl, .inl (SqL.of hq), hz, q _ R H S .refl (.str _)⟩
    · cases e
  · cases e
end
end TL

set_option Elab.async false
set_option maxRecDepth 100000
set_option maxHeartbeats 2000000
set_option linter.all false
namespace TL
open PySem PySem.Spec PyProof.Rows L2
/-! ### a, b, c = x, y, z -/
section
variable {X : Cx} {E : XK}
theorem ds_par3 {i j l : Nat} {x y z : Str} {a b c : Expr} {ta : FA} {px py pz pt pos : Pos} {kt k2 pt2} (hc : X.calm = true) (hN : X.N.Nodup) (hi : X.N[i]? = some x) (hj : X.N[j]? = some y) (hl : X.N[l]? = some z) (hij : i ≠ j) (hil : i ≠ l) (hjl : j ≠ l)
    (hx : X.env.scope.names.lookup x = some .local) (hy : X.env.scope.names.lookup y = some .local) (hz : X.env.scope.names.lookup z = some .local) (ha : DA X E [a, b, c] ta)
    (hw : swappedStores [.Tuple [.Name x px, .Name y py, .Name z pz] kt pt] (.Tuple [a, b, c] k2 pt2) X.env = pure (some [x, y, z]) := by rfl)
    (hs : swapsWithSole [.Tuple [.Name x px, .Name y py, .Name z pz] kt pt] (.Tuple [a, b, c] k2 pt2) pos.line X.env = pure false := by rfl) :
    DS X E (.Assign [.Tuple [.Name x px, .Name y py, .Name z pz] kt pt] (.Tuple [a, b, c] k2 pt2) pos) (sPar3 i j l ta) :=
  wS (ps_par3 hc hN hi hj hl hij hil hjl hx hy hz ha hw hs) fun Dn σ H ⟨ρ, μ, α, R, S, V, h⟩ => ⟨ρ, μ, α, R, S, V, h.bind fun ds μ1 vs α1 R1 H1 S1 A1 q1 q => by
    cases q1 with
    | nil => exact False.elim q
    | cons p1 t => cases t with
      | nil => exact False.elim q
      | cons p2 t => cases t with
        | nil => exact False.elim q
        | cons p3 t => cases t with
          | nil => exact ⟨_, _, _, rfl, q _ α1 R1 H1 S1 .refl ((((V.adv A1).set i p1).set j p2).set l p3)⟩
          | cons _ _ => exact False.elim q⟩
/-! ### xs[::-1] -/
theorem DenL.reverse {K : PySem.W.Frag} {mg : Str → Option Value} {R : Hp} {α : List Addr} : ∀ {vs : List V} {xs : List D}, DenL K mg R α vs xs → DenL K mg R α vs.reverse xs.reverse
  | _, _, .nil => .nil
  | _, _, .cons h t => by
    rw [List.reverse_cons, List.reverse_cons]
    exact (DenL.reverse t).append (.cons h .nil)
def nRev (f : FE) : FN := fun ρ μ => (f ρ μ).bind fun x μ1 => ofO ((seqL μ1 x).map fun xs => Cell.list xs.reverse) μ1
theorem dn_rev {e : Expr} {f : FE} {k : Nat} {p1 p2 p3 pos : Pos} (he : DE X E e f) : DN X E (.Subscript e (.Slice none none (some (.UnaryOp .USub (.Constant (.int 1) k p1) p2)) p3) pos) (nRev f) :=
  wE (pe_revL he) fun σ H Q ⟨ρ, μ, α, R, S, V, h⟩ => ⟨ρ, μ, α, R, S, V, h.bind fun x μ1 v α1 R1 H1 S1 A1 d1 h1 => by
    obtain ⟨d, e1, e2⟩ := h1.ofO
    obtain ⟨xs, e3, rfl⟩ := Option.map_eq_some_iff.mp e1
    obtain ⟨a, ws, rfl, hq, hl, dl⟩ := S1.seqL d1 e3
    exact ⟨a, ws, rfl, SqL.of hq, fun p hp => e2 (.non, .lst ws.reverse) α1 R1 H1 S1 .refl ⟨_, rfl, by rw [List.length_reverse]; exact hl, dl.reverse⟩ p hp⟩⟩
end
/-! ### orders -/
theorem perm_sorted_eq {τ : Type} (le : τ → τ → Prop) (anti : ∀ a b, le a b → le b a → a = b) : ∀ {xs ys : List τ}, xs.Perm ys → xs.Pairwise le → ys.Pairwise le → xs = ys
  | [], ys, h, _, _ => (List.nil_perm.mp h).symm
  | x :: xs, [], h, _, _ => absurd (List.perm_nil.mp h) (by simp)
  | x :: xs, y :: ys, h, h1, h2 => by
    have e : x = y := by
      have m1 : x ∈ y :: ys := h.mem_iff.mp (List.mem_cons_self ..)
      have m2 : y ∈ x :: xs := h.mem_iff.mpr (List.mem_cons_self ..)
      rcases List.mem_cons.mp m1 with e | m1
      · exact e
      · rcases List.mem_cons.mp m2 with e | m2
        · exact e.symm
        · exact anti _ _ ((List.pairwise_cons.mp h1).1 y m2) ((List.pairwise_cons.mp h2).1 x m1)
    subst e
    rw [perm_sorted_eq le anti (List.Perm.cons_inv h) (List.pairwise_cons.mp h1).2 (List.pairwise_cons.mp h2).2]
def insB {τ : Type} (lt : τ → τ → Bool) (x : τ) : List τ → List τ
  | [] => [x]
  | y :: ys => if lt y x = true then y :: insB lt x ys else x :: y :: ys
def sortB {τ : Type} (lt : τ → τ → Bool) : List τ → List τ
  | [] => []
  | x :: xs => insB lt x (sortB lt xs)
theorem insB_perm {τ : Type} {lt : τ → τ → Bool} {x : τ} : ∀ ys : List τ, (insB lt x ys).Perm (x :: ys)
  | [] => .refl _
  | y :: ys => by
    unfold insB
    split
    · exact ((insB_perm ys).cons y).trans (List.Perm.swap x y ys)
    · exact .refl _
theorem sortB_perm {τ : Type} {lt : τ → τ → Bool} : ∀ xs : List τ, (sortB lt xs).Perm xs
  | [] => .refl _
  | x :: xs => (insB_perm _).trans ((sortB_perm xs).cons x)
/-- a strict order: total, its negation goes on -/
structure Ord2 {τ : Type} (lt : τ → τ → Bool) : Prop where
  tot : ∀ a b, lt a b = true → lt b a = false
  tr : ∀ a b c, lt b a = false → lt c b = false → lt c a = false
  anti : ∀ a b, lt a b = false → lt b a = false → a = b
theorem insB_sorted {τ : Type} {lt : τ → τ → Bool} (o : Ord2 lt) {x : τ} : ∀ {ys : List τ}, ys.Pairwise (fun a b => lt b a = false) → (insB lt x ys).Pairwise fun a b => lt b a = false
  | [], _ => by simp [insB]
  | y :: ys, h => by
    obtain ⟨h1, h2⟩ := List.pairwise_cons.mp h
    unfold insB
    split
    · rename_i hlt
      refine List.pairwise_cons.mpr ⟨fun z hz => ?_, insB_sorted o h2⟩
      rcases List.mem_cons.mp ((insB_perm ys).mem_iff.mp hz) with rfl | hz
      · exact o.tot _ _ hlt
      · exact h1 z hz
    · rename_i hlt
      have hf : lt y x = false := by simpa using hlt
      refine List.pairwise_cons.mpr ⟨fun z hz => ?_, h⟩
      rcases List.mem_cons.mp hz with rfl | hz
      · exact hf
      · exact o.tr _ _ _ hf (h1 z hz)
theorem sortB_sorted {τ : Type} {lt : τ → τ → Bool} (o : Ord2 lt) : ∀ xs : List τ, (sortB lt xs).Pairwise fun a b => lt b a = false
  | [] => List.Pairwise.nil
  | x :: xs => insB_sorted o (sortB_sorted o xs)
theorem sortB_eq {τ : Type} {lt : τ → τ → Bool} (o : Ord2 lt) {xs ys : List τ} (h : ys.Perm xs) (hs : ys.Pairwise fun a b => lt b a = false) : ys = sortB lt xs :=
  perm_sorted_eq (fun a b => lt b a = false) (fun a b h1 h2 => o.anti _ _ h2 h1) (h.trans (sortB_perm xs).symm) hs (sortB_sorted o xs)
def ltZ (a b : Int) : Bool := decide (a < b)
theorem ordZ : Ord2 ltZ := ⟨fun a b h => by simp [ltZ] at *; omega, fun a b c h1 h2 => by simp [ltZ] at *; omega, fun a b h1 h2 => by simp [ltZ] at *; omega⟩
theorem ltCps_tot : ∀ a b : List Nat, ltCps a b = true → ltCps b a = false
  | [], [], h => by simp [ltCps] at h
  | [], _ :: _, _ => by simp [ltCps]
  | _ :: _, [], h => by simp [ltCps] at h
  | a :: r, b :: t, h => by
    simp only [ltCps, Bool.or_eq_true, Bool.and_eq_true, decide_eq_true_eq, beq_iff_eq, Bool.or_eq_false_iff, Bool.and_eq_false_imp, decide_eq_false_iff_not] at h ⊢
    rcases h with h | ⟨rfl, h⟩
    · exact ⟨by omega, fun e => by omega⟩
    · exact ⟨by omega, fun _ => ltCps_tot r t h⟩
theorem ltCps_tr : ∀ a b c : List Nat, ltCps b a = false → ltCps c b = false → ltCps c a = false
  | a, b, [], h1, h2 => by
    cases b with
    | nil => exact h1
    | cons _ _ => simp [ltCps] at h2
  | [], b, _ :: _, h1, h2 => by simp [ltCps]
  | _ :: _, [], _ :: _, h1, h2 => by simp [ltCps] at h1
  | a :: r, b :: t, c :: u, h1, h2 => by
    simp only [ltCps, Bool.or_eq_false_iff, Bool.and_eq_false_imp, decide_eq_false_iff_not, beq_iff_eq] at h1 h2 ⊢
    refine ⟨by omega, fun e => ?_⟩
    subst e
    have hb : b = c := by omega
    subst hb
    exact ltCps_tr r t u (h1.2 rfl) (h2.2 rfl)
theorem ltCps_anti : ∀ a b : List Nat, ltCps a b = false → ltCps b a = false → a = b
  | [], [], _, _ => rfl
  | [], _ :: _, h, _ => by simp [ltCps] at h
  | _ :: _, [], _, h => by simp [ltCps] at h
  | a :: r, b :: t, h1, h2 => by
    simp only [ltCps, Bool.or_eq_false_iff, Bool.and_eq_false_imp, decide_eq_false_iff_not, beq_iff_eq] at h1 h2
    have : a = b := by omega
    subst this
    rw [ltCps_anti r t (h1.2 rfl) (h2.2 rfl)]
def ltS (a b : Str) : Bool := ltCps a.cps.toList b.cps.toList
theorem str_ext {a b : Str} (h : a.cps.toList = b.cps.toList) : a = b := by
  obtain ⟨a⟩ := a
  obtain ⟨b⟩ := b
  have : a = b := Array.toList_inj.mp h
  rw [this]
theorem ordS : Ord2 ltS := ⟨fun a b => ltCps_tot _ _, fun a b c => ltCps_tr _ _ _, fun a b h1 h2 => str_ext (ltCps_anti _ _ h1 h2)⟩
theorem risingS_pw : ∀ {p : Str} {ss : List Str}, risingS p ss = true → (∀ z ∈ ss, ltS z p = false) ∧ ss.Pairwise fun a b => ltS b a = false
  | _, [], _ => ⟨fun _ h => (nomatch h), List.Pairwise.nil⟩
  | p, x :: r, h => by
    simp only [risingS, Bool.and_eq_true, Bool.not_eq_true'] at h
    obtain ⟨h1, h2⟩ := risingS_pw h.2
    refine ⟨fun z hz => ?_, List.pairwise_cons.mpr ⟨h1, h2⟩⟩
    rcases List.mem_cons.mp hz with rfl | hz
    · exact h.1
    · exact ordS.tr _ _ _ h.1 (h1 z hz)
theorem sortedS_pw {ss : List Str} (h : sortedS ss = true) : ss.Pairwise fun a b => ltS b a = false := by
  cases ss with
  | nil => exact List.Pairwise.nil
  | cons x r => exact List.pairwise_cons.mpr (risingS_pw h)
/-! ### sorted(x): a list of ints, a list of texts, a dict with texts as keys -/
def intsD : List D → Option (List Int)
  | [] => some []
  | .int s :: xs => (intsD xs).map (s :: ·)
  | _ => none
theorem intsD_den {K : PySem.W.Frag} {mg : Str → Option Value} {R : Hp} {α : List Addr} : ∀ {vs : List V} {xs : List D} {ys : List Int}, DenL K mg R α vs xs → intsD xs = some ys → vs = ys.map V.int
  | _, _, _, .nil, e => by cases e; rfl
  | _, _, _, .cons (d := d) h t, e => by
    cases d with
    | int s =>
      simp only [intsD] at e
      obtain ⟨zs, e1, rfl⟩ := Option.map_eq_some_iff.mp e
      cases h
      rw [List.map_cons, intsD_den t e1]
    | _ => simp [intsD] at e
def keysS : List (Key × D) → Option (List Str)
  | [] => some []
  | (.inr s, _) :: xs => (keysS xs).map (s :: ·)
  | _ => none
theorem keysS_den {K : PySem.W.Frag} {mg : Str → Option Value} {R : Hp} {α : List Addr} : ∀ {vs : List (Key × V)} {xs : List (Key × D)} {ys : List Str}, DenK K mg R α vs xs → keysS xs = some ys → vs.map (·.1) = ys.map Sum.inr
  | _, _, _, .nil, e => by cases e; rfl
  | _, _, _, .cons (k := k) h t, e => by
    cases k with
    | inr s =>
      simp only [keysS] at e
      obtain ⟨zs, e1, rfl⟩ := Option.map_eq_some_iff.mp e
      rw [List.map_cons, List.map_cons, keysS_den t e1]
    | inl _ => simp [keysS] at e
theorem den_ints {K : PySem.W.Frag} {mg : Str → Option Value} {R : Hp} {α : List Addr} : ∀ ys : List Int, DenL K mg R α (ys.map V.int) (ys.map D.int)
  | [] => .nil
  | y :: ys => .cons (.int y) (den_ints ys)
theorem den_strs {K : PySem.W.Frag} {mg : Str → Option Value} {R : Hp} {α : List Addr} : ∀ ys : List Str, DenL K mg R α (ys.map V.str) (ys.map D.str)
  | [] => .nil
  | y :: ys => .cons (.str y) (den_strs ys)
def gSorted : GN := fun μ ds => match ds with
  | [x] => match dctV μ x with
    | some kvs => (keysS kvs).bind fun ks => if ks.length < 64 then some (.list ((sortB ltS ks).map D.str)) else none
    | none => (seqL μ x).bind fun xs => match intsD xs with
      | some ns => if ns.length < 64 then some (.list ((sortB ltZ ns).map D.int)) else none
      | none => (strsD xs).bind fun ks => if ks.length < 64 then some (.list ((sortB ltS ks).map D.str)) else none
  | _ => none
section
variable {X : Cx}
theorem cal_sorted (hc : X.calm = true) : CalN X (.builtin "sorted") gSorted := by
  rintro pins s σ H vs us Q I r ⟨μ, α, R, ds, c, S, h, e, q⟩
  have small : ∀ {n : Nat}, n < 64 → n ≤ sizeLine := fun h => Nat.le_trans (Nat.le_of_lt h) (by decide)
  unfold gSorted at e
  split at e
  · obtain ⟨v, rfl, h1⟩ := denL1 h
    split at e
    · rename_i kvs e1
      obtain ⟨ks, e2, e⟩ := Option.bind_eq_some_iff.mp e
      split at e
      · rename_i h64
        cases e
        obtain ⟨a, kv, rfl, hd, hl, dk⟩ := S.dctV h1 e1
        refine call_sortedD hc pins s σ H _ us Q I r ⟨a, kv, ks, rfl, hd, keysS_den dk e2, h64, fun ys p hp hs hn => ?_⟩
        obtain rfl := sortB_eq ordS hp (sortedS_pw hs)
        exact q (.non, .lst _) ⟨_, rfl, by rw [List.length_map, hp.length_eq]; exact small h64, den_strs _⟩ p hn
      · cases e
    · obtain ⟨xs, e1, e⟩ := Option.bind_eq_some_iff.mp e
      obtain ⟨a, ws, rfl, hq, hl, dl⟩ := S.seqL h1 e1
      split at e
      · rename_i ns e2
        split at e
        · rename_i h64
          cases e
          obtain rfl := intsD_den dl e2
          refine cr_sorted pins s σ H _ us Q I r ⟨a, ns, rfl, SqL.of hq, h64, fun ys p hp hs hn => ?_⟩
          obtain rfl := sortB_eq ordZ hp (hs.imp fun h => by simp [ltZ]; omega)
          exact q (.non, .lst _) ⟨_, rfl, by rw [List.length_map, hp.length_eq]; exact small h64, den_ints _⟩ p hn
        · cases e
      · obtain ⟨ks, e2, e⟩ := Option.bind_eq_some_iff.mp e
        split at e
        · rename_i h64
          cases e
          obtain rfl := strsD_den dl e2
          refine cr_sortedS pins s σ H _ us Q I r ⟨a, ks, rfl, SqL.of hq, h64, fun ys p hp hs hn => ?_⟩
          obtain rfl := sortB_eq ordS hp (sortedS_pw hs)
          exact q (.non, .lst _) ⟨_, rfl, by rw [List.length_map, hp.length_eq]; exact small h64, den_strs _⟩ p hn
        · cases e
  · cases e
end
end TL

set_option Elab.async false
set_option maxRecDepth 100000
set_option maxHeartbeats 4000000
set_option linter.all false
namespace GP
open PySem PySem.Spec PyProof.Rows L2 TL
def top (i : Nat) : Stmt := PySem.Challenge.pw_gatepairs_k45_what_is_an_extension.main.body.getD i (.Pass ⟨0, 0, 0, 0⟩)
structure Bi (mg : Str → Option Value) : Prop where
  abs_ : mg "abs" = none
  all_ : mg "all" = none
  bool_ : mg "bool" = none
  isinstance_ : mg "isinstance" = none
  len_ : mg "len" = none
  list_ : mg "list" = none
  max_ : mg "max" = none
  min_ : mg "min" = none
  range_ : mg "range" = none
  repr_ : mg "repr" = none
  sorted_ : mg "sorted" = none
  CLOSED_ : ∃ u, mg "CLOSED" = some u ∧ RelV (V.str "closed") u
section
variable {P : Program} {w : World} {K : PySem.W.Frag} {mg : Str → Option Value} {base : Heap}
/-! ### _law_feed -/
abbrev s__law_feed : Stmt := top 5
def b__law_feed : FS := (sSeq (sSet 2 (eIf (eT (eBin gLt (eVar 1) (eCall gLen (aCons (eVar 0) aNil)))) (eBin gIx (eVar 0) (eVar 1)) (eBin gAdd (eBin gMul (eC (.int 59)) (eVar 1)) (eC (.int 23)))))
  (sSeq (sSet 3 (eBin gSub (eCall gAbs (aCons (eVar 2) aNil)) (eBin gPow (eC (.int 10)) (eC (.int 18)))))
  (sRet (eNew (nLst (aCons (eCall gMax2 (aCons (eC (.int 0)) (aCons (eVar 3) aNil))) (aCons (eBin gMod (eBin gAdd (eBin gMul (eVar 2) (eC (.int 2862933555777941757))) (eBin gMul (eC (.int 3935559000370003845)) (eBin gAdd (eVar 1) (eC (.int 1))))) (eC (.int 2305843009213693951))) aNil)))))))
def c__law_feed : List D → Mu → Res D := runDef 4 b__law_feed
theorem sc__law_feed : FnScope ["script", "index", "cell", "great"] ["script", "index"] (defScope s__law_feed) := ⟨rfl, rfl, rfl, by decide +kernel, rfl, by decide +kernel, by decide +kernel⟩
theorem ok__law_feed {f : Addr} {fd : FuncData} (F : Fun K "_law_feed" "_law_feed" s__law_feed f fd) (B : Bi mg) (hsm : ∃ o, base.get? sysModules = some o)  : FnT P w K mg base 1 f fd ["script", "index"] c__law_feed := by
  refine fn_ok F sc__law_feed fun cdv A outer s H E hr hgd => ?_
  have hu := hr.units
  exact (dss_cons (ds_set sc__law_feed.nd rfl (by first | exact Or.inl rfl | exact Or.inr rfl) (de_if (dt_cmp o2_lt (dv 1) (de_callB cal_len rfl B.len_ rfl (da_cons (dv 0) da_nil)) (nomark _)) (de_ix hu (dv 0) (dv 1)) (de_bin o2_add (de_bin o2_mul de_int (dv 1)) de_int)))
  (dss_cons (ds_set sc__law_feed.nd rfl (by first | exact Or.inl rfl | exact Or.inr rfl) (de_bin o2_sub (de_callB cal_abs rfl B.abs_ rfl (da_cons (dv 2) da_nil)) (de_bin o2_pow de_int de_int)))
  (dss_one (ds_ret (de_new (dn_lst (da_cons (de_callB (cal_max2 rfl) rfl B.max_ rfl (da_cons de_int (da_cons (dv 3) da_nil))) (da_cons (de_bin o2_mod (de_bin o2_add (de_bin o2_mul (dv 2) de_int) (de_bin o2_mul de_int (de_bin o2_add (dv 1) de_int))) de_int) da_nil))))))))
/-! ### _law_take -/
abbrev s__law_take : Stmt := top 6
def b__law_take_1 : FS := (sSeq (sSet 2 (eBin gMod (eBin gIx (eVar 0) (eC (.int 0))) (eVar 1)))
  (sSeq (sSub (eVar 0) (eC (.int 0)) (eBin gDiv (eBin gIx (eVar 0) (eC (.int 0))) (eVar 1)))
  (sRet (eVar 2))))
def b__law_take : FS := (sSeq (sIf (eT (eBin gGt (eBin gIx (eVar 0) (eC (.int 0))) (eC (.int 0)))) b__law_take_1 sNil)
  (sSeq (sSub (eVar 0) (eC (.int 1)) (eBin gMod (eBin gAdd (eBin gMul (eBin gIx (eVar 0) (eC (.int 1))) (eC (.int 742938285))) (eC (.int 1013904223))) (eC (.int 2305843009213693951))))
  (sRet (eBin gMod (eBin gDiv (eBin gIx (eVar 0) (eC (.int 1))) (eC (.int 16777216))) (eVar 1)))))
def c__law_take : List D → Mu → Res D := runDef 3 b__law_take
theorem sc__law_take : FnScope ["feed", "size", "digit"] ["feed", "size"] (defScope s__law_take) := ⟨rfl, rfl, rfl, by decide +kernel, rfl, by decide +kernel, by decide +kernel⟩
theorem ok__law_take {f : Addr} {fd : FuncData} (F : Fun K "_law_take" "_law_take" s__law_take f fd) (B : Bi mg) (hsm : ∃ o, base.get? sysModules = some o)  : FnT P w K mg base 1 f fd ["feed", "size"] c__law_take := by
  refine fn_ok F sc__law_take fun cdv A outer s H E hr hgd => ?_
  have hu := hr.units
  exact (dss_cons (ds_if (dt_cmp o2_gt (de_ix hu (dv 0) de_int) de_int (nomark _)) (dss_cons (ds_set sc__law_take.nd rfl (by first | exact Or.inl rfl | exact Or.inr rfl) (de_bin o2_mod (de_ix hu (dv 0) de_int) (dv 1)))
  (dss_cons (ds_sub hu (dv 0) de_int (de_bin o2_div (de_ix hu (dv 0) de_int) (dv 1)))
  (dss_one (ds_ret (dv 2))))) dss_nil)
  (dss_cons (ds_sub hu (dv 0) de_int (de_bin o2_mod (de_bin o2_add (de_bin o2_mul (de_ix hu (dv 0) de_int) de_int) de_int) de_int))
  (dss_one (ds_ret (de_bin o2_mod (de_bin o2_div (de_ix hu (dv 0) de_int) de_int) (dv 1))))))
/-! ### _law_pick -/
abbrev s__law_pick : Stmt := top 7
def b__law_pick : FS := (sRet (eBin gIx (eVar 1) (eCallF 2 c__law_take [] (aCons (eVar 0) (aCons (eCall gLen (aCons (eVar 1) aNil)) aNil)))))
def c__law_pick : List D → Mu → Res D := runDef 2 b__law_pick
theorem sc__law_pick : FnScope ["feed", "options"] ["feed", "options"] (defScope s__law_pick) := ⟨rfl, rfl, rfl, by decide +kernel, rfl, by decide +kernel, by decide +kernel⟩
theorem ok__law_pick {f : Addr} {fd : FuncData} (F : Fun K "_law_pick" "_law_pick" s__law_pick f fd) (B : Bi mg) (hsm : ∃ o, base.get? sysModules = some o) (H__law_take : Has P w K mg base 1 "_law_take" 2 [] c__law_take) : FnT P w K mg base 2 f fd ["feed", "options"] c__law_pick := by
  refine fn_ok F sc__law_pick fun cdv A outer s H E hr hgd => ?_
  have hu := hr.units
  exact (dss_one (ds_ret (de_ix hu (dv 1) (dcall H__law_take (hr.mono (by decide)) hgd rfl (passes_call (takes_of rfl rfl rfl rfl) fun _ _ _ _ h => h) (da_cons (dv 0) (da_cons (de_callB cal_len rfl B.len_ rfl (da_cons (dv 1) da_nil)) da_nil))))))
/-! ### _law_names -/
abbrev s__law_names : Stmt := top 8
def b__law_names : FS := (sSeq (sSet 2 (eC (.str "abcdefghijklmnopqrstuvwxyz")))
  (sSeq (sAsg (.tp [(.nm 4), (.nm 5), (.nm 6)]) (eTup (aCons (eCallF 2 c__law_take [] (aCons (eVar 0) (aCons (eC (.int 26)) aNil))) (aCons (eCallF 2 c__law_pick [] (aCons (eVar 0) (aCons (eFz (nLst (aCons (eC (.int 1)) (aCons (eC (.int 3)) (aCons (eC (.int 5)) (aCons (eC (.int 7)) (aCons (eC (.int 9)) (aCons (eC (.int 11)) aNil)))))))) aNil))) (aCons (eBin gIx (eVar 2) (eCallF 2 c__law_take [] (aCons (eVar 0) (aCons (eC (.int 26)) aNil)))) aNil)))))
  (sSeq (sAsg (.tp [(.nm 7), (.nm 8)]) (eTup (aCons (eCallF 2 c__law_take [] (aCons (eVar 0) (aCons (eC (.int 4)) aNil))) (aCons (eCallF 2 c__law_take [] (aCons (eVar 0) (aCons (eC (.int 5)) aNil))) aNil))))
  (sSeq (sSet 3 (eFz (nComp (iRange1 (aCons (eVar 1) aNil)) (.nm 9) tTrue (eBin gIx (eVar 2) (eBin gMod (eBin gAdd (eVar 4) (eBin gMul (eVar 5) (eVar 9))) (eC (.int 26)))) [9])))
  (sRet (eFz (nComp (iVal (eVar 3)) (.nm 10) tTrue (eBin gAdd (eBin gAdd (eBin gMul (eVar 6) (eVar 7)) (eVar 10)) (eBin gMul (eVar 6) (eVar 8))) [10])))))))
def c__law_names : List D → Mu → Res D := runDef 11 b__law_names
theorem sc__law_names : FnScope ["feed", "size", "letters", "signs", "start", "step", "filler", "ahead", "behind", "k", "sign"] ["feed", "size"] (defScope s__law_names) := ⟨rfl, rfl, rfl, by decide +kernel, rfl, by decide +kernel, by decide +kernel⟩
theorem ok__law_names {f : Addr} {fd : FuncData} (F : Fun K "_law_names" "_law_names" s__law_names f fd) (B : Bi mg) (hsm : ∃ o, base.get? sysModules = some o) (H__law_take : Has P w K mg base 1 "_law_take" 2 [] c__law_take) (H__law_pick : Has P w K mg base 2 "_law_pick" 2 [] c__law_pick) : FnT P w K mg base 3 f fd ["feed", "size"] c__law_names := by
  refine fn_ok F sc__law_names fun cdv A outer s H E hr hgd => ?_
  have hu := hr.units
  exact (dss_cons (ds_set sc__law_names.nd rfl (by first | exact Or.inl rfl | exact Or.inr rfl) de_str)
  (dss_cons (ds_asg (de_tup (da_cons (dcall H__law_take (hr.mono (by decide)) hgd rfl (passes_call (takes_of rfl rfl rfl rfl) fun _ _ _ _ h => h) (da_cons (dv 0) (da_cons de_int da_nil))) (da_cons (dcall H__law_pick (hr.mono (by decide)) hgd rfl (passes_call (takes_of rfl rfl rfl rfl) fun _ _ _ _ h => h) (da_cons (dv 0) (da_cons (de_fz (dn_lst (da_cons de_int (da_cons de_int (da_cons de_int (da_cons de_int (da_cons de_int (da_cons de_int da_nil)))))))) da_nil))) (da_cons (de_ix hu (dv 2) (dcall H__law_take (hr.mono (by decide)) hgd rfl (passes_call (takes_of rfl rfl rfl rfl) fun _ _ _ _ h => h) (da_cons (dv 0) (da_cons de_int da_nil)))) da_nil)))) (gt_tp rfl (gts_cons (gt_nm sc__law_names.nd rfl (by first | exact Or.inl rfl | exact Or.inr rfl)) (gts_cons (gt_nm sc__law_names.nd rfl (by first | exact Or.inl rfl | exact Or.inr rfl)) (gts_cons (gt_nm sc__law_names.nd rfl (by first | exact Or.inl rfl | exact Or.inr rfl)) gts_nil)))))
  (dss_cons (ds_asg (de_tup (da_cons (dcall H__law_take (hr.mono (by decide)) hgd rfl (passes_call (takes_of rfl rfl rfl rfl) fun _ _ _ _ h => h) (da_cons (dv 0) (da_cons de_int da_nil))) (da_cons (dcall H__law_take (hr.mono (by decide)) hgd rfl (passes_call (takes_of rfl rfl rfl rfl) fun _ _ _ _ h => h) (da_cons (dv 0) (da_cons de_int da_nil))) da_nil))) (gt_tp rfl (gts_cons (gt_nm sc__law_names.nd rfl (by first | exact Or.inl rfl | exact Or.inr rfl)) (gts_cons (gt_nm sc__law_names.nd rfl (by first | exact Or.inl rfl | exact Or.inr rfl)) gts_nil))))
  (dss_cons (lc_set1 (own := [("k", 9)]) (by decide) rfl sc__law_names.nd rfl rfl (sw_true rfl rfl rfl (by decide +kernel)) (di_range1 rfl B.range_ (da_cons (dv 1) da_nil)) (blkOk_by (N := ["feed", "size", "letters", "signs", "start", "step", "filler", "ahead", "behind", "k", "sign"]) (sc := defScope s__law_names) (by decide +kernel)) (fun _ _ _ _ _ => (gt_nm sc__law_names.nd rfl (by first | exact Or.inl rfl | exact Or.inr rfl))) (fun _ _ _ _ _ => dts_nil) (fun _ _ _ _ _ => (de_ix hu (dv 2) (de_bin o2_mod (de_bin o2_add (dv 4) (de_bin o2_mul (dv 5) (dv 9))) de_int))))
  (dss_one (ds_ret (de_fz (dn_lc (own := [("sign", 10)]) (by decide) rfl sc__law_names.nd (di_val (dv 3)) (blkOk_by (N := ["feed", "size", "letters", "signs", "start", "step", "filler", "ahead", "behind", "k", "sign"]) (sc := defScope s__law_names) (by decide +kernel)) (fun _ _ _ _ _ => (gt_nm sc__law_names.nd rfl (by first | exact Or.inl rfl | exact Or.inr rfl))) (fun _ _ _ _ _ => dts_nil) (fun _ _ _ _ _ => (de_bin o2_add (de_bin o2_add (de_bin o2_mul (dv 6) (dv 7)) (dv 10)) (de_bin o2_mul (dv 6) (dv 8))))))))))))
/-! ### _law_kinds -/
abbrev s__law_kinds : Stmt := top 9
def b__law_kinds_1 : FS := (sSeq (sSet 4 (eCallF 2 c__law_take [] (aCons (eVar 0) (aCons (eC (.int 6)) aNil))))
  (sSub (eVar 2) (eVar 3) (eTup (aCons (eVar 4) (aCons (eBin gAdd (eVar 4) (eCallF 2 c__law_pick [] (aCons (eVar 0) (aCons (eFz (nLst (aCons (eC (.int 0)) (aCons (eC (.int 1)) (aCons (eC (.int 2)) (aCons (eC (.int 3)) (aCons (eC (.int 5)) (aCons (eC (.int 9)) aNil)))))))) aNil)))) aNil)))))
def b__law_kinds : FS := (sSeq (sSet 1 (eCallF 2 c__law_names [] (aCons (eVar 0) (aCons (eBin gAdd (eC (.int 1)) (eCallF 2 c__law_take [] (aCons (eVar 0) (aCons (eC (.int 3)) aNil)))) aNil))))
  (sSeq (sSet 2 (eNew (nEmpty)))
  (sSeq (sFor (iVal (eVar 1)) (.nm 3) b__law_kinds_1)
  (sRet (eFrz (eVar 2))))))
def c__law_kinds : List D → Mu → Res D := runDef 5 b__law_kinds
theorem sc__law_kinds : FnScope ["feed", "names", "kinds", "name", "shortest"] ["feed"] (defScope s__law_kinds) := ⟨rfl, rfl, rfl, by decide +kernel, rfl, by decide +kernel, by decide +kernel⟩
theorem ok__law_kinds {f : Addr} {fd : FuncData} (F : Fun K "_law_kinds" "_law_kinds" s__law_kinds f fd) (B : Bi mg) (hsm : ∃ o, base.get? sysModules = some o) (H__law_names : Has P w K mg base 3 "_law_names" 2 [] c__law_names) (H__law_take : Has P w K mg base 1 "_law_take" 2 [] c__law_take) (H__law_pick : Has P w K mg base 2 "_law_pick" 2 [] c__law_pick) : FnT P w K mg base 4 f fd ["feed"] c__law_kinds := by
  refine fn_ok F sc__law_kinds fun cdv A outer s H E hr hgd => ?_
  have hu := hr.units
  exact (dss_cons (ds_set sc__law_kinds.nd rfl (by first | exact Or.inl rfl | exact Or.inr rfl) (dcall H__law_names (hr.mono (by decide)) hgd rfl (passes_call (takes_of rfl rfl rfl rfl) fun _ _ _ _ h => h) (da_cons (dv 0) (da_cons (de_bin o2_add de_int (dcall H__law_take (hr.mono (by decide)) hgd rfl (passes_call (takes_of rfl rfl rfl rfl) fun _ _ _ _ h => h) (da_cons (dv 0) (da_cons de_int da_nil)))) da_nil))))
  (dss_cons (ds_set sc__law_kinds.nd rfl (by first | exact Or.inl rfl | exact Or.inr rfl) (de_new (dn_empty)))
  (dss_cons (ds_for (passes_of rfl) rfl (di_val (dv 1)) (gt_nm sc__law_kinds.nd rfl (by first | exact Or.inl rfl | exact Or.inr rfl)) (dss_cons (ds_set sc__law_kinds.nd rfl (by first | exact Or.inl rfl | exact Or.inr rfl) (dcall H__law_take (hr.mono (by decide)) hgd rfl (passes_call (takes_of rfl rfl rfl rfl) fun _ _ _ _ h => h) (da_cons (dv 0) (da_cons de_int da_nil))))
  (dss_one (ds_sub hu (dv 2) (dv 3) (de_tup (da_cons (dv 4) (da_cons (de_bin o2_add (dv 4) (dcall H__law_pick (hr.mono (by decide)) hgd rfl (passes_call (takes_of rfl rfl rfl rfl) fun _ _ _ _ h => h) (da_cons (dv 0) (da_cons (de_fz (dn_lst (da_cons de_int (da_cons de_int (da_cons de_int (da_cons de_int (da_cons de_int (da_cons de_int da_nil)))))))) da_nil)))) da_nil)))))))
  (dss_one (ds_ret (de_frz (dv 2)))))))
/-! ### _law_plate -/
abbrev s__law_plate : Stmt := top 10
def b__law_plate : FS := (sRet (eCallF 2 c__law_pick [] (aCons (eVar 0) (aCons (eFz (nLst (aCons (eC .none) (aCons (eC .none) (aCons (eC .none) (aCons (eC .none) (aCons (eC (.str "A")) (aCons (eC (.str "B7")) aNil)))))))) aNil))))
def c__law_plate : List D → Mu → Res D := runDef 1 b__law_plate
theorem sc__law_plate : FnScope ["feed"] ["feed"] (defScope s__law_plate) := ⟨rfl, rfl, rfl, by decide +kernel, rfl, by decide +kernel, by decide +kernel⟩
theorem ok__law_plate {f : Addr} {fd : FuncData} (F : Fun K "_law_plate" "_law_plate" s__law_plate f fd) (B : Bi mg) (hsm : ∃ o, base.get? sysModules = some o) (H__law_pick : Has P w K mg base 2 "_law_pick" 2 [] c__law_pick) : FnT P w K mg base 3 f fd ["feed"] c__law_plate := by
  refine fn_ok F sc__law_plate fun cdv A outer s H E hr hgd => ?_
  have hu := hr.units
  exact (dss_one (ds_ret (dcall H__law_pick (hr.mono (by decide)) hgd rfl (passes_call (takes_of rfl rfl rfl rfl) fun _ _ _ _ h => h) (da_cons (dv 0) (da_cons (de_fz (dn_lst (da_cons de_none (da_cons de_none (da_cons de_none (da_cons de_none (da_cons de_str (da_cons de_str da_nil)))))))) da_nil)))))
/-! ### _law_log -/
abbrev s__law_log : Stmt := top 11
def b__law_log_1 : FS := (sSeq (sSet 11 (eTup (aCons (eCallF 2 c__law_pick [] (aCons (eVar 0) (aCons (eFz (nLst (aCons (eVar 7) (aCons (eVar 7) (aCons (eC .none) aNil))))) aNil))) (aCons (eCallF 2 c__law_pick [] (aCons (eVar 0) (aCons (eFz (nLst (aCons (eVar 10) (aCons (eVar 10) (aCons (eC .none) aNil))))) aNil))) aNil))))
  (sExpr (eMeth "list" gAppend (eVar 6) (aCons (eBin gAdd (eTup (aCons (eBin gAdd (eVar 9) (eVar 8)) aNil)) (eVar 11)) aNil))))
def b__law_log_2 : FS := (sSeq (sSet 7 (eCallF 2 c__law_pick [] (aCons (eVar 0) (aCons (eFz (nCall gSorted (aCons (eVar 1) aNil))) aNil))))
  (sSeq (sPar2 9 10 (aCons (eCallF 2 c__law_take [] (aCons (eVar 0) (aCons (eC (.int 13)) aNil))) (aCons (eCallF 1 c__law_plate [] (aCons (eVar 0) aNil)) aNil)))
  (sSeq (sSet 8 (eBin gAdd (eBin gIx (eBin gIx (eVar 1) (eVar 7)) (eC (.int 0))) (eCallF 2 c__law_take [] (aCons (eVar 0) (aCons (eBin gAdd (eBin gSub (eBin gIx (eBin gIx (eVar 1) (eVar 7)) (eC (.int 1))) (eBin gIx (eBin gIx (eVar 1) (eVar 7)) (eC (.int 0)))) (eC (.int 1))) aNil)))))
  (sSeq (sIf (eT (eBin gEq (eCallF 2 c__law_take [] (aCons (eVar 0) (aCons (eC (.int 12)) aNil))) (eC (.int 0)))) (sSet 8 (eBin gAdd (eVar 8) (eC (.int 4)))) sNil)
  (sSeq (sIf (eT (eBin gGt (eCallF 2 c__law_take [] (aCons (eVar 0) (aCons (eC (.int 6)) aNil))) (eC (.int 0)))) (sExpr (eMeth "list" gAppend (eVar 5) (aCons (eTup (aCons (eVar 9) (aCons (eCallF 2 c__law_pick [] (aCons (eVar 0) (aCons (eFz (nLst (aCons (eVar 7) (aCons (eVar 7) (aCons (eC .none) aNil))))) aNil))) (aCons (eCallF 2 c__law_pick [] (aCons (eVar 0) (aCons (eFz (nLst (aCons (eVar 10) (aCons (eVar 10) (aCons (eC .none) aNil))))) aNil))) aNil)))) aNil))) sNil)
  (sIf (eT (eBin gGt (eCallF 2 c__law_take [] (aCons (eVar 0) (aCons (eC (.int 6)) aNil))) (eC (.int 0)))) b__law_log_1 sNil))))))
def b__law_log : FS := (sSeq (sPar2 5 6 (aCons (eNew (nLst aNil)) (aCons (eNew (nLst aNil)) aNil)))
  (sSeq (sFor (iRange1 (aCons (eVar 2) aNil)) (.nm 3) b__law_log_2)
  (sSeq (sIf (eT (eBin gEq (eCallF 2 c__law_take [] (aCons (eVar 0) (aCons (eC (.int 3)) aNil))) (eC (.int 0)))) (sSet 6 (eNew (nRev (eVar 6)))) sNil)
  (sSeq (sSet 4 (eFz (nComp (iRange1 (aCons (eC (.int 2)) aNil)) (.nm 12) tTrue (eCallF 2 c__law_pick [] (aCons (eVar 0) (aCons (eFz (nLst (aCons (eC (.str "closed")) (aCons (eC (.int 0)) (aCons (eC (.int 3)) (aCons (eC (.int 8)) (aCons (eC (.int 14)) (aCons (eC (.int 30)) (aCons (eBin gPow (eC (.int 10)) (eC (.int 9))) aNil))))))))) aNil))) [12])))
  (sSeq (sFrz 6) (sSeq (sFrz 5) (sRet (eTup (aCons (eVar 5) (aCons (eVar 6) (aCons (eBin gIx (eVar 4) (eC (.int 0))) (aCons (eBin gIx (eVar 4) (eC (.int 1))) aNil))))))))))))
def c__law_log : List D → Mu → Res D := runDef 13 b__law_log
theorem sc__law_log : FnScope ["feed", "kinds", "size", "trip", "floors", "entries", "exits", "name", "travel", "start", "plate", "seen", "gate"] ["feed", "kinds", "size"] (defScope s__law_log) := ⟨rfl, rfl, rfl, by decide +kernel, rfl, by decide +kernel, by decide +kernel⟩
theorem ok__law_log {f : Addr} {fd : FuncData} (F : Fun K "_law_log" "_law_log" s__law_log f fd) (B : Bi mg) (hsm : ∃ o, base.get? sysModules = some o) (H__law_pick : Has P w K mg base 2 "_law_pick" 2 [] c__law_pick) (H__law_plate : Has P w K mg base 3 "_law_plate" 1 [] c__law_plate) (H__law_take : Has P w K mg base 1 "_law_take" 2 [] c__law_take) : FnT P w K mg base 4 f fd ["feed", "kinds", "size"] c__law_log := by
  refine fn_ok F sc__law_log fun cdv A outer s H E hr hgd => ?_
  have hu := hr.units
  exact (dss_cons (ds_par2 rfl sc__law_log.nd rfl rfl (by decide) rfl rfl (da_cons (de_new (dn_lst da_nil)) (da_cons (de_new (dn_lst da_nil)) da_nil)))
  (dss_cons (ds_for (passes_of rfl) rfl (di_range1 rfl B.range_ (da_cons (dv 2) da_nil)) (gt_nm sc__law_log.nd rfl (by first | exact Or.inl rfl | exact Or.inr rfl)) (dss_cons (ds_set sc__law_log.nd rfl (by first | exact Or.inl rfl | exact Or.inr rfl) (dcall H__law_pick (hr.mono (by decide)) hgd rfl (passes_call (takes_of rfl rfl rfl rfl) fun _ _ _ _ h => h) (da_cons (dv 0) (da_cons (de_fz (dn_callB (cal_sorted rfl) rfl B.sorted_ rfl (da_cons (dv 1) da_nil))) da_nil))))
  (dss_cons (ds_par2 rfl sc__law_log.nd rfl rfl (by decide) rfl rfl (da_cons (dcall H__law_take (hr.mono (by decide)) hgd rfl (passes_call (takes_of rfl rfl rfl rfl) fun _ _ _ _ h => h) (da_cons (dv 0) (da_cons de_int da_nil))) (da_cons (dcall H__law_plate (hr.mono (by decide)) hgd rfl (passes_call (takes_of rfl rfl rfl rfl) fun _ _ _ _ h => h) (da_cons (dv 0) da_nil)) da_nil)))
  (dss_cons (ds_set sc__law_log.nd rfl (by first | exact Or.inl rfl | exact Or.inr rfl) (de_bin o2_add (de_ix hu (de_ix hu (dv 1) (dv 7)) de_int) (dcall H__law_take (hr.mono (by decide)) hgd rfl (passes_call (takes_of rfl rfl rfl rfl) fun _ _ _ _ h => h) (da_cons (dv 0) (da_cons (de_bin o2_add (de_bin o2_sub (de_ix hu (de_ix hu (dv 1) (dv 7)) de_int) (de_ix hu (de_ix hu (dv 1) (dv 7)) de_int)) de_int) da_nil)))))
  (dss_cons (ds_if (dt_cmp (o2_eq hu) (dcall H__law_take (hr.mono (by decide)) hgd rfl (passes_call (takes_of rfl rfl rfl rfl) fun _ _ _ _ h => h) (da_cons (dv 0) (da_cons de_int da_nil))) de_int (nomark _)) (dss_one (ds_set sc__law_log.nd rfl (by first | exact Or.inl rfl | exact Or.inr rfl) (de_bin o2_add (dv 8) de_int))) dss_nil)
  (dss_cons (ds_if (dt_cmp o2_gt (dcall H__law_take (hr.mono (by decide)) hgd rfl (passes_call (takes_of rfl rfl rfl rfl) fun _ _ _ _ h => h) (da_cons (dv 0) (da_cons de_int da_nil))) de_int (nomark _)) (dss_one (ds_expr (de_bm PySem.F.plainAttrs_list PySem.F.slot_list_append PySem.F.type_list_append mg_append (dv 5) (da_cons (de_tup (da_cons (dv 9) (da_cons (dcall H__law_pick (hr.mono (by decide)) hgd rfl (passes_call (takes_of rfl rfl rfl rfl) fun _ _ _ _ h => h) (da_cons (dv 0) (da_cons (de_fz (dn_lst (da_cons (dv 7) (da_cons (dv 7) (da_cons de_none da_nil))))) da_nil))) (da_cons (dcall H__law_pick (hr.mono (by decide)) hgd rfl (passes_call (takes_of rfl rfl rfl rfl) fun _ _ _ _ h => h) (da_cons (dv 0) (da_cons (de_fz (dn_lst (da_cons (dv 10) (da_cons (dv 10) (da_cons de_none da_nil))))) da_nil))) da_nil)))) da_nil)))) dss_nil)
  (dss_one (ds_if (dt_cmp o2_gt (dcall H__law_take (hr.mono (by decide)) hgd rfl (passes_call (takes_of rfl rfl rfl rfl) fun _ _ _ _ h => h) (da_cons (dv 0) (da_cons de_int da_nil))) de_int (nomark _)) (dss_cons (ds_set sc__law_log.nd rfl (by first | exact Or.inl rfl | exact Or.inr rfl) (de_tup (da_cons (dcall H__law_pick (hr.mono (by decide)) hgd rfl (passes_call (takes_of rfl rfl rfl rfl) fun _ _ _ _ h => h) (da_cons (dv 0) (da_cons (de_fz (dn_lst (da_cons (dv 7) (da_cons (dv 7) (da_cons de_none da_nil))))) da_nil))) (da_cons (dcall H__law_pick (hr.mono (by decide)) hgd rfl (passes_call (takes_of rfl rfl rfl rfl) fun _ _ _ _ h => h) (da_cons (dv 0) (da_cons (de_fz (dn_lst (da_cons (dv 10) (da_cons (dv 10) (da_cons de_none da_nil))))) da_nil))) da_nil))))
  (dss_one (ds_expr (de_bm PySem.F.plainAttrs_list PySem.F.slot_list_append PySem.F.type_list_append mg_append (dv 6) (da_cons (de_bin o2_add (de_tup (da_cons (de_bin o2_add (dv 9) (dv 8)) da_nil)) (dv 11)) da_nil))))) dss_nil))))))))
  (dss_cons (ds_if (dt_cmp (o2_eq hu) (dcall H__law_take (hr.mono (by decide)) hgd rfl (passes_call (takes_of rfl rfl rfl rfl) fun _ _ _ _ h => h) (da_cons (dv 0) (da_cons de_int da_nil))) de_int (nomark _)) (dss_one (ds_set sc__law_log.nd rfl (by first | exact Or.inl rfl | exact Or.inr rfl) (de_new (dn_rev (dv 6))))) dss_nil)
  (dss_cons (lc_set1 (own := [("gate", 12)]) (by decide) rfl sc__law_log.nd rfl rfl (sw_true rfl rfl rfl (by decide +kernel)) (di_range1 rfl B.range_ (da_cons de_int da_nil)) (blkOk_by (N := ["feed", "kinds", "size", "trip", "floors", "entries", "exits", "name", "travel", "start", "plate", "seen", "gate"]) (sc := defScope s__law_log) (by decide +kernel)) (fun _ _ _ _ _ => (gt_nm sc__law_log.nd rfl (by first | exact Or.inl rfl | exact Or.inr rfl))) (fun _ _ _ _ _ => dts_nil) (fun _ _ _ _ _ => (dcall H__law_pick (hr.mono (by decide)) hgd rfl passL (da_cons (dv 0) (da_cons (de_fz (dn_lst (da_cons de_str (da_cons de_int (da_cons de_int (da_cons de_int (da_cons de_int (da_cons de_int (da_cons (de_bin o2_pow de_int de_int) da_nil))))))))) da_nil)))))
  (dss_frz 6 (dss_frz 5 (dss_one (ds_ret (de_tup (da_cons (dv 5) (da_cons (dv 6) (da_cons (de_ix hu (dv 4) de_int) (da_cons (de_ix hu (dv 4) de_int) da_nil)))))))))))))
/-! ### gate_extends -/
abbrev s_gate_extends : Stmt := top 2
def b_gate_extends : FS := (sSeq (sIf (eT (eBin gNe (eSl (eVar 1) oNone (oSome (eCall gLen (aCons (eVar 0) aNil)))) (eVar 0))) (sRet (eC (.bool false))) sNil)
  (sSeq (sSet 4 (eSl (eVar 1) (oSome (eCall gLen (aCons (eVar 0) aNil))) oNone))
  (sSeq (sIf (eT (eBin gEq (eVar 2) (eC (.str "closed")))) (sRet (eAnd (eBin gEq (eVar 4) (eFz (nLst aNil))) (eBin gEq (eVar 3) (eC (.str "closed"))))) sNil)
  (sSeq (sIf (tNot (eT (eCall gAll (aCons (eFz (nComp (iVal (eVar 4)) (.nm 5) tTrue (eBin gGe (eBin gIx (eVar 5) (eC (.int 0))) (eVar 2)) [5])) aNil)))) (sRet (eC (.bool false))) sNil)
  (sRet (eOr (eBin gEq (eVar 3) (eC (.str "closed"))) (eBin gGe (eVar 3) (eVar 2))))))))
def c_gate_extends : List D → Mu → Res D := runDef 6 b_gate_extends
theorem sc_gate_extends : FnScope ["lines", "more_lines", "floor", "later_floor", "added", "line"] ["lines", "more_lines", "floor", "later_floor"] (defScope s_gate_extends) := ⟨rfl, rfl, rfl, by decide +kernel, rfl, by decide +kernel, by decide +kernel⟩
theorem ok_gate_extends {f : Addr} {fd : FuncData} (F : Fun K "gate_extends" "gate_extends" s_gate_extends f fd) (B : Bi mg) (hsm : ∃ o, base.get? sysModules = some o)  : FnT P w K mg base 1 f fd ["lines", "more_lines", "floor", "later_floor"] c_gate_extends := by
  refine fn_ok F sc_gate_extends fun cdv A outer s H E hr hgd => ?_
  have hu := hr.units
  exact (dss_cons (ds_if (dt_cmp (o2_ne hu) (de_sl (dv 1) do_none (do_some (de_callB cal_len rfl B.len_ rfl (da_cons (dv 0) da_nil)))) (dv 0) (nomark _)) (dss_one (ds_ret de_bool)) dss_nil)
  (dss_cons (ds_set sc_gate_extends.nd rfl (by first | exact Or.inl rfl | exact Or.inr rfl) (de_sl (dv 1) (do_some (de_callB cal_len rfl B.len_ rfl (da_cons (dv 0) da_nil))) do_none))
  (dss_cons (ds_if (dt_cmp (o2_eq hu) (dv 2) (de_gS B.CLOSED_ rfl) (nomark _)) (dss_one (ds_ret (de_and (de_cmp (o2_eq hu) (dv 4) (de_fz (dn_lst da_nil)) (nomark _)) (de_one (de_cmp (o2_eq hu) (dv 3) (de_gS B.CLOSED_ rfl) (nomark _)))))) dss_nil)
  (dss_cons (ds_if (dt_not (dt_val (de_callB (cal_all rfl) rfl B.all_ rfl (da_cons (de_fz (dn_lc (own := [("line", 5)]) (by decide) rfl sc_gate_extends.nd (di_val (dv 4)) (blkOk_by (N := ["lines", "more_lines", "floor", "later_floor", "added", "line"]) (sc := defScope s_gate_extends) (by decide +kernel)) (fun _ _ _ _ _ => (gt_nm sc_gate_extends.nd rfl (by first | exact Or.inl rfl | exact Or.inr rfl))) (fun _ _ _ _ _ => dts_nil) (fun _ _ _ _ _ => (de_cmp o2_ge (de_ix hu (dv 5) de_int) (dv 2) (nomark _))))) da_nil)))) (dss_one (ds_ret de_bool)) dss_nil)
  (dss_one (ds_ret (de_or (de_cmp (o2_eq hu) (dv 3) (de_gS B.CLOSED_ rfl) (nomark _)) (de_one (de_cmp o2_ge (dv 3) (dv 2) (nomark _))))))))))
/-! ### is_extension -/
abbrev s_is_extension : Stmt := top 3
def b_is_extension : FS := (sRet (eAnd (eCallF 4 c_gate_extends [] (aCons (eBin gIx (eVar 0) (eC (.int 0))) (aCons (eBin gIx (eVar 1) (eC (.int 0))) (aCons (eBin gIx (eVar 0) (eC (.int 2))) (aCons (eBin gIx (eVar 1) (eC (.int 2))) aNil))))) (eCallF 4 c_gate_extends [] (aCons (eBin gIx (eVar 0) (eC (.int 1))) (aCons (eBin gIx (eVar 1) (eC (.int 1))) (aCons (eBin gIx (eVar 0) (eC (.int 3))) (aCons (eBin gIx (eVar 1) (eC (.int 3))) aNil)))))))
def c_is_extension : List D → Mu → Res D := runDef 2 b_is_extension
theorem sc_is_extension : FnScope ["log", "other"] ["log", "other"] (defScope s_is_extension) := ⟨rfl, rfl, rfl, by decide +kernel, rfl, by decide +kernel, by decide +kernel⟩
theorem ok_is_extension {f : Addr} {fd : FuncData} (F : Fun K "is_extension" "is_extension" s_is_extension f fd) (B : Bi mg) (hsm : ∃ o, base.get? sysModules = some o) (H_gate_extends : Has P w K mg base 1 "gate_extends" 4 [] c_gate_extends) : FnT P w K mg base 2 f fd ["log", "other"] c_is_extension := by
  refine fn_ok F sc_is_extension fun cdv A outer s H E hr hgd => ?_
  have hu := hr.units
  exact (dss_one (ds_ret (de_and (dcall H_gate_extends (hr.mono (by decide)) hgd rfl (passes_call (takes_of rfl rfl rfl rfl) fun _ _ _ _ h => h) (da_cons (de_ix hu (dv 0) de_int) (da_cons (de_ix hu (dv 1) de_int) (da_cons (de_ix hu (dv 0) de_int) (da_cons (de_ix hu (dv 1) de_int) da_nil))))) (de_one (dcall H_gate_extends (hr.mono (by decide)) hgd rfl (passes_call (takes_of rfl rfl rfl rfl) fun _ _ _ _ h => h) (da_cons (de_ix hu (dv 0) de_int) (da_cons (de_ix hu (dv 1) de_int) (da_cons (de_ix hu (dv 0) de_int) (da_cons (de_ix hu (dv 1) de_int) da_nil)))))))))
/-! ### _law_other_gate -/
abbrev s__law_other_gate : Stmt := top 14
def b__law_other_gate_1 : FS := (sSeq (sSet 8 (eCall gMin2 (aCons (eBin gPow (eC (.int 10)) (eC (.int 9))) (aCons (eCall gMax2 (aCons (eC (.int 0)) (aCons (eBin gAdd (eVar 4) (eCallF 2 c__law_pick [] (aCons (eVar 0) (aCons (eFz (nLst (aCons (eC (.int 0)) (aCons (eC (.int 0)) (aCons (eC (.int 1)) (aCons (eC (.int 5)) (aCons (eUn gNeg (eC (.int 1))) aNil))))))) aNil)))) aNil))) aNil))))
  (sExpr (eMeth "list" gAppend (eVar 3) (aCons (eTup (aCons (eVar 8) (aCons (eC .none) (aCons (eCallF 1 c__law_plate [] (aCons (eVar 0) aNil)) aNil)))) aNil))))
def b__law_other_gate : FS := (sSeq (sSet 3 (eNew (nCall gList (aCons (eVar 1) aNil))))
  (sSeq (sSet 4 (eIf (eT (eBin gEq (eVar 2) (eC (.str "closed")))) (eC (.int 7)) (eVar 2)))
  (sSeq (sFor (iRange1 (aCons (eCallF 2 c__law_take [] (aCons (eVar 0) (aCons (eC (.int 3)) aNil))) aNil)) (.nm 5) b__law_other_gate_1)
  (sSeq (sSet 6 (eCallF 2 c__law_take [] (aCons (eVar 0) (aCons (eC (.int 10)) aNil))))
  (sSeq (sIf (eT (eBin gEq (eVar 6) (eC (.int 0)))) (sSet 3 (eSl (eVar 3) (oSome (eC (.int 1))) oNone)) sNil)
  (sSeq (sIf (eT (eBin gEq (eVar 6) (eC (.int 1)))) (sSet 3 (eNew (nRev (eVar 3)))) sNil)
  (sSeq (sIf (eT (eBin gEq (eVar 6) (eC (.int 2)))) (sSet 3 (eNew (nCat (eFz (nLst (aCons (eTup (aCons (eVar 4) (aCons (eC .none) (aCons (eC .none) aNil)))) aNil))) (eVar 3)))) sNil)
  (sSeq (sIf (tAnd (eT (eBin gEq (eVar 6) (eC (.int 3)))) (eT (eBin gNe (eVar 3) (eFz (nLst aNil))))) (sSub (eVar 3) (eC (.int 0)) (eTup (aCons (eBin gIx (eBin gIx (eVar 3) (eC (.int 0))) (eC (.int 0))) (aCons (eC .none) (aCons (eC (.str "Z9")) aNil))))) sNil)
  (sSeq (sSet 7 (eCallF 2 c__law_pick [] (aCons (eVar 0) (aCons (eFz (nLst (aCons (eVar 2) (aCons (eVar 2) (aCons (eVar 2) (aCons (eC (.str "closed")) (aCons (eCall gMin2 (aCons (eBin gAdd (eVar 4) (eC (.int 1))) (aCons (eBin gPow (eC (.int 10)) (eC (.int 9))) aNil))) (aCons (eCall gMax2 (aCons (eC (.int 0)) (aCons (eBin gSub (eVar 4) (eC (.int 1))) aNil))) (aCons (eC (.int 0)) aNil))))))))) aNil))))
  (sSeq (sFrz 3) (sRet (eTup (aCons (eVar 3) (aCons (eVar 7) aNil))))))))))))))
def c__law_other_gate : List D → Mu → Res D := runDef 9 b__law_other_gate
theorem sc__law_other_gate : FnScope ["feed", "lines", "floor", "found", "start", "turn", "way", "later", "time"] ["feed", "lines", "floor"] (defScope s__law_other_gate) := ⟨rfl, rfl, rfl, by decide +kernel, rfl, by decide +kernel, by decide +kernel⟩
theorem ok__law_other_gate {f : Addr} {fd : FuncData} (F : Fun K "_law_other_gate" "_law_other_gate" s__law_other_gate f fd) (B : Bi mg) (hsm : ∃ o, base.get? sysModules = some o) (H__law_take : Has P w K mg base 1 "_law_take" 2 [] c__law_take) (H__law_pick : Has P w K mg base 2 "_law_pick" 2 [] c__law_pick) (H__law_plate : Has P w K mg base 3 "_law_plate" 1 [] c__law_plate) : FnT P w K mg base 4 f fd ["feed", "lines", "floor"] c__law_other_gate := by
  refine fn_ok F sc__law_other_gate fun cdv A outer s H E hr hgd => ?_
  have hu := hr.units
  exact (dss_cons (ds_set sc__law_other_gate.nd rfl (by first | exact Or.inl rfl | exact Or.inr rfl) (de_new (dn_callT (cal_list rfl) rfl B.list_ rfl (da_cons (dv 1) da_nil))))
  (dss_cons (ds_set sc__law_other_gate.nd rfl (by first | exact Or.inl rfl | exact Or.inr rfl) (de_if (dt_cmp (o2_eq hu) (dv 2) de_str (nomark _)) de_int (dv 2)))
  (dss_cons (ds_for (passes_of rfl) rfl (di_range1 rfl B.range_ (da_cons (dcall H__law_take (hr.mono (by decide)) hgd rfl (passes_call (takes_of rfl rfl rfl rfl) fun _ _ _ _ h => h) (da_cons (dv 0) (da_cons de_int da_nil))) da_nil)) (gt_nm sc__law_other_gate.nd rfl (by first | exact Or.inl rfl | exact Or.inr rfl)) (dss_cons (ds_set sc__law_other_gate.nd rfl (by first | exact Or.inl rfl | exact Or.inr rfl) (de_callB (cal_min2 rfl) rfl B.min_ rfl (da_cons (de_bin o2_pow de_int de_int) (da_cons (de_callB (cal_max2 rfl) rfl B.max_ rfl (da_cons de_int (da_cons (de_bin o2_add (dv 4) (dcall H__law_pick (hr.mono (by decide)) hgd rfl (passes_call (takes_of rfl rfl rfl rfl) fun _ _ _ _ h => h) (da_cons (dv 0) (da_cons (de_fz (dn_lst (da_cons de_int (da_cons de_int (da_cons de_int (da_cons de_int (da_cons (de_un o1_neg de_int) da_nil))))))) da_nil)))) da_nil))) da_nil))))
  (dss_one (ds_expr (de_bm PySem.F.plainAttrs_list PySem.F.slot_list_append PySem.F.type_list_append mg_append (dv 3) (da_cons (de_tup (da_cons (dv 8) (da_cons de_none (da_cons (dcall H__law_plate (hr.mono (by decide)) hgd rfl (passes_call (takes_of rfl rfl rfl rfl) fun _ _ _ _ h => h) (da_cons (dv 0) da_nil)) da_nil)))) da_nil))))))
  (dss_cons (ds_set sc__law_other_gate.nd rfl (by first | exact Or.inl rfl | exact Or.inr rfl) (dcall H__law_take (hr.mono (by decide)) hgd rfl (passes_call (takes_of rfl rfl rfl rfl) fun _ _ _ _ h => h) (da_cons (dv 0) (da_cons de_int da_nil))))
  (dss_cons (ds_if (dt_cmp (o2_eq hu) (dv 6) de_int (nomark _)) (dss_one (ds_set sc__law_other_gate.nd rfl (by first | exact Or.inl rfl | exact Or.inr rfl) (de_sl (dv 3) (do_some de_int) do_none))) dss_nil)
  (dss_cons (ds_if (dt_cmp (o2_eq hu) (dv 6) de_int (nomark _)) (dss_one (ds_set sc__law_other_gate.nd rfl (by first | exact Or.inl rfl | exact Or.inr rfl) (de_new (dn_rev (dv 3))))) dss_nil)
  (dss_cons (ds_if (dt_cmp (o2_eq hu) (dv 6) de_int (nomark _)) (dss_one (ds_set sc__law_other_gate.nd rfl (by first | exact Or.inl rfl | exact Or.inr rfl) (de_new (dn_cat (de_fz (dn_lst (da_cons (de_tup (da_cons (dv 4) (da_cons de_none (da_cons de_none da_nil)))) da_nil))) (dv 3))))) dss_nil)
  (dss_cons (ds_if (dt_w (dw_and (dt_cmp (o2_eq hu) (dv 6) de_int (nomark _)) (dw_and1 (dt_cmp (o2_ne hu) (dv 3) (de_fz (dn_lst da_nil)) (nomark _))))) (dss_one (ds_sub hu (dv 3) de_int (de_tup (da_cons (de_ix hu (de_ix hu (dv 3) de_int) de_int) (da_cons de_none (da_cons de_str da_nil)))))) dss_nil)
  (dss_cons (ds_set sc__law_other_gate.nd rfl (by first | exact Or.inl rfl | exact Or.inr rfl) (dcall H__law_pick (hr.mono (by decide)) hgd rfl (passes_call (takes_of rfl rfl rfl rfl) fun _ _ _ _ h => h) (da_cons (dv 0) (da_cons (de_fz (dn_lst (da_cons (dv 2) (da_cons (dv 2) (da_cons (dv 2) (da_cons de_str (da_cons (de_callB (cal_min2 rfl) rfl B.min_ rfl (da_cons (de_bin o2_add (dv 4) de_int) (da_cons (de_bin o2_pow de_int de_int) da_nil))) (da_cons (de_callB (cal_max2 rfl) rfl B.max_ rfl (da_cons de_int (da_cons (de_bin o2_sub (dv 4) de_int) da_nil))) (da_cons de_int da_nil))))))))) da_nil))))
  (dss_frz 3 (dss_one (ds_ret (de_tup (da_cons (dv 3) (da_cons (dv 7) da_nil)))))))))))))))
/-! ### _law_other -/
abbrev s__law_other : Stmt := top 15
def b__law_other : FS := (sSeq (sAsg (.tp [(.nm 2), (.nm 3)]) (eCallF 3 c__law_other_gate [] (aCons (eVar 0) (aCons (eBin gIx (eVar 1) (eC (.int 0))) (aCons (eBin gIx (eVar 1) (eC (.int 2))) aNil)))))
  (sSeq (sAsg (.tp [(.nm 4), (.nm 5)]) (eCallF 3 c__law_other_gate [] (aCons (eVar 0) (aCons (eBin gIx (eVar 1) (eC (.int 1))) (aCons (eBin gIx (eVar 1) (eC (.int 3))) aNil)))))
  (sRet (eTup (aCons (eVar 2) (aCons (eVar 4) (aCons (eVar 3) (aCons (eVar 5) aNil))))))))
def c__law_other : List D → Mu → Res D := runDef 6 b__law_other
theorem sc__law_other : FnScope ["feed", "log", "first", "floor", "second", "later"] ["feed", "log"] (defScope s__law_other) := ⟨rfl, rfl, rfl, by decide +kernel, rfl, by decide +kernel, by decide +kernel⟩
theorem ok__law_other {f : Addr} {fd : FuncData} (F : Fun K "_law_other" "_law_other" s__law_other f fd) (B : Bi mg) (hsm : ∃ o, base.get? sysModules = some o) (H__law_other_gate : Has P w K mg base 4 "_law_other_gate" 3 [] c__law_other_gate) : FnT P w K mg base 5 f fd ["feed", "log"] c__law_other := by
  refine fn_ok F sc__law_other fun cdv A outer s H E hr hgd => ?_
  have hu := hr.units
  exact (dss_cons (ds_asg (dcall H__law_other_gate (hr.mono (by decide)) hgd rfl (passes_call (takes_of rfl rfl rfl rfl) fun _ _ _ _ h => h) (da_cons (dv 0) (da_cons (de_ix hu (dv 1) de_int) (da_cons (de_ix hu (dv 1) de_int) da_nil)))) (gt_tp rfl (gts_cons (gt_nm sc__law_other.nd rfl (by first | exact Or.inl rfl | exact Or.inr rfl)) (gts_cons (gt_nm sc__law_other.nd rfl (by first | exact Or.inl rfl | exact Or.inr rfl)) gts_nil))))
  (dss_cons (ds_asg (dcall H__law_other_gate (hr.mono (by decide)) hgd rfl (passes_call (takes_of rfl rfl rfl rfl) fun _ _ _ _ h => h) (da_cons (dv 0) (da_cons (de_ix hu (dv 1) de_int) (da_cons (de_ix hu (dv 1) de_int) da_nil)))) (gt_tp rfl (gts_cons (gt_nm sc__law_other.nd rfl (by first | exact Or.inl rfl | exact Or.inr rfl)) (gts_cons (gt_nm sc__law_other.nd rfl (by first | exact Or.inl rfl | exact Or.inr rfl)) gts_nil))))
  (dss_one (ds_ret (de_tup (da_cons (dv 2) (da_cons (dv 4) (da_cons (dv 3) (da_cons (dv 5) da_nil)))))))))
/-! ### _law_gate_right -/
abbrev s__law_gate_right : Stmt := top 12
def b__law_gate_right : FS := (sSeq (sIf (eT (eBin gNe (eSl (eVar 1) oNone (oSome (eCall gLen (aCons (eVar 0) aNil)))) (eVar 0))) (sRet (eC (.bool false))) sNil)
  (sSeq (sSet 4 (eSl (eVar 1) (oSome (eCall gLen (aCons (eVar 0) aNil))) oNone))
  (sSeq (sIf (eT (eBin gEq (eVar 2) (eC (.str "closed")))) (sRet (eAnd (eBin gEq (eVar 4) (eFz (nLst aNil))) (eBin gEq (eVar 3) (eC (.str "closed"))))) sNil)
  (sRet (eAnd (eBin gEq (eFz (nComp (iVal (eVar 4)) (.nm 5) (eT (eBin gLt (eBin gIx (eVar 5) (eC (.int 0))) (eVar 2))) (eVar 5) [5])) (eFz (nLst aNil))) (eOr (eBin gEq (eVar 3) (eC (.str "closed"))) (eBin gGe (eVar 3) (eVar 2))))))))
def c__law_gate_right : List D → Mu → Res D := runDef 6 b__law_gate_right
theorem sc__law_gate_right : FnScope ["lines", "others", "floor", "later", "more", "line"] ["lines", "others", "floor", "later"] (defScope s__law_gate_right) := ⟨rfl, rfl, rfl, by decide +kernel, rfl, by decide +kernel, by decide +kernel⟩
theorem ok__law_gate_right {f : Addr} {fd : FuncData} (F : Fun K "_law_gate_right" "_law_gate_right" s__law_gate_right f fd) (B : Bi mg) (hsm : ∃ o, base.get? sysModules = some o)  : FnT P w K mg base 1 f fd ["lines", "others", "floor", "later"] c__law_gate_right := by
  refine fn_ok F sc__law_gate_right fun cdv A outer s H E hr hgd => ?_
  have hu := hr.units
  exact (dss_cons (ds_if (dt_cmp (o2_ne hu) (de_sl (dv 1) do_none (do_some (de_callB cal_len rfl B.len_ rfl (da_cons (dv 0) da_nil)))) (dv 0) (nomark _)) (dss_one (ds_ret de_bool)) dss_nil)
  (dss_cons (ds_set sc__law_gate_right.nd rfl (by first | exact Or.inl rfl | exact Or.inr rfl) (de_sl (dv 1) (do_some (de_callB cal_len rfl B.len_ rfl (da_cons (dv 0) da_nil))) do_none))
  (dss_cons (ds_if (dt_cmp (o2_eq hu) (dv 2) de_str (nomark _)) (dss_one (ds_ret (de_and (de_cmp (o2_eq hu) (dv 4) (de_fz (dn_lst da_nil)) (nomark _)) (de_one (de_cmp (o2_eq hu) (dv 3) de_str (nomark _)))))) dss_nil)
  (dss_one (ds_ret (de_and (de_cmp (o2_eq hu) (de_fz (dn_lc (own := [("line", 5)]) (by decide) rfl sc__law_gate_right.nd (di_val (dv 4)) (blkOk_by (N := ["lines", "others", "floor", "later", "more", "line"]) (sc := defScope s__law_gate_right) (by decide +kernel)) (fun _ _ _ _ _ => (gt_nm sc__law_gate_right.nd rfl (by first | exact Or.inl rfl | exact Or.inr rfl))) (fun _ _ _ _ _ => (dts_one (dt_cmp o2_lt (de_ix hu (dv 5) de_int) (dv 2) (nomark _)))) (fun _ _ _ _ _ => (dv 5)))) (de_fz (dn_lst da_nil)) (nomark _)) (de_one (de_or (de_cmp (o2_eq hu) (dv 3) de_str (nomark _)) (de_one (de_cmp o2_ge (dv 3) (dv 2) (nomark _)))))))))))
/-! ### _law_is_extension -/
abbrev s__law_is_extension : Stmt := top 13
def b__law_is_extension : FS := (sSeq (sIf (tNot (eT (eCallF 4 c__law_gate_right [] (aCons (eBin gIx (eVar 0) (eC (.int 0))) (aCons (eBin gIx (eVar 1) (eC (.int 0))) (aCons (eBin gIx (eVar 0) (eC (.int 2))) (aCons (eBin gIx (eVar 1) (eC (.int 2))) aNil))))))) (sRet (eC (.bool false))) sNil)
  (sRet (eCallF 4 c__law_gate_right [] (aCons (eBin gIx (eVar 0) (eC (.int 1))) (aCons (eBin gIx (eVar 1) (eC (.int 1))) (aCons (eBin gIx (eVar 0) (eC (.int 3))) (aCons (eBin gIx (eVar 1) (eC (.int 3))) aNil)))))))
def c__law_is_extension : List D → Mu → Res D := runDef 2 b__law_is_extension
theorem sc__law_is_extension : FnScope ["log", "other"] ["log", "other"] (defScope s__law_is_extension) := ⟨rfl, rfl, rfl, by decide +kernel, rfl, by decide +kernel, by decide +kernel⟩
theorem ok__law_is_extension {f : Addr} {fd : FuncData} (F : Fun K "_law_is_extension" "_law_is_extension" s__law_is_extension f fd) (B : Bi mg) (hsm : ∃ o, base.get? sysModules = some o) (H__law_gate_right : Has P w K mg base 1 "_law_gate_right" 4 [] c__law_gate_right) : FnT P w K mg base 2 f fd ["log", "other"] c__law_is_extension := by
  refine fn_ok F sc__law_is_extension fun cdv A outer s H E hr hgd => ?_
  have hu := hr.units
  exact (dss_cons (ds_if (dt_not (dt_val (dcall H__law_gate_right (hr.mono (by decide)) hgd rfl (passes_call (takes_of rfl rfl rfl rfl) fun _ _ _ _ h => h) (da_cons (de_ix hu (dv 0) de_int) (da_cons (de_ix hu (dv 1) de_int) (da_cons (de_ix hu (dv 0) de_int) (da_cons (de_ix hu (dv 1) de_int) da_nil))))))) (dss_one (ds_ret de_bool)) dss_nil)
  (dss_one (ds_ret (dcall H__law_gate_right (hr.mono (by decide)) hgd rfl (passes_call (takes_of rfl rfl rfl rfl) fun _ _ _ _ h => h) (da_cons (de_ix hu (dv 0) de_int) (da_cons (de_ix hu (dv 1) de_int) (da_cons (de_ix hu (dv 0) de_int) (da_cons (de_ix hu (dv 1) de_int) da_nil))))))))
/-! ### law -/
abbrev s_law : Stmt := top 16
def b_law_1 : FS := (sSeq (sSet 6 (eCallF 2 c__law_other [] (aCons (eVar 2) (aCons (eVar 4) aNil))))
  (sSeq (sSet 7 (eCall gRepr (aCons (eFz (nLst (aCons (eVar 4) (aCons (eVar 6) aNil)))) aNil)))
  (sSeq (sSet 8 (eCallF 2 c_is_extension [] (aCons (eVar 4) (aCons (eVar 6) aNil))))
  (sSeq (sIf (tOr (tNot (eT (eCall gIsi (aCons (eVar 8) (aCons (eC (.ty "bool")) aNil))))) (eT (eBin gNe (eVar 8) (eCallF 2 c__law_is_extension [] (aCons (eVar 4) (aCons (eVar 6) aNil)))))) (sRet (eC (.bool false))) sNil)
  (sSeq (sIf (eT (eBin gNe (eCall gRepr (aCons (eFz (nLst (aCons (eVar 4) (aCons (eVar 6) aNil)))) aNil)) (eVar 7))) (sRet (eC (.bool false))) sNil)
  (sSeq (sSet 9 (eCallF 2 c__law_other [] (aCons (eVar 2) (aCons (eVar 6) aNil))))
  (sSeq (sIf (eT (eBin gNe (eCallF 2 c_is_extension [] (aCons (eVar 6) (aCons (eVar 9) aNil))) (eCallF 2 c__law_is_extension [] (aCons (eVar 6) (aCons (eVar 9) aNil))))) (sRet (eC (.bool false))) sNil)
  (sIf (tAnd (eT (eVar 8)) (tAnd (eT (eCallF 2 c_is_extension [] (aCons (eVar 6) (aCons (eVar 9) aNil)))) (tNot (eT (eCallF 2 c_is_extension [] (aCons (eVar 4) (aCons (eVar 9) aNil))))))) (sRet (eC (.bool false))) sNil))))))))
def b_law_2 : FS := (sSeq (sSet 2 (eCallF 2 c__law_feed [] (aCons (eVar 0) (aCons (eVar 1) aNil))))
  (sSeq (sSet 3 (eCallF 1 c__law_kinds [] (aCons (eVar 2) aNil)))
  (sSeq (sSet 4 (eCallF 3 c__law_log [] (aCons (eVar 2) (aCons (eVar 3) (aCons (eCallF 2 c__law_take [] (aCons (eVar 2) (aCons (eC (.int 6)) aNil))) aNil)))))
  (sSeq (sIf (eT (eBin gIsNot (eCallF 2 c_is_extension [] (aCons (eVar 4) (aCons (eVar 4) aNil))) (eC (.bool true)))) (sRet (eC (.bool false))) sNil)
  (sFor (iRange1 (aCons (eC (.int 10)) aNil)) (.nm 5) b_law_1)))))
def b_law : FS := (sSeq (sFor (iRange1 (aCons (eCall gMax2 (aCons (eC (.int 1)) (aCons (eCall gMin2 (aCons (eC (.int 4)) (aCons (eCall gLen (aCons (eVar 0) aNil)) aNil))) aNil))) aNil)) (.nm 1) b_law_2)
  (sRet (eC (.bool true))))
def c_law : List D → Mu → Res D := runDef 10 b_law
theorem sc_law : FnScope ["script", "index", "feed", "kinds", "log", "turn", "other", "before", "found", "third"] ["script"] (defScope s_law) := ⟨rfl, rfl, rfl, by decide +kernel, rfl, by decide +kernel, by decide +kernel⟩
theorem ok_law {f : Addr} {fd : FuncData} (F : Fun K "law" "law" s_law f fd) (B : Bi mg) (hsm : ∃ o, base.get? sysModules = some o) (H__law_feed : Has P w K mg base 1 "_law_feed" 2 [] c__law_feed) (H__law_kinds : Has P w K mg base 4 "_law_kinds" 1 [] c__law_kinds) (H__law_log : Has P w K mg base 4 "_law_log" 3 [] c__law_log) (H__law_take : Has P w K mg base 1 "_law_take" 2 [] c__law_take) (H_is_extension : Has P w K mg base 2 "is_extension" 2 [] c_is_extension) (H__law_other : Has P w K mg base 5 "_law_other" 2 [] c__law_other) (H__law_is_extension : Has P w K mg base 2 "_law_is_extension" 2 [] c__law_is_extension) : FnT P w K mg base 6 f fd ["script"] c_law := by
  refine fn_ok F sc_law fun cdv A outer s H E hr hgd => ?_
  have hu := hr.units
  exact (dss_cons (ds_for (passes_of rfl) rfl (di_range1 rfl B.range_ (da_cons (de_callB (cal_max2 rfl) rfl B.max_ rfl (da_cons de_int (da_cons (de_callB (cal_min2 rfl) rfl B.min_ rfl (da_cons de_int (da_cons (de_callB cal_len rfl B.len_ rfl (da_cons (dv 0) da_nil)) da_nil))) da_nil))) da_nil)) (gt_nm sc_law.nd rfl (by first | exact Or.inl rfl | exact Or.inr rfl)) (dss_cons (ds_set sc_law.nd rfl (by first | exact Or.inl rfl | exact Or.inr rfl) (dcall H__law_feed (hr.mono (by decide)) hgd rfl (passes_call (takes_of rfl rfl rfl rfl) fun _ _ _ _ h => h) (da_cons (dv 0) (da_cons (dv 1) da_nil))))
  (dss_cons (ds_set sc_law.nd rfl (by first | exact Or.inl rfl | exact Or.inr rfl) (dcall H__law_kinds (hr.mono (by decide)) hgd rfl (passes_call (takes_of rfl rfl rfl rfl) fun _ _ _ _ h => h) (da_cons (dv 2) da_nil)))
  (dss_cons (ds_set sc_law.nd rfl (by first | exact Or.inl rfl | exact Or.inr rfl) (dcall H__law_log (hr.mono (by decide)) hgd rfl (passes_call (takes_of rfl rfl rfl rfl) fun _ _ _ _ h => h) (da_cons (dv 2) (da_cons (dv 3) (da_cons (dcall H__law_take (hr.mono (by decide)) hgd rfl (passes_call (takes_of rfl rfl rfl rfl) fun _ _ _ _ h => h) (da_cons (dv 2) (da_cons de_int da_nil))) da_nil)))))
  (dss_cons (ds_if (dt_cmp o2_isnot (dcall H_is_extension (hr.mono (by decide)) hgd rfl (passes_call (takes_of rfl rfl rfl rfl) fun _ _ _ _ h => h) (da_cons (dv 4) (da_cons (dv 4) da_nil))) de_bool (nomark _)) (dss_one (ds_ret de_bool)) dss_nil)
  (dss_one (ds_for (passes_of rfl) rfl (di_range1 rfl B.range_ (da_cons de_int da_nil)) (gt_nm sc_law.nd rfl (by first | exact Or.inl rfl | exact Or.inr rfl)) (dss_cons (ds_set sc_law.nd rfl (by first | exact Or.inl rfl | exact Or.inr rfl) (dcall H__law_other (hr.mono (by decide)) hgd rfl (passes_call (takes_of rfl rfl rfl rfl) fun _ _ _ _ h => h) (da_cons (dv 2) (da_cons (dv 4) da_nil))))
  (dss_cons (ds_set sc_law.nd rfl (by first | exact Or.inl rfl | exact Or.inr rfl) (de_callB (cal_repr hu hgd hsm) rfl B.repr_ rfl (da_cons (de_fz (dn_lst (da_cons (dv 4) (da_cons (dv 6) da_nil)))) da_nil)))
  (dss_cons (ds_set sc_law.nd rfl (by first | exact Or.inl rfl | exact Or.inr rfl) (dcall H_is_extension (hr.mono (by decide)) hgd rfl (passes_call (takes_of rfl rfl rfl rfl) fun _ _ _ _ h => h) (da_cons (dv 4) (da_cons (dv 6) da_nil))))
  (dss_cons (ds_if (dt_w (dw_or (dt_not (dt_val (de_callB cal_isi rfl B.isinstance_ rfl (da_cons (dv 8) (da_cons (de_ty rfl B.bool_ rfl) da_nil))))) (dw_or1 (dt_cmp (o2_ne hu) (dv 8) (dcall H__law_is_extension (hr.mono (by decide)) hgd rfl (passes_call (takes_of rfl rfl rfl rfl) fun _ _ _ _ h => h) (da_cons (dv 4) (da_cons (dv 6) da_nil))) (nomark _))))) (dss_one (ds_ret de_bool)) dss_nil)
  (dss_cons (ds_if (dt_cmp (o2_ne hu) (de_callB (cal_repr hu hgd hsm) rfl B.repr_ rfl (da_cons (de_fz (dn_lst (da_cons (dv 4) (da_cons (dv 6) da_nil)))) da_nil)) (dv 7) (nomark _)) (dss_one (ds_ret de_bool)) dss_nil)
  (dss_cons (ds_set sc_law.nd rfl (by first | exact Or.inl rfl | exact Or.inr rfl) (dcall H__law_other (hr.mono (by decide)) hgd rfl (passes_call (takes_of rfl rfl rfl rfl) fun _ _ _ _ h => h) (da_cons (dv 2) (da_cons (dv 6) da_nil))))
  (dss_cons (ds_if (dt_cmp (o2_ne hu) (dcall H_is_extension (hr.mono (by decide)) hgd rfl (passes_call (takes_of rfl rfl rfl rfl) fun _ _ _ _ h => h) (da_cons (dv 6) (da_cons (dv 9) da_nil))) (dcall H__law_is_extension (hr.mono (by decide)) hgd rfl (passes_call (takes_of rfl rfl rfl rfl) fun _ _ _ _ h => h) (da_cons (dv 6) (da_cons (dv 9) da_nil))) (nomark _)) (dss_one (ds_ret de_bool)) dss_nil)
  (dss_one (ds_if (dt_w (dw_and (dt_val (dv 8)) (dw_and (dt_val (dcall H_is_extension (hr.mono (by decide)) hgd rfl (passes_call (takes_of rfl rfl rfl rfl) fun _ _ _ _ h => h) (da_cons (dv 6) (da_cons (dv 9) da_nil)))) (dw_and1 (dt_not (dt_val (dcall H_is_extension (hr.mono (by decide)) hgd rfl (passes_call (takes_of rfl rfl rfl rfl) fun _ _ _ _ h => h) (da_cons (dv 4) (da_cons (dv 9) da_nil))))))))) (dss_one (ds_ret de_bool)) dss_nil))))))))))))))))
  (dss_one (ds_ret de_bool)))
end
theorem all_mk {l : PySem.W.OpenLaw} {w : World} {K : PySem.W.Frag} {h : Heap} {mg : Str → Option Value} {fa f0 f1 f2 f3 f4 f5 f6 f7 f8 f9 f10 f11 f12 f13 : Addr} (X : K.In h) (G : h.Ns mainGlobals mg) (hfa : mg "law" = some (.ref fa))
    {od0 an0 od1 an1 od2 an2 od3 an3 od4 an4 od5 an5 od6 an6 od7 an7 od8 an8 od9 an9 od10 an10 od11 an11 od12 an12 od13 an13 : Option Addr} {sl0 sl1 sl2 sl3 sl4 sl5 sl6 sl7 sl8 sl9 sl10 sl11 sl12 sl13 : Array (Option Value)} {oc0 kV0 dc0 pm0 cd0 ct0 oc1 kV1 dc1 pm1 cd1 ct1 oc2 kV2 dc2 pm2 cd2 ct2 oc3 kV3 dc3 pm3 cd3 ct3 oc4 kV4 dc4 pm4 cd4 ct4 oc5 kV5 dc5 pm5 cd5 ct5 oc6 kV6 dc6 pm6 cd6 ct6 oc7 kV7 dc7 pm7 cd7 ct7 oc8 kV8 dc8 pm8 cd8 ct8 oc9 kV9 dc9 pm9 cd9 ct9 oc10 kV10 dc10 pm10 cd10 ct10 oc11 kV11 dc11 pm11 cd11 ct11 oc12 kV12 dc12 pm12 cd12 ct12 oc13 kV13 dc13 pm13 cd13 ct13 v_CLOSED : Value}
    (a0 : PySem.W.nsIn K mainGlobals "_law_feed" = some (some (.ref f0)))
    (l0 : K.lookup f0 = some ⟨oc0, od0, .func (PySem.W.fnOf "_law_feed" "_law_feed" (defArgs s__law_feed) (defBody s__law_feed) (defScope s__law_feed) .none kV0 dc0 pm0 an0 cd0 ct0), sl0⟩)
    (c0 : PySem.W.codeIn K cd0 "_law_feed" = true)
    (k0 : PySem.W.keepIn K (.ref f0) = true)
    (a1 : PySem.W.nsIn K mainGlobals "_law_take" = some (some (.ref f1)))
    (l1 : K.lookup f1 = some ⟨oc1, od1, .func (PySem.W.fnOf "_law_take" "_law_take" (defArgs s__law_take) (defBody s__law_take) (defScope s__law_take) .none kV1 dc1 pm1 an1 cd1 ct1), sl1⟩)
    (c1 : PySem.W.codeIn K cd1 "_law_take" = true)
    (k1 : PySem.W.keepIn K (.ref f1) = true)
    (a2 : PySem.W.nsIn K mainGlobals "_law_pick" = some (some (.ref f2)))
    (l2 : K.lookup f2 = some ⟨oc2, od2, .func (PySem.W.fnOf "_law_pick" "_law_pick" (defArgs s__law_pick) (defBody s__law_pick) (defScope s__law_pick) .none kV2 dc2 pm2 an2 cd2 ct2), sl2⟩)
    (c2 : PySem.W.codeIn K cd2 "_law_pick" = true)
    (k2 : PySem.W.keepIn K (.ref f2) = true)
    (a3 : PySem.W.nsIn K mainGlobals "_law_names" = some (some (.ref f3)))
    (l3 : K.lookup f3 = some ⟨oc3, od3, .func (PySem.W.fnOf "_law_names" "_law_names" (defArgs s__law_names) (defBody s__law_names) (defScope s__law_names) .none kV3 dc3 pm3 an3 cd3 ct3), sl3⟩)
    (c3 : PySem.W.codeIn K cd3 "_law_names" = true)
    (k3 : PySem.W.keepIn K (.ref f3) = true)
    (a4 : PySem.W.nsIn K mainGlobals "_law_kinds" = some (some (.ref f4)))
    (l4 : K.lookup f4 = some ⟨oc4, od4, .func (PySem.W.fnOf "_law_kinds" "_law_kinds" (defArgs s__law_kinds) (defBody s__law_kinds) (defScope s__law_kinds) .none kV4 dc4 pm4 an4 cd4 ct4), sl4⟩)
    (c4 : PySem.W.codeIn K cd4 "_law_kinds" = true)
    (k4 : PySem.W.keepIn K (.ref f4) = true)
    (a5 : PySem.W.nsIn K mainGlobals "_law_plate" = some (some (.ref f5)))
    (l5 : K.lookup f5 = some ⟨oc5, od5, .func (PySem.W.fnOf "_law_plate" "_law_plate" (defArgs s__law_plate) (defBody s__law_plate) (defScope s__law_plate) .none kV5 dc5 pm5 an5 cd5 ct5), sl5⟩)
    (c5 : PySem.W.codeIn K cd5 "_law_plate" = true)
    (k5 : PySem.W.keepIn K (.ref f5) = true)
    (a6 : PySem.W.nsIn K mainGlobals "_law_log" = some (some (.ref f6)))
    (l6 : K.lookup f6 = some ⟨oc6, od6, .func (PySem.W.fnOf "_law_log" "_law_log" (defArgs s__law_log) (defBody s__law_log) (defScope s__law_log) .none kV6 dc6 pm6 an6 cd6 ct6), sl6⟩)
    (c6 : PySem.W.codeIn K cd6 "_law_log" = true)
    (k6 : PySem.W.keepIn K (.ref f6) = true)
    (a7 : PySem.W.nsIn K mainGlobals "gate_extends" = some (some (.ref f7)))
    (l7 : K.lookup f7 = some ⟨oc7, od7, .func (PySem.W.fnOf "gate_extends" "gate_extends" (defArgs s_gate_extends) (defBody s_gate_extends) (defScope s_gate_extends) .none kV7 dc7 pm7 an7 cd7 ct7), sl7⟩)
    (c7 : PySem.W.codeIn K cd7 "gate_extends" = true)
    (k7 : PySem.W.keepIn K (.ref f7) = true)
    (a8 : PySem.W.nsIn K mainGlobals "is_extension" = some (some (.ref f8)))
    (l8 : K.lookup f8 = some ⟨oc8, od8, .func (PySem.W.fnOf "is_extension" "is_extension" (defArgs s_is_extension) (defBody s_is_extension) (defScope s_is_extension) .none kV8 dc8 pm8 an8 cd8 ct8), sl8⟩)
    (c8 : PySem.W.codeIn K cd8 "is_extension" = true)
    (k8 : PySem.W.keepIn K (.ref f8) = true)
    (a9 : PySem.W.nsIn K mainGlobals "_law_other_gate" = some (some (.ref f9)))
    (l9 : K.lookup f9 = some ⟨oc9, od9, .func (PySem.W.fnOf "_law_other_gate" "_law_other_gate" (defArgs s__law_other_gate) (defBody s__law_other_gate) (defScope s__law_other_gate) .none kV9 dc9 pm9 an9 cd9 ct9), sl9⟩)
    (c9 : PySem.W.codeIn K cd9 "_law_other_gate" = true)
    (k9 : PySem.W.keepIn K (.ref f9) = true)
    (a10 : PySem.W.nsIn K mainGlobals "_law_other" = some (some (.ref f10)))
    (l10 : K.lookup f10 = some ⟨oc10, od10, .func (PySem.W.fnOf "_law_other" "_law_other" (defArgs s__law_other) (defBody s__law_other) (defScope s__law_other) .none kV10 dc10 pm10 an10 cd10 ct10), sl10⟩)
    (c10 : PySem.W.codeIn K cd10 "_law_other" = true)
    (k10 : PySem.W.keepIn K (.ref f10) = true)
    (a11 : PySem.W.nsIn K mainGlobals "_law_gate_right" = some (some (.ref f11)))
    (l11 : K.lookup f11 = some ⟨oc11, od11, .func (PySem.W.fnOf "_law_gate_right" "_law_gate_right" (defArgs s__law_gate_right) (defBody s__law_gate_right) (defScope s__law_gate_right) .none kV11 dc11 pm11 an11 cd11 ct11), sl11⟩)
    (c11 : PySem.W.codeIn K cd11 "_law_gate_right" = true)
    (k11 : PySem.W.keepIn K (.ref f11) = true)
    (a12 : PySem.W.nsIn K mainGlobals "_law_is_extension" = some (some (.ref f12)))
    (l12 : K.lookup f12 = some ⟨oc12, od12, .func (PySem.W.fnOf "_law_is_extension" "_law_is_extension" (defArgs s__law_is_extension) (defBody s__law_is_extension) (defScope s__law_is_extension) .none kV12 dc12 pm12 an12 cd12 ct12), sl12⟩)
    (c12 : PySem.W.codeIn K cd12 "_law_is_extension" = true)
    (k12 : PySem.W.keepIn K (.ref f12) = true)
    (a13 : PySem.W.nsIn K mainGlobals "law" = some (some (.ref f13)))
    (l13 : K.lookup f13 = some ⟨oc13, od13, .func (PySem.W.fnOf "law" "law" (defArgs s_law) (defBody s_law) (defScope s_law) .none kV13 dc13 pm13 an13 cd13 ct13), sl13⟩)
    (c13 : PySem.W.codeIn K cd13 "law" = true)
    (k13 : PySem.W.keepIn K (.ref f13) = true)
    (z_abs : PySem.W.nsIn K mainGlobals "abs" = some none)
    (z_all : PySem.W.nsIn K mainGlobals "all" = some none)
    (z_bool : PySem.W.nsIn K mainGlobals "bool" = some none)
    (z_isinstance : PySem.W.nsIn K mainGlobals "isinstance" = some none)
    (z_len : PySem.W.nsIn K mainGlobals "len" = some none)
    (z_list : PySem.W.nsIn K mainGlobals "list" = some none)
    (z_max : PySem.W.nsIn K mainGlobals "max" = some none)
    (z_min : PySem.W.nsIn K mainGlobals "min" = some none)
    (z_range : PySem.W.nsIn K mainGlobals "range" = some none)
    (z_repr : PySem.W.nsIn K mainGlobals "repr" = some none)
    (z_sorted : PySem.W.nsIn K mainGlobals "sorted" = some none)
    (y_CLOSED : PySem.W.nsIn K mainGlobals "CLOSED" = some (some v_CLOSED))
    (r_CLOSED : RelV (V.str "closed") v_CLOSED)
    : ∃ fd : FuncData, (∀ (s : Shared) (u : Value), BindsTo s fd ⟨[u], []⟩ [("script", u)]) ∧ ∀ base : Heap, K.In base → base.Ns mainGlobals mg → (∃ o, base.get? sysModules = some o) → FnT l.prog w K mg base 6 fa fd ["script"] c_law := by
  have e := hfa.symm.trans (PySem.W.mg_of X G a13)
  cases e
  have B : Bi mg := ⟨PySem.W.mg_none_of X G z_abs, PySem.W.mg_none_of X G z_all, PySem.W.mg_none_of X G z_bool, PySem.W.mg_none_of X G z_isinstance, PySem.W.mg_none_of X G z_len, PySem.W.mg_none_of X G z_list, PySem.W.mg_none_of X G z_max, PySem.W.mg_none_of X G z_min, PySem.W.mg_none_of X G z_range, PySem.W.mg_none_of X G z_repr, PySem.W.mg_none_of X G z_sorted, ⟨_, PySem.W.mg_of X G y_CLOSED, r_CLOSED⟩⟩
  have F0 := fun_mk (st := s__law_feed) l0 c0 k0
  have b0 := F0.binds (ps := ["script", "index"]) fun _ _ _ _ _ _ us hl => match us, hl with | [_, _], _ => rfl
  have F1 := fun_mk (st := s__law_take) l1 c1 k1
  have b1 := F1.binds (ps := ["feed", "size"]) fun _ _ _ _ _ _ us hl => match us, hl with | [_, _], _ => rfl
  have F2 := fun_mk (st := s__law_pick) l2 c2 k2
  have b2 := F2.binds (ps := ["feed", "options"]) fun _ _ _ _ _ _ us hl => match us, hl with | [_, _], _ => rfl
  have F3 := fun_mk (st := s__law_names) l3 c3 k3
  have b3 := F3.binds (ps := ["feed", "size"]) fun _ _ _ _ _ _ us hl => match us, hl with | [_, _], _ => rfl
  have F4 := fun_mk (st := s__law_kinds) l4 c4 k4
  have b4 := F4.binds (ps := ["feed"]) fun _ _ _ _ _ _ us hl => match us, hl with | [_], _ => rfl
  have F5 := fun_mk (st := s__law_plate) l5 c5 k5
  have b5 := F5.binds (ps := ["feed"]) fun _ _ _ _ _ _ us hl => match us, hl with | [_], _ => rfl
  have F6 := fun_mk (st := s__law_log) l6 c6 k6
  have b6 := F6.binds (ps := ["feed", "kinds", "size"]) fun _ _ _ _ _ _ us hl => match us, hl with | [_, _, _], _ => rfl
  have F7 := fun_mk (st := s_gate_extends) l7 c7 k7
  have b7 := F7.binds (ps := ["lines", "more_lines", "floor", "later_floor"]) fun _ _ _ _ _ _ us hl => match us, hl with | [_, _, _, _], _ => rfl
  have F8 := fun_mk (st := s_is_extension) l8 c8 k8
  have b8 := F8.binds (ps := ["log", "other"]) fun _ _ _ _ _ _ us hl => match us, hl with | [_, _], _ => rfl
  have F9 := fun_mk (st := s__law_other_gate) l9 c9 k9
  have b9 := F9.binds (ps := ["feed", "lines", "floor"]) fun _ _ _ _ _ _ us hl => match us, hl with | [_, _, _], _ => rfl
  have F10 := fun_mk (st := s__law_other) l10 c10 k10
  have b10 := F10.binds (ps := ["feed", "log"]) fun _ _ _ _ _ _ us hl => match us, hl with | [_, _], _ => rfl
  have F11 := fun_mk (st := s__law_gate_right) l11 c11 k11
  have b11 := F11.binds (ps := ["lines", "others", "floor", "later"]) fun _ _ _ _ _ _ us hl => match us, hl with | [_, _, _, _], _ => rfl
  have F12 := fun_mk (st := s__law_is_extension) l12 c12 k12
  have b12 := F12.binds (ps := ["log", "other"]) fun _ _ _ _ _ _ us hl => match us, hl with | [_, _], _ => rfl
  refine ⟨PySem.W.fnOf "law" "law" (defArgs s_law) (defBody s_law) (defScope s_law) .none kV13 dc13 pm13 an13 cd13 ct13, fun s v => .of_eq rfl, fun base _ _ hsm => ?_⟩
  have H__law_feed : Has l.prog w K mg base 1 "_law_feed" 2 [] c__law_feed := Has.mk0 (ok__law_feed F0 B hsm ) (PySem.W.mg_of X G a0) k0 b0
  have H__law_take : Has l.prog w K mg base 1 "_law_take" 2 [] c__law_take := Has.mk0 (ok__law_take F1 B hsm ) (PySem.W.mg_of X G a1) k1 b1
  have H__law_pick : Has l.prog w K mg base 2 "_law_pick" 2 [] c__law_pick := Has.mk0 (ok__law_pick F2 B hsm H__law_take) (PySem.W.mg_of X G a2) k2 b2
  have H__law_names : Has l.prog w K mg base 3 "_law_names" 2 [] c__law_names := Has.mk0 (ok__law_names F3 B hsm H__law_take H__law_pick) (PySem.W.mg_of X G a3) k3 b3
  have H__law_kinds : Has l.prog w K mg base 4 "_law_kinds" 1 [] c__law_kinds := Has.mk0 (ok__law_kinds F4 B hsm H__law_names H__law_take H__law_pick) (PySem.W.mg_of X G a4) k4 b4
  have H__law_plate : Has l.prog w K mg base 3 "_law_plate" 1 [] c__law_plate := Has.mk0 (ok__law_plate F5 B hsm H__law_pick) (PySem.W.mg_of X G a5) k5 b5
  have H__law_log : Has l.prog w K mg base 4 "_law_log" 3 [] c__law_log := Has.mk0 (ok__law_log F6 B hsm H__law_pick H__law_plate H__law_take) (PySem.W.mg_of X G a6) k6 b6
  have H_gate_extends : Has l.prog w K mg base 1 "gate_extends" 4 [] c_gate_extends := Has.mk0 (ok_gate_extends F7 B hsm ) (PySem.W.mg_of X G a7) k7 b7
  have H_is_extension : Has l.prog w K mg base 2 "is_extension" 2 [] c_is_extension := Has.mk0 (ok_is_extension F8 B hsm H_gate_extends) (PySem.W.mg_of X G a8) k8 b8
  have H__law_other_gate : Has l.prog w K mg base 4 "_law_other_gate" 3 [] c__law_other_gate := Has.mk0 (ok__law_other_gate F9 B hsm H__law_take H__law_pick H__law_plate) (PySem.W.mg_of X G a9) k9 b9
  have H__law_other : Has l.prog w K mg base 5 "_law_other" 2 [] c__law_other := Has.mk0 (ok__law_other F10 B hsm H__law_other_gate) (PySem.W.mg_of X G a10) k10 b10
  have H__law_gate_right : Has l.prog w K mg base 1 "_law_gate_right" 4 [] c__law_gate_right := Has.mk0 (ok__law_gate_right F11 B hsm ) (PySem.W.mg_of X G a11) k11 b11
  have H__law_is_extension : Has l.prog w K mg base 2 "_law_is_extension" 2 [] c__law_is_extension := Has.mk0 (ok__law_is_extension F12 B hsm H__law_gate_right) (PySem.W.mg_of X G a12) k12 b12
  exact ok_law (fun_mk (st := s_law) l13 c13 k13) B hsm H__law_feed H__law_kinds H__law_log H__law_take H_is_extension H__law_other H__law_is_extension
end GP

set_option Elab.async false
set_option maxRecDepth 100000
set_option maxHeartbeats 1000000
set_option linter.all false
namespace GP
open PySem PySem.Spec PyProof.Rows L2 TL
/-! ### the drawn numbers -/
theorem take_w {n : Nat} {m : Int} {μ : Mu} {P : D → Mu → Prop} (hf : FeedAt n μ) (h0 : 0 < m) (h1 : m < 1073741824) (h : ∀ (r : Int) (μ' : Mu), 0 ≤ r → r < m → Dr n μ μ' → P (.int r) μ') : W (c__law_take [.loc n, .int m] μ) P := by
  obtain ⟨a, b, hab⟩ := hf
  have hn : n < μ.length := (List.getElem?_eq_some_iff.mp hab).1
  have get0 : ∀ (ν : Mu) (x y : Int), ν[n]? = some (some (.list [.int x, .int y])) → gIx ν (.loc n) (.int 0) = some (.int x) := fun ν x y e => by simp [gIx, dctV, seqR, e, atI, ixN]
  have get1 : ∀ (ν : Mu) (x y : Int), ν[n]? = some (some (.list [.int x, .int y])) → gIx ν (.loc n) (.int 1) = some (.int y) := fun ν x y e => by simp [gIx, dctV, seqR, e, atI, ixN]
  have set0 : ∀ (x : Int), setV μ (.loc n) (.int 0) (.int x) = some (μ.set n (some (.list [.int x, .int b]))) := fun x => by simp [setV, hab, ixN]
  have set1 : ∀ (x : Int), setV μ (.loc n) (.int 1) (.int x) = some (μ.set n (some (.list [.int a, .int x]))) := fun x => by simp [setV, hab, ixN]
  unfold c__law_take b__law_take b__law_take_1
  simp -implicitDefEqProofs only [get0 μ a b hab, get1 μ a b hab, set0, set1, W_bind, W_ok, W_bad, W_ex, W_noEx, W_ite, W_some, W_none, W_chk, W_map, W_obind, W_run, runK_nx, runK_rt, onBody, sNil, W_seq, seqK_nx, seqK_rt, seqK_bk, seqK_ct, sBk, sCt, sExpr, sRet, sRetN, sIf, sSet, sAsg, sPar2, sFor, sDel, eVar, eC, eBin, eUn, eT, boolOf, W_chain, thenB_ok, thenB_b, ok_bind, ofO_some, and_ok, or_ok, and_okD, or_okD, TL.tAnd, TL.tOr, TL.tNot, tTrue, eAnd, eOr, eNot, eIf, aNil, aCons, eTup, eFz, eNew, eFrz, frzD, nLst, nCall, eCall, eCallF, eSl, oNone, oSome, nComp, nCompK, nCat, catO_ll, catO_last, gAdd_last, gAppend_last, isTy_last, size_lt, mergeD_1, nEmpty, nDisp, pNil, pCons, iVal, iRange1, iRange2, iEnumF, iZipF, iItemsF, kRange1, kRange2, kEnum, kZip, kItems, cellD, eMeth, startD, tgSet, tgSets, wipeD, List.map_cons, List.map_nil, List.length_cons, List.length_nil, List.replicate_succ, List.replicate_zero, List.cons_append, List.nil_append, List.append_nil, List.getElem?_cons_zero, List.getElem?_cons_succ, List.getElem?_nil, List.set_cons_zero, List.set_cons_succ, List.set_nil, Nat.reduceAdd, Nat.reduceSub, Nat.reduceEqDiff, if_true, ite_true, if_false, ite_false, Nat.zero_add, gAdd_ii, gAdd_ss, gAdd_tt, gAdd_ll, gSub_ii, gMul_ii, gMul_si, gMul_li, gDiv_ii, gMod_ii, gPow_ii, gNeg_i, gLt_ii, gLe_ii, gGt_ii, gGe_ii, gIs_n, gIsNot_n, gIs_b, gIsNot_b, gAbs_i, gMax2_ii, gMin2_ii, gLen_s, gLen_l, gLen_t, gLen_d, gLen_r, gIx_l, gIx_t, gIx_d, gIx_r, gList_d, gList_l, gList_t, gDict_d, gTuple_t, gTuple_l, atI_0, atI_1, atI_2, atI_3, keyOf, W_sub, W_must, mulOk_r, mulOk_l, size_lit, some_ex, decide_eq_true_eq, decide_true, decide_false, Bool.and_eq_true, Bool.true_and, Bool.and_true, Bool.and_self, Bool.not_true, Bool.not_false, true_and, and_true, true_implies, Bool.false_eq_true, false_implies, not_false_eq_true, not_true_eq_false, Int.reduceLT, Int.reduceLE, Int.reducePow, Int.reduceToNat, Int.reduceNeg, Int.reduceAdd, Int.reduceSub, Int.reduceMul, Nat.reduceLT, Nat.reduceLeDiff, Nat.reducePow, decide_eq_false_iff_not, Option.map_some, Option.map_none, Option.bind_some, Option.bind_none]
  have ms : ∀ ν : Mu, (∃ x y : Int, ν = μ.set n (some (.list [.int x, .int y]))) → ∀ r : Int, 0 ≤ r → r < m → W (retV μ ν (.int r)) P := fun ν ⟨x, y, e⟩ r r0 r1 => by
    have d : Dr n μ ν := ⟨x, y, e⟩
    exact W_retD d rfl (h r ν r0 r1 d)
  refine ⟨fun hp => ⟨h0, ⟨h0, h1⟩, ?_⟩, fun hp => ?_⟩
  · exact ms _ ⟨_, _, rfl⟩ _ (Int.emod_nonneg _ (by omega)) (Int.emod_lt_of_pos _ h0)
  · rw [get1 _ a _ (by rw [List.getElem?_set_self hn])]
    try simp -implicitDefEqProofs only [W_bind, W_ok, W_bad, W_ex, W_noEx, W_ite, W_some, W_none, W_chk, W_map, W_obind, W_run, runK_nx, runK_rt, onBody, sNil, W_seq, seqK_nx, seqK_rt, seqK_bk, seqK_ct, sBk, sCt, sExpr, sRet, sRetN, sIf, sSet, sAsg, sPar2, sFor, sDel, eVar, eC, eBin, eUn, eT, boolOf, W_chain, thenB_ok, thenB_b, ok_bind, ofO_some, and_ok, or_ok, and_okD, or_okD, TL.tAnd, TL.tOr, TL.tNot, tTrue, eAnd, eOr, eNot, eIf, aNil, aCons, eTup, eFz, eNew, eFrz, frzD, nLst, nCall, eCall, eCallF, eSl, oNone, oSome, nComp, nCompK, nCat, catO_ll, catO_last, gAdd_last, gAppend_last, isTy_last, size_lt, mergeD_1, nEmpty, nDisp, pNil, pCons, iVal, iRange1, iRange2, iEnumF, iZipF, iItemsF, kRange1, kRange2, kEnum, kZip, kItems, cellD, eMeth, startD, tgSet, tgSets, wipeD, List.map_cons, List.map_nil, List.length_cons, List.length_nil, List.replicate_succ, List.replicate_zero, List.cons_append, List.nil_append, List.append_nil, List.getElem?_cons_zero, List.getElem?_cons_succ, List.getElem?_nil, List.set_cons_zero, List.set_cons_succ, List.set_nil, Nat.reduceAdd, Nat.reduceSub, Nat.reduceEqDiff, if_true, ite_true, if_false, ite_false, Nat.zero_add, gAdd_ii, gAdd_ss, gAdd_tt, gAdd_ll, gSub_ii, gMul_ii, gMul_si, gMul_li, gDiv_ii, gMod_ii, gPow_ii, gNeg_i, gLt_ii, gLe_ii, gGt_ii, gGe_ii, gIs_n, gIsNot_n, gIs_b, gIsNot_b, gAbs_i, gMax2_ii, gMin2_ii, gLen_s, gLen_l, gLen_t, gLen_d, gLen_r, gIx_l, gIx_t, gIx_d, gIx_r, gList_d, gList_l, gList_t, gDict_d, gTuple_t, gTuple_l, atI_0, atI_1, atI_2, atI_3, keyOf, W_sub, W_must, mulOk_r, mulOk_l, size_lit, some_ex, decide_eq_true_eq, decide_true, decide_false, Bool.and_eq_true, Bool.true_and, Bool.and_true, Bool.and_self, Bool.not_true, Bool.not_false, true_and, and_true, true_implies, Bool.false_eq_true, false_implies, not_false_eq_true, not_true_eq_false, Int.reduceLT, Int.reduceLE, Int.reducePow, Int.reduceToNat, Int.reduceNeg, Int.reduceAdd, Int.reduceSub, Int.reduceMul, Nat.reduceLT, Nat.reduceLeDiff, Nat.reducePow, decide_eq_false_iff_not, Option.map_some, Option.map_none, Option.bind_some, Option.bind_none]
    exact ⟨h0, ms _ ⟨_, _, rfl⟩ _ (Int.emod_nonneg _ (by omega)) (Int.emod_lt_of_pos _ h0)⟩

theorem pick_w {n : Nat} {xs : List D} {μ : Mu} {P : D → Mu → Prop} (hf : FeedAt n μ) (h0 : xs ≠ []) (h1 : xs.length < 1073741824) (ho : okLocs 0 xs = true) (h : ∀ (d : D) (μ' : Mu), d ∈ xs → Dr n μ μ' → P d μ') : W (c__law_pick [.loc n, .list xs] μ) P := by
  unfold c__law_pick b__law_pick
  try simp -implicitDefEqProofs only [W_bind, W_ok, W_bad, W_ex, W_noEx, W_ite, W_some, W_none, W_chk, W_map, W_obind, W_run, runK_nx, runK_rt, onBody, sNil, W_seq, seqK_nx, seqK_rt, seqK_bk, seqK_ct, sBk, sCt, sExpr, sRet, sRetN, sIf, sSet, sAsg, sPar2, sFor, sDel, eVar, eC, eBin, eUn, eT, boolOf, W_chain, thenB_ok, thenB_b, ok_bind, ofO_some, and_ok, or_ok, and_okD, or_okD, TL.tAnd, TL.tOr, TL.tNot, tTrue, eAnd, eOr, eNot, eIf, aNil, aCons, eTup, eFz, eNew, eFrz, frzD, nLst, nCall, eCall, eCallF, eSl, oNone, oSome, nComp, nCompK, nCat, catO_ll, catO_last, gAdd_last, gAppend_last, isTy_last, size_lt, mergeD_1, nEmpty, nDisp, pNil, pCons, iVal, iRange1, iRange2, iEnumF, iZipF, iItemsF, kRange1, kRange2, kEnum, kZip, kItems, cellD, eMeth, startD, tgSet, tgSets, wipeD, List.map_cons, List.map_nil, List.length_cons, List.length_nil, List.replicate_succ, List.replicate_zero, List.cons_append, List.nil_append, List.append_nil, List.getElem?_cons_zero, List.getElem?_cons_succ, List.getElem?_nil, List.set_cons_zero, List.set_cons_succ, List.set_nil, Nat.reduceAdd, Nat.reduceSub, Nat.reduceEqDiff, if_true, ite_true, if_false, ite_false, Nat.zero_add, gAdd_ii, gAdd_ss, gAdd_tt, gAdd_ll, gSub_ii, gMul_ii, gMul_si, gMul_li, gDiv_ii, gMod_ii, gPow_ii, gNeg_i, gLt_ii, gLe_ii, gGt_ii, gGe_ii, gIs_n, gIsNot_n, gIs_b, gIsNot_b, gAbs_i, gMax2_ii, gMin2_ii, gLen_s, gLen_l, gLen_t, gLen_d, gLen_r, gIx_l, gIx_t, gIx_d, gIx_r, gList_d, gList_l, gList_t, gDict_d, gTuple_t, gTuple_l, atI_0, atI_1, atI_2, atI_3, keyOf, W_sub, W_must, mulOk_r, mulOk_l, size_lit, some_ex, decide_eq_true_eq, decide_true, decide_false, Bool.and_eq_true, Bool.true_and, Bool.and_true, Bool.and_self, Bool.not_true, Bool.not_false, true_and, and_true, true_implies, Bool.false_eq_true, false_implies, not_false_eq_true, not_true_eq_false, Int.reduceLT, Int.reduceLE, Int.reducePow, Int.reduceToNat, Int.reduceNeg, Int.reduceAdd, Int.reduceSub, Int.reduceMul, Nat.reduceLT, Nat.reduceLeDiff, Nat.reducePow, decide_eq_false_iff_not, Option.map_some, Option.map_none, Option.bind_some, Option.bind_none]
  have hp : 0 < xs.length := List.length_pos_iff.mpr h0
  refine take_w hf (by omega) (by omega) fun r μ1 r0 r1 d => ?_
  have hr : r.toNat < xs.length := by omega
  have e : gIx μ1 (.list xs) (.int r) = some xs[r.toNat] := by
    simp only [gIx, dctV, seqR, atI, ixN, if_pos r0, if_pos r1, Option.bind_some, List.getElem?_eq_getElem hr]
  rw [e]
  try simp -implicitDefEqProofs only [W_bind, W_ok, W_bad, W_ex, W_noEx, W_ite, W_some, W_none, W_chk, W_map, W_obind, W_run, runK_nx, runK_rt, onBody, sNil, W_seq, seqK_nx, seqK_rt, seqK_bk, seqK_ct, sBk, sCt, sExpr, sRet, sRetN, sIf, sSet, sAsg, sPar2, sFor, sDel, eVar, eC, eBin, eUn, eT, boolOf, W_chain, thenB_ok, thenB_b, ok_bind, ofO_some, and_ok, or_ok, and_okD, or_okD, TL.tAnd, TL.tOr, TL.tNot, tTrue, eAnd, eOr, eNot, eIf, aNil, aCons, eTup, eFz, eNew, eFrz, frzD, nLst, nCall, eCall, eCallF, eSl, oNone, oSome, nComp, nCompK, nCat, catO_ll, catO_last, gAdd_last, gAppend_last, isTy_last, size_lt, mergeD_1, nEmpty, nDisp, pNil, pCons, iVal, iRange1, iRange2, iEnumF, iZipF, iItemsF, kRange1, kRange2, kEnum, kZip, kItems, cellD, eMeth, startD, tgSet, tgSets, wipeD, List.map_cons, List.map_nil, List.length_cons, List.length_nil, List.replicate_succ, List.replicate_zero, List.cons_append, List.nil_append, List.append_nil, List.getElem?_cons_zero, List.getElem?_cons_succ, List.getElem?_nil, List.set_cons_zero, List.set_cons_succ, List.set_nil, Nat.reduceAdd, Nat.reduceSub, Nat.reduceEqDiff, if_true, ite_true, if_false, ite_false, Nat.zero_add, gAdd_ii, gAdd_ss, gAdd_tt, gAdd_ll, gSub_ii, gMul_ii, gMul_si, gMul_li, gDiv_ii, gMod_ii, gPow_ii, gNeg_i, gLt_ii, gLe_ii, gGt_ii, gGe_ii, gIs_n, gIsNot_n, gIs_b, gIsNot_b, gAbs_i, gMax2_ii, gMin2_ii, gLen_s, gLen_l, gLen_t, gLen_d, gLen_r, gIx_l, gIx_t, gIx_d, gIx_r, gList_d, gList_l, gList_t, gDict_d, gTuple_t, gTuple_l, atI_0, atI_1, atI_2, atI_3, keyOf, W_sub, W_must, mulOk_r, mulOk_l, size_lit, some_ex, decide_eq_true_eq, decide_true, decide_false, Bool.and_eq_true, Bool.true_and, Bool.and_true, Bool.and_self, Bool.not_true, Bool.not_false, true_and, and_true, true_implies, Bool.false_eq_true, false_implies, not_false_eq_true, not_true_eq_false, Int.reduceLT, Int.reduceLE, Int.reducePow, Int.reduceToNat, Int.reduceNeg, Int.reduceAdd, Int.reduceSub, Int.reduceMul, Nat.reduceLT, Nat.reduceLeDiff, Nat.reducePow, decide_eq_false_iff_not, Option.map_some, Option.map_none, Option.bind_some, Option.bind_none]
  exact W_retD d (okLocs_mem ho (List.getElem_mem hr)) (h _ _ (List.getElem_mem hr) d)

theorem feed_w {ns : List Int} {k : Int} {μ : Mu} {P : D → Mu → Prop} (hk : 0 ≤ k) (hl : ns.length ≤ 1000) (h : ∀ c : Cell, (∃ a b : Int, c = .list [.int a, .int b]) → P (.loc μ.length) (μ ++ [some c])) : W (c__law_feed [.script ns, .int k] μ) P := by
  unfold c__law_feed b__law_feed
  try simp -implicitDefEqProofs only [W_bind, W_ok, W_bad, W_ex, W_noEx, W_ite, W_some, W_none, W_chk, W_map, W_obind, W_run, runK_nx, runK_rt, onBody, sNil, W_seq, seqK_nx, seqK_rt, seqK_bk, seqK_ct, sBk, sCt, sExpr, sRet, sRetN, sIf, sSet, sAsg, sPar2, sFor, sDel, eVar, eC, eBin, eUn, eT, boolOf, W_chain, thenB_ok, thenB_b, ok_bind, ofO_some, and_ok, or_ok, and_okD, or_okD, TL.tAnd, TL.tOr, TL.tNot, tTrue, eAnd, eOr, eNot, eIf, aNil, aCons, eTup, eFz, eNew, eFrz, frzD, nLst, nCall, eCall, eCallF, eSl, oNone, oSome, nComp, nCompK, nCat, catO_ll, catO_last, gAdd_last, gAppend_last, isTy_last, size_lt, mergeD_1, nEmpty, nDisp, pNil, pCons, iVal, iRange1, iRange2, iEnumF, iZipF, iItemsF, kRange1, kRange2, kEnum, kZip, kItems, cellD, eMeth, startD, tgSet, tgSets, wipeD, List.map_cons, List.map_nil, List.length_cons, List.length_nil, List.replicate_succ, List.replicate_zero, List.cons_append, List.nil_append, List.append_nil, List.getElem?_cons_zero, List.getElem?_cons_succ, List.getElem?_nil, List.set_cons_zero, List.set_cons_succ, List.set_nil, Nat.reduceAdd, Nat.reduceSub, Nat.reduceEqDiff, if_true, ite_true, if_false, ite_false, Nat.zero_add, gAdd_ii, gAdd_ss, gAdd_tt, gAdd_ll, gSub_ii, gMul_ii, gMul_si, gMul_li, gDiv_ii, gMod_ii, gPow_ii, gNeg_i, gLt_ii, gLe_ii, gGt_ii, gGe_ii, gIs_n, gIsNot_n, gIs_b, gIsNot_b, gAbs_i, gMax2_ii, gMin2_ii, gLen_s, gLen_l, gLen_t, gLen_d, gLen_r, gIx_l, gIx_t, gIx_d, gIx_r, gList_d, gList_l, gList_t, gDict_d, gTuple_t, gTuple_l, atI_0, atI_1, atI_2, atI_3, keyOf, W_sub, W_must, mulOk_r, mulOk_l, size_lit, some_ex, decide_eq_true_eq, decide_true, decide_false, Bool.and_eq_true, Bool.true_and, Bool.and_true, Bool.and_self, Bool.not_true, Bool.not_false, true_and, and_true, true_implies, Bool.false_eq_true, false_implies, not_false_eq_true, not_true_eq_false, Int.reduceLT, Int.reduceLE, Int.reducePow, Int.reduceToNat, Int.reduceNeg, Int.reduceAdd, Int.reduceSub, Int.reduceMul, Nat.reduceLT, Nat.reduceLeDiff, Nat.reducePow, decide_eq_false_iff_not, Option.map_some, Option.map_none, Option.bind_some, Option.bind_none]
  have fin : ∀ x y : Int, W (retV μ (μ ++ [some (Cell.list [.int x, .int y])]) (.loc μ.length)) P := fun x y => by
    refine W_retNew (c := Cell.list [.int x, .int y]) (chkMu_self μ _) (Nat.le_refl _) (by simp) (by simp [okCell, okLocs, okLoc]) ?_
    rw [List.take_left]
    exact h _ ⟨_, _, rfl⟩
  refine ⟨fun hlt => ?_, fun _ => fin _ _⟩
  obtain ⟨z, e, hz⟩ := atI_mem (zs := ns.map D.int) hk (by simpa using hlt)
  rw [List.getElem?_map] at hz
  obtain ⟨c, _, rfl⟩ := Option.map_eq_some_iff.mp hz
  rw [e]
  try simp -implicitDefEqProofs only [W_bind, W_ok, W_bad, W_ex, W_noEx, W_ite, W_some, W_none, W_chk, W_map, W_obind, W_run, runK_nx, runK_rt, onBody, sNil, W_seq, seqK_nx, seqK_rt, seqK_bk, seqK_ct, sBk, sCt, sExpr, sRet, sRetN, sIf, sSet, sAsg, sPar2, sFor, sDel, eVar, eC, eBin, eUn, eT, boolOf, W_chain, thenB_ok, thenB_b, ok_bind, ofO_some, and_ok, or_ok, and_okD, or_okD, TL.tAnd, TL.tOr, TL.tNot, tTrue, eAnd, eOr, eNot, eIf, aNil, aCons, eTup, eFz, eNew, eFrz, frzD, nLst, nCall, eCall, eCallF, eSl, oNone, oSome, nComp, nCompK, nCat, catO_ll, catO_last, gAdd_last, gAppend_last, isTy_last, size_lt, mergeD_1, nEmpty, nDisp, pNil, pCons, iVal, iRange1, iRange2, iEnumF, iZipF, iItemsF, kRange1, kRange2, kEnum, kZip, kItems, cellD, eMeth, startD, tgSet, tgSets, wipeD, List.map_cons, List.map_nil, List.length_cons, List.length_nil, List.replicate_succ, List.replicate_zero, List.cons_append, List.nil_append, List.append_nil, List.getElem?_cons_zero, List.getElem?_cons_succ, List.getElem?_nil, List.set_cons_zero, List.set_cons_succ, List.set_nil, Nat.reduceAdd, Nat.reduceSub, Nat.reduceEqDiff, if_true, ite_true, if_false, ite_false, Nat.zero_add, gAdd_ii, gAdd_ss, gAdd_tt, gAdd_ll, gSub_ii, gMul_ii, gMul_si, gMul_li, gDiv_ii, gMod_ii, gPow_ii, gNeg_i, gLt_ii, gLe_ii, gGt_ii, gGe_ii, gIs_n, gIsNot_n, gIs_b, gIsNot_b, gAbs_i, gMax2_ii, gMin2_ii, gLen_s, gLen_l, gLen_t, gLen_d, gLen_r, gIx_l, gIx_t, gIx_d, gIx_r, gList_d, gList_l, gList_t, gDict_d, gTuple_t, gTuple_l, atI_0, atI_1, atI_2, atI_3, keyOf, W_sub, W_must, mulOk_r, mulOk_l, size_lit, some_ex, decide_eq_true_eq, decide_true, decide_false, Bool.and_eq_true, Bool.true_and, Bool.and_true, Bool.and_self, Bool.not_true, Bool.not_false, true_and, and_true, true_implies, Bool.false_eq_true, false_implies, not_false_eq_true, not_true_eq_false, Int.reduceLT, Int.reduceLE, Int.reducePow, Int.reduceToNat, Int.reduceNeg, Int.reduceAdd, Int.reduceSub, Int.reduceMul, Nat.reduceLT, Nat.reduceLeDiff, Nat.reducePow, decide_eq_false_iff_not, Option.map_some, Option.map_none, Option.bind_some, Option.bind_none]
  exact fin _ _


/-! ### the drawn kinds -/
def abcS : Str := "abcdefghijklmnopqrstuvwxyz"
theorem abc_len : abcS.length = 26 := by decide +kernel
theorem abc_cps : abcS.cps.toList.length = 26 := by decide +kernel
theorem abc_low : ∀ c ∈ abcS.cps.toList, 97 ≤ c ∧ c ≤ 122 := by decide +kernel
def oneS (c : Nat) : Str := ⟨#[c]⟩
theorem abc_at {i : Int} (h0 : 0 ≤ i) (h1 : i < 26) : ∃ c : Nat, (97 ≤ c ∧ c ≤ 122) ∧ ∀ μ : Mu, gIx μ (.str "abcdefghijklmnopqrstuvwxyz") (.int i) = some (.str (oneS c)) := by
  obtain ⟨c, e, hc⟩ := atI_mem (zs := abcS.cps.toList) h0 (by rw [abc_cps]; exact h1)
  refine ⟨c, abc_low c (List.mem_of_getElem? hc), fun μ => ?_⟩
  show gIx μ (.str abcS) (.int i) = _
  rw [gIx_s, if_pos (by rw [abc_len]; decide), e]
  rfl
theorem low_one {c : Nat} (h : 97 ≤ c ∧ c ≤ 122) : ∀ x ∈ (oneS c).cps.toList, 97 ≤ x ∧ x ≤ 122 := fun x hx => by
  obtain rfl : x = c := by simpa [oneS] using hx
  exact h
theorem low_app {s t : Str} (h1 : ∀ c ∈ s.cps.toList, 97 ≤ c ∧ c ≤ 122) (h2 : ∀ c ∈ t.cps.toList, 97 ≤ c ∧ c ≤ 122) : ∀ c ∈ (s ++ t).cps.toList, 97 ≤ c ∧ c ≤ 122 := fun c hc => by
  rw [cps_append] at hc
  rcases List.mem_append.mp hc with h | h
  · exact h1 c h
  · exact h2 c h
theorem low_rep {s : Str} {n : Nat} (h1 : ∀ c ∈ s.cps.toList, 97 ≤ c ∧ c ≤ 122) : ∀ c ∈ (strRep s n).cps.toList, 97 ≤ c ∧ c ≤ 122 := fun c hc => by
  rw [cps_rep] at hc
  obtain ⟨l, hl, hc⟩ := List.mem_flatten.mp hc
  rw [(List.mem_replicate.mp hl).2] at hc
  exact h1 c hc
theorem len_one (c : Nat) : (oneS c).length = 1 := rfl
theorem len_rep (c n : Nat) : (strRep (oneS c) n).length = n := by
  rw [length_cps, cps_rep]
  simp [oneS]

/-! ### the drawn names and kinds (k45) -/
theorem names_w {n : Nat} {size : Int} {μ : Mu} {P : D → Mu → Prop} (hf : FeedAt n μ) (h0 : 1 ≤ size) (h1 : size ≤ 8) (h : ∀ (ss : List Str) (μ' : Mu), (∀ s ∈ ss, NmOk s) → (ss.length : Int) = size → Dr n μ μ' → P (.list (ss.map D.str)) μ') : W (c__law_names [.loc n, .int size] μ) P := by
  unfold c__law_names b__law_names
  generalize hT2 : sRet (eFz (nComp (iVal (eVar 3)) _ _ _ _)) = T2
  generalize hT1 : sSeq (sSet 3 _) T2 = T1
  try simp -implicitDefEqProofs only [W_bind, W_ok, W_bad, W_ex, W_noEx, W_ite, W_some, W_none, W_chk, W_map, W_obind, W_run, runK_nx, runK_rt, onBody, sNil, W_seq, seqK_nx, seqK_rt, seqK_bk, seqK_ct, sBk, sCt, sExpr, sRet, sRetN, sIf, sSet, sAsg, sPar2, sFor, sDel, eVar, eC, eBin, eUn, eT, boolOf, W_chain, thenB_ok, thenB_b, ok_bind, ofO_some, and_ok, or_ok, and_okD, or_okD, TL.tAnd, TL.tOr, TL.tNot, tTrue, eAnd, eOr, eNot, eIf, aNil, aCons, eTup, eFz, eNew, eFrz, frzD, nLst, nCall, eCall, eCallF, eSl, oNone, oSome, nComp, nCompK, nCat, catO_ll, catO_last, gAdd_last, gAppend_last, isTy_last, size_lt, mergeD_1, nEmpty, nDisp, pNil, pCons, iVal, iRange1, iRange2, iEnumF, iZipF, iItemsF, kRange1, kRange2, kEnum, kZip, kItems, cellD, eMeth, startD, tgSet, tgSets, wipeD, List.map_cons, List.map_nil, List.length_cons, List.length_nil, List.replicate_succ, List.replicate_zero, List.cons_append, List.nil_append, List.append_nil, List.getElem?_cons_zero, List.getElem?_cons_succ, List.getElem?_nil, List.set_cons_zero, List.set_cons_succ, List.set_nil, Nat.reduceAdd, Nat.reduceSub, Nat.reduceEqDiff, if_true, ite_true, if_false, ite_false, Nat.zero_add, gAdd_ii, gAdd_ss, gAdd_tt, gAdd_ll, gSub_ii, gMul_ii, gMul_si, gMul_li, gDiv_ii, gMod_ii, gPow_ii, gNeg_i, gLt_ii, gLe_ii, gGt_ii, gGe_ii, gIs_n, gIsNot_n, gIs_b, gIsNot_b, gAbs_i, gMax2_ii, gMin2_ii, gLen_s, gLen_l, gLen_t, gLen_d, gLen_r, gIx_l, gIx_t, gIx_d, gIx_r, gList_d, gList_l, gList_t, gDict_d, gTuple_t, gTuple_l, atI_0, atI_1, atI_2, atI_3, keyOf, W_sub, W_must, mulOk_r, mulOk_l, size_lit, some_ex, decide_eq_true_eq, decide_true, decide_false, Bool.and_eq_true, Bool.true_and, Bool.and_true, Bool.and_self, Bool.not_true, Bool.not_false, true_and, and_true, true_implies, Bool.false_eq_true, false_implies, not_false_eq_true, not_true_eq_false, Int.reduceLT, Int.reduceLE, Int.reducePow, Int.reduceToNat, Int.reduceNeg, Int.reduceAdd, Int.reduceSub, Int.reduceMul, Nat.reduceLT, Nat.reduceLeDiff, Nat.reducePow, decide_eq_false_iff_not, Option.map_some, Option.map_none, Option.bind_some, Option.bind_none]
  refine take_w hf (by decide) (by decide) fun start μ1 s0 s1 d1 => ?_
  try simp -implicitDefEqProofs only [W_bind, W_ok, W_bad, W_ex, W_noEx, W_ite, W_some, W_none, W_chk, W_map, W_obind, W_run, runK_nx, runK_rt, onBody, sNil, W_seq, seqK_nx, seqK_rt, seqK_bk, seqK_ct, sBk, sCt, sExpr, sRet, sRetN, sIf, sSet, sAsg, sPar2, sFor, sDel, eVar, eC, eBin, eUn, eT, boolOf, W_chain, thenB_ok, thenB_b, ok_bind, ofO_some, and_ok, or_ok, and_okD, or_okD, TL.tAnd, TL.tOr, TL.tNot, tTrue, eAnd, eOr, eNot, eIf, aNil, aCons, eTup, eFz, eNew, eFrz, frzD, nLst, nCall, eCall, eCallF, eSl, oNone, oSome, nComp, nCompK, nCat, catO_ll, catO_last, gAdd_last, gAppend_last, isTy_last, size_lt, mergeD_1, nEmpty, nDisp, pNil, pCons, iVal, iRange1, iRange2, iEnumF, iZipF, iItemsF, kRange1, kRange2, kEnum, kZip, kItems, cellD, eMeth, startD, tgSet, tgSets, wipeD, List.map_cons, List.map_nil, List.length_cons, List.length_nil, List.replicate_succ, List.replicate_zero, List.cons_append, List.nil_append, List.append_nil, List.getElem?_cons_zero, List.getElem?_cons_succ, List.getElem?_nil, List.set_cons_zero, List.set_cons_succ, List.set_nil, Nat.reduceAdd, Nat.reduceSub, Nat.reduceEqDiff, if_true, ite_true, if_false, ite_false, Nat.zero_add, gAdd_ii, gAdd_ss, gAdd_tt, gAdd_ll, gSub_ii, gMul_ii, gMul_si, gMul_li, gDiv_ii, gMod_ii, gPow_ii, gNeg_i, gLt_ii, gLe_ii, gGt_ii, gGe_ii, gIs_n, gIsNot_n, gIs_b, gIsNot_b, gAbs_i, gMax2_ii, gMin2_ii, gLen_s, gLen_l, gLen_t, gLen_d, gLen_r, gIx_l, gIx_t, gIx_d, gIx_r, gList_d, gList_l, gList_t, gDict_d, gTuple_t, gTuple_l, atI_0, atI_1, atI_2, atI_3, keyOf, W_sub, W_must, mulOk_r, mulOk_l, size_lit, some_ex, decide_eq_true_eq, decide_true, decide_false, Bool.and_eq_true, Bool.true_and, Bool.and_true, Bool.and_self, Bool.not_true, Bool.not_false, true_and, and_true, true_implies, Bool.false_eq_true, false_implies, not_false_eq_true, not_true_eq_false, Int.reduceLT, Int.reduceLE, Int.reducePow, Int.reduceToNat, Int.reduceNeg, Int.reduceAdd, Int.reduceSub, Int.reduceMul, Nat.reduceLT, Nat.reduceLeDiff, Nat.reducePow, decide_eq_false_iff_not, Option.map_some, Option.map_none, Option.bind_some, Option.bind_none]
  refine pick_w (d1.at hf) (by simp) (by simp) rfl fun st μ2 hst d2 => ?_
  obtain ⟨step, rfl, p0, p1⟩ : ∃ x : Int, st = .int x ∧ 0 ≤ x ∧ x ≤ 11 := by
    simp only [List.mem_cons, List.not_mem_nil, or_false] at hst
    rcases hst with rfl | rfl | rfl | rfl | rfl | rfl <;> exact ⟨_, rfl, by decide, by decide⟩
  have d12 := d1.trans d2
  try simp -implicitDefEqProofs only [W_bind, W_ok, W_bad, W_ex, W_noEx, W_ite, W_some, W_none, W_chk, W_map, W_obind, W_run, runK_nx, runK_rt, onBody, sNil, W_seq, seqK_nx, seqK_rt, seqK_bk, seqK_ct, sBk, sCt, sExpr, sRet, sRetN, sIf, sSet, sAsg, sPar2, sFor, sDel, eVar, eC, eBin, eUn, eT, boolOf, W_chain, thenB_ok, thenB_b, ok_bind, ofO_some, and_ok, or_ok, and_okD, or_okD, TL.tAnd, TL.tOr, TL.tNot, tTrue, eAnd, eOr, eNot, eIf, aNil, aCons, eTup, eFz, eNew, eFrz, frzD, nLst, nCall, eCall, eCallF, eSl, oNone, oSome, nComp, nCompK, nCat, catO_ll, catO_last, gAdd_last, gAppend_last, isTy_last, size_lt, mergeD_1, nEmpty, nDisp, pNil, pCons, iVal, iRange1, iRange2, iEnumF, iZipF, iItemsF, kRange1, kRange2, kEnum, kZip, kItems, cellD, eMeth, startD, tgSet, tgSets, wipeD, List.map_cons, List.map_nil, List.length_cons, List.length_nil, List.replicate_succ, List.replicate_zero, List.cons_append, List.nil_append, List.append_nil, List.getElem?_cons_zero, List.getElem?_cons_succ, List.getElem?_nil, List.set_cons_zero, List.set_cons_succ, List.set_nil, Nat.reduceAdd, Nat.reduceSub, Nat.reduceEqDiff, if_true, ite_true, if_false, ite_false, Nat.zero_add, gAdd_ii, gAdd_ss, gAdd_tt, gAdd_ll, gSub_ii, gMul_ii, gMul_si, gMul_li, gDiv_ii, gMod_ii, gPow_ii, gNeg_i, gLt_ii, gLe_ii, gGt_ii, gGe_ii, gIs_n, gIsNot_n, gIs_b, gIsNot_b, gAbs_i, gMax2_ii, gMin2_ii, gLen_s, gLen_l, gLen_t, gLen_d, gLen_r, gIx_l, gIx_t, gIx_d, gIx_r, gList_d, gList_l, gList_t, gDict_d, gTuple_t, gTuple_l, atI_0, atI_1, atI_2, atI_3, keyOf, W_sub, W_must, mulOk_r, mulOk_l, size_lit, some_ex, decide_eq_true_eq, decide_true, decide_false, Bool.and_eq_true, Bool.true_and, Bool.and_true, Bool.and_self, Bool.not_true, Bool.not_false, true_and, and_true, true_implies, Bool.false_eq_true, false_implies, not_false_eq_true, not_true_eq_false, Int.reduceLT, Int.reduceLE, Int.reducePow, Int.reduceToNat, Int.reduceNeg, Int.reduceAdd, Int.reduceSub, Int.reduceMul, Nat.reduceLT, Nat.reduceLeDiff, Nat.reducePow, decide_eq_false_iff_not, Option.map_some, Option.map_none, Option.bind_some, Option.bind_none]
  refine take_w (d12.at hf) (by decide) (by decide) fun fi μ3 f0 f1 d3 => ?_
  have d13 := d12.trans d3
  obtain ⟨cf, lcf, ef⟩ := abc_at f0 f1
  simp -implicitDefEqProofs only [ef, tgSets, W_bind, W_ok, W_bad, W_ex, W_noEx, W_ite, W_some, W_none, W_chk, W_map, W_obind, W_run, runK_nx, runK_rt, onBody, sNil, W_seq, seqK_nx, seqK_rt, seqK_bk, seqK_ct, sBk, sCt, sExpr, sRet, sRetN, sIf, sSet, sAsg, sPar2, sFor, sDel, eVar, eC, eBin, eUn, eT, boolOf, W_chain, thenB_ok, thenB_b, ok_bind, ofO_some, and_ok, or_ok, and_okD, or_okD, TL.tAnd, TL.tOr, TL.tNot, tTrue, eAnd, eOr, eNot, eIf, aNil, aCons, eTup, eFz, eNew, eFrz, frzD, nLst, nCall, eCall, eCallF, eSl, oNone, oSome, nComp, nCompK, nCat, catO_ll, catO_last, gAdd_last, gAppend_last, isTy_last, size_lt, mergeD_1, nEmpty, nDisp, pNil, pCons, iVal, iRange1, iRange2, iEnumF, iZipF, iItemsF, kRange1, kRange2, kEnum, kZip, kItems, cellD, eMeth, startD, tgSet, tgSets, wipeD, List.map_cons, List.map_nil, List.length_cons, List.length_nil, List.replicate_succ, List.replicate_zero, List.cons_append, List.nil_append, List.append_nil, List.getElem?_cons_zero, List.getElem?_cons_succ, List.getElem?_nil, List.set_cons_zero, List.set_cons_succ, List.set_nil, Nat.reduceAdd, Nat.reduceSub, Nat.reduceEqDiff, if_true, ite_true, if_false, ite_false, Nat.zero_add, gAdd_ii, gAdd_ss, gAdd_tt, gAdd_ll, gSub_ii, gMul_ii, gMul_si, gMul_li, gDiv_ii, gMod_ii, gPow_ii, gNeg_i, gLt_ii, gLe_ii, gGt_ii, gGe_ii, gIs_n, gIsNot_n, gIs_b, gIsNot_b, gAbs_i, gMax2_ii, gMin2_ii, gLen_s, gLen_l, gLen_t, gLen_d, gLen_r, gIx_l, gIx_t, gIx_d, gIx_r, gList_d, gList_l, gList_t, gDict_d, gTuple_t, gTuple_l, atI_0, atI_1, atI_2, atI_3, keyOf, W_sub, W_must, mulOk_r, mulOk_l, size_lit, some_ex, decide_eq_true_eq, decide_true, decide_false, Bool.and_eq_true, Bool.true_and, Bool.and_true, Bool.and_self, Bool.not_true, Bool.not_false, true_and, and_true, true_implies, Bool.false_eq_true, false_implies, not_false_eq_true, not_true_eq_false, Int.reduceLT, Int.reduceLE, Int.reducePow, Int.reduceToNat, Int.reduceNeg, Int.reduceAdd, Int.reduceSub, Int.reduceMul, Nat.reduceLT, Nat.reduceLeDiff, Nat.reducePow, decide_eq_false_iff_not, Option.map_some, Option.map_none, Option.bind_some, Option.bind_none]
  refine take_w (d13.at hf) (by decide) (by decide) fun ah μ4 a0 a1 d4 => ?_
  have d14 := d13.trans d4
  try simp -implicitDefEqProofs only [W_bind, W_ok, W_bad, W_ex, W_noEx, W_ite, W_some, W_none, W_chk, W_map, W_obind, W_run, runK_nx, runK_rt, onBody, sNil, W_seq, seqK_nx, seqK_rt, seqK_bk, seqK_ct, sBk, sCt, sExpr, sRet, sRetN, sIf, sSet, sAsg, sPar2, sFor, sDel, eVar, eC, eBin, eUn, eT, boolOf, W_chain, thenB_ok, thenB_b, ok_bind, ofO_some, and_ok, or_ok, and_okD, or_okD, TL.tAnd, TL.tOr, TL.tNot, tTrue, eAnd, eOr, eNot, eIf, aNil, aCons, eTup, eFz, eNew, eFrz, frzD, nLst, nCall, eCall, eCallF, eSl, oNone, oSome, nComp, nCompK, nCat, catO_ll, catO_last, gAdd_last, gAppend_last, isTy_last, size_lt, mergeD_1, nEmpty, nDisp, pNil, pCons, iVal, iRange1, iRange2, iEnumF, iZipF, iItemsF, kRange1, kRange2, kEnum, kZip, kItems, cellD, eMeth, startD, tgSet, tgSets, wipeD, List.map_cons, List.map_nil, List.length_cons, List.length_nil, List.replicate_succ, List.replicate_zero, List.cons_append, List.nil_append, List.append_nil, List.getElem?_cons_zero, List.getElem?_cons_succ, List.getElem?_nil, List.set_cons_zero, List.set_cons_succ, List.set_nil, Nat.reduceAdd, Nat.reduceSub, Nat.reduceEqDiff, if_true, ite_true, if_false, ite_false, Nat.zero_add, gAdd_ii, gAdd_ss, gAdd_tt, gAdd_ll, gSub_ii, gMul_ii, gMul_si, gMul_li, gDiv_ii, gMod_ii, gPow_ii, gNeg_i, gLt_ii, gLe_ii, gGt_ii, gGe_ii, gIs_n, gIsNot_n, gIs_b, gIsNot_b, gAbs_i, gMax2_ii, gMin2_ii, gLen_s, gLen_l, gLen_t, gLen_d, gLen_r, gIx_l, gIx_t, gIx_d, gIx_r, gList_d, gList_l, gList_t, gDict_d, gTuple_t, gTuple_l, atI_0, atI_1, atI_2, atI_3, keyOf, W_sub, W_must, mulOk_r, mulOk_l, size_lit, some_ex, decide_eq_true_eq, decide_true, decide_false, Bool.and_eq_true, Bool.true_and, Bool.and_true, Bool.and_self, Bool.not_true, Bool.not_false, true_and, and_true, true_implies, Bool.false_eq_true, false_implies, not_false_eq_true, not_true_eq_false, Int.reduceLT, Int.reduceLE, Int.reducePow, Int.reduceToNat, Int.reduceNeg, Int.reduceAdd, Int.reduceSub, Int.reduceMul, Nat.reduceLT, Nat.reduceLeDiff, Nat.reducePow, decide_eq_false_iff_not, Option.map_some, Option.map_none, Option.bind_some, Option.bind_none]
  refine take_w (d14.at hf) (by decide) (by decide) fun be μ5 b0 b1 d5 => ?_
  have d15 := d14.trans d5
  try simp -implicitDefEqProofs only [W_bind, W_ok, W_bad, W_ex, W_noEx, W_ite, W_some, W_none, W_chk, W_map, W_obind, W_run, runK_nx, runK_rt, onBody, sNil, W_seq, seqK_nx, seqK_rt, seqK_bk, seqK_ct, sBk, sCt, sExpr, sRet, sRetN, sIf, sSet, sAsg, sPar2, sFor, sDel, eVar, eC, eBin, eUn, eT, boolOf, W_chain, thenB_ok, thenB_b, ok_bind, ofO_some, and_ok, or_ok, and_okD, or_okD, TL.tAnd, TL.tOr, TL.tNot, tTrue, eAnd, eOr, eNot, eIf, aNil, aCons, eTup, eFz, eNew, eFrz, frzD, nLst, nCall, eCall, eCallF, eSl, oNone, oSome, nComp, nCompK, nCat, catO_ll, catO_last, gAdd_last, gAppend_last, isTy_last, size_lt, mergeD_1, nEmpty, nDisp, pNil, pCons, iVal, iRange1, iRange2, iEnumF, iZipF, iItemsF, kRange1, kRange2, kEnum, kZip, kItems, cellD, eMeth, startD, tgSet, tgSets, wipeD, List.map_cons, List.map_nil, List.length_cons, List.length_nil, List.replicate_succ, List.replicate_zero, List.cons_append, List.nil_append, List.append_nil, List.getElem?_cons_zero, List.getElem?_cons_succ, List.getElem?_nil, List.set_cons_zero, List.set_cons_succ, List.set_nil, Nat.reduceAdd, Nat.reduceSub, Nat.reduceEqDiff, if_true, ite_true, if_false, ite_false, Nat.zero_add, gAdd_ii, gAdd_ss, gAdd_tt, gAdd_ll, gSub_ii, gMul_ii, gMul_si, gMul_li, gDiv_ii, gMod_ii, gPow_ii, gNeg_i, gLt_ii, gLe_ii, gGt_ii, gGe_ii, gIs_n, gIsNot_n, gIs_b, gIsNot_b, gAbs_i, gMax2_ii, gMin2_ii, gLen_s, gLen_l, gLen_t, gLen_d, gLen_r, gIx_l, gIx_t, gIx_d, gIx_r, gList_d, gList_l, gList_t, gDict_d, gTuple_t, gTuple_l, atI_0, atI_1, atI_2, atI_3, keyOf, W_sub, W_must, mulOk_r, mulOk_l, size_lit, some_ex, decide_eq_true_eq, decide_true, decide_false, Bool.and_eq_true, Bool.true_and, Bool.and_true, Bool.and_self, Bool.not_true, Bool.not_false, true_and, and_true, true_implies, Bool.false_eq_true, false_implies, not_false_eq_true, not_true_eq_false, Int.reduceLT, Int.reduceLE, Int.reducePow, Int.reduceToNat, Int.reduceNeg, Int.reduceAdd, Int.reduceSub, Int.reduceMul, Nat.reduceLT, Nat.reduceLeDiff, Nat.reducePow, decide_eq_false_iff_not, Option.map_some, Option.map_none, Option.bind_some, Option.bind_none]
  rw [← hT1]
  simp -implicitDefEqProofs only [isIn62_small (i := size) (by omega) (by omega), rng_small (i := 0) (n := size.toNat) (by omega), W_bind, W_ok, W_bad, W_ex, W_noEx, W_ite, W_some, W_none, W_chk, W_map, W_obind, W_run, runK_nx, runK_rt, onBody, sNil, W_seq, seqK_nx, seqK_rt, seqK_bk, seqK_ct, sBk, sCt, sExpr, sRet, sRetN, sIf, sSet, sAsg, sPar2, sFor, sDel, eVar, eC, eBin, eUn, eT, boolOf, W_chain, thenB_ok, thenB_b, ok_bind, ofO_some, and_ok, or_ok, and_okD, or_okD, TL.tAnd, TL.tOr, TL.tNot, tTrue, eAnd, eOr, eNot, eIf, aNil, aCons, eTup, eFz, eNew, eFrz, frzD, nLst, nCall, eCall, eCallF, eSl, oNone, oSome, nComp, nCompK, nCat, catO_ll, catO_last, gAdd_last, gAppend_last, isTy_last, size_lt, mergeD_1, nEmpty, nDisp, pNil, pCons, iVal, iRange1, iRange2, iEnumF, iZipF, iItemsF, kRange1, kRange2, kEnum, kZip, kItems, cellD, eMeth, startD, tgSet, tgSets, wipeD, List.map_cons, List.map_nil, List.length_cons, List.length_nil, List.replicate_succ, List.replicate_zero, List.cons_append, List.nil_append, List.append_nil, List.getElem?_cons_zero, List.getElem?_cons_succ, List.getElem?_nil, List.set_cons_zero, List.set_cons_succ, List.set_nil, Nat.reduceAdd, Nat.reduceSub, Nat.reduceEqDiff, if_true, ite_true, if_false, ite_false, Nat.zero_add, gAdd_ii, gAdd_ss, gAdd_tt, gAdd_ll, gSub_ii, gMul_ii, gMul_si, gMul_li, gDiv_ii, gMod_ii, gPow_ii, gNeg_i, gLt_ii, gLe_ii, gGt_ii, gGe_ii, gIs_n, gIsNot_n, gIs_b, gIsNot_b, gAbs_i, gMax2_ii, gMin2_ii, gLen_s, gLen_l, gLen_t, gLen_d, gLen_r, gIx_l, gIx_t, gIx_d, gIx_r, gList_d, gList_l, gList_t, gDict_d, gTuple_t, gTuple_l, atI_0, atI_1, atI_2, atI_3, keyOf, W_sub, W_must, mulOk_r, mulOk_l, size_lit, some_ex, decide_eq_true_eq, decide_true, decide_false, Bool.and_eq_true, Bool.true_and, Bool.and_true, Bool.and_self, Bool.not_true, Bool.not_false, true_and, and_true, true_implies, Bool.false_eq_true, false_implies, not_false_eq_true, not_true_eq_false, Int.reduceLT, Int.reduceLE, Int.reducePow, Int.reduceToNat, Int.reduceNeg, Int.reduceAdd, Int.reduceSub, Int.reduceMul, Nat.reduceLT, Nat.reduceLeDiff, Nat.reducePow, decide_eq_false_iff_not, Option.map_some, Option.map_none, Option.bind_some, Option.bind_none]
  refine Exists.elim (⟨_, rfl⟩ : ∃ J : Nat → List D → Mu → Prop, J = fun i ds ν => ν = μ5 ∧ ∃ cs : List Nat, ds = cs.map (fun c => D.str (oneS c)) ∧ cs.length = i ∧ ∀ c ∈ cs, 97 ≤ c ∧ c ≤ 122) fun J hJ => ?_
  refine W_compL J _ (by rw [hJ]; exact ⟨rfl, [], rfl, rfl, fun _ h => nomatch h⟩) (fun _ _ _ _ => rfl) ?_ ?_
  · intro k x ds ν hx hj
    rw [hJ] at hj
    obtain ⟨rfl, cs, rfl, hl, hcs⟩ := hj
    obtain ⟨hk, rfl⟩ := rangeD_get hx
    have nj : ∀ c, 97 ≤ c ∧ c ≤ 122 → J (k + 1) (cs.map (fun c => D.str (oneS c)) ++ [.str (oneS c)]) ν := by
      rw [hJ]
      intro c hc
      refine ⟨rfl, cs ++ [c], by simp, by simp [hl], fun z hz => ?_⟩
      rcases List.mem_append.mp hz with hz | hz
      · exact hcs z hz
      · rw [List.mem_singleton.mp hz]; exact hc
    clear hJ hx
    refine ⟨_, rfl, ?_⟩
    obtain ⟨c, lc, ec⟩ := abc_at (i := (start + step * (0 + (k : Int))) % 26) (Int.emod_nonneg _ (by decide)) (Int.emod_lt_of_pos _ (by decide))
    have mo : mulOk step (0 + (k : Int)) = true := (mulOk_l (by omega) (by omega)).mpr trivial
    simp -implicitDefEqProofs only [mo, ec, W_bind, W_ok, W_bad, W_ex, W_noEx, W_ite, W_some, W_none, W_chk, W_map, W_obind, W_run, runK_nx, runK_rt, onBody, sNil, W_seq, seqK_nx, seqK_rt, seqK_bk, seqK_ct, sBk, sCt, sExpr, sRet, sRetN, sIf, sSet, sAsg, sPar2, sFor, sDel, eVar, eC, eBin, eUn, eT, boolOf, W_chain, thenB_ok, thenB_b, ok_bind, ofO_some, and_ok, or_ok, and_okD, or_okD, TL.tAnd, TL.tOr, TL.tNot, tTrue, eAnd, eOr, eNot, eIf, aNil, aCons, eTup, eFz, eNew, eFrz, frzD, nLst, nCall, eCall, eCallF, eSl, oNone, oSome, nComp, nCompK, nCat, catO_ll, catO_last, gAdd_last, gAppend_last, isTy_last, size_lt, mergeD_1, nEmpty, nDisp, pNil, pCons, iVal, iRange1, iRange2, iEnumF, iZipF, iItemsF, kRange1, kRange2, kEnum, kZip, kItems, cellD, eMeth, startD, tgSet, tgSets, wipeD, List.map_cons, List.map_nil, List.length_cons, List.length_nil, List.replicate_succ, List.replicate_zero, List.cons_append, List.nil_append, List.append_nil, List.getElem?_cons_zero, List.getElem?_cons_succ, List.getElem?_nil, List.set_cons_zero, List.set_cons_succ, List.set_nil, Nat.reduceAdd, Nat.reduceSub, Nat.reduceEqDiff, if_true, ite_true, if_false, ite_false, Nat.zero_add, gAdd_ii, gAdd_ss, gAdd_tt, gAdd_ll, gSub_ii, gMul_ii, gMul_si, gMul_li, gDiv_ii, gMod_ii, gPow_ii, gNeg_i, gLt_ii, gLe_ii, gGt_ii, gGe_ii, gIs_n, gIsNot_n, gIs_b, gIsNot_b, gAbs_i, gMax2_ii, gMin2_ii, gLen_s, gLen_l, gLen_t, gLen_d, gLen_r, gIx_l, gIx_t, gIx_d, gIx_r, gList_d, gList_l, gList_t, gDict_d, gTuple_t, gTuple_l, atI_0, atI_1, atI_2, atI_3, keyOf, W_sub, W_must, mulOk_r, mulOk_l, size_lit, some_ex, decide_eq_true_eq, decide_true, decide_false, Bool.and_eq_true, Bool.true_and, Bool.and_true, Bool.and_self, Bool.not_true, Bool.not_false, true_and, and_true, true_implies, Bool.false_eq_true, false_implies, not_false_eq_true, not_true_eq_false, Int.reduceLT, Int.reduceLE, Int.reducePow, Int.reduceToNat, Int.reduceNeg, Int.reduceAdd, Int.reduceSub, Int.reduceMul, Nat.reduceLT, Nat.reduceLeDiff, Nat.reducePow, decide_eq_false_iff_not, Option.map_some, Option.map_none, Option.bind_some, Option.bind_none]
    exact nj c lc
  · intro ds ν hj
    rw [hJ] at hj
    obtain ⟨rfl, cs, rfl, hl, hcs⟩ := hj
    clear hJ
    rw [rangeD_len] at hl
    try simp -implicitDefEqProofs only [W_bind, W_ok, W_bad, W_ex, W_noEx, W_ite, W_some, W_none, W_chk, W_map, W_obind, W_run, runK_nx, runK_rt, onBody, sNil, W_seq, seqK_nx, seqK_rt, seqK_bk, seqK_ct, sBk, sCt, sExpr, sRet, sRetN, sIf, sSet, sAsg, sPar2, sFor, sDel, eVar, eC, eBin, eUn, eT, boolOf, W_chain, thenB_ok, thenB_b, ok_bind, ofO_some, and_ok, or_ok, and_okD, or_okD, TL.tAnd, TL.tOr, TL.tNot, tTrue, eAnd, eOr, eNot, eIf, aNil, aCons, eTup, eFz, eNew, eFrz, frzD, nLst, nCall, eCall, eCallF, eSl, oNone, oSome, nComp, nCompK, nCat, catO_ll, catO_last, gAdd_last, gAppend_last, isTy_last, size_lt, mergeD_1, nEmpty, nDisp, pNil, pCons, iVal, iRange1, iRange2, iEnumF, iZipF, iItemsF, kRange1, kRange2, kEnum, kZip, kItems, cellD, eMeth, startD, tgSet, tgSets, wipeD, List.map_cons, List.map_nil, List.length_cons, List.length_nil, List.replicate_succ, List.replicate_zero, List.cons_append, List.nil_append, List.append_nil, List.getElem?_cons_zero, List.getElem?_cons_succ, List.getElem?_nil, List.set_cons_zero, List.set_cons_succ, List.set_nil, Nat.reduceAdd, Nat.reduceSub, Nat.reduceEqDiff, if_true, ite_true, if_false, ite_false, Nat.zero_add, gAdd_ii, gAdd_ss, gAdd_tt, gAdd_ll, gSub_ii, gMul_ii, gMul_si, gMul_li, gDiv_ii, gMod_ii, gPow_ii, gNeg_i, gLt_ii, gLe_ii, gGt_ii, gGe_ii, gIs_n, gIsNot_n, gIs_b, gIsNot_b, gAbs_i, gMax2_ii, gMin2_ii, gLen_s, gLen_l, gLen_t, gLen_d, gLen_r, gIx_l, gIx_t, gIx_d, gIx_r, gList_d, gList_l, gList_t, gDict_d, gTuple_t, gTuple_l, atI_0, atI_1, atI_2, atI_3, keyOf, W_sub, W_must, mulOk_r, mulOk_l, size_lit, some_ex, decide_eq_true_eq, decide_true, decide_false, Bool.and_eq_true, Bool.true_and, Bool.and_true, Bool.and_self, Bool.not_true, Bool.not_false, true_and, and_true, true_implies, Bool.false_eq_true, false_implies, not_false_eq_true, not_true_eq_false, Int.reduceLT, Int.reduceLE, Int.reducePow, Int.reduceToNat, Int.reduceNeg, Int.reduceAdd, Int.reduceSub, Int.reduceMul, Nat.reduceLT, Nat.reduceLeDiff, Nat.reducePow, decide_eq_false_iff_not, Option.map_some, Option.map_none, Option.bind_some, Option.bind_none]
    rw [← hT2]
    simp -implicitDefEqProofs only [walked_l, W_bind, W_ok, W_bad, W_ex, W_noEx, W_ite, W_some, W_none, W_chk, W_map, W_obind, W_run, runK_nx, runK_rt, onBody, sNil, W_seq, seqK_nx, seqK_rt, seqK_bk, seqK_ct, sBk, sCt, sExpr, sRet, sRetN, sIf, sSet, sAsg, sPar2, sFor, sDel, eVar, eC, eBin, eUn, eT, boolOf, W_chain, thenB_ok, thenB_b, ok_bind, ofO_some, and_ok, or_ok, and_okD, or_okD, TL.tAnd, TL.tOr, TL.tNot, tTrue, eAnd, eOr, eNot, eIf, aNil, aCons, eTup, eFz, eNew, eFrz, frzD, nLst, nCall, eCall, eCallF, eSl, oNone, oSome, nComp, nCompK, nCat, catO_ll, catO_last, gAdd_last, gAppend_last, isTy_last, size_lt, mergeD_1, nEmpty, nDisp, pNil, pCons, iVal, iRange1, iRange2, iEnumF, iZipF, iItemsF, kRange1, kRange2, kEnum, kZip, kItems, cellD, eMeth, startD, tgSet, tgSets, wipeD, List.map_cons, List.map_nil, List.length_cons, List.length_nil, List.replicate_succ, List.replicate_zero, List.cons_append, List.nil_append, List.append_nil, List.getElem?_cons_zero, List.getElem?_cons_succ, List.getElem?_nil, List.set_cons_zero, List.set_cons_succ, List.set_nil, Nat.reduceAdd, Nat.reduceSub, Nat.reduceEqDiff, if_true, ite_true, if_false, ite_false, Nat.zero_add, gAdd_ii, gAdd_ss, gAdd_tt, gAdd_ll, gSub_ii, gMul_ii, gMul_si, gMul_li, gDiv_ii, gMod_ii, gPow_ii, gNeg_i, gLt_ii, gLe_ii, gGt_ii, gGe_ii, gIs_n, gIsNot_n, gIs_b, gIsNot_b, gAbs_i, gMax2_ii, gMin2_ii, gLen_s, gLen_l, gLen_t, gLen_d, gLen_r, gIx_l, gIx_t, gIx_d, gIx_r, gList_d, gList_l, gList_t, gDict_d, gTuple_t, gTuple_l, atI_0, atI_1, atI_2, atI_3, keyOf, W_sub, W_must, mulOk_r, mulOk_l, size_lit, some_ex, decide_eq_true_eq, decide_true, decide_false, Bool.and_eq_true, Bool.true_and, Bool.and_true, Bool.and_self, Bool.not_true, Bool.not_false, true_and, and_true, true_implies, Bool.false_eq_true, false_implies, not_false_eq_true, not_true_eq_false, Int.reduceLT, Int.reduceLE, Int.reducePow, Int.reduceToNat, Int.reduceNeg, Int.reduceAdd, Int.reduceSub, Int.reduceMul, Nat.reduceLT, Nat.reduceLeDiff, Nat.reducePow, decide_eq_false_iff_not, Option.map_some, Option.map_none, Option.bind_some, Option.bind_none]
    have la := len_rep cf ah.toNat
    have lb := len_rep cf be.toNat
    refine W_compAll (fun c => D.str (oneS c)) (fun c => D.str (strRep (oneS cf) ah.toNat ++ oneS c ++ strRep (oneS cf) be.toNat)) cs (fun c hc => ⟨_, rfl, W.eq ?_⟩) ?_
    · have z0 : (oneS cf).length ≤ 1000 := by rw [len_one]; decide
      have z1 : (strRep (oneS cf) ah.toNat).length + (oneS c).length ≤ sizeLine := Nat.le_trans (show _ ≤ 1000 by rw [la, len_one]; omega) (by decide)
      have z2 : (strRep (oneS cf) ah.toNat ++ oneS c).length + (strRep (oneS cf) be.toNat).length ≤ sizeLine := Nat.le_trans (show _ ≤ 1000 by rw [length_append, la, lb, len_one]; omega) (by decide)
      have z3 : ah ≤ 1000 := by omega
      have z4 : be ≤ 1000 := by omega
      simp -implicitDefEqProofs only [a0, b0, z0, z1, z2, z3, z4, W_bind, W_ok, W_bad, W_ex, W_noEx, W_ite, W_some, W_none, W_chk, W_map, W_obind, W_run, runK_nx, runK_rt, onBody, sNil, W_seq, seqK_nx, seqK_rt, seqK_bk, seqK_ct, sBk, sCt, sExpr, sRet, sRetN, sIf, sSet, sAsg, sPar2, sFor, sDel, eVar, eC, eBin, eUn, eT, boolOf, W_chain, thenB_ok, thenB_b, ok_bind, ofO_some, and_ok, or_ok, and_okD, or_okD, TL.tAnd, TL.tOr, TL.tNot, tTrue, eAnd, eOr, eNot, eIf, aNil, aCons, eTup, eFz, eNew, eFrz, frzD, nLst, nCall, eCall, eCallF, eSl, oNone, oSome, nComp, nCompK, nCat, catO_ll, catO_last, gAdd_last, gAppend_last, isTy_last, size_lt, mergeD_1, nEmpty, nDisp, pNil, pCons, iVal, iRange1, iRange2, iEnumF, iZipF, iItemsF, kRange1, kRange2, kEnum, kZip, kItems, cellD, eMeth, startD, tgSet, tgSets, wipeD, List.map_cons, List.map_nil, List.length_cons, List.length_nil, List.replicate_succ, List.replicate_zero, List.cons_append, List.nil_append, List.append_nil, List.getElem?_cons_zero, List.getElem?_cons_succ, List.getElem?_nil, List.set_cons_zero, List.set_cons_succ, List.set_nil, Nat.reduceAdd, Nat.reduceSub, Nat.reduceEqDiff, if_true, ite_true, if_false, ite_false, Nat.zero_add, gAdd_ii, gAdd_ss, gAdd_tt, gAdd_ll, gSub_ii, gMul_ii, gMul_si, gMul_li, gDiv_ii, gMod_ii, gPow_ii, gNeg_i, gLt_ii, gLe_ii, gGt_ii, gGe_ii, gIs_n, gIsNot_n, gIs_b, gIsNot_b, gAbs_i, gMax2_ii, gMin2_ii, gLen_s, gLen_l, gLen_t, gLen_d, gLen_r, gIx_l, gIx_t, gIx_d, gIx_r, gList_d, gList_l, gList_t, gDict_d, gTuple_t, gTuple_l, atI_0, atI_1, atI_2, atI_3, keyOf, W_sub, W_must, mulOk_r, mulOk_l, size_lit, some_ex, decide_eq_true_eq, decide_true, decide_false, Bool.and_eq_true, Bool.true_and, Bool.and_true, Bool.and_self, Bool.not_true, Bool.not_false, true_and, and_true, true_implies, Bool.false_eq_true, false_implies, not_false_eq_true, not_true_eq_false, Int.reduceLT, Int.reduceLE, Int.reducePow, Int.reduceToNat, Int.reduceNeg, Int.reduceAdd, Int.reduceSub, Int.reduceMul, Nat.reduceLT, Nat.reduceLeDiff, Nat.reducePow, decide_eq_false_iff_not, Option.map_some, Option.map_none, Option.bind_some, Option.bind_none]
    · have ok : ∀ c ∈ cs, NmOk (strRep (oneS cf) ah.toNat ++ oneS c ++ strRep (oneS cf) be.toNat) := fun c hc => by
        refine ⟨low_app (low_app (low_rep (low_one lcf)) (low_one (hcs c hc))) (low_rep (low_one lcf)), ?_, ?_⟩
        · rw [length_append, length_append, la, lb, len_one]; omega
        · rw [length_append, length_append, la, lb, len_one]; omega
      refine W_retD d15 ?_ ?_
      · unfold okLoc
        exact okLocs_of fun q hq => by
          obtain ⟨c, _, rfl⟩ := List.mem_map.mp hq
          rfl
      · have e : (cs.map fun c => D.str (strRep (oneS cf) ah.toNat ++ oneS c ++ strRep (oneS cf) be.toNat)) = (cs.map fun c => strRep (oneS cf) ah.toNat ++ oneS c ++ strRep (oneS cf) be.toNat).map D.str := by rw [List.map_map]; rfl
        rw [e]
        refine h _ _ (fun s hs => ?_) (by rw [List.length_map]; omega) d15
        obtain ⟨c, hc, rfl⟩ := List.mem_map.mp hs
        exact ok c hc
theorem kinds_w {n : Nat} {μ : Mu} {P : D → Mu → Prop} (hf : FeedAt n μ) (h : ∀ (ks : List Kd) (μ' : Mu), KsOk ks → ks ≠ [] → Dr n μ μ' → P (kindsD ks) μ') : W (c__law_kinds [.loc n] μ) P := by
  have hn := hf.lt
  unfold c__law_kinds b__law_kinds
  try simp -implicitDefEqProofs only [W_bind, W_ok, W_bad, W_ex, W_noEx, W_ite, W_some, W_none, W_chk, W_map, W_obind, W_run, runK_nx, runK_rt, onBody, sNil, W_seq, seqK_nx, seqK_rt, seqK_bk, seqK_ct, sBk, sCt, sExpr, sRet, sRetN, sIf, sSet, sAsg, sPar2, sFor, sDel, eVar, eC, eBin, eUn, eT, boolOf, W_chain, thenB_ok, thenB_b, ok_bind, ofO_some, and_ok, or_ok, and_okD, or_okD, TL.tAnd, TL.tOr, TL.tNot, tTrue, eAnd, eOr, eNot, eIf, aNil, aCons, eTup, eFz, eNew, eFrz, frzD, nLst, nCall, eCall, eCallF, eSl, oNone, oSome, nComp, nCompK, nCat, catO_ll, catO_last, gAdd_last, gAppend_last, isTy_last, size_lt, mergeD_1, nEmpty, nDisp, pNil, pCons, iVal, iRange1, iRange2, iEnumF, iZipF, iItemsF, kRange1, kRange2, kEnum, kZip, kItems, cellD, eMeth, startD, tgSet, tgSets, wipeD, List.map_cons, List.map_nil, List.length_cons, List.length_nil, List.replicate_succ, List.replicate_zero, List.cons_append, List.nil_append, List.append_nil, List.getElem?_cons_zero, List.getElem?_cons_succ, List.getElem?_nil, List.set_cons_zero, List.set_cons_succ, List.set_nil, Nat.reduceAdd, Nat.reduceSub, Nat.reduceEqDiff, if_true, ite_true, if_false, ite_false, Nat.zero_add, gAdd_ii, gAdd_ss, gAdd_tt, gAdd_ll, gSub_ii, gMul_ii, gMul_si, gMul_li, gDiv_ii, gMod_ii, gPow_ii, gNeg_i, gLt_ii, gLe_ii, gGt_ii, gGe_ii, gIs_n, gIsNot_n, gIs_b, gIsNot_b, gAbs_i, gMax2_ii, gMin2_ii, gLen_s, gLen_l, gLen_t, gLen_d, gLen_r, gIx_l, gIx_t, gIx_d, gIx_r, gList_d, gList_l, gList_t, gDict_d, gTuple_t, gTuple_l, atI_0, atI_1, atI_2, atI_3, keyOf, W_sub, W_must, mulOk_r, mulOk_l, size_lit, some_ex, decide_eq_true_eq, decide_true, decide_false, Bool.and_eq_true, Bool.true_and, Bool.and_true, Bool.and_self, Bool.not_true, Bool.not_false, true_and, and_true, true_implies, Bool.false_eq_true, false_implies, not_false_eq_true, not_true_eq_false, Int.reduceLT, Int.reduceLE, Int.reducePow, Int.reduceToNat, Int.reduceNeg, Int.reduceAdd, Int.reduceSub, Int.reduceMul, Nat.reduceLT, Nat.reduceLeDiff, Nat.reducePow, decide_eq_false_iff_not, Option.map_some, Option.map_none, Option.bind_some, Option.bind_none]
  refine take_w hf (by decide) (by decide) fun r μ1 r0 r1 d1 => ?_
  try simp -implicitDefEqProofs only [W_bind, W_ok, W_bad, W_ex, W_noEx, W_ite, W_some, W_none, W_chk, W_map, W_obind, W_run, runK_nx, runK_rt, onBody, sNil, W_seq, seqK_nx, seqK_rt, seqK_bk, seqK_ct, sBk, sCt, sExpr, sRet, sRetN, sIf, sSet, sAsg, sPar2, sFor, sDel, eVar, eC, eBin, eUn, eT, boolOf, W_chain, thenB_ok, thenB_b, ok_bind, ofO_some, and_ok, or_ok, and_okD, or_okD, TL.tAnd, TL.tOr, TL.tNot, tTrue, eAnd, eOr, eNot, eIf, aNil, aCons, eTup, eFz, eNew, eFrz, frzD, nLst, nCall, eCall, eCallF, eSl, oNone, oSome, nComp, nCompK, nCat, catO_ll, catO_last, gAdd_last, gAppend_last, isTy_last, size_lt, mergeD_1, nEmpty, nDisp, pNil, pCons, iVal, iRange1, iRange2, iEnumF, iZipF, iItemsF, kRange1, kRange2, kEnum, kZip, kItems, cellD, eMeth, startD, tgSet, tgSets, wipeD, List.map_cons, List.map_nil, List.length_cons, List.length_nil, List.replicate_succ, List.replicate_zero, List.cons_append, List.nil_append, List.append_nil, List.getElem?_cons_zero, List.getElem?_cons_succ, List.getElem?_nil, List.set_cons_zero, List.set_cons_succ, List.set_nil, Nat.reduceAdd, Nat.reduceSub, Nat.reduceEqDiff, if_true, ite_true, if_false, ite_false, Nat.zero_add, gAdd_ii, gAdd_ss, gAdd_tt, gAdd_ll, gSub_ii, gMul_ii, gMul_si, gMul_li, gDiv_ii, gMod_ii, gPow_ii, gNeg_i, gLt_ii, gLe_ii, gGt_ii, gGe_ii, gIs_n, gIsNot_n, gIs_b, gIsNot_b, gAbs_i, gMax2_ii, gMin2_ii, gLen_s, gLen_l, gLen_t, gLen_d, gLen_r, gIx_l, gIx_t, gIx_d, gIx_r, gList_d, gList_l, gList_t, gDict_d, gTuple_t, gTuple_l, atI_0, atI_1, atI_2, atI_3, keyOf, W_sub, W_must, mulOk_r, mulOk_l, size_lit, some_ex, decide_eq_true_eq, decide_true, decide_false, Bool.and_eq_true, Bool.true_and, Bool.and_true, Bool.and_self, Bool.not_true, Bool.not_false, true_and, and_true, true_implies, Bool.false_eq_true, false_implies, not_false_eq_true, not_true_eq_false, Int.reduceLT, Int.reduceLE, Int.reducePow, Int.reduceToNat, Int.reduceNeg, Int.reduceAdd, Int.reduceSub, Int.reduceMul, Nat.reduceLT, Nat.reduceLeDiff, Nat.reducePow, decide_eq_false_iff_not, Option.map_some, Option.map_none, Option.bind_some, Option.bind_none]
  refine names_w (d1.at hf) (by omega) (by omega) fun ss μ2 hss hsl d2 => ?_
  have d12 := d1.trans d2
  have l2 : μ2.length = μ.length := d12.len
  simp -implicitDefEqProofs only [walked_l, W_bind, W_ok, W_bad, W_ex, W_noEx, W_ite, W_some, W_none, W_chk, W_map, W_obind, W_run, runK_nx, runK_rt, onBody, sNil, W_seq, seqK_nx, seqK_rt, seqK_bk, seqK_ct, sBk, sCt, sExpr, sRet, sRetN, sIf, sSet, sAsg, sPar2, sFor, sDel, eVar, eC, eBin, eUn, eT, boolOf, W_chain, thenB_ok, thenB_b, ok_bind, ofO_some, and_ok, or_ok, and_okD, or_okD, TL.tAnd, TL.tOr, TL.tNot, tTrue, eAnd, eOr, eNot, eIf, aNil, aCons, eTup, eFz, eNew, eFrz, frzD, nLst, nCall, eCall, eCallF, eSl, oNone, oSome, nComp, nCompK, nCat, catO_ll, catO_last, gAdd_last, gAppend_last, isTy_last, size_lt, mergeD_1, nEmpty, nDisp, pNil, pCons, iVal, iRange1, iRange2, iEnumF, iZipF, iItemsF, kRange1, kRange2, kEnum, kZip, kItems, cellD, eMeth, startD, tgSet, tgSets, wipeD, List.map_cons, List.map_nil, List.length_cons, List.length_nil, List.replicate_succ, List.replicate_zero, List.cons_append, List.nil_append, List.append_nil, List.getElem?_cons_zero, List.getElem?_cons_succ, List.getElem?_nil, List.set_cons_zero, List.set_cons_succ, List.set_nil, Nat.reduceAdd, Nat.reduceSub, Nat.reduceEqDiff, if_true, ite_true, if_false, ite_false, Nat.zero_add, gAdd_ii, gAdd_ss, gAdd_tt, gAdd_ll, gSub_ii, gMul_ii, gMul_si, gMul_li, gDiv_ii, gMod_ii, gPow_ii, gNeg_i, gLt_ii, gLe_ii, gGt_ii, gGe_ii, gIs_n, gIsNot_n, gIs_b, gIsNot_b, gAbs_i, gMax2_ii, gMin2_ii, gLen_s, gLen_l, gLen_t, gLen_d, gLen_r, gIx_l, gIx_t, gIx_d, gIx_r, gList_d, gList_l, gList_t, gDict_d, gTuple_t, gTuple_l, atI_0, atI_1, atI_2, atI_3, keyOf, W_sub, W_must, mulOk_r, mulOk_l, size_lit, some_ex, decide_eq_true_eq, decide_true, decide_false, Bool.and_eq_true, Bool.true_and, Bool.and_true, Bool.and_self, Bool.not_true, Bool.not_false, true_and, and_true, true_implies, Bool.false_eq_true, false_implies, not_false_eq_true, not_true_eq_false, Int.reduceLT, Int.reduceLE, Int.reducePow, Int.reduceToNat, Int.reduceNeg, Int.reduceAdd, Int.reduceSub, Int.reduceMul, Nat.reduceLT, Nat.reduceLeDiff, Nat.reducePow, decide_eq_false_iff_not, Option.map_some, Option.map_none, Option.bind_some, Option.bind_none]
  refine Exists.elim (named (fun i ρ μ' => ∃ (ks : List Kd) (ν : Mu) (o3 o4 : Option D), ρ = [some (.loc n), some (.list (ss.map D.str)), some (.loc μ2.length), o3, o4] ∧
      μ' = ν ++ [some (.dict (ks.map Kd.e))] ∧ Dr n μ ν ∧ ((ks.map (·.n)).Nodup ∧ ks.length ≤ i ∧ ∀ q ∈ ks, KdOk q) ∧ (0 < i → ks ≠ []))) fun I hI => ?_
  refine W_forY I _ (by rw [hI]; exact ⟨[], μ2, _, _, rfl, rfl, d12, ⟨by simp, by simp, by simp⟩, fun h => absurd h (by omega)⟩) ?_ ?_
  · intro i x ρ μ' hx hi
    rw [hI] at hi
    obtain ⟨ks, ν, o3, o4, rfl, rfl, d, hks, _⟩ := hi
    obtain ⟨nm, hnm, rfl⟩ : ∃ nm ∈ ss, x = .str nm := by
      obtain ⟨nm, h1, h2⟩ := List.mem_map.mp (List.mem_of_getElem? hx)
      exact ⟨nm, h1, h2.symm⟩
    have hlt : i < ss.length := by have := (List.getElem?_eq_some_iff.mp hx).1; simpa using this
    have nx : ∀ (ks : List Kd) (ν : Mu) o3 o4, Dr n μ ν → ((ks.map (·.n)).Nodup ∧ ks.length ≤ i + 1 ∧ ∀ q ∈ ks, KdOk q) → ks ≠ [] → I (i + 1) [some (.loc n), some (.list (ss.map D.str)), some (.loc μ2.length), o3, o4] (ν ++ [some (.dict (ks.map Kd.e))]) := by
      rw [hI]; intro ks ν o3 o4 a b c; exact ⟨ks, ν, o3, o4, rfl, rfl, a, b, fun _ => c⟩
    clear hI hx
    refine ⟨_, rfl, ?_⟩
    unfold b__law_kinds_1
    try simp -implicitDefEqProofs only [W_bind, W_ok, W_bad, W_ex, W_noEx, W_ite, W_some, W_none, W_chk, W_map, W_obind, W_run, runK_nx, runK_rt, onBody, sNil, W_seq, seqK_nx, seqK_rt, seqK_bk, seqK_ct, sBk, sCt, sExpr, sRet, sRetN, sIf, sSet, sAsg, sPar2, sFor, sDel, eVar, eC, eBin, eUn, eT, boolOf, W_chain, thenB_ok, thenB_b, ok_bind, ofO_some, and_ok, or_ok, and_okD, or_okD, TL.tAnd, TL.tOr, TL.tNot, tTrue, eAnd, eOr, eNot, eIf, aNil, aCons, eTup, eFz, eNew, eFrz, frzD, nLst, nCall, eCall, eCallF, eSl, oNone, oSome, nComp, nCompK, nCat, catO_ll, catO_last, gAdd_last, gAppend_last, isTy_last, size_lt, mergeD_1, nEmpty, nDisp, pNil, pCons, iVal, iRange1, iRange2, iEnumF, iZipF, iItemsF, kRange1, kRange2, kEnum, kZip, kItems, cellD, eMeth, startD, tgSet, tgSets, wipeD, List.map_cons, List.map_nil, List.length_cons, List.length_nil, List.replicate_succ, List.replicate_zero, List.cons_append, List.nil_append, List.append_nil, List.getElem?_cons_zero, List.getElem?_cons_succ, List.getElem?_nil, List.set_cons_zero, List.set_cons_succ, List.set_nil, Nat.reduceAdd, Nat.reduceSub, Nat.reduceEqDiff, if_true, ite_true, if_false, ite_false, Nat.zero_add, gAdd_ii, gAdd_ss, gAdd_tt, gAdd_ll, gSub_ii, gMul_ii, gMul_si, gMul_li, gDiv_ii, gMod_ii, gPow_ii, gNeg_i, gLt_ii, gLe_ii, gGt_ii, gGe_ii, gIs_n, gIsNot_n, gIs_b, gIsNot_b, gAbs_i, gMax2_ii, gMin2_ii, gLen_s, gLen_l, gLen_t, gLen_d, gLen_r, gIx_l, gIx_t, gIx_d, gIx_r, gList_d, gList_l, gList_t, gDict_d, gTuple_t, gTuple_l, atI_0, atI_1, atI_2, atI_3, keyOf, W_sub, W_must, mulOk_r, mulOk_l, size_lit, some_ex, decide_eq_true_eq, decide_true, decide_false, Bool.and_eq_true, Bool.true_and, Bool.and_true, Bool.and_self, Bool.not_true, Bool.not_false, true_and, and_true, true_implies, Bool.false_eq_true, false_implies, not_false_eq_true, not_true_eq_false, Int.reduceLT, Int.reduceLE, Int.reducePow, Int.reduceToNat, Int.reduceNeg, Int.reduceAdd, Int.reduceSub, Int.reduceMul, Nat.reduceLT, Nat.reduceLeDiff, Nat.reducePow, decide_eq_false_iff_not, Option.map_some, Option.map_none, Option.bind_some, Option.bind_none]
    refine take_w ((d.at hf).app _) (by decide) (by decide) fun lo μ3 lo0 lo1 d3 => ?_
    obtain ⟨ν3, rfl, e3⟩ := d3.snoc (by rw [d.len]; exact hn)
    replace d3 := d.trans e3
    try simp -implicitDefEqProofs only [W_bind, W_ok, W_bad, W_ex, W_noEx, W_ite, W_some, W_none, W_chk, W_map, W_obind, W_run, runK_nx, runK_rt, onBody, sNil, W_seq, seqK_nx, seqK_rt, seqK_bk, seqK_ct, sBk, sCt, sExpr, sRet, sRetN, sIf, sSet, sAsg, sPar2, sFor, sDel, eVar, eC, eBin, eUn, eT, boolOf, W_chain, thenB_ok, thenB_b, ok_bind, ofO_some, and_ok, or_ok, and_okD, or_okD, TL.tAnd, TL.tOr, TL.tNot, tTrue, eAnd, eOr, eNot, eIf, aNil, aCons, eTup, eFz, eNew, eFrz, frzD, nLst, nCall, eCall, eCallF, eSl, oNone, oSome, nComp, nCompK, nCat, catO_ll, catO_last, gAdd_last, gAppend_last, isTy_last, size_lt, mergeD_1, nEmpty, nDisp, pNil, pCons, iVal, iRange1, iRange2, iEnumF, iZipF, iItemsF, kRange1, kRange2, kEnum, kZip, kItems, cellD, eMeth, startD, tgSet, tgSets, wipeD, List.map_cons, List.map_nil, List.length_cons, List.length_nil, List.replicate_succ, List.replicate_zero, List.cons_append, List.nil_append, List.append_nil, List.getElem?_cons_zero, List.getElem?_cons_succ, List.getElem?_nil, List.set_cons_zero, List.set_cons_succ, List.set_nil, Nat.reduceAdd, Nat.reduceSub, Nat.reduceEqDiff, if_true, ite_true, if_false, ite_false, Nat.zero_add, gAdd_ii, gAdd_ss, gAdd_tt, gAdd_ll, gSub_ii, gMul_ii, gMul_si, gMul_li, gDiv_ii, gMod_ii, gPow_ii, gNeg_i, gLt_ii, gLe_ii, gGt_ii, gGe_ii, gIs_n, gIsNot_n, gIs_b, gIsNot_b, gAbs_i, gMax2_ii, gMin2_ii, gLen_s, gLen_l, gLen_t, gLen_d, gLen_r, gIx_l, gIx_t, gIx_d, gIx_r, gList_d, gList_l, gList_t, gDict_d, gTuple_t, gTuple_l, atI_0, atI_1, atI_2, atI_3, keyOf, W_sub, W_must, mulOk_r, mulOk_l, size_lit, some_ex, decide_eq_true_eq, decide_true, decide_false, Bool.and_eq_true, Bool.true_and, Bool.and_true, Bool.and_self, Bool.not_true, Bool.not_false, true_and, and_true, true_implies, Bool.false_eq_true, false_implies, not_false_eq_true, not_true_eq_false, Int.reduceLT, Int.reduceLE, Int.reducePow, Int.reduceToNat, Int.reduceNeg, Int.reduceAdd, Int.reduceSub, Int.reduceMul, Nat.reduceLT, Nat.reduceLeDiff, Nat.reducePow, decide_eq_false_iff_not, Option.map_some, Option.map_none, Option.bind_some, Option.bind_none]
    refine pick_w ((d3.at hf).app _) (by simp) (by simp) rfl fun ad μ4 had d4 => ?_
    obtain ⟨ad, rfl, ad0, ad1⟩ : ∃ x : Int, ad = .int x ∧ 0 ≤ x ∧ x ≤ 9 := by
      simp only [List.mem_cons, List.not_mem_nil, or_false] at had
      rcases had with rfl | rfl | rfl | rfl | rfl | rfl <;> exact ⟨_, rfl, by decide, by decide⟩
    obtain ⟨ν4, rfl, e4⟩ := d4.snoc (by rw [d3.len]; exact hn)
    replace d4 := d3.trans e4
    have kd : KdOk ⟨nm, lo, lo + ad⟩ := ⟨hss nm hnm, lo0, by show lo ≤ lo + ad; omega, by show lo + ad ≤ 1000000; omega⟩
    obtain ⟨p1, p2, p3, p4⟩ := putKd_ok hks kd
    have hset : setV (ν4 ++ [some (Cell.dict (ks.map Kd.e))]) (.loc μ2.length) (.str nm) (.tuple [.int lo, .int (lo + ad)]) = some (ν4 ++ [some (Cell.dict ((putKd ks ⟨nm, lo, lo + ad⟩).map Kd.e))]) := by
      rw [setV_dict rfl (by rw [List.length_map]; exact Nat.lt_of_le_of_lt hks.2.1 (Nat.lt_of_lt_of_le (show i < 8 by omega) (by decide))) (by rw [l2, d4.len])]
      exact congrArg (fun z => some (ν4 ++ [some (Cell.dict z)])) (putD_kinds ks ⟨nm, lo, lo + ad⟩)
    simp -implicitDefEqProofs only [hset, W_bind, W_ok, W_bad, W_ex, W_noEx, W_ite, W_some, W_none, W_chk, W_map, W_obind, W_run, runK_nx, runK_rt, onBody, sNil, W_seq, seqK_nx, seqK_rt, seqK_bk, seqK_ct, sBk, sCt, sExpr, sRet, sRetN, sIf, sSet, sAsg, sPar2, sFor, sDel, eVar, eC, eBin, eUn, eT, boolOf, W_chain, thenB_ok, thenB_b, ok_bind, ofO_some, and_ok, or_ok, and_okD, or_okD, TL.tAnd, TL.tOr, TL.tNot, tTrue, eAnd, eOr, eNot, eIf, aNil, aCons, eTup, eFz, eNew, eFrz, frzD, nLst, nCall, eCall, eCallF, eSl, oNone, oSome, nComp, nCompK, nCat, catO_ll, catO_last, gAdd_last, gAppend_last, isTy_last, size_lt, mergeD_1, nEmpty, nDisp, pNil, pCons, iVal, iRange1, iRange2, iEnumF, iZipF, iItemsF, kRange1, kRange2, kEnum, kZip, kItems, cellD, eMeth, startD, tgSet, tgSets, wipeD, List.map_cons, List.map_nil, List.length_cons, List.length_nil, List.replicate_succ, List.replicate_zero, List.cons_append, List.nil_append, List.append_nil, List.getElem?_cons_zero, List.getElem?_cons_succ, List.getElem?_nil, List.set_cons_zero, List.set_cons_succ, List.set_nil, Nat.reduceAdd, Nat.reduceSub, Nat.reduceEqDiff, if_true, ite_true, if_false, ite_false, Nat.zero_add, gAdd_ii, gAdd_ss, gAdd_tt, gAdd_ll, gSub_ii, gMul_ii, gMul_si, gMul_li, gDiv_ii, gMod_ii, gPow_ii, gNeg_i, gLt_ii, gLe_ii, gGt_ii, gGe_ii, gIs_n, gIsNot_n, gIs_b, gIsNot_b, gAbs_i, gMax2_ii, gMin2_ii, gLen_s, gLen_l, gLen_t, gLen_d, gLen_r, gIx_l, gIx_t, gIx_d, gIx_r, gList_d, gList_l, gList_t, gDict_d, gTuple_t, gTuple_l, atI_0, atI_1, atI_2, atI_3, keyOf, W_sub, W_must, mulOk_r, mulOk_l, size_lit, some_ex, decide_eq_true_eq, decide_true, decide_false, Bool.and_eq_true, Bool.true_and, Bool.and_true, Bool.and_self, Bool.not_true, Bool.not_false, true_and, and_true, true_implies, Bool.false_eq_true, false_implies, not_false_eq_true, not_true_eq_false, Int.reduceLT, Int.reduceLE, Int.reducePow, Int.reduceToNat, Int.reduceNeg, Int.reduceAdd, Int.reduceSub, Int.reduceMul, Nat.reduceLT, Nat.reduceLeDiff, Nat.reducePow, decide_eq_false_iff_not, Option.map_some, Option.map_none, Option.bind_some, Option.bind_none]
    exact nx _ _ _ _ d4 ⟨p1, p2, p3⟩ p4
  · intro ρ μ' hi
    rw [hI] at hi
    obtain ⟨ks, ν, o3, o4, rfl, rfl, d, hks, hne⟩ := hi
    rw [List.length_map] at hks hne
    have hm : μ2.length = ν.length := by rw [l2, d.len]
    simp -implicitDefEqProofs only [get_last hm, set_last hm, W_bind, W_ok, W_bad, W_ex, W_noEx, W_ite, W_some, W_none, W_chk, W_map, W_obind, W_run, runK_nx, runK_rt, onBody, sNil, W_seq, seqK_nx, seqK_rt, seqK_bk, seqK_ct, sBk, sCt, sExpr, sRet, sRetN, sIf, sSet, sAsg, sPar2, sFor, sDel, eVar, eC, eBin, eUn, eT, boolOf, W_chain, thenB_ok, thenB_b, ok_bind, ofO_some, and_ok, or_ok, and_okD, or_okD, TL.tAnd, TL.tOr, TL.tNot, tTrue, eAnd, eOr, eNot, eIf, aNil, aCons, eTup, eFz, eNew, eFrz, frzD, nLst, nCall, eCall, eCallF, eSl, oNone, oSome, nComp, nCompK, nCat, catO_ll, catO_last, gAdd_last, gAppend_last, isTy_last, size_lt, mergeD_1, nEmpty, nDisp, pNil, pCons, iVal, iRange1, iRange2, iEnumF, iZipF, iItemsF, kRange1, kRange2, kEnum, kZip, kItems, cellD, eMeth, startD, tgSet, tgSets, wipeD, List.map_cons, List.map_nil, List.length_cons, List.length_nil, List.replicate_succ, List.replicate_zero, List.cons_append, List.nil_append, List.append_nil, List.getElem?_cons_zero, List.getElem?_cons_succ, List.getElem?_nil, List.set_cons_zero, List.set_cons_succ, List.set_nil, Nat.reduceAdd, Nat.reduceSub, Nat.reduceEqDiff, if_true, ite_true, if_false, ite_false, Nat.zero_add, gAdd_ii, gAdd_ss, gAdd_tt, gAdd_ll, gSub_ii, gMul_ii, gMul_si, gMul_li, gDiv_ii, gMod_ii, gPow_ii, gNeg_i, gLt_ii, gLe_ii, gGt_ii, gGe_ii, gIs_n, gIsNot_n, gIs_b, gIsNot_b, gAbs_i, gMax2_ii, gMin2_ii, gLen_s, gLen_l, gLen_t, gLen_d, gLen_r, gIx_l, gIx_t, gIx_d, gIx_r, gList_d, gList_l, gList_t, gDict_d, gTuple_t, gTuple_l, atI_0, atI_1, atI_2, atI_3, keyOf, W_sub, W_must, mulOk_r, mulOk_l, size_lit, some_ex, decide_eq_true_eq, decide_true, decide_false, Bool.and_eq_true, Bool.true_and, Bool.and_true, Bool.and_self, Bool.not_true, Bool.not_false, true_and, and_true, true_implies, Bool.false_eq_true, false_implies, not_false_eq_true, not_true_eq_false, Int.reduceLT, Int.reduceLE, Int.reducePow, Int.reduceToNat, Int.reduceNeg, Int.reduceAdd, Int.reduceSub, Int.reduceMul, Nat.reduceLT, Nat.reduceLeDiff, Nat.reducePow, decide_eq_false_iff_not, Option.map_some, Option.map_none, Option.bind_some, Option.bind_none]
    refine W_ret (d.chk _ _) okLoc_kinds ?_
    rw [d.take]
    exact h ks ν ⟨by omega, hks.1, hks.2.2⟩ (hne (by omega)) d
theorem plate_w {n : Nat} {μ : Mu} {P : D → Mu → Prop} (hf : FeedAt n μ) (h : ∀ (p : Option Str) (μ' : Mu), (∀ s, p = some s → PlOk s) → Dr n μ μ' → P (optD p) μ') : W (c__law_plate [.loc n] μ) P := by
  unfold c__law_plate b__law_plate
  try simp -implicitDefEqProofs only [W_bind, W_ok, W_bad, W_ex, W_noEx, W_ite, W_some, W_none, W_chk, W_map, W_obind, W_run, runK_nx, runK_rt, onBody, sNil, W_seq, seqK_nx, seqK_rt, seqK_bk, seqK_ct, sBk, sCt, sExpr, sRet, sRetN, sIf, sSet, sAsg, sPar2, sFor, sDel, eVar, eC, eBin, eUn, eT, boolOf, W_chain, thenB_ok, thenB_b, ok_bind, ofO_some, and_ok, or_ok, and_okD, or_okD, TL.tAnd, TL.tOr, TL.tNot, tTrue, eAnd, eOr, eNot, eIf, aNil, aCons, eTup, eFz, eNew, eFrz, frzD, nLst, nCall, eCall, eCallF, eSl, oNone, oSome, nComp, nCompK, nCat, catO_ll, catO_last, gAdd_last, gAppend_last, isTy_last, size_lt, mergeD_1, nEmpty, nDisp, pNil, pCons, iVal, iRange1, iRange2, iEnumF, iZipF, iItemsF, kRange1, kRange2, kEnum, kZip, kItems, cellD, eMeth, startD, tgSet, tgSets, wipeD, List.map_cons, List.map_nil, List.length_cons, List.length_nil, List.replicate_succ, List.replicate_zero, List.cons_append, List.nil_append, List.append_nil, List.getElem?_cons_zero, List.getElem?_cons_succ, List.getElem?_nil, List.set_cons_zero, List.set_cons_succ, List.set_nil, Nat.reduceAdd, Nat.reduceSub, Nat.reduceEqDiff, if_true, ite_true, if_false, ite_false, Nat.zero_add, gAdd_ii, gAdd_ss, gAdd_tt, gAdd_ll, gSub_ii, gMul_ii, gMul_si, gMul_li, gDiv_ii, gMod_ii, gPow_ii, gNeg_i, gLt_ii, gLe_ii, gGt_ii, gGe_ii, gIs_n, gIsNot_n, gIs_b, gIsNot_b, gAbs_i, gMax2_ii, gMin2_ii, gLen_s, gLen_l, gLen_t, gLen_d, gLen_r, gIx_l, gIx_t, gIx_d, gIx_r, gList_d, gList_l, gList_t, gDict_d, gTuple_t, gTuple_l, atI_0, atI_1, atI_2, atI_3, keyOf, W_sub, W_must, mulOk_r, mulOk_l, size_lit, some_ex, decide_eq_true_eq, decide_true, decide_false, Bool.and_eq_true, Bool.true_and, Bool.and_true, Bool.and_self, Bool.not_true, Bool.not_false, true_and, and_true, true_implies, Bool.false_eq_true, false_implies, not_false_eq_true, not_true_eq_false, Int.reduceLT, Int.reduceLE, Int.reducePow, Int.reduceToNat, Int.reduceNeg, Int.reduceAdd, Int.reduceSub, Int.reduceMul, Nat.reduceLT, Nat.reduceLeDiff, Nat.reducePow, decide_eq_false_iff_not, Option.map_some, Option.map_none, Option.bind_some, Option.bind_none]
  refine pick_w hf (by simp) (by simp) rfl fun pl μ1 hpl d1 => ?_
  obtain ⟨p, rfl, hp⟩ : ∃ p : Option Str, pl = optD p ∧ ∀ s, p = some s → PlOk s := by
    simp only [List.mem_cons, List.not_mem_nil, or_false] at hpl
    rcases hpl with rfl | rfl | rfl | rfl | rfl | rfl
    · exact ⟨none, rfl, fun s e => nomatch e⟩
    · exact ⟨none, rfl, fun s e => nomatch e⟩
    · exact ⟨none, rfl, fun s e => nomatch e⟩
    · exact ⟨none, rfl, fun s e => nomatch e⟩
    · exact ⟨some "A", rfl, fun s e => by cases e; exact ⟨by decide +kernel, by decide +kernel, by decide +kernel⟩⟩
    · exact ⟨some "B7", rfl, fun s e => by cases e; exact ⟨by decide +kernel, by decide +kernel, by decide +kernel⟩⟩
  try simp -implicitDefEqProofs only [W_bind, W_ok, W_bad, W_ex, W_noEx, W_ite, W_some, W_none, W_chk, W_map, W_obind, W_run, runK_nx, runK_rt, onBody, sNil, W_seq, seqK_nx, seqK_rt, seqK_bk, seqK_ct, sBk, sCt, sExpr, sRet, sRetN, sIf, sSet, sAsg, sPar2, sFor, sDel, eVar, eC, eBin, eUn, eT, boolOf, W_chain, thenB_ok, thenB_b, ok_bind, ofO_some, and_ok, or_ok, and_okD, or_okD, TL.tAnd, TL.tOr, TL.tNot, tTrue, eAnd, eOr, eNot, eIf, aNil, aCons, eTup, eFz, eNew, eFrz, frzD, nLst, nCall, eCall, eCallF, eSl, oNone, oSome, nComp, nCompK, nCat, catO_ll, catO_last, gAdd_last, gAppend_last, isTy_last, size_lt, mergeD_1, nEmpty, nDisp, pNil, pCons, iVal, iRange1, iRange2, iEnumF, iZipF, iItemsF, kRange1, kRange2, kEnum, kZip, kItems, cellD, eMeth, startD, tgSet, tgSets, wipeD, List.map_cons, List.map_nil, List.length_cons, List.length_nil, List.replicate_succ, List.replicate_zero, List.cons_append, List.nil_append, List.append_nil, List.getElem?_cons_zero, List.getElem?_cons_succ, List.getElem?_nil, List.set_cons_zero, List.set_cons_succ, List.set_nil, Nat.reduceAdd, Nat.reduceSub, Nat.reduceEqDiff, if_true, ite_true, if_false, ite_false, Nat.zero_add, gAdd_ii, gAdd_ss, gAdd_tt, gAdd_ll, gSub_ii, gMul_ii, gMul_si, gMul_li, gDiv_ii, gMod_ii, gPow_ii, gNeg_i, gLt_ii, gLe_ii, gGt_ii, gGe_ii, gIs_n, gIsNot_n, gIs_b, gIsNot_b, gAbs_i, gMax2_ii, gMin2_ii, gLen_s, gLen_l, gLen_t, gLen_d, gLen_r, gIx_l, gIx_t, gIx_d, gIx_r, gList_d, gList_l, gList_t, gDict_d, gTuple_t, gTuple_l, atI_0, atI_1, atI_2, atI_3, keyOf, W_sub, W_must, mulOk_r, mulOk_l, size_lit, some_ex, decide_eq_true_eq, decide_true, decide_false, Bool.and_eq_true, Bool.true_and, Bool.and_true, Bool.and_self, Bool.not_true, Bool.not_false, true_and, and_true, true_implies, Bool.false_eq_true, false_implies, not_false_eq_true, not_true_eq_false, Int.reduceLT, Int.reduceLE, Int.reducePow, Int.reduceToNat, Int.reduceNeg, Int.reduceAdd, Int.reduceSub, Int.reduceMul, Nat.reduceLT, Nat.reduceLeDiff, Nat.reducePow, decide_eq_false_iff_not, Option.map_some, Option.map_none, Option.bind_some, Option.bind_none]
  exact W_retD d1 okLoc_opt (h p μ1 hp d1)

/-! ### drawn logs (k45) -/
theorem get2a {ν : Mu} {x y : Option Cell} {m : Nat} (h : m = ν.length) : (ν ++ [x, y])[m]? = some x := by subst h; simp
theorem get2b {ν : Mu} {x y : Option Cell} {m : Nat} (h : m = ν.length) : (ν ++ [x, y])[m + 1]? = some y := by subst h; simp
theorem set2a {ν : Mu} {x y z : Option Cell} {m : Nat} (h : m = ν.length) : (ν ++ [x, y]).set m z = ν ++ [z, y] := by subst h; simp
theorem set2b {ν : Mu} {x y z : Option Cell} {m : Nat} (h : m = ν.length) : (ν ++ [x, y]).set (m + 1) z = ν ++ [x, z] := by
  subst h
  exact (List.set_append_right (ν.length + 1) z (by omega)).trans (by simp)
theorem sorted_kinds (ks : List Kd) (hl : ks.length < 64) : ∃ ss : List Str, (∀ ν, gSorted ν [kindsD ks] = some (.list (ss.map D.str))) ∧ ss.Perm (ks.map (·.n)) := by
  have hk : keysS (ks.map Kd.e) = some (ks.map (·.n)) := by
    clear hl
    induction ks with
    | nil => rfl
    | cons k ks ih => simp only [List.map_cons, Kd.e, keysS, ih, Option.map_some]
  refine ⟨sortB ltS (ks.map (·.n)), fun ν => ?_, sortB_perm _⟩
  unfold gSorted
  have e : dctV ν (kindsD ks) = some (ks.map Kd.e) := rfl
  have hl2 : (ks.map (·.n)).length < 64 := by rw [List.length_map]; exact hl
  simp only [e, hk, Option.bind_some]
  exact if_pos hl2
theorem pickn_w {n : Nat} {ks : List Kd} {μ : Mu} {P : D → Mu → Prop} (hf : FeedAt n μ) (hk : KsOk ks) (hne : ks ≠ []) {ss : List Str} (hp : ss.Perm (ks.map (·.n))) (h : ∀ (k : Kd) (μ' : Mu), k ∈ ks → Dr n μ μ' → P (.str k.n) μ') : W (c__law_pick [.loc n, .list (ss.map D.str)] μ) P := by
  have hl := hp.length_eq
  rw [List.length_map] at hl
  have l8 := hk.len
  refine pick_w hf (fun e => ?_) (by rw [List.length_map]; omega) (okLocs_of fun d hd => by
    obtain ⟨s, _, rfl⟩ := List.mem_map.mp hd
    rfl) fun d μ' hd dr => ?_
  · have : (ss.map D.str).length = 0 := by rw [e]; rfl
    rw [List.length_map] at this
    cases ks with
    | nil => exact hne rfl
    | cons _ _ => simp at hl; omega
  · obtain ⟨s, hs, rfl⟩ := List.mem_map.mp hd
    obtain ⟨k, hkk, rfl⟩ := List.mem_map.mp (hp.mem_iff.mp hs)
    exact h k μ' hkk dr
theorem trip_w {n a : Nat} {ks : List Kd} {size : Int} {es xs : List Ln} {o3 o4 o7 o8 o9 o10 o11 o12 : Option D} {ν : Mu} {Q : TL.Flow → Mu → Prop} (hf : FeedAt n ν) (hk : KsOk ks) (hne : ks ≠ []) (ha : a = ν.length) (he : es.length ≤ 100) (hx : xs.length ≤ 100)
    (h : ∀ (es2 xs2 : List Ln) o7 o8 o9 o10 o11 ν', Dr n ν ν' → es2.length ≤ es.length + 1 → xs2.length ≤ xs.length + 1 → (∀ l ∈ es2, l ∈ es ∨ LnS l ∧ l.t ≤ 2000000) → (∀ l ∈ xs2, l ∈ xs ∨ LnS l ∧ l.t ≤ 2000000) →
      Q (.nx [some (.loc n), some (kindsD ks), some (.int size), o3, o4, some (.loc a), some (.loc (a + 1)), o7, o8, o9, o10, o11, o12]) (ν' ++ [some (.list (es2.map Ln.d)), some (.list (xs2.map Ln.d))])) :
    W (b__law_log_2 [some (.loc n), some (kindsD ks), some (.int size), o3, o4, some (.loc a), some (.loc (a + 1)), o7, o8, o9, o10, o11, o12] (ν ++ [some (.list (es.map Ln.d)), some (.list (xs.map Ln.d))])) Q := by
  have hn := hf.lt
  have l8 := hk.len
  obtain ⟨ss, hs, hperm⟩ := sorted_kinds ks (by omega)
  unfold b__law_log_2
  generalize hT3 : sIf _ b__law_log_1 sNil = T3
  generalize hT2 : sSeq (sIf (eT (eBin gGt _ _)) _ _) T3 = T2
  generalize hT1 : sSeq (sIf (eT (eBin gEq _ _)) _ _) T2 = T1
  have lt3 : ∀ m : Nat, m ≤ 100 → m < sizeLine := fun m hm => Nat.lt_of_le_of_lt hm (by decide)
  have k3 : ∀ (k : Kd) (p : Option Str) (st tr : Int) (es2 : List Ln) o11 ν', k ∈ ks → (∀ s, p = some s → PlOk s) → 0 ≤ st → st < 13 → 0 ≤ tr → tr ≤ 1500000 → Dr n ν ν' → es2.length ≤ es.length + 1 → (∀ l ∈ es2, l ∈ es ∨ LnS l ∧ l.t ≤ 2000000) →
      W (T3 [some (.loc n), some (kindsD ks), some (.int size), o3, o4, some (.loc a), some (.loc (a + 1)), some (.str k.n), some (.int tr), some (.int st), some (optD p), o11, o12] (ν' ++ [some (.list (es2.map Ln.d)), some (.list (xs.map Ln.d))])) Q := by
    intro k p st tr es2 o11 ν' hkk hp s0 s1 t0 t1 d hl hes
    have hf' := d.at hf
    have ha' : a = ν'.length := by rw [d.len]; exact ha
    rw [← hT3]
    try simp -implicitDefEqProofs only [W_bind, W_ok, W_bad, W_ex, W_noEx, W_ite, W_some, W_none, W_chk, W_map, W_obind, W_run, runK_nx, runK_rt, onBody, sNil, W_seq, seqK_nx, seqK_rt, seqK_bk, seqK_ct, sBk, sCt, sExpr, sRet, sRetN, sIf, sSet, sAsg, sPar2, sFor, sDel, eVar, eC, eBin, eUn, eT, boolOf, W_chain, thenB_ok, thenB_b, ok_bind, ofO_some, and_ok, or_ok, and_okD, or_okD, TL.tAnd, TL.tOr, TL.tNot, tTrue, eAnd, eOr, eNot, eIf, aNil, aCons, eTup, eFz, eNew, eFrz, frzD, nLst, nCall, eCall, eCallF, eSl, oNone, oSome, nComp, nCompK, nCat, catO_ll, catO_last, gAdd_last, gAppend_last, isTy_last, size_lt, mergeD_1, nEmpty, nDisp, pNil, pCons, iVal, iRange1, iRange2, iEnumF, iZipF, iItemsF, kRange1, kRange2, kEnum, kZip, kItems, cellD, eMeth, startD, tgSet, tgSets, wipeD, List.map_cons, List.map_nil, List.length_cons, List.length_nil, List.replicate_succ, List.replicate_zero, List.cons_append, List.nil_append, List.append_nil, List.getElem?_cons_zero, List.getElem?_cons_succ, List.getElem?_nil, List.set_cons_zero, List.set_cons_succ, List.set_nil, Nat.reduceAdd, Nat.reduceSub, Nat.reduceEqDiff, if_true, ite_true, if_false, ite_false, Nat.zero_add, gAdd_ii, gAdd_ss, gAdd_tt, gAdd_ll, gSub_ii, gMul_ii, gMul_si, gMul_li, gDiv_ii, gMod_ii, gPow_ii, gNeg_i, gLt_ii, gLe_ii, gGt_ii, gGe_ii, gIs_n, gIsNot_n, gIs_b, gIsNot_b, gAbs_i, gMax2_ii, gMin2_ii, gLen_s, gLen_l, gLen_t, gLen_d, gLen_r, gIx_l, gIx_t, gIx_d, gIx_r, gList_d, gList_l, gList_t, gDict_d, gTuple_t, gTuple_l, atI_0, atI_1, atI_2, atI_3, keyOf, W_sub, W_must, mulOk_r, mulOk_l, size_lit, some_ex, decide_eq_true_eq, decide_true, decide_false, Bool.and_eq_true, Bool.true_and, Bool.and_true, Bool.and_self, Bool.not_true, Bool.not_false, true_and, and_true, true_implies, Bool.false_eq_true, false_implies, not_false_eq_true, not_true_eq_false, Int.reduceLT, Int.reduceLE, Int.reducePow, Int.reduceToNat, Int.reduceNeg, Int.reduceAdd, Int.reduceSub, Int.reduceMul, Nat.reduceLT, Nat.reduceLeDiff, Nat.reducePow, decide_eq_false_iff_not, Option.map_some, Option.map_none, Option.bind_some, Option.bind_none]
    refine take_w (hf'.app _) (by decide) (by decide) fun r μ1 r0 r1 d1 => ?_
    obtain ⟨ν1, rfl, e1⟩ := d1.snoc hf'.lt
    have d1' := d.trans e1
    have ha1 : a = ν1.length := by rw [d1'.len]; exact ha
    try simp -implicitDefEqProofs only [W_bind, W_ok, W_bad, W_ex, W_noEx, W_ite, W_some, W_none, W_chk, W_map, W_obind, W_run, runK_nx, runK_rt, onBody, sNil, W_seq, seqK_nx, seqK_rt, seqK_bk, seqK_ct, sBk, sCt, sExpr, sRet, sRetN, sIf, sSet, sAsg, sPar2, sFor, sDel, eVar, eC, eBin, eUn, eT, boolOf, W_chain, thenB_ok, thenB_b, ok_bind, ofO_some, and_ok, or_ok, and_okD, or_okD, TL.tAnd, TL.tOr, TL.tNot, tTrue, eAnd, eOr, eNot, eIf, aNil, aCons, eTup, eFz, eNew, eFrz, frzD, nLst, nCall, eCall, eCallF, eSl, oNone, oSome, nComp, nCompK, nCat, catO_ll, catO_last, gAdd_last, gAppend_last, isTy_last, size_lt, mergeD_1, nEmpty, nDisp, pNil, pCons, iVal, iRange1, iRange2, iEnumF, iZipF, iItemsF, kRange1, kRange2, kEnum, kZip, kItems, cellD, eMeth, startD, tgSet, tgSets, wipeD, List.map_cons, List.map_nil, List.length_cons, List.length_nil, List.replicate_succ, List.replicate_zero, List.cons_append, List.nil_append, List.append_nil, List.getElem?_cons_zero, List.getElem?_cons_succ, List.getElem?_nil, List.set_cons_zero, List.set_cons_succ, List.set_nil, Nat.reduceAdd, Nat.reduceSub, Nat.reduceEqDiff, if_true, ite_true, if_false, ite_false, Nat.zero_add, gAdd_ii, gAdd_ss, gAdd_tt, gAdd_ll, gSub_ii, gMul_ii, gMul_si, gMul_li, gDiv_ii, gMod_ii, gPow_ii, gNeg_i, gLt_ii, gLe_ii, gGt_ii, gGe_ii, gIs_n, gIsNot_n, gIs_b, gIsNot_b, gAbs_i, gMax2_ii, gMin2_ii, gLen_s, gLen_l, gLen_t, gLen_d, gLen_r, gIx_l, gIx_t, gIx_d, gIx_r, gList_d, gList_l, gList_t, gDict_d, gTuple_t, gTuple_l, atI_0, atI_1, atI_2, atI_3, keyOf, W_sub, W_must, mulOk_r, mulOk_l, size_lit, some_ex, decide_eq_true_eq, decide_true, decide_false, Bool.and_eq_true, Bool.true_and, Bool.and_true, Bool.and_self, Bool.not_true, Bool.not_false, true_and, and_true, true_implies, Bool.false_eq_true, false_implies, not_false_eq_true, not_true_eq_false, Int.reduceLT, Int.reduceLE, Int.reducePow, Int.reduceToNat, Int.reduceNeg, Int.reduceAdd, Int.reduceSub, Int.reduceMul, Nat.reduceLT, Nat.reduceLeDiff, Nat.reducePow, decide_eq_false_iff_not, Option.map_some, Option.map_none, Option.bind_some, Option.bind_none]
    refine ⟨fun _ => ?_, fun _ => h es2 xs _ _ _ _ _ ν1 d1' hl (by omega) hes (fun l hl => .inl hl)⟩
    unfold b__law_log_1
    try simp -implicitDefEqProofs only [W_bind, W_ok, W_bad, W_ex, W_noEx, W_ite, W_some, W_none, W_chk, W_map, W_obind, W_run, runK_nx, runK_rt, onBody, sNil, W_seq, seqK_nx, seqK_rt, seqK_bk, seqK_ct, sBk, sCt, sExpr, sRet, sRetN, sIf, sSet, sAsg, sPar2, sFor, sDel, eVar, eC, eBin, eUn, eT, boolOf, W_chain, thenB_ok, thenB_b, ok_bind, ofO_some, and_ok, or_ok, and_okD, or_okD, TL.tAnd, TL.tOr, TL.tNot, tTrue, eAnd, eOr, eNot, eIf, aNil, aCons, eTup, eFz, eNew, eFrz, frzD, nLst, nCall, eCall, eCallF, eSl, oNone, oSome, nComp, nCompK, nCat, catO_ll, catO_last, gAdd_last, gAppend_last, isTy_last, size_lt, mergeD_1, nEmpty, nDisp, pNil, pCons, iVal, iRange1, iRange2, iEnumF, iZipF, iItemsF, kRange1, kRange2, kEnum, kZip, kItems, cellD, eMeth, startD, tgSet, tgSets, wipeD, List.map_cons, List.map_nil, List.length_cons, List.length_nil, List.replicate_succ, List.replicate_zero, List.cons_append, List.nil_append, List.append_nil, List.getElem?_cons_zero, List.getElem?_cons_succ, List.getElem?_nil, List.set_cons_zero, List.set_cons_succ, List.set_nil, Nat.reduceAdd, Nat.reduceSub, Nat.reduceEqDiff, if_true, ite_true, if_false, ite_false, Nat.zero_add, gAdd_ii, gAdd_ss, gAdd_tt, gAdd_ll, gSub_ii, gMul_ii, gMul_si, gMul_li, gDiv_ii, gMod_ii, gPow_ii, gNeg_i, gLt_ii, gLe_ii, gGt_ii, gGe_ii, gIs_n, gIsNot_n, gIs_b, gIsNot_b, gAbs_i, gMax2_ii, gMin2_ii, gLen_s, gLen_l, gLen_t, gLen_d, gLen_r, gIx_l, gIx_t, gIx_d, gIx_r, gList_d, gList_l, gList_t, gDict_d, gTuple_t, gTuple_l, atI_0, atI_1, atI_2, atI_3, keyOf, W_sub, W_must, mulOk_r, mulOk_l, size_lit, some_ex, decide_eq_true_eq, decide_true, decide_false, Bool.and_eq_true, Bool.true_and, Bool.and_true, Bool.and_self, Bool.not_true, Bool.not_false, true_and, and_true, true_implies, Bool.false_eq_true, false_implies, not_false_eq_true, not_true_eq_false, Int.reduceLT, Int.reduceLE, Int.reducePow, Int.reduceToNat, Int.reduceNeg, Int.reduceAdd, Int.reduceSub, Int.reduceMul, Nat.reduceLT, Nat.reduceLeDiff, Nat.reducePow, decide_eq_false_iff_not, Option.map_some, Option.map_none, Option.bind_some, Option.bind_none]
    refine pick_w ((d1'.at hf).app _) (by simp) (by simp) rfl fun q μ2 hq d2 => ?_
    obtain ⟨ν2, rfl, e2⟩ := d2.snoc (d1'.at hf).lt
    have d2' := d1'.trans e2
    obtain ⟨kd, rfl, hkd⟩ : ∃ o : Option Str, q = optD o ∧ ∀ s, o = some s → NmOk s := by
      simp only [List.mem_cons, List.not_mem_nil, or_false] at hq
      rcases hq with rfl | rfl | rfl
      · exact ⟨some k.n, rfl, fun s e => by cases e; exact (hk.ok k hkk).nm⟩
      · exact ⟨some k.n, rfl, fun s e => by cases e; exact (hk.ok k hkk).nm⟩
      · exact ⟨none, rfl, fun s e => nomatch e⟩
    try simp -implicitDefEqProofs only [W_bind, W_ok, W_bad, W_ex, W_noEx, W_ite, W_some, W_none, W_chk, W_map, W_obind, W_run, runK_nx, runK_rt, onBody, sNil, W_seq, seqK_nx, seqK_rt, seqK_bk, seqK_ct, sBk, sCt, sExpr, sRet, sRetN, sIf, sSet, sAsg, sPar2, sFor, sDel, eVar, eC, eBin, eUn, eT, boolOf, W_chain, thenB_ok, thenB_b, ok_bind, ofO_some, and_ok, or_ok, and_okD, or_okD, TL.tAnd, TL.tOr, TL.tNot, tTrue, eAnd, eOr, eNot, eIf, aNil, aCons, eTup, eFz, eNew, eFrz, frzD, nLst, nCall, eCall, eCallF, eSl, oNone, oSome, nComp, nCompK, nCat, catO_ll, catO_last, gAdd_last, gAppend_last, isTy_last, size_lt, mergeD_1, nEmpty, nDisp, pNil, pCons, iVal, iRange1, iRange2, iEnumF, iZipF, iItemsF, kRange1, kRange2, kEnum, kZip, kItems, cellD, eMeth, startD, tgSet, tgSets, wipeD, List.map_cons, List.map_nil, List.length_cons, List.length_nil, List.replicate_succ, List.replicate_zero, List.cons_append, List.nil_append, List.append_nil, List.getElem?_cons_zero, List.getElem?_cons_succ, List.getElem?_nil, List.set_cons_zero, List.set_cons_succ, List.set_nil, Nat.reduceAdd, Nat.reduceSub, Nat.reduceEqDiff, if_true, ite_true, if_false, ite_false, Nat.zero_add, gAdd_ii, gAdd_ss, gAdd_tt, gAdd_ll, gSub_ii, gMul_ii, gMul_si, gMul_li, gDiv_ii, gMod_ii, gPow_ii, gNeg_i, gLt_ii, gLe_ii, gGt_ii, gGe_ii, gIs_n, gIsNot_n, gIs_b, gIsNot_b, gAbs_i, gMax2_ii, gMin2_ii, gLen_s, gLen_l, gLen_t, gLen_d, gLen_r, gIx_l, gIx_t, gIx_d, gIx_r, gList_d, gList_l, gList_t, gDict_d, gTuple_t, gTuple_l, atI_0, atI_1, atI_2, atI_3, keyOf, W_sub, W_must, mulOk_r, mulOk_l, size_lit, some_ex, decide_eq_true_eq, decide_true, decide_false, Bool.and_eq_true, Bool.true_and, Bool.and_true, Bool.and_self, Bool.not_true, Bool.not_false, true_and, and_true, true_implies, Bool.false_eq_true, false_implies, not_false_eq_true, not_true_eq_false, Int.reduceLT, Int.reduceLE, Int.reducePow, Int.reduceToNat, Int.reduceNeg, Int.reduceAdd, Int.reduceSub, Int.reduceMul, Nat.reduceLT, Nat.reduceLeDiff, Nat.reducePow, decide_eq_false_iff_not, Option.map_some, Option.map_none, Option.bind_some, Option.bind_none]
    refine pick_w ((d2'.at hf).app _) (by simp) (by simp) (by simp [okLocs, okLoc_opt, okLoc]) fun q μ3 hq d3 => ?_
    obtain ⟨ν3, rfl, e3⟩ := d3.snoc (d2'.at hf).lt
    have d3' := d2'.trans e3
    obtain ⟨pl, rfl, hpl⟩ : ∃ o : Option Str, q = optD o ∧ ∀ s, o = some s → PlOk s := by
      simp only [List.mem_cons, List.not_mem_nil, or_false] at hq
      rcases hq with rfl | rfl | rfl
      · exact ⟨p, rfl, hp⟩
      · exact ⟨p, rfl, hp⟩
      · exact ⟨none, rfl, fun s e => nomatch e⟩
    have ha3 : a = ν3.length := by rw [d3'.len]; exact ha
    have it : isTy (ν3 ++ [some (.list (es2.map Ln.d)), some (.list (xs.map Ln.d))]) "list" (.loc (a + 1)) = true := isTy_list (xs := xs.map Ln.d) (get2b ha3)
    have ap : ∀ z, gAppend (ν3 ++ [some (.list (es2.map Ln.d)), some (.list (xs.map Ln.d))]) (.loc (a + 1)) [z] = some (.none, ν3 ++ [some (.list (es2.map Ln.d)), some (.list (xs.map Ln.d ++ [z]))]) := fun z => by
      rw [gAppend_c (xs := xs.map Ln.d) (get2b ha3) (by rw [List.length_map]; exact lt3 _ (by omega)), set2b ha3]
    simp -implicitDefEqProofs only [it, ap, W_bind, W_ok, W_bad, W_ex, W_noEx, W_ite, W_some, W_none, W_chk, W_map, W_obind, W_run, runK_nx, runK_rt, onBody, sNil, W_seq, seqK_nx, seqK_rt, seqK_bk, seqK_ct, sBk, sCt, sExpr, sRet, sRetN, sIf, sSet, sAsg, sPar2, sFor, sDel, eVar, eC, eBin, eUn, eT, boolOf, W_chain, thenB_ok, thenB_b, ok_bind, ofO_some, and_ok, or_ok, and_okD, or_okD, TL.tAnd, TL.tOr, TL.tNot, tTrue, eAnd, eOr, eNot, eIf, aNil, aCons, eTup, eFz, eNew, eFrz, frzD, nLst, nCall, eCall, eCallF, eSl, oNone, oSome, nComp, nCompK, nCat, catO_ll, catO_last, gAdd_last, gAppend_last, isTy_last, size_lt, mergeD_1, nEmpty, nDisp, pNil, pCons, iVal, iRange1, iRange2, iEnumF, iZipF, iItemsF, kRange1, kRange2, kEnum, kZip, kItems, cellD, eMeth, startD, tgSet, tgSets, wipeD, List.map_cons, List.map_nil, List.length_cons, List.length_nil, List.replicate_succ, List.replicate_zero, List.cons_append, List.nil_append, List.append_nil, List.getElem?_cons_zero, List.getElem?_cons_succ, List.getElem?_nil, List.set_cons_zero, List.set_cons_succ, List.set_nil, Nat.reduceAdd, Nat.reduceSub, Nat.reduceEqDiff, if_true, ite_true, if_false, ite_false, Nat.zero_add, gAdd_ii, gAdd_ss, gAdd_tt, gAdd_ll, gSub_ii, gMul_ii, gMul_si, gMul_li, gDiv_ii, gMod_ii, gPow_ii, gNeg_i, gLt_ii, gLe_ii, gGt_ii, gGe_ii, gIs_n, gIsNot_n, gIs_b, gIsNot_b, gAbs_i, gMax2_ii, gMin2_ii, gLen_s, gLen_l, gLen_t, gLen_d, gLen_r, gIx_l, gIx_t, gIx_d, gIx_r, gList_d, gList_l, gList_t, gDict_d, gTuple_t, gTuple_l, atI_0, atI_1, atI_2, atI_3, keyOf, W_sub, W_must, mulOk_r, mulOk_l, size_lit, some_ex, decide_eq_true_eq, decide_true, decide_false, Bool.and_eq_true, Bool.true_and, Bool.and_true, Bool.and_self, Bool.not_true, Bool.not_false, true_and, and_true, true_implies, Bool.false_eq_true, false_implies, not_false_eq_true, not_true_eq_false, Int.reduceLT, Int.reduceLE, Int.reducePow, Int.reduceToNat, Int.reduceNeg, Int.reduceAdd, Int.reduceSub, Int.reduceMul, Nat.reduceLT, Nat.reduceLeDiff, Nat.reducePow, decide_eq_false_iff_not, Option.map_some, Option.map_none, Option.bind_some, Option.bind_none]
    have e : xs.map Ln.d ++ [D.tuple [.int (st + tr), optD kd, optD pl]] = (xs ++ [(⟨st + tr, kd, pl⟩ : Ln)]).map Ln.d := by simp [Ln.d]
    rw [e]
    refine h es2 _ _ _ _ _ _ ν3 d3' hl (by simp) hes fun l hl => ?_
    rcases List.mem_append.mp hl with hl | hl
    · exact .inl hl
    · rw [List.mem_singleton.mp hl]
      exact .inr ⟨⟨by show 0 ≤ st + tr; omega, by show st + tr ≤ 2000000000; omega, hkd, hpl⟩, by show st + tr ≤ 2000000; omega⟩
  have k2 : ∀ (k : Kd) (p : Option Str) (st tr : Int) o11 ν', k ∈ ks → (∀ s, p = some s → PlOk s) → 0 ≤ st → st < 13 → 0 ≤ tr → tr ≤ 1500000 → Dr n ν ν' →
      W (T2 [some (.loc n), some (kindsD ks), some (.int size), o3, o4, some (.loc a), some (.loc (a + 1)), some (.str k.n), some (.int tr), some (.int st), some (optD p), o11, o12] (ν' ++ [some (.list (es.map Ln.d)), some (.list (xs.map Ln.d))])) Q := by
    intro k p st tr o11 ν' hkk hp s0 s1 t0 t1 d
    have hf' := d.at hf
    rw [← hT2]
    try simp -implicitDefEqProofs only [W_bind, W_ok, W_bad, W_ex, W_noEx, W_ite, W_some, W_none, W_chk, W_map, W_obind, W_run, runK_nx, runK_rt, onBody, sNil, W_seq, seqK_nx, seqK_rt, seqK_bk, seqK_ct, sBk, sCt, sExpr, sRet, sRetN, sIf, sSet, sAsg, sPar2, sFor, sDel, eVar, eC, eBin, eUn, eT, boolOf, W_chain, thenB_ok, thenB_b, ok_bind, ofO_some, and_ok, or_ok, and_okD, or_okD, TL.tAnd, TL.tOr, TL.tNot, tTrue, eAnd, eOr, eNot, eIf, aNil, aCons, eTup, eFz, eNew, eFrz, frzD, nLst, nCall, eCall, eCallF, eSl, oNone, oSome, nComp, nCompK, nCat, catO_ll, catO_last, gAdd_last, gAppend_last, isTy_last, size_lt, mergeD_1, nEmpty, nDisp, pNil, pCons, iVal, iRange1, iRange2, iEnumF, iZipF, iItemsF, kRange1, kRange2, kEnum, kZip, kItems, cellD, eMeth, startD, tgSet, tgSets, wipeD, List.map_cons, List.map_nil, List.length_cons, List.length_nil, List.replicate_succ, List.replicate_zero, List.cons_append, List.nil_append, List.append_nil, List.getElem?_cons_zero, List.getElem?_cons_succ, List.getElem?_nil, List.set_cons_zero, List.set_cons_succ, List.set_nil, Nat.reduceAdd, Nat.reduceSub, Nat.reduceEqDiff, if_true, ite_true, if_false, ite_false, Nat.zero_add, gAdd_ii, gAdd_ss, gAdd_tt, gAdd_ll, gSub_ii, gMul_ii, gMul_si, gMul_li, gDiv_ii, gMod_ii, gPow_ii, gNeg_i, gLt_ii, gLe_ii, gGt_ii, gGe_ii, gIs_n, gIsNot_n, gIs_b, gIsNot_b, gAbs_i, gMax2_ii, gMin2_ii, gLen_s, gLen_l, gLen_t, gLen_d, gLen_r, gIx_l, gIx_t, gIx_d, gIx_r, gList_d, gList_l, gList_t, gDict_d, gTuple_t, gTuple_l, atI_0, atI_1, atI_2, atI_3, keyOf, W_sub, W_must, mulOk_r, mulOk_l, size_lit, some_ex, decide_eq_true_eq, decide_true, decide_false, Bool.and_eq_true, Bool.true_and, Bool.and_true, Bool.and_self, Bool.not_true, Bool.not_false, true_and, and_true, true_implies, Bool.false_eq_true, false_implies, not_false_eq_true, not_true_eq_false, Int.reduceLT, Int.reduceLE, Int.reducePow, Int.reduceToNat, Int.reduceNeg, Int.reduceAdd, Int.reduceSub, Int.reduceMul, Nat.reduceLT, Nat.reduceLeDiff, Nat.reducePow, decide_eq_false_iff_not, Option.map_some, Option.map_none, Option.bind_some, Option.bind_none]
    refine take_w (hf'.app _) (by decide) (by decide) fun r μ1 r0 r1 d1 => ?_
    obtain ⟨ν1, rfl, e1⟩ := d1.snoc hf'.lt
    have d1' := d.trans e1
    have ha1 : a = ν1.length := by rw [d1'.len]; exact ha
    have it : isTy (ν1 ++ [some (.list (es.map Ln.d)), some (.list (xs.map Ln.d))]) "list" (.loc a) = true := isTy_list (xs := es.map Ln.d) (get2a ha1)
    simp -implicitDefEqProofs only [it, W_bind, W_ok, W_bad, W_ex, W_noEx, W_ite, W_some, W_none, W_chk, W_map, W_obind, W_run, runK_nx, runK_rt, onBody, sNil, W_seq, seqK_nx, seqK_rt, seqK_bk, seqK_ct, sBk, sCt, sExpr, sRet, sRetN, sIf, sSet, sAsg, sPar2, sFor, sDel, eVar, eC, eBin, eUn, eT, boolOf, W_chain, thenB_ok, thenB_b, ok_bind, ofO_some, and_ok, or_ok, and_okD, or_okD, TL.tAnd, TL.tOr, TL.tNot, tTrue, eAnd, eOr, eNot, eIf, aNil, aCons, eTup, eFz, eNew, eFrz, frzD, nLst, nCall, eCall, eCallF, eSl, oNone, oSome, nComp, nCompK, nCat, catO_ll, catO_last, gAdd_last, gAppend_last, isTy_last, size_lt, mergeD_1, nEmpty, nDisp, pNil, pCons, iVal, iRange1, iRange2, iEnumF, iZipF, iItemsF, kRange1, kRange2, kEnum, kZip, kItems, cellD, eMeth, startD, tgSet, tgSets, wipeD, List.map_cons, List.map_nil, List.length_cons, List.length_nil, List.replicate_succ, List.replicate_zero, List.cons_append, List.nil_append, List.append_nil, List.getElem?_cons_zero, List.getElem?_cons_succ, List.getElem?_nil, List.set_cons_zero, List.set_cons_succ, List.set_nil, Nat.reduceAdd, Nat.reduceSub, Nat.reduceEqDiff, if_true, ite_true, if_false, ite_false, Nat.zero_add, gAdd_ii, gAdd_ss, gAdd_tt, gAdd_ll, gSub_ii, gMul_ii, gMul_si, gMul_li, gDiv_ii, gMod_ii, gPow_ii, gNeg_i, gLt_ii, gLe_ii, gGt_ii, gGe_ii, gIs_n, gIsNot_n, gIs_b, gIsNot_b, gAbs_i, gMax2_ii, gMin2_ii, gLen_s, gLen_l, gLen_t, gLen_d, gLen_r, gIx_l, gIx_t, gIx_d, gIx_r, gList_d, gList_l, gList_t, gDict_d, gTuple_t, gTuple_l, atI_0, atI_1, atI_2, atI_3, keyOf, W_sub, W_must, mulOk_r, mulOk_l, size_lit, some_ex, decide_eq_true_eq, decide_true, decide_false, Bool.and_eq_true, Bool.true_and, Bool.and_true, Bool.and_self, Bool.not_true, Bool.not_false, true_and, and_true, true_implies, Bool.false_eq_true, false_implies, not_false_eq_true, not_true_eq_false, Int.reduceLT, Int.reduceLE, Int.reducePow, Int.reduceToNat, Int.reduceNeg, Int.reduceAdd, Int.reduceSub, Int.reduceMul, Nat.reduceLT, Nat.reduceLeDiff, Nat.reducePow, decide_eq_false_iff_not, Option.map_some, Option.map_none, Option.bind_some, Option.bind_none]
    refine ⟨fun _ => ?_, fun _ => k3 k p st tr es _ ν1 hkk hp s0 s1 t0 t1 d1' (by omega) (fun l hl => .inl hl)⟩
    refine pick_w ((d1'.at hf).app _) (by simp) (by simp) rfl fun q μ2 hq d2 => ?_
    obtain ⟨ν2, rfl, e2⟩ := d2.snoc (d1'.at hf).lt
    have d2' := d1'.trans e2
    obtain ⟨kd, rfl, hkd⟩ : ∃ o : Option Str, q = optD o ∧ ∀ s, o = some s → NmOk s := by
      simp only [List.mem_cons, List.not_mem_nil, or_false] at hq
      rcases hq with rfl | rfl | rfl
      · exact ⟨some k.n, rfl, fun s e => by cases e; exact (hk.ok k hkk).nm⟩
      · exact ⟨some k.n, rfl, fun s e => by cases e; exact (hk.ok k hkk).nm⟩
      · exact ⟨none, rfl, fun s e => nomatch e⟩
    try simp -implicitDefEqProofs only [W_bind, W_ok, W_bad, W_ex, W_noEx, W_ite, W_some, W_none, W_chk, W_map, W_obind, W_run, runK_nx, runK_rt, onBody, sNil, W_seq, seqK_nx, seqK_rt, seqK_bk, seqK_ct, sBk, sCt, sExpr, sRet, sRetN, sIf, sSet, sAsg, sPar2, sFor, sDel, eVar, eC, eBin, eUn, eT, boolOf, W_chain, thenB_ok, thenB_b, ok_bind, ofO_some, and_ok, or_ok, and_okD, or_okD, TL.tAnd, TL.tOr, TL.tNot, tTrue, eAnd, eOr, eNot, eIf, aNil, aCons, eTup, eFz, eNew, eFrz, frzD, nLst, nCall, eCall, eCallF, eSl, oNone, oSome, nComp, nCompK, nCat, catO_ll, catO_last, gAdd_last, gAppend_last, isTy_last, size_lt, mergeD_1, nEmpty, nDisp, pNil, pCons, iVal, iRange1, iRange2, iEnumF, iZipF, iItemsF, kRange1, kRange2, kEnum, kZip, kItems, cellD, eMeth, startD, tgSet, tgSets, wipeD, List.map_cons, List.map_nil, List.length_cons, List.length_nil, List.replicate_succ, List.replicate_zero, List.cons_append, List.nil_append, List.append_nil, List.getElem?_cons_zero, List.getElem?_cons_succ, List.getElem?_nil, List.set_cons_zero, List.set_cons_succ, List.set_nil, Nat.reduceAdd, Nat.reduceSub, Nat.reduceEqDiff, if_true, ite_true, if_false, ite_false, Nat.zero_add, gAdd_ii, gAdd_ss, gAdd_tt, gAdd_ll, gSub_ii, gMul_ii, gMul_si, gMul_li, gDiv_ii, gMod_ii, gPow_ii, gNeg_i, gLt_ii, gLe_ii, gGt_ii, gGe_ii, gIs_n, gIsNot_n, gIs_b, gIsNot_b, gAbs_i, gMax2_ii, gMin2_ii, gLen_s, gLen_l, gLen_t, gLen_d, gLen_r, gIx_l, gIx_t, gIx_d, gIx_r, gList_d, gList_l, gList_t, gDict_d, gTuple_t, gTuple_l, atI_0, atI_1, atI_2, atI_3, keyOf, W_sub, W_must, mulOk_r, mulOk_l, size_lit, some_ex, decide_eq_true_eq, decide_true, decide_false, Bool.and_eq_true, Bool.true_and, Bool.and_true, Bool.and_self, Bool.not_true, Bool.not_false, true_and, and_true, true_implies, Bool.false_eq_true, false_implies, not_false_eq_true, not_true_eq_false, Int.reduceLT, Int.reduceLE, Int.reducePow, Int.reduceToNat, Int.reduceNeg, Int.reduceAdd, Int.reduceSub, Int.reduceMul, Nat.reduceLT, Nat.reduceLeDiff, Nat.reducePow, decide_eq_false_iff_not, Option.map_some, Option.map_none, Option.bind_some, Option.bind_none]
    refine pick_w ((d2'.at hf).app _) (by simp) (by simp) (by simp [okLocs, okLoc_opt, okLoc]) fun q μ3 hq d3 => ?_
    obtain ⟨ν3, rfl, e3⟩ := d3.snoc (d2'.at hf).lt
    have d3' := d2'.trans e3
    obtain ⟨pl, rfl, hpl⟩ : ∃ o : Option Str, q = optD o ∧ ∀ s, o = some s → PlOk s := by
      simp only [List.mem_cons, List.not_mem_nil, or_false] at hq
      rcases hq with rfl | rfl | rfl
      · exact ⟨p, rfl, hp⟩
      · exact ⟨p, rfl, hp⟩
      · exact ⟨none, rfl, fun s e => nomatch e⟩
    have ha3 : a = ν3.length := by rw [d3'.len]; exact ha
    have ap : ∀ z, gAppend (ν3 ++ [some (.list (es.map Ln.d)), some (.list (xs.map Ln.d))]) (.loc a) [z] = some (.none, ν3 ++ [some (.list (es.map Ln.d ++ [z])), some (.list (xs.map Ln.d))]) := fun z => by
      rw [gAppend_c (xs := es.map Ln.d) (get2a ha3) (by rw [List.length_map]; exact lt3 _ (by omega)), set2a ha3]
    simp -implicitDefEqProofs only [ap, W_bind, W_ok, W_bad, W_ex, W_noEx, W_ite, W_some, W_none, W_chk, W_map, W_obind, W_run, runK_nx, runK_rt, onBody, sNil, W_seq, seqK_nx, seqK_rt, seqK_bk, seqK_ct, sBk, sCt, sExpr, sRet, sRetN, sIf, sSet, sAsg, sPar2, sFor, sDel, eVar, eC, eBin, eUn, eT, boolOf, W_chain, thenB_ok, thenB_b, ok_bind, ofO_some, and_ok, or_ok, and_okD, or_okD, TL.tAnd, TL.tOr, TL.tNot, tTrue, eAnd, eOr, eNot, eIf, aNil, aCons, eTup, eFz, eNew, eFrz, frzD, nLst, nCall, eCall, eCallF, eSl, oNone, oSome, nComp, nCompK, nCat, catO_ll, catO_last, gAdd_last, gAppend_last, isTy_last, size_lt, mergeD_1, nEmpty, nDisp, pNil, pCons, iVal, iRange1, iRange2, iEnumF, iZipF, iItemsF, kRange1, kRange2, kEnum, kZip, kItems, cellD, eMeth, startD, tgSet, tgSets, wipeD, List.map_cons, List.map_nil, List.length_cons, List.length_nil, List.replicate_succ, List.replicate_zero, List.cons_append, List.nil_append, List.append_nil, List.getElem?_cons_zero, List.getElem?_cons_succ, List.getElem?_nil, List.set_cons_zero, List.set_cons_succ, List.set_nil, Nat.reduceAdd, Nat.reduceSub, Nat.reduceEqDiff, if_true, ite_true, if_false, ite_false, Nat.zero_add, gAdd_ii, gAdd_ss, gAdd_tt, gAdd_ll, gSub_ii, gMul_ii, gMul_si, gMul_li, gDiv_ii, gMod_ii, gPow_ii, gNeg_i, gLt_ii, gLe_ii, gGt_ii, gGe_ii, gIs_n, gIsNot_n, gIs_b, gIsNot_b, gAbs_i, gMax2_ii, gMin2_ii, gLen_s, gLen_l, gLen_t, gLen_d, gLen_r, gIx_l, gIx_t, gIx_d, gIx_r, gList_d, gList_l, gList_t, gDict_d, gTuple_t, gTuple_l, atI_0, atI_1, atI_2, atI_3, keyOf, W_sub, W_must, mulOk_r, mulOk_l, size_lit, some_ex, decide_eq_true_eq, decide_true, decide_false, Bool.and_eq_true, Bool.true_and, Bool.and_true, Bool.and_self, Bool.not_true, Bool.not_false, true_and, and_true, true_implies, Bool.false_eq_true, false_implies, not_false_eq_true, not_true_eq_false, Int.reduceLT, Int.reduceLE, Int.reducePow, Int.reduceToNat, Int.reduceNeg, Int.reduceAdd, Int.reduceSub, Int.reduceMul, Nat.reduceLT, Nat.reduceLeDiff, Nat.reducePow, decide_eq_false_iff_not, Option.map_some, Option.map_none, Option.bind_some, Option.bind_none]
    have e : es.map Ln.d ++ [D.tuple [.int st, optD kd, optD pl]] = (es ++ [(⟨st, kd, pl⟩ : Ln)]).map Ln.d := by simp [Ln.d]
    rw [e]
    refine k3 k p st tr _ _ ν3 hkk hp s0 s1 t0 t1 d3' (by simp) fun l hl => ?_
    rcases List.mem_append.mp hl with hl | hl
    · exact .inl hl
    · rw [List.mem_singleton.mp hl]
      exact .inr ⟨⟨s0, by show st ≤ 2000000000; omega, hkd, hpl⟩, by show st ≤ 2000000; omega⟩
  simp -implicitDefEqProofs only [hs, W_bind, W_ok, W_bad, W_ex, W_noEx, W_ite, W_some, W_none, W_chk, W_map, W_obind, W_run, runK_nx, runK_rt, onBody, sNil, W_seq, seqK_nx, seqK_rt, seqK_bk, seqK_ct, sBk, sCt, sExpr, sRet, sRetN, sIf, sSet, sAsg, sPar2, sFor, sDel, eVar, eC, eBin, eUn, eT, boolOf, W_chain, thenB_ok, thenB_b, ok_bind, ofO_some, and_ok, or_ok, and_okD, or_okD, TL.tAnd, TL.tOr, TL.tNot, tTrue, eAnd, eOr, eNot, eIf, aNil, aCons, eTup, eFz, eNew, eFrz, frzD, nLst, nCall, eCall, eCallF, eSl, oNone, oSome, nComp, nCompK, nCat, catO_ll, catO_last, gAdd_last, gAppend_last, isTy_last, size_lt, mergeD_1, nEmpty, nDisp, pNil, pCons, iVal, iRange1, iRange2, iEnumF, iZipF, iItemsF, kRange1, kRange2, kEnum, kZip, kItems, cellD, eMeth, startD, tgSet, tgSets, wipeD, List.map_cons, List.map_nil, List.length_cons, List.length_nil, List.replicate_succ, List.replicate_zero, List.cons_append, List.nil_append, List.append_nil, List.getElem?_cons_zero, List.getElem?_cons_succ, List.getElem?_nil, List.set_cons_zero, List.set_cons_succ, List.set_nil, Nat.reduceAdd, Nat.reduceSub, Nat.reduceEqDiff, if_true, ite_true, if_false, ite_false, Nat.zero_add, gAdd_ii, gAdd_ss, gAdd_tt, gAdd_ll, gSub_ii, gMul_ii, gMul_si, gMul_li, gDiv_ii, gMod_ii, gPow_ii, gNeg_i, gLt_ii, gLe_ii, gGt_ii, gGe_ii, gIs_n, gIsNot_n, gIs_b, gIsNot_b, gAbs_i, gMax2_ii, gMin2_ii, gLen_s, gLen_l, gLen_t, gLen_d, gLen_r, gIx_l, gIx_t, gIx_d, gIx_r, gList_d, gList_l, gList_t, gDict_d, gTuple_t, gTuple_l, atI_0, atI_1, atI_2, atI_3, keyOf, W_sub, W_must, mulOk_r, mulOk_l, size_lit, some_ex, decide_eq_true_eq, decide_true, decide_false, Bool.and_eq_true, Bool.true_and, Bool.and_true, Bool.and_self, Bool.not_true, Bool.not_false, true_and, and_true, true_implies, Bool.false_eq_true, false_implies, not_false_eq_true, not_true_eq_false, Int.reduceLT, Int.reduceLE, Int.reducePow, Int.reduceToNat, Int.reduceNeg, Int.reduceAdd, Int.reduceSub, Int.reduceMul, Nat.reduceLT, Nat.reduceLeDiff, Nat.reducePow, decide_eq_false_iff_not, Option.map_some, Option.map_none, Option.bind_some, Option.bind_none]
  refine pickn_w (hf.app _) hk hne hperm fun k μ1 hkk d1 => ?_
  obtain ⟨ν1, rfl, e1⟩ := d1.snoc hn
  have kd := hk.ok k hkk
  have gx : ∀ ν, gIx ν (kindsD ks) (.str k.n) = some (.tuple [.int k.lo, .int k.hi]) := fun ν => getK_kinds hk.nd hkk
  try simp -implicitDefEqProofs only [W_bind, W_ok, W_bad, W_ex, W_noEx, W_ite, W_some, W_none, W_chk, W_map, W_obind, W_run, runK_nx, runK_rt, onBody, sNil, W_seq, seqK_nx, seqK_rt, seqK_bk, seqK_ct, sBk, sCt, sExpr, sRet, sRetN, sIf, sSet, sAsg, sPar2, sFor, sDel, eVar, eC, eBin, eUn, eT, boolOf, W_chain, thenB_ok, thenB_b, ok_bind, ofO_some, and_ok, or_ok, and_okD, or_okD, TL.tAnd, TL.tOr, TL.tNot, tTrue, eAnd, eOr, eNot, eIf, aNil, aCons, eTup, eFz, eNew, eFrz, frzD, nLst, nCall, eCall, eCallF, eSl, oNone, oSome, nComp, nCompK, nCat, catO_ll, catO_last, gAdd_last, gAppend_last, isTy_last, size_lt, mergeD_1, nEmpty, nDisp, pNil, pCons, iVal, iRange1, iRange2, iEnumF, iZipF, iItemsF, kRange1, kRange2, kEnum, kZip, kItems, cellD, eMeth, startD, tgSet, tgSets, wipeD, List.map_cons, List.map_nil, List.length_cons, List.length_nil, List.replicate_succ, List.replicate_zero, List.cons_append, List.nil_append, List.append_nil, List.getElem?_cons_zero, List.getElem?_cons_succ, List.getElem?_nil, List.set_cons_zero, List.set_cons_succ, List.set_nil, Nat.reduceAdd, Nat.reduceSub, Nat.reduceEqDiff, if_true, ite_true, if_false, ite_false, Nat.zero_add, gAdd_ii, gAdd_ss, gAdd_tt, gAdd_ll, gSub_ii, gMul_ii, gMul_si, gMul_li, gDiv_ii, gMod_ii, gPow_ii, gNeg_i, gLt_ii, gLe_ii, gGt_ii, gGe_ii, gIs_n, gIsNot_n, gIs_b, gIsNot_b, gAbs_i, gMax2_ii, gMin2_ii, gLen_s, gLen_l, gLen_t, gLen_d, gLen_r, gIx_l, gIx_t, gIx_d, gIx_r, gList_d, gList_l, gList_t, gDict_d, gTuple_t, gTuple_l, atI_0, atI_1, atI_2, atI_3, keyOf, W_sub, W_must, mulOk_r, mulOk_l, size_lit, some_ex, decide_eq_true_eq, decide_true, decide_false, Bool.and_eq_true, Bool.true_and, Bool.and_true, Bool.and_self, Bool.not_true, Bool.not_false, true_and, and_true, true_implies, Bool.false_eq_true, false_implies, not_false_eq_true, not_true_eq_false, Int.reduceLT, Int.reduceLE, Int.reducePow, Int.reduceToNat, Int.reduceNeg, Int.reduceAdd, Int.reduceSub, Int.reduceMul, Nat.reduceLT, Nat.reduceLeDiff, Nat.reducePow, decide_eq_false_iff_not, Option.map_some, Option.map_none, Option.bind_some, Option.bind_none]
  refine take_w ((e1.at hf).app _) (by decide) (by decide) fun st μ2 s0 s1 d2 => ?_
  obtain ⟨ν2, rfl, e2⟩ := d2.snoc (e1.at hf).lt
  have e12 := e1.trans e2
  try simp -implicitDefEqProofs only [W_bind, W_ok, W_bad, W_ex, W_noEx, W_ite, W_some, W_none, W_chk, W_map, W_obind, W_run, runK_nx, runK_rt, onBody, sNil, W_seq, seqK_nx, seqK_rt, seqK_bk, seqK_ct, sBk, sCt, sExpr, sRet, sRetN, sIf, sSet, sAsg, sPar2, sFor, sDel, eVar, eC, eBin, eUn, eT, boolOf, W_chain, thenB_ok, thenB_b, ok_bind, ofO_some, and_ok, or_ok, and_okD, or_okD, TL.tAnd, TL.tOr, TL.tNot, tTrue, eAnd, eOr, eNot, eIf, aNil, aCons, eTup, eFz, eNew, eFrz, frzD, nLst, nCall, eCall, eCallF, eSl, oNone, oSome, nComp, nCompK, nCat, catO_ll, catO_last, gAdd_last, gAppend_last, isTy_last, size_lt, mergeD_1, nEmpty, nDisp, pNil, pCons, iVal, iRange1, iRange2, iEnumF, iZipF, iItemsF, kRange1, kRange2, kEnum, kZip, kItems, cellD, eMeth, startD, tgSet, tgSets, wipeD, List.map_cons, List.map_nil, List.length_cons, List.length_nil, List.replicate_succ, List.replicate_zero, List.cons_append, List.nil_append, List.append_nil, List.getElem?_cons_zero, List.getElem?_cons_succ, List.getElem?_nil, List.set_cons_zero, List.set_cons_succ, List.set_nil, Nat.reduceAdd, Nat.reduceSub, Nat.reduceEqDiff, if_true, ite_true, if_false, ite_false, Nat.zero_add, gAdd_ii, gAdd_ss, gAdd_tt, gAdd_ll, gSub_ii, gMul_ii, gMul_si, gMul_li, gDiv_ii, gMod_ii, gPow_ii, gNeg_i, gLt_ii, gLe_ii, gGt_ii, gGe_ii, gIs_n, gIsNot_n, gIs_b, gIsNot_b, gAbs_i, gMax2_ii, gMin2_ii, gLen_s, gLen_l, gLen_t, gLen_d, gLen_r, gIx_l, gIx_t, gIx_d, gIx_r, gList_d, gList_l, gList_t, gDict_d, gTuple_t, gTuple_l, atI_0, atI_1, atI_2, atI_3, keyOf, W_sub, W_must, mulOk_r, mulOk_l, size_lit, some_ex, decide_eq_true_eq, decide_true, decide_false, Bool.and_eq_true, Bool.true_and, Bool.and_true, Bool.and_self, Bool.not_true, Bool.not_false, true_and, and_true, true_implies, Bool.false_eq_true, false_implies, not_false_eq_true, not_true_eq_false, Int.reduceLT, Int.reduceLE, Int.reducePow, Int.reduceToNat, Int.reduceNeg, Int.reduceAdd, Int.reduceSub, Int.reduceMul, Nat.reduceLT, Nat.reduceLeDiff, Nat.reducePow, decide_eq_false_iff_not, Option.map_some, Option.map_none, Option.bind_some, Option.bind_none]
  refine plate_w ((e12.at hf).app _) fun p μ3 hp d3 => ?_
  obtain ⟨ν3, rfl, e3⟩ := d3.snoc (e12.at hf).lt
  have e13 := e12.trans e3
  simp -implicitDefEqProofs only [gx, W_bind, W_ok, W_bad, W_ex, W_noEx, W_ite, W_some, W_none, W_chk, W_map, W_obind, W_run, runK_nx, runK_rt, onBody, sNil, W_seq, seqK_nx, seqK_rt, seqK_bk, seqK_ct, sBk, sCt, sExpr, sRet, sRetN, sIf, sSet, sAsg, sPar2, sFor, sDel, eVar, eC, eBin, eUn, eT, boolOf, W_chain, thenB_ok, thenB_b, ok_bind, ofO_some, and_ok, or_ok, and_okD, or_okD, TL.tAnd, TL.tOr, TL.tNot, tTrue, eAnd, eOr, eNot, eIf, aNil, aCons, eTup, eFz, eNew, eFrz, frzD, nLst, nCall, eCall, eCallF, eSl, oNone, oSome, nComp, nCompK, nCat, catO_ll, catO_last, gAdd_last, gAppend_last, isTy_last, size_lt, mergeD_1, nEmpty, nDisp, pNil, pCons, iVal, iRange1, iRange2, iEnumF, iZipF, iItemsF, kRange1, kRange2, kEnum, kZip, kItems, cellD, eMeth, startD, tgSet, tgSets, wipeD, List.map_cons, List.map_nil, List.length_cons, List.length_nil, List.replicate_succ, List.replicate_zero, List.cons_append, List.nil_append, List.append_nil, List.getElem?_cons_zero, List.getElem?_cons_succ, List.getElem?_nil, List.set_cons_zero, List.set_cons_succ, List.set_nil, Nat.reduceAdd, Nat.reduceSub, Nat.reduceEqDiff, if_true, ite_true, if_false, ite_false, Nat.zero_add, gAdd_ii, gAdd_ss, gAdd_tt, gAdd_ll, gSub_ii, gMul_ii, gMul_si, gMul_li, gDiv_ii, gMod_ii, gPow_ii, gNeg_i, gLt_ii, gLe_ii, gGt_ii, gGe_ii, gIs_n, gIsNot_n, gIs_b, gIsNot_b, gAbs_i, gMax2_ii, gMin2_ii, gLen_s, gLen_l, gLen_t, gLen_d, gLen_r, gIx_l, gIx_t, gIx_d, gIx_r, gList_d, gList_l, gList_t, gDict_d, gTuple_t, gTuple_l, atI_0, atI_1, atI_2, atI_3, keyOf, W_sub, W_must, mulOk_r, mulOk_l, size_lit, some_ex, decide_eq_true_eq, decide_true, decide_false, Bool.and_eq_true, Bool.true_and, Bool.and_true, Bool.and_self, Bool.not_true, Bool.not_false, true_and, and_true, true_implies, Bool.false_eq_true, false_implies, not_false_eq_true, not_true_eq_false, Int.reduceLT, Int.reduceLE, Int.reducePow, Int.reduceToNat, Int.reduceNeg, Int.reduceAdd, Int.reduceSub, Int.reduceMul, Nat.reduceLT, Nat.reduceLeDiff, Nat.reducePow, decide_eq_false_iff_not, Option.map_some, Option.map_none, Option.bind_some, Option.bind_none]
  have b1 := kd.lo
  have b2 := kd.le
  have b3 := kd.hi
  refine take_w ((e13.at hf).app _) (by omega) (by omega) fun tr μ4 t0 t1 d4 => ?_
  obtain ⟨ν4, rfl, e4⟩ := d4.snoc (e13.at hf).lt
  have e14 := e13.trans e4
  rw [← hT1]
  try simp -implicitDefEqProofs only [W_bind, W_ok, W_bad, W_ex, W_noEx, W_ite, W_some, W_none, W_chk, W_map, W_obind, W_run, runK_nx, runK_rt, onBody, sNil, W_seq, seqK_nx, seqK_rt, seqK_bk, seqK_ct, sBk, sCt, sExpr, sRet, sRetN, sIf, sSet, sAsg, sPar2, sFor, sDel, eVar, eC, eBin, eUn, eT, boolOf, W_chain, thenB_ok, thenB_b, ok_bind, ofO_some, and_ok, or_ok, and_okD, or_okD, TL.tAnd, TL.tOr, TL.tNot, tTrue, eAnd, eOr, eNot, eIf, aNil, aCons, eTup, eFz, eNew, eFrz, frzD, nLst, nCall, eCall, eCallF, eSl, oNone, oSome, nComp, nCompK, nCat, catO_ll, catO_last, gAdd_last, gAppend_last, isTy_last, size_lt, mergeD_1, nEmpty, nDisp, pNil, pCons, iVal, iRange1, iRange2, iEnumF, iZipF, iItemsF, kRange1, kRange2, kEnum, kZip, kItems, cellD, eMeth, startD, tgSet, tgSets, wipeD, List.map_cons, List.map_nil, List.length_cons, List.length_nil, List.replicate_succ, List.replicate_zero, List.cons_append, List.nil_append, List.append_nil, List.getElem?_cons_zero, List.getElem?_cons_succ, List.getElem?_nil, List.set_cons_zero, List.set_cons_succ, List.set_nil, Nat.reduceAdd, Nat.reduceSub, Nat.reduceEqDiff, if_true, ite_true, if_false, ite_false, Nat.zero_add, gAdd_ii, gAdd_ss, gAdd_tt, gAdd_ll, gSub_ii, gMul_ii, gMul_si, gMul_li, gDiv_ii, gMod_ii, gPow_ii, gNeg_i, gLt_ii, gLe_ii, gGt_ii, gGe_ii, gIs_n, gIsNot_n, gIs_b, gIsNot_b, gAbs_i, gMax2_ii, gMin2_ii, gLen_s, gLen_l, gLen_t, gLen_d, gLen_r, gIx_l, gIx_t, gIx_d, gIx_r, gList_d, gList_l, gList_t, gDict_d, gTuple_t, gTuple_l, atI_0, atI_1, atI_2, atI_3, keyOf, W_sub, W_must, mulOk_r, mulOk_l, size_lit, some_ex, decide_eq_true_eq, decide_true, decide_false, Bool.and_eq_true, Bool.true_and, Bool.and_true, Bool.and_self, Bool.not_true, Bool.not_false, true_and, and_true, true_implies, Bool.false_eq_true, false_implies, not_false_eq_true, not_true_eq_false, Int.reduceLT, Int.reduceLE, Int.reducePow, Int.reduceToNat, Int.reduceNeg, Int.reduceAdd, Int.reduceSub, Int.reduceMul, Nat.reduceLT, Nat.reduceLeDiff, Nat.reducePow, decide_eq_false_iff_not, Option.map_some, Option.map_none, Option.bind_some, Option.bind_none]
  refine take_w ((e14.at hf).app _) (by decide) (by decide) fun z μ5 z0 z1 d5 => ?_
  obtain ⟨ν5, rfl, e5⟩ := d5.snoc (e14.at hf).lt
  have e15 := e14.trans e5
  simp -implicitDefEqProofs only [gEq_ii, W_bind, W_ok, W_bad, W_ex, W_noEx, W_ite, W_some, W_none, W_chk, W_map, W_obind, W_run, runK_nx, runK_rt, onBody, sNil, W_seq, seqK_nx, seqK_rt, seqK_bk, seqK_ct, sBk, sCt, sExpr, sRet, sRetN, sIf, sSet, sAsg, sPar2, sFor, sDel, eVar, eC, eBin, eUn, eT, boolOf, W_chain, thenB_ok, thenB_b, ok_bind, ofO_some, and_ok, or_ok, and_okD, or_okD, TL.tAnd, TL.tOr, TL.tNot, tTrue, eAnd, eOr, eNot, eIf, aNil, aCons, eTup, eFz, eNew, eFrz, frzD, nLst, nCall, eCall, eCallF, eSl, oNone, oSome, nComp, nCompK, nCat, catO_ll, catO_last, gAdd_last, gAppend_last, isTy_last, size_lt, mergeD_1, nEmpty, nDisp, pNil, pCons, iVal, iRange1, iRange2, iEnumF, iZipF, iItemsF, kRange1, kRange2, kEnum, kZip, kItems, cellD, eMeth, startD, tgSet, tgSets, wipeD, List.map_cons, List.map_nil, List.length_cons, List.length_nil, List.replicate_succ, List.replicate_zero, List.cons_append, List.nil_append, List.append_nil, List.getElem?_cons_zero, List.getElem?_cons_succ, List.getElem?_nil, List.set_cons_zero, List.set_cons_succ, List.set_nil, Nat.reduceAdd, Nat.reduceSub, Nat.reduceEqDiff, if_true, ite_true, if_false, ite_false, Nat.zero_add, gAdd_ii, gAdd_ss, gAdd_tt, gAdd_ll, gSub_ii, gMul_ii, gMul_si, gMul_li, gDiv_ii, gMod_ii, gPow_ii, gNeg_i, gLt_ii, gLe_ii, gGt_ii, gGe_ii, gIs_n, gIsNot_n, gIs_b, gIsNot_b, gAbs_i, gMax2_ii, gMin2_ii, gLen_s, gLen_l, gLen_t, gLen_d, gLen_r, gIx_l, gIx_t, gIx_d, gIx_r, gList_d, gList_l, gList_t, gDict_d, gTuple_t, gTuple_l, atI_0, atI_1, atI_2, atI_3, keyOf, W_sub, W_must, mulOk_r, mulOk_l, size_lit, some_ex, decide_eq_true_eq, decide_true, decide_false, Bool.and_eq_true, Bool.true_and, Bool.and_true, Bool.and_self, Bool.not_true, Bool.not_false, true_and, and_true, true_implies, Bool.false_eq_true, false_implies, not_false_eq_true, not_true_eq_false, Int.reduceLT, Int.reduceLE, Int.reducePow, Int.reduceToNat, Int.reduceNeg, Int.reduceAdd, Int.reduceSub, Int.reduceMul, Nat.reduceLT, Nat.reduceLeDiff, Nat.reducePow, decide_eq_false_iff_not, Option.map_some, Option.map_none, Option.bind_some, Option.bind_none]
  exact ⟨fun _ => k2 k p st _ _ ν5 hkk hp s0 s1 (by omega) (by omega) e15, fun _ => k2 k p st _ _ ν5 hkk hp s0 s1 (by omega) (by omega) e15⟩
structure Lg45 (g : Lg) (b : Nat) : Prop where
  n0 : g.en.length ≤ b
  n1 : g.ex.length ≤ b
  en : ∀ l ∈ g.en, LnS l
  ex : ∀ l ∈ g.ex, LnS l
  f0 : ∀ i, g.f0 = some i → 0 ≤ i ∧ i ≤ 1000000000
  f1 : ∀ i, g.f1 = some i → 0 ≤ i ∧ i ≤ 1000000000
theorem okLoc_lines {ls : List Ln} {n : Nat} : okLoc n (linesD ls) = true := by
  unfold linesD okLoc
  exact okLocs_of fun q hq => by
    obtain ⟨l, _, rfl⟩ := List.mem_map.mp hq
    exact okLoc_line
theorem okLoc_fl {f : Option Int} {n : Nat} : okLoc n (flD f) = true := by cases f <;> rfl
theorem log45_w {n : Nat} {size : Int} {ks : List Kd} {μ : Mu} {P : D → Mu → Prop} (hf : FeedAt n μ) (hk : KsOk ks) (hne : ks ≠ []) (z0 : 0 ≤ size) (z1 : size ≤ 5)
    (h : ∀ (g : Lg) (μ' : Mu), Lg45 g 5 → Dr n μ μ' → P g.d μ') : W (c__law_log [.loc n, kindsD ks, .int size] μ) P := by
  have hn := hf.lt
  unfold c__law_log b__law_log
  generalize hT4 : sSeq (sFrz 6) _ = T4
  generalize hT3 : sSeq (sSet 4 _) T4 = T3
  generalize hT2 : sSeq (sIf _ (sSet 6 _) sNil) T3 = T2
  have k3 : ∀ (es xs : List Ln) (a b : Nat) (ex : Mu) (ν : Mu) o3 o4 o7 o8 o9 o10 o11 o12, Dr n μ ν → es.length ≤ 5 → xs.length ≤ 5 → (∀ l ∈ es, LnS l) → (∀ l ∈ xs, LnS l) → a ≠ b → ν.length ≤ a → ν.length ≤ b → ex[a - ν.length]? = some (some (.list (es.map Ln.d))) → ex[b - ν.length]? = some (some (.list (xs.map Ln.d))) →
      W (T3 [some (.loc n), some (kindsD ks), some (.int size), o3, o4, some (.loc a), some (.loc b), o7, o8, o9, o10, o11, o12] (ν ++ ex)) (runK μ P) := by
    intro es xs a b ex ν o3 o4 o7 o8 o9 o10 o11 o12 d he hx hes hxs hab hna hnb ga gb
    rw [← hT3]
    simp -implicitDefEqProofs only [isIn62_small (i := 2) (by decide) (by decide), rng_small (i := 0) (n := 2) (by decide), W_bind, W_ok, W_bad, W_ex, W_noEx, W_ite, W_some, W_none, W_chk, W_map, W_obind, W_run, runK_nx, runK_rt, onBody, sNil, W_seq, seqK_nx, seqK_rt, seqK_bk, seqK_ct, sBk, sCt, sExpr, sRet, sRetN, sIf, sSet, sAsg, sPar2, sFor, sDel, eVar, eC, eBin, eUn, eT, boolOf, W_chain, thenB_ok, thenB_b, ok_bind, ofO_some, and_ok, or_ok, and_okD, or_okD, TL.tAnd, TL.tOr, TL.tNot, tTrue, eAnd, eOr, eNot, eIf, aNil, aCons, eTup, eFz, eNew, eFrz, frzD, nLst, nCall, eCall, eCallF, eSl, oNone, oSome, nComp, nCompK, nCat, catO_ll, catO_last, gAdd_last, gAppend_last, isTy_last, size_lt, mergeD_1, nEmpty, nDisp, pNil, pCons, iVal, iRange1, iRange2, iEnumF, iZipF, iItemsF, kRange1, kRange2, kEnum, kZip, kItems, cellD, eMeth, startD, tgSet, tgSets, wipeD, List.map_cons, List.map_nil, List.length_cons, List.length_nil, List.replicate_succ, List.replicate_zero, List.cons_append, List.nil_append, List.append_nil, List.getElem?_cons_zero, List.getElem?_cons_succ, List.getElem?_nil, List.set_cons_zero, List.set_cons_succ, List.set_nil, Nat.reduceAdd, Nat.reduceSub, Nat.reduceEqDiff, if_true, ite_true, if_false, ite_false, Nat.zero_add, gAdd_ii, gAdd_ss, gAdd_tt, gAdd_ll, gSub_ii, gMul_ii, gMul_si, gMul_li, gDiv_ii, gMod_ii, gPow_ii, gNeg_i, gLt_ii, gLe_ii, gGt_ii, gGe_ii, gIs_n, gIsNot_n, gIs_b, gIsNot_b, gAbs_i, gMax2_ii, gMin2_ii, gLen_s, gLen_l, gLen_t, gLen_d, gLen_r, gIx_l, gIx_t, gIx_d, gIx_r, gList_d, gList_l, gList_t, gDict_d, gTuple_t, gTuple_l, atI_0, atI_1, atI_2, atI_3, keyOf, W_sub, W_must, mulOk_r, mulOk_l, size_lit, some_ex, decide_eq_true_eq, decide_true, decide_false, Bool.and_eq_true, Bool.true_and, Bool.and_true, Bool.and_self, Bool.not_true, Bool.not_false, true_and, and_true, true_implies, Bool.false_eq_true, false_implies, not_false_eq_true, not_true_eq_false, Int.reduceLT, Int.reduceLE, Int.reducePow, Int.reduceToNat, Int.reduceNeg, Int.reduceAdd, Int.reduceSub, Int.reduceMul, Nat.reduceLT, Nat.reduceLeDiff, Nat.reducePow, decide_eq_false_iff_not, Option.map_some, Option.map_none, Option.bind_some, Option.bind_none]
    refine Exists.elim (⟨_, rfl⟩ : ∃ J : Nat → List D → Mu → Prop, J = fun i ds ν' => ∃ (ν1 : Mu) (fs : List (Option Int)), ν' = ν1 ++ ex ∧ Dr n μ ν1 ∧ ds = fs.map flD ∧ fs.length = i ∧ ∀ f ∈ fs, ∀ i, f = some i → 0 ≤ i ∧ i ≤ 1000000000) fun J hJ => ?_
    refine W_compL J _ (by rw [hJ]; exact ⟨ν, [], rfl, d, rfl, rfl, fun _ h => nomatch h⟩) (fun _ _ _ _ => rfl) ?_ ?_
    · intro k x ds ν' hx hj
      rw [hJ] at hj
      obtain ⟨ν1, fs, rfl, d1, rfl, hl, hfs⟩ := hj
      have nj : ∀ (f : Option Int) ν2, (∀ i, f = some i → 0 ≤ i ∧ i ≤ 1000000000) → Dr n μ ν2 → J (k + 1) (fs.map flD ++ [flD f]) (ν2 ++ ex) := by
        rw [hJ]
        intro f ν2 hf2 d2
        refine ⟨ν2, fs ++ [f], rfl, d2, by simp, by simp [hl], fun z hz => ?_⟩
        rcases List.mem_append.mp hz with hz | hz
        · exact hfs z hz
        · rw [List.mem_singleton.mp hz]; exact hf2
      clear hJ hx
      refine ⟨_, rfl, ?_⟩
      try simp -implicitDefEqProofs only [W_bind, W_ok, W_bad, W_ex, W_noEx, W_ite, W_some, W_none, W_chk, W_map, W_obind, W_run, runK_nx, runK_rt, onBody, sNil, W_seq, seqK_nx, seqK_rt, seqK_bk, seqK_ct, sBk, sCt, sExpr, sRet, sRetN, sIf, sSet, sAsg, sPar2, sFor, sDel, eVar, eC, eBin, eUn, eT, boolOf, W_chain, thenB_ok, thenB_b, ok_bind, ofO_some, and_ok, or_ok, and_okD, or_okD, TL.tAnd, TL.tOr, TL.tNot, tTrue, eAnd, eOr, eNot, eIf, aNil, aCons, eTup, eFz, eNew, eFrz, frzD, nLst, nCall, eCall, eCallF, eSl, oNone, oSome, nComp, nCompK, nCat, catO_ll, catO_last, gAdd_last, gAppend_last, isTy_last, size_lt, mergeD_1, nEmpty, nDisp, pNil, pCons, iVal, iRange1, iRange2, iEnumF, iZipF, iItemsF, kRange1, kRange2, kEnum, kZip, kItems, cellD, eMeth, startD, tgSet, tgSets, wipeD, List.map_cons, List.map_nil, List.length_cons, List.length_nil, List.replicate_succ, List.replicate_zero, List.cons_append, List.nil_append, List.append_nil, List.getElem?_cons_zero, List.getElem?_cons_succ, List.getElem?_nil, List.set_cons_zero, List.set_cons_succ, List.set_nil, Nat.reduceAdd, Nat.reduceSub, Nat.reduceEqDiff, if_true, ite_true, if_false, ite_false, Nat.zero_add, gAdd_ii, gAdd_ss, gAdd_tt, gAdd_ll, gSub_ii, gMul_ii, gMul_si, gMul_li, gDiv_ii, gMod_ii, gPow_ii, gNeg_i, gLt_ii, gLe_ii, gGt_ii, gGe_ii, gIs_n, gIsNot_n, gIs_b, gIsNot_b, gAbs_i, gMax2_ii, gMin2_ii, gLen_s, gLen_l, gLen_t, gLen_d, gLen_r, gIx_l, gIx_t, gIx_d, gIx_r, gList_d, gList_l, gList_t, gDict_d, gTuple_t, gTuple_l, atI_0, atI_1, atI_2, atI_3, keyOf, W_sub, W_must, mulOk_r, mulOk_l, size_lit, some_ex, decide_eq_true_eq, decide_true, decide_false, Bool.and_eq_true, Bool.true_and, Bool.and_true, Bool.and_self, Bool.not_true, Bool.not_false, true_and, and_true, true_implies, Bool.false_eq_true, false_implies, not_false_eq_true, not_true_eq_false, Int.reduceLT, Int.reduceLE, Int.reducePow, Int.reduceToNat, Int.reduceNeg, Int.reduceAdd, Int.reduceSub, Int.reduceMul, Nat.reduceLT, Nat.reduceLeDiff, Nat.reducePow, decide_eq_false_iff_not, Option.map_some, Option.map_none, Option.bind_some, Option.bind_none]
      refine pick_w ((d1.at hf).app _) (by simp) (by simp) rfl fun q μ2 hq d2 => ?_
      obtain ⟨ν2, rfl, e2⟩ := d2.snoc (d1.at hf).lt
      have sm : ∀ z : Int, 0 ≤ z → z ≤ 1000000000 → ∀ i, some z = some i → 0 ≤ i ∧ i ≤ 1000000000 := fun z a b i e => by cases e; exact ⟨a, b⟩
      simp only [List.mem_cons, List.not_mem_nil, or_false] at hq
      rcases hq with rfl | rfl | rfl | rfl | rfl | rfl | rfl
      · exact nj none ν2 (fun i e => nomatch e) (d1.trans e2)
      · exact nj (some 0) ν2 (sm _ (by decide) (by decide)) (d1.trans e2)
      · exact nj (some 3) ν2 (sm _ (by decide) (by decide)) (d1.trans e2)
      · exact nj (some 8) ν2 (sm _ (by decide) (by decide)) (d1.trans e2)
      · exact nj (some 14) ν2 (sm _ (by decide) (by decide)) (d1.trans e2)
      · exact nj (some 30) ν2 (sm _ (by decide) (by decide)) (d1.trans e2)
      · exact nj (some 1000000000) ν2 (sm _ (by decide) (by decide)) (d1.trans e2)
    · intro ds ν' hj
      rw [hJ] at hj
      obtain ⟨ν1, fs, rfl, d1, rfl, hl, hfs⟩ := hj
      clear hJ
      rw [rangeD_len] at hl
      have l1 : ν1.length = ν.length := by rw [d1.len, d.len]
      rw [← l1] at hna hnb ga gb
      have gb' : (ν1 ++ ex)[b]? = some (some (.list (xs.map Ln.d))) := by rw [List.getElem?_append_right hnb]; exact gb
      have sb : (ν1 ++ ex).set b none = ν1 ++ ex.set (b - ν1.length) none := List.set_append_right b none hnb
      have ga' : (ν1 ++ ex.set (b - ν1.length) none)[a]? = some (some (.list (es.map Ln.d))) := by
        rw [List.getElem?_append_right hna, List.getElem?_set_ne (by omega)]; exact ga
      have sa : (ν1 ++ ex.set (b - ν1.length) none).set a none = ν1 ++ (ex.set (b - ν1.length) none).set (a - ν1.length) none := List.set_append_right a none hna
      match fs, hl with
      | [fa, fb], _ =>
        try simp -implicitDefEqProofs only [W_bind, W_ok, W_bad, W_ex, W_noEx, W_ite, W_some, W_none, W_chk, W_map, W_obind, W_run, runK_nx, runK_rt, onBody, sNil, W_seq, seqK_nx, seqK_rt, seqK_bk, seqK_ct, sBk, sCt, sExpr, sRet, sRetN, sIf, sSet, sAsg, sPar2, sFor, sDel, eVar, eC, eBin, eUn, eT, boolOf, W_chain, thenB_ok, thenB_b, ok_bind, ofO_some, and_ok, or_ok, and_okD, or_okD, TL.tAnd, TL.tOr, TL.tNot, tTrue, eAnd, eOr, eNot, eIf, aNil, aCons, eTup, eFz, eNew, eFrz, frzD, nLst, nCall, eCall, eCallF, eSl, oNone, oSome, nComp, nCompK, nCat, catO_ll, catO_last, gAdd_last, gAppend_last, isTy_last, size_lt, mergeD_1, nEmpty, nDisp, pNil, pCons, iVal, iRange1, iRange2, iEnumF, iZipF, iItemsF, kRange1, kRange2, kEnum, kZip, kItems, cellD, eMeth, startD, tgSet, tgSets, wipeD, List.map_cons, List.map_nil, List.length_cons, List.length_nil, List.replicate_succ, List.replicate_zero, List.cons_append, List.nil_append, List.append_nil, List.getElem?_cons_zero, List.getElem?_cons_succ, List.getElem?_nil, List.set_cons_zero, List.set_cons_succ, List.set_nil, Nat.reduceAdd, Nat.reduceSub, Nat.reduceEqDiff, if_true, ite_true, if_false, ite_false, Nat.zero_add, gAdd_ii, gAdd_ss, gAdd_tt, gAdd_ll, gSub_ii, gMul_ii, gMul_si, gMul_li, gDiv_ii, gMod_ii, gPow_ii, gNeg_i, gLt_ii, gLe_ii, gGt_ii, gGe_ii, gIs_n, gIsNot_n, gIs_b, gIsNot_b, gAbs_i, gMax2_ii, gMin2_ii, gLen_s, gLen_l, gLen_t, gLen_d, gLen_r, gIx_l, gIx_t, gIx_d, gIx_r, gList_d, gList_l, gList_t, gDict_d, gTuple_t, gTuple_l, atI_0, atI_1, atI_2, atI_3, keyOf, W_sub, W_must, mulOk_r, mulOk_l, size_lit, some_ex, decide_eq_true_eq, decide_true, decide_false, Bool.and_eq_true, Bool.true_and, Bool.and_true, Bool.and_self, Bool.not_true, Bool.not_false, true_and, and_true, true_implies, Bool.false_eq_true, false_implies, not_false_eq_true, not_true_eq_false, Int.reduceLT, Int.reduceLE, Int.reducePow, Int.reduceToNat, Int.reduceNeg, Int.reduceAdd, Int.reduceSub, Int.reduceMul, Nat.reduceLT, Nat.reduceLeDiff, Nat.reducePow, decide_eq_false_iff_not, Option.map_some, Option.map_none, Option.bind_some, Option.bind_none]
        rw [← hT4]
        simp -implicitDefEqProofs only [sFrz, gb', sb, ga', sa, W_bind, W_ok, W_bad, W_ex, W_noEx, W_ite, W_some, W_none, W_chk, W_map, W_obind, W_run, runK_nx, runK_rt, onBody, sNil, W_seq, seqK_nx, seqK_rt, seqK_bk, seqK_ct, sBk, sCt, sExpr, sRet, sRetN, sIf, sSet, sAsg, sPar2, sFor, sDel, eVar, eC, eBin, eUn, eT, boolOf, W_chain, thenB_ok, thenB_b, ok_bind, ofO_some, and_ok, or_ok, and_okD, or_okD, TL.tAnd, TL.tOr, TL.tNot, tTrue, eAnd, eOr, eNot, eIf, aNil, aCons, eTup, eFz, eNew, eFrz, frzD, nLst, nCall, eCall, eCallF, eSl, oNone, oSome, nComp, nCompK, nCat, catO_ll, catO_last, gAdd_last, gAppend_last, isTy_last, size_lt, mergeD_1, nEmpty, nDisp, pNil, pCons, iVal, iRange1, iRange2, iEnumF, iZipF, iItemsF, kRange1, kRange2, kEnum, kZip, kItems, cellD, eMeth, startD, tgSet, tgSets, wipeD, List.map_cons, List.map_nil, List.length_cons, List.length_nil, List.replicate_succ, List.replicate_zero, List.cons_append, List.nil_append, List.append_nil, List.getElem?_cons_zero, List.getElem?_cons_succ, List.getElem?_nil, List.set_cons_zero, List.set_cons_succ, List.set_nil, Nat.reduceAdd, Nat.reduceSub, Nat.reduceEqDiff, if_true, ite_true, if_false, ite_false, Nat.zero_add, gAdd_ii, gAdd_ss, gAdd_tt, gAdd_ll, gSub_ii, gMul_ii, gMul_si, gMul_li, gDiv_ii, gMod_ii, gPow_ii, gNeg_i, gLt_ii, gLe_ii, gGt_ii, gGe_ii, gIs_n, gIsNot_n, gIs_b, gIsNot_b, gAbs_i, gMax2_ii, gMin2_ii, gLen_s, gLen_l, gLen_t, gLen_d, gLen_r, gIx_l, gIx_t, gIx_d, gIx_r, gList_d, gList_l, gList_t, gDict_d, gTuple_t, gTuple_l, atI_0, atI_1, atI_2, atI_3, keyOf, W_sub, W_must, mulOk_r, mulOk_l, size_lit, some_ex, decide_eq_true_eq, decide_true, decide_false, Bool.and_eq_true, Bool.true_and, Bool.and_true, Bool.and_self, Bool.not_true, Bool.not_false, true_and, and_true, true_implies, Bool.false_eq_true, false_implies, not_false_eq_true, not_true_eq_false, Int.reduceLT, Int.reduceLE, Int.reducePow, Int.reduceToNat, Int.reduceNeg, Int.reduceAdd, Int.reduceSub, Int.reduceMul, Nat.reduceLT, Nat.reduceLeDiff, Nat.reducePow, decide_eq_false_iff_not, Option.map_some, Option.map_none, Option.bind_some, Option.bind_none]
        refine W_ret (d1.chk _ _) ?_ ?_
        · have q1 := okLoc_lines (ls := es) (n := μ.length)
          have q2 := okLoc_lines (ls := xs) (n := μ.length)
          have q3 := okLoc_fl (f := fa) (n := μ.length)
          have q4 := okLoc_fl (f := fb) (n := μ.length)
          unfold linesD at q1 q2
          simp only [okLoc, okLocs, q1, q2, q3, q4, Bool.and_self]
          simp only [okLoc] at q1 q2
          simp [q1, q2]
        · rw [d1.take]
          exact h ⟨es, xs, fa, fb⟩ ν1 ⟨he, hx, hes, hxs, hfs fa (by simp), hfs fb (by simp)⟩ d1
  simp -implicitDefEqProofs only [isIn62_small (i := size) (by omega) (by omega), rng_small (i := 0) (n := size.toNat) (by omega), W_bind, W_ok, W_bad, W_ex, W_noEx, W_ite, W_some, W_none, W_chk, W_map, W_obind, W_run, runK_nx, runK_rt, onBody, sNil, W_seq, seqK_nx, seqK_rt, seqK_bk, seqK_ct, sBk, sCt, sExpr, sRet, sRetN, sIf, sSet, sAsg, sPar2, sFor, sDel, eVar, eC, eBin, eUn, eT, boolOf, W_chain, thenB_ok, thenB_b, ok_bind, ofO_some, and_ok, or_ok, and_okD, or_okD, TL.tAnd, TL.tOr, TL.tNot, tTrue, eAnd, eOr, eNot, eIf, aNil, aCons, eTup, eFz, eNew, eFrz, frzD, nLst, nCall, eCall, eCallF, eSl, oNone, oSome, nComp, nCompK, nCat, catO_ll, catO_last, gAdd_last, gAppend_last, isTy_last, size_lt, mergeD_1, nEmpty, nDisp, pNil, pCons, iVal, iRange1, iRange2, iEnumF, iZipF, iItemsF, kRange1, kRange2, kEnum, kZip, kItems, cellD, eMeth, startD, tgSet, tgSets, wipeD, List.map_cons, List.map_nil, List.length_cons, List.length_nil, List.replicate_succ, List.replicate_zero, List.cons_append, List.nil_append, List.append_nil, List.getElem?_cons_zero, List.getElem?_cons_succ, List.getElem?_nil, List.set_cons_zero, List.set_cons_succ, List.set_nil, Nat.reduceAdd, Nat.reduceSub, Nat.reduceEqDiff, if_true, ite_true, if_false, ite_false, Nat.zero_add, gAdd_ii, gAdd_ss, gAdd_tt, gAdd_ll, gSub_ii, gMul_ii, gMul_si, gMul_li, gDiv_ii, gMod_ii, gPow_ii, gNeg_i, gLt_ii, gLe_ii, gGt_ii, gGe_ii, gIs_n, gIsNot_n, gIs_b, gIsNot_b, gAbs_i, gMax2_ii, gMin2_ii, gLen_s, gLen_l, gLen_t, gLen_d, gLen_r, gIx_l, gIx_t, gIx_d, gIx_r, gList_d, gList_l, gList_t, gDict_d, gTuple_t, gTuple_l, atI_0, atI_1, atI_2, atI_3, keyOf, W_sub, W_must, mulOk_r, mulOk_l, size_lit, some_ex, decide_eq_true_eq, decide_true, decide_false, Bool.and_eq_true, Bool.true_and, Bool.and_true, Bool.and_self, Bool.not_true, Bool.not_false, true_and, and_true, true_implies, Bool.false_eq_true, false_implies, not_false_eq_true, not_true_eq_false, Int.reduceLT, Int.reduceLE, Int.reducePow, Int.reduceToNat, Int.reduceNeg, Int.reduceAdd, Int.reduceSub, Int.reduceMul, Nat.reduceLT, Nat.reduceLeDiff, Nat.reducePow, decide_eq_false_iff_not, Option.map_some, Option.map_none, Option.bind_some, Option.bind_none]
  have la : (μ ++ [some (Cell.list [])]).length = μ.length + 1 := by simp
  rw [la, List.append_assoc]
  refine Exists.elim (named (fun i ρ μ' => ∃ (es xs : List Ln) (ν : Mu) (o3 o4 o7 o8 o9 o10 o11 o12 : Option D), ρ = [some (.loc n), some (kindsD ks), some (.int size), o3, o4, some (.loc μ.length), some (.loc (μ.length + 1)), o7, o8, o9, o10, o11, o12] ∧
      μ' = ν ++ [some (.list (es.map Ln.d)), some (.list (xs.map Ln.d))] ∧ Dr n μ ν ∧ es.length ≤ i ∧ xs.length ≤ i ∧ (∀ l ∈ es, LnS l) ∧ ∀ l ∈ xs, LnS l)) fun I hI => ?_
  refine W_forY I _ (by rw [hI]; exact ⟨[], [], μ, _, _, _, _, _, _, _, _, rfl, rfl, Dr.refl hf, Nat.le_refl _, Nat.le_refl _, fun _ h => (nomatch h), fun _ h => (nomatch h)⟩) ?_ ?_
  · intro i x ρ μ' hx hi
    rw [hI] at hi
    obtain ⟨es, xs, ν, o3, o4, o7, o8, o9, o10, o11, o12, rfl, rfl, d, he, hx2, hes, hxs⟩ := hi
    obtain ⟨hi5, rfl⟩ := rangeD_get hx
    have nx : ∀ (es xs : List Ln) (ν : Mu) o3 o4 o7 o8 o9 o10 o11 o12, Dr n μ ν → es.length ≤ i + 1 → xs.length ≤ i + 1 → (∀ l ∈ es, LnS l) → (∀ l ∈ xs, LnS l) → I (i + 1) [some (.loc n), some (kindsD ks), some (.int size), o3, o4, some (.loc μ.length), some (.loc (μ.length + 1)), o7, o8, o9, o10, o11, o12] (ν ++ [some (.list (es.map Ln.d)), some (.list (xs.map Ln.d))]) := by
      rw [hI]; intro es xs ν o3 o4 o7 o8 o9 o10 o11 o12 a b c d e; exact ⟨es, xs, ν, _, _, _, _, _, _, _, _, rfl, rfl, a, b, c, d, e⟩
    clear hI hx
    refine ⟨_, rfl, ?_⟩
    exact trip_w (d.at hf) hk hne d.len.symm (by omega) (by omega) fun es2 xs2 o7 o8 o9 o10 o11 ν' d2 h1 h2 h3 h4 => nx es2 xs2 ν' _ _ _ _ _ _ _ _ (d.trans d2) (by omega) (by omega) (fun l hl => (h3 l hl).elim (hes l) fun z => z.1) fun l hl => (h4 l hl).elim (hxs l) fun z => z.1
  · intro ρ μ' hi
    rw [hI] at hi
    obtain ⟨es, xs, ν, o3, o4, o7, o8, o9, o10, o11, o12, rfl, rfl, d, he, hx2, hes, hxs⟩ := hi
    rw [rangeD_len] at he hx2
    clear hI
    try simp -implicitDefEqProofs only [W_bind, W_ok, W_bad, W_ex, W_noEx, W_ite, W_some, W_none, W_chk, W_map, W_obind, W_run, runK_nx, runK_rt, onBody, sNil, W_seq, seqK_nx, seqK_rt, seqK_bk, seqK_ct, sBk, sCt, sExpr, sRet, sRetN, sIf, sSet, sAsg, sPar2, sFor, sDel, eVar, eC, eBin, eUn, eT, boolOf, W_chain, thenB_ok, thenB_b, ok_bind, ofO_some, and_ok, or_ok, and_okD, or_okD, TL.tAnd, TL.tOr, TL.tNot, tTrue, eAnd, eOr, eNot, eIf, aNil, aCons, eTup, eFz, eNew, eFrz, frzD, nLst, nCall, eCall, eCallF, eSl, oNone, oSome, nComp, nCompK, nCat, catO_ll, catO_last, gAdd_last, gAppend_last, isTy_last, size_lt, mergeD_1, nEmpty, nDisp, pNil, pCons, iVal, iRange1, iRange2, iEnumF, iZipF, iItemsF, kRange1, kRange2, kEnum, kZip, kItems, cellD, eMeth, startD, tgSet, tgSets, wipeD, List.map_cons, List.map_nil, List.length_cons, List.length_nil, List.replicate_succ, List.replicate_zero, List.cons_append, List.nil_append, List.append_nil, List.getElem?_cons_zero, List.getElem?_cons_succ, List.getElem?_nil, List.set_cons_zero, List.set_cons_succ, List.set_nil, Nat.reduceAdd, Nat.reduceSub, Nat.reduceEqDiff, if_true, ite_true, if_false, ite_false, Nat.zero_add, gAdd_ii, gAdd_ss, gAdd_tt, gAdd_ll, gSub_ii, gMul_ii, gMul_si, gMul_li, gDiv_ii, gMod_ii, gPow_ii, gNeg_i, gLt_ii, gLe_ii, gGt_ii, gGe_ii, gIs_n, gIsNot_n, gIs_b, gIsNot_b, gAbs_i, gMax2_ii, gMin2_ii, gLen_s, gLen_l, gLen_t, gLen_d, gLen_r, gIx_l, gIx_t, gIx_d, gIx_r, gList_d, gList_l, gList_t, gDict_d, gTuple_t, gTuple_l, atI_0, atI_1, atI_2, atI_3, keyOf, W_sub, W_must, mulOk_r, mulOk_l, size_lit, some_ex, decide_eq_true_eq, decide_true, decide_false, Bool.and_eq_true, Bool.true_and, Bool.and_true, Bool.and_self, Bool.not_true, Bool.not_false, true_and, and_true, true_implies, Bool.false_eq_true, false_implies, not_false_eq_true, not_true_eq_false, Int.reduceLT, Int.reduceLE, Int.reducePow, Int.reduceToNat, Int.reduceNeg, Int.reduceAdd, Int.reduceSub, Int.reduceMul, Nat.reduceLT, Nat.reduceLeDiff, Nat.reducePow, decide_eq_false_iff_not, Option.map_some, Option.map_none, Option.bind_some, Option.bind_none]
    rw [← hT2]
    try simp -implicitDefEqProofs only [W_bind, W_ok, W_bad, W_ex, W_noEx, W_ite, W_some, W_none, W_chk, W_map, W_obind, W_run, runK_nx, runK_rt, onBody, sNil, W_seq, seqK_nx, seqK_rt, seqK_bk, seqK_ct, sBk, sCt, sExpr, sRet, sRetN, sIf, sSet, sAsg, sPar2, sFor, sDel, eVar, eC, eBin, eUn, eT, boolOf, W_chain, thenB_ok, thenB_b, ok_bind, ofO_some, and_ok, or_ok, and_okD, or_okD, TL.tAnd, TL.tOr, TL.tNot, tTrue, eAnd, eOr, eNot, eIf, aNil, aCons, eTup, eFz, eNew, eFrz, frzD, nLst, nCall, eCall, eCallF, eSl, oNone, oSome, nComp, nCompK, nCat, catO_ll, catO_last, gAdd_last, gAppend_last, isTy_last, size_lt, mergeD_1, nEmpty, nDisp, pNil, pCons, iVal, iRange1, iRange2, iEnumF, iZipF, iItemsF, kRange1, kRange2, kEnum, kZip, kItems, cellD, eMeth, startD, tgSet, tgSets, wipeD, List.map_cons, List.map_nil, List.length_cons, List.length_nil, List.replicate_succ, List.replicate_zero, List.cons_append, List.nil_append, List.append_nil, List.getElem?_cons_zero, List.getElem?_cons_succ, List.getElem?_nil, List.set_cons_zero, List.set_cons_succ, List.set_nil, Nat.reduceAdd, Nat.reduceSub, Nat.reduceEqDiff, if_true, ite_true, if_false, ite_false, Nat.zero_add, gAdd_ii, gAdd_ss, gAdd_tt, gAdd_ll, gSub_ii, gMul_ii, gMul_si, gMul_li, gDiv_ii, gMod_ii, gPow_ii, gNeg_i, gLt_ii, gLe_ii, gGt_ii, gGe_ii, gIs_n, gIsNot_n, gIs_b, gIsNot_b, gAbs_i, gMax2_ii, gMin2_ii, gLen_s, gLen_l, gLen_t, gLen_d, gLen_r, gIx_l, gIx_t, gIx_d, gIx_r, gList_d, gList_l, gList_t, gDict_d, gTuple_t, gTuple_l, atI_0, atI_1, atI_2, atI_3, keyOf, W_sub, W_must, mulOk_r, mulOk_l, size_lit, some_ex, decide_eq_true_eq, decide_true, decide_false, Bool.and_eq_true, Bool.true_and, Bool.and_true, Bool.and_self, Bool.not_true, Bool.not_false, true_and, and_true, true_implies, Bool.false_eq_true, false_implies, not_false_eq_true, not_true_eq_false, Int.reduceLT, Int.reduceLE, Int.reducePow, Int.reduceToNat, Int.reduceNeg, Int.reduceAdd, Int.reduceSub, Int.reduceMul, Nat.reduceLT, Nat.reduceLeDiff, Nat.reducePow, decide_eq_false_iff_not, Option.map_some, Option.map_none, Option.bind_some, Option.bind_none]
    refine take_w ((d.at hf).app _) (by decide) (by decide) fun r μ1 r0 r1 d1 => ?_
    obtain ⟨ν1, rfl, e1⟩ := d1.snoc (d.at hf).lt
    have d1' := d.trans e1
    have l1 : ν1.length = μ.length := d1'.len
    have sq : seqL (ν1 ++ [some (.list (es.map Ln.d)), some (.list (xs.map Ln.d))]) (.loc (μ.length + 1)) = some (xs.map Ln.d) := by
      simp only [seqL, get2b l1.symm]
    simp -implicitDefEqProofs only [gEq_ii, nRev, sq, W_bind, W_ok, W_bad, W_ex, W_noEx, W_ite, W_some, W_none, W_chk, W_map, W_obind, W_run, runK_nx, runK_rt, onBody, sNil, W_seq, seqK_nx, seqK_rt, seqK_bk, seqK_ct, sBk, sCt, sExpr, sRet, sRetN, sIf, sSet, sAsg, sPar2, sFor, sDel, eVar, eC, eBin, eUn, eT, boolOf, W_chain, thenB_ok, thenB_b, ok_bind, ofO_some, and_ok, or_ok, and_okD, or_okD, TL.tAnd, TL.tOr, TL.tNot, tTrue, eAnd, eOr, eNot, eIf, aNil, aCons, eTup, eFz, eNew, eFrz, frzD, nLst, nCall, eCall, eCallF, eSl, oNone, oSome, nComp, nCompK, nCat, catO_ll, catO_last, gAdd_last, gAppend_last, isTy_last, size_lt, mergeD_1, nEmpty, nDisp, pNil, pCons, iVal, iRange1, iRange2, iEnumF, iZipF, iItemsF, kRange1, kRange2, kEnum, kZip, kItems, cellD, eMeth, startD, tgSet, tgSets, wipeD, List.map_cons, List.map_nil, List.length_cons, List.length_nil, List.replicate_succ, List.replicate_zero, List.cons_append, List.nil_append, List.append_nil, List.getElem?_cons_zero, List.getElem?_cons_succ, List.getElem?_nil, List.set_cons_zero, List.set_cons_succ, List.set_nil, Nat.reduceAdd, Nat.reduceSub, Nat.reduceEqDiff, if_true, ite_true, if_false, ite_false, Nat.zero_add, gAdd_ii, gAdd_ss, gAdd_tt, gAdd_ll, gSub_ii, gMul_ii, gMul_si, gMul_li, gDiv_ii, gMod_ii, gPow_ii, gNeg_i, gLt_ii, gLe_ii, gGt_ii, gGe_ii, gIs_n, gIsNot_n, gIs_b, gIsNot_b, gAbs_i, gMax2_ii, gMin2_ii, gLen_s, gLen_l, gLen_t, gLen_d, gLen_r, gIx_l, gIx_t, gIx_d, gIx_r, gList_d, gList_l, gList_t, gDict_d, gTuple_t, gTuple_l, atI_0, atI_1, atI_2, atI_3, keyOf, W_sub, W_must, mulOk_r, mulOk_l, size_lit, some_ex, decide_eq_true_eq, decide_true, decide_false, Bool.and_eq_true, Bool.true_and, Bool.and_true, Bool.and_self, Bool.not_true, Bool.not_false, true_and, and_true, true_implies, Bool.false_eq_true, false_implies, not_false_eq_true, not_true_eq_false, Int.reduceLT, Int.reduceLE, Int.reducePow, Int.reduceToNat, Int.reduceNeg, Int.reduceAdd, Int.reduceSub, Int.reduceMul, Nat.reduceLT, Nat.reduceLeDiff, Nat.reducePow, decide_eq_false_iff_not, Option.map_some, Option.map_none, Option.bind_some, Option.bind_none]
    have er : (xs.map Ln.d).reverse = xs.reverse.map Ln.d := by rw [List.map_reverse]
    rw [er, List.append_assoc]
    refine ⟨fun _ => ?_, fun _ => ?_⟩
    · refine k3 es xs.reverse _ _ _ ν1 _ _ _ _ _ _ _ _ d1' (by omega) (by rw [List.length_reverse]; omega) hes (fun l hl => hxs l (List.mem_reverse.mp hl)) ?_ ?_ ?_ ?_ ?_
      · simp [l1]
      · omega
      · simp [l1]
      · simp [l1]
      · simp [l1]
    · refine k3 es xs _ _ _ ν1 _ _ _ _ _ _ _ _ d1' (by omega) (by omega) hes hxs (by omega) (by omega) (by omega) ?_ ?_
      · simp [l1]
      · simp [l1]

/-! ### extensions -/
instance lnDec : DecidableEq Ln := fun a b => if h : a.t = b.t ∧ a.k = b.k ∧ a.p = b.p then isTrue (by cases a; cases b; simp_all) else isFalse (by rintro rfl; exact h ⟨rfl, rfl, rfl⟩)
def topB (f : Int) : Option Int → Bool
  | none => true
  | some g => decide (f ≤ g)
def extT (x : List Ln) (f g : Option Int) : Bool := match f with
  | none => decide (x = []) && decide (g = none)
  | some f => x.all (fun l => decide (f ≤ l.t)) && topB f g
def extB (a b : List Ln) (f g : Option Int) : Bool := decide (b.take a.length = a) && extT (b.drop a.length) f g
theorem optD_inj {a b : Option Str} (h : deq (optD a) (optD b) = true) : a = b := by
  cases a <;> cases b <;> simp_all [optD, deq]
theorem deq_ln {a b : Ln} (h : deq a.d b.d = true) : a = b := by
  obtain ⟨t, k, p⟩ := a
  obtain ⟨t2, k2, p2⟩ := b
  simp only [Ln.d, deq, deqs, Bool.and_eq_true, beq_iff_eq] at h
  obtain ⟨h1, h2, h3, _⟩ := h
  rw [h1, optD_inj h2, optD_inj h3]
theorem deq_opt (a : Option Str) : deq (optD a) (optD a) = true := by cases a <;> simp [optD, deq]
theorem deq_lself (a : Ln) : deq a.d a.d = true := by simp [Ln.d, deq, deqs, deq_opt]
theorem deqs_lines : ∀ (a b : List Ln), deqs (a.map Ln.d) (b.map Ln.d) = decide (a = b)
  | [], [] => rfl
  | [], _ :: _ => rfl
  | _ :: _, [] => rfl
  | x :: a, y :: b => by
    simp only [List.map_cons, deqs, deqs_lines a b, List.cons.injEq]
    rw [Bool.eq_iff_iff]
    simp only [Bool.and_eq_true, decide_eq_true_eq]
    exact ⟨fun h => ⟨deq_ln h.1, h.2⟩, fun h => ⟨h.1 ▸ deq_lself x, h.2⟩⟩
theorem data_lines (n : Nat) (ls : List Ln) : areData (n + 1) (ls.map Ln.d) = true := by
  induction ls with
  | nil => simp [areData]
  | cons l ls ih => simp [List.map_cons, areData, Ln.d, isData, isData_opt, ih]
theorem gEq_lines {a b : List Ln} {μ : Mu} : gEq μ (.list (a.map Ln.d)) (.list (b.map Ln.d)) = some (.bool (decide (a = b))) := by
  unfold gEq
  have r : ∀ ls : List Ln, resD μ (.list (ls.map Ln.d)) = .list (ls.map Ln.d) := fun _ => rfl
  have r3 : ∀ ls : List Ln, isData 60 (.list (ls.map Ln.d)) = true := fun ls => data_lines 58 ls
  rw [r, r, r3, r3]
  simp only [deq, deqs_lines, chk, Bool.and_self, if_true]
theorem gNe_lines {a b : List Ln} {μ : Mu} : gNe μ (.list (a.map Ln.d)) (.list (b.map Ln.d)) = some (.bool (!decide (a = b))) := by
  unfold gNe
  have r : ∀ ls : List Ln, resD μ (.list (ls.map Ln.d)) = .list (ls.map Ln.d) := fun _ => rfl
  have r3 : ∀ ls : List Ln, isData 60 (.list (ls.map Ln.d)) = true := fun ls => data_lines 58 ls
  rw [r, r, r3, r3]
  simp only [deq, deqs_lines, chk, Bool.and_self, if_true]
theorem gEq_nil {a : List Ln} {μ : Mu} : gEq μ (.list (a.map Ln.d)) (.list []) = some (.bool (decide (a = []))) := gEq_lines (b := [])
theorem gNe_nil {a : List Ln} {μ : Mu} : gNe μ (.list (a.map Ln.d)) (.list []) = some (.bool (!decide (a = []))) := gNe_lines (b := [])
theorem sl_to {xs : List Ln} (n : Nat) (μ : Mu) : gSl μ (.list (xs.map Ln.d)) none (some (n : Int)) = some (.list ((xs.take n).map Ln.d)) := by
  have e1 : HT.sIx (xs.map Ln.d).length 0 none = 0 := rfl
  have e2 : HT.sIx (xs.map Ln.d).length (xs.map Ln.d).length (some (n : Int)) = min n xs.length := by rw [HT.sIx_nat, List.length_map]
  show some (D.list (TL.cutD (xs.map Ln.d) none (some (n : Int)))) = _
  unfold TL.cutD
  rw [e1, e2, List.drop_zero, Nat.sub_zero, List.map_take]
  congr 2
  rw [← List.length_map (f := Ln.d), Nat.min_comm, ← List.take_take]
  exact List.take_of_length_le (by rw [List.length_take]; exact Nat.min_le_right _ _)
theorem sl_from {xs : List Ln} (n : Nat) (μ : Mu) : gSl μ (.list (xs.map Ln.d)) (some (n : Int)) none = some (.list ((xs.drop n).map Ln.d)) := by
  have e1 : HT.sIx (xs.map Ln.d).length (xs.map Ln.d).length none = (xs.map Ln.d).length := rfl
  have e2 : HT.sIx (xs.map Ln.d).length 0 (some (n : Int)) = min n (xs.map Ln.d).length := HT.sIx_nat _ _ _
  show some (D.list (TL.cutD (xs.map Ln.d) (some (n : Int)) none)) = _
  unfold TL.cutD
  rw [e1, e2, List.map_drop]
  congr 2
  by_cases h : n ≤ (xs.map Ln.d).length
  · rw [Nat.min_eq_left h, List.take_of_length_le (by simp)]
  · rw [Nat.min_eq_right (by omega), List.drop_of_length_le (Nat.le_refl _), List.drop_of_length_le (by omega)]
    simp
theorem gEq_fl {f : Option Int} {μ : Mu} : gEq μ (flD f) (.str "closed") = some (.bool (decide (f = none))) := by
  cases f with
  | none => rfl
  | some i => exact gEq_is
theorem ext_w {a b : List Ln} {f g : Option Int} {μ : Mu} {P : D → Mu → Prop} (h : P (.bool (extB a b f g)) μ) : W (c_gate_extends [linesD a, linesD b, flD f, flD g] μ) P := by
  have hret : ∀ x, x = extB a b f g → W (retV μ μ (.bool x)) P := fun b hb => W_ret0 rfl (hb ▸ h)
  unfold c_gate_extends b_gate_extends linesD
  simp -implicitDefEqProofs only [List.length_map, sl_to, sl_from, gNe_lines, gEq_fl, gEq_nil, W_bind, W_ok, W_bad, W_ex, W_noEx, W_ite, W_some, W_none, W_chk, W_map, W_obind, W_run, runK_nx, runK_rt, onBody, sNil, W_seq, seqK_nx, seqK_rt, seqK_bk, seqK_ct, sBk, sCt, sExpr, sRet, sRetN, sIf, sSet, sAsg, sPar2, sFor, sDel, eVar, eC, eBin, eUn, eT, boolOf, W_chain, thenB_ok, thenB_b, ok_bind, ofO_some, and_ok, or_ok, and_okD, or_okD, TL.tAnd, TL.tOr, TL.tNot, tTrue, eAnd, eOr, eNot, eIf, aNil, aCons, eTup, eFz, eNew, eFrz, frzD, nLst, nCall, eCall, eCallF, eSl, oNone, oSome, nComp, nCompK, nCat, catO_ll, catO_last, gAdd_last, gAppend_last, isTy_last, size_lt, mergeD_1, nEmpty, nDisp, pNil, pCons, iVal, iRange1, iRange2, iEnumF, iZipF, iItemsF, kRange1, kRange2, kEnum, kZip, kItems, cellD, eMeth, startD, tgSet, tgSets, wipeD, List.map_cons, List.map_nil, List.length_cons, List.length_nil, List.replicate_succ, List.replicate_zero, List.cons_append, List.nil_append, List.append_nil, List.getElem?_cons_zero, List.getElem?_cons_succ, List.getElem?_nil, List.set_cons_zero, List.set_cons_succ, List.set_nil, Nat.reduceAdd, Nat.reduceSub, Nat.reduceEqDiff, if_true, ite_true, if_false, ite_false, Nat.zero_add, gAdd_ii, gAdd_ss, gAdd_tt, gAdd_ll, gSub_ii, gMul_ii, gMul_si, gMul_li, gDiv_ii, gMod_ii, gPow_ii, gNeg_i, gLt_ii, gLe_ii, gGt_ii, gGe_ii, gIs_n, gIsNot_n, gIs_b, gIsNot_b, gAbs_i, gMax2_ii, gMin2_ii, gLen_s, gLen_l, gLen_t, gLen_d, gLen_r, gIx_l, gIx_t, gIx_d, gIx_r, gList_d, gList_l, gList_t, gDict_d, gTuple_t, gTuple_l, atI_0, atI_1, atI_2, atI_3, keyOf, W_sub, W_must, mulOk_r, mulOk_l, size_lit, some_ex, decide_eq_true_eq, decide_true, decide_false, Bool.and_eq_true, Bool.true_and, Bool.and_true, Bool.and_self, Bool.not_true, Bool.not_false, true_and, and_true, true_implies, Bool.false_eq_true, false_implies, not_false_eq_true, not_true_eq_false, Int.reduceLT, Int.reduceLE, Int.reducePow, Int.reduceToNat, Int.reduceNeg, Int.reduceAdd, Int.reduceSub, Int.reduceMul, Nat.reduceLT, Nat.reduceLeDiff, Nat.reducePow, decide_eq_false_iff_not, Option.map_some, Option.map_none, Option.bind_some, Option.bind_none]
  by_cases ht : b.take a.length = a
  · rw [decide_eq_true ht]
    try simp -implicitDefEqProofs only [W_bind, W_ok, W_bad, W_ex, W_noEx, W_ite, W_some, W_none, W_chk, W_map, W_obind, W_run, runK_nx, runK_rt, onBody, sNil, W_seq, seqK_nx, seqK_rt, seqK_bk, seqK_ct, sBk, sCt, sExpr, sRet, sRetN, sIf, sSet, sAsg, sPar2, sFor, sDel, eVar, eC, eBin, eUn, eT, boolOf, W_chain, thenB_ok, thenB_b, ok_bind, ofO_some, and_ok, or_ok, and_okD, or_okD, TL.tAnd, TL.tOr, TL.tNot, tTrue, eAnd, eOr, eNot, eIf, aNil, aCons, eTup, eFz, eNew, eFrz, frzD, nLst, nCall, eCall, eCallF, eSl, oNone, oSome, nComp, nCompK, nCat, catO_ll, catO_last, gAdd_last, gAppend_last, isTy_last, size_lt, mergeD_1, nEmpty, nDisp, pNil, pCons, iVal, iRange1, iRange2, iEnumF, iZipF, iItemsF, kRange1, kRange2, kEnum, kZip, kItems, cellD, eMeth, startD, tgSet, tgSets, wipeD, List.map_cons, List.map_nil, List.length_cons, List.length_nil, List.replicate_succ, List.replicate_zero, List.cons_append, List.nil_append, List.append_nil, List.getElem?_cons_zero, List.getElem?_cons_succ, List.getElem?_nil, List.set_cons_zero, List.set_cons_succ, List.set_nil, Nat.reduceAdd, Nat.reduceSub, Nat.reduceEqDiff, if_true, ite_true, if_false, ite_false, Nat.zero_add, gAdd_ii, gAdd_ss, gAdd_tt, gAdd_ll, gSub_ii, gMul_ii, gMul_si, gMul_li, gDiv_ii, gMod_ii, gPow_ii, gNeg_i, gLt_ii, gLe_ii, gGt_ii, gGe_ii, gIs_n, gIsNot_n, gIs_b, gIsNot_b, gAbs_i, gMax2_ii, gMin2_ii, gLen_s, gLen_l, gLen_t, gLen_d, gLen_r, gIx_l, gIx_t, gIx_d, gIx_r, gList_d, gList_l, gList_t, gDict_d, gTuple_t, gTuple_l, atI_0, atI_1, atI_2, atI_3, keyOf, W_sub, W_must, mulOk_r, mulOk_l, size_lit, some_ex, decide_eq_true_eq, decide_true, decide_false, Bool.and_eq_true, Bool.true_and, Bool.and_true, Bool.and_self, Bool.not_true, Bool.not_false, true_and, and_true, true_implies, Bool.false_eq_true, false_implies, not_false_eq_true, not_true_eq_false, Int.reduceLT, Int.reduceLE, Int.reducePow, Int.reduceToNat, Int.reduceNeg, Int.reduceAdd, Int.reduceSub, Int.reduceMul, Nat.reduceLT, Nat.reduceLeDiff, Nat.reducePow, decide_eq_false_iff_not, Option.map_some, Option.map_none, Option.bind_some, Option.bind_none]
    have hx : extB a b f g = extT (b.drop a.length) f g := by
      unfold extB
      rw [decide_eq_true ht, Bool.true_and]
    rw [hx] at hret
    generalize b.drop a.length = x at hret
    cases f with
    | none =>
      try simp -implicitDefEqProofs only [W_bind, W_ok, W_bad, W_ex, W_noEx, W_ite, W_some, W_none, W_chk, W_map, W_obind, W_run, runK_nx, runK_rt, onBody, sNil, W_seq, seqK_nx, seqK_rt, seqK_bk, seqK_ct, sBk, sCt, sExpr, sRet, sRetN, sIf, sSet, sAsg, sPar2, sFor, sDel, eVar, eC, eBin, eUn, eT, boolOf, W_chain, thenB_ok, thenB_b, ok_bind, ofO_some, and_ok, or_ok, and_okD, or_okD, TL.tAnd, TL.tOr, TL.tNot, tTrue, eAnd, eOr, eNot, eIf, aNil, aCons, eTup, eFz, eNew, eFrz, frzD, nLst, nCall, eCall, eCallF, eSl, oNone, oSome, nComp, nCompK, nCat, catO_ll, catO_last, gAdd_last, gAppend_last, isTy_last, size_lt, mergeD_1, nEmpty, nDisp, pNil, pCons, iVal, iRange1, iRange2, iEnumF, iZipF, iItemsF, kRange1, kRange2, kEnum, kZip, kItems, cellD, eMeth, startD, tgSet, tgSets, wipeD, List.map_cons, List.map_nil, List.length_cons, List.length_nil, List.replicate_succ, List.replicate_zero, List.cons_append, List.nil_append, List.append_nil, List.getElem?_cons_zero, List.getElem?_cons_succ, List.getElem?_nil, List.set_cons_zero, List.set_cons_succ, List.set_nil, Nat.reduceAdd, Nat.reduceSub, Nat.reduceEqDiff, if_true, ite_true, if_false, ite_false, Nat.zero_add, gAdd_ii, gAdd_ss, gAdd_tt, gAdd_ll, gSub_ii, gMul_ii, gMul_si, gMul_li, gDiv_ii, gMod_ii, gPow_ii, gNeg_i, gLt_ii, gLe_ii, gGt_ii, gGe_ii, gIs_n, gIsNot_n, gIs_b, gIsNot_b, gAbs_i, gMax2_ii, gMin2_ii, gLen_s, gLen_l, gLen_t, gLen_d, gLen_r, gIx_l, gIx_t, gIx_d, gIx_r, gList_d, gList_l, gList_t, gDict_d, gTuple_t, gTuple_l, atI_0, atI_1, atI_2, atI_3, keyOf, W_sub, W_must, mulOk_r, mulOk_l, size_lit, some_ex, decide_eq_true_eq, decide_true, decide_false, Bool.and_eq_true, Bool.true_and, Bool.and_true, Bool.and_self, Bool.not_true, Bool.not_false, true_and, and_true, true_implies, Bool.false_eq_true, false_implies, not_false_eq_true, not_true_eq_false, Int.reduceLT, Int.reduceLE, Int.reducePow, Int.reduceToNat, Int.reduceNeg, Int.reduceAdd, Int.reduceSub, Int.reduceMul, Nat.reduceLT, Nat.reduceLeDiff, Nat.reducePow, decide_eq_false_iff_not, Option.map_some, Option.map_none, Option.bind_some, Option.bind_none]
      first | exact hret _ rfl | exact ⟨fun _ => hret _ rfl, fun q => absurd rfl q⟩
    | some f =>
      have hxs : extT x (some f) g = (x.all (fun l => decide (f ≤ l.t)) && topB f g) := rfl
      rw [hxs] at hret
      have nf : ¬ (some f : Option Int) = none := by simp
      have ff : flD (some f) = .int f := rfl
      simp -implicitDefEqProofs only [nf, walked_l, ff, W_bind, W_ok, W_bad, W_ex, W_noEx, W_ite, W_some, W_none, W_chk, W_map, W_obind, W_run, runK_nx, runK_rt, onBody, sNil, W_seq, seqK_nx, seqK_rt, seqK_bk, seqK_ct, sBk, sCt, sExpr, sRet, sRetN, sIf, sSet, sAsg, sPar2, sFor, sDel, eVar, eC, eBin, eUn, eT, boolOf, W_chain, thenB_ok, thenB_b, ok_bind, ofO_some, and_ok, or_ok, and_okD, or_okD, TL.tAnd, TL.tOr, TL.tNot, tTrue, eAnd, eOr, eNot, eIf, aNil, aCons, eTup, eFz, eNew, eFrz, frzD, nLst, nCall, eCall, eCallF, eSl, oNone, oSome, nComp, nCompK, nCat, catO_ll, catO_last, gAdd_last, gAppend_last, isTy_last, size_lt, mergeD_1, nEmpty, nDisp, pNil, pCons, iVal, iRange1, iRange2, iEnumF, iZipF, iItemsF, kRange1, kRange2, kEnum, kZip, kItems, cellD, eMeth, startD, tgSet, tgSets, wipeD, List.map_cons, List.map_nil, List.length_cons, List.length_nil, List.replicate_succ, List.replicate_zero, List.cons_append, List.nil_append, List.append_nil, List.getElem?_cons_zero, List.getElem?_cons_succ, List.getElem?_nil, List.set_cons_zero, List.set_cons_succ, List.set_nil, Nat.reduceAdd, Nat.reduceSub, Nat.reduceEqDiff, if_true, ite_true, if_false, ite_false, Nat.zero_add, gAdd_ii, gAdd_ss, gAdd_tt, gAdd_ll, gSub_ii, gMul_ii, gMul_si, gMul_li, gDiv_ii, gMod_ii, gPow_ii, gNeg_i, gLt_ii, gLe_ii, gGt_ii, gGe_ii, gIs_n, gIsNot_n, gIs_b, gIsNot_b, gAbs_i, gMax2_ii, gMin2_ii, gLen_s, gLen_l, gLen_t, gLen_d, gLen_r, gIx_l, gIx_t, gIx_d, gIx_r, gList_d, gList_l, gList_t, gDict_d, gTuple_t, gTuple_l, atI_0, atI_1, atI_2, atI_3, keyOf, W_sub, W_must, mulOk_r, mulOk_l, size_lit, some_ex, decide_eq_true_eq, decide_true, decide_false, Bool.and_eq_true, Bool.true_and, Bool.and_true, Bool.and_self, Bool.not_true, Bool.not_false, true_and, and_true, true_implies, Bool.false_eq_true, false_implies, not_false_eq_true, not_true_eq_false, Int.reduceLT, Int.reduceLE, Int.reducePow, Int.reduceToNat, Int.reduceNeg, Int.reduceAdd, Int.reduceSub, Int.reduceMul, Nat.reduceLT, Nat.reduceLeDiff, Nat.reducePow, decide_eq_false_iff_not, Option.map_some, Option.map_none, Option.bind_some, Option.bind_none]
      refine W_compAll Ln.d (fun l => .bool (decide (f ≤ l.t))) x (fun l hl => ⟨_, rfl, W.eq ?_⟩) ?_
      · have lt : ∀ ν, gIx ν l.d (.int 0) = some (.int l.t) := fun ν => rfl
        simp -implicitDefEqProofs only [lt, W_bind, W_ok, W_bad, W_ex, W_noEx, W_ite, W_some, W_none, W_chk, W_map, W_obind, W_run, runK_nx, runK_rt, onBody, sNil, W_seq, seqK_nx, seqK_rt, seqK_bk, seqK_ct, sBk, sCt, sExpr, sRet, sRetN, sIf, sSet, sAsg, sPar2, sFor, sDel, eVar, eC, eBin, eUn, eT, boolOf, W_chain, thenB_ok, thenB_b, ok_bind, ofO_some, and_ok, or_ok, and_okD, or_okD, TL.tAnd, TL.tOr, TL.tNot, tTrue, eAnd, eOr, eNot, eIf, aNil, aCons, eTup, eFz, eNew, eFrz, frzD, nLst, nCall, eCall, eCallF, eSl, oNone, oSome, nComp, nCompK, nCat, catO_ll, catO_last, gAdd_last, gAppend_last, isTy_last, size_lt, mergeD_1, nEmpty, nDisp, pNil, pCons, iVal, iRange1, iRange2, iEnumF, iZipF, iItemsF, kRange1, kRange2, kEnum, kZip, kItems, cellD, eMeth, startD, tgSet, tgSets, wipeD, List.map_cons, List.map_nil, List.length_cons, List.length_nil, List.replicate_succ, List.replicate_zero, List.cons_append, List.nil_append, List.append_nil, List.getElem?_cons_zero, List.getElem?_cons_succ, List.getElem?_nil, List.set_cons_zero, List.set_cons_succ, List.set_nil, Nat.reduceAdd, Nat.reduceSub, Nat.reduceEqDiff, if_true, ite_true, if_false, ite_false, Nat.zero_add, gAdd_ii, gAdd_ss, gAdd_tt, gAdd_ll, gSub_ii, gMul_ii, gMul_si, gMul_li, gDiv_ii, gMod_ii, gPow_ii, gNeg_i, gLt_ii, gLe_ii, gGt_ii, gGe_ii, gIs_n, gIsNot_n, gIs_b, gIsNot_b, gAbs_i, gMax2_ii, gMin2_ii, gLen_s, gLen_l, gLen_t, gLen_d, gLen_r, gIx_l, gIx_t, gIx_d, gIx_r, gList_d, gList_l, gList_t, gDict_d, gTuple_t, gTuple_l, atI_0, atI_1, atI_2, atI_3, keyOf, W_sub, W_must, mulOk_r, mulOk_l, size_lit, some_ex, decide_eq_true_eq, decide_true, decide_false, Bool.and_eq_true, Bool.true_and, Bool.and_true, Bool.and_self, Bool.not_true, Bool.not_false, true_and, and_true, true_implies, Bool.false_eq_true, false_implies, not_false_eq_true, not_true_eq_false, Int.reduceLT, Int.reduceLE, Int.reducePow, Int.reduceToNat, Int.reduceNeg, Int.reduceAdd, Int.reduceSub, Int.reduceMul, Nat.reduceLT, Nat.reduceLeDiff, Nat.reducePow, decide_eq_false_iff_not, Option.map_some, Option.map_none, Option.bind_some, Option.bind_none]
      · have e : gAll μ [.list (x.map fun l => D.bool (decide (f ≤ l.t)))] = some (.bool (x.all fun l => decide (f ≤ l.t))) := by
          have : ∀ xs : List Ln, bools (xs.map fun l => D.bool (decide (f ≤ l.t))) = some (xs.map fun l => decide (f ≤ l.t)) := fun xs => by
            induction xs with
            | nil => rfl
            | cons x xs ih => simp only [List.map_cons, bools, ih]; rfl
          show ((bools _).map fun bs => D.bool (bs.all fun b => b)) = _
          rw [this]
          simp only [Option.map_some, List.all_map]
          rfl
        rw [e]
        generalize (x.all fun l => decide (f ≤ l.t)) = A at hret
        cases A
        · try simp -implicitDefEqProofs only [W_bind, W_ok, W_bad, W_ex, W_noEx, W_ite, W_some, W_none, W_chk, W_map, W_obind, W_run, runK_nx, runK_rt, onBody, sNil, W_seq, seqK_nx, seqK_rt, seqK_bk, seqK_ct, sBk, sCt, sExpr, sRet, sRetN, sIf, sSet, sAsg, sPar2, sFor, sDel, eVar, eC, eBin, eUn, eT, boolOf, W_chain, thenB_ok, thenB_b, ok_bind, ofO_some, and_ok, or_ok, and_okD, or_okD, TL.tAnd, TL.tOr, TL.tNot, tTrue, eAnd, eOr, eNot, eIf, aNil, aCons, eTup, eFz, eNew, eFrz, frzD, nLst, nCall, eCall, eCallF, eSl, oNone, oSome, nComp, nCompK, nCat, catO_ll, catO_last, gAdd_last, gAppend_last, isTy_last, size_lt, mergeD_1, nEmpty, nDisp, pNil, pCons, iVal, iRange1, iRange2, iEnumF, iZipF, iItemsF, kRange1, kRange2, kEnum, kZip, kItems, cellD, eMeth, startD, tgSet, tgSets, wipeD, List.map_cons, List.map_nil, List.length_cons, List.length_nil, List.replicate_succ, List.replicate_zero, List.cons_append, List.nil_append, List.append_nil, List.getElem?_cons_zero, List.getElem?_cons_succ, List.getElem?_nil, List.set_cons_zero, List.set_cons_succ, List.set_nil, Nat.reduceAdd, Nat.reduceSub, Nat.reduceEqDiff, if_true, ite_true, if_false, ite_false, Nat.zero_add, gAdd_ii, gAdd_ss, gAdd_tt, gAdd_ll, gSub_ii, gMul_ii, gMul_si, gMul_li, gDiv_ii, gMod_ii, gPow_ii, gNeg_i, gLt_ii, gLe_ii, gGt_ii, gGe_ii, gIs_n, gIsNot_n, gIs_b, gIsNot_b, gAbs_i, gMax2_ii, gMin2_ii, gLen_s, gLen_l, gLen_t, gLen_d, gLen_r, gIx_l, gIx_t, gIx_d, gIx_r, gList_d, gList_l, gList_t, gDict_d, gTuple_t, gTuple_l, atI_0, atI_1, atI_2, atI_3, keyOf, W_sub, W_must, mulOk_r, mulOk_l, size_lit, some_ex, decide_eq_true_eq, decide_true, decide_false, Bool.and_eq_true, Bool.true_and, Bool.and_true, Bool.and_self, Bool.not_true, Bool.not_false, true_and, and_true, true_implies, Bool.false_eq_true, false_implies, not_false_eq_true, not_true_eq_false, Int.reduceLT, Int.reduceLE, Int.reducePow, Int.reduceToNat, Int.reduceNeg, Int.reduceAdd, Int.reduceSub, Int.reduceMul, Nat.reduceLT, Nat.reduceLeDiff, Nat.reducePow, decide_eq_false_iff_not, Option.map_some, Option.map_none, Option.bind_some, Option.bind_none]
          exact hret _ rfl
        · cases g with
          | none =>
            try simp -implicitDefEqProofs only [W_bind, W_ok, W_bad, W_ex, W_noEx, W_ite, W_some, W_none, W_chk, W_map, W_obind, W_run, runK_nx, runK_rt, onBody, sNil, W_seq, seqK_nx, seqK_rt, seqK_bk, seqK_ct, sBk, sCt, sExpr, sRet, sRetN, sIf, sSet, sAsg, sPar2, sFor, sDel, eVar, eC, eBin, eUn, eT, boolOf, W_chain, thenB_ok, thenB_b, ok_bind, ofO_some, and_ok, or_ok, and_okD, or_okD, TL.tAnd, TL.tOr, TL.tNot, tTrue, eAnd, eOr, eNot, eIf, aNil, aCons, eTup, eFz, eNew, eFrz, frzD, nLst, nCall, eCall, eCallF, eSl, oNone, oSome, nComp, nCompK, nCat, catO_ll, catO_last, gAdd_last, gAppend_last, isTy_last, size_lt, mergeD_1, nEmpty, nDisp, pNil, pCons, iVal, iRange1, iRange2, iEnumF, iZipF, iItemsF, kRange1, kRange2, kEnum, kZip, kItems, cellD, eMeth, startD, tgSet, tgSets, wipeD, List.map_cons, List.map_nil, List.length_cons, List.length_nil, List.replicate_succ, List.replicate_zero, List.cons_append, List.nil_append, List.append_nil, List.getElem?_cons_zero, List.getElem?_cons_succ, List.getElem?_nil, List.set_cons_zero, List.set_cons_succ, List.set_nil, Nat.reduceAdd, Nat.reduceSub, Nat.reduceEqDiff, if_true, ite_true, if_false, ite_false, Nat.zero_add, gAdd_ii, gAdd_ss, gAdd_tt, gAdd_ll, gSub_ii, gMul_ii, gMul_si, gMul_li, gDiv_ii, gMod_ii, gPow_ii, gNeg_i, gLt_ii, gLe_ii, gGt_ii, gGe_ii, gIs_n, gIsNot_n, gIs_b, gIsNot_b, gAbs_i, gMax2_ii, gMin2_ii, gLen_s, gLen_l, gLen_t, gLen_d, gLen_r, gIx_l, gIx_t, gIx_d, gIx_r, gList_d, gList_l, gList_t, gDict_d, gTuple_t, gTuple_l, atI_0, atI_1, atI_2, atI_3, keyOf, W_sub, W_must, mulOk_r, mulOk_l, size_lit, some_ex, decide_eq_true_eq, decide_true, decide_false, Bool.and_eq_true, Bool.true_and, Bool.and_true, Bool.and_self, Bool.not_true, Bool.not_false, true_and, and_true, true_implies, Bool.false_eq_true, false_implies, not_false_eq_true, not_true_eq_false, Int.reduceLT, Int.reduceLE, Int.reducePow, Int.reduceToNat, Int.reduceNeg, Int.reduceAdd, Int.reduceSub, Int.reduceMul, Nat.reduceLT, Nat.reduceLeDiff, Nat.reducePow, decide_eq_false_iff_not, Option.map_some, Option.map_none, Option.bind_some, Option.bind_none]
            exact hret _ rfl
          | some g =>
            have ng : ¬ (some g : Option Int) = none := by simp
            have gg : flD (some g) = .int g := rfl
            simp -implicitDefEqProofs only [ng, gg, W_bind, W_ok, W_bad, W_ex, W_noEx, W_ite, W_some, W_none, W_chk, W_map, W_obind, W_run, runK_nx, runK_rt, onBody, sNil, W_seq, seqK_nx, seqK_rt, seqK_bk, seqK_ct, sBk, sCt, sExpr, sRet, sRetN, sIf, sSet, sAsg, sPar2, sFor, sDel, eVar, eC, eBin, eUn, eT, boolOf, W_chain, thenB_ok, thenB_b, ok_bind, ofO_some, and_ok, or_ok, and_okD, or_okD, TL.tAnd, TL.tOr, TL.tNot, tTrue, eAnd, eOr, eNot, eIf, aNil, aCons, eTup, eFz, eNew, eFrz, frzD, nLst, nCall, eCall, eCallF, eSl, oNone, oSome, nComp, nCompK, nCat, catO_ll, catO_last, gAdd_last, gAppend_last, isTy_last, size_lt, mergeD_1, nEmpty, nDisp, pNil, pCons, iVal, iRange1, iRange2, iEnumF, iZipF, iItemsF, kRange1, kRange2, kEnum, kZip, kItems, cellD, eMeth, startD, tgSet, tgSets, wipeD, List.map_cons, List.map_nil, List.length_cons, List.length_nil, List.replicate_succ, List.replicate_zero, List.cons_append, List.nil_append, List.append_nil, List.getElem?_cons_zero, List.getElem?_cons_succ, List.getElem?_nil, List.set_cons_zero, List.set_cons_succ, List.set_nil, Nat.reduceAdd, Nat.reduceSub, Nat.reduceEqDiff, if_true, ite_true, if_false, ite_false, Nat.zero_add, gAdd_ii, gAdd_ss, gAdd_tt, gAdd_ll, gSub_ii, gMul_ii, gMul_si, gMul_li, gDiv_ii, gMod_ii, gPow_ii, gNeg_i, gLt_ii, gLe_ii, gGt_ii, gGe_ii, gIs_n, gIsNot_n, gIs_b, gIsNot_b, gAbs_i, gMax2_ii, gMin2_ii, gLen_s, gLen_l, gLen_t, gLen_d, gLen_r, gIx_l, gIx_t, gIx_d, gIx_r, gList_d, gList_l, gList_t, gDict_d, gTuple_t, gTuple_l, atI_0, atI_1, atI_2, atI_3, keyOf, W_sub, W_must, mulOk_r, mulOk_l, size_lit, some_ex, decide_eq_true_eq, decide_true, decide_false, Bool.and_eq_true, Bool.true_and, Bool.and_true, Bool.and_self, Bool.not_true, Bool.not_false, true_and, and_true, true_implies, Bool.false_eq_true, false_implies, not_false_eq_true, not_true_eq_false, Int.reduceLT, Int.reduceLE, Int.reducePow, Int.reduceToNat, Int.reduceNeg, Int.reduceAdd, Int.reduceSub, Int.reduceMul, Nat.reduceLT, Nat.reduceLeDiff, Nat.reducePow, decide_eq_false_iff_not, Option.map_some, Option.map_none, Option.bind_some, Option.bind_none]
            first | exact hret _ rfl | exact ⟨fun q => absurd q (by simp), fun _ => hret _ rfl⟩
  · rw [decide_eq_false ht]
    try simp -implicitDefEqProofs only [W_bind, W_ok, W_bad, W_ex, W_noEx, W_ite, W_some, W_none, W_chk, W_map, W_obind, W_run, runK_nx, runK_rt, onBody, sNil, W_seq, seqK_nx, seqK_rt, seqK_bk, seqK_ct, sBk, sCt, sExpr, sRet, sRetN, sIf, sSet, sAsg, sPar2, sFor, sDel, eVar, eC, eBin, eUn, eT, boolOf, W_chain, thenB_ok, thenB_b, ok_bind, ofO_some, and_ok, or_ok, and_okD, or_okD, TL.tAnd, TL.tOr, TL.tNot, tTrue, eAnd, eOr, eNot, eIf, aNil, aCons, eTup, eFz, eNew, eFrz, frzD, nLst, nCall, eCall, eCallF, eSl, oNone, oSome, nComp, nCompK, nCat, catO_ll, catO_last, gAdd_last, gAppend_last, isTy_last, size_lt, mergeD_1, nEmpty, nDisp, pNil, pCons, iVal, iRange1, iRange2, iEnumF, iZipF, iItemsF, kRange1, kRange2, kEnum, kZip, kItems, cellD, eMeth, startD, tgSet, tgSets, wipeD, List.map_cons, List.map_nil, List.length_cons, List.length_nil, List.replicate_succ, List.replicate_zero, List.cons_append, List.nil_append, List.append_nil, List.getElem?_cons_zero, List.getElem?_cons_succ, List.getElem?_nil, List.set_cons_zero, List.set_cons_succ, List.set_nil, Nat.reduceAdd, Nat.reduceSub, Nat.reduceEqDiff, if_true, ite_true, if_false, ite_false, Nat.zero_add, gAdd_ii, gAdd_ss, gAdd_tt, gAdd_ll, gSub_ii, gMul_ii, gMul_si, gMul_li, gDiv_ii, gMod_ii, gPow_ii, gNeg_i, gLt_ii, gLe_ii, gGt_ii, gGe_ii, gIs_n, gIsNot_n, gIs_b, gIsNot_b, gAbs_i, gMax2_ii, gMin2_ii, gLen_s, gLen_l, gLen_t, gLen_d, gLen_r, gIx_l, gIx_t, gIx_d, gIx_r, gList_d, gList_l, gList_t, gDict_d, gTuple_t, gTuple_l, atI_0, atI_1, atI_2, atI_3, keyOf, W_sub, W_must, mulOk_r, mulOk_l, size_lit, some_ex, decide_eq_true_eq, decide_true, decide_false, Bool.and_eq_true, Bool.true_and, Bool.and_true, Bool.and_self, Bool.not_true, Bool.not_false, true_and, and_true, true_implies, Bool.false_eq_true, false_implies, not_false_eq_true, not_true_eq_false, Int.reduceLT, Int.reduceLE, Int.reducePow, Int.reduceToNat, Int.reduceNeg, Int.reduceAdd, Int.reduceSub, Int.reduceMul, Nat.reduceLT, Nat.reduceLeDiff, Nat.reducePow, decide_eq_false_iff_not, Option.map_some, Option.map_none, Option.bind_some, Option.bind_none]
    exact hret _ (by unfold extB; rw [decide_eq_false ht]; rfl)
theorem right_w {a b : List Ln} {f g : Option Int} {μ : Mu} {P : D → Mu → Prop} (h : P (.bool (extB a b f g)) μ) : W (c__law_gate_right [linesD a, linesD b, flD f, flD g] μ) P := by
  have hret : ∀ x, x = extB a b f g → W (retV μ μ (.bool x)) P := fun b hb => W_ret0 rfl (hb ▸ h)
  unfold c__law_gate_right b__law_gate_right linesD
  simp -implicitDefEqProofs only [List.length_map, sl_to, sl_from, gNe_lines, gEq_fl, gEq_nil, W_bind, W_ok, W_bad, W_ex, W_noEx, W_ite, W_some, W_none, W_chk, W_map, W_obind, W_run, runK_nx, runK_rt, onBody, sNil, W_seq, seqK_nx, seqK_rt, seqK_bk, seqK_ct, sBk, sCt, sExpr, sRet, sRetN, sIf, sSet, sAsg, sPar2, sFor, sDel, eVar, eC, eBin, eUn, eT, boolOf, W_chain, thenB_ok, thenB_b, ok_bind, ofO_some, and_ok, or_ok, and_okD, or_okD, TL.tAnd, TL.tOr, TL.tNot, tTrue, eAnd, eOr, eNot, eIf, aNil, aCons, eTup, eFz, eNew, eFrz, frzD, nLst, nCall, eCall, eCallF, eSl, oNone, oSome, nComp, nCompK, nCat, catO_ll, catO_last, gAdd_last, gAppend_last, isTy_last, size_lt, mergeD_1, nEmpty, nDisp, pNil, pCons, iVal, iRange1, iRange2, iEnumF, iZipF, iItemsF, kRange1, kRange2, kEnum, kZip, kItems, cellD, eMeth, startD, tgSet, tgSets, wipeD, List.map_cons, List.map_nil, List.length_cons, List.length_nil, List.replicate_succ, List.replicate_zero, List.cons_append, List.nil_append, List.append_nil, List.getElem?_cons_zero, List.getElem?_cons_succ, List.getElem?_nil, List.set_cons_zero, List.set_cons_succ, List.set_nil, Nat.reduceAdd, Nat.reduceSub, Nat.reduceEqDiff, if_true, ite_true, if_false, ite_false, Nat.zero_add, gAdd_ii, gAdd_ss, gAdd_tt, gAdd_ll, gSub_ii, gMul_ii, gMul_si, gMul_li, gDiv_ii, gMod_ii, gPow_ii, gNeg_i, gLt_ii, gLe_ii, gGt_ii, gGe_ii, gIs_n, gIsNot_n, gIs_b, gIsNot_b, gAbs_i, gMax2_ii, gMin2_ii, gLen_s, gLen_l, gLen_t, gLen_d, gLen_r, gIx_l, gIx_t, gIx_d, gIx_r, gList_d, gList_l, gList_t, gDict_d, gTuple_t, gTuple_l, atI_0, atI_1, atI_2, atI_3, keyOf, W_sub, W_must, mulOk_r, mulOk_l, size_lit, some_ex, decide_eq_true_eq, decide_true, decide_false, Bool.and_eq_true, Bool.true_and, Bool.and_true, Bool.and_self, Bool.not_true, Bool.not_false, true_and, and_true, true_implies, Bool.false_eq_true, false_implies, not_false_eq_true, not_true_eq_false, Int.reduceLT, Int.reduceLE, Int.reducePow, Int.reduceToNat, Int.reduceNeg, Int.reduceAdd, Int.reduceSub, Int.reduceMul, Nat.reduceLT, Nat.reduceLeDiff, Nat.reducePow, decide_eq_false_iff_not, Option.map_some, Option.map_none, Option.bind_some, Option.bind_none]
  by_cases ht : b.take a.length = a
  · rw [decide_eq_true ht]
    try simp -implicitDefEqProofs only [W_bind, W_ok, W_bad, W_ex, W_noEx, W_ite, W_some, W_none, W_chk, W_map, W_obind, W_run, runK_nx, runK_rt, onBody, sNil, W_seq, seqK_nx, seqK_rt, seqK_bk, seqK_ct, sBk, sCt, sExpr, sRet, sRetN, sIf, sSet, sAsg, sPar2, sFor, sDel, eVar, eC, eBin, eUn, eT, boolOf, W_chain, thenB_ok, thenB_b, ok_bind, ofO_some, and_ok, or_ok, and_okD, or_okD, TL.tAnd, TL.tOr, TL.tNot, tTrue, eAnd, eOr, eNot, eIf, aNil, aCons, eTup, eFz, eNew, eFrz, frzD, nLst, nCall, eCall, eCallF, eSl, oNone, oSome, nComp, nCompK, nCat, catO_ll, catO_last, gAdd_last, gAppend_last, isTy_last, size_lt, mergeD_1, nEmpty, nDisp, pNil, pCons, iVal, iRange1, iRange2, iEnumF, iZipF, iItemsF, kRange1, kRange2, kEnum, kZip, kItems, cellD, eMeth, startD, tgSet, tgSets, wipeD, List.map_cons, List.map_nil, List.length_cons, List.length_nil, List.replicate_succ, List.replicate_zero, List.cons_append, List.nil_append, List.append_nil, List.getElem?_cons_zero, List.getElem?_cons_succ, List.getElem?_nil, List.set_cons_zero, List.set_cons_succ, List.set_nil, Nat.reduceAdd, Nat.reduceSub, Nat.reduceEqDiff, if_true, ite_true, if_false, ite_false, Nat.zero_add, gAdd_ii, gAdd_ss, gAdd_tt, gAdd_ll, gSub_ii, gMul_ii, gMul_si, gMul_li, gDiv_ii, gMod_ii, gPow_ii, gNeg_i, gLt_ii, gLe_ii, gGt_ii, gGe_ii, gIs_n, gIsNot_n, gIs_b, gIsNot_b, gAbs_i, gMax2_ii, gMin2_ii, gLen_s, gLen_l, gLen_t, gLen_d, gLen_r, gIx_l, gIx_t, gIx_d, gIx_r, gList_d, gList_l, gList_t, gDict_d, gTuple_t, gTuple_l, atI_0, atI_1, atI_2, atI_3, keyOf, W_sub, W_must, mulOk_r, mulOk_l, size_lit, some_ex, decide_eq_true_eq, decide_true, decide_false, Bool.and_eq_true, Bool.true_and, Bool.and_true, Bool.and_self, Bool.not_true, Bool.not_false, true_and, and_true, true_implies, Bool.false_eq_true, false_implies, not_false_eq_true, not_true_eq_false, Int.reduceLT, Int.reduceLE, Int.reducePow, Int.reduceToNat, Int.reduceNeg, Int.reduceAdd, Int.reduceSub, Int.reduceMul, Nat.reduceLT, Nat.reduceLeDiff, Nat.reducePow, decide_eq_false_iff_not, Option.map_some, Option.map_none, Option.bind_some, Option.bind_none]
    have hx : extB a b f g = extT (b.drop a.length) f g := by
      unfold extB
      rw [decide_eq_true ht, Bool.true_and]
    rw [hx] at hret
    generalize b.drop a.length = x at hret
    cases f with
    | none =>
      try simp -implicitDefEqProofs only [W_bind, W_ok, W_bad, W_ex, W_noEx, W_ite, W_some, W_none, W_chk, W_map, W_obind, W_run, runK_nx, runK_rt, onBody, sNil, W_seq, seqK_nx, seqK_rt, seqK_bk, seqK_ct, sBk, sCt, sExpr, sRet, sRetN, sIf, sSet, sAsg, sPar2, sFor, sDel, eVar, eC, eBin, eUn, eT, boolOf, W_chain, thenB_ok, thenB_b, ok_bind, ofO_some, and_ok, or_ok, and_okD, or_okD, TL.tAnd, TL.tOr, TL.tNot, tTrue, eAnd, eOr, eNot, eIf, aNil, aCons, eTup, eFz, eNew, eFrz, frzD, nLst, nCall, eCall, eCallF, eSl, oNone, oSome, nComp, nCompK, nCat, catO_ll, catO_last, gAdd_last, gAppend_last, isTy_last, size_lt, mergeD_1, nEmpty, nDisp, pNil, pCons, iVal, iRange1, iRange2, iEnumF, iZipF, iItemsF, kRange1, kRange2, kEnum, kZip, kItems, cellD, eMeth, startD, tgSet, tgSets, wipeD, List.map_cons, List.map_nil, List.length_cons, List.length_nil, List.replicate_succ, List.replicate_zero, List.cons_append, List.nil_append, List.append_nil, List.getElem?_cons_zero, List.getElem?_cons_succ, List.getElem?_nil, List.set_cons_zero, List.set_cons_succ, List.set_nil, Nat.reduceAdd, Nat.reduceSub, Nat.reduceEqDiff, if_true, ite_true, if_false, ite_false, Nat.zero_add, gAdd_ii, gAdd_ss, gAdd_tt, gAdd_ll, gSub_ii, gMul_ii, gMul_si, gMul_li, gDiv_ii, gMod_ii, gPow_ii, gNeg_i, gLt_ii, gLe_ii, gGt_ii, gGe_ii, gIs_n, gIsNot_n, gIs_b, gIsNot_b, gAbs_i, gMax2_ii, gMin2_ii, gLen_s, gLen_l, gLen_t, gLen_d, gLen_r, gIx_l, gIx_t, gIx_d, gIx_r, gList_d, gList_l, gList_t, gDict_d, gTuple_t, gTuple_l, atI_0, atI_1, atI_2, atI_3, keyOf, W_sub, W_must, mulOk_r, mulOk_l, size_lit, some_ex, decide_eq_true_eq, decide_true, decide_false, Bool.and_eq_true, Bool.true_and, Bool.and_true, Bool.and_self, Bool.not_true, Bool.not_false, true_and, and_true, true_implies, Bool.false_eq_true, false_implies, not_false_eq_true, not_true_eq_false, Int.reduceLT, Int.reduceLE, Int.reducePow, Int.reduceToNat, Int.reduceNeg, Int.reduceAdd, Int.reduceSub, Int.reduceMul, Nat.reduceLT, Nat.reduceLeDiff, Nat.reducePow, decide_eq_false_iff_not, Option.map_some, Option.map_none, Option.bind_some, Option.bind_none]
      first | exact hret _ rfl | exact ⟨fun _ => hret _ rfl, fun q => absurd rfl q⟩
    | some f =>
      have hxs : extT x (some f) g = (x.all (fun l => decide (f ≤ l.t)) && topB f g) := rfl
      rw [hxs] at hret
      have nf : ¬ (some f : Option Int) = none := by simp
      have ff : flD (some f) = .int f := rfl
      simp -implicitDefEqProofs only [nf, walked_l, ff, W_bind, W_ok, W_bad, W_ex, W_noEx, W_ite, W_some, W_none, W_chk, W_map, W_obind, W_run, runK_nx, runK_rt, onBody, sNil, W_seq, seqK_nx, seqK_rt, seqK_bk, seqK_ct, sBk, sCt, sExpr, sRet, sRetN, sIf, sSet, sAsg, sPar2, sFor, sDel, eVar, eC, eBin, eUn, eT, boolOf, W_chain, thenB_ok, thenB_b, ok_bind, ofO_some, and_ok, or_ok, and_okD, or_okD, TL.tAnd, TL.tOr, TL.tNot, tTrue, eAnd, eOr, eNot, eIf, aNil, aCons, eTup, eFz, eNew, eFrz, frzD, nLst, nCall, eCall, eCallF, eSl, oNone, oSome, nComp, nCompK, nCat, catO_ll, catO_last, gAdd_last, gAppend_last, isTy_last, size_lt, mergeD_1, nEmpty, nDisp, pNil, pCons, iVal, iRange1, iRange2, iEnumF, iZipF, iItemsF, kRange1, kRange2, kEnum, kZip, kItems, cellD, eMeth, startD, tgSet, tgSets, wipeD, List.map_cons, List.map_nil, List.length_cons, List.length_nil, List.replicate_succ, List.replicate_zero, List.cons_append, List.nil_append, List.append_nil, List.getElem?_cons_zero, List.getElem?_cons_succ, List.getElem?_nil, List.set_cons_zero, List.set_cons_succ, List.set_nil, Nat.reduceAdd, Nat.reduceSub, Nat.reduceEqDiff, if_true, ite_true, if_false, ite_false, Nat.zero_add, gAdd_ii, gAdd_ss, gAdd_tt, gAdd_ll, gSub_ii, gMul_ii, gMul_si, gMul_li, gDiv_ii, gMod_ii, gPow_ii, gNeg_i, gLt_ii, gLe_ii, gGt_ii, gGe_ii, gIs_n, gIsNot_n, gIs_b, gIsNot_b, gAbs_i, gMax2_ii, gMin2_ii, gLen_s, gLen_l, gLen_t, gLen_d, gLen_r, gIx_l, gIx_t, gIx_d, gIx_r, gList_d, gList_l, gList_t, gDict_d, gTuple_t, gTuple_l, atI_0, atI_1, atI_2, atI_3, keyOf, W_sub, W_must, mulOk_r, mulOk_l, size_lit, some_ex, decide_eq_true_eq, decide_true, decide_false, Bool.and_eq_true, Bool.true_and, Bool.and_true, Bool.and_self, Bool.not_true, Bool.not_false, true_and, and_true, true_implies, Bool.false_eq_true, false_implies, not_false_eq_true, not_true_eq_false, Int.reduceLT, Int.reduceLE, Int.reducePow, Int.reduceToNat, Int.reduceNeg, Int.reduceAdd, Int.reduceSub, Int.reduceMul, Nat.reduceLT, Nat.reduceLeDiff, Nat.reducePow, decide_eq_false_iff_not, Option.map_some, Option.map_none, Option.bind_some, Option.bind_none]
      refine W_compMap Ln.d (fun l => decide (l.t < f)) Ln.d x (fun l hl => ⟨_, rfl, W.eq ?_, fun _ => rfl⟩) ?_
      · have lt : ∀ ν, gIx ν l.d (.int 0) = some (.int l.t) := fun ν => rfl
        simp -implicitDefEqProofs only [lt, W_bind, W_ok, W_bad, W_ex, W_noEx, W_ite, W_some, W_none, W_chk, W_map, W_obind, W_run, runK_nx, runK_rt, onBody, sNil, W_seq, seqK_nx, seqK_rt, seqK_bk, seqK_ct, sBk, sCt, sExpr, sRet, sRetN, sIf, sSet, sAsg, sPar2, sFor, sDel, eVar, eC, eBin, eUn, eT, boolOf, W_chain, thenB_ok, thenB_b, ok_bind, ofO_some, and_ok, or_ok, and_okD, or_okD, TL.tAnd, TL.tOr, TL.tNot, tTrue, eAnd, eOr, eNot, eIf, aNil, aCons, eTup, eFz, eNew, eFrz, frzD, nLst, nCall, eCall, eCallF, eSl, oNone, oSome, nComp, nCompK, nCat, catO_ll, catO_last, gAdd_last, gAppend_last, isTy_last, size_lt, mergeD_1, nEmpty, nDisp, pNil, pCons, iVal, iRange1, iRange2, iEnumF, iZipF, iItemsF, kRange1, kRange2, kEnum, kZip, kItems, cellD, eMeth, startD, tgSet, tgSets, wipeD, List.map_cons, List.map_nil, List.length_cons, List.length_nil, List.replicate_succ, List.replicate_zero, List.cons_append, List.nil_append, List.append_nil, List.getElem?_cons_zero, List.getElem?_cons_succ, List.getElem?_nil, List.set_cons_zero, List.set_cons_succ, List.set_nil, Nat.reduceAdd, Nat.reduceSub, Nat.reduceEqDiff, if_true, ite_true, if_false, ite_false, Nat.zero_add, gAdd_ii, gAdd_ss, gAdd_tt, gAdd_ll, gSub_ii, gMul_ii, gMul_si, gMul_li, gDiv_ii, gMod_ii, gPow_ii, gNeg_i, gLt_ii, gLe_ii, gGt_ii, gGe_ii, gIs_n, gIsNot_n, gIs_b, gIsNot_b, gAbs_i, gMax2_ii, gMin2_ii, gLen_s, gLen_l, gLen_t, gLen_d, gLen_r, gIx_l, gIx_t, gIx_d, gIx_r, gList_d, gList_l, gList_t, gDict_d, gTuple_t, gTuple_l, atI_0, atI_1, atI_2, atI_3, keyOf, W_sub, W_must, mulOk_r, mulOk_l, size_lit, some_ex, decide_eq_true_eq, decide_true, decide_false, Bool.and_eq_true, Bool.true_and, Bool.and_true, Bool.and_self, Bool.not_true, Bool.not_false, true_and, and_true, true_implies, Bool.false_eq_true, false_implies, not_false_eq_true, not_true_eq_false, Int.reduceLT, Int.reduceLE, Int.reducePow, Int.reduceToNat, Int.reduceNeg, Int.reduceAdd, Int.reduceSub, Int.reduceMul, Nat.reduceLT, Nat.reduceLeDiff, Nat.reducePow, decide_eq_false_iff_not, Option.map_some, Option.map_none, Option.bind_some, Option.bind_none]
      · have e : decide ((x.filter fun l => decide (l.t < f)) = []) = x.all fun l => decide (f ≤ l.t) := by
          rw [Bool.eq_iff_iff, decide_eq_true_eq, List.filter_eq_nil_iff, List.all_eq_true]
          simp only [decide_eq_true_eq]
          exact ⟨fun h l hl => by have := h l hl; omega, fun h l hl => by have := h l hl; omega⟩
        simp -implicitDefEqProofs only [gEq_nil, e, W_bind, W_ok, W_bad, W_ex, W_noEx, W_ite, W_some, W_none, W_chk, W_map, W_obind, W_run, runK_nx, runK_rt, onBody, sNil, W_seq, seqK_nx, seqK_rt, seqK_bk, seqK_ct, sBk, sCt, sExpr, sRet, sRetN, sIf, sSet, sAsg, sPar2, sFor, sDel, eVar, eC, eBin, eUn, eT, boolOf, W_chain, thenB_ok, thenB_b, ok_bind, ofO_some, and_ok, or_ok, and_okD, or_okD, TL.tAnd, TL.tOr, TL.tNot, tTrue, eAnd, eOr, eNot, eIf, aNil, aCons, eTup, eFz, eNew, eFrz, frzD, nLst, nCall, eCall, eCallF, eSl, oNone, oSome, nComp, nCompK, nCat, catO_ll, catO_last, gAdd_last, gAppend_last, isTy_last, size_lt, mergeD_1, nEmpty, nDisp, pNil, pCons, iVal, iRange1, iRange2, iEnumF, iZipF, iItemsF, kRange1, kRange2, kEnum, kZip, kItems, cellD, eMeth, startD, tgSet, tgSets, wipeD, List.map_cons, List.map_nil, List.length_cons, List.length_nil, List.replicate_succ, List.replicate_zero, List.cons_append, List.nil_append, List.append_nil, List.getElem?_cons_zero, List.getElem?_cons_succ, List.getElem?_nil, List.set_cons_zero, List.set_cons_succ, List.set_nil, Nat.reduceAdd, Nat.reduceSub, Nat.reduceEqDiff, if_true, ite_true, if_false, ite_false, Nat.zero_add, gAdd_ii, gAdd_ss, gAdd_tt, gAdd_ll, gSub_ii, gMul_ii, gMul_si, gMul_li, gDiv_ii, gMod_ii, gPow_ii, gNeg_i, gLt_ii, gLe_ii, gGt_ii, gGe_ii, gIs_n, gIsNot_n, gIs_b, gIsNot_b, gAbs_i, gMax2_ii, gMin2_ii, gLen_s, gLen_l, gLen_t, gLen_d, gLen_r, gIx_l, gIx_t, gIx_d, gIx_r, gList_d, gList_l, gList_t, gDict_d, gTuple_t, gTuple_l, atI_0, atI_1, atI_2, atI_3, keyOf, W_sub, W_must, mulOk_r, mulOk_l, size_lit, some_ex, decide_eq_true_eq, decide_true, decide_false, Bool.and_eq_true, Bool.true_and, Bool.and_true, Bool.and_self, Bool.not_true, Bool.not_false, true_and, and_true, true_implies, Bool.false_eq_true, false_implies, not_false_eq_true, not_true_eq_false, Int.reduceLT, Int.reduceLE, Int.reducePow, Int.reduceToNat, Int.reduceNeg, Int.reduceAdd, Int.reduceSub, Int.reduceMul, Nat.reduceLT, Nat.reduceLeDiff, Nat.reducePow, decide_eq_false_iff_not, Option.map_some, Option.map_none, Option.bind_some, Option.bind_none]
        generalize (x.all fun l => decide (f ≤ l.t)) = A at hret
        cases A
        · try simp -implicitDefEqProofs only [W_bind, W_ok, W_bad, W_ex, W_noEx, W_ite, W_some, W_none, W_chk, W_map, W_obind, W_run, runK_nx, runK_rt, onBody, sNil, W_seq, seqK_nx, seqK_rt, seqK_bk, seqK_ct, sBk, sCt, sExpr, sRet, sRetN, sIf, sSet, sAsg, sPar2, sFor, sDel, eVar, eC, eBin, eUn, eT, boolOf, W_chain, thenB_ok, thenB_b, ok_bind, ofO_some, and_ok, or_ok, and_okD, or_okD, TL.tAnd, TL.tOr, TL.tNot, tTrue, eAnd, eOr, eNot, eIf, aNil, aCons, eTup, eFz, eNew, eFrz, frzD, nLst, nCall, eCall, eCallF, eSl, oNone, oSome, nComp, nCompK, nCat, catO_ll, catO_last, gAdd_last, gAppend_last, isTy_last, size_lt, mergeD_1, nEmpty, nDisp, pNil, pCons, iVal, iRange1, iRange2, iEnumF, iZipF, iItemsF, kRange1, kRange2, kEnum, kZip, kItems, cellD, eMeth, startD, tgSet, tgSets, wipeD, List.map_cons, List.map_nil, List.length_cons, List.length_nil, List.replicate_succ, List.replicate_zero, List.cons_append, List.nil_append, List.append_nil, List.getElem?_cons_zero, List.getElem?_cons_succ, List.getElem?_nil, List.set_cons_zero, List.set_cons_succ, List.set_nil, Nat.reduceAdd, Nat.reduceSub, Nat.reduceEqDiff, if_true, ite_true, if_false, ite_false, Nat.zero_add, gAdd_ii, gAdd_ss, gAdd_tt, gAdd_ll, gSub_ii, gMul_ii, gMul_si, gMul_li, gDiv_ii, gMod_ii, gPow_ii, gNeg_i, gLt_ii, gLe_ii, gGt_ii, gGe_ii, gIs_n, gIsNot_n, gIs_b, gIsNot_b, gAbs_i, gMax2_ii, gMin2_ii, gLen_s, gLen_l, gLen_t, gLen_d, gLen_r, gIx_l, gIx_t, gIx_d, gIx_r, gList_d, gList_l, gList_t, gDict_d, gTuple_t, gTuple_l, atI_0, atI_1, atI_2, atI_3, keyOf, W_sub, W_must, mulOk_r, mulOk_l, size_lit, some_ex, decide_eq_true_eq, decide_true, decide_false, Bool.and_eq_true, Bool.true_and, Bool.and_true, Bool.and_self, Bool.not_true, Bool.not_false, true_and, and_true, true_implies, Bool.false_eq_true, false_implies, not_false_eq_true, not_true_eq_false, Int.reduceLT, Int.reduceLE, Int.reducePow, Int.reduceToNat, Int.reduceNeg, Int.reduceAdd, Int.reduceSub, Int.reduceMul, Nat.reduceLT, Nat.reduceLeDiff, Nat.reducePow, decide_eq_false_iff_not, Option.map_some, Option.map_none, Option.bind_some, Option.bind_none]
          first | exact hret _ rfl | exact ⟨fun q => absurd q (by simp), fun _ => hret _ rfl⟩
        · cases g with
          | none =>
            try simp -implicitDefEqProofs only [W_bind, W_ok, W_bad, W_ex, W_noEx, W_ite, W_some, W_none, W_chk, W_map, W_obind, W_run, runK_nx, runK_rt, onBody, sNil, W_seq, seqK_nx, seqK_rt, seqK_bk, seqK_ct, sBk, sCt, sExpr, sRet, sRetN, sIf, sSet, sAsg, sPar2, sFor, sDel, eVar, eC, eBin, eUn, eT, boolOf, W_chain, thenB_ok, thenB_b, ok_bind, ofO_some, and_ok, or_ok, and_okD, or_okD, TL.tAnd, TL.tOr, TL.tNot, tTrue, eAnd, eOr, eNot, eIf, aNil, aCons, eTup, eFz, eNew, eFrz, frzD, nLst, nCall, eCall, eCallF, eSl, oNone, oSome, nComp, nCompK, nCat, catO_ll, catO_last, gAdd_last, gAppend_last, isTy_last, size_lt, mergeD_1, nEmpty, nDisp, pNil, pCons, iVal, iRange1, iRange2, iEnumF, iZipF, iItemsF, kRange1, kRange2, kEnum, kZip, kItems, cellD, eMeth, startD, tgSet, tgSets, wipeD, List.map_cons, List.map_nil, List.length_cons, List.length_nil, List.replicate_succ, List.replicate_zero, List.cons_append, List.nil_append, List.append_nil, List.getElem?_cons_zero, List.getElem?_cons_succ, List.getElem?_nil, List.set_cons_zero, List.set_cons_succ, List.set_nil, Nat.reduceAdd, Nat.reduceSub, Nat.reduceEqDiff, if_true, ite_true, if_false, ite_false, Nat.zero_add, gAdd_ii, gAdd_ss, gAdd_tt, gAdd_ll, gSub_ii, gMul_ii, gMul_si, gMul_li, gDiv_ii, gMod_ii, gPow_ii, gNeg_i, gLt_ii, gLe_ii, gGt_ii, gGe_ii, gIs_n, gIsNot_n, gIs_b, gIsNot_b, gAbs_i, gMax2_ii, gMin2_ii, gLen_s, gLen_l, gLen_t, gLen_d, gLen_r, gIx_l, gIx_t, gIx_d, gIx_r, gList_d, gList_l, gList_t, gDict_d, gTuple_t, gTuple_l, atI_0, atI_1, atI_2, atI_3, keyOf, W_sub, W_must, mulOk_r, mulOk_l, size_lit, some_ex, decide_eq_true_eq, decide_true, decide_false, Bool.and_eq_true, Bool.true_and, Bool.and_true, Bool.and_self, Bool.not_true, Bool.not_false, true_and, and_true, true_implies, Bool.false_eq_true, false_implies, not_false_eq_true, not_true_eq_false, Int.reduceLT, Int.reduceLE, Int.reducePow, Int.reduceToNat, Int.reduceNeg, Int.reduceAdd, Int.reduceSub, Int.reduceMul, Nat.reduceLT, Nat.reduceLeDiff, Nat.reducePow, decide_eq_false_iff_not, Option.map_some, Option.map_none, Option.bind_some, Option.bind_none]
            first | exact hret _ rfl | exact ⟨fun q => absurd q (by simp), fun _ => hret _ rfl⟩
          | some g =>
            have ng : ¬ (some g : Option Int) = none := by simp
            have gg : flD (some g) = .int g := rfl
            simp -implicitDefEqProofs only [ng, gg, W_bind, W_ok, W_bad, W_ex, W_noEx, W_ite, W_some, W_none, W_chk, W_map, W_obind, W_run, runK_nx, runK_rt, onBody, sNil, W_seq, seqK_nx, seqK_rt, seqK_bk, seqK_ct, sBk, sCt, sExpr, sRet, sRetN, sIf, sSet, sAsg, sPar2, sFor, sDel, eVar, eC, eBin, eUn, eT, boolOf, W_chain, thenB_ok, thenB_b, ok_bind, ofO_some, and_ok, or_ok, and_okD, or_okD, TL.tAnd, TL.tOr, TL.tNot, tTrue, eAnd, eOr, eNot, eIf, aNil, aCons, eTup, eFz, eNew, eFrz, frzD, nLst, nCall, eCall, eCallF, eSl, oNone, oSome, nComp, nCompK, nCat, catO_ll, catO_last, gAdd_last, gAppend_last, isTy_last, size_lt, mergeD_1, nEmpty, nDisp, pNil, pCons, iVal, iRange1, iRange2, iEnumF, iZipF, iItemsF, kRange1, kRange2, kEnum, kZip, kItems, cellD, eMeth, startD, tgSet, tgSets, wipeD, List.map_cons, List.map_nil, List.length_cons, List.length_nil, List.replicate_succ, List.replicate_zero, List.cons_append, List.nil_append, List.append_nil, List.getElem?_cons_zero, List.getElem?_cons_succ, List.getElem?_nil, List.set_cons_zero, List.set_cons_succ, List.set_nil, Nat.reduceAdd, Nat.reduceSub, Nat.reduceEqDiff, if_true, ite_true, if_false, ite_false, Nat.zero_add, gAdd_ii, gAdd_ss, gAdd_tt, gAdd_ll, gSub_ii, gMul_ii, gMul_si, gMul_li, gDiv_ii, gMod_ii, gPow_ii, gNeg_i, gLt_ii, gLe_ii, gGt_ii, gGe_ii, gIs_n, gIsNot_n, gIs_b, gIsNot_b, gAbs_i, gMax2_ii, gMin2_ii, gLen_s, gLen_l, gLen_t, gLen_d, gLen_r, gIx_l, gIx_t, gIx_d, gIx_r, gList_d, gList_l, gList_t, gDict_d, gTuple_t, gTuple_l, atI_0, atI_1, atI_2, atI_3, keyOf, W_sub, W_must, mulOk_r, mulOk_l, size_lit, some_ex, decide_eq_true_eq, decide_true, decide_false, Bool.and_eq_true, Bool.true_and, Bool.and_true, Bool.and_self, Bool.not_true, Bool.not_false, true_and, and_true, true_implies, Bool.false_eq_true, false_implies, not_false_eq_true, not_true_eq_false, Int.reduceLT, Int.reduceLE, Int.reducePow, Int.reduceToNat, Int.reduceNeg, Int.reduceAdd, Int.reduceSub, Int.reduceMul, Nat.reduceLT, Nat.reduceLeDiff, Nat.reducePow, decide_eq_false_iff_not, Option.map_some, Option.map_none, Option.bind_some, Option.bind_none]
            first | exact hret _ rfl | exact ⟨fun q => absurd q (by simp), fun _ => hret _ rfl⟩
  · rw [decide_eq_false ht]
    try simp -implicitDefEqProofs only [W_bind, W_ok, W_bad, W_ex, W_noEx, W_ite, W_some, W_none, W_chk, W_map, W_obind, W_run, runK_nx, runK_rt, onBody, sNil, W_seq, seqK_nx, seqK_rt, seqK_bk, seqK_ct, sBk, sCt, sExpr, sRet, sRetN, sIf, sSet, sAsg, sPar2, sFor, sDel, eVar, eC, eBin, eUn, eT, boolOf, W_chain, thenB_ok, thenB_b, ok_bind, ofO_some, and_ok, or_ok, and_okD, or_okD, TL.tAnd, TL.tOr, TL.tNot, tTrue, eAnd, eOr, eNot, eIf, aNil, aCons, eTup, eFz, eNew, eFrz, frzD, nLst, nCall, eCall, eCallF, eSl, oNone, oSome, nComp, nCompK, nCat, catO_ll, catO_last, gAdd_last, gAppend_last, isTy_last, size_lt, mergeD_1, nEmpty, nDisp, pNil, pCons, iVal, iRange1, iRange2, iEnumF, iZipF, iItemsF, kRange1, kRange2, kEnum, kZip, kItems, cellD, eMeth, startD, tgSet, tgSets, wipeD, List.map_cons, List.map_nil, List.length_cons, List.length_nil, List.replicate_succ, List.replicate_zero, List.cons_append, List.nil_append, List.append_nil, List.getElem?_cons_zero, List.getElem?_cons_succ, List.getElem?_nil, List.set_cons_zero, List.set_cons_succ, List.set_nil, Nat.reduceAdd, Nat.reduceSub, Nat.reduceEqDiff, if_true, ite_true, if_false, ite_false, Nat.zero_add, gAdd_ii, gAdd_ss, gAdd_tt, gAdd_ll, gSub_ii, gMul_ii, gMul_si, gMul_li, gDiv_ii, gMod_ii, gPow_ii, gNeg_i, gLt_ii, gLe_ii, gGt_ii, gGe_ii, gIs_n, gIsNot_n, gIs_b, gIsNot_b, gAbs_i, gMax2_ii, gMin2_ii, gLen_s, gLen_l, gLen_t, gLen_d, gLen_r, gIx_l, gIx_t, gIx_d, gIx_r, gList_d, gList_l, gList_t, gDict_d, gTuple_t, gTuple_l, atI_0, atI_1, atI_2, atI_3, keyOf, W_sub, W_must, mulOk_r, mulOk_l, size_lit, some_ex, decide_eq_true_eq, decide_true, decide_false, Bool.and_eq_true, Bool.true_and, Bool.and_true, Bool.and_self, Bool.not_true, Bool.not_false, true_and, and_true, true_implies, Bool.false_eq_true, false_implies, not_false_eq_true, not_true_eq_false, Int.reduceLT, Int.reduceLE, Int.reducePow, Int.reduceToNat, Int.reduceNeg, Int.reduceAdd, Int.reduceSub, Int.reduceMul, Nat.reduceLT, Nat.reduceLeDiff, Nat.reducePow, decide_eq_false_iff_not, Option.map_some, Option.map_none, Option.bind_some, Option.bind_none]
    exact hret _ (by unfold extB; rw [decide_eq_false ht]; rfl)
def isExt (g h : Lg) : Bool := extB g.en h.en g.f0 h.f0 && extB g.ex h.ex g.f1 h.f1
theorem isext_w {g h : Lg} {μ : Mu} {P : D → Mu → Prop} (k : P (.bool (isExt g h)) μ) : W (c_is_extension [g.d, h.d] μ) P := by
  have hret : ∀ x, x = isExt g h → W (retV μ μ (.bool x)) P := fun b hb => W_ret0 rfl (hb ▸ k)
  have i0 : ∀ ν (g : Lg), gIx ν g.d (.int 0) = some (linesD g.en) := fun ν g => rfl
  have i1 : ∀ ν (g : Lg), gIx ν g.d (.int 1) = some (linesD g.ex) := fun ν g => rfl
  have i2 : ∀ ν (g : Lg), gIx ν g.d (.int 2) = some (flD g.f0) := fun ν g => rfl
  have i3 : ∀ ν (g : Lg), gIx ν g.d (.int 3) = some (flD g.f1) := fun ν g => rfl
  unfold isExt at hret
  unfold c_is_extension b_is_extension
  simp -implicitDefEqProofs only [i0, i1, i2, i3, W_bind, W_ok, W_bad, W_ex, W_noEx, W_ite, W_some, W_none, W_chk, W_map, W_obind, W_run, runK_nx, runK_rt, onBody, sNil, W_seq, seqK_nx, seqK_rt, seqK_bk, seqK_ct, sBk, sCt, sExpr, sRet, sRetN, sIf, sSet, sAsg, sPar2, sFor, sDel, eVar, eC, eBin, eUn, eT, boolOf, W_chain, thenB_ok, thenB_b, ok_bind, ofO_some, and_ok, or_ok, and_okD, or_okD, TL.tAnd, TL.tOr, TL.tNot, tTrue, eAnd, eOr, eNot, eIf, aNil, aCons, eTup, eFz, eNew, eFrz, frzD, nLst, nCall, eCall, eCallF, eSl, oNone, oSome, nComp, nCompK, nCat, catO_ll, catO_last, gAdd_last, gAppend_last, isTy_last, size_lt, mergeD_1, nEmpty, nDisp, pNil, pCons, iVal, iRange1, iRange2, iEnumF, iZipF, iItemsF, kRange1, kRange2, kEnum, kZip, kItems, cellD, eMeth, startD, tgSet, tgSets, wipeD, List.map_cons, List.map_nil, List.length_cons, List.length_nil, List.replicate_succ, List.replicate_zero, List.cons_append, List.nil_append, List.append_nil, List.getElem?_cons_zero, List.getElem?_cons_succ, List.getElem?_nil, List.set_cons_zero, List.set_cons_succ, List.set_nil, Nat.reduceAdd, Nat.reduceSub, Nat.reduceEqDiff, if_true, ite_true, if_false, ite_false, Nat.zero_add, gAdd_ii, gAdd_ss, gAdd_tt, gAdd_ll, gSub_ii, gMul_ii, gMul_si, gMul_li, gDiv_ii, gMod_ii, gPow_ii, gNeg_i, gLt_ii, gLe_ii, gGt_ii, gGe_ii, gIs_n, gIsNot_n, gIs_b, gIsNot_b, gAbs_i, gMax2_ii, gMin2_ii, gLen_s, gLen_l, gLen_t, gLen_d, gLen_r, gIx_l, gIx_t, gIx_d, gIx_r, gList_d, gList_l, gList_t, gDict_d, gTuple_t, gTuple_l, atI_0, atI_1, atI_2, atI_3, keyOf, W_sub, W_must, mulOk_r, mulOk_l, size_lit, some_ex, decide_eq_true_eq, decide_true, decide_false, Bool.and_eq_true, Bool.true_and, Bool.and_true, Bool.and_self, Bool.not_true, Bool.not_false, true_and, and_true, true_implies, Bool.false_eq_true, false_implies, not_false_eq_true, not_true_eq_false, Int.reduceLT, Int.reduceLE, Int.reducePow, Int.reduceToNat, Int.reduceNeg, Int.reduceAdd, Int.reduceSub, Int.reduceMul, Nat.reduceLT, Nat.reduceLeDiff, Nat.reducePow, decide_eq_false_iff_not, Option.map_some, Option.map_none, Option.bind_some, Option.bind_none]
  refine ext_w ?_
  generalize extB g.en h.en g.f0 h.f0 = A at hret
  cases A
  · try simp -implicitDefEqProofs only [W_bind, W_ok, W_bad, W_ex, W_noEx, W_ite, W_some, W_none, W_chk, W_map, W_obind, W_run, runK_nx, runK_rt, onBody, sNil, W_seq, seqK_nx, seqK_rt, seqK_bk, seqK_ct, sBk, sCt, sExpr, sRet, sRetN, sIf, sSet, sAsg, sPar2, sFor, sDel, eVar, eC, eBin, eUn, eT, boolOf, W_chain, thenB_ok, thenB_b, ok_bind, ofO_some, and_ok, or_ok, and_okD, or_okD, TL.tAnd, TL.tOr, TL.tNot, tTrue, eAnd, eOr, eNot, eIf, aNil, aCons, eTup, eFz, eNew, eFrz, frzD, nLst, nCall, eCall, eCallF, eSl, oNone, oSome, nComp, nCompK, nCat, catO_ll, catO_last, gAdd_last, gAppend_last, isTy_last, size_lt, mergeD_1, nEmpty, nDisp, pNil, pCons, iVal, iRange1, iRange2, iEnumF, iZipF, iItemsF, kRange1, kRange2, kEnum, kZip, kItems, cellD, eMeth, startD, tgSet, tgSets, wipeD, List.map_cons, List.map_nil, List.length_cons, List.length_nil, List.replicate_succ, List.replicate_zero, List.cons_append, List.nil_append, List.append_nil, List.getElem?_cons_zero, List.getElem?_cons_succ, List.getElem?_nil, List.set_cons_zero, List.set_cons_succ, List.set_nil, Nat.reduceAdd, Nat.reduceSub, Nat.reduceEqDiff, if_true, ite_true, if_false, ite_false, Nat.zero_add, gAdd_ii, gAdd_ss, gAdd_tt, gAdd_ll, gSub_ii, gMul_ii, gMul_si, gMul_li, gDiv_ii, gMod_ii, gPow_ii, gNeg_i, gLt_ii, gLe_ii, gGt_ii, gGe_ii, gIs_n, gIsNot_n, gIs_b, gIsNot_b, gAbs_i, gMax2_ii, gMin2_ii, gLen_s, gLen_l, gLen_t, gLen_d, gLen_r, gIx_l, gIx_t, gIx_d, gIx_r, gList_d, gList_l, gList_t, gDict_d, gTuple_t, gTuple_l, atI_0, atI_1, atI_2, atI_3, keyOf, W_sub, W_must, mulOk_r, mulOk_l, size_lit, some_ex, decide_eq_true_eq, decide_true, decide_false, Bool.and_eq_true, Bool.true_and, Bool.and_true, Bool.and_self, Bool.not_true, Bool.not_false, true_and, and_true, true_implies, Bool.false_eq_true, false_implies, not_false_eq_true, not_true_eq_false, Int.reduceLT, Int.reduceLE, Int.reducePow, Int.reduceToNat, Int.reduceNeg, Int.reduceAdd, Int.reduceSub, Int.reduceMul, Nat.reduceLT, Nat.reduceLeDiff, Nat.reducePow, decide_eq_false_iff_not, Option.map_some, Option.map_none, Option.bind_some, Option.bind_none]
    exact hret _ rfl
  · try simp -implicitDefEqProofs only [W_bind, W_ok, W_bad, W_ex, W_noEx, W_ite, W_some, W_none, W_chk, W_map, W_obind, W_run, runK_nx, runK_rt, onBody, sNil, W_seq, seqK_nx, seqK_rt, seqK_bk, seqK_ct, sBk, sCt, sExpr, sRet, sRetN, sIf, sSet, sAsg, sPar2, sFor, sDel, eVar, eC, eBin, eUn, eT, boolOf, W_chain, thenB_ok, thenB_b, ok_bind, ofO_some, and_ok, or_ok, and_okD, or_okD, TL.tAnd, TL.tOr, TL.tNot, tTrue, eAnd, eOr, eNot, eIf, aNil, aCons, eTup, eFz, eNew, eFrz, frzD, nLst, nCall, eCall, eCallF, eSl, oNone, oSome, nComp, nCompK, nCat, catO_ll, catO_last, gAdd_last, gAppend_last, isTy_last, size_lt, mergeD_1, nEmpty, nDisp, pNil, pCons, iVal, iRange1, iRange2, iEnumF, iZipF, iItemsF, kRange1, kRange2, kEnum, kZip, kItems, cellD, eMeth, startD, tgSet, tgSets, wipeD, List.map_cons, List.map_nil, List.length_cons, List.length_nil, List.replicate_succ, List.replicate_zero, List.cons_append, List.nil_append, List.append_nil, List.getElem?_cons_zero, List.getElem?_cons_succ, List.getElem?_nil, List.set_cons_zero, List.set_cons_succ, List.set_nil, Nat.reduceAdd, Nat.reduceSub, Nat.reduceEqDiff, if_true, ite_true, if_false, ite_false, Nat.zero_add, gAdd_ii, gAdd_ss, gAdd_tt, gAdd_ll, gSub_ii, gMul_ii, gMul_si, gMul_li, gDiv_ii, gMod_ii, gPow_ii, gNeg_i, gLt_ii, gLe_ii, gGt_ii, gGe_ii, gIs_n, gIsNot_n, gIs_b, gIsNot_b, gAbs_i, gMax2_ii, gMin2_ii, gLen_s, gLen_l, gLen_t, gLen_d, gLen_r, gIx_l, gIx_t, gIx_d, gIx_r, gList_d, gList_l, gList_t, gDict_d, gTuple_t, gTuple_l, atI_0, atI_1, atI_2, atI_3, keyOf, W_sub, W_must, mulOk_r, mulOk_l, size_lit, some_ex, decide_eq_true_eq, decide_true, decide_false, Bool.and_eq_true, Bool.true_and, Bool.and_true, Bool.and_self, Bool.not_true, Bool.not_false, true_and, and_true, true_implies, Bool.false_eq_true, false_implies, not_false_eq_true, not_true_eq_false, Int.reduceLT, Int.reduceLE, Int.reducePow, Int.reduceToNat, Int.reduceNeg, Int.reduceAdd, Int.reduceSub, Int.reduceMul, Nat.reduceLT, Nat.reduceLeDiff, Nat.reducePow, decide_eq_false_iff_not, Option.map_some, Option.map_none, Option.bind_some, Option.bind_none]
    refine ext_w ?_
    try simp -implicitDefEqProofs only [W_bind, W_ok, W_bad, W_ex, W_noEx, W_ite, W_some, W_none, W_chk, W_map, W_obind, W_run, runK_nx, runK_rt, onBody, sNil, W_seq, seqK_nx, seqK_rt, seqK_bk, seqK_ct, sBk, sCt, sExpr, sRet, sRetN, sIf, sSet, sAsg, sPar2, sFor, sDel, eVar, eC, eBin, eUn, eT, boolOf, W_chain, thenB_ok, thenB_b, ok_bind, ofO_some, and_ok, or_ok, and_okD, or_okD, TL.tAnd, TL.tOr, TL.tNot, tTrue, eAnd, eOr, eNot, eIf, aNil, aCons, eTup, eFz, eNew, eFrz, frzD, nLst, nCall, eCall, eCallF, eSl, oNone, oSome, nComp, nCompK, nCat, catO_ll, catO_last, gAdd_last, gAppend_last, isTy_last, size_lt, mergeD_1, nEmpty, nDisp, pNil, pCons, iVal, iRange1, iRange2, iEnumF, iZipF, iItemsF, kRange1, kRange2, kEnum, kZip, kItems, cellD, eMeth, startD, tgSet, tgSets, wipeD, List.map_cons, List.map_nil, List.length_cons, List.length_nil, List.replicate_succ, List.replicate_zero, List.cons_append, List.nil_append, List.append_nil, List.getElem?_cons_zero, List.getElem?_cons_succ, List.getElem?_nil, List.set_cons_zero, List.set_cons_succ, List.set_nil, Nat.reduceAdd, Nat.reduceSub, Nat.reduceEqDiff, if_true, ite_true, if_false, ite_false, Nat.zero_add, gAdd_ii, gAdd_ss, gAdd_tt, gAdd_ll, gSub_ii, gMul_ii, gMul_si, gMul_li, gDiv_ii, gMod_ii, gPow_ii, gNeg_i, gLt_ii, gLe_ii, gGt_ii, gGe_ii, gIs_n, gIsNot_n, gIs_b, gIsNot_b, gAbs_i, gMax2_ii, gMin2_ii, gLen_s, gLen_l, gLen_t, gLen_d, gLen_r, gIx_l, gIx_t, gIx_d, gIx_r, gList_d, gList_l, gList_t, gDict_d, gTuple_t, gTuple_l, atI_0, atI_1, atI_2, atI_3, keyOf, W_sub, W_must, mulOk_r, mulOk_l, size_lit, some_ex, decide_eq_true_eq, decide_true, decide_false, Bool.and_eq_true, Bool.true_and, Bool.and_true, Bool.and_self, Bool.not_true, Bool.not_false, true_and, and_true, true_implies, Bool.false_eq_true, false_implies, not_false_eq_true, not_true_eq_false, Int.reduceLT, Int.reduceLE, Int.reducePow, Int.reduceToNat, Int.reduceNeg, Int.reduceAdd, Int.reduceSub, Int.reduceMul, Nat.reduceLT, Nat.reduceLeDiff, Nat.reducePow, decide_eq_false_iff_not, Option.map_some, Option.map_none, Option.bind_some, Option.bind_none]
    exact hret _ rfl
theorem lawext_w {g h : Lg} {μ : Mu} {P : D → Mu → Prop} (k : P (.bool (isExt g h)) μ) : W (c__law_is_extension [g.d, h.d] μ) P := by
  have hret : ∀ x, x = isExt g h → W (retV μ μ (.bool x)) P := fun b hb => W_ret0 rfl (hb ▸ k)
  have i0 : ∀ ν (g : Lg), gIx ν g.d (.int 0) = some (linesD g.en) := fun ν g => rfl
  have i1 : ∀ ν (g : Lg), gIx ν g.d (.int 1) = some (linesD g.ex) := fun ν g => rfl
  have i2 : ∀ ν (g : Lg), gIx ν g.d (.int 2) = some (flD g.f0) := fun ν g => rfl
  have i3 : ∀ ν (g : Lg), gIx ν g.d (.int 3) = some (flD g.f1) := fun ν g => rfl
  unfold isExt at hret
  unfold c__law_is_extension b__law_is_extension
  simp -implicitDefEqProofs only [i0, i1, i2, i3, W_bind, W_ok, W_bad, W_ex, W_noEx, W_ite, W_some, W_none, W_chk, W_map, W_obind, W_run, runK_nx, runK_rt, onBody, sNil, W_seq, seqK_nx, seqK_rt, seqK_bk, seqK_ct, sBk, sCt, sExpr, sRet, sRetN, sIf, sSet, sAsg, sPar2, sFor, sDel, eVar, eC, eBin, eUn, eT, boolOf, W_chain, thenB_ok, thenB_b, ok_bind, ofO_some, and_ok, or_ok, and_okD, or_okD, TL.tAnd, TL.tOr, TL.tNot, tTrue, eAnd, eOr, eNot, eIf, aNil, aCons, eTup, eFz, eNew, eFrz, frzD, nLst, nCall, eCall, eCallF, eSl, oNone, oSome, nComp, nCompK, nCat, catO_ll, catO_last, gAdd_last, gAppend_last, isTy_last, size_lt, mergeD_1, nEmpty, nDisp, pNil, pCons, iVal, iRange1, iRange2, iEnumF, iZipF, iItemsF, kRange1, kRange2, kEnum, kZip, kItems, cellD, eMeth, startD, tgSet, tgSets, wipeD, List.map_cons, List.map_nil, List.length_cons, List.length_nil, List.replicate_succ, List.replicate_zero, List.cons_append, List.nil_append, List.append_nil, List.getElem?_cons_zero, List.getElem?_cons_succ, List.getElem?_nil, List.set_cons_zero, List.set_cons_succ, List.set_nil, Nat.reduceAdd, Nat.reduceSub, Nat.reduceEqDiff, if_true, ite_true, if_false, ite_false, Nat.zero_add, gAdd_ii, gAdd_ss, gAdd_tt, gAdd_ll, gSub_ii, gMul_ii, gMul_si, gMul_li, gDiv_ii, gMod_ii, gPow_ii, gNeg_i, gLt_ii, gLe_ii, gGt_ii, gGe_ii, gIs_n, gIsNot_n, gIs_b, gIsNot_b, gAbs_i, gMax2_ii, gMin2_ii, gLen_s, gLen_l, gLen_t, gLen_d, gLen_r, gIx_l, gIx_t, gIx_d, gIx_r, gList_d, gList_l, gList_t, gDict_d, gTuple_t, gTuple_l, atI_0, atI_1, atI_2, atI_3, keyOf, W_sub, W_must, mulOk_r, mulOk_l, size_lit, some_ex, decide_eq_true_eq, decide_true, decide_false, Bool.and_eq_true, Bool.true_and, Bool.and_true, Bool.and_self, Bool.not_true, Bool.not_false, true_and, and_true, true_implies, Bool.false_eq_true, false_implies, not_false_eq_true, not_true_eq_false, Int.reduceLT, Int.reduceLE, Int.reducePow, Int.reduceToNat, Int.reduceNeg, Int.reduceAdd, Int.reduceSub, Int.reduceMul, Nat.reduceLT, Nat.reduceLeDiff, Nat.reducePow, decide_eq_false_iff_not, Option.map_some, Option.map_none, Option.bind_some, Option.bind_none]
  refine right_w ?_
  generalize extB g.en h.en g.f0 h.f0 = A at hret
  cases A
  · try simp -implicitDefEqProofs only [W_bind, W_ok, W_bad, W_ex, W_noEx, W_ite, W_some, W_none, W_chk, W_map, W_obind, W_run, runK_nx, runK_rt, onBody, sNil, W_seq, seqK_nx, seqK_rt, seqK_bk, seqK_ct, sBk, sCt, sExpr, sRet, sRetN, sIf, sSet, sAsg, sPar2, sFor, sDel, eVar, eC, eBin, eUn, eT, boolOf, W_chain, thenB_ok, thenB_b, ok_bind, ofO_some, and_ok, or_ok, and_okD, or_okD, TL.tAnd, TL.tOr, TL.tNot, tTrue, eAnd, eOr, eNot, eIf, aNil, aCons, eTup, eFz, eNew, eFrz, frzD, nLst, nCall, eCall, eCallF, eSl, oNone, oSome, nComp, nCompK, nCat, catO_ll, catO_last, gAdd_last, gAppend_last, isTy_last, size_lt, mergeD_1, nEmpty, nDisp, pNil, pCons, iVal, iRange1, iRange2, iEnumF, iZipF, iItemsF, kRange1, kRange2, kEnum, kZip, kItems, cellD, eMeth, startD, tgSet, tgSets, wipeD, List.map_cons, List.map_nil, List.length_cons, List.length_nil, List.replicate_succ, List.replicate_zero, List.cons_append, List.nil_append, List.append_nil, List.getElem?_cons_zero, List.getElem?_cons_succ, List.getElem?_nil, List.set_cons_zero, List.set_cons_succ, List.set_nil, Nat.reduceAdd, Nat.reduceSub, Nat.reduceEqDiff, if_true, ite_true, if_false, ite_false, Nat.zero_add, gAdd_ii, gAdd_ss, gAdd_tt, gAdd_ll, gSub_ii, gMul_ii, gMul_si, gMul_li, gDiv_ii, gMod_ii, gPow_ii, gNeg_i, gLt_ii, gLe_ii, gGt_ii, gGe_ii, gIs_n, gIsNot_n, gIs_b, gIsNot_b, gAbs_i, gMax2_ii, gMin2_ii, gLen_s, gLen_l, gLen_t, gLen_d, gLen_r, gIx_l, gIx_t, gIx_d, gIx_r, gList_d, gList_l, gList_t, gDict_d, gTuple_t, gTuple_l, atI_0, atI_1, atI_2, atI_3, keyOf, W_sub, W_must, mulOk_r, mulOk_l, size_lit, some_ex, decide_eq_true_eq, decide_true, decide_false, Bool.and_eq_true, Bool.true_and, Bool.and_true, Bool.and_self, Bool.not_true, Bool.not_false, true_and, and_true, true_implies, Bool.false_eq_true, false_implies, not_false_eq_true, not_true_eq_false, Int.reduceLT, Int.reduceLE, Int.reducePow, Int.reduceToNat, Int.reduceNeg, Int.reduceAdd, Int.reduceSub, Int.reduceMul, Nat.reduceLT, Nat.reduceLeDiff, Nat.reducePow, decide_eq_false_iff_not, Option.map_some, Option.map_none, Option.bind_some, Option.bind_none]
    exact hret _ rfl
  · try simp -implicitDefEqProofs only [W_bind, W_ok, W_bad, W_ex, W_noEx, W_ite, W_some, W_none, W_chk, W_map, W_obind, W_run, runK_nx, runK_rt, onBody, sNil, W_seq, seqK_nx, seqK_rt, seqK_bk, seqK_ct, sBk, sCt, sExpr, sRet, sRetN, sIf, sSet, sAsg, sPar2, sFor, sDel, eVar, eC, eBin, eUn, eT, boolOf, W_chain, thenB_ok, thenB_b, ok_bind, ofO_some, and_ok, or_ok, and_okD, or_okD, TL.tAnd, TL.tOr, TL.tNot, tTrue, eAnd, eOr, eNot, eIf, aNil, aCons, eTup, eFz, eNew, eFrz, frzD, nLst, nCall, eCall, eCallF, eSl, oNone, oSome, nComp, nCompK, nCat, catO_ll, catO_last, gAdd_last, gAppend_last, isTy_last, size_lt, mergeD_1, nEmpty, nDisp, pNil, pCons, iVal, iRange1, iRange2, iEnumF, iZipF, iItemsF, kRange1, kRange2, kEnum, kZip, kItems, cellD, eMeth, startD, tgSet, tgSets, wipeD, List.map_cons, List.map_nil, List.length_cons, List.length_nil, List.replicate_succ, List.replicate_zero, List.cons_append, List.nil_append, List.append_nil, List.getElem?_cons_zero, List.getElem?_cons_succ, List.getElem?_nil, List.set_cons_zero, List.set_cons_succ, List.set_nil, Nat.reduceAdd, Nat.reduceSub, Nat.reduceEqDiff, if_true, ite_true, if_false, ite_false, Nat.zero_add, gAdd_ii, gAdd_ss, gAdd_tt, gAdd_ll, gSub_ii, gMul_ii, gMul_si, gMul_li, gDiv_ii, gMod_ii, gPow_ii, gNeg_i, gLt_ii, gLe_ii, gGt_ii, gGe_ii, gIs_n, gIsNot_n, gIs_b, gIsNot_b, gAbs_i, gMax2_ii, gMin2_ii, gLen_s, gLen_l, gLen_t, gLen_d, gLen_r, gIx_l, gIx_t, gIx_d, gIx_r, gList_d, gList_l, gList_t, gDict_d, gTuple_t, gTuple_l, atI_0, atI_1, atI_2, atI_3, keyOf, W_sub, W_must, mulOk_r, mulOk_l, size_lit, some_ex, decide_eq_true_eq, decide_true, decide_false, Bool.and_eq_true, Bool.true_and, Bool.and_true, Bool.and_self, Bool.not_true, Bool.not_false, true_and, and_true, true_implies, Bool.false_eq_true, false_implies, not_false_eq_true, not_true_eq_false, Int.reduceLT, Int.reduceLE, Int.reducePow, Int.reduceToNat, Int.reduceNeg, Int.reduceAdd, Int.reduceSub, Int.reduceMul, Nat.reduceLT, Nat.reduceLeDiff, Nat.reducePow, decide_eq_false_iff_not, Option.map_some, Option.map_none, Option.bind_some, Option.bind_none]
    refine right_w ?_
    try simp -implicitDefEqProofs only [W_bind, W_ok, W_bad, W_ex, W_noEx, W_ite, W_some, W_none, W_chk, W_map, W_obind, W_run, runK_nx, runK_rt, onBody, sNil, W_seq, seqK_nx, seqK_rt, seqK_bk, seqK_ct, sBk, sCt, sExpr, sRet, sRetN, sIf, sSet, sAsg, sPar2, sFor, sDel, eVar, eC, eBin, eUn, eT, boolOf, W_chain, thenB_ok, thenB_b, ok_bind, ofO_some, and_ok, or_ok, and_okD, or_okD, TL.tAnd, TL.tOr, TL.tNot, tTrue, eAnd, eOr, eNot, eIf, aNil, aCons, eTup, eFz, eNew, eFrz, frzD, nLst, nCall, eCall, eCallF, eSl, oNone, oSome, nComp, nCompK, nCat, catO_ll, catO_last, gAdd_last, gAppend_last, isTy_last, size_lt, mergeD_1, nEmpty, nDisp, pNil, pCons, iVal, iRange1, iRange2, iEnumF, iZipF, iItemsF, kRange1, kRange2, kEnum, kZip, kItems, cellD, eMeth, startD, tgSet, tgSets, wipeD, List.map_cons, List.map_nil, List.length_cons, List.length_nil, List.replicate_succ, List.replicate_zero, List.cons_append, List.nil_append, List.append_nil, List.getElem?_cons_zero, List.getElem?_cons_succ, List.getElem?_nil, List.set_cons_zero, List.set_cons_succ, List.set_nil, Nat.reduceAdd, Nat.reduceSub, Nat.reduceEqDiff, if_true, ite_true, if_false, ite_false, Nat.zero_add, gAdd_ii, gAdd_ss, gAdd_tt, gAdd_ll, gSub_ii, gMul_ii, gMul_si, gMul_li, gDiv_ii, gMod_ii, gPow_ii, gNeg_i, gLt_ii, gLe_ii, gGt_ii, gGe_ii, gIs_n, gIsNot_n, gIs_b, gIsNot_b, gAbs_i, gMax2_ii, gMin2_ii, gLen_s, gLen_l, gLen_t, gLen_d, gLen_r, gIx_l, gIx_t, gIx_d, gIx_r, gList_d, gList_l, gList_t, gDict_d, gTuple_t, gTuple_l, atI_0, atI_1, atI_2, atI_3, keyOf, W_sub, W_must, mulOk_r, mulOk_l, size_lit, some_ex, decide_eq_true_eq, decide_true, decide_false, Bool.and_eq_true, Bool.true_and, Bool.and_true, Bool.and_self, Bool.not_true, Bool.not_false, true_and, and_true, true_implies, Bool.false_eq_true, false_implies, not_false_eq_true, not_true_eq_false, Int.reduceLT, Int.reduceLE, Int.reducePow, Int.reduceToNat, Int.reduceNeg, Int.reduceAdd, Int.reduceSub, Int.reduceMul, Nat.reduceLT, Nat.reduceLeDiff, Nat.reducePow, decide_eq_false_iff_not, Option.map_some, Option.map_none, Option.bind_some, Option.bind_none]
    exact hret _ rfl
theorem ext_self (a : List Ln) (f : Option Int) : extB a a f f = true := by
  unfold extB extT topB
  cases f <;> simp
theorem ext_trans {a b c : List Ln} {f g h : Option Int} (h1 : extB a b f g = true) (h2 : extB b c g h = true) : extB a c f h = true := by
  unfold extB extT topB at *
  simp only [Bool.and_eq_true, decide_eq_true_eq] at h1 h2 ⊢
  obtain ⟨p1, q1⟩ := h1
  obtain ⟨p2, q2⟩ := h2
  obtain ⟨x, rfl⟩ : ∃ x, b = a ++ x := ⟨b.drop a.length, by conv => lhs; rw [← List.take_append_drop a.length b, p1]⟩
  obtain ⟨y, rfl⟩ : ∃ y, c = a ++ x ++ y := ⟨c.drop (a ++ x).length, by conv => lhs; rw [← List.take_append_drop (a ++ x).length c, p2]⟩
  rw [List.drop_left] at q1 q2
  have e1 : (a ++ x ++ y).take a.length = a := by rw [List.append_assoc, List.take_left]
  have e2 : (a ++ x ++ y).drop a.length = x ++ y := by rw [List.append_assoc, List.drop_left]
  refine ⟨e1, ?_⟩
  rw [e2]
  cases f with
  | none =>
    simp only [Bool.and_eq_true, decide_eq_true_eq] at q1 ⊢
    obtain ⟨rfl, rfl⟩ := q1
    simpa using q2
  | some f =>
    simp only [Bool.and_eq_true, List.all_eq_true, decide_eq_true_eq] at q1 ⊢
    obtain ⟨q3, q4⟩ := q1
    cases g with
    | none =>
      simp only [Bool.and_eq_true, decide_eq_true_eq] at q2
      obtain ⟨rfl, rfl⟩ := q2
      simpa using q3
    | some g =>
      simp only [Bool.and_eq_true, List.all_eq_true, decide_eq_true_eq] at q2 q4
      obtain ⟨q5, q6⟩ := q2
      refine ⟨fun l hl => ?_, ?_⟩
      · rcases List.mem_append.mp hl with hl | hl
        · exact q3 l hl
        · have := q5 l hl; omega
      · cases h with
        | none => rfl
        | some h => simp only [decide_eq_true_eq] at q6 ⊢; omega
theorem isExt_trans {a b c : Lg} (h1 : isExt a b = true) (h2 : isExt b c = true) : isExt a c = true := by
  unfold isExt at *
  simp only [Bool.and_eq_true] at *
  exact ⟨ext_trans h1.1 h2.1, ext_trans h1.2 h2.2⟩

/-! ### changed logs (k45) -/
def FlO (f : Option Int) : Prop := ∀ i, f = some i → 0 ≤ i ∧ i ≤ 1000000000
theorem flO_some {z : Int} (a : 0 ≤ z) (b : z ≤ 1000000000) : FlO (some z) := fun i e => by cases e; exact ⟨a, b⟩
theorem flO_none : FlO none := fun i e => nomatch e
theorem ln_z9 {l : Ln} (h : LnS l) : LnS ⟨l.t, none, some "Z9"⟩ := ⟨h.t0, h.t1, fun s e => (nomatch e), fun s e => by cases e; exact ⟨by decide +kernel, by decide +kernel, by decide +kernel⟩⟩
theorem oturn_w {n a : Nat} {start : Int} {xs : List Ln} {p1 p2 o5 o6 o7 o8 : Option D} {ν : Mu} {Q : TL.Flow → Mu → Prop} (hf : FeedAt n ν) (s0 : 0 ≤ start) (s1 : start ≤ 1000000000) (ha : a = ν.length) (hx : xs.length ≤ 200)
    (h : ∀ (l : Ln) o8 ν', Dr n ν ν' → LnS l → Q (.nx [some (.loc n), p1, p2, some (.loc a), some (.int start), o5, o6, o7, o8]) (ν' ++ [some (.list ((xs ++ [l]).map Ln.d))])) :
    W (b__law_other_gate_1 [some (.loc n), p1, p2, some (.loc a), some (.int start), o5, o6, o7, o8] (ν ++ [some (.list (xs.map Ln.d))])) Q := by
  unfold b__law_other_gate_1
  try simp -implicitDefEqProofs only [W_bind, W_ok, W_bad, W_ex, W_noEx, W_ite, W_some, W_none, W_chk, W_map, W_obind, W_run, runK_nx, runK_rt, onBody, sNil, W_seq, seqK_nx, seqK_rt, seqK_bk, seqK_ct, sBk, sCt, sExpr, sRet, sRetN, sIf, sSet, sAsg, sPar2, sFor, sDel, eVar, eC, eBin, eUn, eT, boolOf, W_chain, thenB_ok, thenB_b, ok_bind, ofO_some, and_ok, or_ok, and_okD, or_okD, TL.tAnd, TL.tOr, TL.tNot, tTrue, eAnd, eOr, eNot, eIf, aNil, aCons, eTup, eFz, eNew, eFrz, frzD, nLst, nCall, eCall, eCallF, eSl, oNone, oSome, nComp, nCompK, nCat, catO_ll, catO_last, gAdd_last, gAppend_last, isTy_last, size_lt, mergeD_1, nEmpty, nDisp, pNil, pCons, iVal, iRange1, iRange2, iEnumF, iZipF, iItemsF, kRange1, kRange2, kEnum, kZip, kItems, cellD, eMeth, startD, tgSet, tgSets, wipeD, List.map_cons, List.map_nil, List.length_cons, List.length_nil, List.replicate_succ, List.replicate_zero, List.cons_append, List.nil_append, List.append_nil, List.getElem?_cons_zero, List.getElem?_cons_succ, List.getElem?_nil, List.set_cons_zero, List.set_cons_succ, List.set_nil, Nat.reduceAdd, Nat.reduceSub, Nat.reduceEqDiff, if_true, ite_true, if_false, ite_false, Nat.zero_add, gAdd_ii, gAdd_ss, gAdd_tt, gAdd_ll, gSub_ii, gMul_ii, gMul_si, gMul_li, gDiv_ii, gMod_ii, gPow_ii, gNeg_i, gLt_ii, gLe_ii, gGt_ii, gGe_ii, gIs_n, gIsNot_n, gIs_b, gIsNot_b, gAbs_i, gMax2_ii, gMin2_ii, gLen_s, gLen_l, gLen_t, gLen_d, gLen_r, gIx_l, gIx_t, gIx_d, gIx_r, gList_d, gList_l, gList_t, gDict_d, gTuple_t, gTuple_l, atI_0, atI_1, atI_2, atI_3, keyOf, W_sub, W_must, mulOk_r, mulOk_l, size_lit, some_ex, decide_eq_true_eq, decide_true, decide_false, Bool.and_eq_true, Bool.true_and, Bool.and_true, Bool.and_self, Bool.not_true, Bool.not_false, true_and, and_true, true_implies, Bool.false_eq_true, false_implies, not_false_eq_true, not_true_eq_false, Int.reduceLT, Int.reduceLE, Int.reducePow, Int.reduceToNat, Int.reduceNeg, Int.reduceAdd, Int.reduceSub, Int.reduceMul, Nat.reduceLT, Nat.reduceLeDiff, Nat.reducePow, decide_eq_false_iff_not, Option.map_some, Option.map_none, Option.bind_some, Option.bind_none]
  refine pick_w (hf.app _) (by simp) (by simp) rfl fun q μ1 hq d1 => ?_
  obtain ⟨ν1, rfl, e1⟩ := d1.snoc hf.lt
  obtain ⟨q, rfl⟩ : ∃ z : Int, q = .int z := by
    simp only [List.mem_cons, List.not_mem_nil, or_false] at hq
    rcases hq with rfl | rfl | rfl | rfl | rfl <;> exact ⟨_, rfl⟩
  have ha1 : a = ν1.length := by rw [e1.len]; exact ha
  have it : isTy (ν1 ++ [some (.list (xs.map Ln.d))]) "list" (.loc a) = true := isTy_list (xs := xs.map Ln.d) (get_last ha1)
  simp -implicitDefEqProofs only [it, W_bind, W_ok, W_bad, W_ex, W_noEx, W_ite, W_some, W_none, W_chk, W_map, W_obind, W_run, runK_nx, runK_rt, onBody, sNil, W_seq, seqK_nx, seqK_rt, seqK_bk, seqK_ct, sBk, sCt, sExpr, sRet, sRetN, sIf, sSet, sAsg, sPar2, sFor, sDel, eVar, eC, eBin, eUn, eT, boolOf, W_chain, thenB_ok, thenB_b, ok_bind, ofO_some, and_ok, or_ok, and_okD, or_okD, TL.tAnd, TL.tOr, TL.tNot, tTrue, eAnd, eOr, eNot, eIf, aNil, aCons, eTup, eFz, eNew, eFrz, frzD, nLst, nCall, eCall, eCallF, eSl, oNone, oSome, nComp, nCompK, nCat, catO_ll, catO_last, gAdd_last, gAppend_last, isTy_last, size_lt, mergeD_1, nEmpty, nDisp, pNil, pCons, iVal, iRange1, iRange2, iEnumF, iZipF, iItemsF, kRange1, kRange2, kEnum, kZip, kItems, cellD, eMeth, startD, tgSet, tgSets, wipeD, List.map_cons, List.map_nil, List.length_cons, List.length_nil, List.replicate_succ, List.replicate_zero, List.cons_append, List.nil_append, List.append_nil, List.getElem?_cons_zero, List.getElem?_cons_succ, List.getElem?_nil, List.set_cons_zero, List.set_cons_succ, List.set_nil, Nat.reduceAdd, Nat.reduceSub, Nat.reduceEqDiff, if_true, ite_true, if_false, ite_false, Nat.zero_add, gAdd_ii, gAdd_ss, gAdd_tt, gAdd_ll, gSub_ii, gMul_ii, gMul_si, gMul_li, gDiv_ii, gMod_ii, gPow_ii, gNeg_i, gLt_ii, gLe_ii, gGt_ii, gGe_ii, gIs_n, gIsNot_n, gIs_b, gIsNot_b, gAbs_i, gMax2_ii, gMin2_ii, gLen_s, gLen_l, gLen_t, gLen_d, gLen_r, gIx_l, gIx_t, gIx_d, gIx_r, gList_d, gList_l, gList_t, gDict_d, gTuple_t, gTuple_l, atI_0, atI_1, atI_2, atI_3, keyOf, W_sub, W_must, mulOk_r, mulOk_l, size_lit, some_ex, decide_eq_true_eq, decide_true, decide_false, Bool.and_eq_true, Bool.true_and, Bool.and_true, Bool.and_self, Bool.not_true, Bool.not_false, true_and, and_true, true_implies, Bool.false_eq_true, false_implies, not_false_eq_true, not_true_eq_false, Int.reduceLT, Int.reduceLE, Int.reducePow, Int.reduceToNat, Int.reduceNeg, Int.reduceAdd, Int.reduceSub, Int.reduceMul, Nat.reduceLT, Nat.reduceLeDiff, Nat.reducePow, decide_eq_false_iff_not, Option.map_some, Option.map_none, Option.bind_some, Option.bind_none]
  refine plate_w ((e1.at hf).app _) fun p μ2 hp d2 => ?_
  obtain ⟨ν2, rfl, e2⟩ := d2.snoc (e1.at hf).lt
  have e12 := e1.trans e2
  have ha2 : a = ν2.length := by rw [e12.len]; exact ha
  obtain ⟨t, ht⟩ : ∃ t : Int, (if (if start + q > 0 then start + q else 0) < 1000000000 then (if start + q > 0 then start + q else 0) else 1000000000) = t := ⟨_, rfl⟩
  have tb : 0 ≤ t ∧ t ≤ 1000000000 := by rw [← ht]; split <;> split <;> omega
  rw [ht]
  have ap : ∀ z, gAppend (ν2 ++ [some (.list (xs.map Ln.d))]) (.loc a) [z] = some (.none, ν2 ++ [some (.list (xs.map Ln.d ++ [z]))]) := fun z => by
    rw [gAppend_c (xs := xs.map Ln.d) (get_last ha2) (by rw [List.length_map]; exact Nat.lt_of_le_of_lt hx (by decide)), set_last ha2]
  simp -implicitDefEqProofs only [ap, W_bind, W_ok, W_bad, W_ex, W_noEx, W_ite, W_some, W_none, W_chk, W_map, W_obind, W_run, runK_nx, runK_rt, onBody, sNil, W_seq, seqK_nx, seqK_rt, seqK_bk, seqK_ct, sBk, sCt, sExpr, sRet, sRetN, sIf, sSet, sAsg, sPar2, sFor, sDel, eVar, eC, eBin, eUn, eT, boolOf, W_chain, thenB_ok, thenB_b, ok_bind, ofO_some, and_ok, or_ok, and_okD, or_okD, TL.tAnd, TL.tOr, TL.tNot, tTrue, eAnd, eOr, eNot, eIf, aNil, aCons, eTup, eFz, eNew, eFrz, frzD, nLst, nCall, eCall, eCallF, eSl, oNone, oSome, nComp, nCompK, nCat, catO_ll, catO_last, gAdd_last, gAppend_last, isTy_last, size_lt, mergeD_1, nEmpty, nDisp, pNil, pCons, iVal, iRange1, iRange2, iEnumF, iZipF, iItemsF, kRange1, kRange2, kEnum, kZip, kItems, cellD, eMeth, startD, tgSet, tgSets, wipeD, List.map_cons, List.map_nil, List.length_cons, List.length_nil, List.replicate_succ, List.replicate_zero, List.cons_append, List.nil_append, List.append_nil, List.getElem?_cons_zero, List.getElem?_cons_succ, List.getElem?_nil, List.set_cons_zero, List.set_cons_succ, List.set_nil, Nat.reduceAdd, Nat.reduceSub, Nat.reduceEqDiff, if_true, ite_true, if_false, ite_false, Nat.zero_add, gAdd_ii, gAdd_ss, gAdd_tt, gAdd_ll, gSub_ii, gMul_ii, gMul_si, gMul_li, gDiv_ii, gMod_ii, gPow_ii, gNeg_i, gLt_ii, gLe_ii, gGt_ii, gGe_ii, gIs_n, gIsNot_n, gIs_b, gIsNot_b, gAbs_i, gMax2_ii, gMin2_ii, gLen_s, gLen_l, gLen_t, gLen_d, gLen_r, gIx_l, gIx_t, gIx_d, gIx_r, gList_d, gList_l, gList_t, gDict_d, gTuple_t, gTuple_l, atI_0, atI_1, atI_2, atI_3, keyOf, W_sub, W_must, mulOk_r, mulOk_l, size_lit, some_ex, decide_eq_true_eq, decide_true, decide_false, Bool.and_eq_true, Bool.true_and, Bool.and_true, Bool.and_self, Bool.not_true, Bool.not_false, true_and, and_true, true_implies, Bool.false_eq_true, false_implies, not_false_eq_true, not_true_eq_false, Int.reduceLT, Int.reduceLE, Int.reducePow, Int.reduceToNat, Int.reduceNeg, Int.reduceAdd, Int.reduceSub, Int.reduceMul, Nat.reduceLT, Nat.reduceLeDiff, Nat.reducePow, decide_eq_false_iff_not, Option.map_some, Option.map_none, Option.bind_some, Option.bind_none]
  have e : xs.map Ln.d ++ [D.tuple [.int t, .none, optD p]] = (xs ++ [(⟨t, none, p⟩ : Ln)]).map Ln.d := by simp [Ln.d, optD]
  rw [e]
  exact h ⟨t, none, p⟩ _ ν2 e12 ⟨tb.1, by show t ≤ 2000000000; omega, fun s e => (nomatch e), hp⟩
theorem ogate_w {n : Nat} {ls : List Ln} {f : Option Int} {μ : Mu} {P : D → Mu → Prop} (hf : FeedAt n μ) (hls : ∀ l ∈ ls, LnS l) (hll : ls.length ≤ 100) (hfo : FlO f)
    (h : ∀ (ls2 : List Ln) (f2 : Option Int) (μ' : Mu), (∀ l ∈ ls2, LnS l) → ls2.length ≤ ls.length + 3 → FlO f2 → Dr n μ μ' → P (.tuple [linesD ls2, flD f2]) μ') : W (c__law_other_gate [.loc n, linesD ls, flD f] μ) P := by
  obtain ⟨start, hs7, hsf, s0, s1⟩ : ∃ s : Int, (f = none → (7 : Int) = s) ∧ (¬ f = none → flD f = .int s) ∧ 0 ≤ s ∧ s ≤ 1000000000 := by
    cases f with
    | none => exact ⟨7, fun _ => rfl, fun h => absurd rfl h, by decide, by decide⟩
    | some f =>
      have := hfo f rfl
      exact ⟨f, fun h => (nomatch h), fun _ => rfl, this.1, this.2⟩
  unfold c__law_other_gate b__law_other_gate
  rw [W_run]
  generalize hT4 : sSeq (sSet 7 _) _ = T4
  generalize hT3 : sSeq (sIf (TL.tAnd _ _) _ sNil) T4 = T3
  generalize hT2 : sSeq (sIf (eT (eBin gEq (eVar 6) (eC (.int 2)))) _ sNil) T3 = T2
  generalize hT1 : sSeq (sIf (eT (eBin gEq (eVar 6) (eC (.int 1)))) _ sNil) T2 = T1
  generalize hT0 : sSeq (sIf (eT (eBin gEq (eVar 6) (eC (.int 0)))) _ sNil) T1 = T0
  generalize hTw : sSeq (sSet 6 _) T0 = Tw
  generalize hTf : sSeq (sFor _ _ _) Tw = Tf
  have kend : ∀ (xs : List Ln) (d3 : D) (ν1 ex : Mu) o5 o6 o7 o8, (∀ l ∈ xs, LnS l) → xs.length ≤ ls.length + 3 → Dr n μ ν1 → (d3 = .list (xs.map Ln.d) ∨ ∃ m, d3 = .loc m ∧ μ.length ≤ m ∧ ex[m - μ.length]? = some (some (.list (xs.map Ln.d)))) →
      W (T4 [some (.loc n), some (linesD ls), some (flD f), some d3, some (.int start), o5, o6, o7, o8] (ν1 ++ ex)) (runK μ P) := by
    intro xs d3 ν1 ex o5 o6 o7 o8 hxs hxl d hd3
    rw [← hT4]
    try simp -implicitDefEqProofs only [W_bind, W_ok, W_bad, W_ex, W_noEx, W_ite, W_some, W_none, W_chk, W_map, W_obind, W_run, runK_nx, runK_rt, onBody, sNil, W_seq, seqK_nx, seqK_rt, seqK_bk, seqK_ct, sBk, sCt, sExpr, sRet, sRetN, sIf, sSet, sAsg, sPar2, sFor, sDel, eVar, eC, eBin, eUn, eT, boolOf, W_chain, thenB_ok, thenB_b, ok_bind, ofO_some, and_ok, or_ok, and_okD, or_okD, TL.tAnd, TL.tOr, TL.tNot, tTrue, eAnd, eOr, eNot, eIf, aNil, aCons, eTup, eFz, eNew, eFrz, frzD, nLst, nCall, eCall, eCallF, eSl, oNone, oSome, nComp, nCompK, nCat, catO_ll, catO_last, gAdd_last, gAppend_last, isTy_last, size_lt, mergeD_1, nEmpty, nDisp, pNil, pCons, iVal, iRange1, iRange2, iEnumF, iZipF, iItemsF, kRange1, kRange2, kEnum, kZip, kItems, cellD, eMeth, startD, tgSet, tgSets, wipeD, List.map_cons, List.map_nil, List.length_cons, List.length_nil, List.replicate_succ, List.replicate_zero, List.cons_append, List.nil_append, List.append_nil, List.getElem?_cons_zero, List.getElem?_cons_succ, List.getElem?_nil, List.set_cons_zero, List.set_cons_succ, List.set_nil, Nat.reduceAdd, Nat.reduceSub, Nat.reduceEqDiff, if_true, ite_true, if_false, ite_false, Nat.zero_add, gAdd_ii, gAdd_ss, gAdd_tt, gAdd_ll, gSub_ii, gMul_ii, gMul_si, gMul_li, gDiv_ii, gMod_ii, gPow_ii, gNeg_i, gLt_ii, gLe_ii, gGt_ii, gGe_ii, gIs_n, gIsNot_n, gIs_b, gIsNot_b, gAbs_i, gMax2_ii, gMin2_ii, gLen_s, gLen_l, gLen_t, gLen_d, gLen_r, gIx_l, gIx_t, gIx_d, gIx_r, gList_d, gList_l, gList_t, gDict_d, gTuple_t, gTuple_l, atI_0, atI_1, atI_2, atI_3, keyOf, W_sub, W_must, mulOk_r, mulOk_l, size_lit, some_ex, decide_eq_true_eq, decide_true, decide_false, Bool.and_eq_true, Bool.true_and, Bool.and_true, Bool.and_self, Bool.not_true, Bool.not_false, true_and, and_true, true_implies, Bool.false_eq_true, false_implies, not_false_eq_true, not_true_eq_false, Int.reduceLT, Int.reduceLE, Int.reducePow, Int.reduceToNat, Int.reduceNeg, Int.reduceAdd, Int.reduceSub, Int.reduceMul, Nat.reduceLT, Nat.reduceLeDiff, Nat.reducePow, decide_eq_false_iff_not, Option.map_some, Option.map_none, Option.bind_some, Option.bind_none]
    refine pick_w ((d.at hf).app _) (by simp) (by simp) (by simp [okLocs, okLoc_fl, okLoc]) fun q μ2 hq d2 => ?_
    obtain ⟨ν2, rfl, e2⟩ := d2.snoc (d.at hf).lt
    have d12 := d.trans e2
    obtain ⟨f2, rfl, hf2⟩ : ∃ f2, q = flD f2 ∧ FlO f2 := by
      simp only [List.mem_cons, List.not_mem_nil, or_false] at hq
      rcases hq with rfl | rfl | rfl | rfl | rfl | rfl | rfl
      · exact ⟨f, rfl, hfo⟩
      · exact ⟨f, rfl, hfo⟩
      · exact ⟨f, rfl, hfo⟩
      · exact ⟨none, rfl, flO_none⟩
      · exact ⟨some (if 1000000000 < start + 1 then 1000000000 else start + 1), rfl, flO_some (by split <;> omega) (by split <;> omega)⟩
      · exact ⟨some (if start - 1 > 0 then start - 1 else 0), rfl, flO_some (by split <;> omega) (by split <;> omega)⟩
      · exact ⟨some 0, rfl, flO_some (by decide) (by decide)⟩
    have ret : ∀ ex2 : Mu, W (retV μ (ν2 ++ ex2) (.tuple [.list (xs.map Ln.d), flD f2])) P := fun ex2 => by
      refine W_ret (d12.chk _ _) ?_ ?_
      · have q1 := okLoc_lines (ls := xs) (n := μ.length)
        have q3 := okLoc_fl (f := f2) (n := μ.length)
        unfold linesD at q1
        simp only [okLoc, okLocs, q3] at q1 ⊢
        simp [q1]
      · rw [d12.take]
        exact h xs f2 ν2 hxs hxl hf2 d12
    rcases hd3 with rfl | ⟨m, rfl, hm, hg⟩
    · simp -implicitDefEqProofs only [sFrz, W_bind, W_ok, W_bad, W_ex, W_noEx, W_ite, W_some, W_none, W_chk, W_map, W_obind, W_run, runK_nx, runK_rt, onBody, sNil, W_seq, seqK_nx, seqK_rt, seqK_bk, seqK_ct, sBk, sCt, sExpr, sRet, sRetN, sIf, sSet, sAsg, sPar2, sFor, sDel, eVar, eC, eBin, eUn, eT, boolOf, W_chain, thenB_ok, thenB_b, ok_bind, ofO_some, and_ok, or_ok, and_okD, or_okD, TL.tAnd, TL.tOr, TL.tNot, tTrue, eAnd, eOr, eNot, eIf, aNil, aCons, eTup, eFz, eNew, eFrz, frzD, nLst, nCall, eCall, eCallF, eSl, oNone, oSome, nComp, nCompK, nCat, catO_ll, catO_last, gAdd_last, gAppend_last, isTy_last, size_lt, mergeD_1, nEmpty, nDisp, pNil, pCons, iVal, iRange1, iRange2, iEnumF, iZipF, iItemsF, kRange1, kRange2, kEnum, kZip, kItems, cellD, eMeth, startD, tgSet, tgSets, wipeD, List.map_cons, List.map_nil, List.length_cons, List.length_nil, List.replicate_succ, List.replicate_zero, List.cons_append, List.nil_append, List.append_nil, List.getElem?_cons_zero, List.getElem?_cons_succ, List.getElem?_nil, List.set_cons_zero, List.set_cons_succ, List.set_nil, Nat.reduceAdd, Nat.reduceSub, Nat.reduceEqDiff, if_true, ite_true, if_false, ite_false, Nat.zero_add, gAdd_ii, gAdd_ss, gAdd_tt, gAdd_ll, gSub_ii, gMul_ii, gMul_si, gMul_li, gDiv_ii, gMod_ii, gPow_ii, gNeg_i, gLt_ii, gLe_ii, gGt_ii, gGe_ii, gIs_n, gIsNot_n, gIs_b, gIsNot_b, gAbs_i, gMax2_ii, gMin2_ii, gLen_s, gLen_l, gLen_t, gLen_d, gLen_r, gIx_l, gIx_t, gIx_d, gIx_r, gList_d, gList_l, gList_t, gDict_d, gTuple_t, gTuple_l, atI_0, atI_1, atI_2, atI_3, keyOf, W_sub, W_must, mulOk_r, mulOk_l, size_lit, some_ex, decide_eq_true_eq, decide_true, decide_false, Bool.and_eq_true, Bool.true_and, Bool.and_true, Bool.and_self, Bool.not_true, Bool.not_false, true_and, and_true, true_implies, Bool.false_eq_true, false_implies, not_false_eq_true, not_true_eq_false, Int.reduceLT, Int.reduceLE, Int.reducePow, Int.reduceToNat, Int.reduceNeg, Int.reduceAdd, Int.reduceSub, Int.reduceMul, Nat.reduceLT, Nat.reduceLeDiff, Nat.reducePow, decide_eq_false_iff_not, Option.map_some, Option.map_none, Option.bind_some, Option.bind_none]
      exact ret ex
    · have hm2 : ν2.length ≤ m := by rw [d12.len]; exact hm
      have hg2 : (ν2 ++ ex)[m]? = some (some (.list (xs.map Ln.d))) := by rw [List.getElem?_append_right hm2, d12.len]; exact hg
      have sb : (ν2 ++ ex).set m none = ν2 ++ ex.set (m - ν2.length) none := List.set_append_right m none hm2
      simp -implicitDefEqProofs only [sFrz, hg2, sb, W_bind, W_ok, W_bad, W_ex, W_noEx, W_ite, W_some, W_none, W_chk, W_map, W_obind, W_run, runK_nx, runK_rt, onBody, sNil, W_seq, seqK_nx, seqK_rt, seqK_bk, seqK_ct, sBk, sCt, sExpr, sRet, sRetN, sIf, sSet, sAsg, sPar2, sFor, sDel, eVar, eC, eBin, eUn, eT, boolOf, W_chain, thenB_ok, thenB_b, ok_bind, ofO_some, and_ok, or_ok, and_okD, or_okD, TL.tAnd, TL.tOr, TL.tNot, tTrue, eAnd, eOr, eNot, eIf, aNil, aCons, eTup, eFz, eNew, eFrz, frzD, nLst, nCall, eCall, eCallF, eSl, oNone, oSome, nComp, nCompK, nCat, catO_ll, catO_last, gAdd_last, gAppend_last, isTy_last, size_lt, mergeD_1, nEmpty, nDisp, pNil, pCons, iVal, iRange1, iRange2, iEnumF, iZipF, iItemsF, kRange1, kRange2, kEnum, kZip, kItems, cellD, eMeth, startD, tgSet, tgSets, wipeD, List.map_cons, List.map_nil, List.length_cons, List.length_nil, List.replicate_succ, List.replicate_zero, List.cons_append, List.nil_append, List.append_nil, List.getElem?_cons_zero, List.getElem?_cons_succ, List.getElem?_nil, List.set_cons_zero, List.set_cons_succ, List.set_nil, Nat.reduceAdd, Nat.reduceSub, Nat.reduceEqDiff, if_true, ite_true, if_false, ite_false, Nat.zero_add, gAdd_ii, gAdd_ss, gAdd_tt, gAdd_ll, gSub_ii, gMul_ii, gMul_si, gMul_li, gDiv_ii, gMod_ii, gPow_ii, gNeg_i, gLt_ii, gLe_ii, gGt_ii, gGe_ii, gIs_n, gIsNot_n, gIs_b, gIsNot_b, gAbs_i, gMax2_ii, gMin2_ii, gLen_s, gLen_l, gLen_t, gLen_d, gLen_r, gIx_l, gIx_t, gIx_d, gIx_r, gList_d, gList_l, gList_t, gDict_d, gTuple_t, gTuple_l, atI_0, atI_1, atI_2, atI_3, keyOf, W_sub, W_must, mulOk_r, mulOk_l, size_lit, some_ex, decide_eq_true_eq, decide_true, decide_false, Bool.and_eq_true, Bool.true_and, Bool.and_true, Bool.and_self, Bool.not_true, Bool.not_false, true_and, and_true, true_implies, Bool.false_eq_true, false_implies, not_false_eq_true, not_true_eq_false, Int.reduceLT, Int.reduceLE, Int.reducePow, Int.reduceToNat, Int.reduceNeg, Int.reduceAdd, Int.reduceSub, Int.reduceMul, Nat.reduceLT, Nat.reduceLeDiff, Nat.reducePow, decide_eq_false_iff_not, Option.map_some, Option.map_none, Option.bind_some, Option.bind_none]
      exact ret _
  have k3 : ∀ (xs : List Ln) (m : Nat) (w : Int) (ν1 ex : Mu) o5 o7 o8, (∀ l ∈ xs, LnS l) → xs.length ≤ ls.length + 3 → Dr n μ ν1 → μ.length ≤ m → ex[m - μ.length]? = some (some (.list (xs.map Ln.d))) →
      W (T3 [some (.loc n), some (linesD ls), some (flD f), some (.loc m), some (.int start), o5, some (.int w), o7, o8] (ν1 ++ ex)) (runK μ P) := by
    intro xs m w ν1 ex o5 o7 o8 hxs hxl d hm hg
    have hm2 : ν1.length ≤ m := by rw [d.len]; exact hm
    have hg2 : (ν1 ++ ex)[m]? = some (some (.list (xs.map Ln.d))) := by rw [List.getElem?_append_right hm2, d.len]; exact hg
    have rs : resD (ν1 ++ ex) (.loc m) = .list (xs.map Ln.d) := by simp only [resD, hg2]
    have gn : gNe (ν1 ++ ex) (.loc m) (.list []) = some (.bool (!decide (xs = []))) := by
      have e := gNe_nil (a := xs) (μ := ν1 ++ ex)
      unfold gNe at e ⊢
      rw [rs]
      exact e
    rw [← hT3]
    simp -implicitDefEqProofs only [gEq_ii, gn, W_bind, W_ok, W_bad, W_ex, W_noEx, W_ite, W_some, W_none, W_chk, W_map, W_obind, W_run, runK_nx, runK_rt, onBody, sNil, W_seq, seqK_nx, seqK_rt, seqK_bk, seqK_ct, sBk, sCt, sExpr, sRet, sRetN, sIf, sSet, sAsg, sPar2, sFor, sDel, eVar, eC, eBin, eUn, eT, boolOf, W_chain, thenB_ok, thenB_b, ok_bind, ofO_some, and_ok, or_ok, and_okD, or_okD, TL.tAnd, TL.tOr, TL.tNot, tTrue, eAnd, eOr, eNot, eIf, aNil, aCons, eTup, eFz, eNew, eFrz, frzD, nLst, nCall, eCall, eCallF, eSl, oNone, oSome, nComp, nCompK, nCat, catO_ll, catO_last, gAdd_last, gAppend_last, isTy_last, size_lt, mergeD_1, nEmpty, nDisp, pNil, pCons, iVal, iRange1, iRange2, iEnumF, iZipF, iItemsF, kRange1, kRange2, kEnum, kZip, kItems, cellD, eMeth, startD, tgSet, tgSets, wipeD, List.map_cons, List.map_nil, List.length_cons, List.length_nil, List.replicate_succ, List.replicate_zero, List.cons_append, List.nil_append, List.append_nil, List.getElem?_cons_zero, List.getElem?_cons_succ, List.getElem?_nil, List.set_cons_zero, List.set_cons_succ, List.set_nil, Nat.reduceAdd, Nat.reduceSub, Nat.reduceEqDiff, if_true, ite_true, if_false, ite_false, Nat.zero_add, gAdd_ii, gAdd_ss, gAdd_tt, gAdd_ll, gSub_ii, gMul_ii, gMul_si, gMul_li, gDiv_ii, gMod_ii, gPow_ii, gNeg_i, gLt_ii, gLe_ii, gGt_ii, gGe_ii, gIs_n, gIsNot_n, gIs_b, gIsNot_b, gAbs_i, gMax2_ii, gMin2_ii, gLen_s, gLen_l, gLen_t, gLen_d, gLen_r, gIx_l, gIx_t, gIx_d, gIx_r, gList_d, gList_l, gList_t, gDict_d, gTuple_t, gTuple_l, atI_0, atI_1, atI_2, atI_3, keyOf, W_sub, W_must, mulOk_r, mulOk_l, size_lit, some_ex, decide_eq_true_eq, decide_true, decide_false, Bool.and_eq_true, Bool.true_and, Bool.and_true, Bool.and_self, Bool.not_true, Bool.not_false, true_and, and_true, true_implies, Bool.false_eq_true, false_implies, not_false_eq_true, not_true_eq_false, Int.reduceLT, Int.reduceLE, Int.reducePow, Int.reduceToNat, Int.reduceNeg, Int.reduceAdd, Int.reduceSub, Int.reduceMul, Nat.reduceLT, Nat.reduceLeDiff, Nat.reducePow, decide_eq_false_iff_not, Option.map_some, Option.map_none, Option.bind_some, Option.bind_none]
    have skip := kend xs (.loc m) ν1 ex o5 (some (.int w)) o7 o8 hxs hxl d (.inr ⟨m, rfl, hm, hg⟩)
    refine ⟨fun hne => ?_, fun _ => skip⟩
    cases xs with
    | nil => exact absurd hne.2 (by simp)
    | cons l xs =>
      have g0 : gIx (ν1 ++ ex) (.loc m) (.int 0) = some l.d := by
        rw [gIx_c hg2]
        exact atI_0
      have l0 : ∀ ν, gIx ν l.d (.int 0) = some (.int l.t) := fun ν => rfl
      have sv : ∀ z, setV (ν1 ++ ex) (.loc m) (.int 0) z = some (ν1 ++ ex.set (m - μ.length) (some (.list (z :: xs.map Ln.d)))) := fun z => by
        have e : (ν1 ++ ex).set m (some (.list (z :: xs.map Ln.d))) = ν1 ++ ex.set (m - ν1.length) (some (.list (z :: xs.map Ln.d))) := List.set_append_right m _ hm2
        rw [d.len] at e
        rw [← e]
        simp [setV, hg2, ixN]
      simp -implicitDefEqProofs only [g0, l0, sv, W_bind, W_ok, W_bad, W_ex, W_noEx, W_ite, W_some, W_none, W_chk, W_map, W_obind, W_run, runK_nx, runK_rt, onBody, sNil, W_seq, seqK_nx, seqK_rt, seqK_bk, seqK_ct, sBk, sCt, sExpr, sRet, sRetN, sIf, sSet, sAsg, sPar2, sFor, sDel, eVar, eC, eBin, eUn, eT, boolOf, W_chain, thenB_ok, thenB_b, ok_bind, ofO_some, and_ok, or_ok, and_okD, or_okD, TL.tAnd, TL.tOr, TL.tNot, tTrue, eAnd, eOr, eNot, eIf, aNil, aCons, eTup, eFz, eNew, eFrz, frzD, nLst, nCall, eCall, eCallF, eSl, oNone, oSome, nComp, nCompK, nCat, catO_ll, catO_last, gAdd_last, gAppend_last, isTy_last, size_lt, mergeD_1, nEmpty, nDisp, pNil, pCons, iVal, iRange1, iRange2, iEnumF, iZipF, iItemsF, kRange1, kRange2, kEnum, kZip, kItems, cellD, eMeth, startD, tgSet, tgSets, wipeD, List.map_cons, List.map_nil, List.length_cons, List.length_nil, List.replicate_succ, List.replicate_zero, List.cons_append, List.nil_append, List.append_nil, List.getElem?_cons_zero, List.getElem?_cons_succ, List.getElem?_nil, List.set_cons_zero, List.set_cons_succ, List.set_nil, Nat.reduceAdd, Nat.reduceSub, Nat.reduceEqDiff, if_true, ite_true, if_false, ite_false, Nat.zero_add, gAdd_ii, gAdd_ss, gAdd_tt, gAdd_ll, gSub_ii, gMul_ii, gMul_si, gMul_li, gDiv_ii, gMod_ii, gPow_ii, gNeg_i, gLt_ii, gLe_ii, gGt_ii, gGe_ii, gIs_n, gIsNot_n, gIs_b, gIsNot_b, gAbs_i, gMax2_ii, gMin2_ii, gLen_s, gLen_l, gLen_t, gLen_d, gLen_r, gIx_l, gIx_t, gIx_d, gIx_r, gList_d, gList_l, gList_t, gDict_d, gTuple_t, gTuple_l, atI_0, atI_1, atI_2, atI_3, keyOf, W_sub, W_must, mulOk_r, mulOk_l, size_lit, some_ex, decide_eq_true_eq, decide_true, decide_false, Bool.and_eq_true, Bool.true_and, Bool.and_true, Bool.and_self, Bool.not_true, Bool.not_false, true_and, and_true, true_implies, Bool.false_eq_true, false_implies, not_false_eq_true, not_true_eq_false, Int.reduceLT, Int.reduceLE, Int.reducePow, Int.reduceToNat, Int.reduceNeg, Int.reduceAdd, Int.reduceSub, Int.reduceMul, Nat.reduceLT, Nat.reduceLeDiff, Nat.reducePow, decide_eq_false_iff_not, Option.map_some, Option.map_none, Option.bind_some, Option.bind_none]
      have e : (D.tuple [.int l.t, .none, .str "Z9"] :: xs.map Ln.d) = ((⟨l.t, none, some "Z9"⟩ : Ln) :: xs).map Ln.d := rfl
      rw [e]
      refine kend ((⟨l.t, none, some "Z9"⟩ : Ln) :: xs) (.loc m) ν1 _ _ _ _ _ (fun q hq => ?_) (by rw [List.length_cons] at hxl ⊢; exact hxl) d (.inr ⟨m, rfl, hm, ?_⟩)
      · rcases List.mem_cons.mp hq with rfl | hq
        · exact ln_z9 (hxs l (List.mem_cons_self ..))
        · exact hxs q (List.mem_cons_of_mem _ hq)
      · exact List.getElem?_set_self (List.getElem?_eq_some_iff.mp hg).1
  have k2 : ∀ (xs : List Ln) (m : Nat) (w : Int) (ν1 ex : Mu) o5 o7 o8, (∀ l ∈ xs, LnS l) → xs.length ≤ ls.length + 2 → Dr n μ ν1 → μ.length ≤ m → ex[m - μ.length]? = some (some (.list (xs.map Ln.d))) →
      W (T2 [some (.loc n), some (linesD ls), some (flD f), some (.loc m), some (.int start), o5, some (.int w), o7, o8] (ν1 ++ ex)) (runK μ P) := by
    intro xs m w ν1 ex o5 o7 o8 hxs hxl d hm hg
    have hm2 : ν1.length ≤ m := by rw [d.len]; exact hm
    have hg2 : (ν1 ++ ex)[m]? = some (some (.list (xs.map Ln.d))) := by rw [List.getElem?_append_right hm2, d.len]; exact hg
    have cat : ∀ z, catO (ν1 ++ ex) (.list [z]) (.loc m) = some (.list (z :: xs.map Ln.d)) := fun z => by
      have hz : [z].length + (xs.map Ln.d).length ≤ sizeLine := Nat.le_trans (show _ ≤ 1000 by simp; omega) (by decide)
      simp only [catO, seqL, hg2, decide_eq_true hz, chk, if_true, Option.map_some, Option.bind_some]
      rfl
    rw [← hT2]
    simp -implicitDefEqProofs only [gEq_ii, cat, W_bind, W_ok, W_bad, W_ex, W_noEx, W_ite, W_some, W_none, W_chk, W_map, W_obind, W_run, runK_nx, runK_rt, onBody, sNil, W_seq, seqK_nx, seqK_rt, seqK_bk, seqK_ct, sBk, sCt, sExpr, sRet, sRetN, sIf, sSet, sAsg, sPar2, sFor, sDel, eVar, eC, eBin, eUn, eT, boolOf, W_chain, thenB_ok, thenB_b, ok_bind, ofO_some, and_ok, or_ok, and_okD, or_okD, TL.tAnd, TL.tOr, TL.tNot, tTrue, eAnd, eOr, eNot, eIf, aNil, aCons, eTup, eFz, eNew, eFrz, frzD, nLst, nCall, eCall, eCallF, eSl, oNone, oSome, nComp, nCompK, nCat, catO_ll, catO_last, gAdd_last, gAppend_last, isTy_last, size_lt, mergeD_1, nEmpty, nDisp, pNil, pCons, iVal, iRange1, iRange2, iEnumF, iZipF, iItemsF, kRange1, kRange2, kEnum, kZip, kItems, cellD, eMeth, startD, tgSet, tgSets, wipeD, List.map_cons, List.map_nil, List.length_cons, List.length_nil, List.replicate_succ, List.replicate_zero, List.cons_append, List.nil_append, List.append_nil, List.getElem?_cons_zero, List.getElem?_cons_succ, List.getElem?_nil, List.set_cons_zero, List.set_cons_succ, List.set_nil, Nat.reduceAdd, Nat.reduceSub, Nat.reduceEqDiff, if_true, ite_true, if_false, ite_false, Nat.zero_add, gAdd_ii, gAdd_ss, gAdd_tt, gAdd_ll, gSub_ii, gMul_ii, gMul_si, gMul_li, gDiv_ii, gMod_ii, gPow_ii, gNeg_i, gLt_ii, gLe_ii, gGt_ii, gGe_ii, gIs_n, gIsNot_n, gIs_b, gIsNot_b, gAbs_i, gMax2_ii, gMin2_ii, gLen_s, gLen_l, gLen_t, gLen_d, gLen_r, gIx_l, gIx_t, gIx_d, gIx_r, gList_d, gList_l, gList_t, gDict_d, gTuple_t, gTuple_l, atI_0, atI_1, atI_2, atI_3, keyOf, W_sub, W_must, mulOk_r, mulOk_l, size_lit, some_ex, decide_eq_true_eq, decide_true, decide_false, Bool.and_eq_true, Bool.true_and, Bool.and_true, Bool.and_self, Bool.not_true, Bool.not_false, true_and, and_true, true_implies, Bool.false_eq_true, false_implies, not_false_eq_true, not_true_eq_false, Int.reduceLT, Int.reduceLE, Int.reducePow, Int.reduceToNat, Int.reduceNeg, Int.reduceAdd, Int.reduceSub, Int.reduceMul, Nat.reduceLT, Nat.reduceLeDiff, Nat.reducePow, decide_eq_false_iff_not, Option.map_some, Option.map_none, Option.bind_some, Option.bind_none]
    refine ⟨fun _ => ?_, fun _ => k3 xs m w ν1 ex _ _ _ hxs (by omega) d hm hg⟩
    have e : (D.tuple [.int start, .none, .none] :: xs.map Ln.d) = ((⟨start, none, none⟩ : Ln) :: xs).map Ln.d := rfl
    rw [e, List.append_assoc]
    refine k3 ((⟨start, none, none⟩ : Ln) :: xs) _ w ν1 _ _ _ _ (fun q hq => ?_) (by rw [List.length_cons]; omega) d (by rw [List.length_append, d.len]; omega) ?_
    · rcases List.mem_cons.mp hq with rfl | hq
      · exact ⟨s0, by show start ≤ 2000000000; omega, fun s e => (nomatch e), fun s e => (nomatch e)⟩
      · exact hxs q hq
    · rw [List.length_append, d.len, Nat.add_sub_cancel_left]
      simp
  have k1 : ∀ (xs : List Ln) (m : Nat) (w : Int) (ν1 ex : Mu) o5 o7 o8, (∀ l ∈ xs, LnS l) → xs.length ≤ ls.length + 2 → Dr n μ ν1 → μ.length ≤ m → ex[m - μ.length]? = some (some (.list (xs.map Ln.d))) →
      W (T1 [some (.loc n), some (linesD ls), some (flD f), some (.loc m), some (.int start), o5, some (.int w), o7, o8] (ν1 ++ ex)) (runK μ P) := by
    intro xs m w ν1 ex o5 o7 o8 hxs hxl d hm hg
    have hm2 : ν1.length ≤ m := by rw [d.len]; exact hm
    have hg2 : (ν1 ++ ex)[m]? = some (some (.list (xs.map Ln.d))) := by rw [List.getElem?_append_right hm2, d.len]; exact hg
    have sq : seqL (ν1 ++ ex) (.loc m) = some (xs.map Ln.d) := by simp only [seqL, hg2]
    rw [← hT1]
    simp -implicitDefEqProofs only [gEq_ii, nRev, sq, W_bind, W_ok, W_bad, W_ex, W_noEx, W_ite, W_some, W_none, W_chk, W_map, W_obind, W_run, runK_nx, runK_rt, onBody, sNil, W_seq, seqK_nx, seqK_rt, seqK_bk, seqK_ct, sBk, sCt, sExpr, sRet, sRetN, sIf, sSet, sAsg, sPar2, sFor, sDel, eVar, eC, eBin, eUn, eT, boolOf, W_chain, thenB_ok, thenB_b, ok_bind, ofO_some, and_ok, or_ok, and_okD, or_okD, TL.tAnd, TL.tOr, TL.tNot, tTrue, eAnd, eOr, eNot, eIf, aNil, aCons, eTup, eFz, eNew, eFrz, frzD, nLst, nCall, eCall, eCallF, eSl, oNone, oSome, nComp, nCompK, nCat, catO_ll, catO_last, gAdd_last, gAppend_last, isTy_last, size_lt, mergeD_1, nEmpty, nDisp, pNil, pCons, iVal, iRange1, iRange2, iEnumF, iZipF, iItemsF, kRange1, kRange2, kEnum, kZip, kItems, cellD, eMeth, startD, tgSet, tgSets, wipeD, List.map_cons, List.map_nil, List.length_cons, List.length_nil, List.replicate_succ, List.replicate_zero, List.cons_append, List.nil_append, List.append_nil, List.getElem?_cons_zero, List.getElem?_cons_succ, List.getElem?_nil, List.set_cons_zero, List.set_cons_succ, List.set_nil, Nat.reduceAdd, Nat.reduceSub, Nat.reduceEqDiff, if_true, ite_true, if_false, ite_false, Nat.zero_add, gAdd_ii, gAdd_ss, gAdd_tt, gAdd_ll, gSub_ii, gMul_ii, gMul_si, gMul_li, gDiv_ii, gMod_ii, gPow_ii, gNeg_i, gLt_ii, gLe_ii, gGt_ii, gGe_ii, gIs_n, gIsNot_n, gIs_b, gIsNot_b, gAbs_i, gMax2_ii, gMin2_ii, gLen_s, gLen_l, gLen_t, gLen_d, gLen_r, gIx_l, gIx_t, gIx_d, gIx_r, gList_d, gList_l, gList_t, gDict_d, gTuple_t, gTuple_l, atI_0, atI_1, atI_2, atI_3, keyOf, W_sub, W_must, mulOk_r, mulOk_l, size_lit, some_ex, decide_eq_true_eq, decide_true, decide_false, Bool.and_eq_true, Bool.true_and, Bool.and_true, Bool.and_self, Bool.not_true, Bool.not_false, true_and, and_true, true_implies, Bool.false_eq_true, false_implies, not_false_eq_true, not_true_eq_false, Int.reduceLT, Int.reduceLE, Int.reducePow, Int.reduceToNat, Int.reduceNeg, Int.reduceAdd, Int.reduceSub, Int.reduceMul, Nat.reduceLT, Nat.reduceLeDiff, Nat.reducePow, decide_eq_false_iff_not, Option.map_some, Option.map_none, Option.bind_some, Option.bind_none]
    refine ⟨fun _ => ?_, fun _ => k2 xs m w ν1 ex _ _ _ hxs hxl d hm hg⟩
    have er : (xs.map Ln.d).reverse = xs.reverse.map Ln.d := by rw [List.map_reverse]
    rw [er, List.append_assoc]
    refine k2 _ _ w ν1 _ _ _ _ (fun q hq => hxs q (List.mem_reverse.mp hq)) (by rw [List.length_reverse]; exact hxl) d (by rw [List.length_append, d.len]; omega) ?_
    rw [List.length_append, d.len, Nat.add_sub_cancel_left]
    simp
  have k0 : ∀ (xs : List Ln) (w : Int) (ν1 : Mu) o5 o7 o8, (∀ l ∈ xs, LnS l) → xs.length ≤ ls.length + 2 → Dr n μ ν1 →
      W (T0 [some (.loc n), some (linesD ls), some (flD f), some (.loc μ.length), some (.int start), o5, some (.int w), o7, o8] (ν1 ++ [some (.list (xs.map Ln.d))])) (runK μ P) := by
    intro xs w ν1 o5 o7 o8 hxs hxl d
    have hm2 : ν1.length ≤ μ.length := by rw [d.len]; exact Nat.le_refl _
    have hg2 : (ν1 ++ [some (Cell.list (xs.map Ln.d))])[μ.length]? = some (some (.list (xs.map Ln.d))) := get_last d.len.symm
    have sl : gSl (ν1 ++ [some (Cell.list (xs.map Ln.d))]) (.loc μ.length) (some 1) none = some (.list ((xs.drop 1).map Ln.d)) := by
      have e := sl_from (xs := xs) 1 (ν1 ++ [some (Cell.list (xs.map Ln.d))])
      have sq : seqL (ν1 ++ [some (Cell.list (xs.map Ln.d))]) (.loc μ.length) = some (xs.map Ln.d) := by simp only [seqL, hg2]
      have e2 : gSl (ν1 ++ [some (Cell.list (xs.map Ln.d))]) (.loc μ.length) (some 1) none = (seqL (ν1 ++ [some (Cell.list (xs.map Ln.d))]) (.loc μ.length)).map fun xs => D.list (TL.cutD xs (some 1) none) := rfl
      rw [e2, sq]
      exact e
    rw [← hT0]
    simp -implicitDefEqProofs only [gEq_ii, sl, W_bind, W_ok, W_bad, W_ex, W_noEx, W_ite, W_some, W_none, W_chk, W_map, W_obind, W_run, runK_nx, runK_rt, onBody, sNil, W_seq, seqK_nx, seqK_rt, seqK_bk, seqK_ct, sBk, sCt, sExpr, sRet, sRetN, sIf, sSet, sAsg, sPar2, sFor, sDel, eVar, eC, eBin, eUn, eT, boolOf, W_chain, thenB_ok, thenB_b, ok_bind, ofO_some, and_ok, or_ok, and_okD, or_okD, TL.tAnd, TL.tOr, TL.tNot, tTrue, eAnd, eOr, eNot, eIf, aNil, aCons, eTup, eFz, eNew, eFrz, frzD, nLst, nCall, eCall, eCallF, eSl, oNone, oSome, nComp, nCompK, nCat, catO_ll, catO_last, gAdd_last, gAppend_last, isTy_last, size_lt, mergeD_1, nEmpty, nDisp, pNil, pCons, iVal, iRange1, iRange2, iEnumF, iZipF, iItemsF, kRange1, kRange2, kEnum, kZip, kItems, cellD, eMeth, startD, tgSet, tgSets, wipeD, List.map_cons, List.map_nil, List.length_cons, List.length_nil, List.replicate_succ, List.replicate_zero, List.cons_append, List.nil_append, List.append_nil, List.getElem?_cons_zero, List.getElem?_cons_succ, List.getElem?_nil, List.set_cons_zero, List.set_cons_succ, List.set_nil, Nat.reduceAdd, Nat.reduceSub, Nat.reduceEqDiff, if_true, ite_true, if_false, ite_false, Nat.zero_add, gAdd_ii, gAdd_ss, gAdd_tt, gAdd_ll, gSub_ii, gMul_ii, gMul_si, gMul_li, gDiv_ii, gMod_ii, gPow_ii, gNeg_i, gLt_ii, gLe_ii, gGt_ii, gGe_ii, gIs_n, gIsNot_n, gIs_b, gIsNot_b, gAbs_i, gMax2_ii, gMin2_ii, gLen_s, gLen_l, gLen_t, gLen_d, gLen_r, gIx_l, gIx_t, gIx_d, gIx_r, gList_d, gList_l, gList_t, gDict_d, gTuple_t, gTuple_l, atI_0, atI_1, atI_2, atI_3, keyOf, W_sub, W_must, mulOk_r, mulOk_l, size_lit, some_ex, decide_eq_true_eq, decide_true, decide_false, Bool.and_eq_true, Bool.true_and, Bool.and_true, Bool.and_self, Bool.not_true, Bool.not_false, true_and, and_true, true_implies, Bool.false_eq_true, false_implies, not_false_eq_true, not_true_eq_false, Int.reduceLT, Int.reduceLE, Int.reducePow, Int.reduceToNat, Int.reduceNeg, Int.reduceAdd, Int.reduceSub, Int.reduceMul, Nat.reduceLT, Nat.reduceLeDiff, Nat.reducePow, decide_eq_false_iff_not, Option.map_some, Option.map_none, Option.bind_some, Option.bind_none]
    refine ⟨fun hw => ?_, fun _ => k1 xs _ w ν1 _ _ _ _ hxs hxl d (Nat.le_refl _) (by simp)⟩
    obtain rfl : w = 0 := by simpa using hw
    have e01 : ((0 : Int) == 1) = false := rfl
    have e02 : ((0 : Int) == 2) = false := rfl
    have e03 : ((0 : Int) == 3) = false := rfl
    rw [← hT1]
    simp -implicitDefEqProofs only [gEq_ii, e01, W_bind, W_ok, W_bad, W_ex, W_noEx, W_ite, W_some, W_none, W_chk, W_map, W_obind, W_run, runK_nx, runK_rt, onBody, sNil, W_seq, seqK_nx, seqK_rt, seqK_bk, seqK_ct, sBk, sCt, sExpr, sRet, sRetN, sIf, sSet, sAsg, sPar2, sFor, sDel, eVar, eC, eBin, eUn, eT, boolOf, W_chain, thenB_ok, thenB_b, ok_bind, ofO_some, and_ok, or_ok, and_okD, or_okD, TL.tAnd, TL.tOr, TL.tNot, tTrue, eAnd, eOr, eNot, eIf, aNil, aCons, eTup, eFz, eNew, eFrz, frzD, nLst, nCall, eCall, eCallF, eSl, oNone, oSome, nComp, nCompK, nCat, catO_ll, catO_last, gAdd_last, gAppend_last, isTy_last, size_lt, mergeD_1, nEmpty, nDisp, pNil, pCons, iVal, iRange1, iRange2, iEnumF, iZipF, iItemsF, kRange1, kRange2, kEnum, kZip, kItems, cellD, eMeth, startD, tgSet, tgSets, wipeD, List.map_cons, List.map_nil, List.length_cons, List.length_nil, List.replicate_succ, List.replicate_zero, List.cons_append, List.nil_append, List.append_nil, List.getElem?_cons_zero, List.getElem?_cons_succ, List.getElem?_nil, List.set_cons_zero, List.set_cons_succ, List.set_nil, Nat.reduceAdd, Nat.reduceSub, Nat.reduceEqDiff, if_true, ite_true, if_false, ite_false, Nat.zero_add, gAdd_ii, gAdd_ss, gAdd_tt, gAdd_ll, gSub_ii, gMul_ii, gMul_si, gMul_li, gDiv_ii, gMod_ii, gPow_ii, gNeg_i, gLt_ii, gLe_ii, gGt_ii, gGe_ii, gIs_n, gIsNot_n, gIs_b, gIsNot_b, gAbs_i, gMax2_ii, gMin2_ii, gLen_s, gLen_l, gLen_t, gLen_d, gLen_r, gIx_l, gIx_t, gIx_d, gIx_r, gList_d, gList_l, gList_t, gDict_d, gTuple_t, gTuple_l, atI_0, atI_1, atI_2, atI_3, keyOf, W_sub, W_must, mulOk_r, mulOk_l, size_lit, some_ex, decide_eq_true_eq, decide_true, decide_false, Bool.and_eq_true, Bool.true_and, Bool.and_true, Bool.and_self, Bool.not_true, Bool.not_false, true_and, and_true, true_implies, Bool.false_eq_true, false_implies, not_false_eq_true, not_true_eq_false, Int.reduceLT, Int.reduceLE, Int.reducePow, Int.reduceToNat, Int.reduceNeg, Int.reduceAdd, Int.reduceSub, Int.reduceMul, Nat.reduceLT, Nat.reduceLeDiff, Nat.reducePow, decide_eq_false_iff_not, Option.map_some, Option.map_none, Option.bind_some, Option.bind_none]
    rw [← hT2]
    simp -implicitDefEqProofs only [gEq_ii, e02, W_bind, W_ok, W_bad, W_ex, W_noEx, W_ite, W_some, W_none, W_chk, W_map, W_obind, W_run, runK_nx, runK_rt, onBody, sNil, W_seq, seqK_nx, seqK_rt, seqK_bk, seqK_ct, sBk, sCt, sExpr, sRet, sRetN, sIf, sSet, sAsg, sPar2, sFor, sDel, eVar, eC, eBin, eUn, eT, boolOf, W_chain, thenB_ok, thenB_b, ok_bind, ofO_some, and_ok, or_ok, and_okD, or_okD, TL.tAnd, TL.tOr, TL.tNot, tTrue, eAnd, eOr, eNot, eIf, aNil, aCons, eTup, eFz, eNew, eFrz, frzD, nLst, nCall, eCall, eCallF, eSl, oNone, oSome, nComp, nCompK, nCat, catO_ll, catO_last, gAdd_last, gAppend_last, isTy_last, size_lt, mergeD_1, nEmpty, nDisp, pNil, pCons, iVal, iRange1, iRange2, iEnumF, iZipF, iItemsF, kRange1, kRange2, kEnum, kZip, kItems, cellD, eMeth, startD, tgSet, tgSets, wipeD, List.map_cons, List.map_nil, List.length_cons, List.length_nil, List.replicate_succ, List.replicate_zero, List.cons_append, List.nil_append, List.append_nil, List.getElem?_cons_zero, List.getElem?_cons_succ, List.getElem?_nil, List.set_cons_zero, List.set_cons_succ, List.set_nil, Nat.reduceAdd, Nat.reduceSub, Nat.reduceEqDiff, if_true, ite_true, if_false, ite_false, Nat.zero_add, gAdd_ii, gAdd_ss, gAdd_tt, gAdd_ll, gSub_ii, gMul_ii, gMul_si, gMul_li, gDiv_ii, gMod_ii, gPow_ii, gNeg_i, gLt_ii, gLe_ii, gGt_ii, gGe_ii, gIs_n, gIsNot_n, gIs_b, gIsNot_b, gAbs_i, gMax2_ii, gMin2_ii, gLen_s, gLen_l, gLen_t, gLen_d, gLen_r, gIx_l, gIx_t, gIx_d, gIx_r, gList_d, gList_l, gList_t, gDict_d, gTuple_t, gTuple_l, atI_0, atI_1, atI_2, atI_3, keyOf, W_sub, W_must, mulOk_r, mulOk_l, size_lit, some_ex, decide_eq_true_eq, decide_true, decide_false, Bool.and_eq_true, Bool.true_and, Bool.and_true, Bool.and_self, Bool.not_true, Bool.not_false, true_and, and_true, true_implies, Bool.false_eq_true, false_implies, not_false_eq_true, not_true_eq_false, Int.reduceLT, Int.reduceLE, Int.reducePow, Int.reduceToNat, Int.reduceNeg, Int.reduceAdd, Int.reduceSub, Int.reduceMul, Nat.reduceLT, Nat.reduceLeDiff, Nat.reducePow, decide_eq_false_iff_not, Option.map_some, Option.map_none, Option.bind_some, Option.bind_none]
    rw [← hT3]
    simp -implicitDefEqProofs only [gEq_ii, e03, W_bind, W_ok, W_bad, W_ex, W_noEx, W_ite, W_some, W_none, W_chk, W_map, W_obind, W_run, runK_nx, runK_rt, onBody, sNil, W_seq, seqK_nx, seqK_rt, seqK_bk, seqK_ct, sBk, sCt, sExpr, sRet, sRetN, sIf, sSet, sAsg, sPar2, sFor, sDel, eVar, eC, eBin, eUn, eT, boolOf, W_chain, thenB_ok, thenB_b, ok_bind, ofO_some, and_ok, or_ok, and_okD, or_okD, TL.tAnd, TL.tOr, TL.tNot, tTrue, eAnd, eOr, eNot, eIf, aNil, aCons, eTup, eFz, eNew, eFrz, frzD, nLst, nCall, eCall, eCallF, eSl, oNone, oSome, nComp, nCompK, nCat, catO_ll, catO_last, gAdd_last, gAppend_last, isTy_last, size_lt, mergeD_1, nEmpty, nDisp, pNil, pCons, iVal, iRange1, iRange2, iEnumF, iZipF, iItemsF, kRange1, kRange2, kEnum, kZip, kItems, cellD, eMeth, startD, tgSet, tgSets, wipeD, List.map_cons, List.map_nil, List.length_cons, List.length_nil, List.replicate_succ, List.replicate_zero, List.cons_append, List.nil_append, List.append_nil, List.getElem?_cons_zero, List.getElem?_cons_succ, List.getElem?_nil, List.set_cons_zero, List.set_cons_succ, List.set_nil, Nat.reduceAdd, Nat.reduceSub, Nat.reduceEqDiff, if_true, ite_true, if_false, ite_false, Nat.zero_add, gAdd_ii, gAdd_ss, gAdd_tt, gAdd_ll, gSub_ii, gMul_ii, gMul_si, gMul_li, gDiv_ii, gMod_ii, gPow_ii, gNeg_i, gLt_ii, gLe_ii, gGt_ii, gGe_ii, gIs_n, gIsNot_n, gIs_b, gIsNot_b, gAbs_i, gMax2_ii, gMin2_ii, gLen_s, gLen_l, gLen_t, gLen_d, gLen_r, gIx_l, gIx_t, gIx_d, gIx_r, gList_d, gList_l, gList_t, gDict_d, gTuple_t, gTuple_l, atI_0, atI_1, atI_2, atI_3, keyOf, W_sub, W_must, mulOk_r, mulOk_l, size_lit, some_ex, decide_eq_true_eq, decide_true, decide_false, Bool.and_eq_true, Bool.true_and, Bool.and_true, Bool.and_self, Bool.not_true, Bool.not_false, true_and, and_true, true_implies, Bool.false_eq_true, false_implies, not_false_eq_true, not_true_eq_false, Int.reduceLT, Int.reduceLE, Int.reducePow, Int.reduceToNat, Int.reduceNeg, Int.reduceAdd, Int.reduceSub, Int.reduceMul, Nat.reduceLT, Nat.reduceLeDiff, Nat.reducePow, decide_eq_false_iff_not, Option.map_some, Option.map_none, Option.bind_some, Option.bind_none]
    exact kend _ _ ν1 _ _ _ _ _ (fun q hq => hxs q (List.mem_of_mem_drop hq)) (by rw [List.length_drop]; omega) d (.inl rfl)
  have gl : ∀ ν, gList ν [linesD ls] = some (.list (ls.map Ln.d)) := fun ν => rfl
  have main : W (Tf [some (.loc n), some (linesD ls), some (flD f), some (.loc μ.length), some (.int start), none, none, none, none] (μ ++ [some (.list (ls.map Ln.d))])) (runK μ P) := by
    rw [← hTf]
    try simp -implicitDefEqProofs only [W_bind, W_ok, W_bad, W_ex, W_noEx, W_ite, W_some, W_none, W_chk, W_map, W_obind, W_run, runK_nx, runK_rt, onBody, sNil, W_seq, seqK_nx, seqK_rt, seqK_bk, seqK_ct, sBk, sCt, sExpr, sRet, sRetN, sIf, sSet, sAsg, sPar2, sFor, sDel, eVar, eC, eBin, eUn, eT, boolOf, W_chain, thenB_ok, thenB_b, ok_bind, ofO_some, and_ok, or_ok, and_okD, or_okD, TL.tAnd, TL.tOr, TL.tNot, tTrue, eAnd, eOr, eNot, eIf, aNil, aCons, eTup, eFz, eNew, eFrz, frzD, nLst, nCall, eCall, eCallF, eSl, oNone, oSome, nComp, nCompK, nCat, catO_ll, catO_last, gAdd_last, gAppend_last, isTy_last, size_lt, mergeD_1, nEmpty, nDisp, pNil, pCons, iVal, iRange1, iRange2, iEnumF, iZipF, iItemsF, kRange1, kRange2, kEnum, kZip, kItems, cellD, eMeth, startD, tgSet, tgSets, wipeD, List.map_cons, List.map_nil, List.length_cons, List.length_nil, List.replicate_succ, List.replicate_zero, List.cons_append, List.nil_append, List.append_nil, List.getElem?_cons_zero, List.getElem?_cons_succ, List.getElem?_nil, List.set_cons_zero, List.set_cons_succ, List.set_nil, Nat.reduceAdd, Nat.reduceSub, Nat.reduceEqDiff, if_true, ite_true, if_false, ite_false, Nat.zero_add, gAdd_ii, gAdd_ss, gAdd_tt, gAdd_ll, gSub_ii, gMul_ii, gMul_si, gMul_li, gDiv_ii, gMod_ii, gPow_ii, gNeg_i, gLt_ii, gLe_ii, gGt_ii, gGe_ii, gIs_n, gIsNot_n, gIs_b, gIsNot_b, gAbs_i, gMax2_ii, gMin2_ii, gLen_s, gLen_l, gLen_t, gLen_d, gLen_r, gIx_l, gIx_t, gIx_d, gIx_r, gList_d, gList_l, gList_t, gDict_d, gTuple_t, gTuple_l, atI_0, atI_1, atI_2, atI_3, keyOf, W_sub, W_must, mulOk_r, mulOk_l, size_lit, some_ex, decide_eq_true_eq, decide_true, decide_false, Bool.and_eq_true, Bool.true_and, Bool.and_true, Bool.and_self, Bool.not_true, Bool.not_false, true_and, and_true, true_implies, Bool.false_eq_true, false_implies, not_false_eq_true, not_true_eq_false, Int.reduceLT, Int.reduceLE, Int.reducePow, Int.reduceToNat, Int.reduceNeg, Int.reduceAdd, Int.reduceSub, Int.reduceMul, Nat.reduceLT, Nat.reduceLeDiff, Nat.reducePow, decide_eq_false_iff_not, Option.map_some, Option.map_none, Option.bind_some, Option.bind_none]
    refine take_w (hf.app _) (by decide) (by decide) fun r μ1 r0 r1 d1 => ?_
    obtain ⟨ν1, rfl, e1⟩ := d1.snoc hf.lt
    simp -implicitDefEqProofs only [isIn62_small (i := r) (by omega) (by omega), rng_small (i := 0) (n := r.toNat) (by omega), W_bind, W_ok, W_bad, W_ex, W_noEx, W_ite, W_some, W_none, W_chk, W_map, W_obind, W_run, runK_nx, runK_rt, onBody, sNil, W_seq, seqK_nx, seqK_rt, seqK_bk, seqK_ct, sBk, sCt, sExpr, sRet, sRetN, sIf, sSet, sAsg, sPar2, sFor, sDel, eVar, eC, eBin, eUn, eT, boolOf, W_chain, thenB_ok, thenB_b, ok_bind, ofO_some, and_ok, or_ok, and_okD, or_okD, TL.tAnd, TL.tOr, TL.tNot, tTrue, eAnd, eOr, eNot, eIf, aNil, aCons, eTup, eFz, eNew, eFrz, frzD, nLst, nCall, eCall, eCallF, eSl, oNone, oSome, nComp, nCompK, nCat, catO_ll, catO_last, gAdd_last, gAppend_last, isTy_last, size_lt, mergeD_1, nEmpty, nDisp, pNil, pCons, iVal, iRange1, iRange2, iEnumF, iZipF, iItemsF, kRange1, kRange2, kEnum, kZip, kItems, cellD, eMeth, startD, tgSet, tgSets, wipeD, List.map_cons, List.map_nil, List.length_cons, List.length_nil, List.replicate_succ, List.replicate_zero, List.cons_append, List.nil_append, List.append_nil, List.getElem?_cons_zero, List.getElem?_cons_succ, List.getElem?_nil, List.set_cons_zero, List.set_cons_succ, List.set_nil, Nat.reduceAdd, Nat.reduceSub, Nat.reduceEqDiff, if_true, ite_true, if_false, ite_false, Nat.zero_add, gAdd_ii, gAdd_ss, gAdd_tt, gAdd_ll, gSub_ii, gMul_ii, gMul_si, gMul_li, gDiv_ii, gMod_ii, gPow_ii, gNeg_i, gLt_ii, gLe_ii, gGt_ii, gGe_ii, gIs_n, gIsNot_n, gIs_b, gIsNot_b, gAbs_i, gMax2_ii, gMin2_ii, gLen_s, gLen_l, gLen_t, gLen_d, gLen_r, gIx_l, gIx_t, gIx_d, gIx_r, gList_d, gList_l, gList_t, gDict_d, gTuple_t, gTuple_l, atI_0, atI_1, atI_2, atI_3, keyOf, W_sub, W_must, mulOk_r, mulOk_l, size_lit, some_ex, decide_eq_true_eq, decide_true, decide_false, Bool.and_eq_true, Bool.true_and, Bool.and_true, Bool.and_self, Bool.not_true, Bool.not_false, true_and, and_true, true_implies, Bool.false_eq_true, false_implies, not_false_eq_true, not_true_eq_false, Int.reduceLT, Int.reduceLE, Int.reducePow, Int.reduceToNat, Int.reduceNeg, Int.reduceAdd, Int.reduceSub, Int.reduceMul, Nat.reduceLT, Nat.reduceLeDiff, Nat.reducePow, decide_eq_false_iff_not, Option.map_some, Option.map_none, Option.bind_some, Option.bind_none]
    refine Exists.elim (named (fun i ρ μ' => ∃ (xs : List Ln) (ν : Mu) (o5 o8 : Option D), ρ = [some (.loc n), some (linesD ls), some (flD f), some (.loc μ.length), some (.int start), o5, none, none, o8] ∧
        μ' = ν ++ [some (.list (xs.map Ln.d))] ∧ Dr n μ ν ∧ xs.length ≤ ls.length + i ∧ ∀ l ∈ xs, LnS l)) fun I hI => ?_
    refine W_forY I _ (by rw [hI]; exact ⟨ls, ν1, _, _, rfl, rfl, e1, Nat.le_refl _, hls⟩) ?_ ?_
    · intro i x ρ μ' hx hi
      rw [hI] at hi
      obtain ⟨xs, ν, o5, o8, rfl, rfl, d, hl, hxs⟩ := hi
      obtain ⟨hi3, rfl⟩ := rangeD_get hx
      have nx : ∀ (xs : List Ln) (ν : Mu) o5 o8, Dr n μ ν → xs.length ≤ ls.length + (i + 1) → (∀ l ∈ xs, LnS l) → I (i + 1) [some (.loc n), some (linesD ls), some (flD f), some (.loc μ.length), some (.int start), o5, none, none, o8] (ν ++ [some (.list (xs.map Ln.d))]) := by
        rw [hI]; intro xs ν o5 o8 a b c; exact ⟨xs, ν, _, _, rfl, rfl, a, b, c⟩
      clear hI hx
      refine ⟨_, rfl, ?_⟩
      refine oturn_w (d.at hf) s0 s1 d.len.symm (by omega) fun l o8 ν' d2 hl2 => nx _ _ _ _ (d.trans d2) (by simp; omega) fun q hq => ?_
      rcases List.mem_append.mp hq with hq | hq
      · exact hxs q hq
      · rw [List.mem_singleton.mp hq]; exact hl2
    · intro ρ μ' hi
      rw [hI] at hi
      obtain ⟨xs, ν, o5, o8, rfl, rfl, d, hl, hxs⟩ := hi
      rw [rangeD_len] at hl
      clear hI
      try simp -implicitDefEqProofs only [W_bind, W_ok, W_bad, W_ex, W_noEx, W_ite, W_some, W_none, W_chk, W_map, W_obind, W_run, runK_nx, runK_rt, onBody, sNil, W_seq, seqK_nx, seqK_rt, seqK_bk, seqK_ct, sBk, sCt, sExpr, sRet, sRetN, sIf, sSet, sAsg, sPar2, sFor, sDel, eVar, eC, eBin, eUn, eT, boolOf, W_chain, thenB_ok, thenB_b, ok_bind, ofO_some, and_ok, or_ok, and_okD, or_okD, TL.tAnd, TL.tOr, TL.tNot, tTrue, eAnd, eOr, eNot, eIf, aNil, aCons, eTup, eFz, eNew, eFrz, frzD, nLst, nCall, eCall, eCallF, eSl, oNone, oSome, nComp, nCompK, nCat, catO_ll, catO_last, gAdd_last, gAppend_last, isTy_last, size_lt, mergeD_1, nEmpty, nDisp, pNil, pCons, iVal, iRange1, iRange2, iEnumF, iZipF, iItemsF, kRange1, kRange2, kEnum, kZip, kItems, cellD, eMeth, startD, tgSet, tgSets, wipeD, List.map_cons, List.map_nil, List.length_cons, List.length_nil, List.replicate_succ, List.replicate_zero, List.cons_append, List.nil_append, List.append_nil, List.getElem?_cons_zero, List.getElem?_cons_succ, List.getElem?_nil, List.set_cons_zero, List.set_cons_succ, List.set_nil, Nat.reduceAdd, Nat.reduceSub, Nat.reduceEqDiff, if_true, ite_true, if_false, ite_false, Nat.zero_add, gAdd_ii, gAdd_ss, gAdd_tt, gAdd_ll, gSub_ii, gMul_ii, gMul_si, gMul_li, gDiv_ii, gMod_ii, gPow_ii, gNeg_i, gLt_ii, gLe_ii, gGt_ii, gGe_ii, gIs_n, gIsNot_n, gIs_b, gIsNot_b, gAbs_i, gMax2_ii, gMin2_ii, gLen_s, gLen_l, gLen_t, gLen_d, gLen_r, gIx_l, gIx_t, gIx_d, gIx_r, gList_d, gList_l, gList_t, gDict_d, gTuple_t, gTuple_l, atI_0, atI_1, atI_2, atI_3, keyOf, W_sub, W_must, mulOk_r, mulOk_l, size_lit, some_ex, decide_eq_true_eq, decide_true, decide_false, Bool.and_eq_true, Bool.true_and, Bool.and_true, Bool.and_self, Bool.not_true, Bool.not_false, true_and, and_true, true_implies, Bool.false_eq_true, false_implies, not_false_eq_true, not_true_eq_false, Int.reduceLT, Int.reduceLE, Int.reducePow, Int.reduceToNat, Int.reduceNeg, Int.reduceAdd, Int.reduceSub, Int.reduceMul, Nat.reduceLT, Nat.reduceLeDiff, Nat.reducePow, decide_eq_false_iff_not, Option.map_some, Option.map_none, Option.bind_some, Option.bind_none]
      rw [← hTw]
      try simp -implicitDefEqProofs only [W_bind, W_ok, W_bad, W_ex, W_noEx, W_ite, W_some, W_none, W_chk, W_map, W_obind, W_run, runK_nx, runK_rt, onBody, sNil, W_seq, seqK_nx, seqK_rt, seqK_bk, seqK_ct, sBk, sCt, sExpr, sRet, sRetN, sIf, sSet, sAsg, sPar2, sFor, sDel, eVar, eC, eBin, eUn, eT, boolOf, W_chain, thenB_ok, thenB_b, ok_bind, ofO_some, and_ok, or_ok, and_okD, or_okD, TL.tAnd, TL.tOr, TL.tNot, tTrue, eAnd, eOr, eNot, eIf, aNil, aCons, eTup, eFz, eNew, eFrz, frzD, nLst, nCall, eCall, eCallF, eSl, oNone, oSome, nComp, nCompK, nCat, catO_ll, catO_last, gAdd_last, gAppend_last, isTy_last, size_lt, mergeD_1, nEmpty, nDisp, pNil, pCons, iVal, iRange1, iRange2, iEnumF, iZipF, iItemsF, kRange1, kRange2, kEnum, kZip, kItems, cellD, eMeth, startD, tgSet, tgSets, wipeD, List.map_cons, List.map_nil, List.length_cons, List.length_nil, List.replicate_succ, List.replicate_zero, List.cons_append, List.nil_append, List.append_nil, List.getElem?_cons_zero, List.getElem?_cons_succ, List.getElem?_nil, List.set_cons_zero, List.set_cons_succ, List.set_nil, Nat.reduceAdd, Nat.reduceSub, Nat.reduceEqDiff, if_true, ite_true, if_false, ite_false, Nat.zero_add, gAdd_ii, gAdd_ss, gAdd_tt, gAdd_ll, gSub_ii, gMul_ii, gMul_si, gMul_li, gDiv_ii, gMod_ii, gPow_ii, gNeg_i, gLt_ii, gLe_ii, gGt_ii, gGe_ii, gIs_n, gIsNot_n, gIs_b, gIsNot_b, gAbs_i, gMax2_ii, gMin2_ii, gLen_s, gLen_l, gLen_t, gLen_d, gLen_r, gIx_l, gIx_t, gIx_d, gIx_r, gList_d, gList_l, gList_t, gDict_d, gTuple_t, gTuple_l, atI_0, atI_1, atI_2, atI_3, keyOf, W_sub, W_must, mulOk_r, mulOk_l, size_lit, some_ex, decide_eq_true_eq, decide_true, decide_false, Bool.and_eq_true, Bool.true_and, Bool.and_true, Bool.and_self, Bool.not_true, Bool.not_false, true_and, and_true, true_implies, Bool.false_eq_true, false_implies, not_false_eq_true, not_true_eq_false, Int.reduceLT, Int.reduceLE, Int.reducePow, Int.reduceToNat, Int.reduceNeg, Int.reduceAdd, Int.reduceSub, Int.reduceMul, Nat.reduceLT, Nat.reduceLeDiff, Nat.reducePow, decide_eq_false_iff_not, Option.map_some, Option.map_none, Option.bind_some, Option.bind_none]
      refine take_w ((d.at hf).app _) (by decide) (by decide) fun w μ2 w0 w1 d2 => ?_
      obtain ⟨ν2, rfl, e2⟩ := d2.snoc (d.at hf).lt
      try simp -implicitDefEqProofs only [W_bind, W_ok, W_bad, W_ex, W_noEx, W_ite, W_some, W_none, W_chk, W_map, W_obind, W_run, runK_nx, runK_rt, onBody, sNil, W_seq, seqK_nx, seqK_rt, seqK_bk, seqK_ct, sBk, sCt, sExpr, sRet, sRetN, sIf, sSet, sAsg, sPar2, sFor, sDel, eVar, eC, eBin, eUn, eT, boolOf, W_chain, thenB_ok, thenB_b, ok_bind, ofO_some, and_ok, or_ok, and_okD, or_okD, TL.tAnd, TL.tOr, TL.tNot, tTrue, eAnd, eOr, eNot, eIf, aNil, aCons, eTup, eFz, eNew, eFrz, frzD, nLst, nCall, eCall, eCallF, eSl, oNone, oSome, nComp, nCompK, nCat, catO_ll, catO_last, gAdd_last, gAppend_last, isTy_last, size_lt, mergeD_1, nEmpty, nDisp, pNil, pCons, iVal, iRange1, iRange2, iEnumF, iZipF, iItemsF, kRange1, kRange2, kEnum, kZip, kItems, cellD, eMeth, startD, tgSet, tgSets, wipeD, List.map_cons, List.map_nil, List.length_cons, List.length_nil, List.replicate_succ, List.replicate_zero, List.cons_append, List.nil_append, List.append_nil, List.getElem?_cons_zero, List.getElem?_cons_succ, List.getElem?_nil, List.set_cons_zero, List.set_cons_succ, List.set_nil, Nat.reduceAdd, Nat.reduceSub, Nat.reduceEqDiff, if_true, ite_true, if_false, ite_false, Nat.zero_add, gAdd_ii, gAdd_ss, gAdd_tt, gAdd_ll, gSub_ii, gMul_ii, gMul_si, gMul_li, gDiv_ii, gMod_ii, gPow_ii, gNeg_i, gLt_ii, gLe_ii, gGt_ii, gGe_ii, gIs_n, gIsNot_n, gIs_b, gIsNot_b, gAbs_i, gMax2_ii, gMin2_ii, gLen_s, gLen_l, gLen_t, gLen_d, gLen_r, gIx_l, gIx_t, gIx_d, gIx_r, gList_d, gList_l, gList_t, gDict_d, gTuple_t, gTuple_l, atI_0, atI_1, atI_2, atI_3, keyOf, W_sub, W_must, mulOk_r, mulOk_l, size_lit, some_ex, decide_eq_true_eq, decide_true, decide_false, Bool.and_eq_true, Bool.true_and, Bool.and_true, Bool.and_self, Bool.not_true, Bool.not_false, true_and, and_true, true_implies, Bool.false_eq_true, false_implies, not_false_eq_true, not_true_eq_false, Int.reduceLT, Int.reduceLE, Int.reducePow, Int.reduceToNat, Int.reduceNeg, Int.reduceAdd, Int.reduceSub, Int.reduceMul, Nat.reduceLT, Nat.reduceLeDiff, Nat.reducePow, decide_eq_false_iff_not, Option.map_some, Option.map_none, Option.bind_some, Option.bind_none]
      exact k0 xs w ν2 _ _ _ hxs (by omega) (d.trans e2)
  simp -implicitDefEqProofs only [gl, gEq_fl, W_bind, W_ok, W_bad, W_ex, W_noEx, W_ite, W_some, W_none, W_chk, W_map, W_obind, W_run, runK_nx, runK_rt, onBody, sNil, W_seq, seqK_nx, seqK_rt, seqK_bk, seqK_ct, sBk, sCt, sExpr, sRet, sRetN, sIf, sSet, sAsg, sPar2, sFor, sDel, eVar, eC, eBin, eUn, eT, boolOf, W_chain, thenB_ok, thenB_b, ok_bind, ofO_some, and_ok, or_ok, and_okD, or_okD, TL.tAnd, TL.tOr, TL.tNot, tTrue, eAnd, eOr, eNot, eIf, aNil, aCons, eTup, eFz, eNew, eFrz, frzD, nLst, nCall, eCall, eCallF, eSl, oNone, oSome, nComp, nCompK, nCat, catO_ll, catO_last, gAdd_last, gAppend_last, isTy_last, size_lt, mergeD_1, nEmpty, nDisp, pNil, pCons, iVal, iRange1, iRange2, iEnumF, iZipF, iItemsF, kRange1, kRange2, kEnum, kZip, kItems, cellD, eMeth, startD, tgSet, tgSets, wipeD, List.map_cons, List.map_nil, List.length_cons, List.length_nil, List.replicate_succ, List.replicate_zero, List.cons_append, List.nil_append, List.append_nil, List.getElem?_cons_zero, List.getElem?_cons_succ, List.getElem?_nil, List.set_cons_zero, List.set_cons_succ, List.set_nil, Nat.reduceAdd, Nat.reduceSub, Nat.reduceEqDiff, if_true, ite_true, if_false, ite_false, Nat.zero_add, gAdd_ii, gAdd_ss, gAdd_tt, gAdd_ll, gSub_ii, gMul_ii, gMul_si, gMul_li, gDiv_ii, gMod_ii, gPow_ii, gNeg_i, gLt_ii, gLe_ii, gGt_ii, gGe_ii, gIs_n, gIsNot_n, gIs_b, gIsNot_b, gAbs_i, gMax2_ii, gMin2_ii, gLen_s, gLen_l, gLen_t, gLen_d, gLen_r, gIx_l, gIx_t, gIx_d, gIx_r, gList_d, gList_l, gList_t, gDict_d, gTuple_t, gTuple_l, atI_0, atI_1, atI_2, atI_3, keyOf, W_sub, W_must, mulOk_r, mulOk_l, size_lit, some_ex, decide_eq_true_eq, decide_true, decide_false, Bool.and_eq_true, Bool.true_and, Bool.and_true, Bool.and_self, Bool.not_true, Bool.not_false, true_and, and_true, true_implies, Bool.false_eq_true, false_implies, not_false_eq_true, not_true_eq_false, Int.reduceLT, Int.reduceLE, Int.reducePow, Int.reduceToNat, Int.reduceNeg, Int.reduceAdd, Int.reduceSub, Int.reduceMul, Nat.reduceLT, Nat.reduceLeDiff, Nat.reducePow, decide_eq_false_iff_not, Option.map_some, Option.map_none, Option.bind_some, Option.bind_none]
  refine ⟨fun hn => ?_, fun hn => ?_⟩
  · rw [hs7 hn]
    exact main
  · have m := main
    rw [← hsf hn] at m
    exact m
structure LgS (g : Lg) (b : Nat) : Prop where
  n0 : g.en.length ≤ b
  n1 : g.ex.length ≤ b
  en : ∀ l ∈ g.en, LnS l
  ex : ∀ l ∈ g.ex, LnS l
  f0 : FlO g.f0
  f1 : FlO g.f1
theorem other_w {n b : Nat} {g : Lg} {μ : Mu} {P : D → Mu → Prop} (hf : FeedAt n μ) (hg : LgS g b) (hb : b ≤ 100) (h : ∀ (g2 : Lg) (μ' : Mu), LgS g2 (b + 3) → Dr n μ μ' → P g2.d μ') : W (c__law_other [.loc n, g.d] μ) P := by
  have i0 : ∀ ν, gIx ν g.d (.int 0) = some (linesD g.en) := fun ν => rfl
  have i1 : ∀ ν, gIx ν g.d (.int 1) = some (linesD g.ex) := fun ν => rfl
  have i2 : ∀ ν, gIx ν g.d (.int 2) = some (flD g.f0) := fun ν => rfl
  have i3 : ∀ ν, gIx ν g.d (.int 3) = some (flD g.f1) := fun ν => rfl
  have n0 := hg.n0
  have n1 := hg.n1
  unfold c__law_other b__law_other
  simp -implicitDefEqProofs only [i0, i1, i2, i3, W_bind, W_ok, W_bad, W_ex, W_noEx, W_ite, W_some, W_none, W_chk, W_map, W_obind, W_run, runK_nx, runK_rt, onBody, sNil, W_seq, seqK_nx, seqK_rt, seqK_bk, seqK_ct, sBk, sCt, sExpr, sRet, sRetN, sIf, sSet, sAsg, sPar2, sFor, sDel, eVar, eC, eBin, eUn, eT, boolOf, W_chain, thenB_ok, thenB_b, ok_bind, ofO_some, and_ok, or_ok, and_okD, or_okD, TL.tAnd, TL.tOr, TL.tNot, tTrue, eAnd, eOr, eNot, eIf, aNil, aCons, eTup, eFz, eNew, eFrz, frzD, nLst, nCall, eCall, eCallF, eSl, oNone, oSome, nComp, nCompK, nCat, catO_ll, catO_last, gAdd_last, gAppend_last, isTy_last, size_lt, mergeD_1, nEmpty, nDisp, pNil, pCons, iVal, iRange1, iRange2, iEnumF, iZipF, iItemsF, kRange1, kRange2, kEnum, kZip, kItems, cellD, eMeth, startD, tgSet, tgSets, wipeD, List.map_cons, List.map_nil, List.length_cons, List.length_nil, List.replicate_succ, List.replicate_zero, List.cons_append, List.nil_append, List.append_nil, List.getElem?_cons_zero, List.getElem?_cons_succ, List.getElem?_nil, List.set_cons_zero, List.set_cons_succ, List.set_nil, Nat.reduceAdd, Nat.reduceSub, Nat.reduceEqDiff, if_true, ite_true, if_false, ite_false, Nat.zero_add, gAdd_ii, gAdd_ss, gAdd_tt, gAdd_ll, gSub_ii, gMul_ii, gMul_si, gMul_li, gDiv_ii, gMod_ii, gPow_ii, gNeg_i, gLt_ii, gLe_ii, gGt_ii, gGe_ii, gIs_n, gIsNot_n, gIs_b, gIsNot_b, gAbs_i, gMax2_ii, gMin2_ii, gLen_s, gLen_l, gLen_t, gLen_d, gLen_r, gIx_l, gIx_t, gIx_d, gIx_r, gList_d, gList_l, gList_t, gDict_d, gTuple_t, gTuple_l, atI_0, atI_1, atI_2, atI_3, keyOf, W_sub, W_must, mulOk_r, mulOk_l, size_lit, some_ex, decide_eq_true_eq, decide_true, decide_false, Bool.and_eq_true, Bool.true_and, Bool.and_true, Bool.and_self, Bool.not_true, Bool.not_false, true_and, and_true, true_implies, Bool.false_eq_true, false_implies, not_false_eq_true, not_true_eq_false, Int.reduceLT, Int.reduceLE, Int.reducePow, Int.reduceToNat, Int.reduceNeg, Int.reduceAdd, Int.reduceSub, Int.reduceMul, Nat.reduceLT, Nat.reduceLeDiff, Nat.reducePow, decide_eq_false_iff_not, Option.map_some, Option.map_none, Option.bind_some, Option.bind_none]
  refine ogate_w hf hg.en (by omega) hg.f0 fun l1 f1 μ1 a1 a2 a3 d1 => ?_
  simp -implicitDefEqProofs only [i0, i1, i2, i3, W_bind, W_ok, W_bad, W_ex, W_noEx, W_ite, W_some, W_none, W_chk, W_map, W_obind, W_run, runK_nx, runK_rt, onBody, sNil, W_seq, seqK_nx, seqK_rt, seqK_bk, seqK_ct, sBk, sCt, sExpr, sRet, sRetN, sIf, sSet, sAsg, sPar2, sFor, sDel, eVar, eC, eBin, eUn, eT, boolOf, W_chain, thenB_ok, thenB_b, ok_bind, ofO_some, and_ok, or_ok, and_okD, or_okD, TL.tAnd, TL.tOr, TL.tNot, tTrue, eAnd, eOr, eNot, eIf, aNil, aCons, eTup, eFz, eNew, eFrz, frzD, nLst, nCall, eCall, eCallF, eSl, oNone, oSome, nComp, nCompK, nCat, catO_ll, catO_last, gAdd_last, gAppend_last, isTy_last, size_lt, mergeD_1, nEmpty, nDisp, pNil, pCons, iVal, iRange1, iRange2, iEnumF, iZipF, iItemsF, kRange1, kRange2, kEnum, kZip, kItems, cellD, eMeth, startD, tgSet, tgSets, wipeD, List.map_cons, List.map_nil, List.length_cons, List.length_nil, List.replicate_succ, List.replicate_zero, List.cons_append, List.nil_append, List.append_nil, List.getElem?_cons_zero, List.getElem?_cons_succ, List.getElem?_nil, List.set_cons_zero, List.set_cons_succ, List.set_nil, Nat.reduceAdd, Nat.reduceSub, Nat.reduceEqDiff, if_true, ite_true, if_false, ite_false, Nat.zero_add, gAdd_ii, gAdd_ss, gAdd_tt, gAdd_ll, gSub_ii, gMul_ii, gMul_si, gMul_li, gDiv_ii, gMod_ii, gPow_ii, gNeg_i, gLt_ii, gLe_ii, gGt_ii, gGe_ii, gIs_n, gIsNot_n, gIs_b, gIsNot_b, gAbs_i, gMax2_ii, gMin2_ii, gLen_s, gLen_l, gLen_t, gLen_d, gLen_r, gIx_l, gIx_t, gIx_d, gIx_r, gList_d, gList_l, gList_t, gDict_d, gTuple_t, gTuple_l, atI_0, atI_1, atI_2, atI_3, keyOf, W_sub, W_must, mulOk_r, mulOk_l, size_lit, some_ex, decide_eq_true_eq, decide_true, decide_false, Bool.and_eq_true, Bool.true_and, Bool.and_true, Bool.and_self, Bool.not_true, Bool.not_false, true_and, and_true, true_implies, Bool.false_eq_true, false_implies, not_false_eq_true, not_true_eq_false, Int.reduceLT, Int.reduceLE, Int.reducePow, Int.reduceToNat, Int.reduceNeg, Int.reduceAdd, Int.reduceSub, Int.reduceMul, Nat.reduceLT, Nat.reduceLeDiff, Nat.reducePow, decide_eq_false_iff_not, Option.map_some, Option.map_none, Option.bind_some, Option.bind_none]
  refine ogate_w (d1.at hf) hg.ex (by omega) hg.f1 fun l2 f2 μ2 b1 b2 b3 d2 => ?_
  try simp -implicitDefEqProofs only [W_bind, W_ok, W_bad, W_ex, W_noEx, W_ite, W_some, W_none, W_chk, W_map, W_obind, W_run, runK_nx, runK_rt, onBody, sNil, W_seq, seqK_nx, seqK_rt, seqK_bk, seqK_ct, sBk, sCt, sExpr, sRet, sRetN, sIf, sSet, sAsg, sPar2, sFor, sDel, eVar, eC, eBin, eUn, eT, boolOf, W_chain, thenB_ok, thenB_b, ok_bind, ofO_some, and_ok, or_ok, and_okD, or_okD, TL.tAnd, TL.tOr, TL.tNot, tTrue, eAnd, eOr, eNot, eIf, aNil, aCons, eTup, eFz, eNew, eFrz, frzD, nLst, nCall, eCall, eCallF, eSl, oNone, oSome, nComp, nCompK, nCat, catO_ll, catO_last, gAdd_last, gAppend_last, isTy_last, size_lt, mergeD_1, nEmpty, nDisp, pNil, pCons, iVal, iRange1, iRange2, iEnumF, iZipF, iItemsF, kRange1, kRange2, kEnum, kZip, kItems, cellD, eMeth, startD, tgSet, tgSets, wipeD, List.map_cons, List.map_nil, List.length_cons, List.length_nil, List.replicate_succ, List.replicate_zero, List.cons_append, List.nil_append, List.append_nil, List.getElem?_cons_zero, List.getElem?_cons_succ, List.getElem?_nil, List.set_cons_zero, List.set_cons_succ, List.set_nil, Nat.reduceAdd, Nat.reduceSub, Nat.reduceEqDiff, if_true, ite_true, if_false, ite_false, Nat.zero_add, gAdd_ii, gAdd_ss, gAdd_tt, gAdd_ll, gSub_ii, gMul_ii, gMul_si, gMul_li, gDiv_ii, gMod_ii, gPow_ii, gNeg_i, gLt_ii, gLe_ii, gGt_ii, gGe_ii, gIs_n, gIsNot_n, gIs_b, gIsNot_b, gAbs_i, gMax2_ii, gMin2_ii, gLen_s, gLen_l, gLen_t, gLen_d, gLen_r, gIx_l, gIx_t, gIx_d, gIx_r, gList_d, gList_l, gList_t, gDict_d, gTuple_t, gTuple_l, atI_0, atI_1, atI_2, atI_3, keyOf, W_sub, W_must, mulOk_r, mulOk_l, size_lit, some_ex, decide_eq_true_eq, decide_true, decide_false, Bool.and_eq_true, Bool.true_and, Bool.and_true, Bool.and_self, Bool.not_true, Bool.not_false, true_and, and_true, true_implies, Bool.false_eq_true, false_implies, not_false_eq_true, not_true_eq_false, Int.reduceLT, Int.reduceLE, Int.reducePow, Int.reduceToNat, Int.reduceNeg, Int.reduceAdd, Int.reduceSub, Int.reduceMul, Nat.reduceLT, Nat.reduceLeDiff, Nat.reducePow, decide_eq_false_iff_not, Option.map_some, Option.map_none, Option.bind_some, Option.bind_none]
  have d12 := d1.trans d2
  refine W_retD d12 ?_ (h ⟨l1, l2, f1, f2⟩ μ2 ⟨by show l1.length ≤ b + 3; omega, by show l2.length ≤ b + 3; omega, a1, b1, a3, b3⟩ d12)
  have q1 := okLoc_lines (ls := l1) (n := 0)
  have q2 := okLoc_lines (ls := l2) (n := 0)
  have q3 := okLoc_fl (f := f1) (n := 0)
  have q4 := okLoc_fl (f := f2) (n := 0)
  simp only [okLoc, okLocs, q1, q2, q3, q4, Bool.and_self]
/-! ### the law -/
theorem show2_w {g h : Lg} {b : Nat} (hg : LgS g b) (hh : LgS h b) (hb : b ≤ 100) : ∃ S : Str, ∀ μ, gRepr μ [.list [g.d, h.d]] = some (.str S) := by
  have w1 := wt_lines hg.en
  have w2 := wt_lines hg.ex
  have w3 := wt_lines hh.en
  have w4 := wt_lines hh.ex
  have w5 := wt_fl (f := g.f0)
  have w6 := wt_fl (f := g.f1)
  have w7 := wt_fl (f := h.f0)
  have w8 := wt_fl (f := h.f1)
  have n1 := hg.n0
  have n2 := hg.n1
  have n3 := hh.n0
  have n4 := hh.n1
  have sf : ∀ f, FlO f → ∀ n, isShow n (flD f) = true := fun f hf n => show_fl (fun i e => by have := hf i e; omega) n
  refine ⟨(toPyR (.list [g.d, h.d])).shown, fun μ => repr_l ?_ ?_⟩
  · simp only [isShow, areShow, Lg.d, show_lines hg.en 56, show_lines hg.ex 56, show_lines hh.en 56, show_lines hh.ex 56, sf _ hg.f0, sf _ hg.f1, sf _ hh.f0, sf _ hh.f1, Bool.and_true]
  · simp only [Lg.d, wt, wts]
    omega
theorem lturn_w {n : Nat} {g : Lg} {p0 p1 p3 p5 p6 p7 p8 p9 : Option D} {ν : Mu} {Q : TL.Flow → Mu → Prop} (hf : FeedAt n ν) (hg : LgS g 5)
    (h : ∀ p6 p7 p8 p9 ν', FeedAt n ν' → Q (.nx [p0, p1, some (.loc n), p3, some g.d, p5, p6, p7, p8, p9]) ν') :
    W (b_law_1 [p0, p1, some (.loc n), p3, some g.d, p5, p6, p7, p8, p9] ν) Q := by
  unfold b_law_1
  generalize hT5 : sIf (TL.tAnd (eT (eVar 8)) _) _ _ = T5
  generalize hT4 : sSeq (sSet 9 _) _ = T4
  try simp -implicitDefEqProofs only [W_bind, W_ok, W_bad, W_ex, W_noEx, W_ite, W_some, W_none, W_chk, W_map, W_obind, W_run, runK_nx, runK_rt, onBody, sNil, W_seq, seqK_nx, seqK_rt, seqK_bk, seqK_ct, sBk, sCt, sExpr, sRet, sRetN, sIf, sSet, sAsg, sPar2, sFor, sDel, eVar, eC, eBin, eUn, eT, boolOf, W_chain, thenB_ok, thenB_b, ok_bind, ofO_some, and_ok, or_ok, and_okD, or_okD, TL.tAnd, TL.tOr, TL.tNot, tTrue, eAnd, eOr, eNot, eIf, aNil, aCons, eTup, eFz, eNew, eFrz, frzD, nLst, nCall, eCall, eCallF, eSl, oNone, oSome, nComp, nCompK, nCat, catO_ll, catO_last, gAdd_last, gAppend_last, isTy_last, size_lt, mergeD_1, nEmpty, nDisp, pNil, pCons, iVal, iRange1, iRange2, iEnumF, iZipF, iItemsF, kRange1, kRange2, kEnum, kZip, kItems, cellD, eMeth, startD, tgSet, tgSets, wipeD, List.map_cons, List.map_nil, List.length_cons, List.length_nil, List.replicate_succ, List.replicate_zero, List.cons_append, List.nil_append, List.append_nil, List.getElem?_cons_zero, List.getElem?_cons_succ, List.getElem?_nil, List.set_cons_zero, List.set_cons_succ, List.set_nil, Nat.reduceAdd, Nat.reduceSub, Nat.reduceEqDiff, if_true, ite_true, if_false, ite_false, Nat.zero_add, gAdd_ii, gAdd_ss, gAdd_tt, gAdd_ll, gSub_ii, gMul_ii, gMul_si, gMul_li, gDiv_ii, gMod_ii, gPow_ii, gNeg_i, gLt_ii, gLe_ii, gGt_ii, gGe_ii, gIs_n, gIsNot_n, gIs_b, gIsNot_b, gAbs_i, gMax2_ii, gMin2_ii, gLen_s, gLen_l, gLen_t, gLen_d, gLen_r, gIx_l, gIx_t, gIx_d, gIx_r, gList_d, gList_l, gList_t, gDict_d, gTuple_t, gTuple_l, atI_0, atI_1, atI_2, atI_3, keyOf, W_sub, W_must, mulOk_r, mulOk_l, size_lit, some_ex, decide_eq_true_eq, decide_true, decide_false, Bool.and_eq_true, Bool.true_and, Bool.and_true, Bool.and_self, Bool.not_true, Bool.not_false, true_and, and_true, true_implies, Bool.false_eq_true, false_implies, not_false_eq_true, not_true_eq_false, Int.reduceLT, Int.reduceLE, Int.reducePow, Int.reduceToNat, Int.reduceNeg, Int.reduceAdd, Int.reduceSub, Int.reduceMul, Nat.reduceLT, Nat.reduceLeDiff, Nat.reducePow, decide_eq_false_iff_not, Option.map_some, Option.map_none, Option.bind_some, Option.bind_none]
  refine other_w hf hg (by decide) fun o μ1 ho d1 => ?_
  have hf1 := d1.at hf
  have hg8 : LgS g (5 + 3) := ⟨Nat.le_trans hg.n0 (by decide), Nat.le_trans hg.n1 (by decide), hg.en, hg.ex, hg.f0, hg.f1⟩
  obtain ⟨S, hS⟩ := show2_w hg8 ho (by decide)
  simp -implicitDefEqProofs only [hS, W_bind, W_ok, W_bad, W_ex, W_noEx, W_ite, W_some, W_none, W_chk, W_map, W_obind, W_run, runK_nx, runK_rt, onBody, sNil, W_seq, seqK_nx, seqK_rt, seqK_bk, seqK_ct, sBk, sCt, sExpr, sRet, sRetN, sIf, sSet, sAsg, sPar2, sFor, sDel, eVar, eC, eBin, eUn, eT, boolOf, W_chain, thenB_ok, thenB_b, ok_bind, ofO_some, and_ok, or_ok, and_okD, or_okD, TL.tAnd, TL.tOr, TL.tNot, tTrue, eAnd, eOr, eNot, eIf, aNil, aCons, eTup, eFz, eNew, eFrz, frzD, nLst, nCall, eCall, eCallF, eSl, oNone, oSome, nComp, nCompK, nCat, catO_ll, catO_last, gAdd_last, gAppend_last, isTy_last, size_lt, mergeD_1, nEmpty, nDisp, pNil, pCons, iVal, iRange1, iRange2, iEnumF, iZipF, iItemsF, kRange1, kRange2, kEnum, kZip, kItems, cellD, eMeth, startD, tgSet, tgSets, wipeD, List.map_cons, List.map_nil, List.length_cons, List.length_nil, List.replicate_succ, List.replicate_zero, List.cons_append, List.nil_append, List.append_nil, List.getElem?_cons_zero, List.getElem?_cons_succ, List.getElem?_nil, List.set_cons_zero, List.set_cons_succ, List.set_nil, Nat.reduceAdd, Nat.reduceSub, Nat.reduceEqDiff, if_true, ite_true, if_false, ite_false, Nat.zero_add, gAdd_ii, gAdd_ss, gAdd_tt, gAdd_ll, gSub_ii, gMul_ii, gMul_si, gMul_li, gDiv_ii, gMod_ii, gPow_ii, gNeg_i, gLt_ii, gLe_ii, gGt_ii, gGe_ii, gIs_n, gIsNot_n, gIs_b, gIsNot_b, gAbs_i, gMax2_ii, gMin2_ii, gLen_s, gLen_l, gLen_t, gLen_d, gLen_r, gIx_l, gIx_t, gIx_d, gIx_r, gList_d, gList_l, gList_t, gDict_d, gTuple_t, gTuple_l, atI_0, atI_1, atI_2, atI_3, keyOf, W_sub, W_must, mulOk_r, mulOk_l, size_lit, some_ex, decide_eq_true_eq, decide_true, decide_false, Bool.and_eq_true, Bool.true_and, Bool.and_true, Bool.and_self, Bool.not_true, Bool.not_false, true_and, and_true, true_implies, Bool.false_eq_true, false_implies, not_false_eq_true, not_true_eq_false, Int.reduceLT, Int.reduceLE, Int.reducePow, Int.reduceToNat, Int.reduceNeg, Int.reduceAdd, Int.reduceSub, Int.reduceMul, Nat.reduceLT, Nat.reduceLeDiff, Nat.reducePow, decide_eq_false_iff_not, Option.map_some, Option.map_none, Option.bind_some, Option.bind_none]
  refine isext_w ?_
  simp -implicitDefEqProofs only [gIsi_bool, W_bind, W_ok, W_bad, W_ex, W_noEx, W_ite, W_some, W_none, W_chk, W_map, W_obind, W_run, runK_nx, runK_rt, onBody, sNil, W_seq, seqK_nx, seqK_rt, seqK_bk, seqK_ct, sBk, sCt, sExpr, sRet, sRetN, sIf, sSet, sAsg, sPar2, sFor, sDel, eVar, eC, eBin, eUn, eT, boolOf, W_chain, thenB_ok, thenB_b, ok_bind, ofO_some, and_ok, or_ok, and_okD, or_okD, TL.tAnd, TL.tOr, TL.tNot, tTrue, eAnd, eOr, eNot, eIf, aNil, aCons, eTup, eFz, eNew, eFrz, frzD, nLst, nCall, eCall, eCallF, eSl, oNone, oSome, nComp, nCompK, nCat, catO_ll, catO_last, gAdd_last, gAppend_last, isTy_last, size_lt, mergeD_1, nEmpty, nDisp, pNil, pCons, iVal, iRange1, iRange2, iEnumF, iZipF, iItemsF, kRange1, kRange2, kEnum, kZip, kItems, cellD, eMeth, startD, tgSet, tgSets, wipeD, List.map_cons, List.map_nil, List.length_cons, List.length_nil, List.replicate_succ, List.replicate_zero, List.cons_append, List.nil_append, List.append_nil, List.getElem?_cons_zero, List.getElem?_cons_succ, List.getElem?_nil, List.set_cons_zero, List.set_cons_succ, List.set_nil, Nat.reduceAdd, Nat.reduceSub, Nat.reduceEqDiff, if_true, ite_true, if_false, ite_false, Nat.zero_add, gAdd_ii, gAdd_ss, gAdd_tt, gAdd_ll, gSub_ii, gMul_ii, gMul_si, gMul_li, gDiv_ii, gMod_ii, gPow_ii, gNeg_i, gLt_ii, gLe_ii, gGt_ii, gGe_ii, gIs_n, gIsNot_n, gIs_b, gIsNot_b, gAbs_i, gMax2_ii, gMin2_ii, gLen_s, gLen_l, gLen_t, gLen_d, gLen_r, gIx_l, gIx_t, gIx_d, gIx_r, gList_d, gList_l, gList_t, gDict_d, gTuple_t, gTuple_l, atI_0, atI_1, atI_2, atI_3, keyOf, W_sub, W_must, mulOk_r, mulOk_l, size_lit, some_ex, decide_eq_true_eq, decide_true, decide_false, Bool.and_eq_true, Bool.true_and, Bool.and_true, Bool.and_self, Bool.not_true, Bool.not_false, true_and, and_true, true_implies, Bool.false_eq_true, false_implies, not_false_eq_true, not_true_eq_false, Int.reduceLT, Int.reduceLE, Int.reducePow, Int.reduceToNat, Int.reduceNeg, Int.reduceAdd, Int.reduceSub, Int.reduceMul, Nat.reduceLT, Nat.reduceLeDiff, Nat.reducePow, decide_eq_false_iff_not, Option.map_some, Option.map_none, Option.bind_some, Option.bind_none]
  refine lawext_w ?_
  simp -implicitDefEqProofs only [gNe_bb, gNe_ss, hS, beq_self_eq_true, W_bind, W_ok, W_bad, W_ex, W_noEx, W_ite, W_some, W_none, W_chk, W_map, W_obind, W_run, runK_nx, runK_rt, onBody, sNil, W_seq, seqK_nx, seqK_rt, seqK_bk, seqK_ct, sBk, sCt, sExpr, sRet, sRetN, sIf, sSet, sAsg, sPar2, sFor, sDel, eVar, eC, eBin, eUn, eT, boolOf, W_chain, thenB_ok, thenB_b, ok_bind, ofO_some, and_ok, or_ok, and_okD, or_okD, TL.tAnd, TL.tOr, TL.tNot, tTrue, eAnd, eOr, eNot, eIf, aNil, aCons, eTup, eFz, eNew, eFrz, frzD, nLst, nCall, eCall, eCallF, eSl, oNone, oSome, nComp, nCompK, nCat, catO_ll, catO_last, gAdd_last, gAppend_last, isTy_last, size_lt, mergeD_1, nEmpty, nDisp, pNil, pCons, iVal, iRange1, iRange2, iEnumF, iZipF, iItemsF, kRange1, kRange2, kEnum, kZip, kItems, cellD, eMeth, startD, tgSet, tgSets, wipeD, List.map_cons, List.map_nil, List.length_cons, List.length_nil, List.replicate_succ, List.replicate_zero, List.cons_append, List.nil_append, List.append_nil, List.getElem?_cons_zero, List.getElem?_cons_succ, List.getElem?_nil, List.set_cons_zero, List.set_cons_succ, List.set_nil, Nat.reduceAdd, Nat.reduceSub, Nat.reduceEqDiff, if_true, ite_true, if_false, ite_false, Nat.zero_add, gAdd_ii, gAdd_ss, gAdd_tt, gAdd_ll, gSub_ii, gMul_ii, gMul_si, gMul_li, gDiv_ii, gMod_ii, gPow_ii, gNeg_i, gLt_ii, gLe_ii, gGt_ii, gGe_ii, gIs_n, gIsNot_n, gIs_b, gIsNot_b, gAbs_i, gMax2_ii, gMin2_ii, gLen_s, gLen_l, gLen_t, gLen_d, gLen_r, gIx_l, gIx_t, gIx_d, gIx_r, gList_d, gList_l, gList_t, gDict_d, gTuple_t, gTuple_l, atI_0, atI_1, atI_2, atI_3, keyOf, W_sub, W_must, mulOk_r, mulOk_l, size_lit, some_ex, decide_eq_true_eq, decide_true, decide_false, Bool.and_eq_true, Bool.true_and, Bool.and_true, Bool.and_self, Bool.not_true, Bool.not_false, true_and, and_true, true_implies, Bool.false_eq_true, false_implies, not_false_eq_true, not_true_eq_false, Int.reduceLT, Int.reduceLE, Int.reducePow, Int.reduceToNat, Int.reduceNeg, Int.reduceAdd, Int.reduceSub, Int.reduceMul, Nat.reduceLT, Nat.reduceLeDiff, Nat.reducePow, decide_eq_false_iff_not, Option.map_some, Option.map_none, Option.bind_some, Option.bind_none]
  rw [← hT4]
  try simp -implicitDefEqProofs only [W_bind, W_ok, W_bad, W_ex, W_noEx, W_ite, W_some, W_none, W_chk, W_map, W_obind, W_run, runK_nx, runK_rt, onBody, sNil, W_seq, seqK_nx, seqK_rt, seqK_bk, seqK_ct, sBk, sCt, sExpr, sRet, sRetN, sIf, sSet, sAsg, sPar2, sFor, sDel, eVar, eC, eBin, eUn, eT, boolOf, W_chain, thenB_ok, thenB_b, ok_bind, ofO_some, and_ok, or_ok, and_okD, or_okD, TL.tAnd, TL.tOr, TL.tNot, tTrue, eAnd, eOr, eNot, eIf, aNil, aCons, eTup, eFz, eNew, eFrz, frzD, nLst, nCall, eCall, eCallF, eSl, oNone, oSome, nComp, nCompK, nCat, catO_ll, catO_last, gAdd_last, gAppend_last, isTy_last, size_lt, mergeD_1, nEmpty, nDisp, pNil, pCons, iVal, iRange1, iRange2, iEnumF, iZipF, iItemsF, kRange1, kRange2, kEnum, kZip, kItems, cellD, eMeth, startD, tgSet, tgSets, wipeD, List.map_cons, List.map_nil, List.length_cons, List.length_nil, List.replicate_succ, List.replicate_zero, List.cons_append, List.nil_append, List.append_nil, List.getElem?_cons_zero, List.getElem?_cons_succ, List.getElem?_nil, List.set_cons_zero, List.set_cons_succ, List.set_nil, Nat.reduceAdd, Nat.reduceSub, Nat.reduceEqDiff, if_true, ite_true, if_false, ite_false, Nat.zero_add, gAdd_ii, gAdd_ss, gAdd_tt, gAdd_ll, gSub_ii, gMul_ii, gMul_si, gMul_li, gDiv_ii, gMod_ii, gPow_ii, gNeg_i, gLt_ii, gLe_ii, gGt_ii, gGe_ii, gIs_n, gIsNot_n, gIs_b, gIsNot_b, gAbs_i, gMax2_ii, gMin2_ii, gLen_s, gLen_l, gLen_t, gLen_d, gLen_r, gIx_l, gIx_t, gIx_d, gIx_r, gList_d, gList_l, gList_t, gDict_d, gTuple_t, gTuple_l, atI_0, atI_1, atI_2, atI_3, keyOf, W_sub, W_must, mulOk_r, mulOk_l, size_lit, some_ex, decide_eq_true_eq, decide_true, decide_false, Bool.and_eq_true, Bool.true_and, Bool.and_true, Bool.and_self, Bool.not_true, Bool.not_false, true_and, and_true, true_implies, Bool.false_eq_true, false_implies, not_false_eq_true, not_true_eq_false, Int.reduceLT, Int.reduceLE, Int.reducePow, Int.reduceToNat, Int.reduceNeg, Int.reduceAdd, Int.reduceSub, Int.reduceMul, Nat.reduceLT, Nat.reduceLeDiff, Nat.reducePow, decide_eq_false_iff_not, Option.map_some, Option.map_none, Option.bind_some, Option.bind_none]
  refine other_w hf1 ho (by decide) fun o2 μ2 ho2 d2 => ?_
  try simp -implicitDefEqProofs only [W_bind, W_ok, W_bad, W_ex, W_noEx, W_ite, W_some, W_none, W_chk, W_map, W_obind, W_run, runK_nx, runK_rt, onBody, sNil, W_seq, seqK_nx, seqK_rt, seqK_bk, seqK_ct, sBk, sCt, sExpr, sRet, sRetN, sIf, sSet, sAsg, sPar2, sFor, sDel, eVar, eC, eBin, eUn, eT, boolOf, W_chain, thenB_ok, thenB_b, ok_bind, ofO_some, and_ok, or_ok, and_okD, or_okD, TL.tAnd, TL.tOr, TL.tNot, tTrue, eAnd, eOr, eNot, eIf, aNil, aCons, eTup, eFz, eNew, eFrz, frzD, nLst, nCall, eCall, eCallF, eSl, oNone, oSome, nComp, nCompK, nCat, catO_ll, catO_last, gAdd_last, gAppend_last, isTy_last, size_lt, mergeD_1, nEmpty, nDisp, pNil, pCons, iVal, iRange1, iRange2, iEnumF, iZipF, iItemsF, kRange1, kRange2, kEnum, kZip, kItems, cellD, eMeth, startD, tgSet, tgSets, wipeD, List.map_cons, List.map_nil, List.length_cons, List.length_nil, List.replicate_succ, List.replicate_zero, List.cons_append, List.nil_append, List.append_nil, List.getElem?_cons_zero, List.getElem?_cons_succ, List.getElem?_nil, List.set_cons_zero, List.set_cons_succ, List.set_nil, Nat.reduceAdd, Nat.reduceSub, Nat.reduceEqDiff, if_true, ite_true, if_false, ite_false, Nat.zero_add, gAdd_ii, gAdd_ss, gAdd_tt, gAdd_ll, gSub_ii, gMul_ii, gMul_si, gMul_li, gDiv_ii, gMod_ii, gPow_ii, gNeg_i, gLt_ii, gLe_ii, gGt_ii, gGe_ii, gIs_n, gIsNot_n, gIs_b, gIsNot_b, gAbs_i, gMax2_ii, gMin2_ii, gLen_s, gLen_l, gLen_t, gLen_d, gLen_r, gIx_l, gIx_t, gIx_d, gIx_r, gList_d, gList_l, gList_t, gDict_d, gTuple_t, gTuple_l, atI_0, atI_1, atI_2, atI_3, keyOf, W_sub, W_must, mulOk_r, mulOk_l, size_lit, some_ex, decide_eq_true_eq, decide_true, decide_false, Bool.and_eq_true, Bool.true_and, Bool.and_true, Bool.and_self, Bool.not_true, Bool.not_false, true_and, and_true, true_implies, Bool.false_eq_true, false_implies, not_false_eq_true, not_true_eq_false, Int.reduceLT, Int.reduceLE, Int.reducePow, Int.reduceToNat, Int.reduceNeg, Int.reduceAdd, Int.reduceSub, Int.reduceMul, Nat.reduceLT, Nat.reduceLeDiff, Nat.reducePow, decide_eq_false_iff_not, Option.map_some, Option.map_none, Option.bind_some, Option.bind_none]
  refine isext_w ?_
  try simp -implicitDefEqProofs only [W_bind, W_ok, W_bad, W_ex, W_noEx, W_ite, W_some, W_none, W_chk, W_map, W_obind, W_run, runK_nx, runK_rt, onBody, sNil, W_seq, seqK_nx, seqK_rt, seqK_bk, seqK_ct, sBk, sCt, sExpr, sRet, sRetN, sIf, sSet, sAsg, sPar2, sFor, sDel, eVar, eC, eBin, eUn, eT, boolOf, W_chain, thenB_ok, thenB_b, ok_bind, ofO_some, and_ok, or_ok, and_okD, or_okD, TL.tAnd, TL.tOr, TL.tNot, tTrue, eAnd, eOr, eNot, eIf, aNil, aCons, eTup, eFz, eNew, eFrz, frzD, nLst, nCall, eCall, eCallF, eSl, oNone, oSome, nComp, nCompK, nCat, catO_ll, catO_last, gAdd_last, gAppend_last, isTy_last, size_lt, mergeD_1, nEmpty, nDisp, pNil, pCons, iVal, iRange1, iRange2, iEnumF, iZipF, iItemsF, kRange1, kRange2, kEnum, kZip, kItems, cellD, eMeth, startD, tgSet, tgSets, wipeD, List.map_cons, List.map_nil, List.length_cons, List.length_nil, List.replicate_succ, List.replicate_zero, List.cons_append, List.nil_append, List.append_nil, List.getElem?_cons_zero, List.getElem?_cons_succ, List.getElem?_nil, List.set_cons_zero, List.set_cons_succ, List.set_nil, Nat.reduceAdd, Nat.reduceSub, Nat.reduceEqDiff, if_true, ite_true, if_false, ite_false, Nat.zero_add, gAdd_ii, gAdd_ss, gAdd_tt, gAdd_ll, gSub_ii, gMul_ii, gMul_si, gMul_li, gDiv_ii, gMod_ii, gPow_ii, gNeg_i, gLt_ii, gLe_ii, gGt_ii, gGe_ii, gIs_n, gIsNot_n, gIs_b, gIsNot_b, gAbs_i, gMax2_ii, gMin2_ii, gLen_s, gLen_l, gLen_t, gLen_d, gLen_r, gIx_l, gIx_t, gIx_d, gIx_r, gList_d, gList_l, gList_t, gDict_d, gTuple_t, gTuple_l, atI_0, atI_1, atI_2, atI_3, keyOf, W_sub, W_must, mulOk_r, mulOk_l, size_lit, some_ex, decide_eq_true_eq, decide_true, decide_false, Bool.and_eq_true, Bool.true_and, Bool.and_true, Bool.and_self, Bool.not_true, Bool.not_false, true_and, and_true, true_implies, Bool.false_eq_true, false_implies, not_false_eq_true, not_true_eq_false, Int.reduceLT, Int.reduceLE, Int.reducePow, Int.reduceToNat, Int.reduceNeg, Int.reduceAdd, Int.reduceSub, Int.reduceMul, Nat.reduceLT, Nat.reduceLeDiff, Nat.reducePow, decide_eq_false_iff_not, Option.map_some, Option.map_none, Option.bind_some, Option.bind_none]
  refine lawext_w ?_
  simp -implicitDefEqProofs only [gNe_bb, beq_self_eq_true, W_bind, W_ok, W_bad, W_ex, W_noEx, W_ite, W_some, W_none, W_chk, W_map, W_obind, W_run, runK_nx, runK_rt, onBody, sNil, W_seq, seqK_nx, seqK_rt, seqK_bk, seqK_ct, sBk, sCt, sExpr, sRet, sRetN, sIf, sSet, sAsg, sPar2, sFor, sDel, eVar, eC, eBin, eUn, eT, boolOf, W_chain, thenB_ok, thenB_b, ok_bind, ofO_some, and_ok, or_ok, and_okD, or_okD, TL.tAnd, TL.tOr, TL.tNot, tTrue, eAnd, eOr, eNot, eIf, aNil, aCons, eTup, eFz, eNew, eFrz, frzD, nLst, nCall, eCall, eCallF, eSl, oNone, oSome, nComp, nCompK, nCat, catO_ll, catO_last, gAdd_last, gAppend_last, isTy_last, size_lt, mergeD_1, nEmpty, nDisp, pNil, pCons, iVal, iRange1, iRange2, iEnumF, iZipF, iItemsF, kRange1, kRange2, kEnum, kZip, kItems, cellD, eMeth, startD, tgSet, tgSets, wipeD, List.map_cons, List.map_nil, List.length_cons, List.length_nil, List.replicate_succ, List.replicate_zero, List.cons_append, List.nil_append, List.append_nil, List.getElem?_cons_zero, List.getElem?_cons_succ, List.getElem?_nil, List.set_cons_zero, List.set_cons_succ, List.set_nil, Nat.reduceAdd, Nat.reduceSub, Nat.reduceEqDiff, if_true, ite_true, if_false, ite_false, Nat.zero_add, gAdd_ii, gAdd_ss, gAdd_tt, gAdd_ll, gSub_ii, gMul_ii, gMul_si, gMul_li, gDiv_ii, gMod_ii, gPow_ii, gNeg_i, gLt_ii, gLe_ii, gGt_ii, gGe_ii, gIs_n, gIsNot_n, gIs_b, gIsNot_b, gAbs_i, gMax2_ii, gMin2_ii, gLen_s, gLen_l, gLen_t, gLen_d, gLen_r, gIx_l, gIx_t, gIx_d, gIx_r, gList_d, gList_l, gList_t, gDict_d, gTuple_t, gTuple_l, atI_0, atI_1, atI_2, atI_3, keyOf, W_sub, W_must, mulOk_r, mulOk_l, size_lit, some_ex, decide_eq_true_eq, decide_true, decide_false, Bool.and_eq_true, Bool.true_and, Bool.and_true, Bool.and_self, Bool.not_true, Bool.not_false, true_and, and_true, true_implies, Bool.false_eq_true, false_implies, not_false_eq_true, not_true_eq_false, Int.reduceLT, Int.reduceLE, Int.reducePow, Int.reduceToNat, Int.reduceNeg, Int.reduceAdd, Int.reduceSub, Int.reduceMul, Nat.reduceLT, Nat.reduceLeDiff, Nat.reducePow, decide_eq_false_iff_not, Option.map_some, Option.map_none, Option.bind_some, Option.bind_none]
  rw [← hT5]
  have go := h (some o.d) (some (.str S)) (some (.bool (isExt g o))) (some o2.d) μ2 (d2.at hf1)
  have tr := isExt_trans (a := g) (b := o) (c := o2)
  generalize isExt g o = A at go tr
  cases A
  · try simp -implicitDefEqProofs only [W_bind, W_ok, W_bad, W_ex, W_noEx, W_ite, W_some, W_none, W_chk, W_map, W_obind, W_run, runK_nx, runK_rt, onBody, sNil, W_seq, seqK_nx, seqK_rt, seqK_bk, seqK_ct, sBk, sCt, sExpr, sRet, sRetN, sIf, sSet, sAsg, sPar2, sFor, sDel, eVar, eC, eBin, eUn, eT, boolOf, W_chain, thenB_ok, thenB_b, ok_bind, ofO_some, and_ok, or_ok, and_okD, or_okD, TL.tAnd, TL.tOr, TL.tNot, tTrue, eAnd, eOr, eNot, eIf, aNil, aCons, eTup, eFz, eNew, eFrz, frzD, nLst, nCall, eCall, eCallF, eSl, oNone, oSome, nComp, nCompK, nCat, catO_ll, catO_last, gAdd_last, gAppend_last, isTy_last, size_lt, mergeD_1, nEmpty, nDisp, pNil, pCons, iVal, iRange1, iRange2, iEnumF, iZipF, iItemsF, kRange1, kRange2, kEnum, kZip, kItems, cellD, eMeth, startD, tgSet, tgSets, wipeD, List.map_cons, List.map_nil, List.length_cons, List.length_nil, List.replicate_succ, List.replicate_zero, List.cons_append, List.nil_append, List.append_nil, List.getElem?_cons_zero, List.getElem?_cons_succ, List.getElem?_nil, List.set_cons_zero, List.set_cons_succ, List.set_nil, Nat.reduceAdd, Nat.reduceSub, Nat.reduceEqDiff, if_true, ite_true, if_false, ite_false, Nat.zero_add, gAdd_ii, gAdd_ss, gAdd_tt, gAdd_ll, gSub_ii, gMul_ii, gMul_si, gMul_li, gDiv_ii, gMod_ii, gPow_ii, gNeg_i, gLt_ii, gLe_ii, gGt_ii, gGe_ii, gIs_n, gIsNot_n, gIs_b, gIsNot_b, gAbs_i, gMax2_ii, gMin2_ii, gLen_s, gLen_l, gLen_t, gLen_d, gLen_r, gIx_l, gIx_t, gIx_d, gIx_r, gList_d, gList_l, gList_t, gDict_d, gTuple_t, gTuple_l, atI_0, atI_1, atI_2, atI_3, keyOf, W_sub, W_must, mulOk_r, mulOk_l, size_lit, some_ex, decide_eq_true_eq, decide_true, decide_false, Bool.and_eq_true, Bool.true_and, Bool.and_true, Bool.and_self, Bool.not_true, Bool.not_false, true_and, and_true, true_implies, Bool.false_eq_true, false_implies, not_false_eq_true, not_true_eq_false, Int.reduceLT, Int.reduceLE, Int.reducePow, Int.reduceToNat, Int.reduceNeg, Int.reduceAdd, Int.reduceSub, Int.reduceMul, Nat.reduceLT, Nat.reduceLeDiff, Nat.reducePow, decide_eq_false_iff_not, Option.map_some, Option.map_none, Option.bind_some, Option.bind_none]
    exact go
  · try simp -implicitDefEqProofs only [W_bind, W_ok, W_bad, W_ex, W_noEx, W_ite, W_some, W_none, W_chk, W_map, W_obind, W_run, runK_nx, runK_rt, onBody, sNil, W_seq, seqK_nx, seqK_rt, seqK_bk, seqK_ct, sBk, sCt, sExpr, sRet, sRetN, sIf, sSet, sAsg, sPar2, sFor, sDel, eVar, eC, eBin, eUn, eT, boolOf, W_chain, thenB_ok, thenB_b, ok_bind, ofO_some, and_ok, or_ok, and_okD, or_okD, TL.tAnd, TL.tOr, TL.tNot, tTrue, eAnd, eOr, eNot, eIf, aNil, aCons, eTup, eFz, eNew, eFrz, frzD, nLst, nCall, eCall, eCallF, eSl, oNone, oSome, nComp, nCompK, nCat, catO_ll, catO_last, gAdd_last, gAppend_last, isTy_last, size_lt, mergeD_1, nEmpty, nDisp, pNil, pCons, iVal, iRange1, iRange2, iEnumF, iZipF, iItemsF, kRange1, kRange2, kEnum, kZip, kItems, cellD, eMeth, startD, tgSet, tgSets, wipeD, List.map_cons, List.map_nil, List.length_cons, List.length_nil, List.replicate_succ, List.replicate_zero, List.cons_append, List.nil_append, List.append_nil, List.getElem?_cons_zero, List.getElem?_cons_succ, List.getElem?_nil, List.set_cons_zero, List.set_cons_succ, List.set_nil, Nat.reduceAdd, Nat.reduceSub, Nat.reduceEqDiff, if_true, ite_true, if_false, ite_false, Nat.zero_add, gAdd_ii, gAdd_ss, gAdd_tt, gAdd_ll, gSub_ii, gMul_ii, gMul_si, gMul_li, gDiv_ii, gMod_ii, gPow_ii, gNeg_i, gLt_ii, gLe_ii, gGt_ii, gGe_ii, gIs_n, gIsNot_n, gIs_b, gIsNot_b, gAbs_i, gMax2_ii, gMin2_ii, gLen_s, gLen_l, gLen_t, gLen_d, gLen_r, gIx_l, gIx_t, gIx_d, gIx_r, gList_d, gList_l, gList_t, gDict_d, gTuple_t, gTuple_l, atI_0, atI_1, atI_2, atI_3, keyOf, W_sub, W_must, mulOk_r, mulOk_l, size_lit, some_ex, decide_eq_true_eq, decide_true, decide_false, Bool.and_eq_true, Bool.true_and, Bool.and_true, Bool.and_self, Bool.not_true, Bool.not_false, true_and, and_true, true_implies, Bool.false_eq_true, false_implies, not_false_eq_true, not_true_eq_false, Int.reduceLT, Int.reduceLE, Int.reducePow, Int.reduceToNat, Int.reduceNeg, Int.reduceAdd, Int.reduceSub, Int.reduceMul, Nat.reduceLT, Nat.reduceLeDiff, Nat.reducePow, decide_eq_false_iff_not, Option.map_some, Option.map_none, Option.bind_some, Option.bind_none]
    refine isext_w ?_
    generalize isExt o o2 = B at tr
    cases B
    · try simp -implicitDefEqProofs only [W_bind, W_ok, W_bad, W_ex, W_noEx, W_ite, W_some, W_none, W_chk, W_map, W_obind, W_run, runK_nx, runK_rt, onBody, sNil, W_seq, seqK_nx, seqK_rt, seqK_bk, seqK_ct, sBk, sCt, sExpr, sRet, sRetN, sIf, sSet, sAsg, sPar2, sFor, sDel, eVar, eC, eBin, eUn, eT, boolOf, W_chain, thenB_ok, thenB_b, ok_bind, ofO_some, and_ok, or_ok, and_okD, or_okD, TL.tAnd, TL.tOr, TL.tNot, tTrue, eAnd, eOr, eNot, eIf, aNil, aCons, eTup, eFz, eNew, eFrz, frzD, nLst, nCall, eCall, eCallF, eSl, oNone, oSome, nComp, nCompK, nCat, catO_ll, catO_last, gAdd_last, gAppend_last, isTy_last, size_lt, mergeD_1, nEmpty, nDisp, pNil, pCons, iVal, iRange1, iRange2, iEnumF, iZipF, iItemsF, kRange1, kRange2, kEnum, kZip, kItems, cellD, eMeth, startD, tgSet, tgSets, wipeD, List.map_cons, List.map_nil, List.length_cons, List.length_nil, List.replicate_succ, List.replicate_zero, List.cons_append, List.nil_append, List.append_nil, List.getElem?_cons_zero, List.getElem?_cons_succ, List.getElem?_nil, List.set_cons_zero, List.set_cons_succ, List.set_nil, Nat.reduceAdd, Nat.reduceSub, Nat.reduceEqDiff, if_true, ite_true, if_false, ite_false, Nat.zero_add, gAdd_ii, gAdd_ss, gAdd_tt, gAdd_ll, gSub_ii, gMul_ii, gMul_si, gMul_li, gDiv_ii, gMod_ii, gPow_ii, gNeg_i, gLt_ii, gLe_ii, gGt_ii, gGe_ii, gIs_n, gIsNot_n, gIs_b, gIsNot_b, gAbs_i, gMax2_ii, gMin2_ii, gLen_s, gLen_l, gLen_t, gLen_d, gLen_r, gIx_l, gIx_t, gIx_d, gIx_r, gList_d, gList_l, gList_t, gDict_d, gTuple_t, gTuple_l, atI_0, atI_1, atI_2, atI_3, keyOf, W_sub, W_must, mulOk_r, mulOk_l, size_lit, some_ex, decide_eq_true_eq, decide_true, decide_false, Bool.and_eq_true, Bool.true_and, Bool.and_true, Bool.and_self, Bool.not_true, Bool.not_false, true_and, and_true, true_implies, Bool.false_eq_true, false_implies, not_false_eq_true, not_true_eq_false, Int.reduceLT, Int.reduceLE, Int.reducePow, Int.reduceToNat, Int.reduceNeg, Int.reduceAdd, Int.reduceSub, Int.reduceMul, Nat.reduceLT, Nat.reduceLeDiff, Nat.reducePow, decide_eq_false_iff_not, Option.map_some, Option.map_none, Option.bind_some, Option.bind_none]
      exact go
    · try simp -implicitDefEqProofs only [W_bind, W_ok, W_bad, W_ex, W_noEx, W_ite, W_some, W_none, W_chk, W_map, W_obind, W_run, runK_nx, runK_rt, onBody, sNil, W_seq, seqK_nx, seqK_rt, seqK_bk, seqK_ct, sBk, sCt, sExpr, sRet, sRetN, sIf, sSet, sAsg, sPar2, sFor, sDel, eVar, eC, eBin, eUn, eT, boolOf, W_chain, thenB_ok, thenB_b, ok_bind, ofO_some, and_ok, or_ok, and_okD, or_okD, TL.tAnd, TL.tOr, TL.tNot, tTrue, eAnd, eOr, eNot, eIf, aNil, aCons, eTup, eFz, eNew, eFrz, frzD, nLst, nCall, eCall, eCallF, eSl, oNone, oSome, nComp, nCompK, nCat, catO_ll, catO_last, gAdd_last, gAppend_last, isTy_last, size_lt, mergeD_1, nEmpty, nDisp, pNil, pCons, iVal, iRange1, iRange2, iEnumF, iZipF, iItemsF, kRange1, kRange2, kEnum, kZip, kItems, cellD, eMeth, startD, tgSet, tgSets, wipeD, List.map_cons, List.map_nil, List.length_cons, List.length_nil, List.replicate_succ, List.replicate_zero, List.cons_append, List.nil_append, List.append_nil, List.getElem?_cons_zero, List.getElem?_cons_succ, List.getElem?_nil, List.set_cons_zero, List.set_cons_succ, List.set_nil, Nat.reduceAdd, Nat.reduceSub, Nat.reduceEqDiff, if_true, ite_true, if_false, ite_false, Nat.zero_add, gAdd_ii, gAdd_ss, gAdd_tt, gAdd_ll, gSub_ii, gMul_ii, gMul_si, gMul_li, gDiv_ii, gMod_ii, gPow_ii, gNeg_i, gLt_ii, gLe_ii, gGt_ii, gGe_ii, gIs_n, gIsNot_n, gIs_b, gIsNot_b, gAbs_i, gMax2_ii, gMin2_ii, gLen_s, gLen_l, gLen_t, gLen_d, gLen_r, gIx_l, gIx_t, gIx_d, gIx_r, gList_d, gList_l, gList_t, gDict_d, gTuple_t, gTuple_l, atI_0, atI_1, atI_2, atI_3, keyOf, W_sub, W_must, mulOk_r, mulOk_l, size_lit, some_ex, decide_eq_true_eq, decide_true, decide_false, Bool.and_eq_true, Bool.true_and, Bool.and_true, Bool.and_self, Bool.not_true, Bool.not_false, true_and, and_true, true_implies, Bool.false_eq_true, false_implies, not_false_eq_true, not_true_eq_false, Int.reduceLT, Int.reduceLE, Int.reducePow, Int.reduceToNat, Int.reduceNeg, Int.reduceAdd, Int.reduceSub, Int.reduceMul, Nat.reduceLT, Nat.reduceLeDiff, Nat.reducePow, decide_eq_false_iff_not, Option.map_some, Option.map_none, Option.bind_some, Option.bind_none]
      refine isext_w ?_
      rw [tr rfl rfl]
      try simp -implicitDefEqProofs only [W_bind, W_ok, W_bad, W_ex, W_noEx, W_ite, W_some, W_none, W_chk, W_map, W_obind, W_run, runK_nx, runK_rt, onBody, sNil, W_seq, seqK_nx, seqK_rt, seqK_bk, seqK_ct, sBk, sCt, sExpr, sRet, sRetN, sIf, sSet, sAsg, sPar2, sFor, sDel, eVar, eC, eBin, eUn, eT, boolOf, W_chain, thenB_ok, thenB_b, ok_bind, ofO_some, and_ok, or_ok, and_okD, or_okD, TL.tAnd, TL.tOr, TL.tNot, tTrue, eAnd, eOr, eNot, eIf, aNil, aCons, eTup, eFz, eNew, eFrz, frzD, nLst, nCall, eCall, eCallF, eSl, oNone, oSome, nComp, nCompK, nCat, catO_ll, catO_last, gAdd_last, gAppend_last, isTy_last, size_lt, mergeD_1, nEmpty, nDisp, pNil, pCons, iVal, iRange1, iRange2, iEnumF, iZipF, iItemsF, kRange1, kRange2, kEnum, kZip, kItems, cellD, eMeth, startD, tgSet, tgSets, wipeD, List.map_cons, List.map_nil, List.length_cons, List.length_nil, List.replicate_succ, List.replicate_zero, List.cons_append, List.nil_append, List.append_nil, List.getElem?_cons_zero, List.getElem?_cons_succ, List.getElem?_nil, List.set_cons_zero, List.set_cons_succ, List.set_nil, Nat.reduceAdd, Nat.reduceSub, Nat.reduceEqDiff, if_true, ite_true, if_false, ite_false, Nat.zero_add, gAdd_ii, gAdd_ss, gAdd_tt, gAdd_ll, gSub_ii, gMul_ii, gMul_si, gMul_li, gDiv_ii, gMod_ii, gPow_ii, gNeg_i, gLt_ii, gLe_ii, gGt_ii, gGe_ii, gIs_n, gIsNot_n, gIs_b, gIsNot_b, gAbs_i, gMax2_ii, gMin2_ii, gLen_s, gLen_l, gLen_t, gLen_d, gLen_r, gIx_l, gIx_t, gIx_d, gIx_r, gList_d, gList_l, gList_t, gDict_d, gTuple_t, gTuple_l, atI_0, atI_1, atI_2, atI_3, keyOf, W_sub, W_must, mulOk_r, mulOk_l, size_lit, some_ex, decide_eq_true_eq, decide_true, decide_false, Bool.and_eq_true, Bool.true_and, Bool.and_true, Bool.and_self, Bool.not_true, Bool.not_false, true_and, and_true, true_implies, Bool.false_eq_true, false_implies, not_false_eq_true, not_true_eq_false, Int.reduceLT, Int.reduceLE, Int.reducePow, Int.reduceToNat, Int.reduceNeg, Int.reduceAdd, Int.reduceSub, Int.reduceMul, Nat.reduceLT, Nat.reduceLeDiff, Nat.reducePow, decide_eq_false_iff_not, Option.map_some, Option.map_none, Option.bind_some, Option.bind_none]
      exact go
theorem law_true (ns : List Int) (hl : ns.length ≤ 63) : c_law [.script ns] [] = .ok (.bool true) [] := by
  refine W.eq ?_
  unfold c_law b_law
  try simp -implicitDefEqProofs only [W_bind, W_ok, W_bad, W_ex, W_noEx, W_ite, W_some, W_none, W_chk, W_map, W_obind, W_run, runK_nx, runK_rt, onBody, sNil, W_seq, seqK_nx, seqK_rt, seqK_bk, seqK_ct, sBk, sCt, sExpr, sRet, sRetN, sIf, sSet, sAsg, sPar2, sFor, sDel, eVar, eC, eBin, eUn, eT, boolOf, W_chain, thenB_ok, thenB_b, ok_bind, ofO_some, and_ok, or_ok, and_okD, or_okD, TL.tAnd, TL.tOr, TL.tNot, tTrue, eAnd, eOr, eNot, eIf, aNil, aCons, eTup, eFz, eNew, eFrz, frzD, nLst, nCall, eCall, eCallF, eSl, oNone, oSome, nComp, nCompK, nCat, catO_ll, catO_last, gAdd_last, gAppend_last, isTy_last, size_lt, mergeD_1, nEmpty, nDisp, pNil, pCons, iVal, iRange1, iRange2, iEnumF, iZipF, iItemsF, kRange1, kRange2, kEnum, kZip, kItems, cellD, eMeth, startD, tgSet, tgSets, wipeD, List.map_cons, List.map_nil, List.length_cons, List.length_nil, List.replicate_succ, List.replicate_zero, List.cons_append, List.nil_append, List.append_nil, List.getElem?_cons_zero, List.getElem?_cons_succ, List.getElem?_nil, List.set_cons_zero, List.set_cons_succ, List.set_nil, Nat.reduceAdd, Nat.reduceSub, Nat.reduceEqDiff, if_true, ite_true, if_false, ite_false, Nat.zero_add, gAdd_ii, gAdd_ss, gAdd_tt, gAdd_ll, gSub_ii, gMul_ii, gMul_si, gMul_li, gDiv_ii, gMod_ii, gPow_ii, gNeg_i, gLt_ii, gLe_ii, gGt_ii, gGe_ii, gIs_n, gIsNot_n, gIs_b, gIsNot_b, gAbs_i, gMax2_ii, gMin2_ii, gLen_s, gLen_l, gLen_t, gLen_d, gLen_r, gIx_l, gIx_t, gIx_d, gIx_r, gList_d, gList_l, gList_t, gDict_d, gTuple_t, gTuple_l, atI_0, atI_1, atI_2, atI_3, keyOf, W_sub, W_must, mulOk_r, mulOk_l, size_lit, some_ex, decide_eq_true_eq, decide_true, decide_false, Bool.and_eq_true, Bool.true_and, Bool.and_true, Bool.and_self, Bool.not_true, Bool.not_false, true_and, and_true, true_implies, Bool.false_eq_true, false_implies, not_false_eq_true, not_true_eq_false, Int.reduceLT, Int.reduceLE, Int.reducePow, Int.reduceToNat, Int.reduceNeg, Int.reduceAdd, Int.reduceSub, Int.reduceMul, Nat.reduceLT, Nat.reduceLeDiff, Nat.reducePow, decide_eq_false_iff_not, Option.map_some, Option.map_none, Option.bind_some, Option.bind_none]
  have r0 : isIn62 (if (if (ns.length : Int) < 4 then (ns.length : Int) else 4) > 1 then (if (ns.length : Int) < 4 then (ns.length : Int) else 4) else 1) = true := isIn62_small (by split <;> split <;> omega) (by split <;> split <;> omega)
  simp -implicitDefEqProofs only [r0, W_bind, W_ok, W_bad, W_ex, W_noEx, W_ite, W_some, W_none, W_chk, W_map, W_obind, W_run, runK_nx, runK_rt, onBody, sNil, W_seq, seqK_nx, seqK_rt, seqK_bk, seqK_ct, sBk, sCt, sExpr, sRet, sRetN, sIf, sSet, sAsg, sPar2, sFor, sDel, eVar, eC, eBin, eUn, eT, boolOf, W_chain, thenB_ok, thenB_b, ok_bind, ofO_some, and_ok, or_ok, and_okD, or_okD, TL.tAnd, TL.tOr, TL.tNot, tTrue, eAnd, eOr, eNot, eIf, aNil, aCons, eTup, eFz, eNew, eFrz, frzD, nLst, nCall, eCall, eCallF, eSl, oNone, oSome, nComp, nCompK, nCat, catO_ll, catO_last, gAdd_last, gAppend_last, isTy_last, size_lt, mergeD_1, nEmpty, nDisp, pNil, pCons, iVal, iRange1, iRange2, iEnumF, iZipF, iItemsF, kRange1, kRange2, kEnum, kZip, kItems, cellD, eMeth, startD, tgSet, tgSets, wipeD, List.map_cons, List.map_nil, List.length_cons, List.length_nil, List.replicate_succ, List.replicate_zero, List.cons_append, List.nil_append, List.append_nil, List.getElem?_cons_zero, List.getElem?_cons_succ, List.getElem?_nil, List.set_cons_zero, List.set_cons_succ, List.set_nil, Nat.reduceAdd, Nat.reduceSub, Nat.reduceEqDiff, if_true, ite_true, if_false, ite_false, Nat.zero_add, gAdd_ii, gAdd_ss, gAdd_tt, gAdd_ll, gSub_ii, gMul_ii, gMul_si, gMul_li, gDiv_ii, gMod_ii, gPow_ii, gNeg_i, gLt_ii, gLe_ii, gGt_ii, gGe_ii, gIs_n, gIsNot_n, gIs_b, gIsNot_b, gAbs_i, gMax2_ii, gMin2_ii, gLen_s, gLen_l, gLen_t, gLen_d, gLen_r, gIx_l, gIx_t, gIx_d, gIx_r, gList_d, gList_l, gList_t, gDict_d, gTuple_t, gTuple_l, atI_0, atI_1, atI_2, atI_3, keyOf, W_sub, W_must, mulOk_r, mulOk_l, size_lit, some_ex, decide_eq_true_eq, decide_true, decide_false, Bool.and_eq_true, Bool.true_and, Bool.and_true, Bool.and_self, Bool.not_true, Bool.not_false, true_and, and_true, true_implies, Bool.false_eq_true, false_implies, not_false_eq_true, not_true_eq_false, Int.reduceLT, Int.reduceLE, Int.reducePow, Int.reduceToNat, Int.reduceNeg, Int.reduceAdd, Int.reduceSub, Int.reduceMul, Nat.reduceLT, Nat.reduceLeDiff, Nat.reducePow, decide_eq_false_iff_not, Option.map_some, Option.map_none, Option.bind_some, Option.bind_none]
  rw [rng_small (by split <;> split <;> omega)]
  try simp -implicitDefEqProofs only [W_bind, W_ok, W_bad, W_ex, W_noEx, W_ite, W_some, W_none, W_chk, W_map, W_obind, W_run, runK_nx, runK_rt, onBody, sNil, W_seq, seqK_nx, seqK_rt, seqK_bk, seqK_ct, sBk, sCt, sExpr, sRet, sRetN, sIf, sSet, sAsg, sPar2, sFor, sDel, eVar, eC, eBin, eUn, eT, boolOf, W_chain, thenB_ok, thenB_b, ok_bind, ofO_some, and_ok, or_ok, and_okD, or_okD, TL.tAnd, TL.tOr, TL.tNot, tTrue, eAnd, eOr, eNot, eIf, aNil, aCons, eTup, eFz, eNew, eFrz, frzD, nLst, nCall, eCall, eCallF, eSl, oNone, oSome, nComp, nCompK, nCat, catO_ll, catO_last, gAdd_last, gAppend_last, isTy_last, size_lt, mergeD_1, nEmpty, nDisp, pNil, pCons, iVal, iRange1, iRange2, iEnumF, iZipF, iItemsF, kRange1, kRange2, kEnum, kZip, kItems, cellD, eMeth, startD, tgSet, tgSets, wipeD, List.map_cons, List.map_nil, List.length_cons, List.length_nil, List.replicate_succ, List.replicate_zero, List.cons_append, List.nil_append, List.append_nil, List.getElem?_cons_zero, List.getElem?_cons_succ, List.getElem?_nil, List.set_cons_zero, List.set_cons_succ, List.set_nil, Nat.reduceAdd, Nat.reduceSub, Nat.reduceEqDiff, if_true, ite_true, if_false, ite_false, Nat.zero_add, gAdd_ii, gAdd_ss, gAdd_tt, gAdd_ll, gSub_ii, gMul_ii, gMul_si, gMul_li, gDiv_ii, gMod_ii, gPow_ii, gNeg_i, gLt_ii, gLe_ii, gGt_ii, gGe_ii, gIs_n, gIsNot_n, gIs_b, gIsNot_b, gAbs_i, gMax2_ii, gMin2_ii, gLen_s, gLen_l, gLen_t, gLen_d, gLen_r, gIx_l, gIx_t, gIx_d, gIx_r, gList_d, gList_l, gList_t, gDict_d, gTuple_t, gTuple_l, atI_0, atI_1, atI_2, atI_3, keyOf, W_sub, W_must, mulOk_r, mulOk_l, size_lit, some_ex, decide_eq_true_eq, decide_true, decide_false, Bool.and_eq_true, Bool.true_and, Bool.and_true, Bool.and_self, Bool.not_true, Bool.not_false, true_and, and_true, true_implies, Bool.false_eq_true, false_implies, not_false_eq_true, not_true_eq_false, Int.reduceLT, Int.reduceLE, Int.reducePow, Int.reduceToNat, Int.reduceNeg, Int.reduceAdd, Int.reduceSub, Int.reduceMul, Nat.reduceLT, Nat.reduceLeDiff, Nat.reducePow, decide_eq_false_iff_not, Option.map_some, Option.map_none, Option.bind_some, Option.bind_none]
  refine Exists.elim (named (fun _ ρ _ => ∃ o1 o2 o3 o4 o5 o6 o7 o8 o9, ρ = [some (.script ns), o1, o2, o3, o4, o5, o6, o7, o8, o9])) fun I hI => ?_
  refine W_forY I _ (by rw [hI]; exact ⟨_, _, _, _, _, _, _, _, _, rfl⟩) ?_ ?_
  · intro i x ρ μ hx hi
    rw [hI] at hi
    obtain ⟨o1, o2, o3, o4, o5, o6, o7, o8, o9, rfl⟩ := hi
    obtain ⟨_, rfl⟩ := rangeD_get hx
    refine ⟨_, rfl, ?_⟩
    have nx : ∀ p1 p2 p3 p4 p5 p6 p7 p8 p9 ν, I (i + 1) [some (.script ns), p1, p2, p3, p4, p5, p6, p7, p8, p9] ν := by
      rw [hI]; intros; exact ⟨_, _, _, _, _, _, _, _, _, rfl⟩
    clear hI hx
    unfold b_law_2
    generalize hT2 : sFor _ (.nm 5) b_law_1 = T2
    try simp -implicitDefEqProofs only [W_bind, W_ok, W_bad, W_ex, W_noEx, W_ite, W_some, W_none, W_chk, W_map, W_obind, W_run, runK_nx, runK_rt, onBody, sNil, W_seq, seqK_nx, seqK_rt, seqK_bk, seqK_ct, sBk, sCt, sExpr, sRet, sRetN, sIf, sSet, sAsg, sPar2, sFor, sDel, eVar, eC, eBin, eUn, eT, boolOf, W_chain, thenB_ok, thenB_b, ok_bind, ofO_some, and_ok, or_ok, and_okD, or_okD, TL.tAnd, TL.tOr, TL.tNot, tTrue, eAnd, eOr, eNot, eIf, aNil, aCons, eTup, eFz, eNew, eFrz, frzD, nLst, nCall, eCall, eCallF, eSl, oNone, oSome, nComp, nCompK, nCat, catO_ll, catO_last, gAdd_last, gAppend_last, isTy_last, size_lt, mergeD_1, nEmpty, nDisp, pNil, pCons, iVal, iRange1, iRange2, iEnumF, iZipF, iItemsF, kRange1, kRange2, kEnum, kZip, kItems, cellD, eMeth, startD, tgSet, tgSets, wipeD, List.map_cons, List.map_nil, List.length_cons, List.length_nil, List.replicate_succ, List.replicate_zero, List.cons_append, List.nil_append, List.append_nil, List.getElem?_cons_zero, List.getElem?_cons_succ, List.getElem?_nil, List.set_cons_zero, List.set_cons_succ, List.set_nil, Nat.reduceAdd, Nat.reduceSub, Nat.reduceEqDiff, if_true, ite_true, if_false, ite_false, Nat.zero_add, gAdd_ii, gAdd_ss, gAdd_tt, gAdd_ll, gSub_ii, gMul_ii, gMul_si, gMul_li, gDiv_ii, gMod_ii, gPow_ii, gNeg_i, gLt_ii, gLe_ii, gGt_ii, gGe_ii, gIs_n, gIsNot_n, gIs_b, gIsNot_b, gAbs_i, gMax2_ii, gMin2_ii, gLen_s, gLen_l, gLen_t, gLen_d, gLen_r, gIx_l, gIx_t, gIx_d, gIx_r, gList_d, gList_l, gList_t, gDict_d, gTuple_t, gTuple_l, atI_0, atI_1, atI_2, atI_3, keyOf, W_sub, W_must, mulOk_r, mulOk_l, size_lit, some_ex, decide_eq_true_eq, decide_true, decide_false, Bool.and_eq_true, Bool.true_and, Bool.and_true, Bool.and_self, Bool.not_true, Bool.not_false, true_and, and_true, true_implies, Bool.false_eq_true, false_implies, not_false_eq_true, not_true_eq_false, Int.reduceLT, Int.reduceLE, Int.reducePow, Int.reduceToNat, Int.reduceNeg, Int.reduceAdd, Int.reduceSub, Int.reduceMul, Nat.reduceLT, Nat.reduceLeDiff, Nat.reducePow, decide_eq_false_iff_not, Option.map_some, Option.map_none, Option.bind_some, Option.bind_none]
    refine feed_w (by omega) (by omega) fun c hc => ?_
    obtain ⟨a, b, rfl⟩ := hc
    have hf : FeedAt μ.length (μ ++ [some (.list [.int a, .int b])]) := ⟨a, b, by simp⟩
    generalize μ.length = n at hf
    generalize μ ++ [some (.list [.int a, .int b])] = μ0 at hf
    try simp -implicitDefEqProofs only [W_bind, W_ok, W_bad, W_ex, W_noEx, W_ite, W_some, W_none, W_chk, W_map, W_obind, W_run, runK_nx, runK_rt, onBody, sNil, W_seq, seqK_nx, seqK_rt, seqK_bk, seqK_ct, sBk, sCt, sExpr, sRet, sRetN, sIf, sSet, sAsg, sPar2, sFor, sDel, eVar, eC, eBin, eUn, eT, boolOf, W_chain, thenB_ok, thenB_b, ok_bind, ofO_some, and_ok, or_ok, and_okD, or_okD, TL.tAnd, TL.tOr, TL.tNot, tTrue, eAnd, eOr, eNot, eIf, aNil, aCons, eTup, eFz, eNew, eFrz, frzD, nLst, nCall, eCall, eCallF, eSl, oNone, oSome, nComp, nCompK, nCat, catO_ll, catO_last, gAdd_last, gAppend_last, isTy_last, size_lt, mergeD_1, nEmpty, nDisp, pNil, pCons, iVal, iRange1, iRange2, iEnumF, iZipF, iItemsF, kRange1, kRange2, kEnum, kZip, kItems, cellD, eMeth, startD, tgSet, tgSets, wipeD, List.map_cons, List.map_nil, List.length_cons, List.length_nil, List.replicate_succ, List.replicate_zero, List.cons_append, List.nil_append, List.append_nil, List.getElem?_cons_zero, List.getElem?_cons_succ, List.getElem?_nil, List.set_cons_zero, List.set_cons_succ, List.set_nil, Nat.reduceAdd, Nat.reduceSub, Nat.reduceEqDiff, if_true, ite_true, if_false, ite_false, Nat.zero_add, gAdd_ii, gAdd_ss, gAdd_tt, gAdd_ll, gSub_ii, gMul_ii, gMul_si, gMul_li, gDiv_ii, gMod_ii, gPow_ii, gNeg_i, gLt_ii, gLe_ii, gGt_ii, gGe_ii, gIs_n, gIsNot_n, gIs_b, gIsNot_b, gAbs_i, gMax2_ii, gMin2_ii, gLen_s, gLen_l, gLen_t, gLen_d, gLen_r, gIx_l, gIx_t, gIx_d, gIx_r, gList_d, gList_l, gList_t, gDict_d, gTuple_t, gTuple_l, atI_0, atI_1, atI_2, atI_3, keyOf, W_sub, W_must, mulOk_r, mulOk_l, size_lit, some_ex, decide_eq_true_eq, decide_true, decide_false, Bool.and_eq_true, Bool.true_and, Bool.and_true, Bool.and_self, Bool.not_true, Bool.not_false, true_and, and_true, true_implies, Bool.false_eq_true, false_implies, not_false_eq_true, not_true_eq_false, Int.reduceLT, Int.reduceLE, Int.reducePow, Int.reduceToNat, Int.reduceNeg, Int.reduceAdd, Int.reduceSub, Int.reduceMul, Nat.reduceLT, Nat.reduceLeDiff, Nat.reducePow, decide_eq_false_iff_not, Option.map_some, Option.map_none, Option.bind_some, Option.bind_none]
    refine kinds_w hf fun ks μ1 hk hne d1 => ?_
    replace hf := d1.at hf
    clear d1
    try simp -implicitDefEqProofs only [W_bind, W_ok, W_bad, W_ex, W_noEx, W_ite, W_some, W_none, W_chk, W_map, W_obind, W_run, runK_nx, runK_rt, onBody, sNil, W_seq, seqK_nx, seqK_rt, seqK_bk, seqK_ct, sBk, sCt, sExpr, sRet, sRetN, sIf, sSet, sAsg, sPar2, sFor, sDel, eVar, eC, eBin, eUn, eT, boolOf, W_chain, thenB_ok, thenB_b, ok_bind, ofO_some, and_ok, or_ok, and_okD, or_okD, TL.tAnd, TL.tOr, TL.tNot, tTrue, eAnd, eOr, eNot, eIf, aNil, aCons, eTup, eFz, eNew, eFrz, frzD, nLst, nCall, eCall, eCallF, eSl, oNone, oSome, nComp, nCompK, nCat, catO_ll, catO_last, gAdd_last, gAppend_last, isTy_last, size_lt, mergeD_1, nEmpty, nDisp, pNil, pCons, iVal, iRange1, iRange2, iEnumF, iZipF, iItemsF, kRange1, kRange2, kEnum, kZip, kItems, cellD, eMeth, startD, tgSet, tgSets, wipeD, List.map_cons, List.map_nil, List.length_cons, List.length_nil, List.replicate_succ, List.replicate_zero, List.cons_append, List.nil_append, List.append_nil, List.getElem?_cons_zero, List.getElem?_cons_succ, List.getElem?_nil, List.set_cons_zero, List.set_cons_succ, List.set_nil, Nat.reduceAdd, Nat.reduceSub, Nat.reduceEqDiff, if_true, ite_true, if_false, ite_false, Nat.zero_add, gAdd_ii, gAdd_ss, gAdd_tt, gAdd_ll, gSub_ii, gMul_ii, gMul_si, gMul_li, gDiv_ii, gMod_ii, gPow_ii, gNeg_i, gLt_ii, gLe_ii, gGt_ii, gGe_ii, gIs_n, gIsNot_n, gIs_b, gIsNot_b, gAbs_i, gMax2_ii, gMin2_ii, gLen_s, gLen_l, gLen_t, gLen_d, gLen_r, gIx_l, gIx_t, gIx_d, gIx_r, gList_d, gList_l, gList_t, gDict_d, gTuple_t, gTuple_l, atI_0, atI_1, atI_2, atI_3, keyOf, W_sub, W_must, mulOk_r, mulOk_l, size_lit, some_ex, decide_eq_true_eq, decide_true, decide_false, Bool.and_eq_true, Bool.true_and, Bool.and_true, Bool.and_self, Bool.not_true, Bool.not_false, true_and, and_true, true_implies, Bool.false_eq_true, false_implies, not_false_eq_true, not_true_eq_false, Int.reduceLT, Int.reduceLE, Int.reducePow, Int.reduceToNat, Int.reduceNeg, Int.reduceAdd, Int.reduceSub, Int.reduceMul, Nat.reduceLT, Nat.reduceLeDiff, Nat.reducePow, decide_eq_false_iff_not, Option.map_some, Option.map_none, Option.bind_some, Option.bind_none]
    refine take_w hf (by decide) (by decide) fun sz μ2 z0 z1 d2 => ?_
    replace hf := d2.at hf
    clear d2
    refine log45_w hf hk hne z0 (by omega) fun g μ3 hg d3 => ?_
    replace hf := d3.at hf
    clear d3
    have hgs : LgS g 5 := ⟨hg.n0, hg.n1, hg.en, hg.ex, hg.f0, hg.f1⟩
    try simp -implicitDefEqProofs only [W_bind, W_ok, W_bad, W_ex, W_noEx, W_ite, W_some, W_none, W_chk, W_map, W_obind, W_run, runK_nx, runK_rt, onBody, sNil, W_seq, seqK_nx, seqK_rt, seqK_bk, seqK_ct, sBk, sCt, sExpr, sRet, sRetN, sIf, sSet, sAsg, sPar2, sFor, sDel, eVar, eC, eBin, eUn, eT, boolOf, W_chain, thenB_ok, thenB_b, ok_bind, ofO_some, and_ok, or_ok, and_okD, or_okD, TL.tAnd, TL.tOr, TL.tNot, tTrue, eAnd, eOr, eNot, eIf, aNil, aCons, eTup, eFz, eNew, eFrz, frzD, nLst, nCall, eCall, eCallF, eSl, oNone, oSome, nComp, nCompK, nCat, catO_ll, catO_last, gAdd_last, gAppend_last, isTy_last, size_lt, mergeD_1, nEmpty, nDisp, pNil, pCons, iVal, iRange1, iRange2, iEnumF, iZipF, iItemsF, kRange1, kRange2, kEnum, kZip, kItems, cellD, eMeth, startD, tgSet, tgSets, wipeD, List.map_cons, List.map_nil, List.length_cons, List.length_nil, List.replicate_succ, List.replicate_zero, List.cons_append, List.nil_append, List.append_nil, List.getElem?_cons_zero, List.getElem?_cons_succ, List.getElem?_nil, List.set_cons_zero, List.set_cons_succ, List.set_nil, Nat.reduceAdd, Nat.reduceSub, Nat.reduceEqDiff, if_true, ite_true, if_false, ite_false, Nat.zero_add, gAdd_ii, gAdd_ss, gAdd_tt, gAdd_ll, gSub_ii, gMul_ii, gMul_si, gMul_li, gDiv_ii, gMod_ii, gPow_ii, gNeg_i, gLt_ii, gLe_ii, gGt_ii, gGe_ii, gIs_n, gIsNot_n, gIs_b, gIsNot_b, gAbs_i, gMax2_ii, gMin2_ii, gLen_s, gLen_l, gLen_t, gLen_d, gLen_r, gIx_l, gIx_t, gIx_d, gIx_r, gList_d, gList_l, gList_t, gDict_d, gTuple_t, gTuple_l, atI_0, atI_1, atI_2, atI_3, keyOf, W_sub, W_must, mulOk_r, mulOk_l, size_lit, some_ex, decide_eq_true_eq, decide_true, decide_false, Bool.and_eq_true, Bool.true_and, Bool.and_true, Bool.and_self, Bool.not_true, Bool.not_false, true_and, and_true, true_implies, Bool.false_eq_true, false_implies, not_false_eq_true, not_true_eq_false, Int.reduceLT, Int.reduceLE, Int.reducePow, Int.reduceToNat, Int.reduceNeg, Int.reduceAdd, Int.reduceSub, Int.reduceMul, Nat.reduceLT, Nat.reduceLeDiff, Nat.reducePow, decide_eq_false_iff_not, Option.map_some, Option.map_none, Option.bind_some, Option.bind_none]
    refine isext_w ?_
    have es : isExt g g = true := by unfold isExt; rw [ext_self, ext_self]; rfl
    rw [es]
    try simp -implicitDefEqProofs only [W_bind, W_ok, W_bad, W_ex, W_noEx, W_ite, W_some, W_none, W_chk, W_map, W_obind, W_run, runK_nx, runK_rt, onBody, sNil, W_seq, seqK_nx, seqK_rt, seqK_bk, seqK_ct, sBk, sCt, sExpr, sRet, sRetN, sIf, sSet, sAsg, sPar2, sFor, sDel, eVar, eC, eBin, eUn, eT, boolOf, W_chain, thenB_ok, thenB_b, ok_bind, ofO_some, and_ok, or_ok, and_okD, or_okD, TL.tAnd, TL.tOr, TL.tNot, tTrue, eAnd, eOr, eNot, eIf, aNil, aCons, eTup, eFz, eNew, eFrz, frzD, nLst, nCall, eCall, eCallF, eSl, oNone, oSome, nComp, nCompK, nCat, catO_ll, catO_last, gAdd_last, gAppend_last, isTy_last, size_lt, mergeD_1, nEmpty, nDisp, pNil, pCons, iVal, iRange1, iRange2, iEnumF, iZipF, iItemsF, kRange1, kRange2, kEnum, kZip, kItems, cellD, eMeth, startD, tgSet, tgSets, wipeD, List.map_cons, List.map_nil, List.length_cons, List.length_nil, List.replicate_succ, List.replicate_zero, List.cons_append, List.nil_append, List.append_nil, List.getElem?_cons_zero, List.getElem?_cons_succ, List.getElem?_nil, List.set_cons_zero, List.set_cons_succ, List.set_nil, Nat.reduceAdd, Nat.reduceSub, Nat.reduceEqDiff, if_true, ite_true, if_false, ite_false, Nat.zero_add, gAdd_ii, gAdd_ss, gAdd_tt, gAdd_ll, gSub_ii, gMul_ii, gMul_si, gMul_li, gDiv_ii, gMod_ii, gPow_ii, gNeg_i, gLt_ii, gLe_ii, gGt_ii, gGe_ii, gIs_n, gIsNot_n, gIs_b, gIsNot_b, gAbs_i, gMax2_ii, gMin2_ii, gLen_s, gLen_l, gLen_t, gLen_d, gLen_r, gIx_l, gIx_t, gIx_d, gIx_r, gList_d, gList_l, gList_t, gDict_d, gTuple_t, gTuple_l, atI_0, atI_1, atI_2, atI_3, keyOf, W_sub, W_must, mulOk_r, mulOk_l, size_lit, some_ex, decide_eq_true_eq, decide_true, decide_false, Bool.and_eq_true, Bool.true_and, Bool.and_true, Bool.and_self, Bool.not_true, Bool.not_false, true_and, and_true, true_implies, Bool.false_eq_true, false_implies, not_false_eq_true, not_true_eq_false, Int.reduceLT, Int.reduceLE, Int.reducePow, Int.reduceToNat, Int.reduceNeg, Int.reduceAdd, Int.reduceSub, Int.reduceMul, Nat.reduceLT, Nat.reduceLeDiff, Nat.reducePow, decide_eq_false_iff_not, Option.map_some, Option.map_none, Option.bind_some, Option.bind_none]
    rw [← hT2]
    simp -implicitDefEqProofs only [isIn62_small (i := 10) (by decide) (by decide), rng_small (i := 0) (n := 10) (by decide), W_bind, W_ok, W_bad, W_ex, W_noEx, W_ite, W_some, W_none, W_chk, W_map, W_obind, W_run, runK_nx, runK_rt, onBody, sNil, W_seq, seqK_nx, seqK_rt, seqK_bk, seqK_ct, sBk, sCt, sExpr, sRet, sRetN, sIf, sSet, sAsg, sPar2, sFor, sDel, eVar, eC, eBin, eUn, eT, boolOf, W_chain, thenB_ok, thenB_b, ok_bind, ofO_some, and_ok, or_ok, and_okD, or_okD, TL.tAnd, TL.tOr, TL.tNot, tTrue, eAnd, eOr, eNot, eIf, aNil, aCons, eTup, eFz, eNew, eFrz, frzD, nLst, nCall, eCall, eCallF, eSl, oNone, oSome, nComp, nCompK, nCat, catO_ll, catO_last, gAdd_last, gAppend_last, isTy_last, size_lt, mergeD_1, nEmpty, nDisp, pNil, pCons, iVal, iRange1, iRange2, iEnumF, iZipF, iItemsF, kRange1, kRange2, kEnum, kZip, kItems, cellD, eMeth, startD, tgSet, tgSets, wipeD, List.map_cons, List.map_nil, List.length_cons, List.length_nil, List.replicate_succ, List.replicate_zero, List.cons_append, List.nil_append, List.append_nil, List.getElem?_cons_zero, List.getElem?_cons_succ, List.getElem?_nil, List.set_cons_zero, List.set_cons_succ, List.set_nil, Nat.reduceAdd, Nat.reduceSub, Nat.reduceEqDiff, if_true, ite_true, if_false, ite_false, Nat.zero_add, gAdd_ii, gAdd_ss, gAdd_tt, gAdd_ll, gSub_ii, gMul_ii, gMul_si, gMul_li, gDiv_ii, gMod_ii, gPow_ii, gNeg_i, gLt_ii, gLe_ii, gGt_ii, gGe_ii, gIs_n, gIsNot_n, gIs_b, gIsNot_b, gAbs_i, gMax2_ii, gMin2_ii, gLen_s, gLen_l, gLen_t, gLen_d, gLen_r, gIx_l, gIx_t, gIx_d, gIx_r, gList_d, gList_l, gList_t, gDict_d, gTuple_t, gTuple_l, atI_0, atI_1, atI_2, atI_3, keyOf, W_sub, W_must, mulOk_r, mulOk_l, size_lit, some_ex, decide_eq_true_eq, decide_true, decide_false, Bool.and_eq_true, Bool.true_and, Bool.and_true, Bool.and_self, Bool.not_true, Bool.not_false, true_and, and_true, true_implies, Bool.false_eq_true, false_implies, not_false_eq_true, not_true_eq_false, Int.reduceLT, Int.reduceLE, Int.reducePow, Int.reduceToNat, Int.reduceNeg, Int.reduceAdd, Int.reduceSub, Int.reduceMul, Nat.reduceLT, Nat.reduceLeDiff, Nat.reducePow, decide_eq_false_iff_not, Option.map_some, Option.map_none, Option.bind_some, Option.bind_none]
    refine Exists.elim (named (fun _ ρ ν => FeedAt n ν ∧ ∃ p5 p6 p7 p8 p9, ρ = [some (.script ns), some (.int (0 + (i : Int))), some (.loc n), some (kindsD ks), some g.d, p5, p6, p7, p8, p9])) fun J hJ => ?_
    refine W_forY J _ (by rw [hJ]; exact ⟨hf, _, _, _, _, _, rfl⟩) ?_ ?_
    · intro j x ρ ν hx hj
      rw [hJ] at hj
      obtain ⟨hf, p5, p6, p7, p8, p9, rfl⟩ := hj
      obtain ⟨_, rfl⟩ := rangeD_get hx
      have nj : ∀ p5 p6 p7 p8 p9 ν, FeedAt n ν → J (j + 1) [some (.script ns), some (.int (0 + (i : Int))), some (.loc n), some (kindsD ks), some g.d, p5, p6, p7, p8, p9] ν := by
        rw [hJ]; intros; exact ⟨‹_›, _, _, _, _, _, rfl⟩
      clear hJ hx
      refine ⟨_, rfl, ?_⟩
      exact lturn_w hf hgs fun p6 p7 p8 p9 ν' hf' => nj _ _ _ _ _ _ hf'
    · intro ρ ν hj
      rw [hJ] at hj
      obtain ⟨hf, p5, p6, p7, p8, p9, rfl⟩ := hj
      exact nx _ _ _ _ _ _ _ _ _ _
  · intro ρ μ hi
    try simp -implicitDefEqProofs only [W_bind, W_ok, W_bad, W_ex, W_noEx, W_ite, W_some, W_none, W_chk, W_map, W_obind, W_run, runK_nx, runK_rt, onBody, sNil, W_seq, seqK_nx, seqK_rt, seqK_bk, seqK_ct, sBk, sCt, sExpr, sRet, sRetN, sIf, sSet, sAsg, sPar2, sFor, sDel, eVar, eC, eBin, eUn, eT, boolOf, W_chain, thenB_ok, thenB_b, ok_bind, ofO_some, and_ok, or_ok, and_okD, or_okD, TL.tAnd, TL.tOr, TL.tNot, tTrue, eAnd, eOr, eNot, eIf, aNil, aCons, eTup, eFz, eNew, eFrz, frzD, nLst, nCall, eCall, eCallF, eSl, oNone, oSome, nComp, nCompK, nCat, catO_ll, catO_last, gAdd_last, gAppend_last, isTy_last, size_lt, mergeD_1, nEmpty, nDisp, pNil, pCons, iVal, iRange1, iRange2, iEnumF, iZipF, iItemsF, kRange1, kRange2, kEnum, kZip, kItems, cellD, eMeth, startD, tgSet, tgSets, wipeD, List.map_cons, List.map_nil, List.length_cons, List.length_nil, List.replicate_succ, List.replicate_zero, List.cons_append, List.nil_append, List.append_nil, List.getElem?_cons_zero, List.getElem?_cons_succ, List.getElem?_nil, List.set_cons_zero, List.set_cons_succ, List.set_nil, Nat.reduceAdd, Nat.reduceSub, Nat.reduceEqDiff, if_true, ite_true, if_false, ite_false, Nat.zero_add, gAdd_ii, gAdd_ss, gAdd_tt, gAdd_ll, gSub_ii, gMul_ii, gMul_si, gMul_li, gDiv_ii, gMod_ii, gPow_ii, gNeg_i, gLt_ii, gLe_ii, gGt_ii, gGe_ii, gIs_n, gIsNot_n, gIs_b, gIsNot_b, gAbs_i, gMax2_ii, gMin2_ii, gLen_s, gLen_l, gLen_t, gLen_d, gLen_r, gIx_l, gIx_t, gIx_d, gIx_r, gList_d, gList_l, gList_t, gDict_d, gTuple_t, gTuple_l, atI_0, atI_1, atI_2, atI_3, keyOf, W_sub, W_must, mulOk_r, mulOk_l, size_lit, some_ex, decide_eq_true_eq, decide_true, decide_false, Bool.and_eq_true, Bool.true_and, Bool.and_true, Bool.and_self, Bool.not_true, Bool.not_false, true_and, and_true, true_implies, Bool.false_eq_true, false_implies, not_false_eq_true, not_true_eq_false, Int.reduceLT, Int.reduceLE, Int.reducePow, Int.reduceToNat, Int.reduceNeg, Int.reduceAdd, Int.reduceSub, Int.reduceMul, Nat.reduceLT, Nat.reduceLeDiff, Nat.reducePow, decide_eq_false_iff_not, Option.map_some, Option.map_none, Option.bind_some, Option.bind_none]
    exact W_ret (by simp [chkMu]) rfl ⟨rfl, by simp⟩

end GP

open PySem PySem.W PyProof.Rows TL in
set_option maxRecDepth 100000 in
set_option maxHeartbeats 0 in
theorem PySem.Challenge.cw_gatepairs_k45_what_is_an_extension_holds : PySem.Challenge.rw_gatepairs_k45_what_is_an_extension.Holds := by
  w_on; o_law; k_head; (case hw => w_witness2)
  k_fill
  refine TL.walk_end (l := PySem.Challenge.rw_gatepairs_k45_what_is_an_extension) (n := 63) (k := 6) (x := "script") (F := GP.c_law) (by decide +kernel) rfl (by decide) rfl ⟨rfl, by decide, by decide⟩ (fun w h Y => PySem.W.kIn_of Y) ?F fun ns hl => GP.law_true ns hl
  case F =>
    intro w mg fa h KX G hmg
    refine' GP.all_mk KX G hmg ?a0 ?l0 ?c0 ?k0 ?a1 ?l1 ?c1 ?k1 ?a2 ?l2 ?c2 ?k2 ?a3 ?l3 ?c3 ?k3 ?a4 ?l4 ?c4 ?k4 ?a5 ?l5 ?c5 ?k5 ?a6 ?l6 ?c6 ?k6 ?a7 ?l7 ?c7 ?k7 ?a8 ?l8 ?c8 ?k8 ?a9 ?l9 ?c9 ?k9 ?a10 ?l10 ?c10 ?k10 ?a11 ?l11 ?c11 ?k11 ?a12 ?l12 ?c12 ?k12 ?a13 ?l13 ?c13 ?k13 ?z_abs ?z_all ?z_bool ?z_isinstance ?z_len ?z_list ?z_max ?z_min ?z_range ?z_repr ?z_sorted ?y_CLOSED ?r_CLOSED
    (case a0 => k_is)
    (case l0 => k_is)
    (case c0 => k_is)
    (case k0 => k_is)
    (case a1 => k_is)
    (case l1 => k_is)
    (case c1 => k_is)
    (case k1 => k_is)
    (case a2 => k_is)
    (case l2 => k_is)
    (case c2 => k_is)
    (case k2 => k_is)
    (case a3 => k_is)
    (case l3 => k_is)
    (case c3 => k_is)
    (case k3 => k_is)
    (case a4 => k_is)
    (case l4 => k_is)
    (case c4 => k_is)
    (case k4 => k_is)
    (case a5 => k_is)
    (case l5 => k_is)
    (case c5 => k_is)
    (case k5 => k_is)
    (case a6 => k_is)
    (case l6 => k_is)
    (case c6 => k_is)
    (case k6 => k_is)
    (case a7 => k_is)
    (case l7 => k_is)
    (case c7 => k_is)
    (case k7 => k_is)
    (case a8 => k_is)
    (case l8 => k_is)
    (case c8 => k_is)
    (case k8 => k_is)
    (case a9 => k_is)
    (case l9 => k_is)
    (case c9 => k_is)
    (case k9 => k_is)
    (case a10 => k_is)
    (case l10 => k_is)
    (case c10 => k_is)
    (case k10 => k_is)
    (case a11 => k_is)
    (case l11 => k_is)
    (case c11 => k_is)
    (case k11 => k_is)
    (case a12 => k_is)
    (case l12 => k_is)
    (case c12 => k_is)
    (case k12 => k_is)
    (case a13 => k_is)
    (case l13 => k_is)
    (case c13 => k_is)
    (case k13 => k_is)
    (case z_abs => k_is)
    (case z_all => k_is)
    (case z_bool => k_is)
    (case z_isinstance => k_is)
    (case z_len => k_is)
    (case z_list => k_is)
    (case z_max => k_is)
    (case z_min => k_is)
    (case z_range => k_is)
    (case z_repr => k_is)
    (case z_sorted => k_is)
    (case y_CLOSED => k_is)
    (case r_CLOSED => first | exact rfl | exact ⟨_, rfl⟩)
